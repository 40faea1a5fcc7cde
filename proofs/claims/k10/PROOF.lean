import PyProof.Rows.All
import Wide.All
import OpenK.AllK
import Wide.FinOn
import HandS.ForMost
import HandS.TupLe
import HandS.HeadHook1
import HandS.Exc
import HandS.Slots
import HandS.SlotsOwn
import HandS.Wide
import HandS.TupAny
import HandS.TupMul
import HandS.Deep
import HandS.Flow
import HandS.Style
import HandS.Conv
import HandS.IsInst
import HandS.NoneIn
import HandS.Zip
import HandS.Walk
import HandS.ExcOwn
import HandS.Defaults
import KE.KRevSl
import HandS.More
import HandS.Words
import HandS.HeadEnd
import HandS.HeadHook2
import HandS.ExcIs
import HandS.ExcField
import HandS.ExcValue
import KE.KExcIs
import KE.GoesMore
import HandS.ExcInit
import KE.KSuper
import KE.KExcSuper
import KE.KTupSum
import HandS.Sort
import KE.KDictPairs
import KE.SortData
import KE.KDictCopyH
import KE.KDictSum
import HandS.Star
import KE.GoesEnum
import KE.KStateDown
import HandS.Head0
import HandS.Head1
import HandS.Head2
import HandS.WordsExc
import PySem.Challenge.RW_anyhands_k10_stretches_of_hours
set_option Elab.async false
set_option linter.all false
set_option maxRecDepth 100000
set_option maxHeartbeats 0
/-! A layer of data over the hand layer: values as trees, a small semantics of defs in plain Lean. -/
namespace AH
open PySem L2
/-- data -/
inductive D where
  | non | bl (b : Bool) | int (i : Int) | str (s : Str) | tup (xs : List D) | lst (xs : List D)
  | dic (kvs : List (List Key × D)) | exc (c : Str) (ns : List Str) (fs : List D) | obj (c : Str)
mutual
def D.beq : D → D → Bool
  | .non, .non => true
  | .bl a, .bl b => a == b
  | .int a, .int b => a == b
  | .str a, .str b => a == b
  | .tup a, .tup b => D.beqL a b
  | .lst a, .lst b => D.beqL a b
  | _, _ => false
def D.beqL : List D → List D → Bool
  | [], [] => true
  | a :: as, b :: bs => D.beq a b && D.beqL as bs
  | _, _ => false
end
/-! Python, == of plain data -/
mutual
def D.eqv : D → D → Bool
  | .non, .non => true
  | .bl a, .bl b => a == b
  | .bl a, .int b => (if a then 1 else 0) == b
  | .int a, .bl b => a == (if b then 1 else 0)
  | .int a, .int b => a == b
  | .str a, .str b => a == b
  | .tup a, .tup b => D.eqvL a b
  | .lst a, .lst b => D.eqvL a b
  | _, _ => false
def D.eqvL : List D → List D → Bool
  | [], [] => true
  | a :: as, b :: bs => D.eqv a b && D.eqvL as bs
  | _, _ => false
end
/-! plain data of at most so many levels: none, bools, ints, texts, lists, tuples -/
mutual
def D.plain : Nat → D → Bool
  | _, .non => true
  | _, .bl _ => true
  | _, .int _ => true
  | _, .str s => PySem.PyData.strOk s
  | n + 1, .tup xs => D.plainL n xs
  | n + 1, .lst xs => D.plainL n xs
  | _, _ => false
def D.plainL : Nat → List D → Bool
  | _, [] => true
  | n, x :: xs => D.plain n x && D.plainL n xs
end
/-- a slot of a def's frame -/
inductive Sl where
  | no | val (d : D) | ro (d : D) | own (xs : List D) | bor (xs : List D) | odc (kvs : List (List Key × D)) | ldc (kvs : List (List Key × D))
abbrev Env := List Sl
def sl : Env → Nat → Sl
  | [], _ => .no
  | x :: _, 0 => x
  | _ :: r, n + 1 => sl r n
def put : Env → Nat → Sl → Env
  | [], _, _ => []
  | _ :: r, 0, y => y :: r
  | x :: r, n + 1, y => x :: put r n y
/-- what comes of running: a value and the frame; an exception of a class with its fields; nothing known -/
inductive R (α : Type) where
  | ok (a : α) (e : Env) | ex (c : Str) (fs : List D) (e : Env) | bad
abbrev M (α : Type) := Env → R α
def M.bind {α β : Type} (m : M α) (f : α → M β) : M β := fun e => match m e with
  | .ok a e1 => f a e1
  | .ex c fs e1 => .ex c fs e1
  | .bad => .bad
def M.pure {α : Type} (a : α) : M α := fun e => .ok a e
/-- a plain outcome -/
inductive Rv (α : Type) where
  | ok (a : α) | bad
def M.of {α : Type} : Rv α → M α
  | .ok a => M.pure a
  | .bad => fun _ => .bad
abbrev DE := M D
abbrev DT := M Bool
abbrev DL := M (List D)
/-- what a statement comes to -/
inductive Out where
  | nx | rt (d : D) | bk | ct
abbrev DS := M Out
/-! ### names, constants -/
def eVar (i : Nat) : DE := fun e => match sl e i with
  | .val d => .ok d e
  | _ => .bad
/-- a name whose object may be the frame's own, just looked at -/
def eTmp (i : Nat) : DE := fun e => match sl e i with
  | .val d => .ok d e
  | .ro d => .ok d e
  | .own xs => .ok (.lst xs) e
  | .bor xs => .ok (.lst xs) e
  | .odc kvs => .ok (.dic kvs) e
  | .ldc kvs => .ok (.dic kvs) e
  | .no => .bad
def eC (d : D) : DE := M.pure d
/-! ### operators -/
def e2 (f : D → D → Rv D) (a b : DE) : DE := a.bind fun x => b.bind fun y => M.of (f x y)
def e1 (f : D → Rv D) (a : DE) : DE := a.bind fun x => M.of (f x)
def mulOk (i j : Int) : Bool := decide (i.natAbs.log2 + j.natAbs.log2 < 1000000) || (decide (i.natAbs < 2 ^ 64) || decide (j.natAbs < 2 ^ 64))
def divOk (j : Int) : Bool := decide (0 < j) && decide (j.natAbs.log2 < 9000)
def powOk (i j : Int) : Bool := decide (0 ≤ j) && decide (j ≤ 1000000) && decide (i.natAbs < 2 ^ 64)
def lenOk (n : Nat) : Bool := decide (n ≤ 100000)
def dAdd : D → D → Rv D
  | .int i, .int j => .ok (.int (i + j))
  | .lst a, .lst b => if lenOk (a.length + b.length) then .ok (.lst (a ++ b)) else .bad
  | .tup a, .tup b => if lenOk (a.length + b.length) then .ok (.tup (a ++ b)) else .bad
  | .str a, .str b => if lenOk (a.length + b.length) then .ok (.str (a ++ b)) else .bad
  | _, _ => .bad
def dSub : D → D → Rv D
  | .int i, .int j => .ok (.int (i - j))
  | _, _ => .bad
def rep {α : Type} (xs : List α) (k : Int) : List α := (List.replicate k.toNat xs).flatten
def dMul : D → D → Rv D
  | .int i, .int j => if mulOk i j then .ok (.int (i * j)) else .bad
  | .lst a, .int k => if lenOk k.natAbs && lenOk (a.length * k.toNat) then .ok (.lst (rep a k)) else .bad
  | .tup a, .int k => if (decide (1 ≤ k) && decide (k ≤ 1000)) && (decide (0 < a.length) && decide (a.length ≤ 1000)) then .ok (.tup (rep a k)) else .bad
  | _, _ => .bad
def dDiv : D → D → Rv D
  | .int i, .int j => if divOk j then .ok (.int (i / j)) else .bad
  | _, _ => .bad
def dMod : D → D → Rv D
  | .int i, .int j => if decide (0 < j) then .ok (.int (i % j)) else .bad
  | _, _ => .bad
def dPow : D → D → Rv D
  | .int i, .int j => if powOk i j then .ok (.int (i ^ j.toNat)) else .bad
  | _, _ => .bad
def dNeg : D → Rv D
  | .int i => .ok (.int (-i))
  | _ => .bad
/-! ### comparisons -/
def dEq (x y : D) : Rv Bool := if x.plain 40 && y.plain 40 then .ok (x.eqv y) else .bad
def dNe (x y : D) : Rv Bool := if x.plain 40 && y.plain 40 then .ok (!x.eqv y) else .bad
/-- tuples of ints -/
def intsL : List D → Option (List Int)
  | [] => some []
  | .int i :: r => (intsL r).map (i :: ·)
  | _ :: _ => none
def dLt : D → D → Rv Bool
  | .int i, .int j => .ok (decide (i < j))
  | .tup a, .tup b => (match intsL a, intsL b with
    | some ns, some ms => .ok (HT.lexLt ns ms)
    | _, _ => .bad)
  | _, _ => .bad
def dLe : D → D → Rv Bool
  | .int i, .int j => .ok (decide (i ≤ j))
  | .tup a, .tup b => (match intsL a, intsL b with
    | some ns, some ms => .ok (L2.lexLeI ns ms)
    | _, _ => .bad)
  | _, _ => .bad
def dGt : D → D → Rv Bool
  | .int i, .int j => .ok (decide (j < i))
  | _, _ => .bad
def dGe : D → D → Rv Bool
  | .int i, .int j => .ok (decide (j ≤ i))
  | _, _ => .bad
def dIsN (x : D) : Bool := match x with
  | .non => true
  | _ => false
def keyI : D → Option Key
  | .int i => some (.inl i)
  | .str s => some (.inr s)
  | _ => none
def keysL : List D → Option (List Key)
  | [] => some []
  | x :: r => (match keyI x, keysL r with
    | some k, some ks => some (k :: ks)
    | _, _ => none)
def keyD : D → Option (List Key)
  | .tup xs => keysL xs
  | _ => none
def dget (kvs : List (List Key × D)) (k : List Key) : Option D := (kvs.find? fun p => decide (p.1 = k)).map (·.2)
def dput (kvs : List (List Key × D)) (k : List Key) (v : D) : List (List Key × D) :=
  if (kvs.any fun p => decide (p.1 = k)) then kvs.map fun p => if p.1 = k then (p.1, v) else p else kvs ++ [(k, v)]
def dIn (x : D) : D → Rv Bool
  | .lst ys => if x.plain 40 && D.plainL 39 ys then .ok (ys.any fun y => y.eqv x) else .bad
  | .tup ys => if x.plain 40 && D.plainL 39 ys then .ok (ys.any fun y => y.eqv x) else .bad
  | .dic kvs => (match keyD x with
    | some k => .ok (dget kvs k).isSome
    | none => .bad)
  | _ => .bad
def c2 (f : D → D → Rv Bool) (a b : DE) : DT := a.bind fun x => b.bind fun y => M.of (f x y)
def eB (t : DT) : DE := t.bind fun b => M.pure (.bl b)
/-- a value that is a bool, as a test -/
def tV (a : DE) : DT := a.bind fun x => match x with
  | .bl b => M.pure b
  | _ => fun _ => .bad
def tNot (a : DT) : DT := a.bind fun b => M.pure (!b)
def tAnd (a b : DT) : DT := a.bind fun x => if x then b else M.pure false
def tOr (a b : DT) : DT := a.bind fun x => if x then M.pure true else b
def tIsN (a : DE) : DT := a.bind fun x => M.pure (dIsN x)
def tNotN (a : DE) : DT := a.bind fun x => M.pure (!dIsN x)
/-- a < b < c: the middle once -/
def c3 (f g : D → D → Rv Bool) (a b c : DE) : DT := a.bind fun x => b.bind fun y => (M.of (f x y)).bind fun k => if k then c.bind fun z => M.of (g y z) else M.pure false
def c4 (f g h : D → D → Rv Bool) (a b c d : DE) : DT := a.bind fun x => b.bind fun y => (M.of (f x y)).bind fun k => if k then c.bind fun z => (M.of (g y z)).bind fun l => if l then d.bind fun u => M.of (h z u) else M.pure false else M.pure false
def eIf (t : DT) (a b : DE) : DE := t.bind fun k => if k then a else b
/-- and, or of bools as values -/
def eAnd (a b : DE) : DE := (tV a).bind fun k => if k then b else M.pure (.bl false)
def eOr (a b : DE) : DE := (tV a).bind fun k => if k then M.pure (.bl true) else b
def eNot (a : DE) : DE := (tV a).bind fun k => M.pure (.bl (!k))
def truth : D → Rv Bool
  | .bl b => .ok b
  | .non => .ok false
  | .int i => .ok (i != 0)
  | .lst xs => .ok (!xs.isEmpty)
  | .tup xs => .ok (!xs.isEmpty)
  | _ => .bad
/-- x or y by truth -/
def eOrT (a b : DE) : DE := a.bind fun x => (M.of (truth x)).bind fun k => if k then M.pure x else b
/-- the left one a name whose object is looked at behind the right one -/
def e2L (f : D → D → Rv D) (i : Nat) (b : DE) : DE := (eTmp i).bind fun _ => b.bind fun y => (eTmp i).bind fun x => M.of (f x y)
def c2L (f : D → D → Rv Bool) (i : Nat) (b : DE) : DT := (eTmp i).bind fun _ => b.bind fun y => (eTmp i).bind fun x => M.of (f x y)
/-! ### displays, items, slices -/
def aNil : DL := M.pure []
def aCons (a : DE) (r : DL) : DL := a.bind fun x => r.bind fun xs => M.pure (x :: xs)
def eTup (a : DL) : DE := a.bind fun xs => if lenOk xs.length then M.pure (.tup xs) else fun _ => .bad
def eLst (a : DL) : DE := a.bind fun xs => if lenOk xs.length then M.pure (.lst xs) else fun _ => .bad
def dIx : D → D → Rv D
  | .lst xs, .int i => (match atI xs i with
    | some v => .ok v
    | none => .bad)
  | .tup xs, .int i => (match atI xs i with
    | some v => .ok v
    | none => .bad)
  | .dic kvs, k => (match keyD k with
    | some k => (match dget kvs k with
      | some v => .ok v
      | none => .bad)
    | none => .bad)
  | _, _ => .bad
def cut {α : Type} (xs : List α) (lo hi : Option Int) : List α := (xs.drop (HT.sIx xs.length 0 lo)).take (HT.sIx xs.length xs.length hi - HT.sIx xs.length 0 lo)
def dSl (x : D) (lo hi : Option Int) : Rv D := match x with
  | .lst xs => .ok (.lst (cut xs lo hi))
  | .tup xs => .ok (.tup (cut xs lo hi))
  | _ => .bad
abbrev DO := M (Option Int)
def oNone : DO := M.pure none
def oSome (a : DE) : DO := a.bind fun x => match x with
  | .int i => M.pure (some i)
  | _ => fun _ => .bad
def eSl (a : DE) (lo hi : DO) : DE := a.bind fun x => lo.bind fun l => hi.bind fun h => M.of (dSl x l h)
def eSlL (i : Nat) (lo hi : DO) : DE := (eTmp i).bind fun _ => lo.bind fun l => hi.bind fun h => (eTmp i).bind fun x => M.of (dSl x l h)
/-! ### built-in functions of one value, of two -/
def dLen : D → Rv D
  | .lst xs => .ok (.int xs.length)
  | .tup xs => .ok (.int xs.length)
  | _ => .bad
def dAbs : D → Rv D
  | .int i => .ok (.int (if i < 0 then -i else i))
  | _ => .bad
def dInt : D → Rv D
  | .int i => .ok (.int i)
  | .bl b => .ok (.int (if b then 1 else 0))
  | _ => .bad
def dMax2 : D → D → Rv D
  | .int i, .int j => .ok (.int (if j > i then j else i))
  | _, _ => .bad
def dMin2 : D → D → Rv D
  | .int i, .int j => .ok (.int (if j < i then j else i))
  | _, _ => .bad
def dSum : D → Rv D
  | .lst xs => (match intsL xs with
    | some ns => .ok (.int ns.sum)
    | none => .bad)
  | _ => .bad
def bools : List D → Option (List Bool)
  | [] => some []
  | .bl i :: r => (bools r).map (i :: ·)
  | _ :: _ => none
def dAll : D → Rv D
  | .lst xs => (match bools xs with
    | some bs => .ok (.bl (bs.all id))
    | none => .bad)
  | _ => .bad
def dAny : D → Rv D
  | .lst xs => (match bools xs with
    | some bs => .ok (.bl (bs.any id))
    | none => .bad)
  | _ => .bad
def leastOf : List Int → Int
  | [] => 0
  | [x] => x
  | x :: y :: r => if leastOf (y :: r) < x then leastOf (y :: r) else x
def greatestOf : List Int → Int
  | [] => 0
  | [x] => x
  | x :: y :: r => if greatestOf (y :: r) > x then greatestOf (y :: r) else x
def dMinL : D → Rv D
  | .lst xs => (match intsL xs with
    | some (n :: ns) => .ok (.int (leastOf (n :: ns)))
    | _ => .bad)
  | _ => .bad
def dMaxL : D → Rv D
  | .lst xs => (match intsL xs with
    | some (n :: ns) => .ok (.int (greatestOf (n :: ns)))
    | _ => .bad)
  | _ => .bad
def dTuple : D → Rv D
  | .lst xs => .ok (.tup xs)
  | .tup xs => .ok (.tup xs)
  | _ => .bad
def dList : D → Rv D
  | .lst xs => .ok (.lst xs)
  | .tup xs => .ok (.lst xs)
  | _ => .bad
/-! ### what is walked -/
abbrev DI := M (List D)
def rng (a b : Int) : List D := (List.range (b - a).toNat).map fun i => D.int (a + (i : Nat))
def rngOk (a b : Int) : Bool := decide (-(2 ^ 62) ≤ a) && decide (a < 2 ^ 62) && decide (-(2 ^ 62) ≤ b) && decide (b < 2 ^ 62)
def iSeq (a : DE) : DI := a.bind fun x => match x with
  | .lst xs => M.pure xs
  | .tup xs => M.pure xs
  | _ => fun _ => .bad
def iRng1 (a : DE) : DI := a.bind fun x => match x with
  | .int j => if rngOk 0 j then M.pure (rng 0 j) else fun _ => .bad
  | _ => fun _ => .bad
def iRng2 (a b : DE) : DI := a.bind fun x => b.bind fun y => match x, y with
  | .int i, .int j => if rngOk i j then M.pure (rng i j) else fun _ => .bad
  | _, _ => fun _ => .bad
def iEnum (a : DE) : DI := a.bind fun x => match x with
  | .lst xs => M.pure (xs.zipIdx.map fun p => .tup [.int (p.2 : Int), p.1])
  | .tup xs => M.pure (xs.zipIdx.map fun p => .tup [.int (p.2 : Int), p.1])
  | _ => fun _ => .bad
def pairs (xs ys : List D) : List D := (xs.zip ys).map fun p => .tup [p.1, p.2]
def iZip (a b : DE) : DI := a.bind fun x => b.bind fun y => match x, y with
  | .lst xs, .lst ys => M.pure (pairs xs ys)
  | .tup xs, .tup ys => M.pure (pairs xs ys)
  | _, _ => fun _ => .bad
/-! ### targets -/
abbrev DG := D → M Unit
def isOwn : Sl → Bool
  | .own _ => true
  | .bor _ => true
  | .odc _ => true
  | .ldc _ => true
  | _ => false
def gN (i : Nat) : DG := fun d e => if isOwn (sl e i) then .bad else .ok () (put e i (.val d))
abbrev DGs := List D → M Unit
def gsNil : DGs := fun xs => match xs with
  | [] => M.pure ()
  | _ => fun _ => .bad
def gsCons (g : DG) (r : DGs) : DGs := fun xs => match xs with
  | x :: xs => (g x).bind fun _ => r xs
  | [] => fun _ => .bad
def gT (r : DGs) : DG := fun d => match d with
  | .tup xs => r xs
  | .lst xs => r xs
  | _ => fun _ => .bad
/-! ### statements -/
def sNil : DS := M.pure .nx
def sSeq (a b : DS) : DS := a.bind fun o => match o with
  | .nx => b
  | o => M.pure o
def sAsg (a : DE) (g : DG) : DS := a.bind fun x => (g x).bind fun _ => M.pure .nx
def isFix : Sl → Bool
  | .bor _ => true
  | .ldc _ => true
  | _ => false
/-- a new list kept as the frame's own -/
def sOwn (i : Nat) (a : DE) : DS := a.bind fun x => match x with
  | .lst xs => fun e => if isFix (sl e i) || !decide (i < e.length) then .bad else .ok .nx (put e i (.own xs))
  | _ => fun _ => .bad
def sOwnD (i : Nat) (a : DE) : DS := a.bind fun x => match x with
  | .dic kvs => fun e => if isFix (sl e i) || !decide (i < e.length) then .bad else .ok .nx (put e i (.odc kvs))
  | _ => fun _ => .bad
/-- the frame's own list is let go: a value from now on -/
def sRelL (i : Nat) : DS := fun e => match sl e i with
  | .own xs => .ok .nx (put e i (.val (.lst xs)))
  | _ => .bad
def sRelD (i : Nat) : DS := fun e => match sl e i with
  | .odc kvs => .ok .nx (put e i (.val (.dic kvs)))
  | _ => .bad
def sIf (t : DT) (a b : DS) : DS := t.bind fun k => if k then a else b
def sRet (a : DE) : DS := a.bind fun x => M.pure (.rt x)
def sRetN : DS := M.pure (.rt .non)
def sExpr (a : DE) : DS := a.bind fun _ => M.pure .nx
def sBad : DS := fun _ => .bad
/-- the slot holds a list of the frame's own (lent or not), its items -/
def ownL (i : Nat) : M (List D) := fun e => match sl e i with
  | .own xs => .ok xs e
  | .bor xs => .ok xs e
  | _ => .bad
def putL (e : Env) (i : Nat) (ys : List D) : Env := put e i (match sl e i with
  | .own _ => .own ys
  | .bor _ => .bor ys
  | s => s)
def sApp (i : Nat) (a : DE) : DS := (ownL i).bind fun _ => a.bind fun x => (ownL i).bind fun xs => fun e =>
  if lenOk (xs.length + 1) then .ok .nx (putL e i (xs ++ [x])) else .bad
def sExt (i : Nat) (a : DE) : DS := (ownL i).bind fun _ => a.bind fun x => (ownL i).bind fun xs => match x with
  | .lst ys => fun e => if lenOk (xs.length + ys.length) then .ok .nx (putL e i (xs ++ ys)) else .bad
  | _ => fun _ => .bad
/-- xs[j] = v: the value first -/
def sSetL (i : Nat) (j : DE) (a : DE) : DS := a.bind fun x => (ownL i).bind fun _ => j.bind fun k => (ownL i).bind fun xs => match k with
  | .int k => (match ixN xs.length k with
    | some n => fun e => .ok .nx (putL e i (xs.set n x))
    | none => fun _ => .bad)
  | _ => fun _ => .bad
def ownD (i : Nat) : M (List (List Key × D)) := fun e => match sl e i with
  | .odc kvs => .ok kvs e
  | _ => .bad
def sSetD (i : Nat) (j : DE) (a : DE) : DS := a.bind fun x => (ownD i).bind fun _ => j.bind fun k => (ownD i).bind fun kvs => match keyD k with
  | some k => fun e => if lenOk (kvs.length + 1) then .ok .nx (put e i (.odc (dput kvs k x))) else .bad
  | none => fun _ => .bad
/-- x op= e -/
def sAug (f : D → D → Rv D) (i : Nat) (a : DE) : DS := (eVar i).bind fun x => a.bind fun y => (M.of (f x y)).bind fun z => fun e => if isFix (sl e i) then .bad else .ok .nx (put e i (.val z))
/-- xs[j] op= e -/
def sAugL (f : D → D → Rv D) (i : Nat) (j a : DE) : DS := (ownL i).bind fun _ => j.bind fun k => (ownL i).bind fun xs => (M.of (dIx (.lst xs) k)).bind fun x => a.bind fun y => (M.of (f x y)).bind fun z => (ownL i).bind fun xs => match k with
  | .int k => (match ixN xs.length k with
    | some n => fun e => .ok .nx (putL e i (xs.set n z))
    | none => fun _ => .bad)
  | _ => fun _ => .bad
/-- a loop's turns -/
def loop (g : DG) (b : DS) : List D → DS
  | [] => M.pure .nx
  | x :: xs => (g x).bind fun _ => b.bind fun o => match o with
    | .nx => loop g b xs
    | .ct => loop g b xs
    | .bk => M.pure .nx
    | .rt d => M.pure (.rt d)
def sFor (it : DI) (g : DG) (b : DS) : DS := it.bind fun xs => loop g b xs
def sBrk : DS := M.pure .bk
def sCnt : DS := M.pure .ct
/-! ### comprehensions -/
def wipeE (e : Env) : List Nat → Env
  | [] => e
  | v :: vs => put (wipeE e vs) v .no
/-- the slots vs as they were -/
def back (e0 e : Env) : List Nat → Env
  | [] => e
  | v :: vs => put (back e0 e vs) v (sl e0 v)
def noX {α : Type} (m : M α) : M α := fun e => match m e with
  | .ex _ _ _ => .bad
  | r => r
def compL (vs : List Nat) (e0 : Env) (g : DG) (t : DT) (a : DE) : List D → M (List D)
  | [] => M.pure []
  | x :: xs => fun e => ((g x).bind fun _ => t.bind fun k =>
      (if k then a.bind fun y => M.pure [y] else M.pure []).bind fun ys =>
      fun e1 => ((compL vs e0 g t a xs).bind fun zs => M.pure (ys ++ zs)) (wipeE e1 vs)) e
def eLc (vs : List Nat) (it : DI) (g : DG) (t : DT) (a : DE) : DE := it.bind fun xs => fun e =>
  if (vs.any fun v => isOwn (sl e v)) || !lenOk xs.length then .bad else
  match noX (compL vs e g t a xs) (wipeE e vs) with
  | .ok ys e1 => .ok (.lst ys) (back e e1 vs)
  | _ => .bad
def tYes : DT := M.pure true
/-! ### defs -/
inductive Md where
  | val | ro | bor
  deriving DecidableEq
/-- an argument: an expression; a name's own object that is lent (to be changed); .. that is looked at -/
inductive Arg where
  | e (a : DE) | lend (i : Nat) | look (i : Nat) | new (a : DE)
/-- a def: from the arguments' data to its answer and the lent lists' new items -/
inductive Rf where
  | ok (d : D) (bs : List (List D)) | ex (c : Str) (fs : List D) (bs : List (List D)) | bad
abbrev DF := List D → Rf
def startE : List Md → List D → Env
  | .val :: ms, d :: ds => .val d :: startE ms ds
  | .ro :: ms, d :: ds => .ro d :: startE ms ds
  | .bor :: ms, .lst xs :: ds => .bor xs :: startE ms ds
  | _, _ => []
def lentOf : List Md → Env → Option (List (List D))
  | .bor :: ms, .bor xs :: e => (lentOf ms e).map (xs :: ·)
  | .bor :: _, _ => none
  | _ :: ms, _ :: e => lentOf ms e
  | _ :: _, [] => none
  | [], _ => some []
def lstsOk : List Md → List D → Bool
  | .bor :: ms, .lst _ :: ds => lstsOk ms ds
  | .bor :: _, _ => false
  | _ :: ms, _ :: ds => lstsOk ms ds
  | [], [] => true
  | _, _ => false
/-- a def of n slots, its parameters' ways, its body -/
def mkF (n : Nat) (ms : List Md) (b : DS) : DF := fun ds =>
  if !lstsOk ms ds then .bad else
  match b (startE ms ds ++ List.replicate (n - ms.length) .no) with
  | .ok (.rt d) e => (match lentOf ms e with
    | some bs => .ok d bs
    | none => .bad)
  | .ok .nx e => (match lentOf ms e with
    | some bs => .ok .non bs
    | none => .bad)
  | .ok _ _ => .bad
  | .ex c fs e => (match lentOf ms e with
    | some bs => .ex c fs bs
    | none => .bad)
  | .bad => .bad
/-- the arguments from the left; a lent name is read behind all of them -/
def argsV : List Arg → M (List (D ⊕ Nat))
  | [] => M.pure []
  | .e a :: r => a.bind fun x => (argsV r).bind fun xs => M.pure (.inl x :: xs)
  | .lend i :: r => (eTmp i).bind fun _ => (argsV r).bind fun xs => M.pure (.inr i :: xs)
  | .look i :: r => (eTmp i).bind fun _ => (argsV r).bind fun xs => M.pure (.inr i :: xs)
  | .new a :: r => a.bind fun x => (argsV r).bind fun xs => M.pure (.inl x :: xs)
def slD : Sl → Option D
  | .own xs => some (.lst xs)
  | .bor xs => some (.lst xs)
  | .odc kvs => some (.dic kvs)
  | .ldc kvs => some (.dic kvs)
  | .ro d => some d
  | .val d => some d
  | .no => none
def argD (e : Env) : D ⊕ Nat → Option D
  | .inl d => some d
  | .inr i => slD (sl e i)
def argsD (e : Env) : List (D ⊕ Nat) → Option (List D)
  | [] => some []
  | x :: r => (match argD e x, argsD e r with
    | some d, some ds => some (d :: ds)
    | _, _ => none)
def lends : List Arg → List Nat
  | [] => []
  | .lend i :: r => i :: lends r
  | _ :: r => lends r
def looks : List Arg → List Nat
  | [] => []
  | .look i :: r => i :: looks r
  | _ :: r => looks r
/-- no object twice -/
def argsOk (as : List Arg) : Bool := decide (lends as).Nodup && (looks as).all fun i => !(lends as).contains i
def isL : Sl → Bool
  | .own _ => true
  | .bor _ => true
  | _ => false
def giveBack : List Arg → List (List D) → Env → Option Env
  | .lend i :: r, xs :: bs, e => giveBack r bs (putL e i xs)
  | .lend _ :: _, [], _ => none
  | .new _ :: r, _ :: bs, e => giveBack r bs e
  | .new _ :: _, [], _ => none
  | _ :: r, bs, e => giveBack r bs e
  | [], [], e => some e
  | [], _ :: _, _ => none
def eCall (f : DF) (as : List Arg) : DE := fun e => match argsV as e with
  | .ok vs e1 => if !(lends as).all (fun i => isL (sl e1 i)) then .bad else (match argsD e1 vs with
    | some ds => (match f ds with
      | .ok d bs => (match giveBack as bs e1 with
        | some e2 => .ok d e2
        | none => .bad)
      | .ex c fs bs => (match giveBack as bs e1 with
        | some e2 => .ex c fs e2
        | none => .bad)
      | .bad => .bad)
    | none => .bad)
  | .ex c fs e1 => .ex c fs e1
  | .bad => .bad
end AH
namespace AH
open PySem PySem.Spec PyProof.Rows L2
abbrev Pr := Addr → Prop
/-- the text's own fragment -/
class TheK where
  K : PySem.W.Frag
  xs : List Str
variable [TheK]
/-- a class of the text whose instances are just looked at -/
structure ObjF (K : PySem.W.Frag) (C : Addr) : Prop where
  sc : SlX.SCls K C
  si : SlX.SIsi K C
  no : ∀ n ∈ ["int", "bool", "str", "list", "tuple", "dict"], PySem.W.kitOne K (.ref C) (.type n) = some false
def fieldsOf (c : Str) : List Str :=
  if c = "NoStretch" then ["first", "last"] else if c = "TooFew" then ["first", "last"] else if c = "NoHour" then ["hour"] else if c = "NoMove" then ["move"] else if c = "BadLine" then ["number"] else []
/-- a caught exception that is kept: its class, its dict -/
def CgO (cls : Value) (d : Option Addr) (a : Addr) : HO := .ext fun h => ∃ (oe : Obj) (vs : Array Value), h.get? a = some oe ∧ Zc cls d oe ∧ oe.data = .fields vs
/-! ### data in the heap -/
mutual
inductive Rep [TheK] (O : Pr) (H : Hp) : V → D → Prop
  | non : Rep O H .non .non
  | bl (b : Bool) : Rep O H (.bl b) (.bl b)
  | int (i : Int) : Rep O H (.int i) (.int i)
  | str (s : Str) : Rep O H (.str s) (.str s)
  | tup {a : Addr} {vs : List V} {xs : List D} : ¬ O a → H a = some (.tup vs) → RepL O H vs xs → Rep O H (.ref a) (.tup xs)
  | lst {a : Addr} {vs : List V} {xs : List D} : ¬ O a → H a = some (.lst vs) → RepL O H vs xs → Rep O H (.ref a) (.lst xs)
  | dic {a : Addr} {ks : List (List Key × V)} {kvs : List (List Key × D)} : ¬ O a → H a = some (.dT ks) → RepK O H ks kvs → Rep O H (.ref a) (.dic kvs)
  | obj {a dx C : Addr} {vs : List (Option V)} {c : Str} : ¬ O a → ¬ O dx → H a = some (SlX.SlO a C dx vs) → H dx = some (.xd []) → ObjF TheK.K C → Rep O H (.ref a) (.obj c)
  | exc {a : Addr} {dd : Option Addr} {c : Str} {fs : List D} {vs : List V} : ¬ O a → c ∈ TheK.xs → H a = some (CgO (.ref (He.ga TheK.K c)) dd a) → (dd = none → vs = []) → (∀ d, dd = some d → ¬ O d ∧ H d = some (.xd ((fieldsOf c).zip vs)) ∧ vs.length = (fieldsOf c).length) → RepL O H vs fs → Rep O H (.ref a) (.exc c [] fs)
inductive RepL [TheK] (O : Pr) (H : Hp) : List V → List D → Prop
  | nil : RepL O H [] []
  | cons {v : V} {d : D} {vs : List V} {ds : List D} : Rep O H v d → RepL O H vs ds → RepL O H (v :: vs) (d :: ds)
inductive RepK [TheK] (O : Pr) (H : Hp) : List (List Key × V) → List (List Key × D) → Prop
  | nil : RepK O H [] []
  | cons {k : List Key} {v : V} {d : D} {vs : List (List Key × V)} {ds : List (List Key × D)} : Rep O H v d → RepK O H vs ds → RepK O H ((k, v) :: vs) ((k, d) :: ds)
end
/-- what is not in W stays, and what is there is there -/
structure Ke (W : Pr) (H H' : Hp) : Prop where
  stay : ∀ a o, ¬ W a → H a = some o → H' a = some o
  there : ∀ a, H a ≠ none → H' a ≠ none
theorem Ke.refl {W : Pr} {H : Hp} : Ke W H H := ⟨fun _ _ _ h => h, fun _ h => h⟩
theorem Ke.trans {W : Pr} {H H1 H2 : Hp} (a : Ke W H H1) (b : Ke W H1 H2) : Ke W H H2 :=
  ⟨fun x o n h => b.stay x o n (a.stay x o n h), fun x h => b.there x (a.there x h)⟩
theorem Ke.new {W : Pr} {H : Hp} {p : Addr} {o : HO} (h : H p = none) : Ke W H (upd H p o) := by
  refine ⟨fun a u _ e => ?_, fun a e => ?_⟩
  · rw [upd_ne (ne_of_none e h)]; exact e
  · by_cases q : a = p
    · subst q; exact absurd h e
    · rw [upd_ne q]; exact e
theorem Ke.mut {W : Pr} {H : Hp} {p : Addr} {o : HO} (h : W p) : Ke W H (upd H p o) := by
  refine ⟨fun a u n e => ?_, fun a e => ?_⟩
  · have q : a ≠ p := fun z => n (z ▸ h)
    rw [upd_ne q]; exact e
  · by_cases q : a = p
    · subst q; rw [upd_same]; simp
    · rw [upd_ne q]; exact e
theorem Ke.imp {W W' : Pr} {H H' : Hp} (a : Ke W H H') (h : ∀ x, W x → H x ≠ none → W' x) : Ke W' H H' :=
  ⟨fun x o n e => a.stay x o (fun z => n (h x z (by rw [e]; simp))) e, a.there⟩
theorem al_of {H : Hp} {a : Addr} {u : HO} (r : H a = some u) : H a ≠ none := by rw [r]; simp
mutual
theorem Rep.ke {W W' : Pr} {H H' : Hp} (k : Ke W H H') (g : ∀ a, W' a → W a ∨ H a = none) : ∀ {v : V} {d : D}, Rep W H v d → Rep W' H' v d
  | _, _, .non => .non
  | _, _, .bl b => .bl b
  | _, _, .int i => .int i
  | _, _, .str s => .str s
  | _, _, .tup n r l => .tup (fun z => (g _ z).elim n (al_of r)) (k.stay _ _ n r) (RepL.ke k g l)
  | _, _, .lst n r l => .lst (fun z => (g _ z).elim n (al_of r)) (k.stay _ _ n r) (RepL.ke k g l)
  | _, _, .dic n r l => .dic (fun z => (g _ z).elim n (al_of r)) (k.stay _ _ n r) (RepK.ke k g l)
  | _, _, .obj n m r q f => .obj (fun z => (g _ z).elim n (al_of r)) (fun z => (g _ z).elim m (al_of q)) (k.stay _ _ n r) (k.stay _ _ m q) f
  | _, _, .exc n m r h1 h2 l => .exc (fun z => (g _ z).elim n (al_of r)) m (k.stay _ _ n r) h1 (fun d e => ⟨fun z => (g _ z).elim (h2 d e).1 (al_of (h2 d e).2.1), k.stay _ _ (h2 d e).1 (h2 d e).2.1, (h2 d e).2.2⟩) (RepL.ke k g l)
theorem RepL.ke {W W' : Pr} {H H' : Hp} (k : Ke W H H') (g : ∀ a, W' a → W a ∨ H a = none) : ∀ {vs : List V} {ds : List D}, RepL W H vs ds → RepL W' H' vs ds
  | _, _, .nil => .nil
  | _, _, .cons r l => .cons (Rep.ke k g r) (RepL.ke k g l)
theorem RepK.ke {W W' : Pr} {H H' : Hp} (k : Ke W H H') (g : ∀ a, W' a → W a ∨ H a = none) : ∀ {vs : List (List Key × V)} {ds : List (List Key × D)}, RepK W H vs ds → RepK W' H' vs ds
  | _, _, .nil => .nil
  | _, _, .cons r l => .cons (Rep.ke k g r) (RepK.ke k g l)
end
theorem Rep.mono {W : Pr} {H H' : Hp} {v : V} {d : D} (k : Ke W H H') (r : Rep W H v d) : Rep W H' v d := r.ke k fun _ z => .inl z
theorem RepL.mono {W : Pr} {H H' : Hp} {v : List V} {d : List D} (k : Ke W H H') (r : RepL W H v d) : RepL W H' v d := r.ke k fun _ z => .inl z
theorem RepK.mono {W : Pr} {H H' : Hp} {v : List (List Key × V)} {d : List (List Key × D)} (k : Ke W H H') (r : RepK W H v d) : RepK W H' v d := r.ke k fun _ z => .inl z
theorem Rep.sub {W W' : Pr} {H : Hp} {v : V} {d : D} (g : ∀ a, W' a → W a ∨ H a = none) (r : Rep W H v d) : Rep W' H v d := r.ke Ke.refl g
theorem RepL.sub {W W' : Pr} {H : Hp} {v : List V} {d : List D} (g : ∀ a, W' a → W a ∨ H a = none) (r : RepL W H v d) : RepL W' H v d := r.ke Ke.refl g
theorem RepK.sub {W W' : Pr} {H : Hp} {v : List (List Key × V)} {d : List (List Key × D)} (g : ∀ a, W' a → W a ∨ H a = none) (r : RepK W H v d) : RepK W' H v d := r.ke Ke.refl g
/-- the top object may be one that changes -/
inductive RepW (K : PySem.W.Frag) (O : Pr) (H : Hp) : V → D → Prop
  | of {v : V} {d : D} : Rep O H v d → RepW K O H v d
  | tup {a : Addr} {vs : List V} {xs : List D} : SqT K H a vs → RepL O H vs xs → RepW K O H (.ref a) (.tup xs)
  | lst {a : Addr} {vs : List V} {xs : List D} : SqL K H a vs → RepL O H vs xs → RepW K O H (.ref a) (.lst xs)
  | dic {a : Addr} {ks : List (List Key × V)} {kvs : List (List Key × D)} : Rd H a (.dT ks) → RepK O H ks kvs → RepW K O H (.ref a) (.dic kvs)
section
variable {K : PySem.W.Frag} {O : Pr} {H : Hp}
theorem RepW.lst' {v : V} {xs : List D} (r : RepW K O H v (.lst xs)) : ∃ a vs, v = .ref a ∧ SqL K H a vs ∧ RepL O H vs xs := by
  cases r with
  | of r => cases r with | lst n r l => exact ⟨_, _, rfl, .inl (.inl r), l⟩
  | lst s l => exact ⟨_, _, rfl, s, l⟩
theorem RepW.tup' {v : V} {xs : List D} (r : RepW K O H v (.tup xs)) : ∃ a vs, v = .ref a ∧ SqT K H a vs ∧ RepL O H vs xs := by
  cases r with
  | of r => cases r with | tup n r l => exact ⟨_, _, rfl, .inl (.inl r), l⟩
  | tup s l => exact ⟨_, _, rfl, s, l⟩
theorem RepW.dic' {v : V} {kvs : List (List Key × D)} (r : RepW K O H v (.dic kvs)) : ∃ a ks, v = .ref a ∧ Rd H a (.dT ks) ∧ RepK O H ks kvs := by
  cases r with
  | of r => cases r with | dic n r l => exact ⟨_, _, rfl, .inl r, l⟩
  | dic s l => exact ⟨_, _, rfl, s, l⟩
theorem RepW.int' {v : V} {i : Int} (r : RepW K O H v (.int i)) : v = .int i := by
  cases r with | of r => cases r; rfl
theorem RepW.bl' {v : V} {i : Bool} (r : RepW K O H v (.bl i)) : v = .bl i := by
  cases r with | of r => cases r; rfl
theorem RepW.str' {v : V} {i : Str} (r : RepW K O H v (.str i)) : v = .str i := by
  cases r with | of r => cases r; rfl
theorem RepW.non' {v : V} (r : RepW K O H v .non) : v = .non := by
  cases r with | of r => cases r; rfl
theorem RepL.len : ∀ {vs : List V} {xs : List D}, RepL O H vs xs → vs.length = xs.length
  | _, _, .nil => rfl
  | _, _, .cons _ l => by rw [List.length_cons, List.length_cons, RepL.len l]
theorem RepL.get : ∀ {vs : List V} {xs : List D} {i : Nat} {d : D}, RepL O H vs xs → xs[i]? = some d → ∃ v, vs[i]? = some v ∧ Rep O H v d
  | _, _, _, _, .nil, e => by simp at e
  | _, _, 0, _, .cons r _, e => by simp at e; subst e; exact ⟨_, rfl, r⟩
  | _, _, i + 1, d, .cons _ t, e => by
    obtain ⟨u, h1, h2⟩ := RepL.get (i := i) (d := d) t (by simpa using e)
    exact ⟨u, by simpa using h1, h2⟩
theorem RepL.get' : ∀ {vs : List V} {xs : List D} {i : Nat} {v : V}, RepL O H vs xs → vs[i]? = some v → ∃ d, xs[i]? = some d ∧ Rep O H v d
  | _, _, _, _, .nil, e => by simp at e
  | _, _, 0, _, .cons r _, e => by simp at e; subst e; exact ⟨_, rfl, r⟩
  | _, _, i + 1, d, .cons _ t, e => by
    obtain ⟨u, h1, h2⟩ := RepL.get' (i := i) (v := d) t (by simpa using e)
    exact ⟨u, by simpa using h1, h2⟩
theorem RepL.app : ∀ {vs : List V} {xs : List D} {ws : List V} {ys : List D}, RepL O H vs xs → RepL O H ws ys → RepL O H (vs ++ ws) (xs ++ ys)
  | _, _, _, _, .nil, s => s
  | _, _, _, _, .cons r l, s => .cons r (RepL.app l s)
theorem RepL.take : ∀ {vs : List V} {xs : List D} (n : Nat), RepL O H vs xs → RepL O H (vs.take n) (xs.take n)
  | _, _, 0, _ => .nil
  | _, _, _ + 1, .nil => .nil
  | _, _, n + 1, .cons r t => .cons r (RepL.take n t)
theorem RepL.drop : ∀ {vs : List V} {xs : List D} (n : Nat), RepL O H vs xs → RepL O H (vs.drop n) (xs.drop n)
  | _, _, 0, r => r
  | _, _, _ + 1, .nil => .nil
  | _, _, n + 1, .cons _ t => RepL.drop n t
theorem RepL.set {v : V} {d : D} (r : Rep O H v d) : ∀ {vs : List V} {xs : List D} (i : Nat), RepL O H vs xs → RepL O H (vs.set i v) (xs.set i d)
  | _, _, _, .nil => .nil
  | _, _, 0, .cons _ t => .cons r t
  | _, _, i + 1, .cons q t => .cons q (RepL.set r i t)
theorem RepL.rep {vs : List V} {xs : List D} (r : RepL O H vs xs) : ∀ k : Nat, RepL O H (List.replicate k vs).flatten (List.replicate k xs).flatten
  | 0 => .nil
  | k + 1 => by
    rw [List.replicate_succ, List.flatten_cons, List.replicate_succ, List.flatten_cons]
    exact r.app (RepL.rep r k)
theorem RepL.at {vs : List V} {xs : List D} {i : Int} {d : D} (r : RepL O H vs xs) (e : atI xs i = some d) : ∃ v, atI vs i = some v ∧ Rep O H v d := by
  unfold atI at e ⊢
  rw [r.len]
  cases h : ixN xs.length i with
  | none => rw [h] at e; cases e
  | some j =>
    rw [h] at e
    exact r.get (show xs[j]? = some d from e)
theorem RepL.ints : ∀ {vs : List V} {xs : List D} {ns : List Int}, RepL O H vs xs → intsL xs = some ns → vs = ns.map V.int
  | _, _, _, .nil, e => by cases e; rfl
  | _, _, ns, .cons r l, e => by
    cases r with
    | int i =>
      rename_i vs ds
      unfold intsL at e
      cases h : intsL ds with
      | none => rw [h] at e; cases e
      | some ms =>
        rw [h] at e
        cases e
        rw [List.map_cons, RepL.ints l h]
    | _ => cases e
theorem RepL.bools : ∀ {vs : List V} {xs : List D} {ns : List Bool}, RepL O H vs xs → AH.bools xs = some ns → vs = ns.map V.bl
  | _, _, _, .nil, e => by cases e; rfl
  | _, _, ns, .cons r l, e => by
    cases r with
    | bl i =>
      rename_i vs ds
      unfold AH.bools at e
      cases h : AH.bools ds with
      | none => rw [h] at e; cases e
      | some ms =>
        rw [h] at e
        cases e
        rw [List.map_cons, RepL.bools l h]
    | _ => cases e
end
/-! ### the frame of a def -/
structure Fm where
  P : Pr
  N : Pr
  H0 : Hp
  ba : Nat → Option Addr
def Fm.bo (F : Fm) : Pr := fun a => ∃ i, F.ba i = some a
def Fm.ad (F : Fm) (p : Addr) : Fm := { F with P := fun a => F.P a ∨ a = p, N := fun a => F.N a ∨ a = p }
def Ow (F : Fm) (O : Nat → Option Addr) : Pr := fun a => F.P a ∨ ∃ i, O i = some a
def Jo (O : Nat → Option Addr) : Pr := fun a => ∃ i, O i = some a
/-- what is just looked at: an object that does not change meanwhile; a list of ints of the module -/
inductive RoR (K : PySem.W.Frag) (F : Fm) (O : Nat → Option Addr) (H : Hp) : V → D → Prop
  | of {v : V} {d : D} : Rep (Ow F O) H v d → RoR K F O H v d
  | tup {a : Addr} {vs : List V} {xs : List D} : ¬ (Jo O a ∨ F.N a) → Rd H a (.tup vs) → RepL (Ow F O) H vs xs → RoR K F O H (.ref a) (.tup xs)
  | lst {a : Addr} {vs : List V} {xs : List D} : ¬ (Jo O a ∨ F.N a) → Rd H a (.lst vs) → RepL (Ow F O) H vs xs → RoR K F O H (.ref a) (.lst xs)
  | dic {a : Addr} {ks : List (List Key × V)} {kvs : List (List Key × D)} : ¬ (Jo O a ∨ F.N a) → Rd H a (.dT ks) → RepK (Ow F O) H ks kvs → RoR K F O H (.ref a) (.dic kvs)
  | kl {a : Addr} {ns : List Int} : SqL K (fun _ => none) a (ns.map V.int) → RoR K F O H (.ref a) (.lst (ns.map D.int))
theorem rd_al {H : Hp} {a : Addr} {u : HO} (r : Rd H a u) : H a ≠ none := by
  rcases r with r | ⟨o, r⟩ <;> (rw [r]; simp)
theorem rd_keep {H H' : Hp} {a : Addr} {u : HO} (k : ∀ o, H a = some o → H' a = some o) (r : Rd H a u) : Rd H' a u := by
  rcases r with r | ⟨o, r⟩
  · exact .inl (k _ r)
  · exact .inr ⟨o, k _ r⟩
theorem repL_ints {W : Pr} {H : Hp} : ∀ ns : List Int, RepL W H (ns.map V.int) (ns.map D.int)
  | [] => .nil
  | n :: ns => .cons (.int n) (repL_ints ns)
theorem RoR.w {K : PySem.W.Frag} {F : Fm} {O : Nat → Option Addr} {H : Hp} {v : V} {d : D} (r : RoR K F O H v d) : RepW K (Ow F O) H v d := by
  cases r with
  | of r => exact .of r
  | tup n h l => exact .tup (.inl h) l
  | lst n h l => exact .lst (.inl h) l
  | dic n h l => exact .dic h l
  | kl s =>
    refine .lst ?_ (repL_ints _)
    rcases s with s | s
    · exact absurd rfl (rd_al s)
    · exact .inr s
/-- .. through a step of the heap, of the owners -/
theorem RoR.go {K : PySem.W.Frag} {F F' : Fm} {O O' : Nat → Option Addr} {H H' : Hp} {v : V} {d : D} (k : Ke (Jo O) H H') (g : ∀ a, Ow F' O' a → Ow F O a ∨ H a = none) (gn : ∀ a, Jo O' a ∨ F'.N a → (Jo O a ∨ F.N a) ∨ H a = none) (r : RoR K F O H v d) : RoR K F' O' H' v d := by
  have ke : Ke (Ow F O) H H' := k.imp fun _ z _ => .inr z
  cases r with
  | of r => exact .of (r.ke ke g)
  | tup n h l => exact .tup (fun z => (gn _ z).elim n (rd_al h)) (rd_keep (fun o e => k.stay _ _ (fun z => n (.inl z)) e) h) (l.ke ke g)
  | lst n h l => exact .lst (fun z => (gn _ z).elim n (rd_al h)) (rd_keep (fun o e => k.stay _ _ (fun z => n (.inl z)) e) h) (l.ke ke g)
  | dic n h l => exact .dic (fun z => (gn _ z).elim n (rd_al h)) (rd_keep (fun o e => k.stay _ _ (fun z => n (.inl z)) e) h) (l.ke ke g)
  | kl s => exact .kl s
theorem Ke.ow {F : Fm} {O : Nat → Option Addr} {H H' : Hp} (k : Ke (Jo O) H H') : Ke (Ow F O) H H' := k.imp fun _ z _ => .inr z
theorem Rep.mj {F : Fm} {O : Nat → Option Addr} {H H' : Hp} {v : V} {d : D} (k : Ke (Jo O) H H') (r : Rep (Ow F O) H v d) : Rep (Ow F O) H' v d := r.mono k.ow
theorem RepL.mj {F : Fm} {O : Nat → Option Addr} {H H' : Hp} {v : List V} {d : List D} (k : Ke (Jo O) H H') (r : RepL (Ow F O) H v d) : RepL (Ow F O) H' v d := r.mono k.ow
theorem RepK.mj {F : Fm} {O : Nat → Option Addr} {H H' : Hp} {v : List (List Key × V)} {d : List (List Key × D)} (k : Ke (Jo O) H H') (r : RepK (Ow F O) H v d) : RepK (Ow F O) H' v d := r.mono k.ow
def SlR (K : PySem.W.Frag) (F : Fm) (O : Nat → Option Addr) (H : Hp) (i : Nat) (ov : Option V) : Sl → Prop
  | .no => O i = none
  | .val d => O i = none ∧ ∃ v, ov = some v ∧ Rep (Ow F O) H v d
  | .ro d => O i = none ∧ ∃ v, ov = some v ∧ RoR K F O H v d
  | .own xs => ∃ a vs, O i = some a ∧ (F.H0 a = none ∧ ¬ F.P a) ∧ ov = some (.ref a) ∧ H a = some (.lst vs) ∧ RepL (Ow F O) H vs xs
  | .bor xs => ∃ a vs, O i = some a ∧ F.ba i = some a ∧ ov = some (.ref a) ∧ H a = some (.lst vs) ∧ RepL (Ow F O) H vs xs
  | .odc kvs => ∃ a ks, O i = some a ∧ (F.H0 a = none ∧ ¬ F.P a) ∧ ov = some (.ref a) ∧ H a = some (.dT ks) ∧ RepK (Ow F O) H ks kvs
  | .ldc kvs => O i = none ∧ ∃ a ks o, ¬ (Jo O a ∨ F.N a) ∧ ov = some (.ref a) ∧ H a = some (.frz o (.dT ks)) ∧ RepK (Ow F O) H ks kvs
def get1 (σ : L2.St) (i : Nat) : Option V := (σ[i]?).join
structure SR (K : PySem.W.Frag) (F : Fm) (O : Nat → Option Addr) (env : Env) (σ : L2.St) (H : Hp) : Prop where
  slot : ∀ i, SlR K F O H i (get1 σ i) (sl env i)
  inj : ∀ i j a, O i = some a → O j = some a → i = j
  prot : ∀ a, Ow F O a → H a ≠ none
  keep : ∀ a o, F.H0 a = some o → ¬ F.bo a → H a = some o
  al : ∀ a, F.H0 a ≠ none → H a ≠ none
  len : env.length = σ.length
  nal : ∀ a, F.N a → H a ≠ none
  pt : ∀ a xs, F.P a → H a ≠ some (.tup xs)
/-- an exception of a class with its fields -/
def XR (K : PySem.W.Frag) (W : Pr) (c : Str) (fs : List D) (cls : Value) (dd : Option Addr) (H : Hp) : Prop :=
  (cls = .ref (He.ga K c) ∧ c ∈ TheK.xs) ∧ match dd with
    | none => fs = []
    | some d => ¬ W d ∧ ∃ vs, H d = some (.xd ((fieldsOf c).zip vs)) ∧ vs.length = (fieldsOf c).length ∧ RepL W H vs fs
/-! ### judgements -/
def Want {α : Type} (m : M α) (env : Env) (Q : α → Env → Prop) (E : Str → List D → Env → Prop) : Prop := match m env with
  | .ok a e => Q a e
  | .ex c fs e => E c fs e
  | .bad => False
theorem Want.bind {α β : Type} {m : M α} {f : α → M β} {env : Env} {Q : β → Env → Prop} {E : Str → List D → Env → Prop} (h : Want (m.bind f) env Q E) : Want m env (fun a e => Want (f a) e Q E) E := by
  unfold Want at h ⊢
  unfold M.bind at h
  cases hm : m env with
  | ok a e => rw [hm] at h; exact h
  | ex c fs e => rw [hm] at h; exact h
  | bad => rw [hm] at h; exact h
theorem Want.imp {α : Type} {m : M α} {env : Env} {Q Q' : α → Env → Prop} {E E' : Str → List D → Env → Prop} (h : Want m env Q E) (q : ∀ a e, Q a e → Q' a e) (x : ∀ c fs e, E c fs e → E' c fs e) : Want m env Q' E' := by
  unfold Want at h ⊢
  cases hm : m env with
  | ok a e => rw [hm] at h; exact q a e h
  | ex c fs e => rw [hm] at h; exact x c fs e h
  | bad => rw [hm] at h; exact h
theorem Want.of {α : Type} {r : Rv α} {env : Env} {Q : α → Env → Prop} {E : Str → List D → Env → Prop} (h : Want (M.of r) env Q E) : ∃ a, r = .ok a ∧ Q a env := by
  cases r with
  | ok a => exact ⟨a, rfl, h⟩
  | bad => exact h.elim
inductive Fl where
  | w | s | f | fd
def Po (fl : Fl) (K : PySem.W.Frag) (F : Fm) (O : Nat → Option Addr) (e1 : Env) (σ : L2.St) (H H' : Hp) (v : V) (d : D) : Prop := match fl with
  | .w => RepW K (Ow F O) H' v d
  | .s => Rep (Ow F O) H' v d
  | .f => ∃ p vs xs, v = .ref p ∧ d = .lst xs ∧ H p = none ∧ H' p = some (.lst vs) ∧ RepL (Ow (F.ad p) O) H' vs xs ∧ SR K (F.ad p) O e1 σ H'
  | .fd => ∃ p ks kvs, v = .ref p ∧ d = .dic kvs ∧ H p = none ∧ H' p = some (.dT ks) ∧ RepK (Ow (F.ad p) O) H' ks kvs ∧ SR K (F.ad p) O e1 σ H'
/-- what is wished of an exception -/
def XW (K : PySem.W.Frag) (F : Fm) (O : Nat → Option Addr) (σ : L2.St) (H : Hp) (Wx : WX) : Str → List D → Env → Prop := fun c fs e1 =>
  ∀ cls d H', SR K F O e1 σ H' → Ke (Jo O) H H' → XR K (Ow F O) c fs cls d H' → Wx cls d σ H'
theorem XW.later {K : PySem.W.Frag} {F : Fm} {O : Nat → Option Addr} {σ : L2.St} {H H1 : Hp} {Wx : WX} (k : Ke (Jo O) H H1) : ∀ c fs e, XW K F O σ H Wx c fs e → XW K F O σ H1 Wx c fs e :=
  fun _ _ _ h cls d H' S k1 x => h cls d H' S (k.trans k1) x
/-- an expression -/
def PD (fl : Fl) (X : Cx) (Wx : WX) (e : Expr) (m : DE) : Prop := ∃ t : TE, PE X e t ∧ ∀ (F : Fm) (O : Nat → Option Addr) (env : Env) (σ : L2.St) (H : Hp) (Q : VK), SR X.K F O env σ H →
  Want m env (fun d e1 => ∀ v H', SR X.K F O e1 σ H' → Ke (Jo O) H H' → Po fl X.K F O e1 σ H H' v d → Q v H') (XW X.K F O σ H Wx) → t σ H Q
/-- a test -/
def TD (X : Cx) (Wx : WX) (e : Expr) (m : DT) : Prop := ∃ t : TT, PT X e t ∧ ∀ (F : Fm) (O : Nat → Option Addr) (env : Env) (σ : L2.St) (H : Hp) (Q : Bool → Hp → Prop), SR X.K F O env σ H →
  Want m env (fun b e1 => ∀ H', SR X.K F O e1 σ H' → Ke (Jo O) H H' → Q b H') (XW X.K F O σ H Wx) → t σ H Q
def WD (X : Cx) (Wx : WX) (e : Expr) (m : DT) : Prop := ∃ t : TT, PW X e t ∧ ∀ (F : Fm) (O : Nat → Option Addr) (env : Env) (σ : L2.St) (H : Hp) (Q : Bool → Hp → Prop), SR X.K F O env σ H →
  Want m env (fun b e1 => ∀ H', SR X.K F O e1 σ H' → Ke (Jo O) H H' → Q b H') (XW X.K F O σ H Wx) → t σ H Q
/-- an argument list of values that stay -/
def AD (X : Cx) (Wx : WX) (es : List Expr) (m : DL) : Prop := ∃ t : TA, PA X es t ∧ ∀ (F : Fm) (O : Nat → Option Addr) (env : Env) (σ : L2.St) (H : Hp) (Q : List V → Hp → Prop), SR X.K F O env σ H →
  Want m env (fun ds e1 => ∀ vs H', SR X.K F O e1 σ H' → Ke (Jo O) H H' → RepL (Ow F O) H' vs ds → Q vs H') (XW X.K F O σ H Wx) → t σ H Q
theorem WD.td {X : Cx} {Wx : WX} {e : Expr} {m : DT} (h : WD X Wx e m) : TD X Wx e m := let ⟨t, p, q⟩ := h; ⟨t, p.pt, q⟩
section
variable {K : PySem.W.Frag} {F : Fm} {O : Nat → Option Addr} {env : Env} {σ : L2.St} {H H' : Hp}
theorem RepW.all {W : Pr} {v : V} {d : D} (k : ∀ a o, H a = some o → H' a = some o) (r : RepW K W H v d) : RepW K W H' v d := by
  have ke : Ke W H H' := ⟨fun a o _ e => k a o e, fun a e => by
    cases q : H a with
    | none => exact absurd q e
    | some o => rw [k a o q]; simp⟩
  cases r with
  | of r => exact .of (r.mono ke)
  | tup s l =>
    refine .tup ?_ (l.mono ke)
    rcases s with s | s
    · rcases s with s | ⟨o, s⟩
      · exact .inl (.inl (k _ _ s))
      · exact .inl (.inr ⟨o, k _ _ s⟩)
    · exact .inr s
  | lst s l =>
    refine .lst ?_ (l.mono ke)
    rcases s with s | s
    · rcases s with s | ⟨o, s⟩
      · exact .inl (.inl (k _ _ s))
      · exact .inl (.inr ⟨o, k _ _ s⟩)
    · exact .inr s
  | dic s l =>
    refine .dic ?_ (l.mono ke)
    rcases s with s | ⟨o, s⟩
    · exact .inl (k _ _ s)
    · exact .inr ⟨o, k _ _ s⟩
/-- .. and fewer, or new, objects are kept apart -/
theorem RepW.sub {W W' : Pr} {v : V} {d : D} (g : ∀ a, W' a → W a ∨ H a = none) (r : RepW K W H v d) : RepW K W' H v d := by
  cases r with
  | of r => exact .of (r.sub g)
  | tup s l => exact .tup s (l.sub g)
  | lst s l => exact .lst s (l.sub g)
  | dic s l => exact .dic s (l.sub g)
theorem ke_all {W : Pr} (k : ∀ a o, H a = some o → H' a = some o) : Ke W H H' := ⟨fun a o _ e => k a o e, fun a e => by
    cases q : H a with
    | none => exact absurd q e
    | some o => rw [k a o q]; simp⟩
theorem SlR.ext {i : Nat} {ov : Option V} (k : ∀ a o, H a = some o → H' a = some o) : ∀ {s : Sl}, SlR K F O H i ov s → SlR K F O H' i ov s := by
  have ke : Ke (Ow F O) H H' := ⟨fun a o _ e => k a o e, fun a e => by
    cases q : H a with
    | none => exact absurd q e
    | some o => rw [k a o q]; simp⟩
  intro s h
  cases s with
  | no => exact h
  | val d => obtain ⟨h, v, e, r⟩ := h; exact ⟨h, v, e, r.mono ke⟩
  | ro d => obtain ⟨h, v, e, r⟩ := h; exact ⟨h, v, e, r.go (ke_all k) (fun _ z => .inl z) fun _ z => .inl z⟩
  | own xs => obtain ⟨a, vs, h, h0, e, q, r⟩ := h; exact ⟨a, vs, h, h0, e, k _ _ q, r.mono ke⟩
  | bor xs => obtain ⟨a, vs, h, h0, e, q, r⟩ := h; exact ⟨a, vs, h, h0, e, k _ _ q, r.mono ke⟩
  | odc kvs => obtain ⟨a, vs, h, h0, e, q, r⟩ := h; exact ⟨a, vs, h, h0, e, k _ _ q, r.mono ke⟩
  | ldc kvs => obtain ⟨h, a, vs, o, h0, e, q, r⟩ := h; exact ⟨h, a, vs, o, h0, e, k _ _ q, r.mono ke⟩
/-- another set of objects that are kept apart -/
theorem SlR.sub {F' : Fm} {i : Nat} {ov : Option V} (hb : F'.ba = F.ba) (h0 : F'.H0 = F.H0) (gp : ∀ a, F'.P a → F.P a ∨ H a = none) (gn : ∀ a, F'.N a → F.N a ∨ H a = none) : ∀ {s : Sl}, SlR K F O H i ov s → SlR K F' O H i ov s := by
  have g : ∀ a, Ow F' O a → Ow F O a ∨ H a = none := fun a w => w.elim (fun w => (gp a w).elim (fun z => .inl (.inl z)) .inr) fun w => .inl (.inr w)
  have al : ∀ {a : Addr} {o : HO}, H a = some o → ¬ F.P a → ¬ F'.P a := fun {a o} e n w => (gp a w).elim n fun z => by rw [z] at e; cases e
  intro s h
  cases s with
  | no => exact h
  | val d => obtain ⟨h, v, e, r⟩ := h; exact ⟨h, v, e, r.sub g⟩
  | ro d => obtain ⟨h, v, e, r⟩ := h; exact ⟨h, v, e, r.go Ke.refl g fun a z => z.elim (fun z => .inl (.inl z)) fun z => (gn a z).elim (fun z => .inl (.inr z)) .inr⟩
  | own xs => obtain ⟨a, vs, h, hz, e, q, r⟩ := h; exact ⟨a, vs, h, ⟨by rw [h0]; exact hz.1, al q hz.2⟩, e, q, r.sub g⟩
  | bor xs => obtain ⟨a, vs, h, hz, e, q, r⟩ := h; exact ⟨a, vs, h, by rw [hb]; exact hz, e, q, r.sub g⟩
  | odc kvs => obtain ⟨a, vs, h, hz, e, q, r⟩ := h; exact ⟨a, vs, h, ⟨by rw [h0]; exact hz.1, al q hz.2⟩, e, q, r.sub g⟩
  | ldc kvs => obtain ⟨h, a, vs, o, hz, e, q, r⟩ := h; exact ⟨h, a, vs, o, fun z => z.elim (fun z => hz (.inl z)) fun z => (gn a z).elim (fun z => hz (.inr z)) (al_of q), e, q, r.sub g⟩
/-- all that stood stands -/
theorem SR.ext (S : SR K F O env σ H) (k : ∀ a o, H a = some o → H' a = some o) : SR K F O env σ H' where
  slot := fun i => (S.slot i).ext k
  inj := S.inj
  prot := fun a w => by
    cases q : H a with
    | none => exact absurd q (S.prot a w)
    | some o => rw [k a o q]; simp
  keep := fun a o e n => k a o (S.keep a o e n)
  al := fun a e => by
    cases q : H a with
    | none => exact absurd q (S.al a e)
    | some o => rw [k a o q]; simp
  len := S.len
  nal := fun a e => by
    cases q : H a with
    | none => exact absurd q (S.nal a e)
    | some o => rw [k a o q]; simp
  pt := fun a xs w => by
    cases q : H a with
    | none => exact absurd q (S.prot a (.inl w))
    | some o => rw [k a o q, ← q]; exact S.pt a xs w
/-- a new object is kept apart -/
theorem SR.ad (S : SR K F O env σ H) {p : Addr} {o : HO} (h : H p = none) (ho : ∀ xs, o ≠ .tup xs := by intro _ z; cases z) : SR K (F.ad p) O env σ (upd H p o) := by
  have S1 : SR K F O env σ (upd H p o) := S.ext fun a u e => by rw [upd_ne (ne_of_none e h)]; exact e
  refine ⟨fun i => ?_, S.inj, fun a w => ?_, S1.keep, S1.al, S.len, fun a w => w.elim (S1.nal a) fun z => by rw [z, upd_same]; simp, fun a xs w => w.elim (S1.pt a xs) fun z => by rw [z, upd_same]; exact fun y => ho xs (Option.some.inj y)⟩
  · refine SlR.ext (H := H) (fun a u e => by rw [upd_ne (ne_of_none e h)]; exact e) (SlR.sub (F := F) (F' := F.ad p) rfl rfl (fun a w => ?_) (fun a w => ?_) (S.slot i))
    · rcases w with w | rfl
      · exact .inl w
      · exact .inr h
    · rcases w with w | rfl
      · exact .inl w
      · exact .inr h
  · rcases w with (w | rfl) | w
    · exact S1.prot a (.inl w)
    · rw [upd_same]; simp
    · exact S1.prot a (.inr w)
theorem SR.unad {p : Addr} (S : SR K (F.ad p) O env σ H) : SR K F O env σ H := by
  refine ⟨fun i => SlR.sub (F := F.ad p) (F' := F) rfl rfl (fun a w => .inl (.inl w)) (fun a w => .inl (.inl w)) (S.slot i), S.inj, fun a w => S.prot a ?_, S.keep, S.al, S.len, fun a w => S.nal a (.inl w), fun a xs w => S.pt a xs (.inl w)⟩
  · exact w.elim (fun z => .inl (.inl z)) .inr
theorem SR.new' (S : SR K F O env σ H) {p : Addr} {o : HO} (h : H p = none) : SR K F O env σ (upd H p o) := S.ext fun a u e => by
  rw [upd_ne (ne_of_none e h)]; exact e
theorem SR.noW (S : SR K F O env σ H) {p : Addr} (h : H p = none) : ¬ Ow F O p := fun w => S.prot p w h
theorem ke_ext {W : Pr} (k : ∀ a o, H a = some o → H' a = some o) : Ke W H H' := ⟨fun a o _ e => k a o e, fun a e => by
    cases q : H a with
    | none => exact absurd q e
    | some o => rw [k a o q]; simp⟩
theorem new_ext {p : Addr} {o : HO} (h : H p = none) : ∀ a u, H a = some u → upd H p o a = some u := fun a u e => by
  rw [upd_ne (ne_of_none e h)]; exact e
end
/-- from new to staying to looked at -/
theorem Po.s_of_f {K : PySem.W.Frag} {F : Fm} {O : Nat → Option Addr} {e1 : Env} {σ : L2.St} {H H' : Hp} {v : V} {d : D} (n : ∀ p, H p = none → ¬ Ow F O p) (h : Po .f K F O e1 σ H H' v d) : Po .s K F O e1 σ H H' v d := by
  obtain ⟨p, vs, xs, rfl, rfl, hp, hp', l, _⟩ := h
  exact .lst (n p hp) hp' (l.sub fun a z => .inl (z.elim (fun z => .inl (.inl z)) .inr))
theorem Po.s_of_fd {K : PySem.W.Frag} {F : Fm} {O : Nat → Option Addr} {e1 : Env} {σ : L2.St} {H H' : Hp} {v : V} {d : D} (n : ∀ p, H p = none → ¬ Ow F O p) (h : Po .fd K F O e1 σ H H' v d) : Po .s K F O e1 σ H H' v d := by
  obtain ⟨p, vs, xs, rfl, rfl, hp, hp', l, _⟩ := h
  exact .dic (n p hp) hp' (l.sub fun a z => .inl (z.elim (fun z => .inl (.inl z)) .inr))
theorem PD.weak {X : Cx} {Wx : WX} {e : Expr} {m : DE} (h : PD .s X Wx e m) : PD .w X Wx e m := by
  obtain ⟨t, p, q⟩ := h
  exact ⟨t, p, fun F O env σ H Q S w => q F O env σ H Q S (w.imp (fun d e1 z v H' S' k r => z v H' S' k (.of r)) fun _ _ _ z => z)⟩
theorem PD.str {X : Cx} {Wx : WX} {e : Expr} {m : DE} (h : PD .f X Wx e m) : PD .s X Wx e m := by
  obtain ⟨t, p, q⟩ := h
  exact ⟨t, p, fun F O env σ H Q S w => q F O env σ H Q S (w.imp (fun d e1 z v H' S' k r => z v H' S' k (Po.s_of_f (K := X.K) (fun p hp => S.noW hp) r)) fun _ _ _ z => z)⟩
theorem PD.strD {X : Cx} {Wx : WX} {e : Expr} {m : DE} (h : PD .fd X Wx e m) : PD .s X Wx e m := by
  obtain ⟨t, p, q⟩ := h
  exact ⟨t, p, fun F O env σ H Q S w => q F O env σ H Q S (w.imp (fun d e1 z v H' S' k r => z v H' S' k (Po.s_of_fd (K := X.K) (fun p hp => S.noW hp) r)) fun _ _ _ z => z)⟩
theorem SR.own_tup {K : PySem.W.Frag} {F : Fm} {O : Nat → Option Addr} {env : Env} {σ : L2.St} {H : Hp} {i : Nat} {a : Addr} {xs : List V} (S : SR K F O env σ H) (h : O i = some a) : H a ≠ some (.tup xs) := by
  have s := S.slot i
  intro z
  cases q : sl env i with
  | no => rw [q] at s; have s : O i = none := s; rw [h] at s; cases s
  | val d => rw [q] at s; obtain ⟨s, _⟩ := s; rw [h] at s; cases s
  | ro d => rw [q] at s; obtain ⟨s, _⟩ := s; rw [h] at s; cases s
  | own xs => rw [q] at s; obtain ⟨b, vs, s1, _, _, s2, _⟩ := s; rw [h] at s1; cases s1; rw [z] at s2; cases s2
  | bor xs => rw [q] at s; obtain ⟨b, vs, s1, _, _, s2, _⟩ := s; rw [h] at s1; cases s1; rw [z] at s2; cases s2
  | odc xs => rw [q] at s; obtain ⟨b, vs, s1, _, _, s2, _⟩ := s; rw [h] at s1; cases s1; rw [z] at s2; cases s2
  | ldc xs => rw [q] at s; obtain ⟨s1, _⟩ := s; rw [h] at s1; cases s1
theorem SR.ow_tup {K : PySem.W.Frag} {F : Fm} {O : Nat → Option Addr} {env : Env} {σ : L2.St} {H : Hp} {a : Addr} {xs : List V} (S : SR K F O env σ H) (h : Ow F O a) : H a ≠ some (.tup xs) := by
  rcases h with h | ⟨i, h⟩
  · exact S.pt a xs h
  · exact S.own_tup h
theorem SR.prot2 {K : PySem.W.Frag} {F : Fm} {O : Nat → Option Addr} {env : Env} {σ : L2.St} {H : Hp} (S : SR K F O env σ H) : ∀ a, Ow F O a → H a ≠ none ∧ ∀ xs, H a ≠ some (.tup xs) := fun a w => ⟨S.prot a w, fun _ => S.ow_tup w⟩
end AH
namespace AH
open PySem PySem.Spec PyProof.Rows L2
variable [TheK]
section
variable {X : Cx} {Wx : WX} {e a b c : Expr} {ma mb mc : DE} {pos : Pos}
theorem get1_some {σ : L2.St} {i : Nat} {v : V} (h : get1 σ i = some v) : σ[i]? = some (some v) := by
  unfold get1 at h
  cases q : σ[i]? with
  | none => rw [q] at h; cases h
  | some o => rw [q] at h; cases o with
    | none => cases h
    | some u => cases h; rfl
theorem Po.back {fl : Fl} {K : PySem.W.Frag} {F : Fm} {O : Nat → Option Addr} {e1 : Env} {σ : L2.St} {H H1 H' : Hp} {v : V} {d : D} (k : Ke (Jo O) H H1) (h : Po fl K F O e1 σ H1 H' v d) : Po fl K F O e1 σ H H' v d := by
  have bk : ∀ p, H1 p = none → H p = none := fun p hp => by
    cases q : H p with
    | none => rfl
    | some o => exact absurd hp (k.there p (by rw [q]; simp))
  cases fl with
  | w => exact h
  | s => exact h
  | f => obtain ⟨p, vs, xs, e1, e2, hp, r⟩ := h; exact ⟨p, vs, xs, e1, e2, bk p hp, r⟩
  | fd => obtain ⟨p, vs, xs, e1, e2, hp, r⟩ := h; exact ⟨p, vs, xs, e1, e2, bk p hp, r⟩
/-! ### names, constants -/
theorem pd_var {i : Nat} {x : Str} (hN : X.N[i]? = some x) (hv : Vis X.env.scope x) (hd : (x == ("__debug__" : Str)) = false := by decide) (hcd : (x == ("__classdict__" : Str)) = false := by decide) : PD .s X Wx (.Name x pos) (eVar i) := by
  refine ⟨_, pe_var hN hv hd hcd, fun F O env σ H Q S w => ?_⟩
  have s := S.slot i
  unfold Want eVar at w
  cases h : sl env i with
  | val d =>
    rw [h] at w s
    obtain ⟨_, v, e, r⟩ := s
    exact ⟨v, get1_some e, w v H S Ke.refl r⟩
  | _ => rw [h] at w; exact w.elim
theorem tmp_rep {K : PySem.W.Frag} {F : Fm} {O : Nat → Option Addr} {env : Env} {σ : L2.St} {H : Hp} {i : Nat} {d : D} {e' : Env} (S : SR K F O env σ H) (h : eTmp i env = .ok d e') : e' = env ∧ ∃ v, get1 σ i = some v ∧ RepW K (Ow F O) H v d := by
  have s := S.slot i
  unfold eTmp at h
  cases q : sl env i with
  | no => rw [q] at h; cases h
  | val d =>
    rw [q] at h s; cases h
    obtain ⟨_, v, e, r⟩ := s
    exact ⟨rfl, v, e, .of r⟩
  | ro d =>
    rw [q] at h s; cases h
    obtain ⟨_, v, e, r⟩ := s
    exact ⟨rfl, v, e, r.w⟩
  | own xs =>
    rw [q] at h s; cases h
    obtain ⟨a, vs, e1, e0, e2, e3, r⟩ := s
    exact ⟨rfl, _, e2, .lst (.inl (.inl e3)) r⟩
  | bor xs =>
    rw [q] at h s; cases h
    obtain ⟨a, vs, e1, e0, e2, e3, r⟩ := s
    exact ⟨rfl, _, e2, .lst (.inl (.inl e3)) r⟩
  | odc kvs =>
    rw [q] at h s; cases h
    obtain ⟨a, vs, e1, e0, e2, e3, r⟩ := s
    exact ⟨rfl, _, e2, .dic (.inl e3) r⟩
  | ldc kvs =>
    rw [q] at h s; cases h
    obtain ⟨e1, a, vs, o, e0, e2, e3, r⟩ := s
    exact ⟨rfl, _, e2, .dic (.inr ⟨o, e3⟩) r⟩
theorem Want.tmp {K : PySem.W.Frag} {F : Fm} {O : Nat → Option Addr} {env : Env} {σ : L2.St} {H : Hp} {i : Nat} {Q : D → Env → Prop} {E : Str → List D → Env → Prop} (S : SR K F O env σ H) (h : Want (eTmp i) env Q E) : ∃ v d, get1 σ i = some v ∧ RepW K (Ow F O) H v d ∧ Q d env := by
  unfold Want at h
  cases q : eTmp i env with
  | ok d e' =>
    rw [q] at h
    obtain ⟨rfl, v, e, r⟩ := tmp_rep S q
    exact ⟨v, d, e, r, h⟩
  | ex c fs e' =>
    unfold eTmp at q
    split at q <;> cases q
  | bad => rw [q] at h; exact h.elim
theorem pd_tmp {i : Nat} {x : Str} (hN : X.N[i]? = some x) (hv : Vis X.env.scope x) (hd : (x == ("__debug__" : Str)) = false := by decide) (hcd : (x == ("__classdict__" : Str)) = false := by decide) : PD .w X Wx (.Name x pos) (eTmp i) := by
  refine ⟨_, pe_var hN hv hd hcd, fun F O env σ H Q S w => ?_⟩
  obtain ⟨v, d, e, r, w⟩ := w.tmp S
  exact ⟨v, get1_some e, w v H S Ke.refl r⟩
theorem pd_int {i j} : PD .s X Wx (.Constant (.int i) j pos) (eC (.int i)) := ⟨_, pe_int, fun F O env σ H Q S w => w _ H S Ke.refl (.int i)⟩
theorem pd_bl {i j} : PD .s X Wx (.Constant (.bool i) j pos) (eC (.bl i)) := ⟨_, pe_bl, fun F O env σ H Q S w => w _ H S Ke.refl (.bl i)⟩
theorem pd_non {j} : PD .s X Wx (.Constant .none j pos) (eC .non) := ⟨_, pe_non, fun F O env σ H Q S w => w _ H S Ke.refl .non⟩
theorem pd_str {i j} : PD .s X Wx (.Constant (.str i) j pos) (eC (.str i)) := ⟨_, pe_str, fun F O env σ H Q S w => w _ H S Ke.refl (.str i)⟩
/-- a module's constant -/
theorem pd_gint {x : Str} {i : Int} (hg : Gl X x) (hm : ∃ t, X.mg x = some (.int i t)) (hd : (x == ("__debug__" : Str)) = false := by decide) : PD .s X Wx (.Name x pos) (eC (.int i)) := by
  obtain ⟨t, hm⟩ := hm
  exact ⟨_, pe_glob (v := .int i) hg hm ⟨t, rfl⟩ hd, fun F O env σ H Q S w => w _ H S Ke.refl (.int i)⟩
theorem pd_gstr {x : Str} {i : Str} (hg : Gl X x) (hm : ∃ t, X.mg x = some (.str i t)) (hd : (x == ("__debug__" : Str)) = false := by decide) : PD .s X Wx (.Name x pos) (eC (.str i)) := by
  obtain ⟨t, hm⟩ := hm
  exact ⟨_, pe_glob (v := .str i) hg hm ⟨t, rfl⟩ hd, fun F O env σ H Q S w => w _ H S Ke.refl (.str i)⟩
/-! ### operations by values -/
/-- r does f -/
def Op2 (fl : Fl) (K : PySem.W.Frag) (r : R2) (f : D → D → Rv D) : Prop := ∀ (F : Fm) (O : Nat → Option Addr) (env : Env) (σ : L2.St) (H : Hp) (x y : V) (dx dy dz : D) (Q : VK), SR K F O env σ H →
  RepW K (Ow F O) H x dx → RepW K (Ow F O) H y dy → f dx dy = .ok dz → (∀ z H', SR K F O env σ H' → Ke (Jo O) H H' → Po fl K F O env σ H H' z dz → Q z H') → r x y H Q
def Op1 (fl : Fl) (K : PySem.W.Frag) (r : V → Hp → VK → Prop) (f : D → Rv D) : Prop := ∀ (F : Fm) (O : Nat → Option Addr) (env : Env) (σ : L2.St) (H : Hp) (x : V) (dx dz : D) (Q : VK), SR K F O env σ H →
  RepW K (Ow F O) H x dx → f dx = .ok dz → (∀ z H', SR K F O env σ H' → Ke (Jo O) H H' → Po fl K F O env σ H H' z dz → Q z H') → r x H Q
theorem Want.of' {α : Type} {r : Rv α} {env : Env} {Q : α → Env → Prop} {E : Str → List D → Env → Prop} (h : Want (M.of r) env Q E) : ∃ a, r = .ok a ∧ Q a env := h.of
theorem pd_e2 {fl : Fl} {f : D → D → Rv D} {r : R2} (hop : Op2 fl X.K r f) (ha : PD .s X Wx a ma) (hb : PD .w X Wx b mb) (pe : ∀ {ta tb : TE}, PE X a ta → PE X b tb → PE X e (tOp r ta tb)) : PD fl X Wx e (e2 f ma mb) := by
  obtain ⟨ta, pa, qa⟩ := ha
  obtain ⟨tb, pb, qb⟩ := hb
  refine ⟨_, pe pa pb, fun F O env σ H Q S w => ?_⟩
  refine qa F O env σ H _ S (w.bind.imp (fun dx e1 w1 x H1 S1 k1 p1 => ?_) fun _ _ _ z => z)
  refine qb F O e1 σ H1 _ S1 (w1.bind.imp (fun dy e2 w2 y H2 S2 k2 p2 => ?_) (XW.later k1))
  obtain ⟨dz, ef, q⟩ := w2.of
  exact hop F O e2 σ H2 x y dx dy dz Q S2 (.of (Rep.mj k2 p1)) p2 ef fun z H' S' k3 p3 => q z H' S' (k1.trans (k2.trans k3)) (p3.back (k1.trans k2))
theorem pd_e2L {fl : Fl} {f : D → D → Rv D} {r : R2} {i : Nat} {x : Str} {p : Pos} (hop : Op2 fl X.K r f) (hN : X.N[i]? = some x) (hv : Vis X.env.scope x) (hb : PD .w X Wx b mb)
    (pe : ∀ {ta tb : TE}, PE X (.Name x p) ta → PE X b tb → PE X e (tOp r ta tb)) (hd : (x == ("__debug__" : Str)) = false := by decide) (hcd : (x == ("__classdict__" : Str)) = false := by decide) : PD fl X Wx e (e2L f i mb) := by
  obtain ⟨tb, pb, qb⟩ := hb
  refine ⟨_, pe (pe_var hN hv hd hcd) pb, fun F O env σ H Q S w => ?_⟩
  obtain ⟨v, d, e, r, w⟩ := w.bind.tmp S
  refine ⟨v, get1_some e, ?_⟩
  refine qb F O env σ H _ S (w.bind.imp (fun dy e2 w2 y H2 S2 k2 p2 => ?_) fun _ _ _ z => z)
  obtain ⟨v', dx, ex, rx, w3⟩ := w2.bind.tmp S2
  obtain rfl : v' = v := Option.some.inj (ex.symm.trans e)
  obtain ⟨dz, ef, q⟩ := w3.of
  exact hop F O e2 σ H2 v' y dx dy dz Q S2 rx p2 ef fun z H' S' k3 p3 => q z H' S' (k2.trans k3) (p3.back k2)
theorem pd_e1 {fl : Fl} {f : D → Rv D} {r : V → Hp → VK → Prop} (hop : Op1 fl X.K r f) (ha : PD .w X Wx a ma) (pe : ∀ {ta : TE}, PE X a ta → PE X e (tUn r ta)) : PD fl X Wx e (e1 f ma) := by
  obtain ⟨ta, pa, qa⟩ := ha
  refine ⟨_, pe pa, fun F O env σ H Q S w => ?_⟩
  refine qa F O env σ H _ S (w.bind.imp (fun dx e1 w1 x H1 S1 k1 p1 => ?_) fun _ _ _ z => z)
  obtain ⟨dz, ef, q⟩ := w1.of
  exact hop F O e1 σ H1 x dx dz Q S1 p1 ef fun z H' S' k3 p3 => q z H' S' (k1.trans k3) (p3.back k1)
/-! ### the operators -/
theorem lenOk_of {n : Nat} (h : lenOk n = true) : n ≤ sizeLine := Nat.le_trans (of_decide_eq_true h) (by rw [sizeLine_eq]; decide)
theorem if_ok {c : Bool} {α : Type} {x y : α} (h : (if c = true then Rv.ok x else Rv.bad) = .ok y) : c = true ∧ x = y := by
  cases c with
  | true => rw [if_pos rfl] at h; cases h; exact ⟨rfl, rfl⟩
  | false => rw [if_neg Bool.false_ne_true] at h; cases h
/-- r does f, of values that stay -/
def Op2s (fl : Fl) (K : PySem.W.Frag) (r : R2) (f : D → D → Rv D) : Prop := ∀ (F : Fm) (O : Nat → Option Addr) (env : Env) (σ : L2.St) (H : Hp) (x y : V) (dx dy dz : D) (Q : VK), SR K F O env σ H →
  Rep (Ow F O) H x dx → Rep (Ow F O) H y dy → f dx dy = .ok dz → (∀ z H', SR K F O env σ H' → Ke (Jo O) H H' → Po fl K F O env σ H H' z dz → Q z H') → r x y H Q
theorem pd_e2s {fl : Fl} {f : D → D → Rv D} {r : R2} (hop : Op2s fl X.K r f) (ha : PD .s X Wx a ma) (hb : PD .s X Wx b mb) (pe : ∀ {ta tb : TE}, PE X a ta → PE X b tb → PE X e (tOp r ta tb)) : PD fl X Wx e (e2 f ma mb) := by
  obtain ⟨ta, pa, qa⟩ := ha
  obtain ⟨tb, pb, qb⟩ := hb
  refine ⟨_, pe pa pb, fun F O env σ H Q S w => ?_⟩
  refine qa F O env σ H _ S (w.bind.imp (fun dx e1 w1 x H1 S1 k1 p1 => ?_) fun _ _ _ z => z)
  refine qb F O e1 σ H1 _ S1 (w1.bind.imp (fun dy e2 w2 y H2 S2 k2 p2 => ?_) (XW.later k1))
  obtain ⟨dz, ef, q⟩ := w2.of
  exact hop F O e2 σ H2 x y dx dy dz Q S2 (Rep.mj k2 p1) p2 ef fun z H' S' k3 p3 => q z H' S' (k1.trans (k2.trans k3)) (p3.back (k1.trans k2))
section
variable {K : PySem.W.Frag} {F : Fm} {O : Nat → Option Addr} {env : Env} {σ : L2.St} {H : Hp}
/-- a new tuple, a new list -/
theorem new_tup {Q : VK} {vs : List V} {xs : List D} (S : SR K F O env σ H) (l : RepL (Ow F O) H vs xs) (q : ∀ z H', SR K F O env σ H' → Ke (Jo O) H H' → Rep (Ow F O) H' z (.tup xs) → Q z H') {p : Addr} (hp : H p = none) : Q (.ref p) (upd H p (.tup vs)) :=
  q _ _ (S.new' hp) (Ke.new hp) (.tup (S.noW hp) upd_same (l.mono (Ke.new hp)))
theorem RepL.grow1 {vs : List V} {xs : List D} {o : HO} {p : Addr} (l : RepL (Ow F O) H vs xs) (hp : H p = none) : RepL (Ow (F.ad p) O) (upd H p o) vs xs :=
  l.ke (Ke.new hp) fun a z => by
    rcases z with (z | z) | z
    · exact .inl (.inl z)
    · exact .inr (by rw [z]; exact hp)
    · exact .inl (.inr z)
theorem RepK.grow1 {vs : List (List Key × V)} {xs : List (List Key × D)} {o : HO} {p : Addr} (l : RepK (Ow F O) H vs xs) (hp : H p = none) : RepK (Ow (F.ad p) O) (upd H p o) vs xs :=
  l.ke (Ke.new hp) fun a z => by
    rcases z with (z | z) | z
    · exact .inl (.inl z)
    · exact .inr (by rw [z]; exact hp)
    · exact .inl (.inr z)
theorem new_lst {Q : VK} {vs : List V} {xs : List D} (S : SR K F O env σ H) (l : RepL (Ow F O) H vs xs) (q : ∀ z H', SR K F O env σ H' → Ke (Jo O) H H' → Po .f K F O env σ H H' z (.lst xs) → Q z H') {p : Addr} (hp : H p = none) : Q (.ref p) (upd H p (.lst vs)) :=
  q _ _ (S.new' hp) (Ke.new hp) ⟨p, vs, xs, rfl, rfl, hp, upd_same, l.grow1 hp, S.ad hp⟩
theorem new_dic {Q : VK} {vs : List (List Key × V)} {xs : List (List Key × D)} (S : SR K F O env σ H) (l : RepK (Ow F O) H vs xs) (q : ∀ z H', SR K F O env σ H' → Ke (Jo O) H H' → Po .fd K F O env σ H H' z (.dic xs) → Q z H') {p : Addr} (hp : H p = none) : Q (.ref p) (upd H p (.dT vs)) :=
  q _ _ (S.new' hp) (Ke.new hp) ⟨p, vs, xs, rfl, rfl, hp, upd_same, l.grow1 hp, S.ad hp⟩
end
def rStrCat : R2 := fun x y H Q => ∃ i j, x = .str i ∧ y = .str j ∧ i.length + j.length ≤ sizeLine ∧ Q (.str (i ++ j)) H
def rAddA (K : PySem.W.Frag) : R2 := fun x y H Q => rI0 (fun i j => .int (i + j)) x y H Q ∨ rCat x y H Q ∨ rCatA K x y H Q ∨ rStrCat x y H Q
theorem op_addA : OpR X (binaryOp .Add) (rAddA X.K) := op_add.or (op_cat.or (op_catA.or op_add_str))
theorem o_add : Op2s .s X.K (rAddA X.K) dAdd := by
  intro F O env σ H x y dx dy dz Q S rx ry ef q
  unfold dAdd at ef
  cases rx with
  | int i => cases ry with
    | int j => cases ef; exact .inl ⟨i, j, rfl, rfl, q _ H S Ke.refl (.int _)⟩
    | _ => cases ef
  | str i => cases ry with
    | str j => obtain ⟨h, rfl⟩ := if_ok ef; exact .inr (.inr (.inr ⟨i, j, rfl, rfl, lenOk_of h, q _ H S Ke.refl (.str _)⟩))
    | _ => cases ef
  | lst n1 h1 l1 => cases ry with
    | lst n2 h2 l2 =>
      obtain ⟨h, rfl⟩ := if_ok ef
      refine .inr (.inl ⟨_, _, _, _, rfl, rfl, h1, h2, ?_, fun p hp => ?_⟩)
      · rw [l1.len, l2.len]; exact lenOk_of h
      · exact new_lst S (l1.app l2) (fun z H' S' k r => q z H' S' k (Po.s_of_f (K := X.K) (fun p hp => S.noW hp) r)) hp
    | _ => cases ef
  | tup n1 h1 l1 => cases ry with
    | tup n2 h2 l2 =>
      obtain ⟨h, rfl⟩ := if_ok ef
      refine .inr (.inr (.inl ⟨_, _, _, _, rfl, rfl, .inl (.inl h1), .inl (.inl h2), ?_, fun e => ?_, fun _ e => ?_, fun _ _ p hp => ?_⟩))
      · rw [l1.len, l2.len]; exact lenOk_of h
      · subst e
        cases l1
        exact q _ H S Ke.refl (.tup n2 h2 l2)
      · subst e
        cases l2
        rename_i xs
        exact q _ H S Ke.refl (by rw [List.append_nil]; exact .tup n1 h1 l1)
      · exact new_tup S (l1.app l2) q hp
    | _ => cases ef
  | _ => cases ef
theorem pd_add (ha : PD .s X Wx a ma) (hb : PD .s X Wx b mb) : PD .s X Wx (.BinOp a .Add b pos) (e2 dAdd ma mb) := pd_e2s o_add ha hb fun p q => pe_op op_addA p q
/-- a sum of lists is a new list -/
def dAddL : D → D → Rv D
  | .lst a, .lst b => if lenOk (a.length + b.length) then .ok (.lst (a ++ b)) else .bad
  | _, _ => .bad
theorem o_addL : Op2s .f X.K (rAddA X.K) dAddL := by
  intro F O env σ H x y dx dy dz Q S rx ry ef q
  unfold dAddL at ef
  cases rx with
  | lst n1 h1 l1 => cases ry with
    | lst n2 h2 l2 =>
      obtain ⟨h, rfl⟩ := if_ok ef
      refine .inr (.inl ⟨_, _, _, _, rfl, rfl, h1, h2, ?_, fun p hp => ?_⟩)
      · rw [l1.len, l2.len]; exact lenOk_of h
      · exact new_lst S (l1.app l2) q hp
    | _ => cases ef
  | _ => cases ef
theorem pd_addL (ha : PD .s X Wx a ma) (hb : PD .s X Wx b mb) : PD .f X Wx (.BinOp a .Add b pos) (e2 dAddL ma mb) := pd_e2s o_addL ha hb fun p q => pe_op op_addA p q
theorem o_sub : Op2s .s X.K (rI0 fun i j => .int (i - j)) dSub := by
  intro F O env σ H x y dx dy dz Q S rx ry ef q
  unfold dSub at ef
  cases rx with
  | int i => cases ry with
    | int j => cases ef; exact ⟨i, j, rfl, rfl, q _ H S Ke.refl (.int _)⟩
    | _ => cases ef
  | _ => cases ef
theorem pd_sub (ha : PD .s X Wx a ma) (hb : PD .s X Wx b mb) : PD .s X Wx (.BinOp a .Sub b pos) (e2 dSub ma mb) := pd_e2s o_sub ha hb fun p q => pe_op op_sub p q
theorem tuple_mul1 (l : Addr) (items : Array Value) (n : Nat) (dd : Option Addr) (sl : Array (Option Value)) (u : Tok) :
    Meets (Builtin.«tuple.__mul__» ⟨[.ref l, .int 1 u], []⟩) (fun _ R s => s.heap.get? l = some { cls := .type "tuple", dict := dd, data := .seq items n, slots := sl } ∧ R (.ok (.ret (Value.ref l))) s) :=
  .of_wp fun prog w A R s h => by
    obtain ⟨hp, g, d, tk, os⟩ := s
    obtain ⟨hl, h⟩ := h
    have f1 := AutoSeq1.idx_int
    wp_walk using wpAny_loadPart' hl
    have c0 : (decide ((1 : Int) < -(2 ^ 63)) || decide ((1 : Int) ≥ 2 ^ 63)) = false := by decide
    have c1 : (items.isEmpty || (1 : Int) == 1) = true := by simp
    repeat (first
      | (refine wpAny_ite_false (decide_eq_false (by rw [c0]; exact Bool.false_ne_true)) ?_; wp_walk using wpAny_loadPart' hl)
      | (refine wpAny_ite_true (decide_eq_true (by rw [c1])) ?_; wp_walk using wpAny_loadPart' hl))
    exact ⟨_, rfl, h⟩
def rRepT1 (K : PySem.W.Frag) : R2 := fun x y H Q => ∃ l xs, x = .ref l ∧ y = .int 1 ∧ SqT K H l xs ∧ Q (.ref l) H
theorem op_repT1 : OpR X (binaryOp .Mult) (rRepT1 X.K) := by
  intro pins s σ H x y v u Q I rx ry h
  obtain ⟨l, xs, rfl, rfl, hT, q⟩ := h
  cases rx
  obtain ⟨t, rfl⟩ := ry
  obtain ⟨its, r, ⟨⟨cls, dd, data, sl⟩, ho, hc, n, hd⟩, hs⟩ := I.tuple hT
  simp only at hc hd
  subst hc hd
  refine wpAny_binaryOp_repeat_ref (T := "tuple") (U := "int") (by decide) ⟨_, ho, rfl⟩ (fun s' => typeIs_int s' 1 t) noFill_tuple_mul F.fills_int_mul F.slot_int_rmul repeat_tuple F.slot_int_index.lookup
    (call_meets F.slot_int_rmul (typeIs_int s 1 t) F.entry_int_rmul (F.args_int_rmul_2 _ _) (int_rmul_tuple 1 t l its.toArray n dd sl)
      ⟨ho, rfl, ⟨_, ho, rfl⟩, call_meets F.slot_tuple_mul ⟨_, ho, rfl⟩ F.entry_tuple_mul (F.args_tuple_mul_2 _ _) (tuple_mul1 l its.toArray n dd sl t) ⟨ho, ?_⟩⟩)
  exact ⟨.ref l, H, I, rfl, q⟩
def CMulX (i j : Int) : Prop := CMulW i j ∨ CMul i j
theorem op_mulX : OpR X (binaryOp .Mult) (rI CMulX fun i j => .int (i * j)) := opI fun _ _ _ _ _ _ _ hc q => mul_int q (hc.elim CMulW.ok CMul.ok)
theorem mulOk_of {i j : Int} (h : mulOk i j = true) : CMulX i j := by
  unfold mulOk at h
  rw [Bool.or_eq_true, Bool.or_eq_true] at h
  rcases h with h | h | h
  · exact .inl (of_decide_eq_true h : i.natAbs.log2 + j.natAbs.log2 < 1000000)
  · have := of_decide_eq_true h; exact .inr (.inl (by omega))
  · have := of_decide_eq_true h; exact .inr (.inr (by omega))
def rMulA (K : PySem.W.Frag) : R2 := fun x y H Q => rI CMulX (fun i j => .int (i * j)) x y H Q ∨ rRep x y H Q ∨ rRepT K x y H Q ∨ rRepT1 K x y H Q
theorem op_mulA : OpR X (binaryOp .Mult) (rMulA X.K)   := op_mulX.or (op_rep.or (op_repT.or op_repT1))
theorem o_mul : Op2s .s X.K (rMulA X.K) dMul := by
  intro F O env σ H x y dx dy dz Q S rx ry ef q
  unfold dMul at ef
  cases rx with
  | int i => cases ry with
    | int j => obtain ⟨h, rfl⟩ := if_ok ef; exact .inl ⟨i, j, rfl, rfl, mulOk_of h, q _ H S Ke.refl (.int _)⟩
    | _ => cases ef
  | lst n1 h1 l1 => cases ry with
    | int k =>
      obtain ⟨h, rfl⟩ := if_ok ef
      obtain ⟨h2, h3⟩ := Bool.and_eq_true_iff.mp h
      have h4 : k.natAbs ≤ 100000 := of_decide_eq_true h2
      refine .inr (.inl ⟨_, k, _, rfl, rfl, h1, by omega, by omega, ?_, fun p hp => ?_⟩)
      · rw [l1.len]; exact lenOk_of h3
      · exact new_lst S (l1.rep k.toNat) (fun z H' S' k r => q z H' S' k (Po.s_of_f (K := X.K) (fun p hp => S.noW hp) r)) hp
    | _ => cases ef
  | tup n1 h1 l1 => cases ry with
    | int k =>
      obtain ⟨h, rfl⟩ := if_ok ef
      obtain ⟨h2, h3⟩ := Bool.and_eq_true_iff.mp h
      obtain ⟨h4, h5⟩ := Bool.and_eq_true_iff.mp h2
      have h6 : 1 ≤ k := of_decide_eq_true h4
      have h7 : k ≤ 1000 := of_decide_eq_true h5
      rename_i a vs xs
      have h8 : 0 < xs.length ∧ xs.length ≤ 1000 := by
        obtain ⟨z1, z2⟩ := Bool.and_eq_true_iff.mp h3
        exact ⟨of_decide_eq_true z1, of_decide_eq_true z2⟩
      by_cases hk : k = 1
      · subst hk
        refine .inr (.inr (.inr ⟨_, _, rfl, rfl, .inl (.inl h1), q _ H S Ke.refl ?_⟩))
        have e : rep xs 1 = xs := by unfold rep; simp
        rw [e]
        exact .tup n1 h1 l1
      · refine .inr (.inr (.inl ⟨_, k, _, rfl, rfl, .inl (.inl h1), ?_, by omega, h7, ?_, fun p hp => ?_⟩))
        · intro z
          have := l1.len
          rw [z] at this
          simp at this
          omega
        · rw [l1.len]; exact h8.2
        · exact new_tup S (l1.rep k.toNat) q hp
    | _ => cases ef
  | _ => cases ef
theorem pd_mul (ha : PD .s X Wx a ma) (hb : PD .s X Wx b mb) : PD .s X Wx (.BinOp a .Mult b pos) (e2 dMul ma mb) := pd_e2s o_mul ha hb fun p q => pe_op op_mulA p q
def dMulL : D → D → Rv D
  | .lst a, .int k => if lenOk k.natAbs && lenOk (a.length * k.toNat) then .ok (.lst (rep a k)) else .bad
  | _, _ => .bad
theorem o_mulL : Op2s .f X.K (rMulA X.K) dMulL := by
  intro F O env σ H x y dx dy dz Q S rx ry ef q
  unfold dMulL at ef
  cases rx with
  | lst n1 h1 l1 => cases ry with
    | int k =>
      obtain ⟨h, rfl⟩ := if_ok ef
      obtain ⟨h2, h3⟩ := Bool.and_eq_true_iff.mp h
      have h4 : k.natAbs ≤ 100000 := of_decide_eq_true h2
      refine .inr (.inl ⟨_, k, _, rfl, rfl, h1, by omega, by omega, ?_, fun p hp => ?_⟩)
      · rw [l1.len]; exact lenOk_of h3
      · exact new_lst S (l1.rep k.toNat) q hp
    | _ => cases ef
  | _ => cases ef
theorem pd_mulL (ha : PD .s X Wx a ma) (hb : PD .s X Wx b mb) : PD .f X Wx (.BinOp a .Mult b pos) (e2 dMulL ma mb) := pd_e2s o_mulL ha hb fun p q => pe_op op_mulA p q
theorem o_int {C : Int → Int → Prop} {g : Int → Int → Int} {f : D → D → Rv D} (h : ∀ dx dy dz, f dx dy = .ok dz → ∃ i j, dx = .int i ∧ dy = .int j ∧ C i j ∧ dz = .int (g i j)) : Op2s .s X.K (rI C fun i j => .int (g i j)) f := by
  intro F O env σ H x y dx dy dz Q S rx ry ef q
  obtain ⟨i, j, rfl, rfl, hc, rfl⟩ := h dx dy dz ef
  cases rx
  cases ry
  exact ⟨i, j, rfl, rfl, hc, q _ H S Ke.refl (.int _)⟩
theorem o_div : Op2s .s X.K (rI CDivW fun i j => .int (i / j)) dDiv := o_int fun dx dy dz h => by
  unfold dDiv at h
  split at h
  · rename_i i j
    obtain ⟨h1, rfl⟩ := if_ok h
    obtain ⟨h2, h3⟩ := Bool.and_eq_true_iff.mp h1
    exact ⟨i, j, rfl, rfl, ⟨of_decide_eq_true h2, of_decide_eq_true h3⟩, rfl⟩
  · cases h
theorem pd_div (ha : PD .s X Wx a ma) (hb : PD .s X Wx b mb) : PD .s X Wx (.BinOp a .FloorDiv b pos) (e2 dDiv ma mb) := pd_e2s o_div ha hb fun p q => pe_op op_fdivW p q
theorem o_mod : Op2s .s X.K (rI (fun _ j => 0 < j) fun i j => .int (i % j)) dMod := o_int fun dx dy dz h => by
  unfold dMod at h
  split at h
  · rename_i i j
    obtain ⟨h1, rfl⟩ := if_ok h
    exact ⟨i, j, rfl, rfl, of_decide_eq_true h1, rfl⟩
  · cases h
theorem pd_mod (ha : PD .s X Wx a ma) (hb : PD .s X Wx b mb) : PD .s X Wx (.BinOp a .Mod b pos) (e2 dMod ma mb) := pd_e2s o_mod ha hb fun p q => pe_op op_mod p q
theorem o_pow : Op2s .s X.K (rI CPow fun i j => .int (i ^ j.toNat)) dPow := o_int fun dx dy dz h => by
  unfold dPow at h
  split at h
  · rename_i i j
    obtain ⟨h1, rfl⟩ := if_ok h
    obtain ⟨h2, h3⟩ := Bool.and_eq_true_iff.mp h1
    obtain ⟨h4, h5⟩ := Bool.and_eq_true_iff.mp h2
    exact ⟨i, j, rfl, rfl, ⟨of_decide_eq_true h4, of_decide_eq_true h5, of_decide_eq_true h3⟩, rfl⟩
  · cases h
theorem pd_pow (ha : PD .s X Wx a ma) (hb : PD .s X Wx b mb) : PD .s X Wx (.BinOp a .Pow b pos) (e2 dPow ma mb) := pd_e2s o_pow ha hb fun p q => pe_op op_pow p q
theorem o_neg : Op1 .s X.K (rU fun i => .int (-i)) dNeg := by
  intro F O env σ H x dx dz Q S rx ef q
  unfold dNeg at ef
  split at ef
  · rename_i i
    cases ef
    exact ⟨i, rx.int', q _ H S Ke.refl (.int _)⟩
  · cases ef
theorem pd_neg (ha : PD .s X Wx a ma) : PD .s X Wx (.UnaryOp .USub a pos) (e1 dNeg ma) := pd_e1 o_neg ha.weak fun p => pe_un un_neg p
end
end AH
namespace AH
open PySem PySem.Spec PyProof.Rows L2
variable [TheK]
/-! ### data as the library's -/
mutual
def D.toP : D → PyData
  | .non => .none
  | .bl b => .bool b
  | .int i => .int i
  | .str s => .str s
  | .tup xs => .tuple (D.toPs xs)
  | .lst xs => .list (D.toPs xs)
  | _ => .none
def D.toPs : List D → List PyData
  | [] => []
  | x :: xs => D.toP x :: D.toPs xs
end
mutual
theorem D.eqv_toP : ∀ {n m : Nat} {x y : D}, x.plain n = true → y.plain m = true → PyData.eqv x.toP y.toP = x.eqv y
  | n, m, .non, y, h, h' => by cases y <;> first | rfl | (cases m <;> cases h')
  | n, m, .bl _, y, h, h' => by cases y <;> first | rfl | (cases m <;> cases h')
  | n, m, .int _, y, h, h' => by cases y <;> first | rfl | (cases m <;> cases h')
  | n, m, .str _, y, h, h' => by cases y <;> first | rfl | (cases m <;> cases h')
  | 0, m, .tup xs, y, h, h' => by cases h
  | 0, m, .lst xs, y, h, h' => by cases h
  | n + 1, 0, .tup xs, y, h, h' => by cases y <;> first | rfl | cases h'
  | n + 1, 0, .lst xs, y, h, h' => by cases y <;> first | rfl | cases h'
  | n + 1, m + 1, .tup xs, y, h, h' => by
    cases y with
    | tup ys => exact D.eqvL_toP (n := n) (m := m) (xs := xs) (ys := ys) h h'
    | _ => first | rfl | cases h'
  | n + 1, m + 1, .lst xs, y, h, h' => by
    cases y with
    | lst ys => exact D.eqvL_toP (n := n) (m := m) (xs := xs) (ys := ys) h h'
    | _ => first | rfl | cases h'
  | n, m, .dic _, y, h, h' => by cases n <;> cases h
  | n, m, .exc _ _ _, y, h, h' => by cases n <;> cases h
  | n, m, .obj _, y, h, h' => by cases n <;> cases h
theorem D.eqvL_toP : ∀ {n m : Nat} {xs ys : List D}, D.plainL n xs = true → D.plainL m ys = true → PyData.eqvAll (D.toPs xs) (D.toPs ys) = D.eqvL xs ys
  | n, m, [], [], h, h' => rfl
  | n, m, [], y :: ys, h, h' => rfl
  | n, m, x :: xs, [], h, h' => rfl
  | n, m, x :: xs, y :: ys, h, h' => by
    have h1 : x.plain n = true ∧ D.plainL n xs = true := Bool.and_eq_true_iff.mp h
    have h2 : y.plain m = true ∧ D.plainL m ys = true := Bool.and_eq_true_iff.mp h'
    show (PyData.eqv x.toP y.toP && PyData.eqvAll (D.toPs xs) (D.toPs ys)) = (D.eqv x y && D.eqvL xs ys)
    rw [D.eqv_toP h1.1 h2.1, D.eqvL_toP h1.2 h2.2]
end
mutual
theorem D.can_toP : ∀ {n : Nat} {x : D}, x.plain n = true → x.toP.canLay0 = true ∧ x.toP.depth ≤ n
  | n, .non, h => ⟨rfl, Nat.zero_le _⟩
  | n, .bl _, h => ⟨rfl, Nat.zero_le _⟩
  | n, .int _, h => ⟨rfl, Nat.zero_le _⟩
  | n, .str s, h => ⟨by cases n <;> exact h, Nat.zero_le _⟩
  | 0, .tup xs, h => by cases h
  | 0, .lst xs, h => by cases h
  | n + 1, .tup xs, h => let ⟨a, b⟩ := D.canL_toP (n := n) (xs := xs) h; ⟨a, Nat.succ_le_succ b⟩
  | n + 1, .lst xs, h => let ⟨a, b⟩ := D.canL_toP (n := n) (xs := xs) h; ⟨a, Nat.succ_le_succ b⟩
  | n, .dic _, h => by cases n <;> cases h
  | n, .exc _ _ _, h => by cases n <;> cases h
  | n, .obj _, h => by cases n <;> cases h
theorem D.canL_toP : ∀ {n : Nat} {xs : List D}, D.plainL n xs = true → PyData.canLayAll0 (D.toPs xs) = true ∧ PyData.depthAll (D.toPs xs) ≤ n
  | n, [], h => ⟨rfl, Nat.zero_le _⟩
  | n, x :: xs, h => by
    have h1 : x.plain n = true ∧ D.plainL n xs = true := Bool.and_eq_true_iff.mp h
    obtain ⟨a, b⟩ := D.can_toP h1.1
    obtain ⟨c, d⟩ := D.canL_toP h1.2
    exact ⟨Bool.and_eq_true_iff.mpr ⟨a, c⟩, Nat.max_le.mpr ⟨b, d⟩⟩
end
theorem D.shaped {x : D} (h : x.plain 40 = true) : SeqAt.shaped x.toP = true := by
  obtain ⟨a, b⟩ := D.can_toP h
  unfold SeqAt.shaped
  rw [a]
  exact decide_eq_true (Nat.le_trans b (by decide))
mutual
theorem Rep.dp {K : PySem.W.Frag} {W : Pr} {H : Hp} : ∀ {n : Nat} {v : V} {x : D}, Rep W H v x → x.plain n = true → Dp K H v x.toP
  | n, _, _, .non, _ => .non
  | n, _, _, .bl b, _ => .bl b
  | n, _, _, .int b, _ => .int b
  | n, _, _, .str b, _ => .str b
  | n + 1, _, _, .tup _ h l, p => .tup (.inl (.inl h)) (RepL.dp (n := n) l p)
  | n + 1, _, _, .lst _ h l, p => .lst (.inl (.inl h)) (RepL.dp (n := n) l p)
  | 0, _, _, .tup _ h l, p => nomatch p
  | 0, _, _, .lst _ h l, p => nomatch p
  | 0, _, _, .dic _ h l, p => nomatch p
  | n + 1, _, _, .dic _ h l, p => nomatch p
theorem RepL.dp {K : PySem.W.Frag} {W : Pr} {H : Hp} : ∀ {n : Nat} {v : List V} {x : List D}, RepL W H v x → D.plainL n x = true → DpAll K H v (D.toPs x)
  | n, _, _, .nil, _ => .nil
  | n, _, _, .cons r l, p => .cons (Rep.dp r (Bool.and_eq_true_iff.mp p).1) (RepL.dp l (Bool.and_eq_true_iff.mp p).2)
end
theorem RepW.dp {K : PySem.W.Frag} {W : Pr} {H : Hp} {n : Nat} {v : V} {x : D} (r : RepW K W H v x) (p : x.plain n = true) : Dp K H v x.toP := by
  cases r with
  | of r => exact r.dp p
  | tup s l => cases n with
    | zero => cases p
    | succ n => exact .tup s (RepL.dp (n := n) l p)
  | lst s l => cases n with
    | zero => cases p
    | succ n => exact .lst s (RepL.dp (n := n) l p)
  | dic s l => cases n <;> cases p
theorem toPs_any (d : D) (n m : Nat) (hd : d.plain n = true) : ∀ ys : List D, D.plainL m ys = true → ((D.toPs ys).any fun z => PyData.eqv z d.toP) = ys.any fun y => y.eqv d
  | [], _ => rfl
  | y :: ys, h => by
    have h1 : y.plain m = true ∧ D.plainL m ys = true := Bool.and_eq_true_iff.mp h
    show (PyData.eqv y.toP d.toP || (D.toPs ys).any fun z => PyData.eqv z d.toP) = (y.eqv d || ys.any fun y => y.eqv d)
    rw [D.eqv_toP h1.1 hd, toPs_any d n m hd ys h1.2]
section
variable {X : Cx} {Wx : WX} {e a b c d : Expr} {ma mb mc md : DE} {pos : Pos}
/-! ### comparisons -/
def Oc (K : PySem.W.Frag) (r : R2) (f : D → D → Rv Bool) : Prop := ∀ (W : Pr) (H : Hp) (x y : V) (dx dy : D) (b : Bool) (Q : VK),
  RepW K W H x dx → RepW K W H y dy → f dx dy = .ok b → Q (.bl b) H → r x y H Q
theorem oc_eq : Oc X.K (rEqD X.K) dEq := by
  intro W H x y dx dy b Q rx ry ef q
  unfold dEq at ef
  obtain ⟨h, rfl⟩ := if_ok ef
  obtain ⟨h1, h2⟩ := Bool.and_eq_true_iff.mp h
  exact ⟨_, _, rx.dp h1, ry.dp h2, D.shaped h1, D.shaped h2, by rw [D.eqv_toP h1 h2]; exact q⟩
theorem oc_ne : Oc X.K (rNeD X.K) dNe := by
  intro W H x y dx dy b Q rx ry ef q
  unfold dNe at ef
  obtain ⟨h, rfl⟩ := if_ok ef
  obtain ⟨h1, h2⟩ := Bool.and_eq_true_iff.mp h
  exact ⟨_, _, rx.dp h1, ry.dp h2, D.shaped h1, D.shaped h2, by rw [D.eqv_toP h1 h2]; exact q⟩
def rLtA (K : PySem.W.Frag) : R2 := fun x y H Q => rI0 (fun i j => .bl (decide (i < j))) x y H Q ∨ rLtT K x y H Q
theorem op_ltA (hu : X.A.units + 65 < cLine) : OpR X (compareOp .Lt) (rLtA X.K) := op_lt.or (op_ltT (by omega))
theorem oc_lt : Oc X.K (rLtA X.K) dLt := by
  intro W H x y dx dy b Q rx ry ef q
  unfold dLt at ef
  split at ef
  · cases ef; exact .inl ⟨_, _, rx.int', ry.int', q⟩
  · rename_i as bs
    obtain ⟨a1, vs1, rfl, s1, l1⟩ := rx.tup'
    obtain ⟨a2, vs2, rfl, s2, l2⟩ := ry.tup'
    split at ef
    · rename_i ns ms h1 h2
      cases ef
      refine .inr ⟨a1, a2, ns, ms, rfl, rfl, ?_, ?_, q⟩
      · rw [← l1.ints h1]; exact s1
      · rw [← l2.ints h2]; exact s2
    · cases ef
  · cases ef
theorem oc_int {p : Int → Int → Bool} {f : D → D → Rv Bool} (h : ∀ dx dy b, f dx dy = .ok b → ∃ i j, dx = .int i ∧ dy = .int j ∧ b = p i j) : Oc X.K (rI0 fun i j => .bl (p i j)) f := by
  intro W H x y dx dy b Q rx ry ef q
  obtain ⟨i, j, rfl, rfl, rfl⟩ := h dx dy b ef
  exact ⟨i, j, rx.int', ry.int', q⟩
theorem lexAt_shift {e r : Nat → Bool} {z : Bool} : ∀ n i : Nat, Ob.lexAt e r z (i + 1) n = Ob.lexAt (fun j => e (j + 1)) (fun j => r (j + 1)) z i n
  | 0, _ => rfl
  | n + 1, i => by rw [Ob.lexAt_succ, Ob.lexAt_succ, lexAt_shift n (i + 1)]
theorem lexAt_le : ∀ ns ms : List Int, Ob.lexAt (fun j => decide (ns.getD j 0 = ms.getD j 0)) (fun j => decide (ns.getD j 0 ≤ ms.getD j 0)) (decide (ns.length ≤ ms.length)) 0 (min ns.length ms.length) = lexLeI ns ms
  | [], ms => by rw [show min ([] : List Int).length ms.length = 0 from Nat.zero_min _]; exact decide_eq_true (Nat.zero_le _)
  | x :: xs, [] => by rfl
  | x :: xs, y :: ys => by
    rw [show min (x :: xs).length (y :: ys).length = min xs.length ys.length + 1 by simp, Ob.lexAt_succ, lexAt_shift]
    have ih := lexAt_le xs ys
    unfold lexLeI
    have e1 : decide ((x :: xs).length ≤ (y :: ys).length) = decide (xs.length ≤ ys.length) := by simp
    rw [e1]
    by_cases h : x = y
    · rw [if_pos h, if_pos (by simpa using h)]; exact ih
    · rw [if_neg h, if_neg (by simpa using h)]; rfl
def rLeA (K : PySem.W.Frag) : R2 := fun x y H Q => rI0 (fun i j => .bl (decide (i ≤ j))) x y H Q ∨ rLeT K x y H Q
theorem op_leA (hu : X.A.units + 65 < cLine) : OpR X (compareOp .LtE) (rLeA X.K) := op_le.or (op_leT (by omega))
theorem oc_le : Oc X.K (rLeA X.K) dLe := by
  intro W H x y dx dy b Q rx ry ef q
  unfold dLe at ef
  split at ef
  · cases ef; exact .inl ⟨_, _, rx.int', ry.int', q⟩
  · rename_i as bs
    obtain ⟨a1, vs1, rfl, s1, l1⟩ := rx.tup'
    obtain ⟨a2, vs2, rfl, s2, l2⟩ := ry.tup'
    split at ef
    · rename_i ns ms h1 h2
      cases ef
      refine .inr ⟨a1, a2, ns, ms, rfl, rfl, ?_, ?_, ?_⟩
      · rw [← l1.ints h1]; exact s1
      · rw [← l2.ints h2]; exact s2
      · rw [lexAt_le]; exact q
    · cases ef
  · cases ef
theorem oc_gt : Oc X.K (rI0 fun i j => .bl (decide (j < i))) dGt := oc_int fun dx dy b h => by
  unfold dGt at h
  split at h
  · cases h; exact ⟨_, _, rfl, rfl, rfl⟩
  · cases h
theorem oc_ge : Oc X.K (rI0 fun i j => .bl (decide (j ≤ i))) dGe := oc_int fun dx dy b h => by
  unfold dGe at h
  split at h
  · cases h; exact ⟨_, _, rfl, rfl, rfl⟩
  · cases h
/-- a comparison's rule and its word -/
structure CmpK (X : Cx) (op : CmpOp) (f : D → D → Rv Bool) : Prop where
  ok : ∃ r : R2, OpR X (compareOp op) r ∧ Oc X.K r f
theorem ck_eq (hu : X.A.units + 65 < cLine) : CmpK X .Eq dEq := ⟨_, op_eqD (by omega), oc_eq⟩
theorem ck_ne (hu : X.A.units + 65 < cLine) : CmpK X .NotEq dNe := ⟨_, op_neD (by omega), oc_ne⟩
theorem ck_lt (hu : X.A.units + 65 < cLine) : CmpK X .Lt dLt := ⟨_, op_ltA hu, oc_lt⟩
theorem ck_le (hu : X.A.units + 65 < cLine) : CmpK X .LtE dLe := ⟨_, op_leA hu, oc_le⟩
theorem ck_gt : CmpK X .Gt dGt := ⟨_, op_gt, oc_gt⟩
theorem ck_ge : CmpK X .GtE dGe := ⟨_, op_ge, oc_ge⟩
theorem pd_cmp {op : CmpOp} {f : D → D → Rv Bool} (ck : CmpK X op f) (ha : PD .s X Wx a ma) (hb : PD .w X Wx b mb) (hm : behindInMarks op b = false) : PD .s X Wx (.Compare a [op] [b] pos) (eB (c2 f ma mb)) := by
  obtain ⟨⟨r, ho, oc⟩⟩ := ck
  obtain ⟨ta, pa, qa⟩ := ha
  obtain ⟨tb, pb, qb⟩ := hb
  refine ⟨_, pe_cmpR ho pa pb hm, fun F O env σ H Q S w => ?_⟩
  have w := w.bind
  refine qa F O env σ H _ S (w.bind.imp (fun dx e1 w1 x H1 S1 k1 p1 => ?_) fun _ _ _ z => z)
  refine qb F O e1 σ H1 _ S1 (w1.bind.imp (fun dy e2 w2 y H2 S2 k2 p2 => ?_) (XW.later k1))
  obtain ⟨dz, ef, q⟩ := w2.of
  exact oc _ H2 x y dx dy dz Q (.of (Rep.mj k2 p1)) p2 ef (q _ H2 S2 (k1.trans k2) (.bl _))
theorem td_cmp {op : CmpOp} {f : D → D → Rv Bool} (ck : CmpK X op f) (ha : PD .s X Wx a ma) (hb : PD .w X Wx b mb) (hm : behindInMarks op b = false) : TD X Wx (.Compare a [op] [b] pos) (c2 f ma mb) := by
  obtain ⟨⟨r, ho, oc⟩⟩ := ck
  obtain ⟨ta, pa, qa⟩ := ha
  obtain ⟨tb, pb, qb⟩ := hb
  refine ⟨_, pt_cmpR ho pa pb hm, fun F O env σ H Q S w => ?_⟩
  refine qa F O env σ H _ S (w.bind.imp (fun dx e1 w1 x H1 S1 k1 p1 => ?_) fun _ _ _ z => z)
  refine qb F O e1 σ H1 _ S1 (w1.bind.imp (fun dy e2 w2 y H2 S2 k2 p2 => ?_) (XW.later k1))
  obtain ⟨dz, ef, q⟩ := w2.of
  exact oc _ H2 x y dx dy dz _ (.of (Rep.mj k2 p1)) p2 ef ⟨dz, rfl, q H2 S2 (k1.trans k2)⟩
/-- .. with a name's own object at the left -/
theorem pd_cmpL {op : CmpOp} {f : D → D → Rv Bool} {i : Nat} {x : Str} {p : Pos} (ck : CmpK X op f) (hN : X.N[i]? = some x) (hv : Vis X.env.scope x) (hb : PD .w X Wx b mb) (hm : behindInMarks op b = false)
    (hd : (x == ("__debug__" : Str)) = false := by decide) (hcd : (x == ("__classdict__" : Str)) = false := by decide) : PD .s X Wx (.Compare (.Name x p) [op] [b] pos) (eB (c2L f i mb)) := by
  obtain ⟨⟨r, ho, oc⟩⟩ := ck
  obtain ⟨tb, pb, qb⟩ := hb
  refine ⟨_, pe_cmpR ho (pe_var hN hv hd hcd) pb hm, fun F O env σ H Q S w => ?_⟩
  have w := w.bind
  obtain ⟨v, d, e, r, w⟩ := w.bind.tmp S
  refine ⟨v, get1_some e, ?_⟩
  refine qb F O env σ H _ S (w.bind.imp (fun dy e2 w2 y H2 S2 k2 p2 => ?_) fun _ _ _ z => z)
  obtain ⟨v', dx, ex, rx, w3⟩ := w2.bind.tmp S2
  obtain rfl : v' = v := Option.some.inj (ex.symm.trans e)
  obtain ⟨dz, ef, q⟩ := w3.of
  exact oc _ H2 v' y dx dy dz Q rx p2 ef (q _ H2 S2 k2 (.bl _))
theorem td_cmpL {op : CmpOp} {f : D → D → Rv Bool} {i : Nat} {x : Str} {p : Pos} (ck : CmpK X op f) (hN : X.N[i]? = some x) (hv : Vis X.env.scope x) (hb : PD .w X Wx b mb) (hm : behindInMarks op b = false)
    (hd : (x == ("__debug__" : Str)) = false := by decide) (hcd : (x == ("__classdict__" : Str)) = false := by decide) : TD X Wx (.Compare (.Name x p) [op] [b] pos) (c2L f i mb) := by
  obtain ⟨⟨r, ho, oc⟩⟩ := ck
  obtain ⟨tb, pb, qb⟩ := hb
  refine ⟨_, pt_cmpR ho (pe_var hN hv hd hcd) pb hm, fun F O env σ H Q S w => ?_⟩
  obtain ⟨v, d, e, r, w⟩ := w.bind.tmp S
  refine ⟨v, get1_some e, ?_⟩
  refine qb F O env σ H _ S (w.bind.imp (fun dy e2 w2 y H2 S2 k2 p2 => ?_) fun _ _ _ z => z)
  obtain ⟨v', dx, ex, rx, w3⟩ := w2.bind.tmp S2
  obtain rfl : v' = v := Option.some.inj (ex.symm.trans e)
  obtain ⟨dz, ef, q⟩ := w3.of
  exact oc _ H2 v' y dx dy dz _ rx p2 ef ⟨dz, rfl, q H2 S2 k2⟩
/-- is None -/
theorem isN_dec {K : PySem.W.Frag} {W : Pr} {H : Hp} {v : V} {d : D} (r : RepW K W H v d) : decide (v = .non) = dIsN d := by
  cases r with
  | of r => cases r <;> first | rfl | exact decide_eq_false (fun z => nomatch z)
  | _ => exact decide_eq_false (fun z => nomatch z)
theorem pd_isN {j : Nat} {p : Pos} (ha : PD .w X Wx a ma) : PD .s X Wx (.Compare a [.Is] [.Constant .none j p] pos) (eB (tIsN ma)) := by
  obtain ⟨ta, pa, qa⟩ := ha
  refine ⟨_, pe_cmp (pc_isN pa), fun F O env σ H Q S w => ?_⟩
  refine qa F O env σ H _ S (w.bind.bind.imp (fun dx e1 w1 x H1 S1 k1 p1 => ?_) fun _ _ _ z => z)
  rw [isN_dec p1]
  exact w1 _ H1 S1 k1 (.bl _)
theorem td_isN {j : Nat} {p : Pos} (ha : PD .w X Wx a ma) : TD X Wx (.Compare a [.Is] [.Constant .none j p] pos) (tIsN ma) := by
  obtain ⟨ta, pa, qa⟩ := ha
  refine ⟨_, pt_cmp (pc_isN pa), fun F O env σ H Q S w => ?_⟩
  refine qa F O env σ H _ S (w.bind.imp (fun dx e1 w1 x H1 S1 k1 p1 => ?_) fun _ _ _ z => z)
  rw [isN_dec p1]
  exact ⟨_, rfl, w1 H1 S1 k1⟩
theorem pd_notN {j : Nat} {p : Pos} (ha : PD .w X Wx a ma) : PD .s X Wx (.Compare a [.IsNot] [.Constant .none j p] pos) (eB (tNotN ma)) := by
  obtain ⟨ta, pa, qa⟩ := ha
  refine ⟨_, pe_cmp (pc_notN pa), fun F O env σ H Q S w => ?_⟩
  refine qa F O env σ H _ S (w.bind.bind.imp (fun dx e1 w1 x H1 S1 k1 p1 => ?_) fun _ _ _ z => z)
  rw [isN_dec p1]
  exact w1 _ H1 S1 k1 (.bl _)
theorem td_notN {j : Nat} {p : Pos} (ha : PD .w X Wx a ma) : TD X Wx (.Compare a [.IsNot] [.Constant .none j p] pos) (tNotN ma) := by
  obtain ⟨ta, pa, qa⟩ := ha
  refine ⟨_, pt_cmp (pc_notN pa), fun F O env σ H Q S w => ?_⟩
  refine qa F O env σ H _ S (w.bind.imp (fun dx e1 w1 x H1 S1 k1 p1 => ?_) fun _ _ _ z => z)
  rw [isN_dec p1]
  exact ⟨_, rfl, w1 H1 S1 k1⟩
/-! ### chains -/
theorem pd_chain {op op' : CmpOp} {f g : D → D → Rv Bool} (ck : CmpK X op f) (ck' : CmpK X op' g) (ha : PD .s X Wx a ma) (hb : PD .s X Wx b mb) (hc : PD .w X Wx c mc)
    (hm : lastMarks [op, op'] [b, c] = false := by with_unfolding_all rfl) : PD .s X Wx (.Compare a [op, op'] [b, c] pos) (eB (c3 f g ma mb mc)) := by
  obtain ⟨⟨r, ho, oc⟩⟩ := ck
  obtain ⟨⟨r', ho', oc'⟩⟩ := ck'
  obtain ⟨ta, pa, qa⟩ := ha
  obtain ⟨tb, pb, qb⟩ := hb
  obtain ⟨tc, pc, qc⟩ := hc
  refine ⟨_, pe_chain ho ho' pa pb pc hm, fun F O env σ H Q S w => ?_⟩
  have w := w.bind
  refine qa F O env σ H _ S (w.bind.imp (fun dx e1 w1 x H1 S1 k1 p1 => ?_) fun _ _ _ z => z)
  refine qb F O e1 σ H1 _ S1 (w1.bind.imp (fun dy e2 w2 y H2 S2 k2 p2 => ?_) (XW.later k1))
  obtain ⟨k, ef, w3⟩ := w2.bind.of
  refine oc _ H2 x y dx dy k _ (.of (Rep.mj k2 p1)) (.of p2) ef ⟨k, rfl, ?_⟩
  cases k with
  | false => exact w3 _ H2 S2 (k1.trans k2) (.bl _)
  | true =>
    refine qc F O e2 σ H2 _ S2 (w3.bind.imp (fun dz e3 w4 z H3 S3 k3 p3 => ?_) (XW.later (k1.trans k2)))
    obtain ⟨l, eg, q⟩ := w4.of
    exact oc' _ H3 y z dy dz l Q (.of (Rep.mj k3 p2)) p3 eg (q _ H3 S3 (k1.trans (k2.trans k3)) (.bl _))
theorem td_chain {op op' : CmpOp} {f g : D → D → Rv Bool} (ck : CmpK X op f) (ck' : CmpK X op' g) (ha : PD .s X Wx a ma) (hb : PD .s X Wx b mb) (hc : PD .w X Wx c mc)
    (hm : lastMarks [op, op'] [b, c] = false := by with_unfolding_all rfl) : TD X Wx (.Compare a [op, op'] [b, c] pos) (c3 f g ma mb mc) := by
  obtain ⟨⟨r, ho, oc⟩⟩ := ck
  obtain ⟨⟨r', ho', oc'⟩⟩ := ck'
  obtain ⟨ta, pa, qa⟩ := ha
  obtain ⟨tb, pb, qb⟩ := hb
  obtain ⟨tc, pc, qc⟩ := hc
  refine ⟨_, pt_chain ho ho' pa pb pc hm, fun F O env σ H Q S w => ?_⟩
  refine qa F O env σ H _ S (w.bind.imp (fun dx e1 w1 x H1 S1 k1 p1 => ?_) fun _ _ _ z => z)
  refine qb F O e1 σ H1 _ S1 (w1.bind.imp (fun dy e2 w2 y H2 S2 k2 p2 => ?_) (XW.later k1))
  obtain ⟨k, ef, w3⟩ := w2.bind.of
  refine oc _ H2 x y dx dy k _ (.of (Rep.mj k2 p1)) (.of p2) ef ⟨k, rfl, ?_⟩
  cases k with
  | false => exact ⟨false, rfl, w3 H2 S2 (k1.trans k2)⟩
  | true =>
    refine qc F O e2 σ H2 _ S2 (w3.bind.imp (fun dz e3 w4 z H3 S3 k3 p3 => ?_) (XW.later (k1.trans k2)))
    obtain ⟨l, eg, q⟩ := w4.of
    exact oc' _ H3 y z dy dz l _ (.of (Rep.mj k3 p2)) p3 eg ⟨l, rfl, q H3 S3 (k1.trans (k2.trans k3))⟩
end
end AH
namespace AH
open PySem PySem.Spec PyProof.Rows L2
variable [TheK]
section
variable {X : Cx} {Wx : WX} {e a b c d : Expr} {ma mb mc md : DE} {pos : Pos}
/-! ### a < b < c < d -/
def tChain4 (r r' r'' : R2) (ta tb tc td : TE) : TE := fun σ H Q => ta σ H fun x H1 => tb σ H1 fun y H2 => r x y H2 fun z H3 => ∃ k, z = .bl k ∧
  (if k = true then tc σ H3 fun z H4 => r' y z H4 fun z2 H5 => ∃ k, z2 = .bl k ∧ (if k = true then td σ H5 fun u H6 => r'' z u H6 Q else Q (.bl false) H5) else Q (.bl false) H3)
theorem pe_chain4 {op op' op'' : CmpOp} {r r' r'' : R2} {ta tb tc td : TE} (ho : OpR X (compareOp op) r) (ho' : OpR X (compareOp op') r') (ho'' : OpR X (compareOp op'') r'') (ha : PE X a ta) (hb : PE X b tb) (hc : PE X c tc) (hd : PE X d td)
    (hm : lastMarks [op, op', op''] [b, c, d] = false := by with_unfolding_all rfl) : PE X (.Compare a [op, op', op''] [b, c, d] pos) (tChain4 r r' r'' ta tb tc td) := by
  refine ⟨fun pins s σ H Q I h => ?_⟩
  refine Compare_chain (thn (ha.run pins s σ H _ I h) fun v s1 ⟨x, H1, I1, r1, q1⟩ => chain_link (thn (hb.run pins s1 σ H1 _ I1 q1) fun u s2 ⟨y, H2, I2, r2, q2⟩ =>
    thn (ho pins s2 σ H2 x y v u _ I2 r1 r2 q2) fun d s3 ⟨z, H3, I3, r3, k, e, q3⟩ => ?_)) hm
  subst e
  cases r3
  refine wpAny_truthy_bool ?_
  cases k with
  | false => exact ite_ff ⟨.bl false, H3, I3, rfl, q3⟩
  | true =>
    refine ite_tt (chain_link (thn (hc.run pins s3 σ H3 _ I3 q3) fun u2 s4 ⟨y2, H4, I4, r4, q4⟩ => thn (ho' pins s4 σ H4 y y2 u u2 _ I4 r2 r4 q4) fun d2 s5 ⟨z2, H5, I5, r5, k2, e2, q5⟩ => ?_))
    subst e2
    cases r5
    refine wpAny_truthy_bool ?_
    cases k2 with
    | false => exact ite_ff ⟨.bl false, H5, I5, rfl, q5⟩
    | true => exact ite_tt (chain_last (thn (hd.run pins s5 σ H5 _ I5 q5) fun w' s6 ⟨z', H6, I6, r6, q6⟩ => ho'' pins s6 σ H6 y2 z' u2 w' Q I6 r4 r6 q6))
theorem pt_chain4 {op op' op'' : CmpOp} {r r' r'' : R2} {ta tb tc td : TE} (ho : OpR X (compareOp op) r) (ho' : OpR X (compareOp op') r') (ho'' : OpR X (compareOp op'') r'') (ha : PE X a ta) (hb : PE X b tb) (hc : PE X c tc) (hd : PE X d td)
    (hm : lastMarks [op, op', op''] [b, c, d] = false := by with_unfolding_all rfl) : PT X (.Compare a [op, op', op''] [b, c, d] pos) (tTest (tChain4 r r' r'' ta tb tc td)) := by
  refine ⟨fun pins s σ H Q I h => ?_⟩
  refine isTrue_chain (thn (ha.run pins s σ H _ I h) fun v s1 ⟨x, H1, I1, r1, q1⟩ => test_link (thn (hb.run pins s1 σ H1 _ I1 q1) fun u s2 ⟨y, H2, I2, r2, q2⟩ =>
    thn (ho pins s2 σ H2 x y v u _ I2 r1 r2 q2) fun d s3 ⟨z, H3, I3, r3, k, e, q3⟩ => ?_)) hm
  subst e
  cases r3
  refine wpAny_truthy_bool ?_
  cases k with
  | false =>
    obtain ⟨k', e', q'⟩ := q3
    cases e'
    exact ite_ff ⟨H3, I3, q'⟩
  | true =>
    refine ite_tt (test_link (thn (hc.run pins s3 σ H3 _ I3 q3) fun u2 s4 ⟨y2, H4, I4, r4, q4⟩ => thn (ho' pins s4 σ H4 y y2 u u2 _ I4 r2 r4 q4) fun d2 s5 ⟨z2, H5, I5, r5, k2, e2, q5⟩ => ?_))
    subst e2
    cases r5
    refine wpAny_truthy_bool ?_
    cases k2 with
    | false =>
      obtain ⟨k', e', q'⟩ := q5
      cases e'
      exact ite_ff ⟨H5, I5, q'⟩
    | true =>
      refine ite_tt (test_last (thn (hd.run pins s5 σ H5 _ I5 q5) fun w' s6 ⟨z', H6, I6, r6, q6⟩ => thn (ho'' pins s6 σ H6 y2 z' u2 w' _ I6 r4 r6 q6) fun d' s7 ⟨z7, H7, I7, r7, k7, e7, q7⟩ => ?_))
      subst e7
      cases r7
      exact wpAny_truthy_bool ⟨H7, I7, q7⟩
theorem td_chain4 {op op' op'' : CmpOp} {f g h : D → D → Rv Bool} (ck : CmpK X op f) (ck' : CmpK X op' g) (ck'' : CmpK X op'' h) (ha : PD .s X Wx a ma) (hb : PD .s X Wx b mb) (hc : PD .s X Wx c mc) (hd : PD .w X Wx d md)
    (hm : lastMarks [op, op', op''] [b, c, d] = false := by with_unfolding_all rfl) : TD X Wx (.Compare a [op, op', op''] [b, c, d] pos) (c4 f g h ma mb mc md) := by
  obtain ⟨⟨r, ho, oc⟩⟩ := ck
  obtain ⟨⟨r', ho', oc'⟩⟩ := ck'
  obtain ⟨⟨r'', ho'', oc''⟩⟩ := ck''
  obtain ⟨ta, pa, qa⟩ := ha
  obtain ⟨tb, pb, qb⟩ := hb
  obtain ⟨tc, pc, qc⟩ := hc
  obtain ⟨td, pd, qd⟩ := hd
  refine ⟨_, pt_chain4 ho ho' ho'' pa pb pc pd hm, fun F O env σ H Q S w => ?_⟩
  refine qa F O env σ H _ S (w.bind.imp (fun dx e1 w1 x H1 S1 k1 p1 => ?_) fun _ _ _ z => z)
  refine qb F O e1 σ H1 _ S1 (w1.bind.imp (fun dy e2 w2 y H2 S2 k2 p2 => ?_) (XW.later k1))
  obtain ⟨k, ef, w3⟩ := w2.bind.of
  refine oc _ H2 x y dx dy k _ (.of (Rep.mj k2 p1)) (.of p2) ef ⟨k, rfl, ?_⟩
  cases k with
  | false => exact ⟨false, rfl, w3 H2 S2 (k1.trans k2)⟩
  | true =>
    refine qc F O e2 σ H2 _ S2 (w3.bind.imp (fun dz e3 w4 z H3 S3 k3 p3 => ?_) (XW.later (k1.trans k2)))
    obtain ⟨l, eg, w5⟩ := w4.bind.of
    refine oc' _ H3 y z dy dz l _ (.of (Rep.mj k3 p2)) (.of p3) eg ⟨l, rfl, ?_⟩
    cases l with
    | false => exact ⟨false, rfl, w5 H3 S3 (k1.trans (k2.trans k3))⟩
    | true =>
      refine qd F O e3 σ H3 _ S3 (w5.bind.imp (fun du e4 w6 u H4 S4 k4 p4 => ?_) (XW.later (k1.trans (k2.trans k3))))
      obtain ⟨m, eh, q⟩ := w6.of
      exact oc'' _ H4 z u dz du m _ (.of (Rep.mj k4 p3)) p4 eh ⟨m, rfl, q H4 S4 (k1.trans (k2.trans (k3.trans k4)))⟩
theorem pd_chain4 {op op' op'' : CmpOp} {f g h : D → D → Rv Bool} (ck : CmpK X op f) (ck' : CmpK X op' g) (ck'' : CmpK X op'' h) (ha : PD .s X Wx a ma) (hb : PD .s X Wx b mb) (hc : PD .s X Wx c mc) (hd : PD .w X Wx d md)
    (hm : lastMarks [op, op', op''] [b, c, d] = false := by with_unfolding_all rfl) : PD .s X Wx (.Compare a [op, op', op''] [b, c, d] pos) (eB (c4 f g h ma mb mc md)) := by
  obtain ⟨⟨r, ho, oc⟩⟩ := ck
  obtain ⟨⟨r', ho', oc'⟩⟩ := ck'
  obtain ⟨⟨r'', ho'', oc''⟩⟩ := ck''
  obtain ⟨ta, pa, qa⟩ := ha
  obtain ⟨tb, pb, qb⟩ := hb
  obtain ⟨tc, pc, qc⟩ := hc
  obtain ⟨td, pd, qd⟩ := hd
  refine ⟨_, pe_chain4 ho ho' ho'' pa pb pc pd hm, fun F O env σ H Q S w => ?_⟩
  have w := w.bind
  refine qa F O env σ H _ S (w.bind.imp (fun dx e1 w1 x H1 S1 k1 p1 => ?_) fun _ _ _ z => z)
  refine qb F O e1 σ H1 _ S1 (w1.bind.imp (fun dy e2 w2 y H2 S2 k2 p2 => ?_) (XW.later k1))
  obtain ⟨k, ef, w3⟩ := w2.bind.of
  refine oc _ H2 x y dx dy k _ (.of (Rep.mj k2 p1)) (.of p2) ef ⟨k, rfl, ?_⟩
  cases k with
  | false => exact w3 _ H2 S2 (k1.trans k2) (.bl _)
  | true =>
    refine qc F O e2 σ H2 _ S2 (w3.bind.imp (fun dz e3 w4 z H3 S3 k3 p3 => ?_) (XW.later (k1.trans k2)))
    obtain ⟨l, eg, w5⟩ := w4.bind.of
    refine oc' _ H3 y z dy dz l _ (.of (Rep.mj k3 p2)) (.of p3) eg ⟨l, rfl, ?_⟩
    cases l with
    | false => exact w5 _ H3 S3 (k1.trans (k2.trans k3)) (.bl _)
    | true =>
      refine qd F O e3 σ H3 _ S3 (w5.bind.imp (fun du e4 w6 u H4 S4 k4 p4 => ?_) (XW.later (k1.trans (k2.trans k3))))
      obtain ⟨m, eh, q⟩ := w6.of
      exact oc'' _ H4 z u dz du m _ (.of (Rep.mj k4 p3)) p4 eh (q _ H4 S4 (k1.trans (k2.trans (k3.trans k4))) (.bl _))
/-! ### in -/
def rInT (K : PySem.W.Frag) : R2 := fun x y H Q => ∃ d ds, Dp K H x d ∧ Dp K H y (.tuple ds) ∧ SeqAt.shaped d = true ∧ SeqAt.shaped (.tuple ds) = true ∧ Q (.bl (ds.any fun z => PyData.eqv z d)) H
def rNotInT (K : PySem.W.Frag) : R2 := fun x y H Q => ∃ d ds, Dp K H x d ∧ Dp K H y (.tuple ds) ∧ SeqAt.shaped d = true ∧ SeqAt.shaped (.tuple ds) = true ∧ Q (.bl (!ds.any fun z => PyData.eqv z d)) H
theorem op_inT (hu : X.A.units + 65 < cLine) : OpR X (compareOp .In) (rInT X.K) := by
  intro pins s σ H x y v u Q I rx ry h
  obtain ⟨d, ds, hd, he, sd, se, q⟩ := h
  obtain ⟨as, r1⟩ := Dp.reads I d x v hd rx
  obtain ⟨bs, r2⟩ := Dp.reads I (.tuple ds) y u he ry
  exact SeqAt.in_tuple_reads r2 r1 (SeqAt.canLay_of_shaped se) (SeqAt.canLay_of_shaped sd) (room_in_shaped sd hu) ⟨.bl _, H, I, rfl, q⟩
theorem op_notInT (hu : X.A.units + 65 < cLine) : OpR X (compareOp .NotIn) (rNotInT X.K) := by
  intro pins s σ H x y v u Q I rx ry h
  obtain ⟨d, ds, hd, he, sd, se, q⟩ := h
  obtain ⟨as, r1⟩ := Dp.reads I d x v hd rx
  obtain ⟨bs, r2⟩ := Dp.reads I (.tuple ds) y u he ry
  exact SeqAt.notIn_tuple_reads r2 r1 (SeqAt.canLay_of_shaped se) (SeqAt.canLay_of_shaped sd) (room_in_shaped sd hu) ⟨.bl _, H, I, rfl, q⟩
def rInK : R2 := fun y x H Q => ∃ a o, x = .ref a ∧ DGet H a y o ∧ Q (.bl o.isSome) H
def rNotInK : R2 := fun y x H Q => ∃ a o, x = .ref a ∧ DGet H a y o ∧ Q (.bl (!o.isSome)) H
theorem op_inK (hu : X.A.units + 65 < cLine) : OpR X (compareOp .In) rInK := by
  intro pins s σ H x y v u Q I rx ry h
  obtain ⟨a, o, rfl, g, q⟩ := h
  cases ry
  exact d_in (by omega) I g rx fun s3 I3 => ⟨.bl o.isSome, H, I3, rfl, q⟩
theorem op_notInK (hu : X.A.units + 65 < cLine) : OpR X (compareOp .NotIn) rNotInK := by
  intro pins s σ H x y v u Q I rx ry h
  obtain ⟨a, o, rfl, g, q⟩ := h
  cases ry
  exact d_notIn (by omega) I g rx fun s3 I3 => ⟨.bl (!o.isSome), H, I3, rfl, q⟩
theorem keyI_rep {K : PySem.W.Frag} {W : Pr} {H : Hp} {v : V} {d : D} {k : Key} (r : Rep W H v d) (h : keyI d = some k) : v = kV k := by
  cases r <;> first | (cases h; rfl) | cases h
theorem keysL_rep {W : Pr} {H : Hp} : ∀ {vs : List V} {ds : List D} {ks : List Key}, RepL W H vs ds → keysL ds = some ks → vs = ks.map kV
  | _, _, _, .nil, h => by cases h; rfl
  | _, _, ks, .cons (d := d) (ds := ds) r l, h => by
    unfold keysL at h
    cases h1 : keyI d with
    | none => rw [h1] at h; cases h
    | some k =>
      cases h2 : keysL ds with
      | none => rw [h1, h2] at h; cases h
      | some ks' =>
        rw [h1, h2] at h
        cases h
        rw [List.map_cons, keysL_rep l h2, keyI_rep (K := []) r h1]
theorem keyD_rep {W : Pr} {H : Hp} {v : V} {d : D} {k : List Key} (r : Rep W H v d) (h : keyD d = some k) : ∃ b, v = .ref b ∧ H b = some (.tup (k.map kV)) := by
  cases r with
  | tup n h1 l => exact ⟨_, rfl, by rw [← keysL_rep l h]; exact h1⟩
  | _ => cases h
theorem RepK.val {W : Pr} {H : Hp} (k : List Key) : ∀ {ks : List (List Key × V)} {kvs : List (List Key × D)}, RepK W H ks kvs → (valV ks k = none ∧ dget kvs k = none) ∨ ∃ v d, valV ks k = some v ∧ dget kvs k = some d ∧ Rep W H v d
  | _, _, .nil => .inl ⟨rfl, rfl⟩
  | _, _, .cons (k := k') r l => by
    by_cases e : k' = k
    · refine .inr ⟨_, _, valV_pos e, ?_, r⟩
      unfold dget
      simp [List.find?_cons, e]
    · rcases RepK.val k l with ⟨h1, h2⟩ | ⟨v, d, h1, h2, h3⟩
      · refine .inl ⟨by rw [valV_neg e]; exact h1, ?_⟩
        unfold dget at h2 ⊢
        simp [List.find?_cons, e]
        simpa using h2
      · refine .inr ⟨v, d, by rw [valV_neg e]; exact h1, ?_, h3⟩
        unfold dget at h2 ⊢
        simp [List.find?_cons, e]
        simpa using h2
theorem dget_of {W : Pr} {H : Hp} {a b : Addr} {ks : List (List Key × V)} {kvs : List (List Key × D)} {k : List Key} (r : RepK W H ks kvs) (ha : Rd H a (.dT ks)) (hb : H b = some (.tup (k.map kV))) : DGet H a (.ref b) (valV ks k) := .inr ⟨ks, k, b, ha, rfl, hb, rfl⟩
def rInA (K : PySem.W.Frag) : R2 := fun x y H Q => rInD K x y H Q ∨ rInT K x y H Q ∨ rInK x y H Q
def rNotInA (K : PySem.W.Frag) : R2 := fun x y H Q => rNotInD K x y H Q ∨ rNotInT K x y H Q ∨ rNotInK x y H Q
def dNotIn (x y : D) : Rv Bool := match dIn x y with
  | .ok b => .ok (!b)
  | .bad => .bad
/-- what stands at the left stays -/
def Oi (K : PySem.W.Frag) (r : R2) (f : D → D → Rv Bool) : Prop := ∀ (W : Pr) (H : Hp) (x y : V) (dx dy : D) (b : Bool) (Q : VK),
  Rep W H x dx → RepW K W H y dy → f dx dy = .ok b → Q (.bl b) H → r x y H Q
theorem plain_succ {xs : List D} (h : D.plainL 39 xs = true) : (D.lst xs).plain 40 = true := h
theorem oi_in : Oi X.K (rInA X.K) dIn := by
  intro W H x y dx dy b Q rx ry ef q
  unfold dIn at ef
  split at ef
  · rename_i ys
    obtain ⟨h, rfl⟩ := if_ok ef
    obtain ⟨h1, h2⟩ := Bool.and_eq_true_iff.mp h
    exact .inl ⟨_, _, rx.dp h1, ry.dp (n := 40) h2, D.shaped h1, D.shaped (x := .lst ys) h2, by rw [toPs_any dx 40 39 h1 ys h2]; exact q⟩
  · rename_i ys
    obtain ⟨h, rfl⟩ := if_ok ef
    obtain ⟨h1, h2⟩ := Bool.and_eq_true_iff.mp h
    exact .inr (.inl ⟨_, _, rx.dp h1, ry.dp (n := 40) h2, D.shaped h1, D.shaped (x := .tup ys) h2, by rw [toPs_any dx 40 39 h1 ys h2]; exact q⟩)
  · rename_i kvs
    split at ef
    · rename_i k hk
      cases ef
      obtain ⟨a, ks, rfl, ha, l⟩ := ry.dic'
      obtain ⟨b, rfl, hb⟩ := keyD_rep rx hk
      refine .inr (.inr ⟨a, _, rfl, dget_of l ha hb, ?_⟩)
      rcases l.val k with ⟨h1, h2⟩ | ⟨v, d, h1, h2, _⟩
      · rw [h2] at q; rw [h1]; exact q
      · rw [h2] at q; rw [h1]; exact q
    · cases ef
  · cases ef
theorem oi_notIn : Oi X.K (rNotInA X.K) dNotIn := by
  intro W H x y dx dy b Q rx ry ef q
  unfold dNotIn at ef
  cases h : dIn dx dy with
  | bad => rw [h] at ef; cases ef
  | ok c =>
    rw [h] at ef
    cases ef
    rcases oi_in (X := X) W H x y dx dy c (fun z H' => z = .bl c ∧ H' = H) rx ry h ⟨rfl, rfl⟩ with h | h | h
    · obtain ⟨d, ds, h1, h2, h3, h4, e, _⟩ := h
      exact .inl ⟨d, ds, h1, h2, h3, h4, by cases e; exact q⟩
    · obtain ⟨d, ds, h1, h2, h3, h4, e, _⟩ := h
      exact .inr (.inl ⟨d, ds, h1, h2, h3, h4, by cases e; exact q⟩)
    · obtain ⟨a, o, h1, h2, e, _⟩ := h
      exact .inr (.inr ⟨a, o, h1, h2, by cases e; exact q⟩)
structure InK (X : Cx) (op : CmpOp) (f : D → D → Rv Bool) : Prop where
  ok : ∃ r : R2, OpR X (compareOp op) r ∧ Oi X.K r f
theorem ik_in (hu : X.A.units + 65 < cLine) : InK X .In dIn := ⟨_, (op_inD hu).or ((op_inT hu).or (op_inK hu)), oi_in⟩
theorem ik_notIn (hu : X.A.units + 65 < cLine) : InK X .NotIn dNotIn := ⟨_, (op_notInD hu).or ((op_notInT hu).or (op_notInK hu)), oi_notIn⟩
theorem pd_in {op : CmpOp} {f : D → D → Rv Bool} (ck : InK X op f) (ha : PD .s X Wx a ma) (hb : PD .w X Wx b mb) (hm : behindInMarks op b = false) : PD .s X Wx (.Compare a [op] [b] pos) (eB (c2 f ma mb)) := by
  obtain ⟨⟨r, ho, oc⟩⟩ := ck
  obtain ⟨ta, pa, qa⟩ := ha
  obtain ⟨tb, pb, qb⟩ := hb
  refine ⟨_, pe_cmpR ho pa pb hm, fun F O env σ H Q S w => ?_⟩
  have w := w.bind
  refine qa F O env σ H _ S (w.bind.imp (fun dx e1 w1 x H1 S1 k1 p1 => ?_) fun _ _ _ z => z)
  refine qb F O e1 σ H1 _ S1 (w1.bind.imp (fun dy e2 w2 y H2 S2 k2 p2 => ?_) (XW.later k1))
  obtain ⟨dz, ef, q⟩ := w2.of
  exact oc _ H2 x y dx dy dz Q (Rep.mj k2 p1) p2 ef (q _ H2 S2 (k1.trans k2) (.bl _))
theorem td_in {op : CmpOp} {f : D → D → Rv Bool} (ck : InK X op f) (ha : PD .s X Wx a ma) (hb : PD .w X Wx b mb) (hm : behindInMarks op b = false) : TD X Wx (.Compare a [op] [b] pos) (c2 f ma mb) := by
  obtain ⟨⟨r, ho, oc⟩⟩ := ck
  obtain ⟨ta, pa, qa⟩ := ha
  obtain ⟨tb, pb, qb⟩ := hb
  refine ⟨_, pt_cmpR ho pa pb hm, fun F O env σ H Q S w => ?_⟩
  refine qa F O env σ H _ S (w.bind.imp (fun dx e1 w1 x H1 S1 k1 p1 => ?_) fun _ _ _ z => z)
  refine qb F O e1 σ H1 _ S1 (w1.bind.imp (fun dy e2 w2 y H2 S2 k2 p2 => ?_) (XW.later k1))
  obtain ⟨dz, ef, q⟩ := w2.of
  exact oc _ H2 x y dx dy dz _ (Rep.mj k2 p1) p2 ef ⟨dz, rfl, q H2 S2 (k1.trans k2)⟩
/-! ### and, or, not, if -/
theorem td_val (ha : PD .s X Wx a ma) (he : ∀ whole, isTrue a X.env whole = (do let v ← whole; standAt a.pos; holding [v] (truthy v)) := by intro _; rfl) : TD X Wx a (tV ma) := by
  obtain ⟨ta, pa, qa⟩ := ha
  refine ⟨_, pt_val pa he, fun F O env σ H Q S w => ?_⟩
  refine qa F O env σ H _ S (w.bind.imp (fun dx e1 w1 x H1 S1 k1 p1 => ?_) fun _ _ _ z => z)
  cases p1 with
  | bl b => exact ⟨b, rfl, w1 H1 S1 k1⟩
  | _ => exact w1.elim
theorem td_not {m : DT} (h : TD X Wx a m) : TD X Wx (.UnaryOp .Not a pos) (AH.tNot m) := by
  obtain ⟨t, p, q⟩ := h
  exact ⟨_, pt_not p, fun F O env σ H Q S w => q F O env σ H _ S (w.bind.imp (fun b e1 w1 H1 S1 k1 => w1 H1 S1 k1) fun _ _ _ z => z)⟩
theorem wd_and1 {m : DT} (h : TD X Wx a m) : WD X Wx (.BoolOp .And [a] pos) m := let ⟨t, p, q⟩ := h; ⟨t, pw_and1 p, q⟩
theorem wd_or1 {m : DT} (h : TD X Wx a m) : WD X Wx (.BoolOp .Or [a] pos) m := let ⟨t, p, q⟩ := h; ⟨t, pw_or1 p, q⟩
theorem wd_and {m n : DT} {rest : List Expr} (h : TD X Wx a m) (h' : WD X Wx (.BoolOp .And (b :: rest) pos) n) : WD X Wx (.BoolOp .And (a :: b :: rest) pos) (AH.tAnd m n) := by
  obtain ⟨t, p, q⟩ := h
  obtain ⟨t', p', q'⟩ := h'
  refine ⟨_, pw_and p p', fun F O env σ H Q S w => q F O env σ H _ S (w.bind.imp (fun b e1 w1 H1 S1 k1 => ?_) fun _ _ _ z => z)⟩
  cases b with
  | true => exact q' F O e1 σ H1 _ S1 (Want.imp (m := n) w1 (fun b e2 w2 H2 S2 k2 => w2 H2 S2 (k1.trans k2)) (XW.later k1))
  | false => exact w1 H1 S1 k1
theorem wd_or {m n : DT} {rest : List Expr} (h : TD X Wx a m) (h' : WD X Wx (.BoolOp .Or (b :: rest) pos) n) : WD X Wx (.BoolOp .Or (a :: b :: rest) pos) (AH.tOr m n) := by
  obtain ⟨t, p, q⟩ := h
  obtain ⟨t', p', q'⟩ := h'
  refine ⟨_, pw_or p p', fun F O env σ H Q S w => q F O env σ H _ S (w.bind.imp (fun b e1 w1 H1 S1 k1 => ?_) fun _ _ _ z => z)⟩
  cases b with
  | false => exact q' F O e1 σ H1 _ S1 (Want.imp (m := n) w1 (fun b e2 w2 H2 S2 k2 => w2 H2 S2 (k1.trans k2)) (XW.later k1))
  | true => exact w1 H1 S1 k1
theorem pd_if {fl : Fl} {m : DT} (hc : TD X Wx c m) (ha : PD fl X Wx a ma) (hb : PD fl X Wx b mb) : PD fl X Wx (.IfExp c a b pos) (eIf m ma mb) := by
  obtain ⟨t, p, q⟩ := hc
  obtain ⟨ta, pa, qa⟩ := ha
  obtain ⟨tb, pb, qb⟩ := hb
  refine ⟨_, pe_ifExp p pa pb, fun F O env σ H Q S w => q F O env σ H _ S (w.bind.imp (fun b e1 w1 H1 S1 k1 => ?_) fun _ _ _ z => z)⟩
  cases b with
  | true => exact qa F O e1 σ H1 _ S1 (Want.imp (m := ma) w1 (fun d e2 w2 v H2 S2 k2 r => w2 v H2 S2 (k1.trans k2) (r.back k1)) (XW.later k1))
  | false => exact qb F O e1 σ H1 _ S1 (Want.imp (m := mb) w1 (fun d e2 w2 v H2 S2 k2 r => w2 v H2 S2 (k1.trans k2) (r.back k1)) (XW.later k1))
theorem pd_one {fl : Fl} {op : BoolOp} (h : PD fl X Wx a ma) : PD fl X Wx (.BoolOp op [a] pos) ma := let ⟨t, p, q⟩ := h; ⟨t, pe_one p, q⟩
theorem pd_and {rest : List Expr} (ha : PD .s X Wx a ma) (hb : PD .s X Wx (.BoolOp .And (b :: rest) pos) mb) : PD .s X Wx (.BoolOp .And (a :: b :: rest) pos) (eAnd ma mb) := by
  obtain ⟨ta, pa, qa⟩ := ha
  obtain ⟨tb, pb, qb⟩ := hb
  refine ⟨_, pe_and pa pb, fun F O env σ H Q S w => ?_⟩
  have w := w.bind
  refine qa F O env σ H _ S (w.bind.imp (fun dx e1 w1 x H1 S1 k1 p1 => ?_) fun _ _ _ z => z)
  cases p1 with
  | bl k =>
    refine ⟨k, rfl, ?_⟩
    cases k with
    | true => exact qb F O e1 σ H1 _ S1 (Want.imp (m := mb) w1 (fun d e2 w2 v H2 S2 k2 r => w2 v H2 S2 (k1.trans k2) r) (XW.later k1))
    | false => exact w1 _ H1 S1 k1 (.bl _)
  | _ => exact w1.elim
theorem pd_or {rest : List Expr} (ha : PD .s X Wx a ma) (hb : PD .s X Wx (.BoolOp .Or (b :: rest) pos) mb) : PD .s X Wx (.BoolOp .Or (a :: b :: rest) pos) (eOr ma mb) := by
  obtain ⟨ta, pa, qa⟩ := ha
  obtain ⟨tb, pb, qb⟩ := hb
  refine ⟨_, pe_or pa pb, fun F O env σ H Q S w => ?_⟩
  have w := w.bind
  refine qa F O env σ H _ S (w.bind.imp (fun dx e1 w1 x H1 S1 k1 p1 => ?_) fun _ _ _ z => z)
  cases p1 with
  | bl k =>
    refine ⟨k, rfl, ?_⟩
    cases k with
    | false => exact qb F O e1 σ H1 _ S1 (Want.imp (m := mb) w1 (fun d e2 w2 v H2 S2 k2 r => w2 v H2 S2 (k1.trans k2) r) (XW.later k1))
    | true => exact w1 _ H1 S1 k1 (.bl _)
  | _ => exact w1.elim
theorem pd_not (ha : PD .s X Wx a ma) : PD .s X Wx (.UnaryOp .Not a pos) (eNot ma) := by
  obtain ⟨ta, pa, qa⟩ := ha
  refine ⟨_, pe_not pa, fun F O env σ H Q S w => ?_⟩
  have w := w.bind
  refine qa F O env σ H _ S (w.bind.imp (fun dx e1 w1 x H1 S1 k1 p1 => ?_) fun _ _ _ z => z)
  cases p1 with
  | bl k => exact ⟨k, rfl, w1 _ H1 S1 k1 (.bl _)⟩
  | _ => exact w1.elim
theorem truth_tru {K : PySem.W.Frag} {W : Pr} {H : Hp} {v : V} {d : D} {k : Bool} (r : Rep W H v d) (h : truth d = .ok k) : TruV K v H k := by
  cases r with
  | non => cases h; exact rfl
  | bl b => cases h; exact rfl
  | int i => cases h; exact rfl
  | str s => cases h
  | dic n e l => cases h
  | obj _ _ _ _ _ => cases h
  | exc _ _ _ _ _ _ => cases h
  | lst n e l =>
    cases h
    refine .inl ⟨_, .inl (.inl e), ?_⟩
    cases l <;> rfl
  | tup n e l =>
    cases h
    refine .inr (.inl ⟨_, .inl (.inl e), ?_⟩)
    cases l <;> rfl
/-- x or y by truth, both new lists -/
theorem pd_orT {fl : Fl} (ha : PD fl X Wx a ma) (hb : PD fl X Wx b mb) (hfl : fl = .f ∨ fl = .s) : PD fl X Wx (.BoolOp .Or [a, b] pos) (eOrT ma mb) := by
  obtain ⟨ta, pa, qa⟩ := ha
  obtain ⟨tb, pb, qb⟩ := hb
  refine ⟨_, pe_orT pa (pe_one pb), fun F O env σ H Q S w => ?_⟩
  refine qa F O env σ H _ S (w.bind.imp (fun dx e1 w1 x H1 S1 k1 p1 => ?_) fun _ _ _ z => z)
  obtain ⟨k, ef, w2⟩ := w1.bind.of
  have rs : Rep (Ow F O) H1 x dx := by
    rcases hfl with rfl | rfl
    · exact Po.s_of_f (K := X.K) (fun p hp => S.noW hp) p1
    · exact p1
  refine ⟨k, truth_tru rs ef, ?_⟩
  cases k with
  | true => exact w2 _ H1 S1 k1 p1
  | false => exact qb F O e1 σ H1 _ S1 (Want.imp (m := mb) w2 (fun d e2 w2 v H2 S2 k2 r => w2 v H2 S2 (k1.trans k2) (r.back k1)) (XW.later k1))
/-! ### argument lists, displays -/
theorem ad_nil : AD X Wx [] aNil := ⟨_, pa_nil, fun F O env σ H Q S w => w [] H S Ke.refl .nil⟩
theorem ad_cons {es : List Expr} {m : DL} (ha : PD .s X Wx a ma) (hr : AD X Wx es m) (hs : starEach (a :: es) X.env = (false, eval a X.env) :: starEach es X.env := by rfl) : AD X Wx (a :: es) (aCons ma m) := by
  obtain ⟨ta, pa, qa⟩ := ha
  obtain ⟨tb, pb, qb⟩ := hr
  refine ⟨_, pa_cons pa pb hs, fun F O env σ H Q S w => ?_⟩
  refine qa F O env σ H _ S (w.bind.imp (fun dx e1 w1 x H1 S1 k1 p1 => ?_) fun _ _ _ z => z)
  exact qb F O e1 σ H1 _ S1 (w1.bind.imp (fun ds e2 w2 vs H2 S2 k2 p2 => w2 _ H2 S2 (k1.trans k2) (.cons (Rep.mj k2 p1) p2)) (XW.later k1))
theorem pd_tup {es : List Expr} {m : DL} {k : Nat} (h : AD X Wx es m) : PD .s X Wx (.Tuple es k pos) (eTup m) := by
  obtain ⟨t, p, q⟩ := h
  refine ⟨_, pe_tup p, fun F O env σ H Q S w => ?_⟩
  refine q F O env σ H _ S (w.bind.imp (fun ds e1 w1 vs H1 S1 k1 p1 => ?_) fun _ _ _ z => z)
  cases hz : lenOk ds.length with
  | false => rw [hz] at w1; exact w1.elim
  | true =>
    rw [hz] at w1
    refine ⟨by rw [p1.len]; exact lenOk_of hz, fun p hp => ?_⟩
    exact new_tup S1 p1 (fun z H' S' k2 r => w1 z H' S' (k1.trans k2) r) hp
theorem pd_lst {es : List Expr} {m : DL} (h : AD X Wx es m) : PD .f X Wx (.List es pos) (eLst m) := by
  obtain ⟨t, p, q⟩ := h
  refine ⟨_, pe_lst p, fun F O env σ H Q S w => ?_⟩
  refine q F O env σ H _ S (w.bind.imp (fun ds e1 w1 vs H1 S1 k1 p1 => ?_) fun _ _ _ z => z)
  cases hz : lenOk ds.length with
  | false => rw [hz] at w1; exact w1.elim
  | true =>
    rw [hz] at w1
    refine ⟨by rw [p1.len]; exact lenOk_of hz, fun p hp => ?_⟩
    exact new_lst S1 p1 (fun z H' S' k2 r => w1 z H' S' (k1.trans k2) (r.back k1)) hp
/-! ### items, slices -/
def rIxK : R2 := fun x y H Q => ∃ a v, x = .ref a ∧ DGet H a y (some v) ∧ Q v H
theorem ix_dict (hu : X.A.units + 65 < cLine) : IxR X rIxK := by
  intro value slice pins s σ H x y v u Q I rx ry h hs
  obtain ⟨a, z, rfl, g, q⟩ := h
  cases rx
  exact tail_any (dict_typeIs I g) PySem.F.slot_dict_getitem.lookup (d_getItem (by omega) I g ry fun w' s' I' r => ⟨z, H, I', r, q⟩) hs
def rIxA (K : PySem.W.Frag) : R2 := fun x y H Q => rIxL K x y H Q ∨ rIxT K x y H Q ∨ rIxK x y H Q
theorem ix_any (hu : X.A.units + 65 < cLine) : IxR X (rIxA X.K) := ix_list.or (ix_tup.or (ix_dict hu))
def Op2k (fl : Fl) (K : PySem.W.Frag) (r : R2) (f : D → D → Rv D) : Prop := ∀ (F : Fm) (O : Nat → Option Addr) (env : Env) (σ : L2.St) (H : Hp) (x y : V) (dx dy dz : D) (Q : VK), SR K F O env σ H →
  RepW K (Ow F O) H x dx → Rep (Ow F O) H y dy → f dx dy = .ok dz → (∀ z H', SR K F O env σ H' → Ke (Jo O) H H' → Po fl K F O env σ H H' z dz → Q z H') → r x y H Q
theorem o_ix : Op2k .s X.K (rIxA X.K) dIx := by
  intro F O env σ H x y dx dy dz Q S rx ry ef q
  unfold dIx at ef
  split at ef
  · obtain ⟨a, vs, rfl, s, l⟩ := rx.lst'
    split at ef
    · rename_i z hz
      cases ef
      obtain ⟨v, hv, r⟩ := l.at hz
      cases ry
      exact .inl ⟨a, vs, _, v, rfl, rfl, s, hv, q _ H S Ke.refl r⟩
    · cases ef
  · obtain ⟨a, vs, rfl, s, l⟩ := rx.tup'
    split at ef
    · rename_i z hz
      cases ef
      obtain ⟨v, hv, r⟩ := l.at hz
      cases ry
      exact .inr (.inl ⟨a, vs, _, v, rfl, rfl, s, hv, q _ H S Ke.refl r⟩)
    · cases ef
  · obtain ⟨a, ks, rfl, s, l⟩ := rx.dic'
    split at ef
    · rename_i k hk
      split at ef
      · rename_i z hz
        cases ef
        obtain ⟨b, rfl, hb⟩ := keyD_rep ry hk
        rcases l.val k with ⟨h1, h2⟩ | ⟨v, d, h1, h2, r⟩
        · rw [h2] at hz; cases hz
        · rw [h2] at hz
          cases hz
          exact .inr (.inr ⟨a, v, rfl, by rw [← h1]; exact dget_of l s hb, q _ H S Ke.refl r⟩)
      · cases ef
    · cases ef
  · cases ef
theorem pd_ix (hu : X.A.units + 65 < cLine) (ha : PD .s X Wx a ma) (hb : PD .s X Wx b mb) (hs : PlainIx b := by intro _ _; rfl) : PD .s X Wx (.Subscript a b pos) (e2 dIx ma mb) := by
  obtain ⟨ta, pa, qa⟩ := ha
  obtain ⟨tb, pb, qb⟩ := hb
  refine ⟨_, pe_ix (ix_any hu) pa pb hs, fun F O env σ H Q S w => ?_⟩
  refine qa F O env σ H _ S (w.bind.imp (fun dx e1 w1 x H1 S1 k1 p1 => ?_) fun _ _ _ z => z)
  refine qb F O e1 σ H1 _ S1 (w1.bind.imp (fun dy e2 w2 y H2 S2 k2 p2 => ?_) (XW.later k1))
  obtain ⟨dz, ef, q⟩ := w2.of
  exact o_ix F O e2 σ H2 x y dx dy dz Q S2 (.of (Rep.mj k2 p1)) p2 ef fun z H' S' k3 p3 => q z H' S' (k1.trans (k2.trans k3)) p3
theorem pd_ixL {i : Nat} {x : Str} {p : Pos} (hu : X.A.units + 65 < cLine) (hN : X.N[i]? = some x) (hv : Vis X.env.scope x) (hb : PD .s X Wx b mb) (hs : PlainIx b := by intro _ _; rfl)
    (hd : (x == ("__debug__" : Str)) = false := by decide) (hcd : (x == ("__classdict__" : Str)) = false := by decide) : PD .s X Wx (.Subscript (.Name x p) b pos) (e2L dIx i mb) := by
  obtain ⟨tb, pb, qb⟩ := hb
  refine ⟨_, pe_ix (ix_any hu) (pe_var hN hv hd hcd) pb hs, fun F O env σ H Q S w => ?_⟩
  obtain ⟨v, d, e, r, w⟩ := w.bind.tmp S
  refine ⟨v, get1_some e, ?_⟩
  refine qb F O env σ H _ S (w.bind.imp (fun dy e2 w2 y H2 S2 k2 p2 => ?_) fun _ _ _ z => z)
  obtain ⟨v', dx, ex, rx, w3⟩ := w2.bind.tmp S2
  obtain rfl : v' = v := Option.some.inj (ex.symm.trans e)
  obtain ⟨dz, ef, q⟩ := w3.of
  exact o_ix F O e2 σ H2 v' y dx dy dz Q S2 rx p2 ef fun z H' S' k3 p3 => q z H' S' (k2.trans k3) p3
/-- a part of a slice -/
def OD (X : Cx) (Wx : WX) (e : Option Expr) (m : DO) : Prop := ∃ t : TO, PO X e t ∧ ∀ (F : Fm) (O : Nat → Option Addr) (env : Env) (σ : L2.St) (H : Hp) (Q : Option Int → Hp → Prop), SR X.K F O env σ H →
  Want m env (fun d e1 => ∀ H', SR X.K F O e1 σ H' → Ke (Jo O) H H' → Q d H') (XW X.K F O σ H Wx) → t σ H Q
theorem od_none : OD X Wx none oNone := ⟨_, po_none, fun F O env σ H Q S w => w H S Ke.refl⟩
theorem od_some (ha : PD .s X Wx a ma) : OD X Wx (some a) (oSome ma) := by
  obtain ⟨ta, pa, qa⟩ := ha
  refine ⟨_, po_some pa, fun F O env σ H Q S w => ?_⟩
  refine qa F O env σ H _ S (w.bind.imp (fun dx e1 w1 x H1 S1 k1 p1 => ?_) fun _ _ _ z => z)
  cases p1 with
  | int i => exact ⟨i, rfl, w1 H1 S1 k1⟩
  | _ => exact w1.elim
def rSlAny (K : PySem.W.Frag) : V → Option Int → Option Int → Hp → VK → Prop := fun x lo hi H Q => rSlL K x lo hi H Q ∨ rSlA K x lo hi H Q
theorem RepL.cut {W : Pr} {H : Hp} {vs : List V} {xs : List D} (lo hi : Option Int) (l : RepL W H vs xs) : RepL W H (cutV vs lo hi) (AH.cut xs lo hi) := by
  unfold cutV AH.cut
  rw [l.len]
  exact (l.drop _).take _
theorem cut_whole {xs : List D} {lo hi : Option Int} (h : HT.sIx xs.length 0 lo = 0 ∧ HT.sIx xs.length xs.length hi = xs.length) : AH.cut xs lo hi = xs := by
  unfold AH.cut
  rw [h.1, h.2]
  simp
/-- a list's slice is new -/
def dSlL (x : D) (lo hi : Option Int) : Rv D := match x with
  | .lst xs => .ok (.lst (cut xs lo hi))
  | _ => .bad
def Osl (fl : Fl) (K : PySem.W.Frag) (f : D → Option Int → Option Int → Rv D) : Prop := ∀ (F : Fm) (O : Nat → Option Addr) (env : Env) (σ : L2.St) (H : Hp) (x : V) (dx dz : D) (lo hi : Option Int) (Q : VK), SR K F O env σ H →
  (Rep (Ow F O) H x dx ∨ ∃ xs, dx = .lst xs ∧ RepW K (Ow F O) H x dx) → f dx lo hi = .ok dz → (∀ z H', SR K F O env σ H' → Ke (Jo O) H H' → Po fl K F O env σ H H' z dz → Q z H') → rSlAny K x lo hi H Q
theorem o_slL : Osl .f X.K dSlL := by
  intro F O env σ H x dx dz lo hi Q S rx ef q
  unfold dSlL at ef
  split at ef
  · cases ef
    have rw' : RepW X.K (Ow F O) H x (.lst _) := rx.elim (fun r => .of r) fun ⟨_, _, r⟩ => r
    obtain ⟨a, vs, rfl, s, l⟩ := rw'.lst'
    exact .inl ⟨a, vs, rfl, s, fun p hp => new_lst S (l.cut lo hi) q hp⟩
  · cases ef
theorem o_sl : Osl .s X.K dSl := by
  intro F O env σ H x dx dz lo hi Q S rx ef q
  unfold dSl at ef
  split at ef
  · cases ef
    have rw' : RepW X.K (Ow F O) H x (.lst _) := rx.elim (fun r => .of r) fun ⟨_, _, r⟩ => r
    obtain ⟨a, vs, rfl, s, l⟩ := rw'.lst'
    exact .inl ⟨a, vs, rfl, s, fun p hp => new_lst S (l.cut lo hi) (fun z H' S' k r => q z H' S' k (Po.s_of_f (K := X.K) (fun p hp => S.noW hp) r)) hp⟩
  · cases ef
    rcases rx with rx | ⟨_, h, _⟩
    · cases rx with
      | tup n h l =>
        refine .inr ⟨_, _, rfl, .inl (.inl h), fun w => ?_, fun _ p hp => new_tup S (l.cut lo hi) q hp⟩
        rw [l.len] at w
        rw [cut_whole w] at q
        exact q _ H S Ke.refl (.tup n h l)
    · cases h
  · cases ef
theorem sl_any : L2.SlR X (rSlAny X.K) := L2.SlR.or sl_list sl_tupA
theorem pd_slice {fl : Fl} {f : D → Option Int → Option Int → Rv D} {lo hi : Option Expr} {ml mh : DO} {p2 : Pos} (hop : Osl fl X.K f) (ha : PD .s X Wx a ma) (hl : OD X Wx lo ml) (hh : OD X Wx hi mh) :
    PD fl X Wx (.Subscript a (.Slice lo hi none p2) pos) (ma.bind fun x => ml.bind fun l => mh.bind fun h => M.of (f x l h)) := by
  obtain ⟨ta, pa, qa⟩ := ha
  obtain ⟨tl, pl, ql⟩ := hl
  obtain ⟨th, ph, qh⟩ := hh
  refine ⟨_, pe_slice sl_any pa pl ph, fun F O env σ H Q S w => ?_⟩
  refine qa F O env σ H _ S (w.bind.imp (fun dx e1 w1 x H1 S1 k1 p1 => ?_) fun _ _ _ z => z)
  refine ql F O e1 σ H1 _ S1 (w1.bind.imp (fun lo e2 w2 H2 S2 k2 => ?_) (XW.later k1))
  refine qh F O e2 σ H2 _ S2 (w2.bind.imp (fun hi e3 w3 H3 S3 k3 => ?_) (XW.later (k1.trans k2)))
  obtain ⟨dz, ef, q⟩ := w3.of
  exact hop F O e3 σ H3 x dx dz lo hi Q S3 (.inl (Rep.mj (k2.trans k3) p1)) ef fun z H' S' k4 p4 => q z H' S' (k1.trans (k2.trans (k3.trans k4))) (p4.back (k1.trans (k2.trans k3)))
theorem pd_sl {lo hi : Option Expr} {ml mh : DO} {p2 : Pos} (ha : PD .s X Wx a ma) (hl : OD X Wx lo ml) (hh : OD X Wx hi mh) : PD .s X Wx (.Subscript a (.Slice lo hi none p2) pos) (eSl ma ml mh) := pd_slice o_sl ha hl hh
/-- a slice of a list that may be the frame's own: a new list -/
def eSlN (i : Nat) (lo hi : DO) : DE := (eTmp i).bind fun _ => lo.bind fun l => hi.bind fun h => (eTmp i).bind fun x => M.of (dSlL x l h)
theorem pd_slN {i : Nat} {x : Str} {p : Pos} {lo hi : Option Expr} {ml mh : DO} {p2 : Pos} (hN : X.N[i]? = some x) (hv : Vis X.env.scope x) (hl : OD X Wx lo ml) (hh : OD X Wx hi mh)
    (hd : (x == ("__debug__" : Str)) = false := by decide) (hcd : (x == ("__classdict__" : Str)) = false := by decide) : PD .f X Wx (.Subscript (.Name x p) (.Slice lo hi none p2) pos) (eSlN i ml mh) := by
  obtain ⟨tl, pl, ql⟩ := hl
  obtain ⟨th, ph, qh⟩ := hh
  refine ⟨_, pe_slice sl_any (pe_var hN hv hd hcd) pl ph, fun F O env σ H Q S w => ?_⟩
  obtain ⟨v, d, e, r, w⟩ := w.bind.tmp S
  refine ⟨v, get1_some e, ?_⟩
  refine ql F O env σ H _ S (w.bind.imp (fun lo e2 w2 H2 S2 k2 => ?_) fun _ _ _ z => z)
  refine qh F O e2 σ H2 _ S2 (w2.bind.imp (fun hi e3 w3 H3 S3 k3 => ?_) (XW.later k2))
  obtain ⟨v', dx, ex, rx, w4⟩ := w3.bind.tmp S3
  obtain rfl : v' = v := Option.some.inj (ex.symm.trans e)
  obtain ⟨dz, ef, q⟩ := w4.of
  refine o_slL F O e3 σ H3 v' dx dz lo hi Q S3 (.inr ?_) ef fun z H' S' k4 p4 => q z H' S' (k2.trans (k3.trans k4)) (p4.back (k2.trans k3))
  unfold dSlL at ef
  split at ef
  · exact ⟨_, rfl, rx⟩
  · cases ef
end
end AH
namespace AH
open PySem PySem.Spec PyProof.Rows L2
variable [TheK]
section
variable {X : Cx} {Wx : WX} {e a b c d : Expr} {ma mb mc md : DE} {pos p : Pos}
/-! ### built-in functions and types of one argument, of two -/
def Cb1 (fl : Fl) (K : PySem.W.Frag) (r : List V → Hp → VK → Prop) (f : D → Rv D) : Prop := ∀ (F : Fm) (O : Nat → Option Addr) (env : Env) (σ : L2.St) (H : Hp) (x : V) (dx dz : D) (Q : VK), SR K F O env σ H →
  RepW K (Ow F O) H x dx → f dx = .ok dz → (∀ z H', SR K F O env σ H' → Ke (Jo O) H H' → Po fl K F O env σ H H' z dz → Q z H') → r [x] H Q
def Cb2 (fl : Fl) (K : PySem.W.Frag) (r : List V → Hp → VK → Prop) (f : D → D → Rv D) : Prop := ∀ (F : Fm) (O : Nat → Option Addr) (env : Env) (σ : L2.St) (H : Hp) (x y : V) (dx dy dz : D) (Q : VK), SR K F O env σ H →
  Rep (Ow F O) H x dx → RepW K (Ow F O) H y dy → f dx dy = .ok dz → (∀ z H', SR K F O env σ H' → Ke (Jo O) H H' → Po fl K F O env σ H H' z dz → Q z H') → r [x, y] H Q
theorem pd_c1 {fl : Fl} {f : D → Rv D} {r : List V → Hp → VK → Prop} (hop : Cb1 fl X.K r f) (ha : PD .w X Wx a ma) (pe : ∀ {t : TA}, PA X [a] t → PE X e (tCB r t)) (hs : starEach [a] X.env = (false, eval a X.env) :: starEach [] X.env := by rfl) : PD fl X Wx e (e1 f ma) := by
  obtain ⟨ta, pa, qa⟩ := ha
  refine ⟨_, pe (pa_cons pa pa_nil hs), fun F O env σ H Q S w => ?_⟩
  refine qa F O env σ H _ S (w.bind.imp (fun dx e1 w1 x H1 S1 k1 p1 => ?_) fun _ _ _ z => z)
  obtain ⟨dz, ef, q⟩ := w1.of
  exact hop F O e1 σ H1 x dx dz Q S1 p1 ef fun z H' S' k3 p3 => q z H' S' (k1.trans k3) (p3.back k1)
theorem pd_c2 {fl : Fl} {f : D → D → Rv D} {r : List V → Hp → VK → Prop} (hop : Cb2 fl X.K r f) (ha : PD .s X Wx a ma) (hb : PD .w X Wx b mb) (pe : ∀ {t : TA}, PA X [a, b] t → PE X e (tCB r t))
    (hs : starEach [a, b] X.env = (false, eval a X.env) :: starEach [b] X.env := by rfl) (hs2 : starEach [b] X.env = (false, eval b X.env) :: starEach [] X.env := by rfl) : PD fl X Wx e (e2 f ma mb) := by
  obtain ⟨ta, pa, qa⟩ := ha
  obtain ⟨tb, pb, qb⟩ := hb
  refine ⟨_, pe (pa_cons pa (pa_cons pb pa_nil hs2) hs), fun F O env σ H Q S w => ?_⟩
  refine qa F O env σ H _ S (w.bind.imp (fun dx e1 w1 x H1 S1 k1 p1 => ?_) fun _ _ _ z => z)
  refine qb F O e1 σ H1 _ S1 (w1.bind.imp (fun dy e2 w2 y H2 S2 k2 p2 => ?_) (XW.later k1))
  obtain ⟨dz, ef, q⟩ := w2.of
  exact hop F O e2 σ H2 x y dx dy dz Q S2 (Rep.mj k2 p1) p2 ef fun z H' S' k3 p3 => q z H' S' (k1.trans (k2.trans k3)) (p3.back (k1.trans k2))
/-- the name x is still the built-in id, the type T -/
structure Bn (X : Cx) (x : Str) (u : Value) : Prop where
  gl : Gl X x
  mg : X.mg x = none
  bt : bootBuiltins x = some u
  nn : x ≠ "__name__"
  nd : (x == ("__debug__" : Str)) = false
variable {x : Str}
theorem pd_b1 {fl : Fl} {f : D → Rv D} {id : String} {r : List V → Hp → VK → Prop} (hc : CallR X (.builtin id) r) (hop : Cb1 fl X.K r f) (hb : Bn X x (.builtin id)) (ha : PD .w X Wx a ma)
    (hs : starEach [a] X.env = (false, eval a X.env) :: starEach [] X.env := by rfl) : PD fl X Wx (.Call (.Name x p) [a] [] pos) (e1 f ma) :=
  pd_c1 hop ha (fun q => pe_callB hc hb.gl hb.mg hb.bt q hb.nn hb.nd hs rfl) hs
theorem pd_t1 {fl : Fl} {f : D → Rv D} {id : String} {r : List V → Hp → VK → Prop} (hc : CallR X (.type id) r) (hop : Cb1 fl X.K r f) (hb : Bn X x (.type id)) (ha : PD .w X Wx a ma)
    (hs : starEach [a] X.env = (false, eval a X.env) :: starEach [] X.env := by rfl) : PD fl X Wx (.Call (.Name x p) [a] [] pos) (e1 f ma) :=
  pd_c1 hop ha (fun q => pe_callTy hc hb.gl hb.mg hb.bt q hb.nn hb.nd hs rfl) hs
theorem pd_b2 {fl : Fl} {f : D → D → Rv D} {id : String} {r : List V → Hp → VK → Prop} (hc : CallR X (.builtin id) r) (hop : Cb2 fl X.K r f) (hb : Bn X x (.builtin id)) (ha : PD .s X Wx a ma) (hb' : PD .w X Wx b mb)
    (hs : starEach [a, b] X.env = (false, eval a X.env) :: starEach [b] X.env := by rfl) (hs2 : starEach [b] X.env = (false, eval b X.env) :: starEach [] X.env := by rfl) (hpl : (backTo pos (starEach [b] X.env)).any (·.1) = false := by rfl) : PD fl X Wx (.Call (.Name x p) [a, b] [] pos) (e2 f ma mb) :=
  pd_c2 hop ha hb' (fun q => pe_callB hc hb.gl hb.mg hb.bt q hb.nn hb.nd hs hpl) hs hs2
theorem cb_len : Cb1 .s X.K (fun xs H Q => ∃ x n, xs = [x] ∧ LenV X.K x H n ∧ Q (.int n) H) dLen := by
  intro F O env σ H x dx dz Q S rx ef q
  unfold dLen at ef
  split at ef
  · cases ef
    obtain ⟨a, vs, rfl, s, l⟩ := rx.lst'
    exact ⟨_, vs.length, rfl, .inl ⟨vs, s, rfl⟩, by rw [l.len]; exact q _ H S Ke.refl (.int _)⟩
  · cases ef
    obtain ⟨a, vs, rfl, s, l⟩ := rx.tup'
    exact ⟨_, vs.length, rfl, .inr ⟨vs, s, rfl⟩, by rw [l.len]; exact q _ H S Ke.refl (.int _)⟩
  · cases ef
theorem pd_len (hb : Bn X "len" (.builtin "len")) (ha : PD .w X Wx a ma) (hs : starEach [a] X.env = (false, eval a X.env) :: starEach [] X.env := by rfl) : PD .s X Wx (.Call (.Name "len" p) [a] [] pos) (e1 dLen ma) := pd_b1 call_len cb_len hb ha hs
theorem cb_abs : Cb1 .s X.K (fun xs H Q => ∃ i, xs = [.int i] ∧ Q (.int (if i < 0 then -i else i)) H) dAbs := by
  intro F O env σ H x dx dz Q S rx ef q
  unfold dAbs at ef
  split at ef
  · cases ef; exact ⟨_, by rw [rx.int'], q _ H S Ke.refl (.int _)⟩
  · cases ef
theorem pd_abs (hb : Bn X "abs" (.builtin "abs")) (ha : PD .s X Wx a ma) (hs : starEach [a] X.env = (false, eval a X.env) :: starEach [] X.env := by rfl) : PD .s X Wx (.Call (.Name "abs" p) [a] [] pos) (e1 dAbs ma) := pd_b1 call_abs cb_abs hb ha.weak hs
theorem cb_int : Cb1 .s X.K (fun xs H Q => (∃ i, xs = [.int i] ∧ Q (.int i) H) ∨ ∃ k, xs = [.bl k] ∧ Q (.int (if k then 1 else 0)) H) dInt := by
  intro F O env σ H x dx dz Q S rx ef q
  unfold dInt at ef
  split at ef
  · cases ef; exact .inl ⟨_, by rw [rx.int'], q _ H S Ke.refl (.int _)⟩
  · cases ef; exact .inr ⟨_, by rw [rx.bl'], q _ H S Ke.refl (.int _)⟩
  · cases ef
theorem pd_toint (hb : Bn X "int" (.type "int")) (ha : PD .s X Wx a ma) (hs : starEach [a] X.env = (false, eval a X.env) :: starEach [] X.env := by rfl) : PD .s X Wx (.Call (.Name "int" p) [a] [] pos) (e1 dInt ma) := pd_t1 call_int1 cb_int hb ha.weak hs
theorem cb_max2 : Cb2 .s X.K (fun xs H Q => ∃ i j, xs = [.int i, .int j] ∧ Q (.int (if j > i then j else i)) H) dMax2 := by
  intro F O env σ H x y dx dy dz Q S rx ry ef q
  unfold dMax2 at ef
  split at ef
  · cases ef; cases rx; exact ⟨_, _, by rw [ry.int'], q _ H S Ke.refl (.int _)⟩
  · cases ef
theorem pd_max2 (hc : X.calm = true) (hb : Bn X "max" (.builtin "max")) (ha : PD .s X Wx a ma) (hb' : PD .s X Wx b mb) (hs : starEach [a, b] X.env = (false, eval a X.env) :: starEach [b] X.env := by rfl) (hs2 : starEach [b] X.env = (false, eval b X.env) :: starEach [] X.env := by rfl) (hpl : (backTo pos (starEach [b] X.env)).any (·.1) = false := by rfl) :
    PD .s X Wx (.Call (.Name "max" p) [a, b] [] pos) (e2 dMax2 ma mb) := pd_b2 (call_max2 hc) cb_max2 hb ha hb'.weak hs hs2 hpl
theorem cb_min2 : Cb2 .s X.K (fun xs H Q => ∃ i j, xs = [.int i, .int j] ∧ Q (.int (if j < i then j else i)) H) dMin2 := by
  intro F O env σ H x y dx dy dz Q S rx ry ef q
  unfold dMin2 at ef
  split at ef
  · cases ef; cases rx; exact ⟨_, _, by rw [ry.int'], q _ H S Ke.refl (.int _)⟩
  · cases ef
theorem pd_min2 (hc : X.calm = true) (hb : Bn X "min" (.builtin "min")) (ha : PD .s X Wx a ma) (hb' : PD .s X Wx b mb) (hs : starEach [a, b] X.env = (false, eval a X.env) :: starEach [b] X.env := by rfl) (hs2 : starEach [b] X.env = (false, eval b X.env) :: starEach [] X.env := by rfl) (hpl : (backTo pos (starEach [b] X.env)).any (·.1) = false := by rfl) :
    PD .s X Wx (.Call (.Name "min" p) [a, b] [] pos) (e2 dMin2 ma mb) := pd_b2 (call_min2 hc) cb_min2 hb ha hb'.weak hs hs2 hpl
theorem cb_sum : Cb1 .s X.K (rSum X.K) dSum := by
  intro F O env σ H x dx dz Q S rx ef q
  unfold dSum at ef
  split at ef
  · obtain ⟨a, vs, rfl, s, l⟩ := rx.lst'
    split at ef
    · rename_i ns h
      cases ef
      exact ⟨a, ns, rfl, by rw [← l.ints h]; exact s, q _ H S Ke.refl (.int _)⟩
    · cases ef
  · cases ef
theorem pd_sum (hc : X.calm = true) (hb : Bn X "sum" (.builtin "sum")) (ha : PD .w X Wx a ma) (hs : starEach [a] X.env = (false, eval a X.env) :: starEach [] X.env := by rfl) : PD .s X Wx (.Call (.Name "sum" p) [a] [] pos) (e1 dSum ma) := pd_b1 (cr_sum hc) cb_sum hb ha hs
theorem cb_all : Cb1 .s X.K (rAll X.K) dAll := by
  intro F O env σ H x dx dz Q S rx ef q
  unfold dAll at ef
  split at ef
  · obtain ⟨a, vs, rfl, s, l⟩ := rx.lst'
    split at ef
    · rename_i ns h
      cases ef
      exact ⟨a, ns, rfl, by rw [← l.bools h]; exact s, q _ H S Ke.refl (.bl _)⟩
    · cases ef
  · cases ef
theorem pd_all (hc : X.calm = true) (hb : Bn X "all" (.builtin "all")) (ha : PD .w X Wx a ma) (hs : starEach [a] X.env = (false, eval a X.env) :: starEach [] X.env := by rfl) : PD .s X Wx (.Call (.Name "all" p) [a] [] pos) (e1 dAll ma) := pd_b1 (cr_all hc) cb_all hb ha hs
theorem cb_any : Cb1 .s X.K (rAny X.K) dAny := by
  intro F O env σ H x dx dz Q S rx ef q
  unfold dAny at ef
  split at ef
  · obtain ⟨a, vs, rfl, s, l⟩ := rx.lst'
    split at ef
    · rename_i ns h
      cases ef
      exact ⟨a, ns, rfl, by rw [← l.bools h]; exact s, q _ H S Ke.refl (.bl _)⟩
    · cases ef
  · cases ef
theorem pd_any (hc : X.calm = true) (hb : Bn X "any" (.builtin "any")) (ha : PD .w X Wx a ma) (hs : starEach [a] X.env = (false, eval a X.env) :: starEach [] X.env := by rfl) : PD .s X Wx (.Call (.Name "any" p) [a] [] pos) (e1 dAny ma) := pd_b1 (cr_any hc) cb_any hb ha hs
theorem leastOf_spec : ∀ (n : Int) (ns : List Int), leastOf (n :: ns) ∈ n :: ns ∧ ∀ y, y ∈ n :: ns → leastOf (n :: ns) ≤ y
  | n, [] => ⟨List.mem_singleton.mpr rfl, fun y h => by rw [List.mem_singleton.mp h]; exact Int.le_refl _⟩
  | n, m :: r => by
    obtain ⟨h1, h2⟩ := leastOf_spec m r
    have e : leastOf (n :: m :: r) = if leastOf (m :: r) < n then leastOf (m :: r) else n := rfl
    rw [e]
    split
    · rename_i h
      refine ⟨List.mem_cons_of_mem _ h1, fun y hy => ?_⟩
      rcases List.mem_cons.mp hy with rfl | hy
      · omega
      · exact h2 y hy
    · rename_i h
      refine ⟨List.mem_cons_self, fun y hy => ?_⟩
      rcases List.mem_cons.mp hy with rfl | hy
      · exact Int.le_refl _
      · have := h2 y hy; omega
theorem greatestOf_spec : ∀ (n : Int) (ns : List Int), greatestOf (n :: ns) ∈ n :: ns ∧ ∀ y, y ∈ n :: ns → y ≤ greatestOf (n :: ns)
  | n, [] => ⟨List.mem_singleton.mpr rfl, fun y h => by rw [List.mem_singleton.mp h]; exact Int.le_refl _⟩
  | n, m :: r => by
    obtain ⟨h1, h2⟩ := greatestOf_spec m r
    have e : greatestOf (n :: m :: r) = if greatestOf (m :: r) > n then greatestOf (m :: r) else n := rfl
    rw [e]
    split
    · rename_i h
      refine ⟨List.mem_cons_of_mem _ h1, fun y hy => ?_⟩
      rcases List.mem_cons.mp hy with rfl | hy
      · omega
      · exact h2 y hy
    · rename_i h
      refine ⟨List.mem_cons_self, fun y hy => ?_⟩
      rcases List.mem_cons.mp hy with rfl | hy
      · exact Int.le_refl _
      · have := h2 y hy; omega
theorem cb_minL : Cb1 .s X.K (rMin X.K) dMinL := by
  intro F O env σ H x dx dz Q S rx ef q
  unfold dMinL at ef
  split at ef
  · obtain ⟨a, vs, rfl, s, l⟩ := rx.lst'
    split at ef
    · rename_i n ns h
      cases ef
      refine ⟨a, n :: ns, rfl, by rw [← l.ints h]; exact s, by simp, fun m h1 h2 => ?_⟩
      obtain ⟨h3, h4⟩ := leastOf_spec n ns
      have e : m = leastOf (n :: ns) := Int.le_antisymm (h2 _ h3) (h4 _ h1)
      rw [e]
      exact q _ H S Ke.refl (.int _)
    · cases ef
  · cases ef
theorem pd_minL (hc : X.calm = true) (hb : Bn X "min" (.builtin "min")) (ha : PD .w X Wx a ma) (hs : starEach [a] X.env = (false, eval a X.env) :: starEach [] X.env := by rfl) : PD .s X Wx (.Call (.Name "min" p) [a] [] pos) (e1 dMinL ma) := pd_b1 (cr_min hc) cb_minL hb ha hs
theorem cb_maxL : Cb1 .s X.K (rMax X.K) dMaxL := by
  intro F O env σ H x dx dz Q S rx ef q
  unfold dMaxL at ef
  split at ef
  · obtain ⟨a, vs, rfl, s, l⟩ := rx.lst'
    split at ef
    · rename_i n ns h
      cases ef
      refine ⟨a, n :: ns, rfl, by rw [← l.ints h]; exact s, by simp, fun m h1 h2 => ?_⟩
      obtain ⟨h3, h4⟩ := greatestOf_spec n ns
      have e : m = greatestOf (n :: ns) := Int.le_antisymm (h4 _ h1) (h2 _ h3)
      rw [e]
      exact q _ H S Ke.refl (.int _)
    · cases ef
  · cases ef
theorem pd_maxL (hc : X.calm = true) (hb : Bn X "max" (.builtin "max")) (ha : PD .w X Wx a ma) (hs : starEach [a] X.env = (false, eval a X.env) :: starEach [] X.env := by rfl) : PD .s X Wx (.Call (.Name "max" p) [a] [] pos) (e1 dMaxL ma) := pd_b1 (cr_max hc) cb_maxL hb ha hs
/-- tuple(x): of a list that may be the frame's own, of a tuple that stays -/
def dTupleL (d : D) : Rv D := match d with
  | .lst xs => .ok (.tup xs)
  | _ => .bad
theorem cb_tuple : Cb1 .s X.K (fun xs H Q => ∃ p ys, xs = [.ref p] ∧ ((SqL X.K H p ys ∧ ∀ l, H l = none → Q (.ref l) (upd H l (.tup ys))) ∨ (SqT X.K H p ys ∧ Q (.ref p) H))) dTupleL := by
  intro F O env σ H x dx dz Q S rx ef q
  unfold dTupleL at ef
  split at ef
  · cases ef
    obtain ⟨a, vs, rfl, s, l⟩ := rx.lst'
    exact ⟨a, vs, rfl, .inl ⟨s, fun p hp => new_tup S l q hp⟩⟩
  · cases ef
theorem pd_tuple (hb : Bn X "tuple" (.type "tuple")) (ha : PD .s X Wx a ma) (hs : starEach [a] X.env = (false, eval a X.env) :: starEach [] X.env := by rfl) : PD .s X Wx (.Call (.Name "tuple" p) [a] [] pos) (e1 dTuple ma) := by
  obtain ⟨ta, pa, qa⟩ := ha
  refine ⟨_, pe_callTy call_tuple_of hb.gl hb.mg hb.bt (pa_cons pa pa_nil hs) hb.nn hb.nd hs rfl, fun F O env σ H Q S w => ?_⟩
  refine qa F O env σ H _ S (w.bind.imp (fun dx e1 w1 x H1 S1 k1 p1 => ?_) fun _ _ _ z => z)
  obtain ⟨dz, ef, q⟩ := w1.of
  cases p1 with
  | lst n h l =>
    cases ef
    exact ⟨_, _, rfl, .inl ⟨.inl (.inl h), fun p hp => new_tup S1 l (fun z H' S' k2 r => q z H' S' (k1.trans k2) r) hp⟩⟩
  | tup n h l =>
    cases ef
    exact ⟨_, _, rfl, .inr ⟨.inl (.inl h), q _ H1 S1 k1 (.tup n h l)⟩⟩
  | _ => cases ef
theorem pd_tupleL (hb : Bn X "tuple" (.type "tuple")) (ha : PD .w X Wx a ma) (hs : starEach [a] X.env = (false, eval a X.env) :: starEach [] X.env := by rfl) : PD .s X Wx (.Call (.Name "tuple" p) [a] [] pos) (e1 dTupleL ma) := pd_t1 call_tuple_of cb_tuple hb ha hs
theorem cb_list : Cb1 .f X.K (fun xs H Q => ∃ p ys, xs = [.ref p] ∧ (SqL X.K H p ys ∨ SqT X.K H p ys) ∧ ∀ l, H l = none → Q (.ref l) (upd H l (.lst ys))) dList := by
  intro F O env σ H x dx dz Q S rx ef q
  unfold dList at ef
  split at ef
  · cases ef
    obtain ⟨a, vs, rfl, s, l⟩ := rx.lst'
    exact ⟨a, vs, rfl, .inl s, fun p hp => new_lst S l q hp⟩
  · cases ef
    obtain ⟨a, vs, rfl, s, l⟩ := rx.tup'
    exact ⟨a, vs, rfl, .inr s, fun p hp => new_lst S l q hp⟩
  · cases ef
theorem pd_list (hb : Bn X "list" (.type "list")) (ha : PD .w X Wx a ma) (hs : starEach [a] X.env = (false, eval a X.env) :: starEach [] X.env := by rfl) : PD .f X Wx (.Call (.Name "list" p) [a] [] pos) (e1 dList ma) := pd_t1 call_list_of cb_list hb ha hs
/-! ### isinstance -/
inductive Ty where
  | int | bool | str | list | tuple | dict
  deriving DecidableEq
def Ty.nm : Ty → String
  | .int => "int" | .bool => "bool" | .str => "str" | .list => "list" | .tuple => "tuple" | .dict => "dict"
def isi (t : Ty) (d : D) : Bool := match t, d with
  | .int, .int _ => true
  | .int, .bl _ => true
  | .bool, .bl _ => true
  | .str, .str _ => true
  | .list, .lst _ => true
  | .tuple, .tup _ => true
  | .dict, .dic _ => true
  | _, _ => false
def tyD : D → String
  | .non => "NoneType" | .bl _ => "bool" | .int _ => "int" | .str _ => "str" | .lst _ => "list" | .tup _ => "tuple" | .dic _ => "dict" | _ => ""
def isPy : D → Bool
  | .exc _ _ _ => false
  | .obj _ => false
  | _ => true
theorem kit_isi : ∀ (t : Ty) (d : D), isPy d = true → kitB (tyD d) t.nm = some (isi t d)
  | .int, .non, _ => (by decide +kernel : kitB "NoneType" "int" = some false)
  | .int, .bl _, _ => (by decide +kernel : kitB "bool" "int" = some true)
  | .int, .int _, _ => (by decide +kernel : kitB "int" "int" = some true)
  | .int, .str _, _ => (by decide +kernel : kitB "str" "int" = some false)
  | .int, .lst _, _ => (by decide +kernel : kitB "list" "int" = some false)
  | .int, .tup _, _ => (by decide +kernel : kitB "tuple" "int" = some false)
  | .int, .dic _, _ => (by decide +kernel : kitB "dict" "int" = some false)
  | .int, .exc _ _ _, h => by cases h
  | .int, .obj _, h => by cases h
  | .bool, .non, _ => (by decide +kernel : kitB "NoneType" "bool" = some false)
  | .bool, .bl _, _ => (by decide +kernel : kitB "bool" "bool" = some true)
  | .bool, .int _, _ => (by decide +kernel : kitB "int" "bool" = some false)
  | .bool, .str _, _ => (by decide +kernel : kitB "str" "bool" = some false)
  | .bool, .lst _, _ => (by decide +kernel : kitB "list" "bool" = some false)
  | .bool, .tup _, _ => (by decide +kernel : kitB "tuple" "bool" = some false)
  | .bool, .dic _, _ => (by decide +kernel : kitB "dict" "bool" = some false)
  | .bool, .exc _ _ _, h => by cases h
  | .bool, .obj _, h => by cases h
  | .str, .non, _ => (by decide +kernel : kitB "NoneType" "str" = some false)
  | .str, .bl _, _ => (by decide +kernel : kitB "bool" "str" = some false)
  | .str, .int _, _ => (by decide +kernel : kitB "int" "str" = some false)
  | .str, .str _, _ => (by decide +kernel : kitB "str" "str" = some true)
  | .str, .lst _, _ => (by decide +kernel : kitB "list" "str" = some false)
  | .str, .tup _, _ => (by decide +kernel : kitB "tuple" "str" = some false)
  | .str, .dic _, _ => (by decide +kernel : kitB "dict" "str" = some false)
  | .str, .exc _ _ _, h => by cases h
  | .str, .obj _, h => by cases h
  | .list, .non, _ => (by decide +kernel : kitB "NoneType" "list" = some false)
  | .list, .bl _, _ => (by decide +kernel : kitB "bool" "list" = some false)
  | .list, .int _, _ => (by decide +kernel : kitB "int" "list" = some false)
  | .list, .str _, _ => (by decide +kernel : kitB "str" "list" = some false)
  | .list, .lst _, _ => (by decide +kernel : kitB "list" "list" = some true)
  | .list, .tup _, _ => (by decide +kernel : kitB "tuple" "list" = some false)
  | .list, .dic _, _ => (by decide +kernel : kitB "dict" "list" = some false)
  | .list, .exc _ _ _, h => by cases h
  | .list, .obj _, h => by cases h
  | .tuple, .non, _ => (by decide +kernel : kitB "NoneType" "tuple" = some false)
  | .tuple, .bl _, _ => (by decide +kernel : kitB "bool" "tuple" = some false)
  | .tuple, .int _, _ => (by decide +kernel : kitB "int" "tuple" = some false)
  | .tuple, .str _, _ => (by decide +kernel : kitB "str" "tuple" = some false)
  | .tuple, .lst _, _ => (by decide +kernel : kitB "list" "tuple" = some false)
  | .tuple, .tup _, _ => (by decide +kernel : kitB "tuple" "tuple" = some true)
  | .tuple, .dic _, _ => (by decide +kernel : kitB "dict" "tuple" = some false)
  | .tuple, .exc _ _ _, h => by cases h
  | .tuple, .obj _, h => by cases h
  | .dict, .non, _ => (by decide +kernel : kitB "NoneType" "dict" = some false)
  | .dict, .bl _, _ => (by decide +kernel : kitB "bool" "dict" = some false)
  | .dict, .int _, _ => (by decide +kernel : kitB "int" "dict" = some false)
  | .dict, .str _, _ => (by decide +kernel : kitB "str" "dict" = some false)
  | .dict, .lst _, _ => (by decide +kernel : kitB "list" "dict" = some false)
  | .dict, .tup _, _ => (by decide +kernel : kitB "tuple" "dict" = some false)
  | .dict, .dic _, _ => (by decide +kernel : kitB "dict" "dict" = some true)
  | .dict, .exc _ _ _, h => by cases h
  | .dict, .obj _, h => by cases h
theorem Rep.ty {K : PySem.W.Frag} {W : Pr} {H : Hp} {v : V} {d : D} (r : Rep W H v d) (ip : isPy d = true) : TyX K H v (.type (tyD d)) := by
  cases r with
  | non => exact .base .non
  | bl b => exact .base (.bl b)
  | int b => exact .base (.int b)
  | str b => exact .base (.str b)
  | tup n h l => exact .base (.tup h)
  | lst n h l => exact .base (.lst h)
  | dic n h l => exact .base (.dT h)
  | obj _ _ _ _ _ => cases ip
  | exc _ _ _ _ _ _ => cases ip
def isExc : D → Bool
  | .exc _ _ _ => true
  | _ => false
theorem Rep.py {W : Pr} {H : Hp} {v : V} {d : D} (r : Rep W H v d) (ip : isPy d = false) (ix : isExc d = false) : ∃ a dx C vs c, v = .ref a ∧ d = .obj c ∧ SlX.Slt H a C dx vs ∧ ObjF TheK.K C := by
  cases r with
  | obj n m h q f => exact ⟨_, _, _, _, _, rfl, rfl, .inr ⟨h, q⟩, f⟩
  | exc _ _ _ _ _ _ => cases ix
  | _ => cases ip
def eIsi (t : Ty) (a : DE) : DE := a.bind fun x => if isExc x then (fun _ => .bad) else M.pure (.bl (isi t x))
def eIsi2 (t u : Ty) (a : DE) : DE := a.bind fun x => if isPy x then M.pure (.bl (isi t x || isi u x)) else fun _ => .bad
theorem pe_ty {x : Str} {n : String} (hb : Bn X x (.type n)) : PE X (.Name x p) (tC (.ty n)) := pe_bltn (v := .ty n) hb.gl hb.mg hb.bt rfl hb.nn hb.nd
theorem ty_mem (t : Ty) : t.nm ∈ ["int", "bool", "str", "list", "tuple", "dict"] := by cases t <;> decide
theorem pd_isi {y : Str} {t : Ty} {p2 : Pos} (hK : X.K = TheK.K) (hb : Bn X "isinstance" (.builtin "isinstance")) (hy : Bn X y (.type t.nm)) (ha : PD .s X Wx a ma)
    (hs : starEach [a, .Name y p2] X.env = (false, eval a X.env) :: starEach [.Name y p2] X.env := by rfl) : PD .s X Wx (.Call (.Name "isinstance" p) [a, .Name y p2] [] pos) (eIsi t ma) := by
  obtain ⟨ta, pa, qa⟩ := ha
  refine ⟨_, pe_callB (CallR.or call_isi (SlX.call_isiSl (.type t.nm))) hb.gl hb.mg hb.bt (pa_cons pa (pa_cons (pe_ty hy) pa_nil) hs) hb.nn hb.nd hs rfl, fun F O env σ H Q S w => ?_⟩
  refine qa F O env σ H _ S (w.bind.imp (fun dx e1 w1 x H1 S1 k1 p1 => ?_) fun _ _ _ z => z)
  cases ix : isExc dx with
  | true => rw [ix] at w1; exact w1.elim
  | false =>
  rw [ix] at w1
  have w1 : ∀ v H', SR X.K F O e1 σ H' → Ke (Jo O) H H' → Po .s X.K F O e1 σ H H' v (.bl (isi t dx)) → Q v H' := w1
  cases ip : isPy dx with
  | true => exact .inl ⟨x, .ty t.nm, _, _, _, rfl, .ty _, Rep.ty (K := X.K) p1 ip, kit_ty (kit_isi t dx ip), w1 _ H1 S1 k1 (.bl _)⟩
  | false =>
    obtain ⟨a, ddx, C, vs, c, rfl, rfl, sl, f⟩ := Rep.py p1 ip ix
    rw [← hK] at f
    refine .inr ⟨a, C, ddx, vs, .ty t.nm, false, rfl, rfl, fun w h => h, sl, f.sc, f.si, f.no _ (ty_mem t), ?_⟩
    have e : isi t (.obj c) = false := by cases t <;> rfl
    have this := w1 (.bl (isi t (.obj c))) H1 S1 k1 (.bl _)
    rw [e] at this
    exact this
theorem pd_isi2 {y z : Str} {t u : Ty} {p2 p3 p4 : Pos} {k : Nat} (hb : Bn X "isinstance" (.builtin "isinstance")) (hy : Bn X y (.type t.nm)) (hz : Bn X z (.type u.nm)) (ha : PD .s X Wx a ma)
    (hs : starEach [a, .Tuple [.Name y p2, .Name z p3] k p4] X.env = (false, eval a X.env) :: starEach [.Tuple [.Name y p2, .Name z p3] k p4] X.env := by rfl) :
    PD .s X Wx (.Call (.Name "isinstance" p) [a, .Tuple [.Name y p2, .Name z p3] k p4] [] pos) (eIsi2 t u ma) := by
  obtain ⟨ta, pa, qa⟩ := ha
  refine ⟨_, pe_callB call_isiT hb.gl hb.mg hb.bt (pa_cons pa (pa_cons (pe_tup (pa_cons (pe_ty hy) (pa_cons (pe_ty hz) pa_nil))) pa_nil) hs) hb.nn hb.nd hs rfl, fun F O env σ H Q S w => ?_⟩
  refine qa F O env σ H _ S (w.bind.imp (fun dx e1 w1 x H1 S1 k1 p1 => ?_) fun _ _ _ z => z)
  cases ip : isPy dx with
  | false => rw [ip] at w1; exact w1.elim
  | true =>
    rw [ip] at w1
    refine ⟨by show 2 ≤ sizeLine; rw [sizeLine_eq]; decide, fun tp htp => ?_⟩
    have r2 : Rep (Ow F O) (upd H1 tp (.tup [.ty t.nm, .ty u.nm])) x dx := Rep.mj (Ke.new htp) p1
    have ty := Rep.ty (K := X.K) r2 ip
    refine ⟨x, tp, _, _, [.type t.nm, .type u.nm], _, rfl, upd_same, .cons (.ty _) (.cons (.ty _) .nil), ty, ?_, w1 _ _ (S1.new' htp) (k1.trans (Ke.new htp)) (.bl _)⟩
    refine kitAny_cons (kit_ty (kit_isi t dx ip)) (fun h => kitAny_cons (kit_ty (kit_isi u dx ip)) (fun h2 => ?_) fun h2 => ?_) fun h => ?_
    · rw [h, h2]; exact kitAny_nil
    · rw [h2]; simp
    · rw [h]; simp
end
end AH
namespace AH
open PySem PySem.Spec PyProof.Rows L2
variable [TheK]
/-! ### slots stored -/
theorem sl_put_ne : ∀ (e : Env) (i j : Nat) (s : Sl), j ≠ i → sl (put e i s) j = sl e j
  | [], _, _, _, _ => rfl
  | _ :: r, 0, 0, _, h => absurd rfl h
  | _ :: r, 0, j + 1, _, _ => rfl
  | _ :: r, i + 1, 0, _, _ => rfl
  | _ :: r, i + 1, j + 1, s, h => sl_put_ne r i j s (fun e => h (by rw [e]))
theorem sl_put_same : ∀ (e : Env) (i : Nat) (s : Sl), i < e.length → sl (put e i s) i = s
  | [], _, _, h => absurd h (Nat.not_lt_zero _)
  | _ :: _, 0, _, _ => rfl
  | _ :: r, i + 1, s, h => sl_put_same r i s (Nat.lt_of_succ_lt_succ h)
theorem sl_out : ∀ (e : Env) (i : Nat), e.length ≤ i → sl e i = .no
  | [], _, _ => rfl
  | _ :: _, 0, h => absurd h (Nat.not_succ_le_zero _)
  | _ :: r, i + 1, h => sl_out r i (Nat.le_of_succ_le_succ h)
theorem put_len : ∀ (e : Env) (i : Nat) (s : Sl), (put e i s).length = e.length
  | [], _, _ => rfl
  | _ :: _, 0, _ => rfl
  | _ :: r, i + 1, s => by show (put r i s).length + 1 = r.length + 1; rw [put_len r i s]
theorem put_out : ∀ (e : Env) (i : Nat) (s : Sl), e.length ≤ i → put e i s = e
  | [], _, _, _ => rfl
  | _ :: _, 0, _, h => absurd h (Nat.not_succ_le_zero _)
  | x :: r, i + 1, s, h => by show x :: put r i s = x :: r; rw [put_out r i s (Nat.le_of_succ_le_succ h)]
theorem get1_ne {σ : L2.St} {i j : Nat} {o : Option V} (h : j ≠ i) : get1 (σ.set i o) j = get1 σ j := by
  unfold get1; rw [List.getElem?_set_ne (Ne.symm h)]
theorem get1_same {σ : L2.St} {i : Nat} {o : Option V} (h : i < σ.length) : get1 (σ.set i o) i = o := by
  unfold get1; rw [List.getElem?_set_self h]; rfl
theorem get1_out {σ : L2.St} {i : Nat} (h : σ.length ≤ i) : get1 σ i = none := by
  unfold get1; rw [List.getElem?_eq_none h]; rfl
def setO (O : Nat → Option Addr) (i : Nat) (x : Option Addr) : Nat → Option Addr := fun j => if j = i then x else O j
theorem setO_same {O : Nat → Option Addr} {i : Nat} {x : Option Addr} : setO O i x i = x := if_pos rfl
theorem setO_ne {O : Nat → Option Addr} {i j : Nat} {x : Option Addr} (h : j ≠ i) : setO O i x j = O j := if_neg h
section
variable {K : PySem.W.Frag} {F : Fm} {O : Nat → Option Addr} {env : Env} {σ : L2.St} {H H' : Hp} {i : Nat} {v : V} {d : D} {p : Addr}
/-- a slot seen with other owners -/
theorem SlR.own {F' : Fm} {O' : Nat → Option Addr} {ov : Option V} (hb : F'.ba = F.ba) (h0 : F'.H0 = F.H0) (ho : O' i = O i) (gp : ∀ a, F'.P a → F.P a) (g : ∀ a, Ow F' O' a → Ow F O a ∨ H a = none) (gn : ∀ a, Jo O' a ∨ F'.N a → (Jo O a ∨ F.N a) ∨ H a = none) : ∀ {s : Sl}, SlR K F O H i ov s → SlR K F' O' H i ov s := by
  intro s h
  cases s with
  | no => exact ho.trans h
  | val d => obtain ⟨h, v, e, r⟩ := h; exact ⟨ho.trans h, v, e, r.sub g⟩
  | ro d => obtain ⟨h, v, e, r⟩ := h; exact ⟨ho.trans h, v, e, r.go Ke.refl g gn⟩
  | own xs => obtain ⟨a, vs, h, hz, e, q, r⟩ := h; exact ⟨a, vs, ho.trans h, ⟨by rw [h0]; exact hz.1, fun z => hz.2 (gp a z)⟩, e, q, r.sub g⟩
  | bor xs => obtain ⟨a, vs, h, hz, e, q, r⟩ := h; exact ⟨a, vs, ho.trans h, by rw [hb]; exact hz, e, q, r.sub g⟩
  | odc kvs => obtain ⟨a, vs, h, hz, e, q, r⟩ := h; exact ⟨a, vs, ho.trans h, ⟨by rw [h0]; exact hz.1, fun z => hz.2 (gp a z)⟩, e, q, r.sub g⟩
  | ldc kvs => obtain ⟨h, a, vs, o, hz, e, q, r⟩ := h; exact ⟨ho.trans h, a, vs, o, fun z => (gn a z).elim hz (al_of q), e, q, r.sub g⟩
theorem ow_setN {a : Addr} (w : Ow F (setO O i none) a) : Ow F O a := by
  rcases w with w | ⟨j, w⟩
  · exact .inl w
  · by_cases hj : j = i
    · subst hj; rw [setO_same] at w; cases w
    · rw [setO_ne hj] at w; exact .inr ⟨j, w⟩
theorem jo_setN {a : Addr} (w : Jo (setO O i none) a) : Jo O a := by
  obtain ⟨j, w⟩ := w
  by_cases hj : j = i
  · subst hj; rw [setO_same] at w; cases w
  · rw [setO_ne hj] at w; exact ⟨j, w⟩
theorem inj_setN (S : SR K F O env σ H) : ∀ k j a, setO O i none k = some a → setO O i none j = some a → k = j := fun k j a h1 h2 => by
  by_cases hk : k = i
  · rw [hk, setO_same] at h1; cases h1
  · by_cases hj : j = i
    · rw [hj, setO_same] at h2; cases h2
    · rw [setO_ne hk] at h1; rw [setO_ne hj] at h2; exact S.inj k j a h1 h2
/-- a value stored; what the slot owned is let go -/
theorem SR.setVal (S : SR K F O env σ H) (r : Rep (Ow F O) H v d) : SR K F (setO O i none) (put env i (.val d)) (σ.set i (some v)) H where
  slot := fun j => by
    by_cases hj : j = i
    · subst hj
      by_cases hl : j < env.length
      · rw [sl_put_same _ _ _ hl, get1_same (by rw [← S.len]; exact hl)]
        exact ⟨setO_same, v, rfl, r.sub fun a w => .inl (ow_setN w)⟩
      · rw [put_out _ _ _ (by omega), sl_out _ _ (by omega)]
        exact setO_same
    · rw [sl_put_ne _ _ _ _ hj, get1_ne hj]
      exact SlR.own (F := F) rfl rfl (setO_ne hj) (fun _ z => z) (fun a w => .inl (ow_setN w)) (fun a w => .inl (w.elim (fun w => .inl (jo_setN w)) .inr)) (S.slot j)
  inj := inj_setN S
  prot := fun a w => S.prot a (ow_setN w)
  keep := S.keep
  al := S.al
  len := by rw [put_len, List.length_set]; exact S.len
  nal := S.nal
  pt := S.pt
theorem setO_id (h : O i = none) : setO O i none = O := by
  funext j
  by_cases hj : j = i
  · rw [hj, setO_same, h]
  · rw [setO_ne hj]
theorem SR.notOwn (S : SR K F O env σ H) (h : isOwn (sl env i) = false) : O i = none := by
  have s := S.slot i
  cases q : sl env i with
  | no => rw [q] at s; exact s
  | val d => rw [q] at s; exact s.1
  | ro d => rw [q] at s; exact s.1
  | _ => rw [q] at h; cases h
theorem SR.set (S : SR K F O env σ H) (h : isOwn (sl env i) = false) (r : Rep (Ow F O) H v d) : SR K F O (put env i (.val d)) (σ.set i (some v)) H := by
  have q := S.setVal (i := i) r
  rw [setO_id (S.notOwn h)] at q
  exact q
theorem ow_setS {a : Addr} (w : Ow F (setO O i (some p)) a) : Ow (F.ad p) O a := by
  rcases w with w | ⟨j, w⟩
  · exact .inl (.inl w)
  · by_cases hj : j = i
    · subst hj; rw [setO_same] at w; cases w; exact .inl (.inr rfl)
    · rw [setO_ne hj] at w; exact .inr ⟨j, w⟩
theorem jo_setS {a : Addr} (w : Jo (setO O i (some p)) a) : Jo O a ∨ a = p := by
  obtain ⟨j, w⟩ := w
  by_cases hj : j = i
  · subst hj; rw [setO_same] at w; cases w; exact .inr rfl
  · rw [setO_ne hj] at w; exact .inl ⟨j, w⟩
/-- a new object becomes the slot's own -/
theorem SR.setNew (S : SR K (F.ad p) O env σ H) {s : Sl} (np : ¬ Jo O p) (hl : i < env.length) (hs : SlR K F (setO O i (some p)) H i (some (.ref p)) s) : SR K F (setO O i (some p)) (put env i s) (σ.set i (some (.ref p))) H where
  slot := fun j => by
    by_cases hj : j = i
    · subst hj
      rw [sl_put_same _ _ _ hl, get1_same (by rw [← S.len]; exact hl)]
      exact hs
    · rw [sl_put_ne _ _ _ _ hj, get1_ne hj]
      refine SlR.own (F := F.ad p) (F' := F) rfl rfl (setO_ne hj) (fun _ z => .inl z) (fun a w => .inl (ow_setS w)) (fun a w => .inl ?_) (S.slot j)
      rcases w with w | w
      · rcases jo_setS w with w | rfl
        · exact .inl w
        · exact .inr (.inr rfl)
      · exact .inr (.inl w)
  inj := fun k j a h1 h2 => by
    by_cases hk : k = i
    · subst hk
      rw [setO_same] at h1
      cases h1
      by_cases hj : j = k
      · exact hj.symm
      · rw [setO_ne hj] at h2; exact absurd ⟨j, h2⟩ np
    · rw [setO_ne hk] at h1
      by_cases hj : j = i
      · subst hj
        rw [setO_same] at h2
        cases h2
        exact absurd ⟨k, h1⟩ np
      · rw [setO_ne hj] at h2; exact S.inj k j a h1 h2
  prot := fun a w => S.prot a (ow_setS w)
  keep := S.keep
  al := S.al
  len := by rw [put_len, List.length_set]; exact S.len
  nal := fun a w => S.nal a (.inl w)
  pt := fun a xs w => S.pt a xs (.inl w)
/-- the slot's own object is changed -/
theorem SR.mut {a : Addr} {o' : HO} {s' : Sl} (S : SR K F O env σ H) (hO : O i = some a) (hb : F.bo a ∨ F.H0 a = none) (hs : SlR K F O (upd H a o') i (get1 σ i) s') (ho : ∀ xs, o' ≠ .tup xs := by intro _ z; cases z) : SR K F O (put env i s') σ (upd H a o') := by
  have ja : Jo O a := ⟨i, hO⟩
  have k : Ke (Jo O) H (upd H a o') := Ke.mut ja
  refine ⟨fun j => ?_, S.inj, fun b w => k.there b (S.prot b w), fun b o e n => ?_, fun b e => k.there b (S.al b e), by rw [put_len]; exact S.len, fun b w => k.there b (S.nal b w), fun b xs w => by
    by_cases z : b = a
    · rw [z, upd_same]; exact fun y => ho xs (Option.some.inj y)
    · rw [upd_ne z]; exact S.pt b xs w⟩
  · by_cases hj : j = i
    · subst hj
      by_cases hl : j < env.length
      · rw [sl_put_same _ _ _ hl]; exact hs
      · have q := S.slot j
        rw [sl_out _ _ (by omega)] at q
        have q2 : O j = none := q
        rw [hO] at q2
        cases q2
    · rw [sl_put_ne _ _ _ _ hj]
      have q := S.slot j
      have na : ∀ b, O j = some b → b ≠ a := fun b e z => hj (S.inj j i a (by rw [e, z]) hO)
      cases z : sl env j with
      | no => rw [z] at q; exact q
      | val d => rw [z] at q; obtain ⟨h, v, e, r⟩ := q; exact ⟨h, v, e, r.mj k⟩
      | ro d => rw [z] at q; obtain ⟨h, v, e, r⟩ := q; exact ⟨h, v, e, r.go k (fun _ z => .inl z) fun _ z => .inl z⟩
      | own xs => rw [z] at q; obtain ⟨b, vs, h, hz, e, q, r⟩ := q; exact ⟨b, vs, h, hz, e, by rw [upd_ne (na b h)]; exact q, r.mj k⟩
      | bor xs => rw [z] at q; obtain ⟨b, vs, h, hz, e, q, r⟩ := q; exact ⟨b, vs, h, hz, e, by rw [upd_ne (na b h)]; exact q, r.mj k⟩
      | odc kvs => rw [z] at q; obtain ⟨b, vs, h, hz, e, q, r⟩ := q; exact ⟨b, vs, h, hz, e, by rw [upd_ne (na b h)]; exact q, r.mj k⟩
      | ldc kvs => rw [z] at q; obtain ⟨h, b, vs, o, hz, e, q, r⟩ := q; exact ⟨h, b, vs, o, hz, e, k.stay _ _ (fun z => hz (.inl z)) q, r.mj k⟩
  · have nb : b ≠ a := fun z => by
      subst z
      rcases hb with hb | hb
      · exact n hb
      · rw [hb] at e; cases e
    rw [upd_ne nb]
    exact S.keep b o e n
/-- an own list, lent or not: what stands there -/
theorem SR.ownAt (S : SR K F O env σ H) {xs : List D} (h : sl env i = .own xs ∨ sl env i = .bor xs) : ∃ a vs, O i = some a ∧ (F.bo a ∨ F.H0 a = none) ∧ get1 σ i = some (.ref a) ∧ H a = some (.lst vs) ∧ RepL (Ow F O) H vs xs ∧
    ∀ (H' : Hp) (vs' : List V) (ys : List D), H' a = some (.lst vs') → RepL (Ow F O) H' vs' ys → SlR K F O H' i (get1 σ i) (match sl env i with | .own _ => .own ys | .bor _ => .bor ys | s => s) := by
  have s := S.slot i
  rcases h with h | h
  · rw [h] at s ⊢
    obtain ⟨a, vs, h1, h0, h2, h3, r⟩ := s
    exact ⟨a, vs, h1, .inr h0.1, h2, h3, r, fun H' vs' ys e r' => ⟨a, vs', h1, h0, h2, e, r'⟩⟩
  · rw [h] at s ⊢
    obtain ⟨a, vs, h1, h0, h2, h3, r⟩ := s
    exact ⟨a, vs, h1, .inl ⟨i, h0⟩, h2, h3, r, fun H' vs' ys e r' => ⟨a, vs', h1, h0, h2, e, r'⟩⟩
/-- the own object is let go -/
theorem SR.rel (S : SR K F O env σ H) {xs : List D} (h : sl env i = .own xs) : SR K F (setO O i none) (put env i (.val (.lst xs))) σ H := by
  have s := S.slot i
  rw [h] at s
  obtain ⟨a, vs, h1, h0, h2, h3, r⟩ := s
  have hl : i < env.length := Nat.lt_of_not_le fun z => by rw [sl_out _ _ z] at h; cases h
  refine ⟨fun j => ?_, inj_setN S, fun a w => S.prot a (ow_setN w), S.keep, S.al, by rw [put_len]; exact S.len, S.nal, S.pt⟩
  by_cases hj : j = i
  · subst hj
    rw [sl_put_same _ _ _ hl]
    refine ⟨setO_same, _, h2, ?_⟩
    by_cases hw : Ow F (setO O j none) a
    · rcases hw with hw | ⟨k, hw⟩
      · exact absurd hw h0.2
      · by_cases hk : k = j
        · rw [hk, setO_same] at hw; cases hw
        · rw [setO_ne hk] at hw
          exact absurd (S.inj k j a hw h1) hk
    · exact .lst hw h3 (r.sub fun a w => .inl (ow_setN w))
  · rw [sl_put_ne _ _ _ _ hj]
    exact SlR.own (F := F) rfl rfl (setO_ne hj) (fun _ z => z) (fun a w => .inl (ow_setN w)) (fun a w => .inl (w.elim (fun w => .inl (jo_setN w)) .inr)) (S.slot j)
end
end AH
namespace AH
open PySem PySem.Spec PyProof.Rows L2
variable [TheK]
/-! ### targets -/
def Wp (js : List Nat) (σ σ' : L2.St) : Prop := ∀ vs : List Nat, (∀ j ∈ js, j ∈ vs) → wipe σ' vs = wipe σ vs
theorem wipe_get {σ : L2.St} {i : Nat} : ∀ {vs : List Nat}, (wipe σ vs)[i]? = if i ∈ vs then (σ[i]?).map (fun _ => none) else σ[i]?
  | [] => by simp [wipe]
  | v :: vs => by
    unfold wipe
    by_cases h : v = i
    · subst h
      by_cases hl : v < (wipe σ vs).length
      · rw [List.getElem?_set_self hl]
        rw [wipe_length] at hl
        simp [hl]
      · rw [List.getElem?_eq_none (by rw [List.length_set]; omega)]
        rw [wipe_length] at hl
        rw [List.getElem?_eq_none (l := σ) (by omega)]
        simp
    · rw [List.getElem?_set_ne h, wipe_get]
      have e : (i ∈ v :: vs) ↔ i ∈ vs := by
        rw [List.mem_cons]
        exact ⟨fun z => z.elim (fun z => absurd z.symm h) id, .inr⟩
      simp only [e]
theorem wipe_set {σ : L2.St} {i : Nat} {o : Option V} {vs : List Nat} (h : i ∈ vs) : wipe (σ.set i o) vs = wipe σ vs := by
  apply List.ext_getElem?
  intro j
  rw [wipe_get, wipe_get]
  by_cases hj : j = i
  · subst hj
    rw [if_pos h, if_pos h]
    by_cases hl : j < σ.length
    · rw [List.getElem?_set_self hl]
      simp [hl]
    · rw [List.getElem?_eq_none (by rw [List.length_set]; omega), List.getElem?_eq_none (by omega)]
  · rw [List.getElem?_set_ne (Ne.symm hj)]
def NoEx {α : Type} (m : M α) : Prop := ∀ e c fs e', m e ≠ .ex c fs e'
def GD (X : Cx) (tg : Expr) (js : List Nat) (g : DG) : Prop := (∀ d, NoEx (g d)) ∧ ∃ t : TG, PG X tg t ∧ ∀ (F : Fm) (O : Nat → Option Addr) (env : Env) (σ : L2.St) (H : Hp) (v : V) (d : D) (Q : L2.St → Hp → Prop), SR X.K F O env σ H → Rep (Ow F O) H v d →
  Want (g d) env (fun _ e1 => ∀ σ', SR X.K F O e1 σ' H → Wp js σ σ' → Q σ' H) (fun _ _ _ => True) → t v σ H Q
def GsD (X : Cx) (tgs : List Expr) (js : List Nat) (g : DGs) : Prop := (∀ d, NoEx (g d)) ∧ ∃ t : TGs, PGs X tgs t ∧ ∀ (F : Fm) (O : Nat → Option Addr) (env : Env) (σ : L2.St) (H : Hp) (vs : List V) (ds : List D) (Q : L2.St → Hp → Prop), SR X.K F O env σ H → RepL (Ow F O) H vs ds →
  Want (g ds) env (fun _ e1 => ∀ σ', SR X.K F O e1 σ' H → Wp js σ σ' → Q σ' H) (fun _ _ _ => True) → t vs σ H Q
section
variable {X : Cx} {Wx : WX} {e a b c d tg : Expr} {ma mb mc md : DE} {pos p : Pos}
theorem gd_name {i : Nat} {x : Str} (hN : X.N.Nodup) (hi : X.N[i]? = some x) (hx : Loc X.env.scope x) (hf : X.fn x = true ∨ X.env.scope.names.lookup x = some .local := by first | exact .inl rfl | exact .inr rfl | assumption) : GD X (.Name x pos) [i] (gN i) := by
  refine ⟨fun d e c fs e' h => ?_, _, pg_name hN hi hx hf, fun F O env σ H v d Q S r w => ?_⟩
  · unfold gN at h
    split at h <;> cases h
  unfold Want gN at w
  cases h : isOwn (sl env i) with
  | true => rw [h] at w; exact w.elim
  | false =>
    rw [h] at w
    exact w _ (S.set h r) fun vs hv => wipe_set (hv i (List.mem_singleton.mpr rfl))
theorem gsd_nil : GsD X [] [] gsNil := by
  refine ⟨fun d e c fs e' h => (by cases d <;> cases h), _, pgs_nil, fun F O env σ H vs ds Q S r w => ?_⟩
  cases r with
  | nil => exact ⟨rfl, w σ S fun _ _ => rfl⟩
  | cons _ _ => exact w.elim
theorem gsd_cons {es : List Expr} {js ks : List Nat} {g : DG} {gs : DGs} (h : GD X a js g) (hs : GsD X es ks gs) (he : (assignEach (a :: es) X.env).map (·.2) = assign a X.env :: (assignEach es X.env).map (·.2) := by rfl) : GsD X (a :: es) (js ++ ks) (gsCons g gs) := by
  obtain ⟨nx, t, p, q⟩ := h
  obtain ⟨nx', t', p', q'⟩ := hs
  refine ⟨fun d e c fs e' h => ?_, _, pgs_cons p p' he, fun F O env σ H vs ds Q S r w => ?_⟩
  · cases d with
    | nil => cases h
    | cons d ds =>
      have h : ((g d).bind fun _ => gs ds) e = .ex c fs e' := h
      unfold M.bind at h
      cases hg : g d e with
      | ok u e1 => rw [hg] at h; exact nx' ds e1 c fs e' h
      | ex c2 fs2 e1 => exact nx d e c2 fs2 e1 hg
      | bad => rw [hg] at h; cases h
  cases r with
  | nil => exact w.elim
  | cons r l =>
    refine ⟨_, _, rfl, q F O env σ H _ _ _ S r (w.bind.imp (fun _ e1 w1 σ' S' wp => ?_) fun _ _ _ z => z)⟩
    exact q' F O e1 σ' H _ _ _ S' l (Want.imp (m := gs _) w1 (fun _ e2 w2 σ2 S2 wp2 => w2 σ2 S2 fun us hu => (wp2 us fun j hj => hu j (List.mem_append_right _ hj)).trans (wp us fun j hj => hu j (List.mem_append_left _ hj))) fun _ _ _ z => z)
theorem gd_tup {es : List Expr} {k : Nat} {js : List Nat} {gs : DGs} {n : Nat} (hc : X.calm = true) (h : GsD X es js gs) (hlen : ∀ ds env o e, gs ds env = .ok o e → ds.length = n)
    (hn : (assignEach es X.env).length = n := by rfl) (hst : (assignEach es X.env).findIdx? (·.1) = none := by rfl) : GD X (.Tuple es k pos) js (gT gs) := by
  obtain ⟨nx, t, p, q⟩ := h
  have pe : PG X (.Tuple es k pos) (fun v σ H Q => gTup X.K n t v σ H Q ∨ gUnl X.K n t v σ H Q) := by
    refine ⟨fun pins s σ H v u Q I r hw => ?_⟩
    rcases hw with hw | hw
    · exact (pg_tup hc p hn hst).run pins s σ H v u Q I r hw
    · exact (pg_unl hc p hn hst).run pins s σ H v u Q I r hw
  refine ⟨fun d e c fs e' h => ?_, _, pe, fun F O env σ H v d Q S r w => ?_⟩
  · cases d with
    | tup xs => exact nx xs e c fs e' h
    | lst xs => exact nx xs e c fs e' h
    | _ => cases h
  have len : ∀ ds, Want (gs ds) env (fun _ e1 => ∀ σ', SR X.K F O e1 σ' H → Wp js σ σ' → Q σ' H) (fun _ _ _ => True) → ds.length = n := fun ds w => by
    unfold Want at w
    cases hm : gs ds env with
    | ok o e => exact hlen ds env o e hm
    | ex c fs e => exact absurd hm (nx ds env c fs e)
    | bad => rw [hm] at w; exact w.elim
  cases r with
  | tup n1 h1 l =>
    refine .inl ⟨_, _, rfl, .inl (.inl h1), ?_, q F O env σ H _ _ _ S l w⟩
    rw [l.len]; exact len _ w
  | lst n1 h1 l =>
    refine .inr ⟨_, _, rfl, .inl (.inl h1), ?_, q F O env σ H _ _ _ S l w⟩
    rw [l.len]; exact len _ w
  | _ => exact w.elim
theorem gs_len0 : ∀ ds env o e, gsNil ds env = .ok o e → ds.length = 0 := fun ds env o e h => by
  cases ds with
  | nil => rfl
  | cons _ _ => cases h
theorem gs_lenS {g : DG} {gs : DGs} {n : Nat} (h : ∀ ds env o e, gs ds env = .ok o e → ds.length = n) : ∀ ds env o e, gsCons g gs ds env = .ok o e → ds.length = n + 1 := fun ds env o e q => by
  cases ds with
  | nil => cases q
  | cons d ds =>
    show ds.length + 1 = n + 1
    have q : ((g d).bind fun _ => gs ds) env = .ok o e := q
    unfold M.bind at q
    cases hg : g d env with
    | ok u e1 => rw [hg] at q; rw [h ds e1 o e q]
    | ex c fs e1 => rw [hg] at q; cases q
    | bad => rw [hg] at q; cases q
/-! ### what is walked -/
/-- what may change while a thing is walked -/
abbrev Wj (F : Fm) (O : Nat → Option Addr) : Pr := fun a => Ow F O a ∧ (Jo O a ∨ F.N a)
theorem Ke.wj {F : Fm} {O : Nat → Option Addr} {H H' : Hp} (k : Ke (Jo O) H H') : Ke (Wj F O) H H' := k.imp fun _ z _ => ⟨.inr z, .inl z⟩
theorem Ke.wo {F : Fm} {O : Nat → Option Addr} {H H' : Hp} (k : Ke (Wj F O) H H') : Ke (Ow F O) H H' := k.imp fun _ z _ => z.1
structure Wk (F : Fm) (O : Nat → Option Addr) (H1 : Hp) (J : It) (xs : List D) : Prop where
  go : ∀ i H, Ke (Wj F O) H1 H → i < xs.length → J.go i H
  stop : ∀ H, Ke (Wj F O) H1 H → J.stop xs.length H
  yld : ∀ i H x H' d (W' : Pr), Ke (Wj F O) H1 H → (∀ a, W' a → Ow F O a ∨ H1 a = none) → (∀ a, W' a → H a ≠ none ∧ ∀ xs, H a ≠ some (.tup xs)) → xs[i]? = some d → J.yld i H x H' → (∀ a o, H a = some o → H' a = some o) ∧ Rep W' H' x d
def ID (X : Cx) (Wx : WX) (tg iter : Expr) (m : DI) : Prop := ∃ wi : TI, PI X tg iter wi ∧ ∀ (F : Fm) (O : Nat → Option Addr) (env : Env) (σ : L2.St) (H : Hp) (R : It → Hp → Prop), SR X.K F O env σ H →
  Want m env (fun xs e1 => ∀ J H1, SR X.K F O e1 σ H1 → Ke (Jo O) H H1 → Wk F O H1 J xs → R J H1) (XW X.K F O σ H Wx) → wi σ H R
section
variable {K : PySem.W.Frag} {F : Fm} {O : Nat → Option Addr} {H1 : Hp} {xs ys : List D} {vs ws : List V} {J : It}
theorem ow_step {O' : Nat → Option Addr} (g : ∀ a, Jo O' a → Jo O a ∨ H1 a = none) : ∀ a, Ow F O' a → Ow F O a ∨ H1 a = none := fun a w => w.elim (fun w => .inl (.inl w)) fun w => (g a w).elim (fun z => .inl (.inr z)) .inr
/-- items that stay where they are -/
theorem wk_at (l : RepL (Ow F O) H1 vs xs) (w : Walk J vs.length (fun H => Ke (Wj F O) H1 H) (YAt vs)) : Wk F O H1 J xs where
  go := fun i H k hi => w.goes i H (by rw [l.len]; exact hi) k
  stop := fun H k => by rw [← l.len]; exact w.stops H k
  yld := fun i H x H' d O' k g al hd y => by
    have hi : i < vs.length := by
      rw [l.len]
      exact (List.getElem?_eq_some_iff.mp hd).1
    obtain ⟨rfl, hx⟩ := w.yields i H x H' hi k y
    obtain ⟨v, hv, r⟩ := l.get hd
    rw [hx] at hv
    cases hv
    exact ⟨fun _ _ e => e, r.ke k.wo g⟩
/-- new pairs of such -/
theorem wk_pair {zs : List D} {n : Nat} {f h : Nat → Option V} (w : Walk J n (fun H => Ke (Wj F O) H1 H) (YPair f h)) (hn : zs.length = n)
    (hz : ∀ i d x y, zs[i]? = some d → f i = some x → h i = some y → ∃ dx dy, d = .tup [dx, dy] ∧ Rep (Ow F O) H1 x dx ∧ Rep (Ow F O) H1 y dy) : Wk F O H1 J zs where
  go := fun i H k hi => w.goes i H (by omega) k
  stop := fun H k => by rw [hn]; exact w.stops H k
  yld := fun i H v H' d O' k g al hd yy => by
    have hi : i < n := by
      rw [← hn]
      exact (List.getElem?_eq_some_iff.mp hd).1
    obtain ⟨T, x, y, rfl, hT, rfl, hx, hy⟩ := w.yields i H v H' hi k yy
    obtain ⟨dx, dy, rfl, rx, ry⟩ := hz i d x y hd hx hy
    have st : ∀ a o, H a = some o → upd H T (.tup [x, y]) a = some o := new_ext hT
    refine ⟨st, .tup (fun z => (al T z).1 hT) upd_same (.cons ?_ (.cons ?_ .nil))⟩
    · exact (rx.ke k.wo g).ke (ke_ext st) fun a z => .inl z
    · exact (ry.ke k.wo g).ke (ke_ext st) fun a z => .inl z
end
/-- a list or a tuple -/
def iAny (K : PySem.W.Frag) (tl : TE) : TI := fun σ H R => tl σ H fun x H1 => ∃ a, x = .ref a ∧ ((∃ xs, SqL K H1 a xs ∧ R (Itl K a) H1) ∨ ∃ xs, SqT K H1 a xs ∧ R (Itt K a) H1)
theorem pi_any {l : Expr} {tl : TE} (hl : PE X l tl) : PI X tg l (iAny X.K tl) := by
  refine ⟨fun pins s σ H R I h => ?_⟩
  refine thn (hl.run pins s σ H _ I h) fun v s1 ⟨x, H1, I1, r1, q1⟩ => ?_
  obtain ⟨a, e, q⟩ := q1
  subst e
  cases r1
  rcases q with ⟨xs, hq, q⟩ | ⟨xs, hq, q⟩
  · obtain ⟨its, rv, p, hz⟩ := I1.list hq
    refine wpAny_pyIter_list p.isList ?_
    refine ⟨s1.heap.objs.size, [s1.heap.objs.size], _, _, H1, rfl, I1.kept (t' := s1.toks) fun b o e => Heap.get?_push_of_some _ e, turn_list a _, ⟨_, Heap.get?_push_size _ rfl, rfl, rfl⟩, fun b hb => ?_, q⟩
    have e : b = s1.heap.objs.size := by simpa using hb
    subst e
    exact I1.fpOk (Nat.le_refl _) (I1.hok.fresh (Nat.le_refl _))
  · obtain ⟨its, rv, p, hz⟩ := I1.tuple hq
    refine wpAny_pyIter_tuple (show s1.heap.IsTuple a its.toArray from p) ?_
    refine ⟨s1.heap.objs.size, [s1.heap.objs.size], _, _, H1, rfl, I1.kept (t' := s1.toks) fun b o e => Heap.get?_push_of_some _ e, turn_tuple a _, ⟨_, Heap.get?_push_size _ rfl, rfl, rfl⟩, fun b hb => ?_, q⟩
    have e : b = s1.heap.objs.size := by simpa using hb
    subst e
    exact I1.fpOk (Nat.le_refl _) (I1.hok.fresh (Nat.le_refl _))
theorem id_seq (ha : PD .s X Wx a ma) : ID X Wx tg a (iSeq ma) := by
  obtain ⟨ta, pa, qa⟩ := ha
  refine ⟨_, pi_any pa, fun F O env σ H R S w => ?_⟩
  refine qa F O env σ H _ S (w.bind.imp (fun dx e1 w1 x H1 S1 k1 p1 => ?_) fun _ _ _ z => z)
  cases p1 with
  | lst n h l =>
    have st : ∀ H, Ke (Wj F O) H1 H → SqL X.K H _ _ := fun H k => .inl (.inl (k.stay _ _ (fun z => n z.1) h))
    exact ⟨_, rfl, .inl ⟨_, .inl (.inl h), w1 _ H1 S1 k1 (wk_at l (walk_list.mono (fun H k => st H k) fun _ _ _ _ _ _ y => y))⟩⟩
  | tup n h l =>
    have st : ∀ H, Ke (Wj F O) H1 H → SqT X.K H _ _ := fun H k => .inl (.inl (k.stay _ _ (fun z => n z.1) h))
    exact ⟨_, rfl, .inr ⟨_, .inl (.inl h), w1 _ H1 S1 k1 (wk_at l (walk_tup.mono (fun H k => st H k) fun _ _ _ _ _ _ y => y))⟩⟩
  | _ => exact w1.elim
theorem wk_range {F : Fm} {O : Nat → Option Addr} {H1 : Hp} (i j : Int) : Wk F O H1 (Itr i (j - i).toNat) (rng i j) where
  go := fun k H _ hk => by unfold rng at hk; rw [List.length_map, List.length_range] at hk; exact hk
  stop := fun H _ => by
    show (j - i).toNat ≤ (rng i j).length
    unfold rng; rw [List.length_map, List.length_range]; exact Nat.le_refl _
  yld := fun k H x H' d O' _ _ _ hd y => by
    obtain ⟨rfl, rfl⟩ := y
    refine ⟨fun _ _ e => e, ?_⟩
    unfold rng at hd
    rw [List.getElem?_map] at hd
    cases hr : (List.range (j - i).toNat)[k]? with
    | none => rw [hr] at hd; cases hd
    | some n =>
      rw [hr] at hd
      cases hd
      have e : n = k := by
        have := List.getElem?_range (n := (j - i).toNat) (i := k) ((List.getElem?_eq_some_iff.mp hr).1 |> fun z => by rw [List.length_range] at z; exact z)
        rw [this] at hr
        cases hr
        rfl
      rw [e]
      exact .int _
theorem id_range1 (hb : Bn X "range" (.type "range")) (ha : PD .s X Wx a ma) (hs : starEach [a] X.env = [(false, eval a X.env)] := by rfl) : ID X Wx tg (.Call (.Name "range" p) [a] [] pos) (AH.iRng1 ma) := by
  obtain ⟨ta, pa, qa⟩ := ha
  refine ⟨_, pi_range1 hb.gl hb.mg (pa_cons pa pa_nil hs) hs, fun F O env σ H R S w => ?_⟩
  refine qa F O env σ H _ S (w.bind.imp (fun dx e1 w1 x H1 S1 k1 p1 => ?_) fun _ _ _ z => z)
  cases p1 with
  | int j =>
    cases hr : rngOk 0 j with
    | false =>
      have w2 : Want (if rngOk 0 j = true then M.pure (rng 0 j) else fun _ => AH.R.bad) e1 _ _ := w1
      rw [hr] at w2
      exact w2.elim
    | true =>
      have w2 : Want (if rngOk 0 j = true then M.pure (rng 0 j) else fun _ => AH.R.bad) e1 (fun xs e1 => ∀ J H1, SR X.K F O e1 σ H1 → Ke (Jo O) H H1 → Wk F O H1 J xs → R J H1) (XW X.K F O σ H Wx) := w1
      rw [hr] at w2
      obtain ⟨h1, h2⟩ := Bool.and_eq_true_iff.mp hr
      obtain ⟨h3, h4⟩ := Bool.and_eq_true_iff.mp h1
      have q := w2 (Itr 0 (j - 0).toNat) H1 S1 k1 (wk_range 0 j)
      rw [Int.sub_zero] at q
      exact ⟨j, rfl, of_decide_eq_true h4, of_decide_eq_true h2, q⟩
  | _ => exact w1.elim
theorem id_range2 (hb : Bn X "range" (.type "range")) (ha : PD .s X Wx a ma) (hb' : PD .s X Wx b mb) (hs : starEach [a, b] X.env = [(false, eval a X.env), (false, eval b X.env)] := by rfl) (hs2 : starEach [b] X.env = [(false, eval b X.env)] := by rfl) :
    ID X Wx tg (.Call (.Name "range" p) [a, b] [] pos) (AH.iRng2 ma mb) := by
  obtain ⟨ta, pa, qa⟩ := ha
  obtain ⟨tb, pb, qb⟩ := hb'
  refine ⟨_, pi_range2 hb.gl hb.mg (pa_cons pa (pa_cons pb pa_nil hs2) (by rw [hs, hs2])) hs hs2, fun F O env σ H R S w => ?_⟩
  refine qa F O env σ H _ S (w.bind.imp (fun dx e1 w1 x H1 S1 k1 p1 => ?_) fun _ _ _ z => z)
  refine qb F O e1 σ H1 _ S1 (w1.bind.imp (fun dy e2 w2 y H2 S2 k2 p2 => ?_) (XW.later k1))
  cases p1 with
  | int i => cases p2 with
    | int j =>
      have w3 : Want (if rngOk i j = true then M.pure (rng i j) else fun _ => AH.R.bad) e2 (fun xs e1 => ∀ J H1, SR X.K F O e1 σ H1 → Ke (Jo O) H H1 → Wk F O H1 J xs → R J H1) (XW X.K F O σ H Wx) := w2
      cases hr : rngOk i j with
      | false => rw [hr] at w3; exact w3.elim
      | true =>
        rw [hr] at w3
        obtain ⟨h1, h2⟩ := Bool.and_eq_true_iff.mp hr
        obtain ⟨h3, h4⟩ := Bool.and_eq_true_iff.mp h1
        obtain ⟨h5, h6⟩ := Bool.and_eq_true_iff.mp h3
        exact ⟨i, j, rfl, ⟨of_decide_eq_true h5, of_decide_eq_true h6, of_decide_eq_true h4, of_decide_eq_true h2⟩, w3 _ H2 S2 (k1.trans k2) (wk_range i j)⟩
    | _ => exact w2.elim
  | _ => exact w2.elim
theorem pairs_get {xs ys : List D} {i : Nat} {d : D} (h : (pairs xs ys)[i]? = some d) : ∃ x y, xs[i]? = some x ∧ ys[i]? = some y ∧ d = .tup [x, y] := by
  unfold pairs at h
  rw [List.getElem?_map] at h
  cases hz : (xs.zip ys)[i]? with
  | none => rw [hz] at h; cases h
  | some q =>
    rw [hz] at h
    cases h
    obtain ⟨h1, h2⟩ := List.getElem?_zip_eq_some.mp hz
    exact ⟨_, _, h1, h2, rfl⟩
theorem walk_zipT {K : PySem.W.Frag} {a b : Addr} {xs ys : List V} {n : Nat} (hn : n = min xs.length ys.length) : Walk (RZ.ItzT K a b) n (fun H => SqT K H a xs ∧ SqT K H b ys) (YPair (fun i => xs[i]?) (fun i => ys[i]?)) := by
  subst hn
  refine ⟨fun i _ hi q => ?_, fun _ q => ⟨xs, ys, q.1, q.2, by omega⟩, fun i H v H' _ q y => ?_⟩
  · have h1 : i < xs.length := by omega
    have h2 : i < ys.length := by omega
    exact ⟨xs, ys, xs[i], ys[i], q.1, q.2, by simp [h1], by simp [h2]⟩
  · obtain ⟨T, x, z, h1, h2, h3, h4, h5⟩ := y
    exact ⟨T, x, z, h1, h2, h3, h4 xs q.1, h5 ys q.2⟩
theorem id_zip {elts : List Expr} {kk : Nat} {tpos : Pos} (hb : Bn X "zip" (.type "zip")) (ha : PD .s X Wx a ma) (hb' : PD .s X Wx b mb)
    (hs : starEach [a, b] X.env = (false, eval a X.env) :: starEach [b] X.env := by rfl) (hs2 : starEach [b] X.env = (false, eval b X.env) :: starEach [] X.env := by rfl) (hpl : (backTo pos (starEach [b] X.env)).any (·.1) = false := by rfl) :
    ID X Wx (.Tuple elts kk tpos) (.Call (.Name "zip" p) [a, b] [] pos) (AH.iZip ma mb) := by
  obtain ⟨ta, pa, qa⟩ := ha
  obtain ⟨tb, pb, qb⟩ := hb'
  refine ⟨_, RZ.pi_zipA hb.gl hb.mg (pa_cons pa (pa_cons pb pa_nil hs2) hs) hs hpl, fun F O env σ H R S w => ?_⟩
  refine qa F O env σ H _ S (w.bind.imp (fun dx e1 w1 x H1 S1 k1 p1 => ?_) fun _ _ _ z => z)
  refine qb F O e1 σ H1 _ S1 (w1.bind.imp (fun dy e2 w2 y H2 S2 k2 p2 => ?_) (XW.later k1))
  have p1' := Rep.mj k2 p1
  have fin : ∀ {xs ys : List D} {vs ws : List V}, RepL (Ow F O) H2 vs xs → RepL (Ow F O) H2 ws ys → ∀ i d x y, (pairs xs ys)[i]? = some d → vs[i]? = some x → ws[i]? = some y → ∃ dx dy, d = D.tup [dx, dy] ∧ Rep (Ow F O) H2 x dx ∧ Rep (Ow F O) H2 y dy := fun l1 l2 i d x y hd hx hy => by
    obtain ⟨dx, dy, h1, h2, rfl⟩ := pairs_get hd
    obtain ⟨v, hv, r1⟩ := l1.get h1
    obtain ⟨u, hu, r2⟩ := l2.get h2
    rw [hx] at hv; cases hv
    rw [hy] at hu; cases hu
    exact ⟨dx, dy, rfl, r1, r2⟩
  have plen : ∀ (xs ys : List D) {vs ws : List V}, RepL (Ow F O) H2 vs xs → RepL (Ow F O) H2 ws ys → (pairs xs ys).length = min vs.length ws.length := fun xs ys vs ws l1 l2 => by
    unfold pairs; rw [List.length_map, List.length_zip, l1.len, l2.len]
  cases p1' with
  | lst n1 h1 l1 => cases p2 with
    | lst n2 h2 l2 =>
      refine ⟨_, _, _, _, rfl, .inl ⟨.inl (.inl h1), .inl (.inl h2), w2 _ H2 S2 (k1.trans k2) (wk_pair ((walk_zip rfl).mono (fun H k => ⟨.inl (.inl (k.stay _ _ (fun z => n1 z.1) h1)), .inl (.inl (k.stay _ _ (fun z => n2 z.1) h2))⟩) fun _ _ _ _ _ _ y => y) (plen _ _ l1 l2) (fin l1 l2))⟩⟩
    | _ => exact w2.elim
  | tup n1 h1 l1 => cases p2 with
    | tup n2 h2 l2 =>
      refine ⟨_, _, _, _, rfl, .inr ⟨.inl (.inl h1), .inl (.inl h2), w2 _ H2 S2 (k1.trans k2) (wk_pair ((walk_zipT rfl).mono (fun H k => ⟨.inl (.inl (k.stay _ _ (fun z => n1 z.1) h1)), .inl (.inl (k.stay _ _ (fun z => n2 z.1) h2))⟩) fun _ _ _ _ _ _ y => y) (plen _ _ l1 l2) (fin l1 l2))⟩⟩
    | _ => exact w2.elim
  | _ => exact w2.elim
end
end AH
namespace AH
open PySem PySem.Spec PyProof.Rows L2
variable [TheK]
/-! ### statements -/
structure KeS (O : Nat → Option Addr) (H : Hp) (O' : Nat → Option Addr) (H' : Hp) : Prop where
  ke : Ke (Jo O) H H'
  ow : ∀ a, Jo O' a → Jo O a ∨ H a = none
theorem KeS.refl {O : Nat → Option Addr} {H : Hp} : KeS O H O H := ⟨Ke.refl, fun _ z => .inl z⟩
theorem KeS.of {O : Nat → Option Addr} {H H' : Hp} (k : Ke (Jo O) H H') : KeS O H O H' := ⟨k, fun _ z => .inl z⟩
theorem KeS.trans {O O1 O2 : Nat → Option Addr} {H H1 H2 : Hp} (a : KeS O H O1 H1) (b : KeS O1 H1 O2 H2) : KeS O H O2 H2 where
  ke := ⟨fun x o n e => b.ke.stay x o (fun z => (a.ow x z).elim n fun q => by rw [q] at e; cases e) (a.ke.stay x o n e), fun x e => b.ke.there x (a.ke.there x e)⟩
  ow := fun x z => by
    rcases b.ow x z with z | z
    · exact a.ow x z
    · refine .inr ?_
      cases q : H x with
      | none => rfl
      | some o => exact absurd z (a.ke.there x (by rw [q]; simp))
/-- what stands in the lent lists keeps apart from Z -/
def BoR (Z : Pr) (F : Fm) (e1 : Env) (H : Hp) : Prop := ∀ i xs, sl e1 i = .bor xs → ∃ a vs, F.ba i = some a ∧ H a = some (.lst vs) ∧ RepL Z H vs xs
/-- what a def hands back -/
def Ro (fl : Fl) (K : PySem.W.Frag) (F : Fm) (O : Nat → Option Addr) (e1 : Env) (σ : L2.St) (H : Hp) (v : V) (d : D) : Prop := match fl with
  | .f => ∃ p vs xs, v = .ref p ∧ d = .lst xs ∧ F.H0 p = none ∧ H p = some (.lst vs) ∧ RepL (fun a => F.P a ∨ a = p) H vs xs ∧ BoR (fun a => F.P a ∨ a = p) F e1 H
  | .fd => ∃ p ks kvs, v = .ref p ∧ d = .dic kvs ∧ F.H0 p = none ∧ H p = some (.dT ks) ∧ RepK (fun a => F.P a ∨ a = p) H ks kvs ∧ BoR (fun a => F.P a ∨ a = p) F e1 H
  | _ => Rep F.P H v d
def EndR (fl : Fl) (K : PySem.W.Frag) (F : Fm) (O : Nat → Option Addr) (e1 : Env) (σ : L2.St) (H : Hp) (D : Ends) : Out → Prop
  | .nx => D.nx σ H
  | .bk => D.bk σ H
  | .ct => D.ct σ H
  | .rt d => ∀ v, Ro fl K F O e1 σ H v d → D.rt v H
def XWs (K : PySem.W.Frag) (F : Fm) (O : Nat → Option Addr) (H : Hp) (Wx : WX) : Str → List D → Env → Prop := fun c fs e1 =>
  ∀ O' σ' cls d H', SR K F O' e1 σ' H' → KeS O H O' H' → XR K (Ow F O') c fs cls d H' → Wx cls d σ' H'
theorem XWs.later {K : PySem.W.Frag} {F : Fm} {O O1 : Nat → Option Addr} {H H1 : Hp} {Wx : WX} (k : KeS O H O1 H1) : ∀ c fs e, XWs K F O H Wx c fs e → XWs K F O1 H1 Wx c fs e :=
  fun _ _ _ h O' σ' cls d H' S k1 x => h O' σ' cls d H' S (k.trans k1) x
theorem XWs.xw {K : PySem.W.Frag} {F : Fm} {O : Nat → Option Addr} {σ : L2.St} {H : Hp} {Wx : WX} : ∀ c fs e, XWs K F O H Wx c fs e → XW K F O σ H Wx c fs e :=
  fun _ _ _ h cls d H' S k1 x => h O σ cls d H' S (.of k1) x
def Post (fl : Fl) (K : PySem.W.Frag) (F : Fm) (O : Nat → Option Addr) (H : Hp) (D : Ends) : Out → Env → Prop := fun o e1 => ∀ O' σ' H', SR K F O' e1 σ' H' → KeS O H O' H' → EndR fl K F O' e1 σ' H' D o
def SD (fl : Fl) (X : Cx) (Wx : WX) (st : Stmt) (m : DS) : Prop := ∃ t : TS, PS X st t ∧ ∀ (F : Fm) (O : Nat → Option Addr) (env : Env) (σ : L2.St) (H : Hp) (D : Ends), SR X.K F O env σ H →
  Want m env (Post fl X.K F O H D) (XWs X.K F O H Wx) → t D σ H
def SsD (fl : Fl) (X : Cx) (Wx : WX) (st : List Stmt) (m : DS) : Prop := ∃ t : TS, PSs X st t ∧ ∀ (F : Fm) (O : Nat → Option Addr) (env : Env) (σ : L2.St) (H : Hp) (D : Ends), SR X.K F O env σ H →
  Want m env (Post fl X.K F O H D) (XWs X.K F O H Wx) → t D σ H
theorem Post.later {fl : Fl} {K : PySem.W.Frag} {F : Fm} {O O1 : Nat → Option Addr} {H H1 : Hp} {D : Ends} (k : KeS O H O1 H1) : ∀ o e, Post fl K F O H D o e → Post fl K F O1 H1 D o e :=
  fun _ _ h O' σ' H' S k1 => h O' σ' H' S (k.trans k1)
theorem Want.gd {α : Type} {m : M α} {c : Bool} {a : α} {e e' : Env} {Q : α → Env → Prop} {E : Str → List D → Env → Prop} (h : Want m e Q E) (eq : m e = if c = true then .bad else .ok a e') : c = false ∧ Q a e' := by
  unfold Want at h
  rw [eq] at h
  cases c with
  | true => exact h.elim
  | false => exact ⟨rfl, h⟩
section
variable {fl : Fl} {X : Cx} {Wx : WX} {e a b c d tg : Expr} {ma mb mc md : DE} {pos p : Pos} {st : Stmt} {rest : List Stmt} {m n : DS}
theorem ss_nil : SsD fl X Wx [] sNil := ⟨_, pss_nil, fun F O env σ H D S w => w O σ H S .refl⟩
theorem ss_cons (h : SD fl X Wx st m) (hr : SsD fl X Wx rest n) : SsD fl X Wx (st :: rest) (sSeq m n) := by
  obtain ⟨t, p, q⟩ := h
  obtain ⟨t', p', q'⟩ := hr
  refine ⟨_, pss_cons p p', fun F O env σ H D S w => ?_⟩
  refine q F O env σ H _ S (w.bind.imp (fun o e1 w1 O1 σ1 H1 S1 k1 => ?_) fun _ _ _ z => z)
  cases o with
  | nx => exact q' F O1 e1 σ1 H1 D S1 (Want.imp (m := n) w1 (Post.later k1) (XWs.later k1))
  | bk => exact w1 O1 σ1 H1 S1 k1
  | ct => exact w1 O1 σ1 H1 S1 k1
  | rt d => exact w1 O1 σ1 H1 S1 k1
theorem ss_one (h : SD fl X Wx st m) : SsD fl X Wx [st] m := let ⟨t, p, q⟩ := h; ⟨t, pss_one p, q⟩
theorem sd_pass : SD fl X Wx (.Pass pos) sNil := ⟨_, ps_pass, fun F O env σ H D S w => w O σ H S .refl⟩
theorem sd_brk : SD fl X Wx (.Break pos) sBrk := ⟨_, ps_break, fun F O env σ H D S w => w O σ H S .refl⟩
theorem sd_cnt : SD fl X Wx (.Continue pos) sCnt := ⟨_, ps_continue, fun F O env σ H D S w => w O σ H S .refl⟩
/-- a statement that is never come to -/
theorem sd_bad : SD fl X Wx st sBad := ⟨_, ps_never, fun F O env σ H D S w => w⟩
/-- name = a value -/
def sAsgN (i : Nat) (a : DE) : DS := a.bind fun x => fun e => if isFix (sl e i) then .bad else .ok .nx (put e i (.val x))
theorem sd_asgN {i : Nat} {x : Str} (hN : X.N.Nodup) (hi : X.N[i]? = some x) (hx : Loc X.env.scope x) (ha : PD .s X Wx a ma) (hs : swapsWith a (some (.Name x p)) pos.line X.env = pure false := by rfl)
    (hf : X.fn x = true ∨ X.env.scope.names.lookup x = some .local := by first | exact .inl rfl | exact .inr rfl | assumption) : SD fl X Wx (.Assign [.Name x p] a pos) (sAsgN i ma) := by
  obtain ⟨ta, pa, qa⟩ := ha
  refine ⟨_, ps_set hN hi hx pa hs hf, fun F O env σ H D S w => ?_⟩
  refine qa F O env σ H _ S (w.bind.imp (fun dx e1 w1 x H1 S1 k1 p1 => ?_) XWs.xw)
  obtain ⟨_, w2⟩ := w1.gd rfl
  exact w2 _ _ H1 (S1.setVal p1) ⟨k1, fun a z => .inl (jo_setN z)⟩
/-- name = a new list, kept as the frame's own -/
theorem keS_new {O : Nat → Option Addr} {H H' : Hp} {i : Nat} {q : Addr} (k : Ke (Jo O) H H') (hq : H q = none) : KeS O H (setO O i (some q)) H' :=
  ⟨k, fun a z => (jo_setS z).elim .inl fun e => .inr (by rw [e]; exact hq)⟩
theorem SR.own1 {K : PySem.W.Frag} {F : Fm} {O : Nat → Option Addr} {e1 : Env} {σ : L2.St} {H H' : Hp} {v : V} {xs : List D} {i : Nat} (al : ∀ a, F.H0 a ≠ none → H a ≠ none) (ow : ∀ a, Ow F O a → H a ≠ none) (r : Po .f K F O e1 σ H H' v (.lst xs)) (hl : i < e1.length) :
    ∃ q, v = .ref q ∧ H q = none ∧ SR K F (setO O i (some q)) (put e1 i (.own xs)) (σ.set i (some v)) H' := by
  obtain ⟨q, vs, xs', rfl, e, hq, hq', l, S⟩ := r
  cases e
  have np : ¬ Jo O q := fun z => ow q (.inr z) hq
  refine ⟨q, rfl, hq, S.setNew np hl ⟨q, vs, setO_same, ⟨?_, fun z => ow q (.inl z) hq⟩, rfl, hq', l.sub fun a w => .inl (ow_setS w)⟩⟩
  cases z : F.H0 q with
  | none => rfl
  | some o => exact absurd hq (al q (by rw [z]; simp))
theorem SR.own1d {K : PySem.W.Frag} {F : Fm} {O : Nat → Option Addr} {e1 : Env} {σ : L2.St} {H H' : Hp} {v : V} {xs : List (List Key × D)} {i : Nat} (al : ∀ a, F.H0 a ≠ none → H a ≠ none) (ow : ∀ a, Ow F O a → H a ≠ none) (r : Po .fd K F O e1 σ H H' v (.dic xs)) (hl : i < e1.length) :
    ∃ q, v = .ref q ∧ H q = none ∧ SR K F (setO O i (some q)) (put e1 i (.odc xs)) (σ.set i (some v)) H' := by
  obtain ⟨q, vs, xs', rfl, e, hq, hq', l, S⟩ := r
  cases e
  have np : ¬ Jo O q := fun z => ow q (.inr z) hq
  refine ⟨q, rfl, hq, S.setNew np hl ⟨q, vs, setO_same, ⟨?_, fun z => ow q (.inl z) hq⟩, rfl, hq', l.sub fun a w => .inl (ow_setS w)⟩⟩
  cases z : F.H0 q with
  | none => rfl
  | some o => exact absurd hq (al q (by rw [z]; simp))
theorem sd_own {i : Nat} {x : Str} (hN : X.N.Nodup) (hi : X.N[i]? = some x) (hx : Loc X.env.scope x) (ha : PD .f X Wx a ma) (hs : swapsWith a (some (.Name x p)) pos.line X.env = pure false := by rfl)
    (hf : X.fn x = true ∨ X.env.scope.names.lookup x = some .local := by first | exact .inl rfl | exact .inr rfl | assumption) : SD fl X Wx (.Assign [.Name x p] a pos) (sOwn i ma) := by
  obtain ⟨ta, pa, qa⟩ := ha
  refine ⟨_, ps_set hN hi hx pa hs hf, fun F O env σ H D S w => ?_⟩
  refine qa F O env σ H _ S (w.bind.imp (fun dx e1 w1 x H1 S1 k1 p1 => ?_) XWs.xw)
  obtain ⟨q, vs, xs, rfl, rfl, hq, r⟩ := id p1
  obtain ⟨h, w2⟩ := w1.gd rfl
  obtain ⟨h1, h2⟩ := Bool.or_eq_false_iff.mp h
  have hl : i < e1.length := by simpa using h2
  obtain ⟨q', e, hq', S2⟩ := SR.own1 (i := i) S.al S.prot p1 hl
  cases e
  exact w2 _ _ H1 S2 (keS_new k1 hq)
theorem sd_ownD {i : Nat} {x : Str} (hN : X.N.Nodup) (hi : X.N[i]? = some x) (hx : Loc X.env.scope x) (ha : PD .fd X Wx a ma) (hs : swapsWith a (some (.Name x p)) pos.line X.env = pure false := by rfl)
    (hf : X.fn x = true ∨ X.env.scope.names.lookup x = some .local := by first | exact .inl rfl | exact .inr rfl | assumption) : SD fl X Wx (.Assign [.Name x p] a pos) (sOwnD i ma) := by
  obtain ⟨ta, pa, qa⟩ := ha
  refine ⟨_, ps_set hN hi hx pa hs hf, fun F O env σ H D S w => ?_⟩
  refine qa F O env σ H _ S (w.bind.imp (fun dx e1 w1 x H1 S1 k1 p1 => ?_) XWs.xw)
  obtain ⟨q, vs, xs, rfl, rfl, hq, r⟩ := id p1
  obtain ⟨h, w2⟩ := w1.gd rfl
  obtain ⟨h1, h2⟩ := Bool.or_eq_false_iff.mp h
  have hl : i < e1.length := by simpa using h2
  obtain ⟨q', e, hq', S2⟩ := SR.own1d (i := i) S.al S.prot p1 hl
  cases e
  exact w2 _ _ H1 S2 (keS_new k1 hq)
/-- the own list is let go, ahead of a block -/
theorem ss_rel {i : Nat} {sts : List Stmt} (h : SsD fl X Wx sts n) : SsD fl X Wx sts (sSeq (sRelL i) n) := by
  obtain ⟨t, p, q⟩ := h
  refine ⟨t, p, fun F O env σ H D S w => ?_⟩
  have w := w.bind
  unfold Want sRelL at w
  cases hs : sl env i with
  | own xs =>
    rw [hs] at w
    have k : KeS O H (setO O i none) H := ⟨Ke.refl, fun a z => .inl (jo_setN z)⟩
    exact q F _ _ σ H D (S.rel hs) (Want.imp (m := n) w (Post.later k) (XWs.later k))
  | _ => rw [hs] at w; exact w.elim
/-- (a, b, ..) = a value -/
theorem sd_asgT {js : List Nat} {g : DG} (ha : PD .s X Wx a ma) (hg : GD X tg js g) (hs : swapsWithSole [tg] a pos.line X.env = pure false := by rfl) (hw : swappedStores [tg] a X.env = pure none := by rfl)
    (h1 : (assignEach [tg] X.env).map (·.2) = [assign tg X.env] := by rfl) : SD fl X Wx (.Assign [tg] a pos) (sAsg ma g) := by
  obtain ⟨ta, pa, qa⟩ := ha
  obtain ⟨nx, t, pt, qt⟩ := hg
  refine ⟨_, ps_asg pa pt hs hw h1, fun F O env σ H D S w => ?_⟩
  refine qa F O env σ H _ S (w.bind.imp (fun dx e1 w1 x H1 S1 k1 p1 => ?_) XWs.xw)
  refine qt F O e1 σ H1 x dx _ S1 p1 ?_
  have w2 := w1.bind
  unfold Want at w2 ⊢
  cases hm : g dx e1 with
  | ok u e2 => rw [hm] at w2; exact fun σ' S' _ => w2 O σ' H1 S' (.of k1)
  | ex c fs e2 => exact absurd hm (nx dx e1 c fs e2)
  | bad => rw [hm] at w2; exact w2
end
end AH
namespace AH
open PySem PySem.Spec PyProof.Rows L2
variable [TheK]
def dAddI : D → D → Rv D
  | .int i, .int j => .ok (.int (i + j))
  | _, _ => .bad
section
variable {fl : Fl} {X : Cx} {Wx : WX} {e a b c d tg : Expr} {ma mb mc md : DE} {pos p : Pos} {st : Stmt} {rest : List Stmt} {m n : DS}
theorem sd_if {t : DT} {sa sb : List Stmt} (hc : TD X Wx c t) (ha : SsD fl X Wx sa m) (hb : SsD fl X Wx sb n) : SD fl X Wx (.If c sa sb pos) (sIf t m n) := by
  obtain ⟨tc, pc, qc⟩ := hc
  obtain ⟨ta, pa, qa⟩ := ha
  obtain ⟨tb, pb, qb⟩ := hb
  refine ⟨_, ps_if pc pa pb, fun F O env σ H D S w => ?_⟩
  refine qc F O env σ H _ S (w.bind.imp (fun k e1 w1 H1 S1 k1 => ?_) XWs.xw)
  cases k with
  | true => exact qa F O e1 σ H1 D S1 (Want.imp (m := m) w1 (Post.later (.of k1)) (XWs.later (.of k1)))
  | false => exact qb F O e1 σ H1 D S1 (Want.imp (m := n) w1 (Post.later (.of k1)) (XWs.later (.of k1)))
theorem sd_ret (ha : PD .s X Wx a ma) : SD .s X Wx (.Return (some a) pos) (sRet ma) := by
  obtain ⟨ta, pa, qa⟩ := ha
  refine ⟨_, ps_ret pa, fun F O env σ H D S w => ?_⟩
  exact qa F O env σ H _ S (w.bind.imp (fun dx e1 w1 x H1 S1 k1 p1 => w1 O σ H1 S1 (.of k1) x (Rep.sub (fun a z => .inl (.inl z)) p1)) XWs.xw)
theorem al_none {F : Fm} {H : Hp} {p : Addr} (al : ∀ a, F.H0 a ≠ none → H a ≠ none) (h : H p = none) : F.H0 p = none := by
  cases z : F.H0 p with
  | none => rfl
  | some o => exact absurd h (al p (by rw [z]; simp))
theorem SR.boR {K : PySem.W.Frag} {F F' : Fm} {O : Nat → Option Addr} {env : Env} {σ : L2.St} {H : Hp} (S : SR K F' O env σ H) (hb : F'.ba = F.ba) {Z : Pr} (g : ∀ a, Z a → Ow F' O a) : BoR Z F env H := fun j ys hj => by
  have s := S.slot j
  rw [hj] at s
  obtain ⟨b, us, g1, g2, g3, g4, g5⟩ := s
  exact ⟨b, us, by rw [← hb]; exact g2, g4, g5.sub fun a z => .inl (g a z)⟩
theorem sd_retF (ha : PD .f X Wx a ma) : SD .f X Wx (.Return (some a) pos) (sRet ma) := by
  obtain ⟨ta, pa, qa⟩ := ha
  refine ⟨_, ps_ret pa, fun F O env σ H D S w => ?_⟩
  refine qa F O env σ H _ S (w.bind.imp (fun dx e1 w1 x H1 S1 k1 p1 => w1 O σ H1 S1 (.of k1) x ?_) XWs.xw)
  obtain ⟨q, vs, xs, rfl, rfl, hq, hq', l, S2⟩ := p1
  exact ⟨q, vs, xs, rfl, rfl, al_none S.al hq, hq', l.sub fun a z => .inl (.inl z), S2.boR rfl fun a z => .inl z⟩
theorem sd_retFd (ha : PD .fd X Wx a ma) : SD .fd X Wx (.Return (some a) pos) (sRet ma) := by
  obtain ⟨ta, pa, qa⟩ := ha
  refine ⟨_, ps_ret pa, fun F O env σ H D S w => ?_⟩
  refine qa F O env σ H _ S (w.bind.imp (fun dx e1 w1 x H1 S1 k1 p1 => w1 O σ H1 S1 (.of k1) x ?_) XWs.xw)
  obtain ⟨q, vs, xs, rfl, rfl, hq, hq', l, S2⟩ := p1
  exact ⟨q, vs, xs, rfl, rfl, al_none S.al hq, hq', l.sub fun a z => .inl (.inl z), S2.boR rfl fun a z => .inl z⟩
/-- the frame's own list handed back -/
def sRetO (i : Nat) : DS := fun e => match sl e i with
  | .own xs => .ok (.rt (.lst xs)) e
  | _ => .bad
theorem sd_retO {i : Nat} {x : Str} (hN : X.N[i]? = some x) (hv : Vis X.env.scope x) (hd : (x == ("__debug__" : Str)) = false := by decide) (hcd : (x == ("__classdict__" : Str)) = false := by decide) : SD .f X Wx (.Return (some (.Name x p)) pos) (sRetO i) := by
  refine ⟨_, ps_ret (pe_var hN hv hd hcd), fun F O env σ H D S w => ?_⟩
  unfold Want sRetO at w
  cases q : sl env i with
  | own xs =>
    rw [q] at w
    have s := S.slot i
    rw [q] at s
    obtain ⟨a, vs, h1, h0, h2, h3, r⟩ := s
    have sub : ∀ b, F.P b ∨ b = a → Ow F O b ∨ H b = none := fun b z => .inl (z.elim .inl fun e => .inr ⟨i, by rw [e]; exact h1⟩)
    refine ⟨.ref a, get1_some h2, w O σ H S .refl _ ⟨a, vs, xs, rfl, rfl, h0.1, h3, r.sub sub, fun j ys hj => ?_⟩⟩
    have s := S.slot j
    rw [hj] at s
    obtain ⟨b, us, g1, g2, g3, g4, g5⟩ := s
    exact ⟨b, us, g2, g4, g5.sub sub⟩
  | _ => rw [q] at w; exact w.elim
theorem sd_expr (ha : PD .s X Wx a ma) (hs : swapsWith a none pos.line X.env = pure false := by rfl) : SD fl X Wx (.Expr a pos) (sExpr ma) := by
  obtain ⟨ta, pa, qa⟩ := ha
  refine ⟨_, ps_expr pa hs, fun F O env σ H D S w => ?_⟩
  exact qa F O env σ H _ S (w.bind.imp (fun dx e1 w1 x H1 S1 k1 p1 => w1 O σ H1 S1 (.of k1)) XWs.xw)
theorem sd_retN : SD .s X Wx (.Return none pos) sRetN := ⟨_, ps_retN, fun F O env σ H D S w => w O σ H S .refl .non .non⟩
/-! ### lists changed -/
theorem Want.ownL {K : PySem.W.Frag} {F : Fm} {O : Nat → Option Addr} {env : Env} {σ : L2.St} {H : Hp} {i : Nat} {Q : List D → Env → Prop} {E : Str → List D → Env → Prop} (S : SR K F O env σ H) (h : Want (AH.ownL i) env Q E) :
    ∃ xs a vs, O i = some a ∧ (F.bo a ∨ F.H0 a = none) ∧ get1 σ i = some (.ref a) ∧ H a = some (.lst vs) ∧ RepL (Ow F O) H vs xs ∧ Q xs env ∧
      ∀ (vs' : List V) (ys : List D), RepL (Ow F O) H vs' ys → SR K F O (putL env i ys) σ (upd H a (.lst vs')) := by
  have go : ∀ xs, (sl env i = .own xs ∨ sl env i = .bor xs) → Q xs env → ∃ xs a vs, O i = some a ∧ (F.bo a ∨ F.H0 a = none) ∧ get1 σ i = some (.ref a) ∧ H a = some (.lst vs) ∧ RepL (Ow F O) H vs xs ∧ Q xs env ∧
      ∀ (vs' : List V) (ys : List D), RepL (Ow F O) H vs' ys → SR K F O (putL env i ys) σ (upd H a (.lst vs')) := fun xs hs hq => by
    obtain ⟨a, vs, h1, h2, h3, h4, r, f⟩ := S.ownAt hs
    refine ⟨xs, a, vs, h1, h2, h3, h4, r, hq, fun vs' ys r' => ?_⟩
    exact S.mut h1 h2 (f _ vs' ys upd_same (r'.mj (Ke.mut ⟨i, h1⟩)))
  unfold Want AH.ownL at h
  cases q : sl env i with
  | own xs => rw [q] at h; exact go xs (.inl q) h
  | bor xs => rw [q] at h; exact go xs (.inr q) h
  | _ => rw [q] at h; exact h.elim
theorem ke_mutJ {O : Nat → Option Addr} {H : Hp} {i : Nat} {a : Addr} {o : HO} (h : O i = some a) : Ke (Jo O) H (upd H a o) := Ke.mut ⟨i, h⟩
theorem sd_app {i : Nat} {x : Str} {p1 p2 p3 : Pos} (hN : X.N[i]? = some x) (hv : Vis X.env.scope x) (ha : PD .s X Wx a ma)
    (hfew : ((backTo p3 (starEach [a] X.env)).all (fun x => !x.1) && (backToKw p3 (keywordEach [] X.env)).all (fun x => x.1.isSome)
      && decide (([a] : List Expr).length + ([] : List Keyword).length + (if ([] : List Keyword).isEmpty then 0 else 1) < 30)) = true := by rfl)
    (hline : (p2.endLine == p3.line) = true := by rfl) (hs : starEach [a] X.env = (false, eval a X.env) :: starEach [] X.env := by rfl)
    (hd : (x == ("__debug__" : Str)) = false := by decide) (hcd : (x == ("__classdict__" : Str)) = false := by decide) :
    SD fl X Wx (.Expr (.Call (.Attribute (.Name x p1) "append" p2) [a] [] p3) pos) (sApp i ma) := by
  obtain ⟨ta, pa, qa⟩ := ha
  refine ⟨_, ps_expr (pe_bm PySem.F.plainAttrs_list PySem.F.slot_list_append PySem.F.type_list_append mt_append (pe_var hN hv hd hcd) (pa_cons pa pa_nil hs) rfl hfew hline hs rfl), fun F O env σ H D S w => ?_⟩
  obtain ⟨xs0, q, vs0, hO, hb, hg, hq, l0, w, _⟩ := w.bind.ownL S
  refine ⟨.ref q, get1_some hg, .inl ⟨rfl, vs0, .inl (.inl hq)⟩, ?_⟩
  refine qa F O env σ H _ S (w.bind.imp (fun dx e1 w1 x H1 S1 k1 p1 => ?_) XWs.xw)
  obtain ⟨xs, q', vs, hO', hb', hg', hq', l, w2, f⟩ := w1.bind.ownL S1
  obtain rfl : q' = q := Option.some.inj (hO'.symm.trans hO)
  unfold Want at w2
  cases hz : lenOk (xs.length + 1) with
  | false => simp only [hz] at w2; exact w2.elim
  | true =>
    simp only [hz, if_true] at w2
    have hz' : xs.length + 1 ≤ 100000 := of_decide_eq_true hz
    refine ⟨q', vs, x, rfl, rfl, hq', by rw [l.len, sizeLine_eq]; omega, ?_⟩
    exact w2 O σ _ (f (vs ++ [x]) (xs ++ [dx]) (l.app (.cons p1 .nil))) (.of (k1.trans (ke_mutJ hO)))
theorem sd_ext {i : Nat} {x : Str} {p1 p2 p3 : Pos} (hN : X.N[i]? = some x) (hv : Vis X.env.scope x) (ha : PD .s X Wx a ma)
    (hfew : ((backTo p3 (starEach [a] X.env)).all (fun x => !x.1) && (backToKw p3 (keywordEach [] X.env)).all (fun x => x.1.isSome)
      && decide (([a] : List Expr).length + ([] : List Keyword).length + (if ([] : List Keyword).isEmpty then 0 else 1) < 30)) = true := by rfl)
    (hline : (p2.endLine == p3.line) = true := by rfl) (hs : starEach [a] X.env = (false, eval a X.env) :: starEach [] X.env := by rfl)
    (hd : (x == ("__debug__" : Str)) = false := by decide) (hcd : (x == ("__classdict__" : Str)) = false := by decide) :
    SD fl X Wx (.Expr (.Call (.Attribute (.Name x p1) "extend" p2) [a] [] p3) pos) (sExt i ma) := by
  obtain ⟨ta, pa, qa⟩ := ha
  refine ⟨_, ps_expr (pe_bm PySem.F.plainAttrs_list PySem.F.slot_list_extend PySem.F.type_list_extend mt_extend (pe_var hN hv hd hcd) (pa_cons pa pa_nil hs) rfl hfew hline hs rfl), fun F O env σ H D S w => ?_⟩
  obtain ⟨xs0, q, vs0, hO, hb, hg, hq, l0, w, _⟩ := w.bind.ownL S
  refine ⟨.ref q, get1_some hg, .inl ⟨rfl, vs0, .inl (.inl hq)⟩, ?_⟩
  refine qa F O env σ H _ S (w.bind.imp (fun dx e1 w1 x H1 S1 k1 p1 => ?_) XWs.xw)
  obtain ⟨xs, q', vs, hO', hb', hg', hq', l, w2, f⟩ := w1.bind.ownL S1
  obtain rfl : q' = q := Option.some.inj (hO'.symm.trans hO)
  cases p1 with
  | lst n1 h1 l1 =>
    rename_i ys
    unfold Want at w2
    cases hz : lenOk (xs.length + ys.length) with
    | false => simp only [hz] at w2; exact w2.elim
    | true =>
      simp only [hz, if_true] at w2
      have hz' : xs.length + ys.length ≤ 100000 := of_decide_eq_true hz
      refine ⟨q', _, vs, _, rfl, rfl, hq', h1, by rw [l.len, l1.len, sizeLine_eq]; omega, ?_⟩
      exact w2 O σ _ (f (vs ++ _) (xs ++ ys) (l.app l1)) (.of (k1.trans (ke_mutJ hO)))
  | _ => exact w2.elim
theorem sd_setL {i : Nat} {x : Str} {p1 p2 : Pos} (hN : X.N[i]? = some x) (hv : Vis X.env.scope x) (hb : PD .s X Wx b mb) (ha : PD .s X Wx a ma) (hs : swapsWithSole [.Subscript (.Name x p1) b p2] a pos.line X.env = pure false := by rfl)
    (hw : swappedStores [.Subscript (.Name x p1) b p2] a X.env = pure none := by rfl)
    (has : ∀ v, assign (.Subscript (.Name x p1) b p2) X.env v = (do
      let ov ← holding [v] (eval (.Name x p1) X.env)
      let iv ← holding [v, ov] (eval b X.env)
      standAt p2
      holding [v, ov, iv] (setItem ov iv v)
      release [v, ov, iv] []) := by intro _; rfl)
    (hd : (x == ("__debug__" : Str)) = false := by decide) (hcd : (x == ("__classdict__" : Str)) = false := by decide) :
    SD fl X Wx (.Assign [.Subscript (.Name x p1) b p2] a pos) (sSetL i mb ma) := by
  obtain ⟨ta, pa, qa⟩ := ha
  obtain ⟨tb, pb, qb⟩ := hb
  refine ⟨_, ps_asg pa (pg_sub (pe_var hN hv hd hcd) pb set_list has) hs hw rfl, fun F O env σ H D S w => ?_⟩
  refine qa F O env σ H _ S (w.bind.imp (fun dx e1 w1 x H1 S1 k1 p1 => ?_) XWs.xw)
  obtain ⟨xs0, q, vs0, hO, hb, hg, hq, l0, w2, _⟩ := w1.bind.ownL S1
  refine ⟨.ref q, get1_some hg, ?_⟩
  refine qb F O e1 σ H1 _ S1 (w2.bind.imp (fun dk e2 w3 k H2 S2 k2 p2 => ?_) fun c fs e z => XW.later k1 c fs e (XWs.xw c fs e z))
  obtain ⟨xs, q', vs, hO', hb', hg', hq', l, w4, f⟩ := w3.bind.ownL S2
  obtain rfl : q' = q := Option.some.inj (hO'.symm.trans hO)
  cases p2 with
  | int k =>
    cases hj : ixN xs.length k with
    | none =>
      have w5 : Want (match ixN xs.length k with | some n => fun e => .ok .nx (putL e i (xs.set n dx)) | none => fun _ => R.bad) e2 (Post fl X.K F O H D) (XWs X.K F O H Wx) := w4
      rw [hj] at w5
      exact w5.elim
    | some j =>
      have w5 : Want (match ixN xs.length k with | some n => fun e => .ok .nx (putL e i (xs.set n dx)) | none => fun _ => R.bad) e2 (Post fl X.K F O H D) (XWs X.K F O H Wx) := w4
      rw [hj] at w5
      refine ⟨q', vs, k, j, rfl, rfl, hq', by rw [l.len]; exact hj, ?_⟩
      exact w5 O σ _ (f (vs.set j x) (xs.set j dx) (l.set (Rep.mj k2 p1) j)) (.of (k1.trans (k2.trans (ke_mutJ hO))))
  | _ => exact w4.elim
/-! ### dicts changed -/
theorem RepK.any {W : Pr} {H : Hp} (k : List Key) : ∀ {ks : List (List Key × V)} {kvs : List (List Key × D)}, RepK W H ks kvs → (ks.any fun kv => decide (kv.1 = k)) = kvs.any fun kv => decide (kv.1 = k)
  | _, _, .nil => rfl
  | _, _, .cons r l => by rw [List.any_cons, List.any_cons, RepK.any k l]
theorem RepK.snoc {W : Pr} {H : Hp} {v : V} {d : D} (k : List Key) (r : Rep W H v d) : ∀ {ks : List (List Key × V)} {kvs : List (List Key × D)}, RepK W H ks kvs → RepK W H (ks ++ [(k, v)]) (kvs ++ [(k, d)])
  | _, _, .nil => .cons r .nil
  | _, _, .cons r' l => .cons r' (RepK.snoc k r l)
theorem RepK.repl {W : Pr} {H : Hp} {v : V} {d : D} (k : List Key) (r : Rep W H v d) : ∀ {ks : List (List Key × V)} {kvs : List (List Key × D)}, RepK W H ks kvs → RepK W H (ks.map fun kv => if kv.1 = k then (kv.1, v) else kv) (kvs.map fun kv => if kv.1 = k then (kv.1, d) else kv)
  | _, _, .nil => .nil
  | _, _, .cons (k := k') r' l => by
    rw [List.map_cons, List.map_cons]
    by_cases h : k' = k
    · rw [if_pos h, if_pos h]; exact .cons r (RepK.repl k r l)
    · rw [if_neg h, if_neg h]; exact .cons r' (RepK.repl k r l)
theorem RepK.put {W : Pr} {H : Hp} {v : V} {d : D} (k : List Key) (r : Rep W H v d) {ks : List (List Key × V)} {kvs : List (List Key × D)} (l : RepK W H ks kvs) : RepK W H (putK ks k v) (dput kvs k d) := by
  unfold putK dput
  rw [l.any k]
  split
  · exact l.repl k r
  · exact l.snoc k r
theorem RepK.len {W : Pr} {H : Hp} : ∀ {ks : List (List Key × V)} {kvs : List (List Key × D)}, RepK W H ks kvs → ks.length = kvs.length
  | _, _, .nil => rfl
  | _, _, .cons r l => by rw [List.length_cons, List.length_cons, RepK.len l]
theorem Want.ownD {K : PySem.W.Frag} {F : Fm} {O : Nat → Option Addr} {env : Env} {σ : L2.St} {H : Hp} {i : Nat} {Q : List (List Key × D) → Env → Prop} {E : Str → List D → Env → Prop} (S : SR K F O env σ H) (h : Want (AH.ownD i) env Q E) :
    ∃ kvs a ks, O i = some a ∧ get1 σ i = some (.ref a) ∧ H a = some (.dT ks) ∧ RepK (Ow F O) H ks kvs ∧ Q kvs env ∧
      ∀ (vs' : List (List Key × V)) (ys : List (List Key × D)), RepK (Ow F O) H vs' ys → SR K F O (put env i (.odc ys)) σ (upd H a (.dT vs')) := by
  unfold Want AH.ownD at h
  have s := S.slot i
  cases q : sl env i with
  | odc kvs =>
    rw [q] at h s
    obtain ⟨a, ks, h1, h0, h2, h3, r⟩ := s
    exact ⟨kvs, a, ks, h1, h2, h3, r, h, fun vs' ys r' => S.mut h1 (.inr h0.1) ⟨a, vs', h1, h0, h2, upd_same, r'.mj (Ke.mut ⟨i, h1⟩)⟩⟩
  | _ => rw [q] at h; exact h.elim
theorem sd_setD {i : Nat} {x : Str} {p1 p2 : Pos} (hu : X.A.units + 65 < cLine) (hN : X.N[i]? = some x) (hv : Vis X.env.scope x) (hb : PD .s X Wx b mb) (ha : PD .s X Wx a ma) (hs : swapsWith a (some (.Subscript (.Name x p1) b p2)) pos.line X.env = pure false := by rfl)
    (hd : (x == ("__debug__" : Str)) = false := by decide) (hcd : (x == ("__classdict__" : Str)) = false := by decide) :
    SD fl X Wx (.Assign [.Subscript (.Name x p1) b p2] a pos) (sSetD i mb ma) := by
  obtain ⟨ta, pa, qa⟩ := ha
  obtain ⟨tb, pb, qb⟩ := hb
  refine ⟨_, ps_dput (by omega) (pe_var hN hv hd hcd) pb pa hs, fun F O env σ H D S w => ?_⟩
  refine qa F O env σ H _ S (w.bind.imp (fun dx e1 w1 x H1 S1 k1 p1 => ?_) XWs.xw)
  obtain ⟨xs0, q, vs0, hO, hg, hq, l0, w2, _⟩ := w1.bind.ownD S1
  refine ⟨.ref q, get1_some hg, ?_⟩
  refine qb F O e1 σ H1 _ S1 (w2.bind.imp (fun dk e2 w3 k H2 S2 k2 p2 => ?_) fun c fs e z => XW.later k1 c fs e (XWs.xw c fs e z))
  obtain ⟨kvs, q', ks, hO', hg', hq', l, w4, f⟩ := w3.bind.ownD S2
  obtain rfl : q' = q := Option.some.inj (hO'.symm.trans hO)
  cases hk : keyD dk with
  | none => rw [hk] at w4; exact w4.elim
  | some kk =>
    rw [hk] at w4
    obtain ⟨b, rfl, hb⟩ := keyD_rep p2 hk
    obtain ⟨hz, w5⟩ := Want.gd (c := !lenOk (kvs.length + 1)) w4 (by cases lenOk (kvs.length + 1) <;> rfl)
    have hz' : kvs.length + 1 ≤ 100000 := of_decide_eq_true (by simpa [lenOk] using hz)
    refine ⟨q', _, rfl, DPut.t hq' hb (by rw [l.len, sizeLine_eq]; omega), ?_⟩
    exact w5 O σ _ (f _ _ (l.put kk (Rep.mj k2 p1))) (.of (k1.trans (k2.trans (ke_mutJ hO))))
/-! ### x op= e -/
theorem sd_aug {f : D → D → Rv D} {g : Int → Int → Int} {op : Operator} {i : Nat} {x : Str} (hN : X.N.Nodup) (hi : X.N[i]? = some x) (hx : Loc X.env.scope x) (ho : PIp X op (ipI g)) (hfg : ∀ dx dy dz, f dx dy = .ok dz → ∃ i j, dx = .int i ∧ dy = .int j ∧ dz = .int (g i j)) (ha : PD .s X Wx a ma)
    (hf : X.fn x = true ∨ X.env.scope.names.lookup x = some .local := by first | exact .inl rfl | exact .inr rfl | assumption) : SD fl X Wx (.AugAssign (.Name x p) op a pos) (sAug f i ma) := by
  obtain ⟨ta, pa, qa⟩ := ha
  refine ⟨_, ps_aug hN hi hx pa ho hf, fun F O env σ H D S w => ?_⟩
  have w := w.bind
  unfold Want eVar at w
  have s := S.slot i
  cases h : sl env i with
  | val dv =>
    rw [h] at w s
    obtain ⟨_, v, e, r⟩ := s
    refine ⟨v, get1_some e, qa F O env σ H _ S ((Want.bind (m := ma) w).imp (fun dy e1 w1 y H1 S1 k1 p1 => ?_) XWs.xw)⟩
    obtain ⟨dz, ef, w2⟩ := w1.bind.of
    obtain ⟨i1, j1, rfl, rfl, rfl⟩ := hfg _ _ _ ef
    cases r
    cases p1
    obtain ⟨_, w3⟩ := w2.gd rfl
    exact ⟨i1, j1, rfl, rfl, w3 _ _ H1 (S1.setVal (.int _)) ⟨k1, fun a z => .inl (jo_setN z)⟩⟩
  | _ => rw [h] at w; exact w.elim
theorem add_ints : ∀ dx dy dz, dAddI dx dy = .ok dz → ∃ i j, dx = .int i ∧ dy = .int j ∧ dz = .int (i + j) := fun dx dy dz h => by
  unfold dAddI at h
  split at h
  · cases h; exact ⟨_, _, rfl, rfl, rfl⟩
  · cases h
theorem sub_ints : ∀ dx dy dz, dSub dx dy = .ok dz → ∃ i j, dx = .int i ∧ dy = .int j ∧ dz = .int (i - j) := fun dx dy dz h => by
  unfold dSub at h
  split at h
  · cases h; exact ⟨_, _, rfl, rfl, rfl⟩
  · cases h
end
end AH
namespace AH
open PySem PySem.Spec PyProof.Rows L2
variable [TheK]
section
variable {fl : Fl} {X : Cx} {Wx : WX} {e a b c d tg iter : Expr} {ma mb mc md : DE} {pos p : Pos} {st : Stmt} {rest : List Stmt} {m n : DS}
/-! ### for -/
theorem sd_for {js : List Nat} {mi : DI} {g : DG} {body : List Stmt} (hp : PassesOwn (model X.prog X.w) X.A X.env X.xe) (hc : X.calm = true) (hi : ID X Wx tg iter mi) (hg : GD X tg js g) (hb : SsD fl X Wx body m)
    (hs : ∀ x, foldedSetIterable iter X.env x = pure x := by intro _; rfl) : SD fl X Wx (.For tg iter body [] pos) (sFor mi g m) := by
  obtain ⟨wi, pi, qi⟩ := hi
  obtain ⟨nx, tg', pg, qg⟩ := hg
  obtain ⟨tb, pb, qb⟩ := hb
  refine ⟨_, ps_for hp hc pi pg pb hs, fun F O env σ H D S w => ?_⟩
  refine qi F O env σ H _ S (w.bind.imp (fun xs e1 w1 J H1 S1 k1 wk => ?_) XWs.xw)
  refine ⟨fun i k σ' H' => k = xs.length - i ∧ i ≤ xs.length ∧ ∃ O' e', SR X.K F O' e' σ' H' ∧ KeS O H1 O' H' ∧ Want (loop g m (xs.drop i)) e' (Post fl X.K F O' H' D) (XWs X.K F O' H' Wx), ⟨xs.length, by simp, Nat.zero_le _, O, e1, S1, .refl, w1.imp (Post.later (.of k1)) (XWs.later (.of k1))⟩, ?_⟩
  rintro i k σ2 H2 ⟨rfl, hi, O2, e2, S2, k2, w2⟩
  by_cases hlt : i < xs.length
  · have hd : xs.drop i = xs[i] :: xs.drop (i + 1) := (List.drop_eq_getElem_cons hlt)
    refine .inr ⟨wk.go i H2 k2.ke.wj hlt, fun σ' H' => i + 1 ≤ xs.length ∧ ∃ O' e', SR X.K F O' e' σ' H' ∧ KeS O H1 O' H' ∧ Want (loop g m (xs.drop (i + 1))) e' (Post fl X.K F O' H' D) (XWs X.K F O' H' Wx), fun σ' H' h => ⟨xs.length - (i + 1), by omega, rfl, h.1, h.2⟩, fun x H3 y => ?_⟩
    rw [hd] at w2
    obtain ⟨ext, r⟩ := wk.yld i H2 x H3 xs[i] (Ow F O2) k2.ke.wj (ow_step k2.ow) (S2.prot2) (by simp [hlt]) y
    have S3 : SR X.K F O2 e2 σ2 H3 := S2.ext ext
    have k3 : KeS O2 H2 O2 H3 := .of (ke_ext ext)
    refine qg F O2 e2 σ2 H3 x xs[i] _ S3 r ?_
    have w3 := Want.bind (m := g xs[i]) w2
    refine w3.imp (fun _ e4 w4 σ4 S4 _ => ?_) fun _ _ _ _ => trivial
    refine qb F O2 e4 σ4 H3 _ S4 ((Want.bind (m := m) w4).imp (fun o e5 w5 O5 σ5 H5 S5 k5 => ?_) (XWs.later k3))
    have kk : KeS O H1 O5 H5 := k2.trans (k3.trans k5)
    have again : Want (loop g m (xs.drop (i + 1))) e5 (Post fl X.K F O2 H2 D) (XWs X.K F O2 H2 Wx) → i + 1 ≤ xs.length ∧ ∃ O' e', SR X.K F O' e' σ5 H5 ∧ KeS O H1 O' H5 ∧ Want (loop g m (xs.drop (i + 1))) e' (Post fl X.K F O' H5 D) (XWs X.K F O' H5 Wx) := fun w6 =>
      ⟨hlt, O5, e5, S5, kk, w6.imp (Post.later (k3.trans k5)) (XWs.later (k3.trans k5))⟩
    cases o with
    | nx => exact again w5
    | ct => exact again w5
    | bk => exact w5 O5 σ5 H5 S5 (k3.trans k5)
    | rt d => exact w5 O5 σ5 H5 S5 (k3.trans k5)
  · have e : i = xs.length := by omega
    subst e
    refine .inl ⟨wk.stop H2 k2.ke.wj, ?_⟩
    rw [List.drop_length] at w2
    exact w2 O2 σ2 H2 S2 .refl
/-! ### comprehensions -/
/-- the reading that an expression's word gives -/
def tD (fl : Fl) (K : PySem.W.Frag) (Wx : WX) (m : DE) : TE := fun σ H Q => ∃ F O env, SR K F O env σ H ∧ Want m env (fun d e1 => ∀ v H', SR K F O e1 σ H' → Ke (Jo O) H H' → Po fl K F O e1 σ H H' v d → Q v H') (XW K F O σ H Wx)
theorem PD.pe {fl : Fl} (h : PD fl X Wx a ma) : PE X a (tD fl X.K Wx ma) := by
  obtain ⟨t, p, q⟩ := h
  exact ⟨fun pins s σ H Q I ⟨F, O, env, S, w⟩ => p.run pins s σ H Q I (q F O env σ H Q S w)⟩
def tT (K : PySem.W.Frag) (Wx : WX) (m : DT) : TT := fun σ H Q => ∃ F O env, SR K F O env σ H ∧ Want m env (fun b e1 => ∀ H', SR K F O e1 σ H' → Ke (Jo O) H H' → Q b H') (XW K F O σ H Wx)
/-- the tests of a comprehension -/
def CD (X : Cx) (Wx : WX) (ifs : List Expr) (m : DT) : Prop := PTs X ifs (tT X.K Wx m)
theorem cd_nil : CD X Wx [] AH.tYes := ⟨fun pins s σ H Q I ⟨F, O, env, S, w⟩ => pts_nil.run pins s σ H Q I (w H S Ke.refl)⟩
theorem cd_one {t : DT} (h : TD X Wx c t) : CD X Wx [c] t := by
  obtain ⟨tt, p, q⟩ := h
  exact ⟨fun pins s σ H Q I ⟨F, O, env, S, w⟩ => (pts_one p).run pins s σ H Q I (q F O env σ H Q S w)⟩
def tG (K : PySem.W.Frag) (js : List Nat) (g : DG) : TG := fun v σ H Q => ∃ F O env d, SR K F O env σ H ∧ Rep (Ow F O) H v d ∧ Want (g d) env (fun _ e1 => ∀ σ', SR K F O e1 σ' H → Wp js σ σ' → Q σ' H) (fun _ _ _ => True)
theorem GD.pg {js : List Nat} {g : DG} (h : GD X tg js g) : PG X tg (tG X.K js g) := by
  obtain ⟨nx, t, p, q⟩ := h
  exact ⟨fun pins s σ H v u Q I r ⟨F, O, env, d, S, rr, w⟩ => p.run pins s σ H v u Q I r (q F O env σ H v d Q S rr w)⟩
def tI (K : PySem.W.Frag) (Wx : WX) (m : DI) : TI := fun σ H R => ∃ F O env, SR K F O env σ H ∧ Want m env (fun xs e1 => ∀ J H1, SR K F O e1 σ H1 → Ke (Jo O) H H1 → Wk F O H1 J xs → R J H1) (XW K F O σ H Wx)
theorem ID.pi {m : DI} (h : ID X Wx tg iter m) : PI X tg iter (tI X.K Wx m) := by
  obtain ⟨t, p, q⟩ := h
  exact ⟨fun pins s σ H R I ⟨F, O, env, S, w⟩ => p.run pins s σ H R I (q F O env σ H R S w)⟩
def W0 : WX := fun _ _ _ _ => False
section
variable {K : PySem.W.Frag} {F : Fm} {O : Nat → Option Addr} {env e0 e1 : Env} {σ : L2.St} {H H1 H' : Hp} {D : Addr}
theorem put_len' (e : Env) : ∀ vs : List Nat, (wipeE e vs).length = e.length
  | [] => rfl
  | v :: vs => by unfold wipeE; rw [put_len, put_len' e vs]
theorem sl_wipe : ∀ {vs : List Nat} {j : Nat}, sl (wipeE env vs) j = if j ∈ vs then .no else sl env j
  | [], j => by simp [wipeE]
  | v :: vs, j => by
    unfold wipeE
    by_cases h : j = v
    · subst h
      rw [if_pos List.mem_cons_self]
      by_cases hl : j < (wipeE env vs).length
      · exact sl_put_same _ _ _ hl
      · rw [put_out _ _ _ (by omega)]; exact sl_out _ _ (by omega)
    · rw [sl_put_ne _ _ _ _ h, sl_wipe]
      have e : (j ∈ v :: vs) ↔ j ∈ vs := by
        rw [List.mem_cons]
        exact ⟨fun z => z.elim (fun z => absurd z h) id, .inr⟩
      simp only [e]
theorem get1_wipe {vs : List Nat} {j : Nat} : get1 (wipe σ vs) j = if j ∈ vs then none else get1 σ j := by
  unfold get1
  rw [wipe_get]
  split
  · cases σ[j]? <;> rfl
  · rfl
theorem back_len (e0 e : Env) : ∀ vs : List Nat, (back e0 e vs).length = e.length
  | [] => rfl
  | v :: vs => by unfold back; rw [put_len, back_len e0 e vs]
theorem sl_back (h : e0.length = e1.length) : ∀ {vs : List Nat} {j : Nat}, sl (back e0 e1 vs) j = if j ∈ vs then sl e0 j else sl e1 j
  | [], j => by simp [back]
  | v :: vs, j => by
    unfold back
    by_cases hj : j = v
    · subst hj
      rw [if_pos List.mem_cons_self]
      by_cases hl : j < (back e0 e1 vs).length
      · exact sl_put_same _ _ _ hl
      · rw [put_out _ _ _ (by omega)]
        rw [back_len] at hl
        rw [sl_out _ _ (by rw [back_len]; omega), sl_out _ _ (by omega)]
    · rw [sl_put_ne _ _ _ _ hj, sl_back h]
      have e : (j ∈ v :: vs) ↔ j ∈ vs := by
        rw [List.mem_cons]
        exact ⟨fun z => z.elim (fun z => absurd z hj) id, .inr⟩
      simp only [e]
theorem SR.wipe (S : SR K F O env σ H) (vs : List Nat) (h : ∀ v ∈ vs, O v = none) : SR K F O (wipeE env vs) (L2.wipe σ vs) H where
  slot := fun j => by
    rw [sl_wipe, get1_wipe]
    split
    · rename_i hj; exact h j hj
    · exact S.slot j
  inj := S.inj
  prot := S.prot
  keep := S.keep
  al := S.al
  len := by rw [put_len', wipe_length]; exact S.len
  nal := S.nal
  pt := S.pt
/-- behind a comprehension: the frame's own slots as they were -/
theorem SR.back (S : SR K F O e0 σ H1) {F' : Fm} (hb : F'.ba = F.ba) (h0 : F'.H0 = F.H0) (gp : ∀ a, F'.P a → F.P a ∨ H1 a = none) (gn : ∀ a, F'.N a → F.N a ∨ H1 a = none) {vs : List Nat} (S' : SR K F' O e1 (L2.wipe σ vs) H') (k : Ke (Jo O) H1 H') (h : ∀ v ∈ vs, isOwn (sl e0 v) = false) : SR K F' O (AH.back e0 e1 vs) σ H' := by
  have le : e0.length = e1.length := by
    have := S'.len
    rw [wipe_length] at this
    rw [S.len, this]
  have g : ∀ a, Ow F' O a → Ow F O a ∨ H1 a = none := fun a w => w.elim (fun w => (gp a w).elim (fun z => .inl (.inl z)) .inr) fun w => .inl (.inr w)
  refine ⟨fun j => ?_, S'.inj, S'.prot, S'.keep, S'.al, by rw [back_len, ← le]; exact S.len, S'.nal, S'.pt⟩
  rw [sl_back le]
  split
  · rename_i hj
    have s := S.slot j
    have ho := h j hj
    cases z : sl e0 j with
    | no => rw [z] at s; exact s
    | val d => rw [z] at s; obtain ⟨h1, v, e, r⟩ := s; exact ⟨h1, v, e, r.ke k.ow g⟩
    | ro d => rw [z] at s; obtain ⟨h1, v, e, r⟩ := s; exact ⟨h1, v, e, r.go k g fun a z => z.elim (fun z => .inl (.inl z)) fun z => (gn a z).elim (fun z => .inl (.inr z)) .inr⟩
    | _ => rw [z] at ho; cases ho
  · rename_i hj
    have s := S'.slot j
    rw [get1_wipe, if_neg hj] at s
    exact s
/-- the new list that is being filled: all else keeps apart -/
theorem SR.updP {o : HO} (S : SR K (F.ad D) O env σ H) (nj : ¬ Jo O D) (h0 : F.H0 D = none) (ho : ∀ xs, o ≠ .tup xs := by intro _ z; cases z) : SR K (F.ad D) O env σ (upd H D o) := by
  have al : ∀ a, H a ≠ none → upd H D o a ≠ none := fun a h => by
    by_cases e : a = D
    · rw [e, upd_same]; simp
    · rw [upd_ne e]; exact h
  have ke : Ke (Ow (F.ad D) O) H (upd H D o) := ⟨fun a u n e => by rw [upd_ne fun z => n (.inl (.inr z))]; exact e, al⟩
  refine ⟨fun i => ?_, S.inj, fun a w => al a (S.prot a w), fun a u e n => ?_, fun a e => al a (S.al a e), S.len, fun a e => al a (S.nal a e), fun b xs w => by
    by_cases z : b = D
    · rw [z, upd_same]; exact fun y => ho xs (Option.some.inj y)
    · rw [upd_ne z]; exact S.pt b xs w⟩
  · have s := S.slot i
    cases z : sl env i with
    | no => rw [z] at s; exact s
    | val d => rw [z] at s; obtain ⟨h1, v, e, r⟩ := s; exact ⟨h1, v, e, r.mono ke⟩
    | ro d =>
      rw [z] at s
      obtain ⟨h1, v, e, r⟩ := s
      refine ⟨h1, v, e, ?_⟩
      cases r with
      | of r => exact .of (r.mono ke)
      | tup n h l => exact .tup n (rd_keep (fun o e => by rw [upd_ne fun z => n (.inr (.inr z))]; exact e) h) (l.mono ke)
      | lst n h l => exact .lst n (rd_keep (fun o e => by rw [upd_ne fun z => n (.inr (.inr z))]; exact e) h) (l.mono ke)
      | dic n h l => exact .dic n (rd_keep (fun o e => by rw [upd_ne fun z => n (.inr (.inr z))]; exact e) h) (l.mono ke)
      | kl s => exact .kl s
    | own xs => rw [z] at s; obtain ⟨a, vs, h, hz, e, q, r⟩ := s; exact ⟨a, vs, h, hz, e, by rw [upd_ne fun z => hz.2 (.inr z)]; exact q, r.mono ke⟩
    | bor xs => rw [z] at s; obtain ⟨a, vs, h, hz, e, q, r⟩ := s; exact ⟨a, vs, h, hz, e, by rw [upd_ne fun z => nj ⟨i, by rw [← z]; exact h⟩]; exact q, r.mono ke⟩
    | odc kvs => rw [z] at s; obtain ⟨a, vs, h, hz, e, q, r⟩ := s; exact ⟨a, vs, h, hz, e, by rw [upd_ne fun z => hz.2 (.inr z)]; exact q, r.mono ke⟩
    | ldc kvs => rw [z] at s; obtain ⟨h, a, vs, o, hz, e, q, r⟩ := s; exact ⟨h, a, vs, o, hz, e, by rw [upd_ne fun z => hz (.inr (.inr z))]; exact q, r.mono ke⟩
  · have e : F.H0 a = some u := e
    have nD : a ≠ D := fun z => by rw [z, h0] at e; cases e
    rw [upd_ne nD]
    exact S.keep a u e n
end
end
end AH
namespace AH
open PySem PySem.Spec PyProof.Rows L2
variable [TheK]
section
variable {fl : Fl} {X : Cx} {Wx : WX} {e a b c d tg iter elt : Expr} {ma mb mc md : DE} {pos p : Pos} {st : Stmt} {rest : List Stmt} {m n : DS}
theorem Want.noX {α : Type} {m : M α} {env : Env} {Q : α → Env → Prop} {E : Str → List D → Env → Prop} (h : Want (AH.noX m) env Q E) : Want m env Q fun _ _ _ => False := by
  unfold Want AH.noX at h
  unfold Want
  cases hm : m env with
  | ok a e => rw [hm] at h; exact h
  | ex c fs e => rw [hm] at h; exact h
  | bad => rw [hm] at h; exact h
/-- the new list of a comprehension gets one item more -/
theorem SR.snoc {K : PySem.W.Frag} {F : Fm} {O : Nat → Option Addr} {env : Env} {σ : L2.St} {H : Hp} {D : Addr} {o : HO} {acc : List V} {y : V} {ys : List AH.D} {d : AH.D} (S : SR K (F.ad D) O env σ H) (nj : ¬ Jo O D) (h0 : F.H0 D = none) (l : RepL (Ow (F.ad D) O) H acc ys) (r : Rep (Ow (F.ad D) O) H y d) (ho : ∀ xs, o ≠ .tup xs := by intro _ z; cases z) :
    SR K (F.ad D) O env σ (upd H D o) ∧ RepL (Ow (F.ad D) O) (upd H D o) (acc ++ [y]) (ys ++ [d]) := by
  refine ⟨S.updP nj h0 ho, ?_⟩
  have ke : Ke (Ow (F.ad D) O) H (upd H D o) := Ke.mut (.inl (.inr rfl))
  exact (l.mono ke).app (.cons (r.mono ke) .nil)
theorem lc_sound {K : PySem.W.Frag} {vs js : List Nat} {it : DI} {g : DG} {t : DT} {el : DE} (hj : ∀ j ∈ js, j ∈ vs) {F : Fm} {O : Nat → Option Addr} {env : Env} {σ : L2.St} {H : Hp} {Q : VK} (S : SR K F O env σ H)
    (w : Want (eLc vs it g t el) env (fun d e1 => ∀ v H', SR K F O e1 σ H' → Ke (Jo O) H H' → Po .f K F O e1 σ H H' v d → Q v H') (XW K F O σ H Wx)) :
    tLc (tI K Wx it) (tG K js g) (tT K W0 t) (tD .s K W0 el) vs σ H Q := by
  refine ⟨F, O, env, S, w.bind.imp (fun xs e0 w1 J H1 S1 k1 wk D hD => ?_) fun _ _ _ z => z⟩
  have nj : ¬ Jo O D := fun z => S1.prot D (.inr z) hD
  have h0 : F.H0 D = none := al_none S1.al hD
  have w2 : ((vs.any fun v => isOwn (sl e0 v)) = false ∧ lenOk xs.length = true) ∧ Want (compL vs e0 g t el xs) (wipeE e0 vs) (fun ys e1 => ∀ v H', SR K F O (back e0 e1 vs) σ H' → Ke (Jo O) H H' → Po .f K F O (back e0 e1 vs) σ H H' v (.lst ys) → Q v H') (fun _ _ _ => False) := by
    unfold Want at w1
    cases hb : (vs.any fun v => isOwn (sl e0 v)) || !lenOk xs.length with
    | true => simp only [hb] at w1; exact w1.elim
    | false =>
      simp only [hb] at w1
      refine ⟨?_, ?_⟩
      · cases h1 : (vs.any fun v => isOwn (sl e0 v)) with
        | true => rw [h1] at hb; cases hb
        | false => rw [h1] at hb; cases h2 : lenOk xs.length with
          | true => exact ⟨rfl, rfl⟩
          | false => rw [h2] at hb; cases hb
      · refine Want.noX (E := fun _ _ _ => False) ?_
        unfold Want
        cases hm : noX (compL vs e0 g t el xs) (wipeE e0 vs) with
        | ok ys e1 => rw [hm] at w1; exact w1
        | ex c fs e1 => rw [hm] at w1; exact w1
        | bad => rw [hm] at w1; exact w1
  obtain ⟨⟨hno, hlen⟩, w2⟩ := w2
  have hno' : ∀ v ∈ vs, isOwn (sl e0 v) = false := fun v hv => by
    have := List.any_eq_false.mp hno v hv
    simpa using this
  have hOn : ∀ v ∈ vs, O v = none := fun v hv => S1.notOwn (hno' v hv)
  have Sw : SR K F O (wipeE e0 vs) (L2.wipe σ vs) H1 := S1.wipe vs hOn
  refine ⟨fun i k H' => k = xs.length - i ∧ i ≤ xs.length ∧ ∃ e' acc ys, SR K (F.ad D) O e' (L2.wipe σ vs) H' ∧ Ke (Jo O) H1 H' ∧ H' D = some (.lst acc) ∧ RepL (Ow (F.ad D) O) H' acc ys ∧ ys.length ≤ i ∧
    Want (compL vs e0 g t el (xs.drop i)) e' (fun zs e1 => ∀ v H', SR K F O (back e0 e1 vs) σ H' → Ke (Jo O) H H' → Po .f K F O (back e0 e1 vs) σ H H' v (.lst (ys ++ zs)) → Q v H') (fun _ _ _ => False), ⟨xs.length, by simp, Nat.zero_le _, _, [], [], Sw.ad hD, Ke.new hD, upd_same, .nil, Nat.le_refl _, w2⟩, ?_⟩
  rintro i k H2 ⟨rfl, hi, e', acc, ys, S2, k2, hD2, l2, hy, w3⟩
  by_cases hlt : i < xs.length
  · have hd : xs.drop i = xs[i] :: xs.drop (i + 1) := (List.drop_eq_getElem_cons hlt)
    rw [hd] at w3
    refine .inr ⟨wk.go i H2 k2.wj hlt, fun H' => i + 1 ≤ xs.length ∧ ∃ e' acc ys, SR K (F.ad D) O e' (L2.wipe σ vs) H' ∧ Ke (Jo O) H1 H' ∧ H' D = some (.lst acc) ∧ RepL (Ow (F.ad D) O) H' acc ys ∧ ys.length ≤ i + 1 ∧
      Want (compL vs e0 g t el (xs.drop (i + 1))) e' (fun zs e1 => ∀ v H', SR K F O (back e0 e1 vs) σ H' → Ke (Jo O) H H' → Po .f K F O (back e0 e1 vs) σ H H' v (.lst (ys ++ zs)) → Q v H') (fun _ _ _ => False), fun H' h => ⟨xs.length - (i + 1), by omega, rfl, h.1, h.2⟩, fun x H3 y => ?_⟩
    obtain ⟨ext, r⟩ := wk.yld i H2 x H3 xs[i] (Ow (F.ad D) O) k2.wj (fun a z => by
      rcases z with (z | rfl) | z
      · exact .inl (.inl z)
      · exact .inr hD
      · exact .inl (.inr z)) S2.prot2 (by simp [hlt]) y
    have S3 : SR K (F.ad D) O e' (L2.wipe σ vs) H3 := S2.ext ext
    have w4 := Want.bind (m := g xs[i]) w3
    refine ⟨F.ad D, O, e', xs[i], S3, r, w4.imp (fun _ e4 w5 σ4 S4 wp => ?_) fun _ _ _ z => z.elim⟩
    refine ⟨(wp vs hj).trans (by
      apply List.ext_getElem?
      intro j
      rw [wipe_get, wipe_get]
      split
      · cases σ[j]? <;> rfl
      · rfl), F.ad D, O, e4, S4, (Want.bind w5).imp (fun bb e5 w6 H5 S5 k5 => ?_) fun _ _ _ z => z.elim⟩
    have k25 : Ke (Jo O) H1 H5 := k2.trans ((ke_ext ext).trans k5)
    have hD5 : H5 D = some (.lst acc) := k5.stay _ _ nj (ext _ _ hD2)
    have l5 : RepL (Ow (F.ad D) O) H5 acc ys := (l2.ke (ke_ext ext) (fun _ z => .inl z)).mj k5
    cases bb with
    | false =>
      simp only [Bool.false_eq_true, if_false]
      refine ⟨hlt, wipeE e5 vs, acc, ys, ?_, k25, hD5, l5, by omega, ?_⟩
      · have := S5.wipe vs hOn
        rw [show L2.wipe σ4 vs = L2.wipe σ vs from (wp vs hj).trans (by
          apply List.ext_getElem?
          intro j
          rw [wipe_get, wipe_get]
          split
          · cases σ[j]? <;> rfl
          · rfl)] at this
        exact this
      · have w7 := Want.bind (m := compL vs e0 g t el (xs.drop (i + 1))) (show Want ((compL vs e0 g t el (xs.drop (i + 1))).bind fun zs => M.pure ([] ++ zs)) (wipeE e5 vs) _ _ from w6)
        exact w7
    | true =>
      simp only [if_true]
      refine ⟨F.ad D, O, e5, S5, (Want.bind (Want.bind w6)).imp (fun dd e6 w7 v H6 S6 k6 r6 => ?_) fun _ _ _ z => z.elim⟩
      refine ⟨acc, k6.stay _ _ nj hD5, ?_, hlt, wipeE e6 vs, acc ++ [v], ys ++ [dd], ?_⟩
      · rw [l5.len]
        have h1 : decide (xs.length ≤ 100000) = true := hlen
        have := of_decide_eq_true h1
        have h2 : sizeLine > 100000 := by decide
        omega
      obtain ⟨S7, l7⟩ := SR.snoc (o := .lst (acc ++ [v])) S6 nj h0 (l5.mj k6) r6
      have k26 := k25.trans k6
      refine ⟨?_, ⟨fun a o n e => by rw [upd_ne (ne_of_none e hD)]; exact k26.stay a o n e, fun a e => ?_⟩, upd_same, l7, ?_, ?_⟩
      · have := S7.wipe vs hOn
        rw [show L2.wipe σ4 vs = L2.wipe σ vs from (wp vs hj).trans (by
          apply List.ext_getElem?
          intro j
          rw [wipe_get, wipe_get]
          split
          · cases σ[j]? <;> rfl
          · rfl)] at this
        exact this
      · by_cases z : a = D
        · rw [z, upd_same]; simp
        · rw [upd_ne z]; exact k26.there a e
      · rw [List.length_append]; simp; omega
      · have w8 := Want.bind (m := compL vs e0 g t el (xs.drop (i + 1))) (show Want ((compL vs e0 g t el (xs.drop (i + 1))).bind fun zs => M.pure ([dd] ++ zs)) (wipeE e6 vs) _ _ from w7)
        refine w8.imp (fun zs e1 z v H' S k p => ?_) fun _ _ _ z => z
        refine z v H' S k ?_
        rw [List.append_assoc] at p
        exact p
  · have e : i = xs.length := by omega
    subst e
    refine .inl ⟨wk.stop H2 k2.wj, ?_⟩
    rw [List.drop_length] at w3
    have w4 := w3 (.ref D) H2
    rw [List.append_nil] at w4
    have Sb : SR K (F.ad D) O (back e0 e' vs) σ H2 := SR.back (F' := F.ad D) S1 rfl rfl (fun a z => z.elim .inl fun z => .inr (z ▸ hD)) (fun a z => z.elim .inl fun z => .inr (z ▸ hD)) S2 k2 hno'
    exact w4 Sb.unad (k1.trans k2) ⟨D, acc, ys, rfl, rfl, by
      cases q : H D with
      | none => rfl
      | some o => exact absurd hD (k1.there D (by rw [q]; simp)), hD2, l2, Sb⟩
theorem wipe_wipe {σ : L2.St} {vs1 vs : List Nat} (h : ∀ v ∈ vs1, v ∈ vs) : L2.wipe (L2.wipe σ vs1) vs = L2.wipe σ vs := by
  apply List.ext_getElem?
  intro j
  rw [wipe_get, wipe_get, wipe_get]
  by_cases h1 : j ∈ vs
  · rw [if_pos h1, if_pos h1]
    split
    · cases σ[j]? <;> rfl
    · rfl
  · rw [if_neg h1, if_neg h1, if_neg fun z => h1 (h j z)]
/-! two sources -/
def len2Ok (n : Nat) : Bool := decide (n ≤ 4000)
def compL2 (vs vs1 : List Nat) (g : DG) (t : DT) (it1 : DI) (g1 : DG) (t1 : DT) (a : DE) : List D → M (List D)
  | [] => M.pure []
  | x :: xs => (g x).bind fun _ => t.bind fun k =>
      (if k then it1.bind fun ys => fun e => if (vs1.any fun v => isOwn (sl e v)) || !len2Ok ys.length then .bad else compL vs1 e g1 t1 a ys (wipeE e vs1) else M.pure []).bind fun ys =>
      fun e1 => ((compL2 vs vs1 g t it1 g1 t1 a xs).bind fun zs => M.pure (ys ++ zs)) (wipeE e1 vs)
def eLc2 (vs vs1 : List Nat) (it : DI) (g : DG) (t : DT) (it1 : DI) (g1 : DG) (t1 : DT) (a : DE) : DE := it.bind fun xs => fun e =>
  if (vs.any fun v => isOwn (sl e v)) || !len2Ok xs.length then .bad else
  match noX (compL2 vs vs1 g t it1 g1 t1 a xs) (wipeE e vs) with
  | .ok ys e1 => .ok (.lst ys) (back e e1 vs)
  | _ => .bad
theorem or_f {a b : Bool} (h : (a || !b) = false) : a = false ∧ b = true := by cases a <;> cases b <;> simp_all
theorem no_own {vs : List Nat} {e0 : Env} (hno : (vs.any fun v => isOwn (sl e0 v)) = false) : ∀ v ∈ vs, isOwn (sl e0 v) = false := fun v hv => by
  have := List.any_eq_false.mp hno v hv
  simpa using this
theorem ke_upd {O : Nat → Option Addr} {H1 H6 : Hp} {D : Addr} {o : HO} (hD : H1 D = none) (k26 : Ke (Jo O) H1 H6) : Ke (Jo O) H1 (upd H6 D o) := by
  refine ⟨fun a o n e => by rw [upd_ne (ne_of_none e hD)]; exact k26.stay a o n e, fun a e => ?_⟩
  by_cases z : a = D
  · rw [z, upd_same]; simp
  · rw [upd_ne z]; exact k26.there a e
theorem lc2_sound {K : PySem.W.Frag} {vs vs1 js js1 : List Nat} {it it1 : DI} {g g1 : DG} {t t1 : DT} {el : DE} (hj : ∀ j ∈ js, j ∈ vs) (hj1 : ∀ j ∈ js1, j ∈ vs1) (hv : ∀ j ∈ vs1, j ∈ vs) {F : Fm} {O : Nat → Option Addr} {env : Env} {σ : L2.St} {H : Hp} {Q : VK} (S : SR K F O env σ H)
    (w : Want (eLc2 vs vs1 it g t it1 g1 t1 el) env (fun d e1 => ∀ v H', SR K F O e1 σ H' → Ke (Jo O) H H' → Po .f K F O e1 σ H H' v d → Q v H') (XW K F O σ H Wx)) :
    tLc2 (tI K Wx it) (tG K js g) (tT K W0 t) (tI K W0 it1) (tG K js1 g1) (tT K W0 t1) (tD .s K W0 el) vs vs1 σ H Q := by
  refine ⟨F, O, env, S, w.bind.imp (fun xs e0 w1 J H1 S1 k1 wk D hD => ?_) fun _ _ _ z => z⟩
  have nj : ¬ Jo O D := fun z => S1.prot D (.inr z) hD
  have h0 : F.H0 D = none := al_none S1.al hD
  have w2 : ((vs.any fun v => isOwn (sl e0 v)) = false ∧ len2Ok xs.length = true) ∧ Want (compL2 vs vs1 g t it1 g1 t1 el xs) (wipeE e0 vs) (fun ys e1 => ∀ v H', SR K F O (back e0 e1 vs) σ H' → Ke (Jo O) H H' → Po .f K F O (back e0 e1 vs) σ H H' v (.lst ys) → Q v H') (fun _ _ _ => False) := by
    unfold Want at w1
    cases hb : (vs.any fun v => isOwn (sl e0 v)) || !len2Ok xs.length with
    | true => simp only [hb] at w1; exact w1.elim
    | false =>
      simp only [hb] at w1
      refine ⟨or_f hb, ?_⟩
      · refine Want.noX (E := fun _ _ _ => False) ?_
        unfold Want
        cases hm : noX (compL2 vs vs1 g t it1 g1 t1 el xs) (wipeE e0 vs) with
        | ok ys e1 => rw [hm] at w1; exact w1
        | ex c fs e1 => rw [hm] at w1; exact w1
        | bad => rw [hm] at w1; exact w1
  obtain ⟨⟨hno, hlen⟩, w2⟩ := w2
  have hlen : xs.length ≤ 4000 := of_decide_eq_true hlen
  have hno' := no_own hno
  have hOn : ∀ v ∈ vs, O v = none := fun v hv => S1.notOwn (hno' v hv)
  have hOn1 : ∀ v ∈ vs1, O v = none := fun v hh => hOn v (hv v hh)
  have Sw : SR K F O (wipeE e0 vs) (L2.wipe σ vs) H1 := S1.wipe vs hOn
  refine ⟨fun i k H' => k = xs.length - i ∧ i ≤ xs.length ∧ ∃ e' acc ys, SR K (F.ad D) O e' (L2.wipe σ vs) H' ∧ Ke (Jo O) H1 H' ∧ H' D = some (.lst acc) ∧ RepL (Ow (F.ad D) O) H' acc ys ∧ ys.length ≤ i * 4000 ∧
    Want (compL2 vs vs1 g t it1 g1 t1 el (xs.drop i)) e' (fun zs e1 => ∀ v H', SR K F O (back e0 e1 vs) σ H' → Ke (Jo O) H H' → Po .f K F O (back e0 e1 vs) σ H H' v (.lst (ys ++ zs)) → Q v H') (fun _ _ _ => False), ⟨xs.length, by simp, Nat.zero_le _, _, [], [], Sw.ad hD, Ke.new hD, upd_same, .nil, Nat.le_refl _, w2⟩, ?_⟩
  rintro i k H2 ⟨rfl, hi, e', acc, ys, S2, k2, hD2, l2, hy, w3⟩
  by_cases hlt : i < xs.length
  · have hd : xs.drop i = xs[i] :: xs.drop (i + 1) := (List.drop_eq_getElem_cons hlt)
    rw [hd] at w3
    refine .inr ⟨wk.go i H2 k2.wj hlt, fun H' => i + 1 ≤ xs.length ∧ ∃ e' acc ys, SR K (F.ad D) O e' (L2.wipe σ vs) H' ∧ Ke (Jo O) H1 H' ∧ H' D = some (.lst acc) ∧ RepL (Ow (F.ad D) O) H' acc ys ∧ ys.length ≤ (i + 1) * 4000 ∧
      Want (compL2 vs vs1 g t it1 g1 t1 el (xs.drop (i + 1))) e' (fun zs e1 => ∀ v H', SR K F O (back e0 e1 vs) σ H' → Ke (Jo O) H H' → Po .f K F O (back e0 e1 vs) σ H H' v (.lst (ys ++ zs)) → Q v H') (fun _ _ _ => False), fun H' h => ⟨xs.length - (i + 1), by omega, rfl, h.1, h.2⟩, fun x H3 y => ?_⟩
    have gW : ∀ {H4 : Hp}, H4 D = some (.lst acc) ∨ True → ∀ a, Ow (F.ad D) O a → Ow F O a ∨ H1 a = none := fun _ a z => by
      rcases z with (z | rfl) | z
      · exact .inl (.inl z)
      · exact .inr hD
      · exact .inl (.inr z)
    obtain ⟨ext, r⟩ := wk.yld i H2 x H3 xs[i] (Ow (F.ad D) O) k2.wj (gW (H4 := H2) (.inr trivial)) S2.prot2 (by simp [hlt]) y
    have S3 : SR K (F.ad D) O e' (L2.wipe σ vs) H3 := S2.ext ext
    have w4 := Want.bind (m := g xs[i]) w3
    refine ⟨F.ad D, O, e', xs[i], S3, r, w4.imp (fun _ e4 w5 σ4 S4 wp => ?_) fun _ _ _ z => z.elim⟩
    have ew : L2.wipe σ4 vs = L2.wipe σ vs := (wp vs hj).trans (wipe_wipe fun _ z => z)
    refine ⟨ew, F.ad D, O, e4, S4, (Want.bind w5).imp (fun bb e5 w6 H5 S5 k5 => ?_) fun _ _ _ z => z.elim⟩
    have k25 : Ke (Jo O) H1 H5 := k2.trans ((ke_ext ext).trans k5)
    have hD5 : H5 D = some (.lst acc) := k5.stay _ _ nj (ext _ _ hD2)
    have l5 : RepL (Ow (F.ad D) O) H5 acc ys := (l2.ke (ke_ext ext) (fun _ z => .inl z)).mj k5
    cases bb with
    | false =>
      simp only [Bool.false_eq_true, if_false]
      refine ⟨hlt, wipeE e5 vs, acc, ys, ?_, k25, hD5, l5, by omega, ?_⟩
      · have := S5.wipe vs hOn
        rw [ew] at this
        exact this
      · have w7 := Want.bind (m := compL2 vs vs1 g t it1 g1 t1 el (xs.drop (i + 1))) (show Want ((compL2 vs vs1 g t it1 g1 t1 el (xs.drop (i + 1))).bind fun zs => M.pure ([] ++ zs)) (wipeE e5 vs) _ _ from w6)
        exact w7
    | true =>
      simp only [if_true]
      refine ⟨F.ad D, O, e5, S5, (Want.bind (Want.bind w6)).imp (fun us e6 w7 J1 H6 S6 k6 wk1 => ?_) fun _ _ _ z => z.elim⟩
      have w8 : ((vs1.any fun v => isOwn (sl e6 v)) = false ∧ len2Ok us.length = true) ∧ Want (compL vs1 e6 g1 t1 el us) (wipeE e6 vs1) (fun ys1 e1 => Want (fun e1 => ((compL2 vs vs1 g t it1 g1 t1 el (xs.drop (i + 1))).bind fun zs => M.pure (ys1 ++ zs)) (wipeE e1 vs)) e1 (fun zs e1 => ∀ v H', SR K F O (back e0 e1 vs) σ H' → Ke (Jo O) H H' → Po .f K F O (back e0 e1 vs) σ H H' v (.lst (ys ++ zs)) → Q v H') (fun _ _ _ => False)) (fun _ _ _ => False) := by
        unfold Want at w7
        cases hb : (vs1.any fun v => isOwn (sl e6 v)) || !len2Ok us.length with
        | true => simp only [hb] at w7; exact w7.elim
        | false =>
          simp only [hb] at w7
          exact ⟨or_f hb, w7⟩
      obtain ⟨⟨hno1, hlen1⟩, w8⟩ := w8
      have hlen1 : us.length ≤ 4000 := of_decide_eq_true hlen1
      have Sw1 : SR K (F.ad D) O (wipeE e6 vs1) (L2.wipe σ4 vs1) H6 := S6.wipe vs1 hOn1
      refine ⟨fun j k H' => k = us.length - j ∧ j ≤ us.length ∧ ∃ e' acc1 ys1, SR K (F.ad D) O e' (L2.wipe σ4 vs1) H' ∧ Ke (Jo O) H1 H' ∧ Ke (Wj (F.ad D) O) H6 H' ∧ H' D = some (.lst acc1) ∧ RepL (Ow (F.ad D) O) H' acc1 (ys ++ ys1) ∧ ys1.length ≤ j ∧
        Want (compL vs1 e6 g1 t1 el (us.drop j)) e' (fun ys2 e1 => Want (fun e1 => ((compL2 vs vs1 g t it1 g1 t1 el (xs.drop (i + 1))).bind fun zs => M.pure ((ys1 ++ ys2) ++ zs)) (wipeE e1 vs)) e1 (fun zs e1 => ∀ v H', SR K F O (back e0 e1 vs) σ H' → Ke (Jo O) H H' → Po .f K F O (back e0 e1 vs) σ H H' v (.lst (ys ++ zs)) → Q v H') (fun _ _ _ => False)) (fun _ _ _ => False), ⟨us.length, by simp, Nat.zero_le _, _, acc, [], Sw1, k25.trans k6, Ke.refl, k6.stay _ _ nj hD5, by rw [List.append_nil]; exact l5.mj k6, Nat.le_refl _, w8⟩, ?_⟩
      rintro j kk H7 ⟨rfl, hjj, e7, acc1, ys1, S7, k7, kd7, hD7, l7, hy1, w9⟩
      by_cases hlt1 : j < us.length
      · have hd1 : us.drop j = us[j] :: us.drop (j + 1) := (List.drop_eq_getElem_cons hlt1)
        rw [hd1] at w9
        refine .inr ⟨wk1.go j H7 kd7 hlt1, fun H' => j + 1 ≤ us.length ∧ ∃ e' acc1 ys1, SR K (F.ad D) O e' (L2.wipe σ4 vs1) H' ∧ Ke (Jo O) H1 H' ∧ Ke (Wj (F.ad D) O) H6 H' ∧ H' D = some (.lst acc1) ∧ RepL (Ow (F.ad D) O) H' acc1 (ys ++ ys1) ∧ ys1.length ≤ j + 1 ∧
          Want (compL vs1 e6 g1 t1 el (us.drop (j + 1))) e' (fun ys2 e1 => Want (fun e1 => ((compL2 vs vs1 g t it1 g1 t1 el (xs.drop (i + 1))).bind fun zs => M.pure ((ys1 ++ ys2) ++ zs)) (wipeE e1 vs)) e1 (fun zs e1 => ∀ v H', SR K F O (back e0 e1 vs) σ H' → Ke (Jo O) H H' → Po .f K F O (back e0 e1 vs) σ H H' v (.lst (ys ++ zs)) → Q v H') (fun _ _ _ => False)) (fun _ _ _ => False), fun H' h => ⟨us.length - (j + 1), by omega, rfl, h.1, h.2⟩, fun x1 H8 y1 => ?_⟩
        obtain ⟨ext1, r1⟩ := wk1.yld j H7 x1 H8 us[j] (Ow (F.ad D) O) kd7 (fun a z => .inl z) S7.prot2 (by simp [hlt1]) y1
        refine ⟨F.ad D, O, e7, us[j], S7.ext ext1, r1, (Want.bind (m := g1 us[j]) w9).imp (fun _ e9 w10 σ9 S9 wp1 => ?_) fun _ _ _ z => z.elim⟩
        have ew1 : L2.wipe σ9 vs1 = L2.wipe σ4 vs1 := (wp1 vs1 hj1).trans (wipe_wipe fun _ z => z)
        refine ⟨ew1, F.ad D, O, e9, S9, (Want.bind w10).imp (fun b1 e10 w11 H10 S10 k10 => ?_) fun _ _ _ z => z.elim⟩
        have k1a : Ke (Jo O) H1 H10 := k7.trans ((ke_ext ext1).trans k10)
        have kda : Ke (Wj (F.ad D) O) H6 H10 := kd7.trans ((ke_ext ext1).trans k10.wj)
        have hDa : H10 D = some (.lst acc1) := k10.stay _ _ nj (ext1 _ _ hD7)
        have la : RepL (Ow (F.ad D) O) H10 acc1 (ys ++ ys1) := (l7.ke (ke_ext ext1) (fun _ z => .inl z)).mj k10
        cases b1 with
        | false =>
          simp only [Bool.false_eq_true, if_false]
          refine ⟨hlt1, wipeE e10 vs1, acc1, ys1, ?_, k1a, kda, hDa, la, by omega, ?_⟩
          · have := S10.wipe vs1 hOn1
            rw [ew1] at this
            exact this
          · have w13 := Want.bind (m := compL vs1 e6 g1 t1 el (us.drop (j + 1))) (show Want ((compL vs1 e6 g1 t1 el (us.drop (j + 1))).bind fun zs => M.pure ([] ++ zs)) (wipeE e10 vs1) _ _ from w11)
            exact w13
        | true =>
          simp only [if_true]
          refine ⟨F.ad D, O, e10, S10, (Want.bind (Want.bind w11)).imp (fun dd e11 w12 v H11 S11 k11 r11 => ?_) fun _ _ _ z => z.elim⟩
          refine ⟨acc1, k11.stay _ _ nj hDa, ?_, hlt1, wipeE e11 vs1, acc1 ++ [v], ys1 ++ [dd], ?_⟩
          · rw [la.len, List.length_append]
            have h2 : sizeLine = 16777216 := by decide
            omega
          obtain ⟨S12, l12⟩ := SR.snoc (o := .lst (acc1 ++ [v])) S11 nj h0 (la.mj k11) r11
          refine ⟨?_, ke_upd hD (k1a.trans k11), (kda.trans k11.wj).trans (Ke.mut ⟨.inl (.inr rfl), .inr (.inr rfl)⟩), upd_same, ?_, ?_, ?_⟩
          · have := S12.wipe vs1 hOn1
            rw [ew1] at this
            exact this
          · rw [List.append_assoc] at l12
            exact l12
          · rw [List.length_append]; simp; omega
          · have w13 := Want.bind (m := compL vs1 e6 g1 t1 el (us.drop (j + 1))) (show Want ((compL vs1 e6 g1 t1 el (us.drop (j + 1))).bind fun zs => M.pure ([dd] ++ zs)) (wipeE e11 vs1) _ _ from w12)
            refine w13.imp (fun zs e1 z => ?_) fun _ _ _ z => z
            rw [List.append_assoc]
            exact z
      · have e : j = us.length := by omega
        subst e
        refine .inl ⟨wk1.stop H7 kd7, hlt, wipeE e7 vs, acc1, ys ++ ys1, ?_, k7, hD7, l7, ?_, ?_⟩
        · have := S7.wipe vs hOn
          rw [wipe_wipe hv, ew] at this
          exact this
        · rw [List.length_append]; omega
        · rw [List.drop_length] at w9
          have w10 : Want ((compL2 vs vs1 g t it1 g1 t1 el (xs.drop (i + 1))).bind fun zs => M.pure ((ys1 ++ []) ++ zs)) (wipeE e7 vs) _ _ := w9
          rw [List.append_nil] at w10
          refine (Want.bind w10).imp (fun zs e1 z v H' S k p => z v H' S k ?_) fun _ _ _ z => z
          rw [List.append_assoc] at p
          exact p
  · have e : i = xs.length := by omega
    subst e
    refine .inl ⟨wk.stop H2 k2.wj, ?_⟩
    rw [List.drop_length] at w3
    have w4 := w3 (.ref D) H2
    rw [List.append_nil] at w4
    have Sb : SR K (F.ad D) O (back e0 e' vs) σ H2 := SR.back (F' := F.ad D) S1 rfl rfl (fun a z => z.elim .inl fun z => .inr (z ▸ hD)) (fun a z => z.elim .inl fun z => .inr (z ▸ hD)) S2 k2 hno'
    exact w4 Sb.unad (k1.trans k2) ⟨D, acc, ys, rfl, rfl, by
      cases q : H D with
      | none => rfl
      | some o => exact absurd hD (k1.there D (by rw [q]; simp)), hD2, l2, Sb⟩
/-! the rules -/
theorem CD.pt {ifs : List Expr} {t : DT} (h : CD X Wx ifs t) : PTs X ifs (tT X.K Wx t) := h
def BlkD (X : Cx) (P : Cx → Prop) (scope : Scope) : Prop := ∀ (s : Shared) (H : Hp) (C : Addr) (cl : List (Str × Addr)) (fp : List Addr), P (X.blk s H scope (compEnvC scope cl C X.env) fp)
theorem pd_lc {ifs : List Expr} {scope : Scope} {own : List (Str × Nat)} {js : List Nat} {it : DI} {g : DG} {t : DT} (hc : X.calm = true) (hN : X.N.Nodup) (hb : blkC X.N X.env.scope scope own = true) (hj : (js.all fun j => (own.map (·.2)).contains j) = true)
    (hi : ID X Wx tg iter it) (hg : BlkD X (fun X => GD X tg js g) scope) (ht : BlkD X (fun X => CD X W0 ifs t) scope) (he : BlkD X (fun X => PD .s X W0 elt ma) scope) (hs : ∀ x, foldedSetIterable iter X.env x = pure x := by intro _; rfl) :
    PD .f X Wx (.ListComp elt [⟨tg, iter, ifs, 0⟩] scope pos) (eLc (own.map (·.2)) it g t ma) :=
  ⟨_, pe_lc hc hN hi.pi (blkOk_by hb) (fun s H C cl fp => (hg s H C cl fp).pg) (fun s H C cl fp => (ht s H C cl fp).pt) (fun s H C cl fp => (he s H C cl fp).pe) hs,
    fun F O env σ H Q S w => lc_sound (fun j h => by simpa using List.all_eq_true.mp hj j h) S w⟩
theorem pd_lc2 {tg1 iter1 : Expr} {ifs ifs1 : List Expr} {scope : Scope} {own : List (Str × Nat)} {vs1 js js1 : List Nat} {it it1 : DI} {g g1 : DG} {t t1 : DT} (hc : X.calm = true) (hN : X.N.Nodup) (hb : blkC X.N X.env.scope scope own = true) (hj : (js.all fun j => (own.map (·.2)).contains j) = true) (hj1 : (js1.all fun j => vs1.contains j) = true) (hv : (vs1.all fun j => (own.map (·.2)).contains j) = true)
    (hi : ID X Wx tg iter it) (hg : BlkD X (fun X => GD X tg js g) scope) (ht : BlkD X (fun X => CD X W0 ifs t) scope) (hi1 : BlkD X (fun X => ID X W0 tg1 iter1 it1) scope) (hg1 : BlkD X (fun X => GD X tg1 js1 g1) scope) (ht1 : BlkD X (fun X => CD X W0 ifs1 t1) scope) (he : BlkD X (fun X => PD .s X W0 elt ma) scope)
    (hs : ∀ x, foldedSetIterable iter X.env x = pure x := by intro _; rfl) (hs1 : ∀ env x, foldedSetIterable iter1 env x = pure x := by intro _ _; rfl) :
    PD .f X Wx (.ListComp elt [⟨tg, iter, ifs, 0⟩, ⟨tg1, iter1, ifs1, 0⟩] scope pos) (eLc2 (own.map (·.2)) vs1 it g t it1 g1 t1 ma) :=
  have hv' : ∀ j ∈ vs1, j ∈ own.map (·.2) := fun j h => by simpa using List.all_eq_true.mp hv j h
  ⟨_, pe_lc2 hc hN hi.pi (blkOk_by hb) hv' (fun s H C cl fp => (hg s H C cl fp).pg) (fun s H C cl fp => (ht s H C cl fp).pt) (fun s H C cl fp => (hi1 s H C cl fp).pi) (fun s H C cl fp => (hg1 s H C cl fp).pg) (fun s H C cl fp => (ht1 s H C cl fp).pt) (fun s H C cl fp => (he s H C cl fp).pe) hs hs1,
    fun F O env σ H Q S w => lc2_sound (fun j h => by simpa using List.all_eq_true.mp hj j h) (fun j h => by simpa using List.all_eq_true.mp hj1 j h) hv' S w⟩
/-! name = [..] on one line, the name a local -/
theorem asgN_of {i : Nat} {t : TE} (hp : PS X st (tAsg t (gName i))) (qa : ∀ (F : Fm) (O : Nat → Option Addr) (env : Env) (σ : L2.St) (H : Hp) (Q : VK), SR X.K F O env σ H →
    Want ma env (fun d e1 => ∀ v H', SR X.K F O e1 σ H' → Ke (Jo O) H H' → Po .s X.K F O e1 σ H H' v d → Q v H') (XW X.K F O σ H Wx) → t σ H Q) : SD fl X Wx st (sAsgN i ma) := by
  refine ⟨_, hp, fun F O env σ H D S w => ?_⟩
  refine qa F O env σ H _ S (w.bind.imp (fun dx e1 w1 x H1 S1 k1 p1 => ?_) XWs.xw)
  obtain ⟨_, w2⟩ := w1.gd rfl
  exact w2 _ _ H1 (S1.setVal p1) ⟨k1, fun a z => .inl (jo_setN z)⟩
theorem own_of {i : Nat} {t : TE} (hp : PS X st (tAsg t (gName i))) (qa : ∀ (F : Fm) (O : Nat → Option Addr) (env : Env) (σ : L2.St) (H : Hp) (Q : VK), SR X.K F O env σ H →
    Want ma env (fun d e1 => ∀ v H', SR X.K F O e1 σ H' → Ke (Jo O) H H' → Po .f X.K F O e1 σ H H' v d → Q v H') (XW X.K F O σ H Wx) → t σ H Q) : SD fl X Wx st (sOwn i ma) := by
  refine ⟨_, hp, fun F O env σ H D S w => ?_⟩
  refine qa F O env σ H _ S (w.bind.imp (fun dx e1 w1 x H1 S1 k1 p1 => ?_) XWs.xw)
  obtain ⟨q, vs, xs, rfl, rfl, hq, r⟩ := id p1
  obtain ⟨h, w2⟩ := w1.gd rfl
  obtain ⟨h1, h2⟩ := Bool.or_eq_false_iff.mp h
  have hl : i < e1.length := by simpa using h2
  obtain ⟨q', e, hq', S2⟩ := SR.own1 (i := i) S.al S.prot p1 hl
  cases e
  exact w2 _ _ H1 S2 (keS_new k1 hq)
theorem sOf_f {t : TE} {K : PySem.W.Frag} (q : ∀ (F : Fm) (O : Nat → Option Addr) (env : Env) (σ : L2.St) (H : Hp) (Q : VK), SR K F O env σ H →
    Want ma env (fun d e1 => ∀ v H', SR K F O e1 σ H' → Ke (Jo O) H H' → Po .f K F O e1 σ H H' v d → Q v H') (XW K F O σ H Wx) → t σ H Q) : ∀ (F : Fm) (O : Nat → Option Addr) (env : Env) (σ : L2.St) (H : Hp) (Q : VK), SR K F O env σ H →
    Want ma env (fun d e1 => ∀ v H', SR K F O e1 σ H' → Ke (Jo O) H H' → Po .s K F O e1 σ H H' v d → Q v H') (XW K F O σ H Wx) → t σ H Q :=
  fun F O env σ H Q S w => q F O env σ H Q S (w.imp (fun d e1 z v H' S' k r => z v H' S' k (Po.s_of_f (K := K) (fun p hp => S.noW hp) r)) fun _ _ _ z => z)
section
variable {i : Nat} {y : Str} {py spos : Pos} {ifs : List Expr} {scope : Scope} {own : List (Str × Nat)} {js : List Nat} {it : DI} {g : DG} {t : DT}
theorem ps_lc1 (hc : X.calm = true) (hN : X.N.Nodup) (hy : X.N[i]? = some y) (hyl : X.env.scope.names.lookup y = some .local) (hk : X.env.scope.kind = .function) (hl : (py.line == pos.line) = true) (ha : (scope.names.any fun (n, k) => n == y && (k == .local || k == .cell)) = false)
    (hb : blkC X.N X.env.scope scope own = true) (hi : ID X Wx tg iter it) (hg : BlkD X (fun X => GD X tg js g) scope) (ht : BlkD X (fun X => CD X W0 ifs t) scope) (he : BlkD X (fun X => PD .s X W0 elt ma) scope) (hs : ∀ x, foldedSetIterable iter X.env x = pure x) :
    PS X (.Assign [.Name y py] (.ListComp elt [⟨tg, iter, ifs, 0⟩] scope pos) spos) (tAsg (tLc (tI X.K Wx it) (tG X.K js g) (tT X.K W0 t) (tD .s X.K W0 ma) (own.map (·.2))) (gName i)) :=
  ps_setLc (spos := spos) hc hN hy hyl (sw_true (l := spos.line) hk hyl hl ha) hi.pi (blkOk_by hb) (fun s H C cl fp => (hg s H C cl fp).pg) (fun s H C cl fp => (ht s H C cl fp).pt) (fun s H C cl fp => (he s H C cl fp).pe) hs
/-- name = [..], a value from now on -/
theorem sd_lc (hc : X.calm = true) (hN : X.N.Nodup) (hy : X.N[i]? = some y) (hyl : X.env.scope.names.lookup y = some .local) (hk : X.env.scope.kind = .function) (hl : (py.line == pos.line) = true) (ha : (scope.names.any fun (n, k) => n == y && (k == .local || k == .cell)) = false)
    (hb : blkC X.N X.env.scope scope own = true) (hj : (js.all fun j => (own.map (·.2)).contains j) = true) (hi : ID X Wx tg iter it) (hg : BlkD X (fun X => GD X tg js g) scope) (ht : BlkD X (fun X => CD X W0 ifs t) scope) (he : BlkD X (fun X => PD .s X W0 elt ma) scope) (hs : ∀ x, foldedSetIterable iter X.env x = pure x := by intro _; rfl) :
    SD fl X Wx (.Assign [.Name y py] (.ListComp elt [⟨tg, iter, ifs, 0⟩] scope pos) spos) (sAsgN i (eLc (own.map (·.2)) it g t ma)) :=
  asgN_of (ps_lc1 hc hN hy hyl hk hl ha hb hi hg ht he hs) (sOf_f fun F O env σ H Q S w => lc_sound (fun j h => by simpa using List.all_eq_true.mp hj j h) S w)
theorem sd_lcO (hc : X.calm = true) (hN : X.N.Nodup) (hy : X.N[i]? = some y) (hyl : X.env.scope.names.lookup y = some .local) (hk : X.env.scope.kind = .function) (hl : (py.line == pos.line) = true) (ha : (scope.names.any fun (n, k) => n == y && (k == .local || k == .cell)) = false)
    (hb : blkC X.N X.env.scope scope own = true) (hj : (js.all fun j => (own.map (·.2)).contains j) = true) (hi : ID X Wx tg iter it) (hg : BlkD X (fun X => GD X tg js g) scope) (ht : BlkD X (fun X => CD X W0 ifs t) scope) (he : BlkD X (fun X => PD .s X W0 elt ma) scope) (hs : ∀ x, foldedSetIterable iter X.env x = pure x := by intro _; rfl) :
    SD fl X Wx (.Assign [.Name y py] (.ListComp elt [⟨tg, iter, ifs, 0⟩] scope pos) spos) (sOwn i (eLc (own.map (·.2)) it g t ma)) :=
  own_of (ps_lc1 hc hN hy hyl hk hl ha hb hi hg ht he hs) (fun F O env σ H Q S w => lc_sound (fun j h => by simpa using List.all_eq_true.mp hj j h) S w)
variable {tg1 iter1 : Expr} {ifs1 : List Expr} {vs1 js1 : List Nat} {it1 : DI} {g1 : DG} {t1 : DT}
theorem sd_lc2 (hc : X.calm = true) (hN : X.N.Nodup) (hy : X.N[i]? = some y) (hyl : X.env.scope.names.lookup y = some .local) (hk : X.env.scope.kind = .function) (hl : (py.line == pos.line) = true) (ha : (scope.names.any fun (n, k) => n == y && (k == .local || k == .cell)) = false)
    (hb : blkC X.N X.env.scope scope own = true) (hj : (js.all fun j => (own.map (·.2)).contains j) = true) (hj1 : (js1.all fun j => vs1.contains j) = true) (hv : (vs1.all fun j => (own.map (·.2)).contains j) = true) (hi : ID X Wx tg iter it) (hg : BlkD X (fun X => GD X tg js g) scope) (ht : BlkD X (fun X => CD X W0 ifs t) scope)
    (hi1 : BlkD X (fun X => ID X W0 tg1 iter1 it1) scope) (hg1 : BlkD X (fun X => GD X tg1 js1 g1) scope) (ht1 : BlkD X (fun X => CD X W0 ifs1 t1) scope) (he : BlkD X (fun X => PD .s X W0 elt ma) scope) (hs : ∀ x, foldedSetIterable iter X.env x = pure x := by intro _; rfl) (hs1 : ∀ env x, foldedSetIterable iter1 env x = pure x := by intro _ _; rfl) :
    SD fl X Wx (.Assign [.Name y py] (.ListComp elt [⟨tg, iter, ifs, 0⟩, ⟨tg1, iter1, ifs1, 0⟩] scope pos) spos) (sAsgN i (eLc2 (own.map (·.2)) vs1 it g t it1 g1 t1 ma)) :=
  have hv' : ∀ j ∈ vs1, j ∈ own.map (·.2) := fun j h => by simpa using List.all_eq_true.mp hv j h
  asgN_of (ps_setLc2 (spos := spos) hc hN hy hyl (sw_true (l := spos.line) hk hyl hl ha) hi.pi (blkOk_by hb) hv' (fun s H C cl fp => (hg s H C cl fp).pg) (fun s H C cl fp => (ht s H C cl fp).pt) (fun s H C cl fp => (hi1 s H C cl fp).pi) (fun s H C cl fp => (hg1 s H C cl fp).pg) (fun s H C cl fp => (ht1 s H C cl fp).pt) (fun s H C cl fp => (he s H C cl fp).pe) hs hs1)
    (sOf_f fun F O env σ H Q S w => lc2_sound (fun j h => by simpa using List.all_eq_true.mp hj j h) (fun j h => by simpa using List.all_eq_true.mp hj1 j h) hv' S w)
end
end
end AH
namespace AH
open PySem PySem.Spec PyProof.Rows L2
variable [TheK]
/-! ### what a def promises -/
/-- the lent lists' items, by the parameters -/
def BoL (Z : Pr) (ba : Nat → Option Addr) (H : Hp) : Nat → List Md → List (List D) → Prop
  | _, [], [] => True
  | i, .bor :: ms, xs :: bs => (∃ a vs, ba i = some a ∧ H a = some (.lst vs) ∧ RepL Z H vs xs) ∧ BoL Z ba H (i + 1) ms bs
  | _, .bor :: _, [] => False
  | i, _ :: ms, bs => BoL Z ba H (i + 1) ms bs
  | _, [], _ :: _ => False
/-- the heap behind a call -/
structure KeB (F : Fm) (H H' : Hp) : Prop where
  keep : ∀ a o, H a = some o → ¬ F.bo a → H' a = some o
  there : ∀ a, H a ≠ none → H' a ≠ none
def RoF (fl : Fl) (F : Fm) (ms : List Md) (bs : List (List D)) (H H' : Hp) (v : V) (d : D) : Prop := match fl with
  | .f => ∃ p vs xs, v = .ref p ∧ d = .lst xs ∧ H p = none ∧ H' p = some (.lst vs) ∧ RepL (fun a => F.P a ∨ a = p) H' vs xs ∧ BoL (fun a => F.P a ∨ a = p) F.ba H' 0 ms bs
  | .fd => ∃ p ks kvs, v = .ref p ∧ d = .dic kvs ∧ H p = none ∧ H' p = some (.dT ks) ∧ RepK (fun a => F.P a ∨ a = p) H' ks kvs ∧ BoL (fun a => F.P a ∨ a = p) F.ba H' 0 ms bs
  | _ => Rep F.P H' v d ∧ BoL F.P F.ba H' 0 ms bs
def spD (fl : Fl) (K : PySem.W.Frag) (N : List Str) (ms : List Md) (f : DF) : Sp := fun vs H Q E => vs.length = ms.length ∧ ∃ (ds : List D) (F : Fm) (O : Nat → Option Addr),
  SR K F O (startE ms ds ++ List.replicate (N.length - ms.length) .no) (start N vs) H ∧ F.H0 = H ∧ lstsOk ms ds = true ∧ match f ds with
    | .ok d bs => ∀ v H', KeB F H H' → RoF fl F ms bs H H' v d → Q v H'
    | .ex c fs bs => ∀ cls dd H', KeB F H H' → BoL F.P F.ba H' 0 ms bs → XR K F.P c fs cls dd H' → E cls dd H'
    | .bad => False
theorem boL_of {Z : Pr} {F : Fm} {H : Hp} {e : Env} (B : BoR Z F e H) : ∀ {ms : List Md} {i : Nat} {e' : Env} {bs : List (List D)}, (∀ j, sl e' j = sl e (i + j)) → lentOf ms e' = some bs → BoL Z F.ba H i ms bs
  | [], i, e', bs, _, h => by cases h; trivial
  | .bor :: ms, i, [], bs, _, h => by cases h
  | .bor :: ms, i, s :: e', bs, he, h => by
    cases s with
    | bor xs =>
      unfold lentOf at h
      cases q : lentOf ms e' with
      | none => rw [q] at h; cases h
      | some bs' =>
        rw [q] at h
        cases h
        have e0 : sl e i = .bor xs := (he 0).symm
        obtain ⟨a, vs, h1, h2, h3⟩ := B i xs e0
        exact ⟨⟨a, vs, h1, h2, h3⟩, boL_of B (fun j => by have := he (j + 1); rw [show i + (j + 1) = i + 1 + j by omega] at this; exact this) q⟩
    | _ => cases h
  | .val :: ms, i, [], bs, _, h => by cases h
  | .ro :: ms, i, [], bs, _, h => by cases h
  | .val :: ms, i, s :: e', bs, he, h => by
    have h : lentOf ms e' = some bs := by cases s <;> exact h
    exact boL_of (ms := ms) (i := i + 1) B (fun j => by have := he (j + 1); rw [show i + (j + 1) = i + 1 + j by omega] at this; exact this) h
  | .ro :: ms, i, s :: e', bs, he, h => by
    have h : lentOf ms e' = some bs := by cases s <;> exact h
    exact boL_of (ms := ms) (i := i + 1) B (fun j => by have := he (j + 1); rw [show i + (j + 1) = i + 1 + j by omega] at this; exact this) h
theorem boL_of0 {Z : Pr} {F : Fm} {H : Hp} {e : Env} {ms : List Md} {bs : List (List D)} (B : BoR Z F e H) (h : lentOf ms e = some bs) : BoL Z F.ba H 0 ms bs := boL_of B (i := 0) (fun j => by rw [Nat.zero_add]) h
/-- a def that must end by return -/
def mkR (n : Nat) (ms : List Md) (b : DS) : DF := fun ds =>
  if !lstsOk ms ds then .bad else
  match b (startE ms ds ++ List.replicate (n - ms.length) .no) with
  | .ok (.rt d) e => (match lentOf ms e with
    | some bs => .ok d bs
    | none => .bad)
  | .ok _ _ => .bad
  | .ex c fs e => (match lentOf ms e with
    | some bs => .ex c fs bs
    | none => .bad)
  | .bad => .bad
section
variable {P : Program} {w : World} {K : PySem.W.Frag} {mg : Str → Option Value} {base : Heap} {x qual : Str} {params : Arguments} {body : List Stmt} {scope : Scope} {dvs : List V} {kws : List (Str × V)} {f : Addr} {fd : FuncData} {N ps : List Str} {k : Nat} {ms : List Md} {fl : Fl}
abbrev cxD (P : Program) (w : World) (K : PySem.W.Frag) (mg : Str → Option Value) (base : Heap) (N : List Str) (qual : Str) (scope : Scope) (f : Addr) (cd : Value) (A : Around) (outer : List PySem.Env) (s : Shared) (H : Hp) (E : XK) : Cx := cxOf (L2.CX P w) P w K mg base N qual scope f cd A outer s H E
/-- of a body at every entry -/
def BodyD (P : Program) (w : World) (K : PySem.W.Frag) (mg : Str → Option Value) (base : Heap) (N : List Str) (qual : Str) (scope : Scope) (f : Addr) (k : Nat) (fl : Fl) (body : List Stmt) (m : DS) : Prop :=
  ∀ (X : Cx) (Wx : WX), X.prog = P → X.w = w → X.K = K → X.mg = mg → X.base = base → X.N = N → X.env.scope = scope → X.calm = true → Room k X.A → Takes X Wx → PassesOwn (model X.prog X.w) X.A X.env X.xe → (∀ y, X.fn y = true) → SsD fl X Wx body m
theorem fl_end {F : Fm} {O : Nat → Option Addr} {e : Env} {σ : L2.St} {H H' : Hp} {v : V} {d : D} {bs : List (List D)} (S : SR K F O e σ H') (h0 : F.H0 = H) (hb : lentOf ms e = some bs) (r : Ro fl K F O e σ H' v d) : RoF fl F ms bs H H' v d := by
  have bo : BoL F.P F.ba H' 0 ms bs := boL_of0 (S.boR rfl fun a z => .inl z) hb
  subst h0
  cases fl with
  | f => obtain ⟨p, vs, xs, h1, h2, h3, h4, h5, h6⟩ := r; exact ⟨p, vs, xs, h1, h2, h3, h4, h5, boL_of0 h6 hb⟩
  | fd => obtain ⟨p, vs, xs, h1, h2, h3, h4, h5, h6⟩ := r; exact ⟨p, vs, xs, h1, h2, h3, h4, h5, boL_of0 h6 hb⟩
  | w => exact ⟨r, bo⟩
  | s => exact ⟨r, bo⟩
theorem keB_of {F : Fm} {O : Nat → Option Addr} {e : Env} {σ : L2.St} {H H' : Hp} (S : SR K F O e σ H') (h0 : F.H0 = H) : KeB F H H' := by
  subst h0
  exact ⟨fun a o e n => S.keep a o e n, S.al⟩
theorem body_wish {F : Fm} {O : Nat → Option Addr} {ds : List D} {H : Hp} {Q : VK} {E : XK} {m : DS} {fd' : DF} (h0 : F.H0 = H) (hl : lstsOk ms ds = true)
    (hf : (fl = .s ∧ fd' = mkF N.length ms m) ∨ fd' = mkR N.length ms m)
    (h : match fd' ds with
    | .ok d bs => ∀ v H', KeB F H H' → RoF fl F ms bs H H' v d → Q v H'
    | .ex c fs bs => ∀ cls dd H', KeB F H H' → BoL F.P F.ba H' 0 ms bs → XR K F.P c fs cls dd H' → E cls dd H'
    | .bad => False) :
    Want m (startE ms ds ++ List.replicate (N.length - ms.length) .no) (Post fl K F O H { nx := fun _ H' => Q .non H', rt := Q }) (XWs K F O H (fun cls d _ H => E cls d H)) := by
  have gx : ∀ {c : Str} {fs : List D} {e : Env}, m (startE ms ds ++ List.replicate (N.length - ms.length) .no) = .ex c fs e → (match lentOf ms e with
      | some bs => Rf.ex c fs bs
      | none => .bad) = fd' ds → XWs K F O H (fun cls d _ H => E cls d H) c fs e := fun {c fs e} hm he => by
    cases hb : lentOf ms e with
    | none => rw [hb] at he; rw [← he] at h; exact h.elim
    | some bs =>
      rw [hb] at he
      rw [← he] at h
      exact fun O' σ' cls d H' S k x => h cls d H' (keB_of S h0) (boL_of0 (S.boR rfl fun a z => .inl z) hb) (by
        obtain ⟨x1, x2⟩ := x
        refine ⟨x1, ?_⟩
        cases d with
        | none => exact x2
        | some d => obtain ⟨y0, vs, y1, y2, y3⟩ := x2; exact ⟨fun z => y0 (.inl z), vs, y1, y2, y3.sub fun a z => .inl (.inl z)⟩)
  have gr : ∀ {d : D} {e : Env}, (match lentOf ms e with
      | some bs => Rf.ok d bs
      | none => .bad) = fd' ds → Post fl K F O H { nx := fun _ H' => Q .non H', rt := Q } (.rt d) e := fun {d e} he => by
    cases hb : lentOf ms e with
    | none => rw [hb] at he; rw [← he] at h; exact h.elim
    | some bs =>
      rw [hb] at he
      rw [← he] at h
      exact fun O' σ' H' S k v r => h v H' (keB_of S h0) (fl_end S h0 hb r)
  unfold Want
  rcases hf with ⟨rfl, rfl⟩ | rfl
  · cases hm : m (startE ms ds ++ List.replicate (N.length - ms.length) .no) with
    | bad => unfold mkF at h; simp only [hl, hm] at h; exact h
    | ex c fs e => exact gx hm (by unfold mkF; simp only [hl, hm]; rfl)
    | ok o e => cases o with
      | rt d => exact gr (by unfold mkF; simp only [hl, hm]; rfl)
      | nx =>
        have he : (match lentOf ms e with
          | some bs => Rf.ok .non bs
          | none => .bad) = mkF N.length ms m ds := by unfold mkF; simp only [hl, hm]; rfl
        exact fun O' σ' H' S k => gr he O' σ' H' S k .non .non
      | bk => unfold mkF at h; simp only [hl, hm] at h; exact h.elim
      | ct => unfold mkF at h; simp only [hl, hm] at h; exact h.elim
  · cases hm : m (startE ms ds ++ List.replicate (N.length - ms.length) .no) with
    | bad => unfold mkR at h; simp only [hl, hm] at h; exact h
    | ex c fs e => exact gx hm (by unfold mkR; simp only [hl, hm]; rfl)
    | ok o e => cases o with
      | rt d => exact gr (by unfold mkR; simp only [hl, hm]; rfl)
      | nx => unfold mkR at h; simp only [hl, hm] at h; exact h.elim
      | bk => unfold mkR at h; simp only [hl, hm] at h; exact h.elim
      | ct => unfold mkR at h; simp only [hl, hm] at h; exact h.elim
/-- THE RULE -/
theorem fn_D {m : DS} {fd' : DF} (F : FunD K x qual params body scope dvs kws f fd) (S : FnScope N ps scope) (hps : ps.length = ms.length) (hf : (fl = .s ∧ fd' = mkF N.length ms m) ∨ fd' = mkR N.length ms m) (hb : BodyD P w K mg base N qual scope f k fl body m) :
    FnOk P w K mg base (L2.CX P w) (k + 1) f fd ps (spD fl K N ms fd') := by
  refine F.ok S (fun vs H Q E h => by rw [hps]; exact h.1) (fun cdv A outer s H vs Q E hr h => ?_)
  obtain ⟨hl, ds, F, O, SS, h0, hls, h⟩ := h
  obtain ⟨t, pt, qt⟩ := hb (cxD P w K mg base N qual scope f cdv A outer s H E) (fun cls d _ H => E cls d H) rfl rfl rfl rfl rfl rfl rfl rfl hr (takes_of (E₁ := fun e' s'' => L2.CX P w outer H s E e' s'') rfl rfl rfl rfl) (passes_of (K := fun e s'' => L2.CX P w outer H s E e s'') (E₁ := fun e' s'' => L2.CX P w outer H s E e' s'') rfl) (fun _ => rfl)
  exact ⟨t, pt, qt F O _ (start N vs) H _ SS (body_wish (O := O) h0 hls hf h)⟩
/-- nothing is promised -/
theorem fn_bad {k : Nat} (hps : ps.length = ms.length) : FnOk P w K mg base (L2.CX P w) k f fd ps (spD fl K N ms fun _ => .bad) :=
  ⟨fun vs H Q E h => by rw [hps]; exact h.1, fun A outer s H args us vs Q E hr he hb hv h => by
    obtain ⟨_, _, _, _, _, _, _, h⟩ := h
    exact h.elim⟩
end
end AH
namespace AH
open PySem PySem.Spec PyProof.Rows L2
variable [TheK]
/-! ### arguments -/
/-- more is kept apart: new objects -/
structure FX (F F1 : Fm) (H : Hp) : Prop where
  ba : F1.ba = F.ba
  h0 : F1.H0 = F.H0
  p : ∀ a, F.P a → F1.P a
  n : ∀ a, F.N a → F1.N a
  pn : ∀ a, F1.P a → F.P a ∨ H a = none
  nn : ∀ a, F1.N a → F.N a ∨ H a = none
theorem FX.refl {F : Fm} {H : Hp} : FX F F H := ⟨rfl, rfl, fun _ z => z, fun _ z => z, fun _ z => .inl z, fun _ z => .inl z⟩
theorem FX.ad {F : Fm} {H : Hp} {p : Addr} (h : H p = none) : FX F (F.ad p) H := ⟨rfl, rfl, fun _ z => .inl z, fun _ z => .inl z, fun a z => z.elim .inl fun z => .inr (z ▸ h), fun a z => z.elim .inl fun z => .inr (z ▸ h)⟩
theorem none_back {H H1 : Hp} {a : Addr} (k : ∀ a, H a ≠ none → H1 a ≠ none) (h : H1 a = none) : H a = none := by
  cases q : H a with
  | none => rfl
  | some o => exact absurd h (k a (by rw [q]; simp))
theorem FX.trans {F F1 F2 : Fm} {H H1 : Hp} (x : FX F F1 H) (y : FX F1 F2 H1) (k : ∀ a, H a ≠ none → H1 a ≠ none) : FX F F2 H :=
  ⟨y.ba.trans x.ba, y.h0.trans x.h0, fun a z => y.p a (x.p a z), fun a z => y.n a (x.n a z), fun a z => (y.pn a z).elim (x.pn a) fun z => .inr (none_back k z), fun a z => (y.nn a z).elim (x.nn a) fun z => .inr (none_back k z)⟩
theorem FX.ow {F F1 : Fm} {H : Hp} {O : Nat → Option Addr} (x : FX F F1 H) : ∀ a, Ow F O a → Ow F1 O a := fun a z => z.elim (fun z => .inl (x.p a z)) .inr
theorem SR.down {K : PySem.W.Frag} {F F1 : Fm} {O : Nat → Option Addr} {env : Env} {σ : L2.St} {H H0 : Hp} (S : SR K F1 O env σ H) (x : FX F F1 H0) : SR K F O env σ H := by
  refine ⟨fun i => SlR.sub (F := F1) (F' := F) x.ba.symm x.h0.symm (fun a z => .inl (x.p a z)) (fun a z => .inl (x.n a z)) (S.slot i), S.inj, fun a z => S.prot a (x.ow a z), fun a o e n => S.keep a o (by rw [x.h0]; exact e) (by
    rintro ⟨i, z⟩
    exact n ⟨i, by rw [← x.ba]; exact z⟩), fun a z => S.al a (by rw [x.h0]; exact z), S.len, fun a z => S.nal a (x.n a z), fun a xs z => S.pt a xs (x.p a z)⟩
/-- a new object of the later heap -/
theorem SR.adAt {K : PySem.W.Frag} {F : Fm} {O : Nat → Option Addr} {env : Env} {σ : L2.St} {H H' : Hp} {p : Addr} (S : SR K F O env σ H) (k : ∀ a o, H a = some o → H' a = some o) (h : H p = none) (h' : H' p ≠ none) (ht : ∀ xs, H' p ≠ some (.tup xs)) : SR K (F.ad p) O env σ H' := by
  have S1 := S.ext k
  refine ⟨fun i => SlR.ext k (SlR.sub (F := F) (F' := F.ad p) rfl rfl (fun a z => z.elim .inl fun z => .inr (z ▸ h)) (fun a z => z.elim .inl fun z => .inr (z ▸ h)) (S.slot i)), S.inj, fun a z => ?_, S1.keep, S1.al, S.len, fun a z => z.elim (S1.nal a) fun z => by rw [z]; exact h', fun a xs z => z.elim (S1.pt a xs) fun z => by rw [z]; exact ht xs⟩
  rcases z with (z | rfl) | z
  · exact S1.prot a (.inl z)
  · exact h'
  · exact S1.prot a (.inr z)
/-- an object kept apart that no slot owns is changed -/
theorem SR.updQ {K : PySem.W.Frag} {F : Fm} {O : Nat → Option Addr} {env : Env} {σ : L2.St} {H : Hp} {p : Addr} {o : HO} (S : SR K F O env σ H) (hP : F.P p) (hN : F.N p) (nj : ¬ Jo O p) (h0 : F.H0 p = none) (ho : ∀ xs, o ≠ .tup xs := by intro _ z; cases z) : SR K F O env σ (upd H p o) := by
  have e : F = (F.ad p) := by
    obtain ⟨P, N, H0, ba⟩ := F
    show Fm.mk P N H0 ba = Fm.mk (fun a => P a ∨ a = p) (fun a => N a ∨ a = p) H0 ba
    have e1 : P = fun a => P a ∨ a = p := funext fun a => propext ⟨.inl, fun z => z.elim id fun z => by rw [z]; exact hP⟩
    have e2 : N = fun a => N a ∨ a = p := funext fun a => propext ⟨.inl, fun z => z.elim id fun z => by rw [z]; exact hN⟩
    rw [← e1, ← e2]
  have S' : SR K (F.ad p) O env σ H := by rw [← e]; exact S
  rw [e]
  exact S'.updP nj h0 ho
/-- the arguments' values, the new lists among them -/
inductive AR (F : Fm) (O : Nat → Option Addr) (σ : L2.St) (H : Hp) : List Md → List Arg → List (D ⊕ Nat) → List V → List Addr → Prop
  | nil : AR F O σ H [] [] [] [] []
  | val {ms : List Md} {as : List Arg} {xs : List (D ⊕ Nat)} {vs : List V} {ps : List Addr} {a : DE} {v : V} {d : D} : Rep (Ow F O) H v d → AR F O σ H ms as xs vs ps → AR F O σ H (.val :: ms) (.e a :: as) (.inl d :: xs) (v :: vs) ps
  | rov {ms : List Md} {as : List Arg} {xs : List (D ⊕ Nat)} {vs : List V} {ps : List Addr} {a : DE} {v : V} {d : D} : Rep (Ow F O) H v d → AR F O σ H ms as xs vs ps → AR F O σ H (.ro :: ms) (.e a :: as) (.inl d :: xs) (v :: vs) ps
  | look {ms : List Md} {as : List Arg} {xs : List (D ⊕ Nat)} {vs : List V} {ps : List Addr} {i : Nat} {v : V} : get1 σ i = some v → AR F O σ H ms as xs vs ps → AR F O σ H (.ro :: ms) (.look i :: as) (.inr i :: xs) (v :: vs) ps
  | lend {ms : List Md} {as : List Arg} {xs : List (D ⊕ Nat)} {vs : List V} {ps : List Addr} {i : Nat} {v : V} : get1 σ i = some v → AR F O σ H ms as xs vs ps → AR F O σ H (.bor :: ms) (.lend i :: as) (.inr i :: xs) (v :: vs) ps
  | new {ms : List Md} {as : List Arg} {xs : List (D ⊕ Nat)} {vs : List V} {ps : List Addr} {a : DE} {p : Addr} {us : List V} {ys : List D} : F.P p → F.N p → ¬ Jo O p → F.H0 p = none → p ∉ ps → H p = some (.lst us) → RepL (Ow F O) H us ys → AR F O σ H ms as xs vs ps → AR F O σ H (.bor :: ms) (.new a :: as) (.inl (.lst ys) :: xs) (.ref p :: vs) (p :: ps)
def ArgsD (X : Cx) (Wx : WX) (es : List Expr) (ms : List Md) (as : List Arg) : Prop := ∃ t : TA, PA X es t ∧ ∀ (F : Fm) (O : Nat → Option Addr) (env : Env) (σ : L2.St) (H : Hp) (Q : List V → Hp → Prop), SR X.K F O env σ H →
  Want (argsV as) env (fun xs e1 => ∀ vs F1 H1 ps, FX F F1 H → SR X.K F1 O e1 σ H1 → Ke (Jo O) H H1 → AR F1 O σ H1 ms as xs vs ps → (∀ q ∈ ps, H q = none) → Q vs H1) (XW X.K F O σ H Wx) → t σ H Q
theorem XR.sub {K : PySem.W.Frag} {W W' : Pr} {c : Str} {fs : List D} {cls : Value} {dd : Option Addr} {H : Hp} (h : ∀ a, W' a → W a) (x : XR K W c fs cls dd H) : XR K W' c fs cls dd H := by
  obtain ⟨x1, x2⟩ := x
  refine ⟨x1, ?_⟩
  cases dd with
  | none => exact x2
  | some d => obtain ⟨y0, vs, y1, y2, y3⟩ := x2; exact ⟨fun z => y0 (h d z), vs, y1, y2, y3.sub fun a z => .inl (h a z)⟩
theorem XW.fx {K : PySem.W.Frag} {F F1 : Fm} {O : Nat → Option Addr} {σ : L2.St} {H H1 : Hp} {Wx : WX} (x : FX F F1 H) (k : Ke (Jo O) H H1) : ∀ c fs e, XW K F O σ H Wx c fs e → XW K F1 O σ H1 Wx c fs e :=
  fun _ _ _ h cls d H' S k1 r => h cls d H' (S.down x) (k.trans k1) (r.sub x.ow)
section
variable {X : Cx} {Wx : WX} {e : Expr} {es : List Expr} {ms : List Md} {as : List Arg} {ma : DE} {p : Pos}
theorem ga_nil : ArgsD X Wx [] [] [] := ⟨_, pa_nil, fun F O env σ H Q S w => w [] F H [] .refl S .refl .nil (fun _ h => by cases h)⟩
theorem ga_val (ha : PD .s X Wx e ma) (hr : ArgsD X Wx es ms as) (hs : starEach (e :: es) X.env = (false, eval e X.env) :: starEach es X.env := by rfl) : ArgsD X Wx (e :: es) (.val :: ms) (.e ma :: as) := by
  obtain ⟨ta, pa, qa⟩ := ha
  obtain ⟨tr, pr, qr⟩ := hr
  refine ⟨_, pa_cons pa pr hs, fun F O env σ H Q S w => qa F O env σ H _ S ((Want.bind (m := ma) w).imp (fun d e1 w1 v H1 S1 k1 r1 => ?_) fun _ _ _ z => z)⟩
  refine qr F O e1 σ H1 _ S1 ((Want.bind w1).imp (fun xs e2 w2 vs F1 H2 ps x S2 k2 ar hq => ?_) (XW.later k1))
  exact w2 (v :: vs) F1 H2 ps (FX.refl.trans x k1.there) S2 (k1.trans k2) (.val (r1.ke k2.ow fun a z => z.elim (fun z => (x.pn a z).elim (fun z => .inl (.inl z)) .inr) fun z => .inl (.inr z)) ar) fun q h => none_back k1.there (hq q h)
theorem ga_rov (ha : PD .s X Wx e ma) (hr : ArgsD X Wx es ms as) (hs : starEach (e :: es) X.env = (false, eval e X.env) :: starEach es X.env := by rfl) : ArgsD X Wx (e :: es) (.ro :: ms) (.e ma :: as) := by
  obtain ⟨ta, pa, qa⟩ := ha
  obtain ⟨tr, pr, qr⟩ := hr
  refine ⟨_, pa_cons pa pr hs, fun F O env σ H Q S w => qa F O env σ H _ S ((Want.bind (m := ma) w).imp (fun d e1 w1 v H1 S1 k1 r1 => ?_) fun _ _ _ z => z)⟩
  refine qr F O e1 σ H1 _ S1 ((Want.bind w1).imp (fun xs e2 w2 vs F1 H2 ps x S2 k2 ar hq => ?_) (XW.later k1))
  exact w2 (v :: vs) F1 H2 ps (FX.refl.trans x k1.there) S2 (k1.trans k2) (.rov (r1.ke k2.ow fun a z => z.elim (fun z => (x.pn a z).elim (fun z => .inl (.inl z)) .inr) fun z => .inl (.inr z)) ar) fun q h => none_back k1.there (hq q h)
theorem ga_look {i : Nat} {x : Str} (hN : X.N[i]? = some x) (hv : Vis X.env.scope x) (hr : ArgsD X Wx es ms as) (hs : starEach (.Name x p :: es) X.env = (false, eval (.Name x p) X.env) :: starEach es X.env := by rfl)
    (hd : (x == ("__debug__" : Str)) = false := by decide) (hcd : (x == ("__classdict__" : Str)) = false := by decide) : ArgsD X Wx (.Name x p :: es) (.ro :: ms) (.look i :: as) := by
  obtain ⟨tr, pr, qr⟩ := hr
  refine ⟨_, pa_cons (pe_var hN hv hd hcd) pr hs, fun F O env σ H Q S w => ?_⟩
  obtain ⟨v, d, e, r, w⟩ := (Want.bind w).tmp S
  refine ⟨v, get1_some e, qr F O env σ H _ S ((Want.bind w).imp (fun xs e2 w2 vs F1 H2 ps x S2 k2 ar hq => ?_) fun _ _ _ z => z)⟩
  exact w2 (v :: vs) F1 H2 ps x S2 k2 (.look e ar) hq
theorem ga_lend {i : Nat} {x : Str} (hN : X.N[i]? = some x) (hv : Vis X.env.scope x) (hr : ArgsD X Wx es ms as) (hs : starEach (.Name x p :: es) X.env = (false, eval (.Name x p) X.env) :: starEach es X.env := by rfl)
    (hd : (x == ("__debug__" : Str)) = false := by decide) (hcd : (x == ("__classdict__" : Str)) = false := by decide) : ArgsD X Wx (.Name x p :: es) (.bor :: ms) (.lend i :: as) := by
  obtain ⟨tr, pr, qr⟩ := hr
  refine ⟨_, pa_cons (pe_var hN hv hd hcd) pr hs, fun F O env σ H Q S w => ?_⟩
  obtain ⟨v, d, e, r, w⟩ := (Want.bind w).tmp S
  refine ⟨v, get1_some e, qr F O env σ H _ S ((Want.bind w).imp (fun xs e2 w2 vs F1 H2 ps x S2 k2 ar hq => ?_) fun _ _ _ z => z)⟩
  exact w2 (v :: vs) F1 H2 ps x S2 k2 (.lend e ar) hq
theorem ga_new (ha : PD .f X Wx e ma) (hr : ArgsD X Wx es ms as) (hs : starEach (e :: es) X.env = (false, eval e X.env) :: starEach es X.env := by rfl) : ArgsD X Wx (e :: es) (.bor :: ms) (.new ma :: as) := by
  obtain ⟨ta, pa, qa⟩ := ha
  obtain ⟨tr, pr, qr⟩ := hr
  refine ⟨_, pa_cons pa pr hs, fun F O env σ H Q S w => qa F O env σ H _ S ((Want.bind (m := ma) w).imp (fun d e1 w1 v H1 S1 k1 r1 => ?_) fun _ _ _ z => z)⟩
  obtain ⟨p, us, ys, rfl, rfl, hp, hp', l, S1'⟩ := r1
  have x1 : FX F (F.ad p) H := FX.ad hp
  refine qr (F.ad p) O e1 σ H1 _ S1' ((Want.bind w1).imp (fun xs e2 w2 vs F1 H2 ps x S2 k2 ar hq => ?_) (XW.fx x1 k1))
  have nj : ¬ Jo O p := fun z => S.prot p (.inr z) hp
  exact w2 (.ref p :: vs) F1 H2 (p :: ps) (x1.trans x k1.there) S2 (k1.trans k2)
    (.new (x.p p (.inr rfl)) (x.n p (.inr rfl)) nj (by rw [x.h0]; exact al_none S.al hp) (fun z => by have := hq p z; rw [hp'] at this; cases this) (k2.stay _ _ nj hp') (l.ke k2.ow fun a z => z.elim (fun z => (x.pn a z).elim (fun z => .inl (.inl z)) .inr) fun z => .inl (.inr z)) ar)
    fun q h => by
      rcases List.mem_cons.mp h with rfl | h
      · exact hp
      · exact none_back k1.there (hq q h)
end
/-! ### the callee's frame -/
def ba0 : Md → V → Option Addr
  | .bor, .ref a => some a
  | _, _ => none
def baL : List Md → List V → Nat → Option Addr
  | m :: _, v :: _, 0 => ba0 m v
  | _ :: ms, _ :: vs, j + 1 => baL ms vs j
  | _, _, _ => none
section
variable {K : PySem.W.Frag} {F : Fm} {O : Nat → Option Addr} {σ : L2.St} {H : Hp} {e1 : Env}
theorem AR.len {ms : List Md} {as : List Arg} {xs : List (D ⊕ Nat)} {vs : List V} {ps : List Addr} (ar : AR F O σ H ms as xs vs ps) : vs.length = ms.length := by
  induction ar with
  | nil => rfl
  | val _ _ ih => simp [ih]
  | rov _ _ ih => simp [ih]
  | look _ _ ih => simp [ih]
  | lend _ _ ih => simp [ih]
  | new _ _ _ _ _ _ _ _ ih => simp [ih]
/-- an own list's value -/
theorem SR.ownV (S : SR K F O e1 σ H) {i : Nat} {v : V} (h : isL (sl e1 i) = true) (e : get1 σ i = some v) : ∃ a vs xs, v = .ref a ∧ O i = some a ∧ H a = some (.lst vs) ∧ RepL (Ow F O) H vs xs ∧ argD e1 (.inr i) = some (.lst xs) := by
  have s := S.slot i
  cases q : sl e1 i with
  | own xs => rw [q] at s; obtain ⟨a, vs, h1, h0, h2, h3, r⟩ := s; rw [h2] at e; cases e; exact ⟨a, vs, xs, rfl, h1, h3, r, by show slD (sl e1 i) = _; rw [q]; rfl⟩
  | bor xs => rw [q] at s; obtain ⟨a, vs, h1, h0, h2, h3, r⟩ := s; rw [h2] at e; cases e; exact ⟨a, vs, xs, rfl, h1, h3, r, by show slD (sl e1 i) = _; rw [q]; rfl⟩
  | _ => rw [q] at h; cases h
/-- whom a lent list belongs to -/
theorem ba_who (S : SR K F O e1 σ H) {ms : List Md} {as : List Arg} {xs : List (D ⊕ Nat)} {vs : List V} {ps : List Addr} (ar : AR F O σ H ms as xs vs ps) :
    (∀ i ∈ lends as, isL (sl e1 i) = true) → ∀ j a, baL ms vs j = some a → (∃ i ∈ lends as, O i = some a) ∨ a ∈ ps := by
  induction ar with
  | nil => intro _ j a h; cases j <;> cases h
  | val r ar ih => intro hl j a h; cases j with
    | zero => cases h
    | succ j => exact ih hl j a h
  | rov r ar ih => intro hl j a h; cases j with
    | zero => cases h
    | succ j => exact ih hl j a h
  | look r ar ih => intro hl j a h; cases j with
    | zero => cases h
    | succ j => exact ih hl j a h
  | @lend ms as xs vs ps i v r ar ih => intro hl j a h; cases j with
    | zero =>
      obtain ⟨b, us, ys, rfl, hO, _⟩ := S.ownV (hl i List.mem_cons_self) r
      cases h
      exact .inl ⟨i, List.mem_cons_self, hO⟩
    | succ j =>
      rcases ih (fun i hi => hl i (List.mem_cons_of_mem _ hi)) j a h with ⟨i, hi, z⟩ | z
      · exact .inl ⟨i, List.mem_cons_of_mem _ hi, z⟩
      · exact .inr z
  | new h1 h2 h3 h4 h5 h6 h7 ar ih => intro hl j a h; cases j with
    | zero => cases h; exact .inr List.mem_cons_self
    | succ j =>
      rcases ih hl j a h with z | z
      · exact .inl z
      · exact .inr (List.mem_cons_of_mem _ z)
theorem AR.ps {ms : List Md} {as : List Arg} {xs : List (D ⊕ Nat)} {vs : List V} {ps : List Addr} (ar : AR F O σ H ms as xs vs ps) : ∀ p ∈ ps, F.P p ∧ F.N p ∧ ¬ Jo O p := by
  induction ar with
  | nil => intro p h; cases h
  | val r ar ih => exact ih
  | rov r ar ih => exact ih
  | look r ar ih => exact ih
  | lend r ar ih => exact ih
  | new h1 h2 h3 h4 h5 h6 h7 ar ih =>
    intro p h
    rcases List.mem_cons.mp h with rfl | h
    · exact ⟨h1, h2, h3⟩
    · exact ih p h
theorem ba_inj (S : SR K F O e1 σ H) {ms : List Md} {as : List Arg} {xs : List (D ⊕ Nat)} {vs : List V} {ps : List Addr} (ar : AR F O σ H ms as xs vs ps) :
    (∀ i ∈ lends as, isL (sl e1 i) = true) → (lends as).Nodup → ∀ k j a, baL ms vs k = some a → baL ms vs j = some a → k = j := by
  induction ar with
  | nil => intro _ _ k j a h; cases k <;> cases h
  | val r ar ih => intro hl hn k j a h1 h2; cases k with
    | zero => cases h1
    | succ k => cases j with
      | zero => cases h2
      | succ j => rw [ih hl hn k j a h1 h2]
  | rov r ar ih => intro hl hn k j a h1 h2; cases k with
    | zero => cases h1
    | succ k => cases j with
      | zero => cases h2
      | succ j => rw [ih hl hn k j a h1 h2]
  | look r ar ih => intro hl hn k j a h1 h2; cases k with
    | zero => cases h1
    | succ k => cases j with
      | zero => cases h2
      | succ j => rw [ih hl hn k j a h1 h2]
  | @lend ms as xs vs ps i v r ar ih =>
    intro hl hn k j a h1 h2
    have hl' : ∀ i ∈ lends as, isL (sl e1 i) = true := fun i hi => hl i (List.mem_cons_of_mem _ hi)
    obtain ⟨hni, hn'⟩ := List.nodup_cons.mp hn
    obtain ⟨b, us, ys, rfl, hO, _⟩ := S.ownV (hl i List.mem_cons_self) r
    have no : ∀ j, baL ms vs j = some b → False := fun j h => by
      rcases ba_who S ar hl' j b h with ⟨i', hi', z⟩ | z
      · exact hni (S.inj i' i b z hO ▸ hi')
      · exact (ar.ps b z).2.2 ⟨i, hO⟩
    cases k with
    | zero => cases j with
      | zero => rfl
      | succ j => cases h1; exact (no j h2).elim
    | succ k => cases j with
      | zero => cases h2; exact (no k h1).elim
      | succ j => rw [ih hl' hn' k j a h1 h2]
  | @new ms as xs vs ps a0 p us ys g1 g2 g3 g4 g5 g6 g7 ar ih =>
    intro hl hn k j a h1 h2
    have no : ∀ j, baL ms vs j = some p → False := fun j h => by
      rcases ba_who S ar hl j p h with ⟨i', hi', z⟩ | z
      · exact g3 ⟨i', z⟩
      · exact g5 z
    cases k with
    | zero => cases j with
      | zero => rfl
      | succ j => cases h1; exact (no j h2).elim
    | succ k => cases j with
      | zero => cases h2; exact (no k h1).elim
      | succ j => rw [ih hl hn k j a h1 h2]
/-- looked at by the callee -/
theorem SR.lookV (S : SR K F O e1 σ H) {i : Nat} {v : V} {d : D} (e : get1 σ i = some v) (hd : argD e1 (.inr i) = some d) {Fc : Fm} {Oc : Nat → Option Addr} (hP : ∀ a, Ow Fc Oc a → Ow F O a) (hN : ∀ a, Jo Oc a ∨ Fc.N a → Jo O a ∨ F.N a) (hi : ∀ a, O i = some a → ¬ (Jo Oc a ∨ Fc.N a)) : RoR K Fc Oc H v d := by
  have s := S.slot i
  have hd : slD (sl e1 i) = some d := hd
  cases q : sl e1 i with
  | no => rw [q] at hd; cases hd
  | val d => rw [q] at hd s; cases hd; obtain ⟨h1, v', h2, r⟩ := s; rw [h2] at e; cases e; exact .of (r.sub fun a z => .inl (hP a z))
  | ro d => rw [q] at hd s; cases hd; obtain ⟨h1, v', h2, r⟩ := s; rw [h2] at e; cases e; exact r.go Ke.refl (fun a z => .inl (hP a z)) fun a z => .inl (hN a z)
  | own xs => rw [q] at hd s; cases hd; obtain ⟨a, vs, h1, h0, h2, h3, r⟩ := s; rw [h2] at e; cases e; exact .lst (hi a h1) (.inl h3) (r.sub fun a z => .inl (hP a z))
  | bor xs => rw [q] at hd s; cases hd; obtain ⟨a, vs, h1, h0, h2, h3, r⟩ := s; rw [h2] at e; cases e; exact .lst (hi a h1) (.inl h3) (r.sub fun a z => .inl (hP a z))
  | odc kvs => rw [q] at hd s; cases hd; obtain ⟨a, vs, h1, h0, h2, h3, r⟩ := s; rw [h2] at e; cases e; exact .dic (hi a h1) (.inl h3) (r.sub fun a z => .inl (hP a z))
  | ldc kvs => rw [q] at hd s; cases hd; obtain ⟨h1, a, vs, o, h0, h2, h3, r⟩ := s; rw [h2] at e; cases e; exact .dic (fun z => h0 (hN a z)) (.inr ⟨o, h3⟩) (r.sub fun a z => .inl (hP a z))
theorem call_slots (S : SR K F O e1 σ H) {Fc : Fm} {Oc : Nat → Option Addr} (hP : ∀ a, Ow Fc Oc a → Ow F O a) (hN : ∀ a, Jo Oc a ∨ Fc.N a → Jo O a ∨ F.N a) {ms : List Md} {as : List Arg} {xs : List (D ⊕ Nat)} {vs : List V} {ps : List Addr} (ar : AR F O σ H ms as xs vs ps) :
    ∀ {ds : List D} (i : Nat), (∀ i ∈ lends as, isL (sl e1 i) = true) → (∀ i ∈ looks as, ∀ a, O i = some a → ¬ (Jo Oc a ∨ Fc.N a)) → argsD e1 xs = some ds → (∀ j, Oc (i + j) = baL ms vs j) → (∀ j, Fc.ba (i + j) = baL ms vs j) →
      lstsOk ms ds = true ∧ (startE ms ds).length = ms.length ∧ ∀ j, j < ms.length → SlR K Fc Oc H (i + j) (vs[j]?) (sl (startE ms ds) j) := by
  have cut : ∀ {x : D ⊕ Nat} {xs : List (D ⊕ Nat)} {ds : List D}, argsD e1 (x :: xs) = some ds → ∃ d ds', argD e1 x = some d ∧ argsD e1 xs = some ds' ∧ ds = d :: ds' := fun {x xs ds} h => by
    unfold argsD at h
    cases q1 : argD e1 x with
    | none => rw [q1] at h; cases h
    | some d => cases q2 : argsD e1 xs with
      | none => rw [q1, q2] at h; cases h
      | some ds' => rw [q1, q2] at h; cases h; exact ⟨d, ds', rfl, rfl, rfl⟩
  have nx : ∀ {f : Nat → Option Addr} {i : Nat} {m : Md} {ms : List Md} {v : V} {vs : List V}, (∀ j, f (i + j) = baL (m :: ms) (v :: vs) j) → ∀ j, f (i + 1 + j) = baL ms vs j := fun h j => by
    have := h (j + 1)
    rw [show ∀ i, i + (j + 1) = i + 1 + j from fun i => by omega] at this
    exact this
  induction ar with
  | nil => intro ds i _ _ h _ _; cases h; exact ⟨rfl, rfl, fun j hj => absurd hj (Nat.not_lt_zero _)⟩
  | val r ar ih =>
    intro ds i hl hk h hO hB
    obtain ⟨d', ds', h1, h2, rfl⟩ := cut h
    cases h1
    obtain ⟨g1, g2, g3⟩ := ih (i + 1) hl hk h2 (nx hO) (nx hB)
    refine ⟨g1, by simp [startE, g2], fun j hj => ?_⟩
    cases j with
    | zero => exact ⟨hO 0, _, rfl, r.sub fun a z => .inl (hP a z)⟩
    | succ j => rw [show i + (j + 1) = i + 1 + j by omega]; exact g3 j (Nat.lt_of_succ_lt_succ hj)
  | rov r ar ih =>
    intro ds i hl hk h hO hB
    obtain ⟨d', ds', h1, h2, rfl⟩ := cut h
    cases h1
    obtain ⟨g1, g2, g3⟩ := ih (i + 1) hl hk h2 (nx hO) (nx hB)
    refine ⟨g1, by simp [startE, g2], fun j hj => ?_⟩
    cases j with
    | zero => exact ⟨hO 0, _, rfl, .of (r.sub fun a z => .inl (hP a z))⟩
    | succ j => rw [show i + (j + 1) = i + 1 + j by omega]; exact g3 j (Nat.lt_of_succ_lt_succ hj)
  | @look ms as xs vs ps i0 v r ar ih =>
    intro ds i hl hk h hO hB
    obtain ⟨d', ds', h1, h2, rfl⟩ := cut h
    obtain ⟨g1, g2, g3⟩ := ih (i + 1) hl (fun i hi => hk i (List.mem_cons_of_mem _ hi)) h2 (nx hO) (nx hB)
    refine ⟨g1, by simp [startE, g2], fun j hj => ?_⟩
    cases j with
    | zero => exact ⟨hO 0, _, rfl, S.lookV r h1 hP hN (hk i0 List.mem_cons_self)⟩
    | succ j => rw [show i + (j + 1) = i + 1 + j by omega]; exact g3 j (Nat.lt_of_succ_lt_succ hj)
  | @lend ms as xs vs ps i0 v r ar ih =>
    intro ds i hl hk h hO hB
    obtain ⟨d', ds', h1, h2, rfl⟩ := cut h
    obtain ⟨g1, g2, g3⟩ := ih (i + 1) (fun i hi => hl i (List.mem_cons_of_mem _ hi)) hk h2 (nx hO) (nx hB)
    obtain ⟨a, us, ys, rfl, hO', hH, l, e⟩ := S.ownV (hl i0 List.mem_cons_self) r
    rw [e] at h1
    cases h1
    refine ⟨g1, by simp [startE, g2], fun j hj => ?_⟩
    cases j with
    | zero => exact ⟨a, us, hO 0, hB 0, rfl, hH, l.sub fun a z => .inl (hP a z)⟩
    | succ j => rw [show i + (j + 1) = i + 1 + j by omega]; exact g3 j (Nat.lt_of_succ_lt_succ hj)
  | @new ms as xs vs ps a0 p us ys q1 q2 q3 q4 q5 q6 q7 ar ih =>
    intro ds i hl hk h hO hB
    obtain ⟨d', ds', h1, h2, rfl⟩ := cut h
    cases h1
    obtain ⟨g1, g2, g3⟩ := ih (i + 1) hl hk h2 (nx hO) (nx hB)
    refine ⟨g1, by simp [startE, g2], fun j hj => ?_⟩
    cases j with
    | zero => exact ⟨p, us, hO 0, hB 0, rfl, q6, q7.sub fun a z => .inl (hP a z)⟩
    | succ j => rw [show i + (j + 1) = i + 1 + j by omega]; exact g3 j (Nat.lt_of_succ_lt_succ hj)
end
end AH
namespace AH
open PySem PySem.Spec PyProof.Rows L2
variable [TheK]
theorem sl_app : ∀ (e e' : Env) (j : Nat), j < e.length → sl (e ++ e') j = sl e j
  | [], _, _, h => absurd h (Nat.not_lt_zero _)
  | _ :: _, _, 0, _ => rfl
  | _ :: e, e', j + 1, h => sl_app e e' j (Nat.lt_of_succ_lt_succ h)
theorem sl_rep_no : ∀ n j : Nat, sl (List.replicate n .no) j = .no
  | 0, _ => rfl
  | _ + 1, 0 => rfl
  | n + 1, j + 1 => sl_rep_no n j
theorem sl_app_no : ∀ (e : Env) (n j : Nat), e.length ≤ j → sl (e ++ List.replicate n .no) j = .no
  | [], n, j, _ => sl_rep_no n j
  | _ :: _, _, 0, h => absurd h (Nat.not_succ_le_zero _)
  | _ :: e, n, j + 1, h => sl_app_no e n j (Nat.le_of_succ_le_succ h)
theorem baL_out : ∀ (ms : List Md) (vs : List V) (j : Nat), ms.length ≤ j → baL ms vs j = none
  | [], _, j, _ => by cases j <;> rfl
  | _ :: _, [], j, _ => by cases j <;> rfl
  | _ :: _, _ :: _, 0, h => absurd h (Nat.not_succ_le_zero _)
  | _ :: ms, _ :: vs, j + 1, h => baL_out ms vs j (Nat.le_of_succ_le_succ h)
section
variable {K : PySem.W.Frag} {F : Fm} {O : Nat → Option Addr} {σ : L2.St} {H H1 H' : Hp} {e0 e1 : Env}
theorem putL_sl (e : Env) (i j : Nat) (xs : List D) (h : isL (sl e j) = true) : isL (sl (putL e i xs) j) = true := by
  unfold putL
  by_cases hj : j = i
  · subst hj
    have hl : j < e.length := Nat.lt_of_not_le fun z => by rw [sl_out _ _ z] at h; cases h
    rw [sl_put_same _ _ _ hl]
    cases q : sl e j with
    | own ys => rfl
    | bor ys => rfl
    | _ => rw [q] at h; cases h
  · rw [sl_put_ne _ _ _ _ hj]; exact h
theorem isL_or {s : Sl} (h : isL s = true) : ∃ xs, s = .own xs ∨ s = .bor xs := by
  cases s with
  | own xs => exact ⟨xs, .inl rfl⟩
  | bor xs => exact ⟨xs, .inr rfl⟩
  | _ => cases h
/-- the lent lists come back -/
theorem give_back {Z : Pr} {ba : Nat → Option Addr} (hZ : ∀ a, Ow F O a → Z a) {F1 : Fm} {H1 : Hp} (fx : ∀ a, F1.P a → F.P a) (fn : ∀ a, F1.N a → F.N a) (f0 : F1.H0 = F.H0) {ms : List Md} {as : List Arg} {xs : List (D ⊕ Nat)} {vs : List V} {ps : List Addr} (ar : AR F1 O σ H1 ms as xs vs ps) :
    ∀ {bs : List (List D)} {e e2 : Env} {Hm : Hp} (i : Nat), (∀ i ∈ lends as, isL (sl e i) = true) → giveBack as bs e = some e2 → BoL Z ba H' i ms bs → (∀ j, ba (i + j) = baL ms vs j) → SR K F O e σ Hm → (∀ a, (∀ j, baL ms vs j ≠ some a) → Hm a = H' a) → (∀ a, H' a ≠ none → Hm a ≠ none) → (∀ j a, baL ms vs j = some a → Z a) → SR K F O e2 σ H' := by
  have nx : ∀ {f : Nat → Option Addr} {i : Nat} {m : Md} {ms : List Md} {v : V} {vs : List V}, (∀ j, f (i + j) = baL (m :: ms) (v :: vs) j) → ∀ j, f (i + 1 + j) = baL ms vs j := fun h j => by
    have := h (j + 1)
    rw [show ∀ i, i + (j + 1) = i + 1 + j from fun i => by omega] at this
    exact this
  have skip : ∀ {m : Md} {ms : List Md} {v : V} {vs : List V} {a : Addr}, ba0 m v = none → (∀ j, baL ms vs j ≠ some a) → ∀ j, baL (m :: ms) (v :: vs) j ≠ some a := fun h0 h j => by
    cases j with
    | zero => show ba0 _ _ ≠ _; rw [h0]; simp
    | succ j => exact h j
  induction ar with
  | nil =>
    intro bs e e2 Hm i hl hg hb hB S hm _ _
    cases bs with
    | nil =>
      cases hg
      have : Hm = H' := funext fun a => hm a fun j => by cases j <;> simp [baL]
      rw [← this]
      exact S
    | cons b bs => cases hg
  | val r ar ih => intro bs e e2 Hm i hl hg hb hB S hm ht hz; exact ih (i + 1) hl hg hb (nx hB) S (fun a h => hm a (skip rfl h)) ht fun j => hz (j + 1)
  | rov r ar ih => intro bs e e2 Hm i hl hg hb hB S hm ht hz; exact ih (i + 1) hl hg hb (nx hB) S (fun a h => hm a (skip rfl h)) ht fun j => hz (j + 1)
  | look r ar ih => intro bs e e2 Hm i hl hg hb hB S hm ht hz; exact ih (i + 1) hl hg hb (nx hB) S (fun a h => hm a (skip rfl h)) ht fun j => hz (j + 1)
  | @lend ms as xs vs ps i0 v r ar ih =>
    intro bs e e2 Hm i hl hg hb hB S hm ht hz
    cases bs with
    | nil => cases hg
    | cons b bs =>
      obtain ⟨⟨a, us, hba, hH, l⟩, hb⟩ := hb
      obtain ⟨ys, hy⟩ := isL_or (hl i0 List.mem_cons_self)
      obtain ⟨a', vs', hO, hbo, hgt, hHm, l', fin⟩ := S.ownAt hy
      rw [r] at hgt
      cases hgt
      have ea : a = a' := by
        have h0 : ba i = some a' := hB 0
        rw [h0] at hba
        cases hba
        rfl
      subst ea
      have za : Z a := hZ a (.inr ⟨i0, hO⟩)
      have th : ∀ x, H' x ≠ none → upd Hm a (.lst us) x ≠ none := fun x hx => by
        by_cases hxa : x = a
        · rw [hxa, upd_same]; simp
        · rw [upd_ne hxa]; exact ht x hx
      refine ih (Hm := upd Hm a (.lst us)) (i + 1) (fun j hj => putL_sl e i0 j b (hl j (List.mem_cons_of_mem _ hj))) hg hb (nx hB) ?_ (fun x hx => ?_) th (fun j => hz (j + 1))
      · refine S.mut hO hbo (fin _ us b upd_same ?_)
        refine l.ke ⟨fun x o nz hx => ?_, th⟩ fun x z => .inl (hZ x z)
        rw [upd_ne (fun z : x = a => nz (by rw [z]; exact za)), hm x fun j hj => nz (hz j x hj)]
        exact hx
      · by_cases hxa : x = a
        · rw [hxa, upd_same, hH]
        · rw [upd_ne hxa]
          refine hm x fun j => ?_
          cases j with
          | zero => intro z; cases z; exact hxa rfl
          | succ j => exact hx j
  | @new ms as xs vs ps a0 p us0 ys q1 q2 q3 q4 q5 q6 q7 ar ih =>
    intro bs e e2 Hm i hl hg hb hB S hm ht hz
    cases bs with
    | nil => cases hg
    | cons b bs =>
      obtain ⟨⟨a, us, hba, hH, l⟩, hb⟩ := hb
      have ea : a = p := by
        have h0 : ba i = some p := hB 0
        rw [h0] at hba
        cases hba
        rfl
      subst ea
      refine ih (Hm := upd Hm a (.lst us)) (i + 1) hl hg hb (nx hB) (S.updQ (fx a q1) (fn a q2) q3 (by rw [← f0]; exact q4)) (fun x hx => ?_) (fun x hx => ?_) (fun j => hz (j + 1))
      · by_cases hxa : x = a
        · rw [hxa, upd_same, hH]
        · rw [upd_ne hxa]
          refine hm x fun j => ?_
          cases j with
          | zero => intro z; cases z; exact hxa rfl
          | succ j => exact hx j
      · by_cases hxa : x = a
        · rw [hxa, upd_same]; simp
        · rw [upd_ne hxa]; exact ht x hx
/-- THE RULE of calls, behind the arguments -/
theorem call_wish {fl : Fl} {N : List Str} {f : DF} {ms : List Md} {as : List Arg} {xs : List (D ⊕ Nat)} {vs : List V} {ps : List Addr} {F1 : Fm} {Q : VK} {Wx : WX} (hfl : fl ≠ .w) (hN : ms.length ≤ N.length) (ok : argsOk as = true) (S0 : SR K F O e0 σ H) (x : FX F F1 H) (S : SR K F1 O e1 σ H1) (k : Ke (Jo O) H H1) (ar : AR F1 O σ H1 ms as xs vs ps) (hps : ∀ q ∈ ps, H q = none)
    (w : Want (fun e1 => if !(lends as).all (fun i => isL (sl e1 i)) then R.bad else (match argsD e1 xs with
    | some ds => (match f ds with
      | .ok d bs => (match giveBack as bs e1 with
        | some e2 => .ok d e2
        | none => .bad)
      | .ex c fs bs => (match giveBack as bs e1 with
        | some e2 => .ex c fs e2
        | none => .bad)
      | .bad => .bad)
    | none => .bad)) e1 (fun d e1 => ∀ v H', SR K F O e1 σ H' → Ke (Jo O) H H' → Po fl K F O e1 σ H H' v d → Q v H') (XW K F O σ H Wx)) :
    spD fl K N ms f vs H1 Q (WE Wx σ) := by
  unfold Want at w
  cases hl : (lends as).all (fun i => isL (sl e1 i)) with
  | false => simp only [hl] at w; exact w.elim
  | true =>
  simp only [hl] at w
  have hl' : ∀ i ∈ lends as, isL (sl e1 i) = true := List.all_eq_true.mp hl
  cases hd : argsD e1 xs with
  | none => simp only [hd] at w; exact w.elim
  | some ds =>
  simp only [hd] at w
  obtain ⟨ok1, ok2⟩ := Bool.and_eq_true_iff.mp ok
  have nd : (lends as).Nodup := of_decide_eq_true ok1
  have hlk : ∀ i ∈ looks as, i ∉ lends as := fun i hi hi' => by
    have := List.all_eq_true.mp ok2 i hi
    simp [hi'] at this
  have who := ba_who S ar hl'
  have lal : ∀ j a, baL ms vs j = some a → Ow F1 O a := fun j a h => by
    rcases who j a h with ⟨i, _, z⟩ | z
    · exact .inr ⟨i, z⟩
    · exact .inl (ar.ps a z).1
  have lan : ∀ j a, baL ms vs j = some a → Jo O a ∨ F1.N a := fun j a h => by
    rcases who j a h with ⟨i, _, z⟩ | z
    · exact .inl ⟨i, z⟩
    · exact .inr (ar.ps a z).2.1
  let Fc : Fm := ⟨Ow F1 O, fun _ => False, H1, baL ms vs⟩
  have hP : ∀ a, Ow Fc (baL ms vs) a → Ow F1 O a := fun a z => z.elim id fun ⟨j, z⟩ => lal j a z
  have hNN : ∀ a, Jo (baL ms vs) a ∨ Fc.N a → Jo O a ∨ F1.N a := fun a z => z.elim (fun ⟨j, z⟩ => lan j a z) False.elim
  obtain ⟨g1, g2, g3⟩ := call_slots (Fc := Fc) (Oc := baL ms vs) S hP hNN ar 0 hl' (fun i hi a hO z => by
    rcases z with ⟨j, z⟩ | z
    · rcases who j a z with ⟨i', hi', z'⟩ | z'
      · exact hlk i hi (S.inj i i' a hO z' ▸ hi')
      · exact (ar.ps a z').2.2 ⟨i, hO⟩
    · exact z) hd (fun j => by rw [Nat.zero_add]) (fun j => by show baL ms vs (0 + j) = _; rw [Nat.zero_add])
  have vl : vs.length = ms.length := ar.len
  have SS : SR K Fc (baL ms vs) (startE ms ds ++ List.replicate (N.length - ms.length) .no) (start N vs) H1 := by
    refine ⟨fun j => ?_, ba_inj S ar hl' nd, fun a z => S.prot a (hP a z), fun a o e _ => e, fun a z => z, ?_, fun a z => z.elim, fun a xs z => S.ow_tup z⟩
    · by_cases hj : j < ms.length
      · have e1 : sl (startE ms ds ++ List.replicate (N.length - ms.length) .no) j = sl (startE ms ds) j := sl_app _ _ _ (by rw [g2]; exact hj)
        have e2 : get1 (start N vs) j = vs[j]? := by
          unfold get1 L2.start
          rw [List.getElem?_append_left (by rw [List.length_map, vl]; exact hj), List.getElem?_map]
          cases vs[j]? <;> rfl
        rw [e1, e2]
        have := g3 j hj
        rw [Nat.zero_add] at this
        exact this
      · have e1 : sl (startE ms ds ++ List.replicate (N.length - ms.length) .no) j = .no := sl_app_no _ _ _ (by rw [g2]; omega)
        rw [e1]
        exact baL_out _ _ _ (by omega)
    · unfold L2.start
      rw [List.length_append, g2, List.length_replicate, List.length_append, List.length_map, List.length_replicate, vl]
  -- behind it
  have bo : ∀ {a : Addr}, ¬ Fc.bo a → ∀ j, baL ms vs j ≠ some a := fun n j z => n ⟨j, z⟩
  have keep : ∀ {H' : Hp}, KeB Fc H1 H' → Ke (Jo O) H H' := fun {H'} kb => by
    refine ⟨fun a o n e => kb.keep a o (k.stay a o n e) ?_, fun a z => kb.there a (k.there a z)⟩
    rintro ⟨j, z⟩
    rcases who j a z with ⟨i, _, z⟩ | z
    · exact n ⟨i, z⟩
    · rw [hps a z] at e; cases e
  have back : ∀ {F2 : Fm} {Z : Pr} {H' : Hp} {bs : List (List D)} {e2 : Env}, giveBack as bs e1 = some e2 → KeB Fc H1 H' → BoL Z (baL ms vs) H' 0 ms bs → (∀ a, Ow F2 O a → Z a) → (∀ a, Ow F1 O a → Z a) → (∀ a, F1.P a → F2.P a) → (∀ a, F1.N a → F2.N a) → F1.H0 = F2.H0 →
      (∀ Hm : Hp, (∀ a o, H1 a = some o → Hm a = some o) → (∀ a, H' a ≠ none → Hm a ≠ none) → (∀ a, H1 a = none → Hm a = H' a) → SR K F2 O e1 σ Hm) → SR K F2 O e2 σ H' := fun {F2 Z H' bs e2} hg kb hb hZ hZ1 h1 h2 h3 hS => by
    classical
    let Hm : Hp := fun a => if ∃ j, baL ms vs j = some a then H1 a else H' a
    have m1 : ∀ a, (∃ j, baL ms vs j = some a) → Hm a = H1 a := fun a h => if_pos h
    have m2 : ∀ a, (¬ ∃ j, baL ms vs j = some a) → Hm a = H' a := fun a h => if_neg h
    have t : ∀ a, H' a ≠ none → Hm a ≠ none := fun a z => by
      by_cases h : ∃ j, baL ms vs j = some a
      · rw [m1 a h]
        obtain ⟨j, h⟩ := h
        exact S.prot a (lal j a h)
      · rw [m2 a h]; exact z
    have st : ∀ a o, H1 a = some o → Hm a = some o := fun a o z => by
      by_cases h : ∃ j, baL ms vs j = some a
      · rw [m1 a h]; exact z
      · rw [m2 a h]; exact kb.keep a o z h
    exact give_back (Z := Z) (ba := baL ms vs) hZ h1 h2 h3 ar (Hm := Hm) 0 hl' hg hb (fun j => by rw [Nat.zero_add]) (hS Hm st t fun a z => m2 a fun ⟨j, h⟩ => S.prot a (lal j a h) z) (fun a h => m2 a fun ⟨j, z⟩ => h j z) t fun j a z => hZ1 a (lal j a z)
  refine ⟨vl, ds, Fc, baL ms vs, SS, rfl, g1, ?_⟩
  cases hf : f ds with
  | bad => simp only [hf] at w; exact w.elim
  | ex c fs bs =>
    simp only [hf] at w
    cases hg : giveBack as bs e1 with
    | none => simp only [hg] at w; exact w.elim
    | some e2 =>
      simp only [hg] at w
      intro cls dd H' kb hb xr
      have S2 : SR K F1 O e2 σ H' := back hg kb hb (fun _ z => z) (fun _ z => z) (fun _ z => z) (fun _ z => z) rfl fun Hm st _ _ => S.ext st
      exact w cls dd H' (S2.down x) (keep kb) (xr.sub fun a z => x.ow a z)
  | ok d bs =>
    simp only [hf] at w
    cases hg : giveBack as bs e1 with
    | none => simp only [hg] at w; exact w.elim
    | some e2 =>
      simp only [hg] at w
      intro v H' kb r
      have ss : Rep Fc.P H' v d → BoL Fc.P (baL ms vs) H' 0 ms bs → SR K F O e2 σ H' ∧ Rep (Ow F O) H' v d := fun r1 r2 => by
        have S2 : SR K F1 O e2 σ H' := back hg kb r2 (fun _ z => z) (fun _ z => z) (fun _ z => z) (fun _ z => z) rfl fun Hm st _ _ => S.ext st
        exact ⟨S2.down x, r1.sub fun a z => .inl (x.ow a z)⟩
      cases fl with
      | w => exact absurd rfl hfl
      | s =>
        obtain ⟨r1, r2⟩ := r
        obtain ⟨S2, r3⟩ := ss r1 r2
        exact w v H' S2 (keep kb) r3
      | f =>
        obtain ⟨p, us, ys, rfl, rfl, hp, hp', l, hb⟩ := r
        have S2 : SR K (F1.ad p) O e2 σ H' := back (F2 := F1.ad p) hg kb hb (fun a z => by
          rcases z with (z | z) | z
          · exact .inl (.inl z)
          · exact .inr z
          · exact .inl (.inr z)) (fun a z => .inl z) (fun a z => .inl z) (fun a z => .inl z) rfl fun Hm st t u => S.adAt st hp (t p (by rw [hp']; simp)) fun xs z => by rw [u p hp, hp'] at z; cases z
        have S3 : SR K (F.ad p) O e2 σ H' := S2.down (H0 := H) ⟨x.ba, x.h0, fun a z => z.elim (fun z => .inl (x.p a z)) .inr, fun a z => z.elim (fun z => .inl (x.n a z)) .inr, fun a z => z.elim (fun z => (x.pn a z).elim (fun z => .inl (.inl z)) .inr) fun z => .inl (.inr z), fun a z => z.elim (fun z => (x.nn a z).elim (fun z => .inl (.inl z)) .inr) fun z => .inl (.inr z)⟩
        refine w _ H' S3.unad (keep kb) ⟨p, us, ys, rfl, rfl, none_back k.there hp, hp', l.sub fun a z => .inl ?_, S3⟩
        rcases z with (z | z) | z
        · exact .inl (x.ow a (.inl z))
        · exact .inr z
        · exact .inl (.inr z)
      | fd =>
        obtain ⟨p, us, ys, rfl, rfl, hp, hp', l, hb⟩ := r
        have S2 : SR K (F1.ad p) O e2 σ H' := back (F2 := F1.ad p) hg kb hb (fun a z => by
          rcases z with (z | z) | z
          · exact .inl (.inl z)
          · exact .inr z
          · exact .inl (.inr z)) (fun a z => .inl z) (fun a z => .inl z) (fun a z => .inl z) rfl fun Hm st t u => S.adAt st hp (t p (by rw [hp']; simp)) fun xs z => by rw [u p hp, hp'] at z; cases z
        have S3 : SR K (F.ad p) O e2 σ H' := S2.down (H0 := H) ⟨x.ba, x.h0, fun a z => z.elim (fun z => .inl (x.p a z)) .inr, fun a z => z.elim (fun z => .inl (x.n a z)) .inr, fun a z => z.elim (fun z => (x.pn a z).elim (fun z => .inl (.inl z)) .inr) fun z => .inl (.inr z), fun a z => z.elim (fun z => (x.nn a z).elim (fun z => .inl (.inl z)) .inr) fun z => .inl (.inr z)⟩
        refine w _ H' S3.unad (keep kb) ⟨p, us, ys, rfl, rfl, none_back k.there hp, hp', l.sub fun a z => .inl ?_, S3⟩
        rcases z with (z | z) | z
        · exact .inl (x.ow a (.inl z))
        · exact .inr z
        · exact .inl (.inr z)
end
/-! ### calls -/
section
variable {X : Cx} {Wx : WX} {e : Expr} {es : List Expr} {ms : List Md} {as : List Arg} {p pos : Pos} {fl : Fl} {k : Nat} {f : Addr} {fd : FuncData} {ps N : List Str} {g : DF} {x : Str}
/-- a def that is called by its name: its promise, the room, its name -/
structure Fn (X : Cx) (fl : Fl) (x : Str) (N ps : List Str) (ms : List Md) (g : DF) : Prop where
  ex : ∃ (k : Nat) (f : Addr) (fd : FuncData), FnOk X.prog X.w X.K X.mg X.base (L2.CX X.prog X.w) k f fd ps (spD fl X.K N ms g) ∧ Room k X.A ∧ X.mg x = some (.ref f) ∧ PySem.W.keepIn X.K (.ref f) = true ∧ Binds X.K fd ps []
  nw : fl ≠ .w
  le : ms.length ≤ N.length
theorem pd_call (F : Fn X fl x N ps ms g) (tk : Takes X Wx) (hg : Gl X x) (ha : ArgsD X Wx (e :: es) ms as) (ok : argsOk as = true := by rfl) (hdb : (x == ("__debug__" : Str)) = false := by decide)
    (he : starEach (e :: es) X.env = (false, eval e X.env) :: starEach es X.env := by rfl) (hpl : (backTo pos (starEach es X.env)).any (·.1) = false := by rfl) : PD fl X Wx (.Call (.Name x p) (e :: es) [] pos) (eCall g as) := by
  obtain ⟨k, f, fd, Fk, hr, hm, hk, hb⟩ := F.ex
  obtain ⟨t, pt, qt⟩ := ha
  refine ⟨_, pe_callS Fk hr hg hm hk hb (passAt tk) pt hdb he hpl, fun F' O env σ H Q S w => ?_⟩
  refine qt F' O env σ H _ S ?_
  unfold Want eCall at w
  unfold Want
  cases hv : argsV as env with
  | bad => rw [hv] at w; exact w
  | ex c fs e1 => rw [hv] at w; exact w
  | ok xs e1 =>
    rw [hv] at w
    intro vs F1 H1 ps' x1 S1 k1 ar hps
    exact call_wish F.nw F.le ok S x1 S1 k1 ar hps w
theorem pd_call0 (F : Fn X fl x N ps [] g) (tk : Takes X Wx) (hg : Gl X x) (hdb : (x == ("__debug__" : Str)) = false := by decide) : PD fl X Wx (.Call (.Name x p) [] [] pos) (eCall g []) := by
  obtain ⟨k, f, fd, Fk, hr, hm, hk, hb⟩ := F.ex
  refine ⟨fun σ H Q => spD fl X.K N [] g [] H Q (WE Wx σ), ⟨fun pins s σ H Q I h => ?_⟩, fun F' O env σ H Q S w => ?_⟩
  · refine wpAny_Call_Name_kw (ld_glob I hg hm ?_ hdb)
    exact PySem.W.callWith_K0 I.kIn hk (run_fnS (us := []) (E := WE Wx) Fk hr hb (passAt tk σ) I .nil h)
  · exact call_wish (xs := []) (ps := []) (as := []) F.nw F.le rfl S .refl S .refl .nil (fun _ h => by cases h) w
end
end AH
namespace AH
open PySem PySem.Spec PyProof.Rows L2
variable [TheK]
/-! ### calls with keywords -/
def perm {α : Type} (ix : List Nat) (l : List α) : List α := ix.filterMap fun i => l[i]?
def eCallK (f : DF) (ix : List Nat) (a : DL) : DE := a.bind fun ds => fun e => match f (perm ix ds) with
  | .ok d [] => .ok d e
  | .ex c fs [] => .ex c fs e
  | _ => .bad
def aApp (a b : DL) : DL := a.bind fun xs => b.bind fun ys => M.pure (xs ++ ys)
theorem RepL.perm {W : Pr} {H : Hp} {vs : List V} {ds : List D} (l : RepL W H vs ds) : ∀ ix : List Nat, RepL W H (AH.perm ix vs) (AH.perm ix ds)
  | [] => .nil
  | i :: ix => by
    unfold AH.perm
    rw [List.filterMap_cons, List.filterMap_cons]
    have ll := l.len
    cases h : ds[i]? with
    | none =>
      have : vs[i]? = none := by
        rw [List.getElem?_eq_none_iff] at h ⊢
        omega
      rw [this]
      exact RepL.perm l ix
    | some d =>
      obtain ⟨v, hv, r⟩ := l.get h
      rw [hv]
      exact .cons r (RepL.perm l ix)
theorem perm_vals {vs : List V} {us : List Value} (r : Vals vs us) : ∀ ix : List Nat, Vals (perm ix vs) (perm ix us)
  | [] => .nil
  | i :: ix => by
    unfold perm
    rw [List.filterMap_cons, List.filterMap_cons]
    have ll := r.length
    cases h : us[i]? with
    | none =>
      have : vs[i]? = none := by
        rw [List.getElem?_eq_none_iff] at h ⊢
        omega
      rw [this]
      exact perm_vals r ix
    | some u =>
      have hi := (List.getElem?_eq_some_iff.mp h).1
      have hv : vs[i]? = some vs[i] := by rw [List.getElem?_eq_getElem]
      rw [hv]
      refine .cons ?_ (perm_vals r ix)
      have : ∀ {vs : List V} {us : List Value}, Vals vs us → ∀ (i : Nat) (v : V) (u : Value), vs[i]? = some v → us[i]? = some u → RelV v u := by
        intro vs us r
        induction r with
        | nil => intro i v u h; simp at h
        | cons a _ ih => intro i v u h1 h2; cases i with
          | zero => simp at h1 h2; subst h1; subst h2; exact a
          | succ i => exact ih i v u (by simpa using h1) (by simpa using h2)
      exact this r i _ _ hv h
/-- keyword arguments -/
def KD (X : Cx) (Wx : WX) (kws : List Keyword) (m : DL) : Prop := ∃ t : TA, PK X kws t ∧ ∀ (F : Fm) (O : Nat → Option Addr) (env : Env) (σ : L2.St) (H : Hp) (Q : List V → Hp → Prop), SR X.K F O env σ H →
  Want m env (fun ds e1 => ∀ vs H', SR X.K F O e1 σ H' → Ke (Jo O) H H' → RepL (Ow F O) H' vs ds → Q vs H') (XW X.K F O σ H Wx) → t σ H Q
/-- such a def with keywords: n written values, the names ks, where each parameter's value stands -/
structure FnK (X : Cx) (fl : Fl) (x : Str) (N ps : List Str) (ms : List Md) (g : DF) (n : Nat) (ks : List Str) (ix : List Nat) : Prop where
  ex : ∃ (k : Nat) (f : Addr) (fd : FuncData), FnOk X.prog X.w X.K X.mg X.base (L2.CX X.prog X.w) k f fd ps (spD fl X.K N ms g) ∧ Room k X.A ∧ X.mg x = some (.ref f) ∧ PySem.W.keepIn X.K (.ref f) = true ∧
    ∀ (s : Shared) (us ws : List Value), X.K.In s.heap → us.length = n → ws.length = ks.length → BindsTo s fd ⟨us, ks.zip ws⟩ (ps.zip (perm ix (us ++ ws)))
  nw : fl ≠ .w
  le : ms.length ≤ N.length
  nb : (ms.all fun m => m != .bor) = true
section
variable {X : Cx} {Wx : WX} {e : Expr} {es : List Expr} {ms : List Md} {p pos kpos : Pos} {fl : Fl} {ps N ks : List Str} {g : DF} {x : Str} {kws : List Keyword} {ma : DE} {mb mk : DL} {n : Nat} {ix : List Nat} {nm : Option Str}
theorem kd_nil : KD X Wx [] aNil := ⟨_, pk_nil, fun F O env σ H Q S w => w [] H S .refl .nil⟩
theorem kd_cons (ha : PD .s X Wx e ma) (hr : KD X Wx kws mk) : KD X Wx (⟨nm, e, kpos⟩ :: kws) (aCons ma mk) := by
  obtain ⟨ta, pa, qa⟩ := ha
  obtain ⟨tr, pr, qr⟩ := hr
  refine ⟨_, pk_cons pa pr, fun F O env σ H Q S w => qa F O env σ H _ S ((Want.bind (m := ma) w).imp (fun d e1 w1 v H1 S1 k1 r1 => ?_) fun _ _ _ z => z)⟩
  exact qr F O e1 σ H1 _ S1 ((Want.bind w1).imp (fun xs e2 w2 vs H2 S2 k2 l => w2 (v :: vs) H2 S2 (k1.trans k2) (.cons (Rep.mj k2 r1) l)) (XW.later k1))
theorem ar_of {F : Fm} {O : Nat → Option Addr} {σ : L2.St} {H : Hp} : ∀ {ms : List Md} {vs : List V} {ds : List D}, (ms.all fun m => m != .bor) = true → ms.length = ds.length → RepL (Ow F O) H vs ds → AR F O σ H ms (ds.map fun d => Arg.e (eC d)) (ds.map .inl) vs []
  | [], _, _, _, hl, .nil => .nil
  | _ :: _, _, _, _, hl, .nil => by cases hl
  | [], _, _, _, hl, .cons _ _ => by cases hl
  | .val :: ms, _, _, h, hl, .cons r l => .val r (ar_of (by simpa using h) (by simpa using hl) l)
  | .ro :: ms, _, _, h, hl, .cons r l => .rov r (ar_of (by simpa using h) (by simpa using hl) l)
  | .bor :: ms, _, _, h, hl, .cons r l => by simp at h
theorem lends_e : ∀ ds : List D, lends (ds.map fun d => Arg.e (eC d)) = []
  | [] => rfl
  | _ :: ds => lends_e ds
theorem looks_e : ∀ ds : List D, looks (ds.map fun d => Arg.e (eC d)) = []
  | [] => rfl
  | _ :: ds => looks_e ds
theorem argsD_e (e : Env) : ∀ ds : List D, argsD e (ds.map .inl) = some ds
  | [] => rfl
  | d :: ds => by show (match some d, argsD e (ds.map .inl) with | some d, some ds => some (d :: ds) | _, _ => none) = _; rw [argsD_e e ds]
theorem giveBack_e (e : Env) : ∀ ds : List D, giveBack (ds.map fun d => Arg.e (eC d)) [] e = some e
  | [] => rfl
  | _ :: ds => giveBack_e e ds
theorem kw_wish {F : Fm} {O : Nat → Option Addr} {σ : L2.St} {H H1 : Hp} {e0 e1 : Env} {K : PySem.W.Frag} {vs : List V} {ds : List D} {Q : VK} (hfl : fl ≠ .w) (hN : ms.length ≤ N.length) (hb : (ms.all fun m => m != .bor) = true) (S0 : SR K F O e0 σ H) (S : SR K F O e1 σ H1) (k : Ke (Jo O) H H1) (l : RepL (Ow F O) H1 vs ds) (hl : ms.length = ds.length)
    (w : Want (fun e => match g ds with
      | .ok d [] => R.ok d e
      | .ex c fs [] => .ex c fs e
      | _ => .bad) e1 (fun d e1 => ∀ v H', SR K F O e1 σ H' → Ke (Jo O) H H' → Po fl K F O e1 σ H H' v d → Q v H') (XW K F O σ H Wx)) : spD fl K N ms g vs H1 Q (WE Wx σ) := by
  refine call_wish (as := ds.map fun d => Arg.e (eC d)) (xs := ds.map .inl) (ps := []) (e0 := e0) hfl hN ?_ S0 .refl S k (ar_of hb hl l) (fun _ h => by cases h) ?_
  · unfold argsOk
    rw [lends_e, looks_e]
    rfl
  · unfold Want at w ⊢
    simp only [lends_e, argsD_e, List.all_nil, Bool.not_true, Bool.false_eq_true, if_false]
    cases hf : g ds with
    | bad => simp only [hf] at w
    | ok d bs => cases bs with
      | nil => simp only [hf] at w; simp only [giveBack_e]; exact w
      | cons b bs => simp only [hf] at w
    | ex c fs bs => cases bs with
      | nil => simp only [hf] at w; simp only [giveBack_e]; exact w
      | cons b bs => simp only [hf] at w
theorem run_fnNS {CX : CXT} {k : Nat} {f : Addr} {fd : FuncData} {sp : Sp} {E : XK} {pins : List (Addr × Obj)} {σ : L2.St} {H : Hp} {s : Shared} {Q : VK} {us : List Value} {vs : List V} {kw : List (Str × Value)} (F : FnOk X.prog X.w X.K X.mg X.base CX k f fd ps sp) (hr : Room k X.A) {zs : List Value} (hb : BindsTo s fd ⟨us, kw⟩ (ps.zip zs)) (hx : PassesAt CX X σ E)
    (I : Inv X pins σ H s) (r : Vals vs zs) (h : sp vs H Q E) : wpAny (model X.prog X.w) X.A (call (.ref f) us kw) (EP X pins σ Q) X.xe s := by
  refine wpAny_call (codeAny_mono (F.run X.A X.stack s H ⟨us, kw⟩ zs vs Q E hr I.env0 hb r h) fun r s' hq => ?_)
  cases r with
  | error e => exact hx pins H s e s' I hq
  | ok fl =>
    cases fl with
    | ret u => exact I.after hq
    | next => exact False.elim hq
    | brk => exact False.elim hq
    | cont => exact False.elim hq
theorem perm_len {α β : Type} (ix : List Nat) {l : List α} {l' : List β} (h : l.length = l'.length) : (perm ix l).length = (perm ix l').length := by
  induction ix with
  | nil => rfl
  | cons i ix ih =>
    unfold perm
    rw [List.filterMap_cons, List.filterMap_cons]
    cases q : l[i]? with
    | none =>
      have : l'[i]? = none := by rw [List.getElem?_eq_none_iff] at q ⊢; omega
      rw [this]; exact ih
    | some a =>
      have hi := (List.getElem?_eq_some_iff.mp q).1
      have : l'[i]? = some l'[i] := by rw [List.getElem?_eq_getElem]
      rw [this]
      exact congrArg Nat.succ ih
/-- f(k = v, ..) -/
theorem pd_callK0 (F : FnK X fl x N ps ms g 0 ks ix) (tk : Takes X Wx) (hg : Gl X x) (hk : KD X Wx kws mk) (hml : ∀ e ds e', mk e = .ok ds e' → ds.length = ks.length ∧ ms.length = (perm ix ds).length) (hall : (backToKw pos (keywordEach kws X.env)).all (·.1.isSome) = true := by rfl) (hks : (backToKw pos (keywordEach kws X.env)).filterMap (·.1) = ks := by rfl)
    (hdb : (x == ("__debug__" : Str)) = false := by decide) (hpl : ((backTo pos (starEach [] X.env)).any (·.1) || (backToKw pos (keywordEach kws X.env)).any (·.1.isNone)) = false := by rfl) : PD fl X Wx (.Call (.Name x p) [] kws pos) (eCallK g ix mk) := by
  obtain ⟨k, f, fd, Fk, hr, hm, hkp, hb⟩ := F.ex
  obtain ⟨t, pt, qt⟩ := hk
  refine ⟨fun σ H Q => t σ H fun zs H2 => zs.length = ks.length ∧ spD fl X.K N ms g (perm ix zs) H2 Q (WE Wx σ), ⟨fun pins s σ H Q I h => ?_⟩, fun F' O env σ H Q S w => ?_⟩
  · refine wpAny_Call_Name_kw (ld_glob I hg hm ?_ hdb)
    refine PySem.W.callWith_KW0 (h₀ := X.base) I.ok.mod.kin hkp hall (thn (pt.run pos pins s σ H _ I h) fun ws s2 ⟨zs, H2, I2, rz, l2, q2⟩ => ⟨I2.kIn, ?_⟩) hpl
    rw [hks]
    have b := hb s2 [] ws I2.kIn rfl (rz.length.symm.trans l2)
    rw [List.nil_append] at b
    exact run_fnNS Fk hr b (passAt tk σ) I2 (perm_vals rz ix) q2
  · refine qt F' O env σ H _ S ?_
    have w1 := Want.bind w
    unfold Want at w1 ⊢
    cases hv : mk env with
    | bad => rw [hv] at w1; exact w1
    | ex c fs e1 => rw [hv] at w1; exact w1
    | ok ds e1 =>
      rw [hv] at w1
      intro vs H1 S1 k1 l
      obtain ⟨h1, h2⟩ := hml env ds e1 hv
      exact ⟨l.len.trans h1, kw_wish F.nw F.le F.nb S S1 k1 (l.perm ix) h2 w1⟩
/-- f(e, .., k = v, ..) -/
theorem pd_callK (F : FnK X fl x N ps ms g n ks ix) (tk : Takes X Wx) (hg : Gl X x) (ha : AD X Wx (e :: es) mb) (hk : KD X Wx kws mk) (hml : ∀ e ds e', mb e = .ok ds e' → ds.length = n) (hml2 : ∀ e ds e', mk e = .ok ds e' → ds.length = ks.length) (hmp : ms.length = (perm ix (List.range (n + ks.length))).length) (hall : (backToKw pos (keywordEach kws X.env)).all (·.1.isSome) = true := by rfl) (hks : (backToKw pos (keywordEach kws X.env)).filterMap (·.1) = ks := by rfl)
    (hdb : (x == ("__debug__" : Str)) = false := by decide) (he : starEach (e :: es) X.env = (false, eval e X.env) :: starEach es X.env := by rfl) (hpl : ((backTo pos (starEach (e :: es) X.env)).any (·.1) || (backToKw pos (keywordEach kws X.env)).any (·.1.isNone)) = false := by rfl) : PD fl X Wx (.Call (.Name x p) (e :: es) kws pos) (eCallK g ix (aApp mb mk)) := by
  obtain ⟨k, f, fd, Fk, hr, hm, hkp, hb⟩ := F.ex
  obtain ⟨t, pt, qt⟩ := hk
  obtain ⟨ta, pta, qta⟩ := ha
  refine ⟨fun σ H Q => ta σ H fun vs H1 => t σ H1 fun zs H2 => vs.length = n ∧ zs.length = ks.length ∧ spD fl X.K N ms g (perm ix (vs ++ zs)) H2 Q (WE Wx σ), ⟨fun pins s σ H Q I h => ?_⟩, fun F' O env σ H Q S w => ?_⟩
  · refine wpAny_Call_Name_kw (ld_glob I hg hm ?_ hdb)
    refine PySem.W.callWith_KW (h₀ := X.base) I.ok.mod.kin hkp hall (thn (pta.run pos pins s σ H _ I h) fun us s1 ⟨vs, H1, I1, r, q⟩ => ?_) hpl he
    refine thn (pt.run pos pins s1 σ H1 _ I1 q) fun ws s2 ⟨zs, H2, I2, rz, l1, l2, q2⟩ => ⟨I2.kIn, ?_⟩
    rw [hks]
    exact run_fnNS Fk hr (hb s2 us ws I2.kIn (r.length.symm.trans l1) (rz.length.symm.trans l2)) (passAt tk σ) I2 (perm_vals (r.append rz) ix) q2
  · refine qta F' O env σ H _ S ?_
    have w1 := Want.bind (Want.bind w)
    have hwf := w1
    unfold Want at w1 ⊢
    cases hv : mb env with
    | bad => rw [hv] at w1; exact w1
    | ex c fs e1 => rw [hv] at w1; exact w1
    | ok ds e1 =>
      rw [hv] at w1
      intro vs H1 S1 k1 l
      refine qt F' O e1 σ H1 _ S1 ?_
      have w2 := Want.bind w1
      unfold Want at w2 ⊢
      cases hv2 : mk e1 with
      | bad => rw [hv2] at w2; exact w2
      | ex c fs e2 => rw [hv2] at w2; exact XW.later k1 _ _ _ w2
      | ok ds2 e2 =>
        rw [hv2] at w2
        intro vs2 H2 S2 k2 l2
        have h1 := hml env ds e1 hv
        have h2 := hml2 e1 ds2 e2 hv2
        refine ⟨l.len.trans h1, l2.len.trans h2, kw_wish F.nw F.le F.nb S S2 (k1.trans k2) (((l.mj k2).app l2).perm ix) ?_ w2⟩
        rw [hmp]
        exact perm_len ix (by rw [List.length_range, List.length_append, h1, h2])
end
end AH
namespace AH
open PySem PySem.Spec PyProof.Rows L2
variable [TheK]
/-! ### a, b = x, y -/
def allL : List (D ⊕ Nat) → Option (List D)
  | [] => some []
  | .inl d :: r => (allL r).map (d :: ·)
  | .inr _ :: _ => none
def parPut : List (Nat × Bool) → List D → Env → R Out
  | (i, false) :: r, x :: xs, e => if isFix (sl e i) then .bad else parPut r xs (put e i (.val x))
  | (i, true) :: r, .lst ys :: xs, e => if isFix (sl e i) || !decide (i < e.length) then .bad else parPut r xs (put e i (.own ys))
  | [], [], e => .ok .nx e
  | _, _, _ => .bad
def sPar (ts : List (Nat × Bool)) (as : List Arg) : DS := (argsV as).bind fun xs => match allL xs with
  | some ds => parPut ts ds
  | none => fun _ => .bad
def isNew : Arg → Bool
  | .new _ => true
  | _ => false
def setL (σ : L2.St) : List Nat → List V → L2.St
  | i :: r, v :: vs => setL (σ.set i (some v)) r vs
  | _, _ => σ
/-- the values to be stored: new lists, others -/
inductive PR (F : Fm) (O : Nat → Option Addr) (H : Hp) : List Bool → List V → List D → List Addr → Prop
  | nil : PR F O H [] [] [] []
  | val {bs : List Bool} {vs : List V} {ds : List D} {ps : List Addr} {v : V} {d : D} : Rep (Ow F O) H v d → PR F O H bs vs ds ps → PR F O H (false :: bs) (v :: vs) (d :: ds) ps
  | new {bs : List Bool} {vs : List V} {ds : List D} {ps : List Addr} {p : Addr} {us : List V} {ys : List D} : F.P p → F.N p → ¬ Jo O p → F.H0 p = none → p ∉ ps → H p = some (.lst us) → RepL (Ow F O) H us ys → PR F O H bs vs ds ps → PR F O H (true :: bs) (.ref p :: vs) (.lst ys :: ds) (p :: ps)
theorem pr_of {F : Fm} {O : Nat → Option Addr} {σ : L2.St} {H : Hp} {ms : List Md} {as : List Arg} {xs : List (D ⊕ Nat)} {vs : List V} {ps : List Addr} (ar : AR F O σ H ms as xs vs ps) : ∀ {ds : List D}, allL xs = some ds → PR F O H (as.map isNew) vs ds ps := by
  have cut : ∀ {d : D} {xs : List (D ⊕ Nat)} {ds : List D}, allL (.inl d :: xs) = some ds → ∃ ds', allL xs = some ds' ∧ ds = d :: ds' := fun {d xs ds} h => by
    unfold allL at h
    cases q : allL xs with
    | none => rw [q] at h; cases h
    | some ds' => rw [q] at h; cases h; exact ⟨ds', rfl, rfl⟩
  induction ar with
  | nil => intro ds h; cases h; exact .nil
  | val r ar ih => intro ds h; obtain ⟨ds', h1, rfl⟩ := cut h; exact .val r (ih h1)
  | rov r ar ih => intro ds h; obtain ⟨ds', h1, rfl⟩ := cut h; exact .val r (ih h1)
  | look r ar ih => intro ds h; cases h
  | lend r ar ih => intro ds h; cases h
  | new h1 h2 h3 h4 h5 h6 h7 ar ih => intro ds h; obtain ⟨ds', g1, rfl⟩ := cut h; exact .new h1 h2 h3 h4 h5 h6 h7 (ih g1)
/-- other owners, others kept apart -/
theorem PR.go {F F' : Fm} {O O' : Nat → Option Addr} {H : Hp} {bs : List Bool} {vs : List V} {ds : List D} {ps : List Addr} (r : PR F O H bs vs ds ps) (g : ∀ a, Ow F' O' a → Ow F O a) (h0 : F'.H0 = F.H0) : (∀ p ∈ ps, F.P p → F'.P p) → (∀ p ∈ ps, F.N p → F'.N p) → (∀ p ∈ ps, ¬ Jo O p → ¬ Jo O' p) → PR F' O' H bs vs ds ps := by
  induction r with
  | nil => intro _ _ _; exact .nil
  | val r l ih => intro a b c; exact .val (r.sub fun a z => .inl (g a z)) (ih a b c)
  | new h1 h2 h3 h4 h5 h6 h7 l ih =>
    intro a b c
    exact .new (a _ List.mem_cons_self h1) (b _ List.mem_cons_self h2) (c _ List.mem_cons_self h3) (by rw [h0]; exact h4) h5 h6 (h7.sub fun a z => .inl (g a z)) (ih (fun p hp => a p (List.mem_cons_of_mem _ hp)) (fun p hp => b p (List.mem_cons_of_mem _ hp)) fun p hp => c p (List.mem_cons_of_mem _ hp))
def Fm.rm (F : Fm) (p : Addr) : Fm := { F with P := fun a => F.P a ∧ a ≠ p, N := fun a => F.N a ∧ a ≠ p }
theorem rm_ad {F : Fm} {p : Addr} (h1 : F.P p) (h2 : F.N p) : (F.rm p).ad p = F := by
  obtain ⟨P, N, H0, ba⟩ := F
  show Fm.mk (fun a => (P a ∧ a ≠ p) ∨ a = p) (fun a => (N a ∧ a ≠ p) ∨ a = p) H0 ba = Fm.mk P N H0 ba
  have e1 : (fun a => (P a ∧ a ≠ p) ∨ a = p) = P := funext fun a => propext ⟨fun z => z.elim (·.1) fun z => by rw [z]; exact h1, fun z => by
    by_cases h : a = p
    · exact .inr h
    · exact .inl ⟨z, h⟩⟩
  have e2 : (fun a => (N a ∧ a ≠ p) ∨ a = p) = N := funext fun a => propext ⟨fun z => z.elim (·.1) fun z => by rw [z]; exact h2, fun z => by
    by_cases h : a = p
    · exact .inr h
    · exact .inl ⟨z, h⟩⟩
  rw [e1, e2]
theorem par_put {K : PySem.W.Frag} {H : Hp} : ∀ {ts : List (Nat × Bool)} {F1 : Fm} {O : Nat → Option Addr} {e e2 : Env} {σ : L2.St} {vs : List V} {ds : List D} {ps : List Addr} {o : Out}, SR K F1 O e σ H → PR F1 O H (ts.map (·.2)) vs ds ps → parPut ts ds e = .ok o e2 →
    o = .nx ∧ ∃ O' F2, SR K F2 O' e2 (setL σ (ts.map (·.1)) vs) H ∧ (F2.ba = F1.ba ∧ F2.H0 = F1.H0 ∧ (∀ a, F1.P a → a ∉ ps → F2.P a) ∧ (∀ a, F1.N a → a ∉ ps → F2.N a)) ∧ ∀ a, Jo O' a → Jo O a ∨ a ∈ ps
  | [], F1, O, e, e2, σ, vs, ds, ps, o, S, r, h => by
    cases r
    cases h
    exact ⟨rfl, O, F1, S, ⟨rfl, rfl, fun _ z _ => z, fun _ z _ => z⟩, fun _ z => .inl z⟩
  | (i, false) :: ts, F1, O, e, e2, σ, vs, ds, ps, o, S, r, h => by
    cases r with
    | @val _ vs' ds' _ v d r l =>
      unfold parPut at h
      cases hf : isFix (sl e i) with
      | true => simp [hf] at h
      | false =>
        simp only [hf] at h
        obtain ⟨ho, O', F2, S2, f, j⟩ := par_put (ts := ts) (S.setVal (i := i) r) (l.go (fun a z => ow_setN z) rfl (fun _ _ z => z) (fun _ _ z => z) fun _ _ n z => n (jo_setN z)) h
        exact ⟨ho, O', F2, S2, f, fun a z => (j a z).elim (fun z => .inl (jo_setN z)) .inr⟩
  | (i, true) :: ts, F1, O, e, e2, σ, vs, ds, ps, o, S, r, h => by
    cases r with
    | @new _ vs' ds' ps' p us ys h1 h2 h3 h4 h5 h6 h7 l =>
      unfold parPut at h
      cases hf : isFix (sl e i) || !decide (i < e.length) with
      | true => simp [hf] at h
      | false =>
        simp only [hf] at h
        obtain ⟨_, hlen⟩ := Bool.or_eq_false_iff.mp hf
        have hl : i < e.length := by simpa using hlen
        have eF := rm_ad h1 h2
        have S' : SR K ((F1.rm p).ad p) O e σ H := by rw [eF]; exact S
        have g : ∀ a, Ow (F1.rm p) (setO O i (some p)) a → Ow F1 O a := fun a z => by
          have := ow_setS z
          rw [eF] at this
          exact this
        have S1 := S'.setNew (i := i) (s := .own ys) h3 hl ⟨p, us, setO_same, ⟨h4, fun z => z.2 rfl⟩, rfl, h6, h7.sub fun a z => .inl (g a z)⟩
        obtain ⟨ho, O', F2, S2, ⟨f1, f2, f3, f4⟩, j⟩ := par_put (ts := ts) S1 (l.go (F' := F1.rm p) (O' := setO O i (some p)) g rfl (fun q hq z => ⟨z, fun e => h5 (e ▸ hq)⟩) (fun q hq z => ⟨z, fun e => h5 (e ▸ hq)⟩) fun q hq n z => (jo_setS z).elim n fun e => h5 (e ▸ hq)) h
        refine ⟨ho, O', F2, S2, ⟨f1, f2, fun a z n => f3 a ⟨z, fun e => n (by rw [e]; exact List.mem_cons_self)⟩ fun q => n (List.mem_cons_of_mem _ q), fun a z n => f4 a ⟨z, fun e => n (by rw [e]; exact List.mem_cons_self)⟩ fun q => n (List.mem_cons_of_mem _ q)⟩, fun a z => ?_⟩
        rcases j a z with z | z
        · rcases jo_setS z with z | z
          · exact .inl z
          · exact .inr (by rw [z]; exact List.mem_cons_self)
        · exact .inr (List.mem_cons_of_mem _ z)
section
variable {fl : Fl} {X : Cx} {Wx : WX} {e a b c d tg iter elt : Expr} {ma mb mc md : DE} {pos p : Pos} {st : Stmt} {rest : List Stmt} {m n : DS}
theorem par_of {es : List Expr} {ms : List Md} {as : List Arg} {ts : List (Nat × Bool)} (ha : ArgsD X Wx es ms as) (hk : as.map isNew = ts.map (·.2)) (hp : ∀ ta : TA, PA X es ta → PS X st (fun D σ H => ta σ H fun vs H1 => vs.length = ts.length ∧ D.nx (setL σ (ts.map (·.1)) vs) H1)) (hl : es.length = ts.length) (hml : ms.length = ts.length) : SD fl X Wx st (sPar ts as) := by
  obtain ⟨ta, pa, qa⟩ := ha
  refine ⟨_, hp ta pa, fun F O env σ H D S w => ?_⟩
  refine qa F O env σ H _ S ((Want.bind w).imp (fun xs e1 w1 vs F1 H1 ps x S1 k1 ar hq => ?_) XWs.xw)
  refine ⟨ar.len.trans hml, ?_⟩
  cases hx : allL xs with
  | none => rw [hx] at w1; exact w1.elim
  | some ds =>
    rw [hx] at w1
    have r := pr_of ar hx
    rw [hk] at r
    unfold Want at w1
    cases hpp : parPut ts ds e1 with
    | bad => simp only [hpp] at w1
    | ex c fs e2 =>
      exfalso
      have : ∀ (ts : List (Nat × Bool)) (ds : List AH.D) (e : Env) c fs e2, parPut ts ds e ≠ .ex c fs e2 := by
        intro ts
        induction ts with
        | nil => intro ds e c fs e2 h; cases ds <;> cases h
        | cons t ts ih =>
          intro ds e c fs e2 h
          obtain ⟨i, b⟩ := t
          cases b with
          | false => cases ds with
            | nil => cases h
            | cons d ds =>
              unfold parPut at h
              split at h
              · cases h
              · exact ih _ _ _ _ _ h
          | true => cases ds with
            | nil => cases h
            | cons d ds => cases d with
              | lst ys =>
                unfold parPut at h
                split at h
                · cases h
                · exact ih _ _ _ _ _ h
              | _ => cases h
      exact this _ _ _ _ _ _ hpp
    | ok o e2 =>
      simp only [hpp] at w1
      obtain ⟨rfl, O', F2, S2, ⟨f1, f2, f3, f4⟩, j⟩ := par_put S1 r hpp
      have ext : FX F F2 (fun _ => none) := ⟨f1.trans x.ba, f2.trans x.h0, fun a z => f3 a (x.p a z) fun q => S.prot a (.inl z) (hq a q), fun a z => f4 a (x.n a z) fun q => ?_, fun _ _ => .inr rfl, fun _ _ => .inr rfl⟩
      · exact w1 O' _ H1 (S2.down ext) ⟨k1, fun a z => (j a z).elim .inl fun z => .inr (hq a z)⟩
      · exact S.nal a z (hq a q)
theorem sd_par2 {i j : Nat} {bi bj : Bool} {x y : Str} {as : List Arg} {ms : List Md} {px py pt : Pos} {kt k2 pt2} (hc : X.calm = true) (hN : X.N.Nodup) (hi : X.N[i]? = some x) (hj : X.N[j]? = some y) (hij : i ≠ j) (hx : X.env.scope.names.lookup x = some .local) (hy : X.env.scope.names.lookup y = some .local)
    (ha : ArgsD X Wx [a, b] ms as) (hk : as.map isNew = [bi, bj]) (hml : ms.length = 2) (hw : swappedStores [.Tuple [.Name x px, .Name y py] kt pt] (.Tuple [a, b] k2 pt2) X.env = pure (some [x, y]) := by rfl) (hs : swapsWithSole [.Tuple [.Name x px, .Name y py] kt pt] (.Tuple [a, b] k2 pt2) pos.line X.env = pure false := by rfl) :
    SD fl X Wx (.Assign [.Tuple [.Name x px, .Name y py] kt pt] (.Tuple [a, b] k2 pt2) pos) (sPar [(i, bi), (j, bj)] as) :=
  par_of ha hk (fun ta pa => ⟨fun pins s σ H D I h => (ps_par hc hN hi hj hij hx hy pa hw hs).run pins s σ H D I (by
    have e : (fun (vs : List V) (H1 : Hp) => vs.length = 2 ∧ D.nx (setL σ [i, j] vs) H1) = fun vs H1 => ∃ v w, vs = [v, w] ∧ D.nx ((σ.set i (some v)).set j (some w)) H1 := by
      funext vs H1
      apply propext
      constructor
      · rintro ⟨hl, h⟩
        match vs, hl, h with
        | [v, w], _, h => exact ⟨v, w, rfl, h⟩
      · rintro ⟨v, w, rfl, h⟩
        exact ⟨rfl, h⟩
    have h : ta σ H (fun (vs : List V) (H1 : Hp) => vs.length = 2 ∧ D.nx (setL σ [i, j] vs) H1) := h
    rw [e] at h
    exact h)⟩) rfl hml
theorem sd_par3 {i j l : Nat} {bi bj bl : Bool} {x y z : Str} {as : List Arg} {ms : List Md} {px py pz pt : Pos} {kt k2 pt2} (hc : X.calm = true) (hN : X.N.Nodup) (hi : X.N[i]? = some x) (hj : X.N[j]? = some y) (hl : X.N[l]? = some z) (hij : i ≠ j) (hil : i ≠ l) (hjl : j ≠ l) (hx : X.env.scope.names.lookup x = some .local) (hy : X.env.scope.names.lookup y = some .local) (hz : X.env.scope.names.lookup z = some .local)
    (ha : ArgsD X Wx [a, b, c] ms as) (hk : as.map isNew = [bi, bj, bl]) (hml : ms.length = 3) (hw : swappedStores [.Tuple [.Name x px, .Name y py, .Name z pz] kt pt] (.Tuple [a, b, c] k2 pt2) X.env = pure (some [x, y, z]) := by rfl) (hs : swapsWithSole [.Tuple [.Name x px, .Name y py, .Name z pz] kt pt] (.Tuple [a, b, c] k2 pt2) pos.line X.env = pure false := by rfl) :
    SD fl X Wx (.Assign [.Tuple [.Name x px, .Name y py, .Name z pz] kt pt] (.Tuple [a, b, c] k2 pt2) pos) (sPar [(i, bi), (j, bj), (l, bl)] as) :=
  par_of ha hk (fun ta pa => ⟨fun pins s σ H D I h => (ps_par3 hc hN hi hj hl hij hil hjl hx hy hz pa hw hs).run pins s σ H D I (by
    have e : (fun (vs : List V) (H1 : Hp) => vs.length = 3 ∧ D.nx (setL σ [i, j, l] vs) H1) = fun vs H1 => ∃ u v w, vs = [u, v, w] ∧ D.nx (((σ.set i (some u)).set j (some v)).set l (some w)) H1 := by
      funext vs H1
      apply propext
      constructor
      · rintro ⟨hl, h⟩
        match vs, hl, h with
        | [u, v, w], _, h => exact ⟨u, v, w, rfl, h⟩
      · rintro ⟨u, v, w, rfl, h⟩
        exact ⟨rfl, h⟩
    have h : ta σ H (fun (vs : List V) (H1 : Hp) => vs.length = 3 ∧ D.nx (setL σ [i, j, l] vs) H1) := h
    rw [e] at h
    exact h)⟩) rfl hml
/-! ### enumerate -/
def iEnumL (a : DE) : DI := a.bind fun x => match x with
  | .lst xs => M.pure ((rng 0 xs.length).zip xs |>.map fun p => D.tup [p.1, p.2])
  | _ => fun _ => .bad
theorem rng0_get {n i : Nat} (h : i < n) : (rng 0 (n : Int))[i]? = some (.int i) := by
  unfold rng
  rw [List.getElem?_map, List.getElem?_range (by omega)]
  show some (D.int (0 + (i : Int))) = some (D.int i)
  rw [Int.zero_add]
theorem rng0_len {n : Nat} : (rng 0 (n : Int)).length = n := by
  unfold rng
  rw [List.length_map, List.length_range]
  omega
theorem id_enum {elts : List Expr} {kk : Nat} {tpos : Pos} (hb : Bn X "enumerate" (.type "enumerate")) (ha : PD .s X Wx a ma) (hs : starEach [a] X.env = [(false, eval a X.env)] := by rfl) (hs2 : starEach [a] X.env = (false, eval a X.env) :: starEach [] X.env := by rfl) :
    ID X Wx (.Tuple elts kk tpos) (.Call (.Name "enumerate" p) [a] [] pos) (iEnumL ma) := by
  obtain ⟨ta, pa, qa⟩ := ha
  refine ⟨_, pi_enum hb.gl hb.mg (pa_cons pa pa_nil hs2) hs, fun F O env σ H R S w => ?_⟩
  refine qa F O env σ H _ S (w.bind.imp (fun dx e1 w1 x H1 S1 k1 p1 => ?_) fun _ _ _ z => z)
  cases p1 with
  | lst n1 h1 l1 =>
    rename_i aa vs xs
    refine ⟨_, _, rfl, .inl (.inl h1), w1 _ H1 S1 k1 (wk_pair (walk_enum.mono (fun H k => .inl (.inl (k.stay _ _ (fun z => n1 z.1) h1))) fun _ _ _ _ _ _ y => y) ?_ fun i d x y hd hx hy => ?_)⟩
    · rw [List.length_map, List.length_zip, rng0_len, l1.len]; omega
    · rw [List.getElem?_map] at hd
      cases hz : ((rng 0 (xs.length : Int)).zip xs)[i]? with
      | none => rw [hz] at hd; cases hd
      | some q =>
        rw [hz] at hd
        cases hd
        obtain ⟨q1, q2⟩ := List.getElem?_zip_eq_some.mp hz
        have hi : i < xs.length := (List.getElem?_eq_some_iff.mp q2).1
        rw [rng0_get hi] at q1
        obtain ⟨v, hv, r⟩ := l1.get q2
        rw [hy] at hv
        cases hv
        cases hx
        exact ⟨_, _, rfl, by rw [← Option.some.inj q1]; exact .int _, r⟩
  | _ => exact w1.elim
end
end AH
namespace HT
open PySem PySem.Spec PyProof.Rows
section
variable {prog : Program} {w : World} {A : Around} {E : Value → Shared → Prop} {s : Shared}
theorem sliceApplied_rev {sl : Addr} {vl vu vs : Value} {n : Nat} {Q : Int × Int × Nat → Shared → Prop} (hs : s.heap.IsSliceOf sl vl vu vs) (pl : IsPart vl none) (pu : IsPart vu none) (ps : IsPart vs (some (-1)))
    (h : Q ((n : Int) - 1, -1, n) s) : wpAny (model prog w) A (Builtin.Slice.sliceApplied (.ref sl) (pure (n : Int))) Q E s := by
  obtain ⟨os, hos, hcs, hds⟩ := id hs
  unfold Builtin.Slice.sliceApplied Builtin.Slice.sliceFields
  refine wpAny_bind (wpAny_bind (wpAny_field hos hds (x := vl) rfl (wpAny_bind (wpAny_field hos hds (x := vu) rfl (wpAny_bind (wpAny_field hos hds (x := vs) rfl (wpAny_pure ?_)))))))
  refine wpAny_bind (slicePart_ ps ?_)
  show wpAny _ _ (if ((-1 : Int) == 0) = true then _ else _) _ _ s
  rw [if_neg (by decide)]
  refine wpAny_bind (slicePart_ pl (wpAny_bind (slicePart_ pu (wpAny_bind (wpAny_pure ?_)))))
  show wpAny _ _ (pure ((n : Int) - 1, (-1 : Int), Builtin.Slice.slicePlaces ((n : Int) - 1) (-1) (-1))) _ _ s
  have e : Builtin.Slice.slicePlaces ((n : Int) - 1) (-1) (-1) = n := by
    unfold Builtin.Slice.slicePlaces
    rw [if_neg (by decide)]
    by_cases hn : n = 0
    · subst hn; decide
    · rw [if_pos (by omega)]
      have : ((n : Int) - 1 - -1 - 1) / (- -1) + 1 = n := by
        rw [show (- -1 : Int) = 1 by decide, Int.ediv_one]; omega
      rw [this]; rfl
  rw [e]
  exact wpAny_pure h
theorem getItem_tuple_rev {t sl : Addr} {items : Array Value} {vl vu vs : Value} {Q : Value → Shared → Prop} (ht : IsTup s.heap t items) (hs : s.heap.IsSliceOf sl vl vu vs) (pl : IsPart vl none) (pu : IsPart vu none) (ps : IsPart vs (some (-1)))
    (h : Q (.ref s.heap.objs.size) { s with heap := s.heap.push { cls := .type "tuple", data := .seq items.toList.reverse.toArray } })
    (hsz : items.size ≤ sizeLine) : wpAny (model prog w) A (getItem (.ref t) (.ref sl)) Q E s := by
  have htake : sizeOk (.seq items.toList.reverse.toArray) := by
    show items.toList.reverse.toArray.size ≤ sizeLine
    rw [List.size_toArray, List.length_reverse, Array.length_toList]
    exact hsz
  obtain ⟨os, hos, hcs, hds⟩ := id hs
  have hTs : s.TypeIs (.ref sl) "slice" := ⟨os, hos, hcs⟩
  unfold getItem
  try with_reducible refine wpAny_holding ?_
  first | refine wpAny_bind (wpAny_pure ?_) | skip
  refine wpAny_bind (wpAny_sequenceKey ht.typeIs (by decide) ?_)
  refine wpAny_bind (wpAny_callSpecial?_slot (name := Str.ofString "__getitem__") ht.typeIs PyProof.Rows.slot_tuple_getitem
    (wpAny_call_entry PyProof.Rows.slot_tuple_getitem ht.typeIs entry_tuple_getitem ?_ (args_tuple_getitem _ _)))
  show wpAny _ _ (Builtin.Tuple.tupleItemsOf (.ref t) >>= _) _ _ s
  refine wpAny_bind (tupleItemsOf_ ht ?_)
  refine wpAny_bind (wpAny_typeOf hTs ?_)
  rw [if_pos (by decide)]
  refine wpAny_bind (sliceApplied_rev hs pl pu ps ?_)
  have hno : ¬ (((((items.size : Int) - 1) == 0) && (-1 : Int) == 1 && items.size == items.size) = true) := by
    simp
  show wpAny _ _ (if ((((items.size : Int) - 1) == 0) && (-1 : Int) == 1 && items.size == items.size) = true then _ else _) _ _ s
  have pick : ((List.range items.size).filterMap fun (k : Nat) => items[(((items.size : Int) - 1) + (k : Int) * -1).toNat]?).toArray = items.toList.reverse.toArray := by
    have e : ((List.range items.size).filterMap fun (k : Nat) => items[(((items.size : Int) - 1) + (k : Int) * -1).toNat]?) = ((List.range items.size).map fun k => items.size - 1 - k).filterMap (items[·]?) := by
      rw [List.filterMap_map]
      have cg : ∀ (l : List Nat) (f g : Nat → Option Value), (∀ k ∈ l, f k = g k) → l.filterMap f = l.filterMap g := fun l f g h => by
        induction l with
        | nil => rfl
        | cons x l ih => rw [List.filterMap_cons, List.filterMap_cons, h x List.mem_cons_self, ih fun k hk => h k (List.mem_cons_of_mem _ hk)]
      refine cg _ _ _ fun k hk => ?_
      have := List.mem_range.mp hk
      show items[(((items.size : Int) - 1) + (k : Int) * -1).toNat]? = items[items.size - 1 - k]?
      have e : (((items.size : Int) - 1) + (k : Int) * -1).toNat = items.size - 1 - k := by omega
      rw [e]
    rw [e, PySem.W.krv_range, List.filterMap_reverse, PySem.W.krv_all]
  rw [if_neg hno, pick]
  first
    | exact wpAny_bind (m := Builtin.Tuple.tupleExact _) (wpAny_newObj_type (wpAny_pure ⟨_, rfl, wpAny_pure h⟩) htake)
    | exact wpAny_bind (m := Builtin.Tuple.tupleExact _) (wpAny_newObj_type (wpAny_bind (wpAny_pure (wpAny_pure ⟨_, rfl, wpAny_pure h⟩))) htake)
    | exact wpAny_bind (wpAny_bind (m := Builtin.Tuple.tupleExact _) (wpAny_newObj_type (wpAny_pure (wpAny_pure ⟨_, rfl, wpAny_pure h⟩)) htake))
    | exact wpAny_bind (wpAny_bind (m := Builtin.Tuple.tupleExact _) (wpAny_newObj_type (wpAny_pure ⟨_, rfl, wpAny_pure h⟩) htake))
end
end HT
namespace AH
open PySem PySem.Spec PyProof.Rows L2
variable [TheK]
section
variable {fl : Fl} {X : Cx} {Wx : WX} {e a b c d tg iter elt : Expr} {ma mb mc md : DE} {pos p : Pos} {st : Stmt} {rest : List Stmt} {m n : DS}
/-- xs[::-1] of a list or a tuple -/
def tRev (K : PySem.W.Frag) (te : TE) : TE := fun σ H Q => te σ H fun x H1 => ∃ a xs, x = .ref a ∧ ((SqL K H1 a xs ∧ ∀ p, H1 p = none → Q (.ref p) (upd H1 p (.lst xs.reverse))) ∨ (SqT K H1 a xs ∧ ∀ p, H1 p = none → Q (.ref p) (upd H1 p (.tup xs.reverse))))
theorem pe_rev {e : Expr} {te : TE} {k : Nat} {p1 p2 p3 pos : Pos} (he : PE X e te) : PE X (.Subscript e (.Slice none none (some (.UnaryOp .USub (.Constant (.int 1) k p1) p2)) p3) pos) (tRev X.K te) := by
  refine ⟨fun pins s σ H Q I h => ?_⟩
  refine Subscript_ (thn (he.run pins s σ H _ I h) fun v s1 ⟨x, H1, I1, r1, q1⟩ => ?_)
  obtain ⟨a, xs, ex, hx⟩ := q1
  subst ex
  cases r1
  have hst : PO X (some (.UnaryOp .USub (.Constant (.int 1) k p1) p2)) (tPart (tUn (rU fun i => .int (-i)) (tC (.int 1)))) := po_some (pe_un un_neg pe_int)
  refine wpAny_Slice (thn (po_none.run pins s1 σ H1 (fun o H2 => o = none ∧ H2 = H1) I1 ⟨rfl, rfl⟩) fun vl s2 ⟨l, H2, I2, pl, el, e2⟩ => ?_)
  subst el e2
  refine thn (po_none.run pins s2 σ H2 (fun o H3 => o = none ∧ H3 = H2) I2 ⟨rfl, rfl⟩) fun vu s3 ⟨u, H3, I3, pu, eu, e3⟩ => ?_
  subst eu e3
  refine thn (hst.run pins s3 σ H3 (fun o H4 => o = some (-1) ∧ H4 = H3) I3 ⟨1, rfl, -1, rfl, rfl, rfl⟩) fun vs s4 ⟨o, H4, I4, ps, eo, e4⟩ => ?_
  subst eo e4
  have I5 : Inv X pins σ H4 { s4 with heap := s4.heap.push { cls := .type "slice", data := .fields #[vl, vu, vs] } } := I4.kept (t' := s4.toks) fun b ob q => Heap.get?_push_of_some _ q
  show wpAny (model X.prog X.w) X.A (subscriptTail e (.Slice none none (some (.UnaryOp .USub (.Constant (.int 1) k p1) p2)) p3) (.ref a) (.ref s4.heap.objs.size)) (EP X pins σ Q) X.xe { s4 with heap := s4.heap.push { cls := .type "slice", data := .fields #[vl, vu, vs] } }
  rcases hx with ⟨hx, q⟩ | ⟨hx, q⟩
  · obtain ⟨its, r, ht, hz⟩ := I5.list hx
    have hlen := r.length
    refine tail_any (ops := [.ref a, .ref s4.heap.objs.size]) ht.isList.typeIs (PySem.slot_list_getitem.lookup) ?_ (by with_unfolding_all rfl)
    refine wpAny_getItem_list_slice ht.isList (Heap.IsSliceOf.new _ vl vu vs) pl pu ps (by decide) ?_ (by rw [List.size_toArray]; omega)
    rw [PySem.W.krv_pick]
    refine ⟨.ref _, _, I5.laid (t' := s4.toks) (o := .lst xs.reverse) (fun b ob q => Heap.get?_push_of_some _ q) (Nat.le_refl _) ?_, rfl, q _ (I5.hok.fresh (Nat.le_refl _))⟩
    exact ⟨by rw [List.length_reverse]; exact hz, _, 0, r.reverse, Heap.get?_push_size _ rfl⟩
  · obtain ⟨its, r, ht, hz⟩ := I5.tuple hx
    have hlen := r.length
    refine tail_any (ops := [.ref a, .ref s4.heap.objs.size]) ht.typeIs (PyProof.Rows.slot_tuple_getitem.lookup) ?_ (by with_unfolding_all rfl)
    refine HT.getItem_tuple_rev ht (Heap.IsSliceOf.new _ vl vu vs) pl pu ps ?_ (by rw [List.size_toArray]; omega)
    refine ⟨.ref _, _, I5.laid (t' := s4.toks) (o := .tup xs.reverse) (fun b ob q => Heap.get?_push_of_some _ q) (Nat.le_refl _) ?_, rfl, q _ (I5.hok.fresh (Nat.le_refl _))⟩
    exact ⟨by rw [List.length_reverse]; exact hz, _, r.reverse, IsTup.new _ _⟩
def dRev : D → Rv D
  | .lst xs => .ok (.lst xs.reverse)
  | .tup xs => .ok (.tup xs.reverse)
  | _ => .bad
theorem RepL.rev {W : Pr} {H : Hp} : ∀ {vs : List V} {xs : List D}, RepL W H vs xs → RepL W H vs.reverse xs.reverse
  | _, _, .nil => .nil
  | _, _, .cons r l => by
    rw [List.reverse_cons, List.reverse_cons]
    exact (RepL.rev l).app (.cons r .nil)
theorem pd_rev {k : Nat} {p1 p2 p3 : Pos} (ha : PD .s X Wx a ma) : PD .s X Wx (.Subscript a (.Slice none none (some (.UnaryOp .USub (.Constant (.int 1) k p1) p2)) p3) pos) (e1 dRev ma) := by
  obtain ⟨ta, pa, qa⟩ := ha
  refine ⟨_, pe_rev pa, fun F O env σ H Q S w => ?_⟩
  refine qa F O env σ H _ S (w.bind.imp (fun dx e1 w1 x H1 S1 k1 p1 => ?_) fun _ _ _ z => z)
  obtain ⟨dz, ef, q⟩ := w1.of
  cases p1 with
  | lst n1 h1 l1 =>
    cases ef
    exact ⟨_, _, rfl, .inl ⟨.inl (.inl h1), fun p hp => q _ _ (S1.new' hp) (k1.trans (Ke.new hp)) (.lst (S1.noW hp) upd_same (l1.rev.mono (Ke.new hp)))⟩⟩
  | tup n1 h1 l1 =>
    cases ef
    exact ⟨_, _, rfl, .inr ⟨.inl (.inl h1), fun p hp => q _ _ (S1.new' hp) (k1.trans (Ke.new hp)) (.tup (S1.noW hp) upd_same (l1.rev.mono (Ke.new hp)))⟩⟩
  | _ => cases ef
end
end AH
namespace AH
open PySem PySem.Spec PyProof.Rows L2
variable [TheK]
/-! ### a module's defs -/
/-- a def of the text by its name -/
def Fu (K : PySem.W.Frag) (mg : Str → Option Value) (x : Str) (st : Stmt) : Prop := ∃ (f : Addr) (fd : FuncData), FunD K x x (defArgs st) (defBody st) (defScope st) [] [] f fd ∧ mg x = some (.ref f)
/-- .. and what it is known to do -/
structure Kn (P : Program) (w : World) (K : PySem.W.Frag) (mg : Str → Option Value) (base : Heap) (fl : Fl) (x : Str) (st : Stmt) (N ps : List Str) (ms : List Md) (g : DF) (k : Nat) : Prop where
  ex : ∃ (f : Addr) (fd : FuncData), FnOk P w K mg base (L2.CX P w) k f fd ps (spD fl K N ms g) ∧ mg x = some (.ref f) ∧ FunD K x x (defArgs st) (defBody st) (defScope st) [] [] f fd ∧ Binds K fd ps []
  nw : fl ≠ .w
  le : ms.length ≤ N.length
def BindsOk (x : Str) (st : Stmt) (ps : List Str) : Prop := ∀ (kV doc pm : Value) (an : Option Addr) (cdv ct : Value) (us : List Value), us.length = ps.length → bindArgs (PySem.W.fnOf x x (defArgs st) (defBody st) (defScope st) .none kV doc pm an cdv ct) ⟨us, []⟩ = pure (ps.zip us)
def KBindsOk (x : Str) (st : Stmt) (ps : List Str) (n : Nat) (ks : List Str) (ix : List Nat) : Prop := ∀ (kV doc pm : Value) (an : Option Addr) (cdv ct : Value) (us ws : List Value), us.length = n → ws.length = ks.length → bindArgs (PySem.W.fnOf x x (defArgs st) (defBody st) (defScope st) .none kV doc pm an cdv ct) ⟨us, ks.zip ws⟩ = pure (ps.zip (perm ix (us ++ ws)))
section
variable {P : Program} {w : World} {K : PySem.W.Frag} {mg : Str → Option Value} {base : Heap} {fl : Fl} {x : Str} {st : Stmt} {N ps : List Str} {ms : List Md} {g : DF} {k : Nat} {m : DS}
/-- THE RULE for a def of the text -/
theorem kn_of (F : Fu K mg x st) (S : FnScope N ps (defScope st)) (hps : ps.length = ms.length) (hb : BindsOk x st ps) (hf : (fl = .s ∧ g = mkF N.length ms m) ∨ g = mkR N.length ms m)
    (hbody : ∀ (f : Addr) (cdv : Value) (A : Around) (outer : List PySem.Env) (s : Shared) (H : Hp) (E : XK), Room k (cxD P w K mg base N x (defScope st) f cdv A outer s H E).A → Takes (cxD P w K mg base N x (defScope st) f cdv A outer s H E) (fun cls d _ H => E cls d H) →
      PassesOwn (model P w) (cxD P w K mg base N x (defScope st) f cdv A outer s H E).A (cxD P w K mg base N x (defScope st) f cdv A outer s H E).env (cxD P w K mg base N x (defScope st) f cdv A outer s H E).xe →
      SsD fl (cxD P w K mg base N x (defScope st) f cdv A outer s H E) (fun cls d _ H => E cls d H) (defBody st) m) (hfl : fl ≠ .w := by simp) (hle : ms.length ≤ N.length := by simp) : Kn P w K mg base fl x st N ps ms g (k + 1) := by
  obtain ⟨f, fd, F, hm⟩ := F
  refine ⟨⟨f, fd, ?_, hm, F, F.bindsN hb⟩, hfl, hle⟩
  refine F.ok S (fun vs H Q E h => by rw [hps]; exact h.1) (fun cdv A outer s H vs Q E hr h => ?_)
  obtain ⟨hl, ds, F', O, SS, h0, hls, h⟩ := h
  obtain ⟨t, pt, qt⟩ := hbody f cdv A outer s H E hr (takes_of (E₁ := fun e' s'' => L2.CX P w outer H s E e' s'') rfl rfl rfl rfl) (passes_of (K := fun e s'' => L2.CX P w outer H s E e s'') (E₁ := fun e' s'' => L2.CX P w outer H s E e' s'') rfl)
  exact ⟨t, pt, qt F' O _ (L2.start N vs) H _ SS (body_wish (O := O) h0 hls hf h)⟩
theorem kn_bad (F : Fu K mg x st) (hps : ps.length = ms.length) (hb : BindsOk x st ps) (hfl : fl ≠ .w := by simp) (hle : ms.length ≤ N.length := by simp) : Kn P w K mg base fl x st N ps ms (fun _ => .bad) k := by
  obtain ⟨f, fd, F, hm⟩ := F
  exact ⟨⟨f, fd, fn_bad hps, hm, F, F.bindsN hb⟩, hfl, hle⟩
theorem Kn.fn {X : Cx} (F : Kn X.prog X.w X.K X.mg X.base fl x st N ps ms g k) {j : Nat} (hr : Room j X.A) (h : k ≤ j := by decide) : Fn X fl x N ps ms g := by
  obtain ⟨⟨f, fd, a, b, c, d⟩, e1, e2⟩ := F
  exact ⟨⟨k, f, fd, a, hr.mono h, b, c.kp, d⟩, e1, e2⟩
theorem Kn.fnK {X : Cx} {n : Nat} {ks : List Str} {ix : List Nat} (F : Kn X.prog X.w X.K X.mg X.base fl x st N ps ms g k) {j : Nat} (hr : Room j X.A) (hk : KBindsOk x st ps n ks ix) (nb : (ms.all fun m => m != .bor) = true := by decide) (h : k ≤ j := by decide) : FnK X fl x N ps ms g n ks ix := by
  obtain ⟨⟨f, fd, a, b, c, d⟩, e1, e2⟩ := F
  refine ⟨⟨k, f, fd, a, hr.mono h, b, c.kp, fun s us ws _ l1 l2 => ?_⟩, e1, e2, nb⟩
  obtain ⟨oc, od, dV, kV, doc, pm, an, cdv, ct, osl, rfl, lk, hcd, hD, hK⟩ := c.ex
  rcases hD with ⟨_, rfl⟩ | ⟨e, _⟩
  · exact .of_eq (hk kV doc pm an cdv ct us ws l1 l2)
  · exact absurd rfl e
end
theorem tkNone {X : Cx} : Takes X W0 := fun u s' ⟨_, _, _, _, _, _, _, _, _, _, _, _, _, _, _, _, w⟩ => w.elim
theorem room_u {k : Nat} {A : Around} (r : Room k A) : A.units + 65 < cLine := by have := r.un; omega
section
variable {X : Cx}
theorem bn_len (g : Gl X "len") (m : X.mg "len" = none) : Bn X "len" (.builtin "len") := ⟨g, m, boot_len, by decide, by decide⟩
theorem bn_any {x : Str} {u : Value} (g : Gl X x) (m : X.mg x = none) (b : bootBuiltins x = some u) (h1 : x ≠ "__name__" := by decide) (h2 : (x == ("__debug__" : Str)) = false := by decide) : Bn X x u := ⟨g, m, b, h1, h2⟩
end
end AH
namespace AH
open PySem PySem.Spec PyProof.Rows L2
variable [TheK]
/-! lengths of argument lists -/
theorem aLen0 {e : Env} {ds : List D} {e' : Env} (h : aNil e = .ok ds e') : ds.length = 0 := by cases h; rfl
theorem aLenS {a : DE} {r : DL} {n : Nat} (hr : ∀ (e : Env) ds e', r e = .ok ds e' → ds.length = n) (e : Env) (ds : List D) (e' : Env) (h : aCons a r e = .ok ds e') : ds.length = n + 1 := by
  unfold aCons M.bind at h
  cases q : a e with
  | ok x e1 =>
    rw [q] at h
    cases q2 : r e1 with
    | ok xs e2 =>
      simp only [q2] at h
      cases h
      rw [List.length_cons, hr _ _ _ q2]
    | ex c fs e2 => simp only [q2] at h; cases h
    | bad => simp only [q2] at h; cases h
  | ex c fs e1 => rw [q] at h; cases h
  | bad => rw [q] at h; cases h
theorem permL {ix : List Nat} {n : Nat} {ds : List D} (h : ds.length = n) {k : Nat} (hp : (perm ix (List.range n)).length = k) : k = (perm ix ds).length := by
  rw [← hp]
  exact perm_len ix (by rw [List.length_range, h])
end AH
namespace AH
open PySem PySem.Spec PyProof.Rows L2
variable [TheK]
theorem fund_eq {K : PySem.W.Frag} {x qual : Str} {params : Arguments} {body : List Stmt} {scope : Scope} {dvs dvs' : List V} {kws kws' : List (Str × V)} {f : Addr} {fd fd' : FuncData} (a : FunD K x qual params body scope dvs kws f fd) (b : FunD K x qual params body scope dvs' kws' f fd') : fd = fd' := by
  obtain ⟨oc, od, dV, kV, doc, pm, an, cdv, ct, osl, e1, lk, _⟩ := a.ex
  obtain ⟨oc', od', dV', kV', doc', pm', an', cdv', ct', osl', e2, lk', _⟩ := b.ex
  rw [lk] at lk'
  injection lk' with z
  injection z with z1 z2 z3 z4
  injection z3
/-- the end of a law, whatever its defs may let out -/
theorem walk_ofW {l : PySem.W.OpenLaw} {n k : Nat} {q : Program} {loose : List Str} {XP : (Str → Option Value) → Heap → Prop} {YP : World → Heap → Prop} {d : DefRec} {x : Str}
    (hn : l.most = some n) (hn2 : n ≤ sizeLine) (hdf : d.params.defaults = []) (hr : Room k callerA)
    (F : ∀ (w : World) (mg : Str → Option Value) (fa : Addr) (h : Heap), YP w h → h.Ns mainGlobals mg → mg d.name = some (.ref fa) →
      ∃ (K : PySem.W.Frag) (fd : FuncData) (sp : Sp), K.In h ∧ (∀ (s : Shared) (u : Value), BindsTo s fd ⟨[u], []⟩ [(x, u)]) ∧ (∀ (H : Hp) (a : Addr) (ns : List Int), ns.length ≤ n → Only H → SqL K H a (ns.map V.int) → sp [.ref a] H (fun v _ => v = .bl true) fun _ _ _ => False) ∧
        ∀ base : Heap, K.In base → base.Ns mainGlobals mg → FnOk l.prog w K mg base (L2.CX l.prog w) k fa fd [x] sp) : PySem.W.WalkO q loose XP YP l.row.toRowW d [] (fun f vs => PySem.call f vs) := by
  refine Att.attach_call hn hdf fun w s₀ s₁ mg mb fa o pm cd doc a vs ns G Y ho hd hcd hmg hobj hints hlen hg => ?_
  obtain ⟨K, fd, sp, KX, hb, hsp, hF⟩ := F w mg fa _ Y G.T.g hmg
  refine law_call KX G.T.g G.T.b G.T.builtins G.T.nolimit hg hobj hints (Nat.le_trans hlen hn2) hr hF hb (fun H hO hS => hsp H a ns hlen hO hS) fun H e s' c => ?_
  obtain ⟨_, _, _, _, _, _, _, _, _, _, _, _, z⟩ := c
  exact z
end AH
namespace AH
/-- keeps simp from taking an equation as one by definition -/
theorem nr {α : Sort _} {a b : α} (h : a = b) : a = b := h
open PySem L2
variable [TheK]
/-! ### what a run comes to -/
def Run {α : Type} (m : M α) (e : Env) (Q : α → Env → Prop) : Prop := match m e with
  | .ok a e1 => Q a e1
  | _ => False
theorem run_ok {α : Type} {m : M α} {e : Env} {Q : α → Env → Prop} {a : α} {e1 : Env} (h : m e = .ok a e1) (q : Q a e1) : Run m e Q := by
  unfold Run; rw [h]; exact q
theorem Run.of {α : Type} {m : M α} {e : Env} {Q : α → Env → Prop} (h : Run m e Q) : ∃ a e1, m e = .ok a e1 ∧ Q a e1 := by
  unfold Run at h
  cases q : m e with
  | ok a e1 => rw [q] at h; exact ⟨a, e1, rfl, h⟩
  | ex c fs e1 => rw [q] at h; exact h.elim
  | bad => rw [q] at h; exact h.elim
theorem Run.imp {α : Type} {m : M α} {e : Env} {Q Q' : α → Env → Prop} (h : Run m e Q) (q : ∀ a e1, Q a e1 → Q' a e1) : Run m e Q' := by
  obtain ⟨a, e1, h1, h2⟩ := h.of
  exact run_ok h1 (q a e1 h2)
theorem run_bind {α β : Type} {m : M α} {f : α → M β} {e : Env} {Q : β → Env → Prop} (h : Run m e fun a e1 => Run (f a) e1 Q) : Run (m.bind f) e Q := by
  obtain ⟨a, e1, h1, h2⟩ := h.of
  unfold Run M.bind
  rw [h1]
  exact h2
theorem bind_ok {α β : Type} {m : M α} {f : α → M β} {e e1 : Env} {a : α} (h : m e = .ok a e1) : (m.bind f) e = f a e1 := by
  unfold M.bind; rw [h]
theorem run_seq {a b : DS} {e : Env} {Q : Out → Env → Prop} (h : Run a e fun o e1 => (o = .nx ∧ Run b e1 Q) ∨ (o ≠ .nx ∧ Q o e1)) : Run (sSeq a b) e Q := by
  refine run_bind (h.imp fun o e1 h => ?_)
  rcases h with ⟨rfl, h⟩ | ⟨h, q⟩
  · exact h
  · cases o with
    | nx => exact absurd rfl h
    | _ => exact q
theorem seq_nx {a b : DS} {e e1 : Env} (h : a e = .ok .nx e1) : sSeq a b e = b e1 := by
  unfold sSeq M.bind; rw [h]
theorem seq_rt {a b : DS} {e e1 : Env} {d : D} (h : a e = .ok (.rt d) e1) : sSeq a b e = .ok (.rt d) e1 := by
  unfold sSeq M.bind; rw [h]; rfl
theorem if_ok1 {t : DT} {a b : DS} {e e1 : Env} {k : Bool} (h : t e = .ok k e1) : sIf t a b e = if k then a e1 else b e1 := by
  unfold sIf M.bind; rw [h]; cases k <;> rfl
/-! ### the words, run -/
section
variable {α β : Type} {e : Env} {i j : Nat} {a b c d : DE} {t u : DT} {x y : D} {xs ys : List D} {m n : DS} {g : DG}
@[simp] theorem x_bind {m : M α} {f : α → M β} : M.bind m f e = (match m e with | .ok a e1 => f a e1 | .ex c fs e1 => .ex c fs e1 | .bad => .bad) := nr rfl
@[simp] theorem x_pure {a : α} : M.pure a e = .ok a e := nr rfl
@[simp] theorem x_of1 {a : α} : M.of (.ok a) e = .ok a e := nr rfl
@[simp] theorem x_of2 : (M.of (.bad : Rv α)) e = .bad := nr rfl
@[simp] theorem x_var : eVar i e = (match sl e i with | .val d => .ok d e | _ => .bad) := nr rfl
@[simp] theorem x_tmp : eTmp i e = (match sl e i with | .val d => .ok d e | .ro d => .ok d e | .own xs => .ok (.lst xs) e | .bor xs => .ok (.lst xs) e | .odc kvs => .ok (.dic kvs) e | .ldc kvs => .ok (.dic kvs) e | .no => .bad) := nr rfl
@[simp] theorem x_c : eC x e = .ok x e := nr rfl
@[simp] theorem x_sl0 {s : Sl} : sl (s :: e) 0 = s := nr rfl
@[simp] theorem x_slS {s : Sl} : sl (s :: e) (i + 1) = sl e i := nr rfl
@[simp] theorem x_put0 {s s' : Sl} : put (s :: e) 0 s' = s' :: e := nr rfl
@[simp] theorem x_putS {s s' : Sl} : put (s :: e) (i + 1) s' = s :: put e i s' := nr rfl
@[simp] theorem x_e2 {f : D → D → Rv D} : e2 f a b e = M.bind a (fun x => M.bind b fun y => M.of (f x y)) e := nr rfl
@[simp] theorem x_e1 {f : D → Rv D} : e1 f a e = M.bind a (fun x => M.of (f x)) e := nr rfl
@[simp] theorem x_e2L {f : D → D → Rv D} : e2L f i b e = M.bind (eTmp i) (fun _ => M.bind b fun y => M.bind (eTmp i) fun x => M.of (f x y)) e := nr rfl
@[simp] theorem x_c2 {f : D → D → Rv Bool} : c2 f a b e = M.bind a (fun x => M.bind b fun y => M.of (f x y)) e := nr rfl
@[simp] theorem x_c2L {f : D → D → Rv Bool} : c2L f i b e = M.bind (eTmp i) (fun _ => M.bind b fun y => M.bind (eTmp i) fun x => M.of (f x y)) e := nr rfl
@[simp] theorem x_eB : eB t e = M.bind t (fun b => M.pure (.bl b)) e := nr rfl
@[simp] theorem x_tV : tV a e = M.bind a (fun x => match x with | .bl b => M.pure b | _ => fun _ => .bad) e := nr rfl
@[simp] theorem x_tNot : tNot t e = M.bind t (fun b => M.pure (!b)) e := nr rfl
@[simp] theorem x_tAnd : AH.tAnd t u e = M.bind t (fun x => if x then u else M.pure false) e := nr rfl
@[simp] theorem x_tOr : AH.tOr t u e = M.bind t (fun x => if x then M.pure true else u) e := nr rfl
@[simp] theorem x_tIsN : tIsN a e = M.bind a (fun x => M.pure (dIsN x)) e := nr rfl
@[simp] theorem x_tNotN : tNotN a e = M.bind a (fun x => M.pure (!dIsN x)) e := nr rfl
@[simp] theorem x_c3 {f g : D → D → Rv Bool} : c3 f g a b c e = M.bind a (fun x => M.bind b fun y => (M.of (f x y)).bind fun k => if k then M.bind c fun z => M.of (g y z) else M.pure false) e := nr rfl
@[simp] theorem x_eIf : eIf t a b e = M.bind t (fun k => if k then a else b) e := nr rfl
@[simp] theorem x_eAnd : eAnd a b e = M.bind (tV a) (fun k => if k then b else M.pure (.bl false)) e := nr rfl
@[simp] theorem x_eOr : eOr a b e = M.bind (tV a) (fun k => if k then M.pure (.bl true) else b) e := nr rfl
@[simp] theorem x_eNot : eNot a e = M.bind (tV a) (fun k => M.pure (.bl (!k))) e := nr rfl
@[simp] theorem x_eOrT : eOrT a b e = M.bind a (fun x => (M.of (truth x)).bind fun k => if k then M.pure x else b) e := nr rfl
@[simp] theorem x_aNil : aNil e = .ok [] e := nr rfl
@[simp] theorem x_aCons {r : DL} : aCons a r e = M.bind a (fun x => M.bind r fun xs => M.pure (x :: xs)) e := nr rfl
@[simp] theorem x_eTup {r : DL} : eTup r e = M.bind r (fun xs => if lenOk xs.length then M.pure (.tup xs) else fun _ => .bad) e := nr rfl
@[simp] theorem x_eLst {r : DL} : eLst r e = M.bind r (fun xs => if lenOk xs.length then M.pure (.lst xs) else fun _ => .bad) e := nr rfl
@[simp] theorem x_oNone : oNone e = .ok none e := nr rfl
@[simp] theorem x_oSome : oSome a e = M.bind a (fun x => match x with | .int i => M.pure (some i) | _ => fun _ => .bad) e := nr rfl
@[simp] theorem x_eSl {lo hi : DO} : eSl a lo hi e = M.bind a (fun x => M.bind lo fun l => M.bind hi fun h => M.of (dSl x l h)) e := nr rfl
@[simp] theorem x_eSlN {lo hi : DO} : eSlN i lo hi e = M.bind (eTmp i) (fun _ => M.bind lo fun l => M.bind hi fun h => M.bind (eTmp i) fun x => M.of (dSlL x l h)) e := nr rfl
@[simp] theorem x_isi {t : Ty} : eIsi t a e = M.bind a (fun x => if isExc x then (fun _ => .bad) else M.pure (.bl (isi t x))) e := nr rfl
@[simp] theorem x_ex1 : isExc .non = false := nr rfl
@[simp] theorem x_ex2 {k : Bool} : isExc (.bl k) = false := nr rfl
@[simp] theorem x_ex3 {k : Int} : isExc (.int k) = false := nr rfl
@[simp] theorem x_ex4 {k : Str} : isExc (.str k) = false := nr rfl
@[simp] theorem x_ex5 : isExc (.tup xs) = false := nr rfl
@[simp] theorem x_ex6 : isExc (.lst xs) = false := nr rfl
@[simp] theorem x_ex7 {k : Str} : isExc (.obj k) = false := nr rfl
@[simp] theorem x_ex8 {k : List (List Key × D)} : isExc (.dic k) = false := nr rfl
@[simp] theorem x_isi2 {t u : Ty} : eIsi2 t u a e = M.bind a (fun x => if isPy x then M.pure (.bl (isi t x || isi u x)) else fun _ => .bad) e := nr rfl
@[simp] theorem x_py1 : isPy .non = true := nr rfl
@[simp] theorem x_py2 {k : Bool} : isPy (.bl k) = true := nr rfl
@[simp] theorem x_py3 {k : Int} : isPy (.int k) = true := nr rfl
@[simp] theorem x_py4 {k : Str} : isPy (.str k) = true := nr rfl
@[simp] theorem x_py5 : isPy (.tup xs) = true := nr rfl
@[simp] theorem x_py6 : isPy (.lst xs) = true := nr rfl
@[simp] theorem x_iSeq : iSeq a e = M.bind a (fun x => match x with | .lst xs => M.pure xs | .tup xs => M.pure xs | _ => fun _ => .bad) e := nr rfl
@[simp] theorem x_iZip : AH.iZip a b e = M.bind a (fun x => M.bind b fun y => match x, y with | .lst xs, .lst ys => M.pure (pairs xs ys) | .tup xs, .tup ys => M.pure (pairs xs ys) | _, _ => fun _ => .bad) e := nr rfl
@[simp] theorem x_gN : gN i x e = if isOwn (sl e i) then .bad else .ok () (put e i (.val x)) := nr rfl
@[simp] theorem x_gsNil : gsNil [] e = .ok () e := nr rfl
@[simp] theorem x_gsCons {r : DGs} : gsCons g r (x :: xs) e = M.bind (g x) (fun _ => r xs) e := nr rfl
@[simp] theorem x_gT1 {r : DGs} : gT r (.tup xs) e = r xs e := nr rfl
@[simp] theorem x_gT2 {r : DGs} : gT r (.lst xs) e = r xs e := nr rfl
@[simp] theorem x_sNil : sNil e = .ok .nx e := nr rfl
@[simp] theorem x_sSeq : sSeq m n e = (match m e with | .ok .nx e1 => n e1 | .ok o e1 => .ok o e1 | .ex c fs e1 => .ex c fs e1 | .bad => .bad) := by
  unfold sSeq M.bind
  cases m e with
  | ok o e1 => cases o <;> rfl
  | _ => rfl
@[simp] theorem x_sAsg : sAsg a g e = M.bind a (fun x => M.bind (g x) fun _ => M.pure .nx) e := nr rfl
@[simp] theorem x_sAsgN : sAsgN i a e = M.bind a (fun x => fun e => if isFix (sl e i) then .bad else .ok .nx (put e i (.val x))) e := nr rfl
@[simp] theorem x_sOwn : sOwn i a e = M.bind a (fun x => match x with | .lst xs => fun e => if isFix (sl e i) || !decide (i < e.length) then .bad else .ok .nx (put e i (.own xs)) | _ => fun _ => .bad) e := nr rfl
@[simp] theorem x_sRelL : sRelL i e = (match sl e i with | .own xs => .ok .nx (put e i (.val (.lst xs))) | _ => .bad) := nr rfl
@[simp] theorem x_sIf : sIf t m n e = M.bind t (fun k => if k then m else n) e := nr rfl
@[simp] theorem x_sRet : sRet a e = M.bind a (fun x => M.pure (.rt x)) e := nr rfl
@[simp] theorem x_sRetN : sRetN e = .ok (.rt .non) e := nr rfl
@[simp] theorem x_sRetO : sRetO i e = (match sl e i with | .own xs => .ok (.rt (.lst xs)) e | _ => .bad) := nr rfl
@[simp] theorem x_sExpr : sExpr a e = M.bind a (fun _ => M.pure .nx) e := nr rfl
@[simp] theorem x_ownL : ownL i e = (match sl e i with | .own xs => .ok xs e | .bor xs => .ok xs e | _ => .bad) := nr rfl
@[simp] theorem x_sApp : sApp i a e = M.bind (ownL i) (fun _ => M.bind a fun x => M.bind (ownL i) fun xs => fun e => if lenOk (xs.length + 1) then .ok .nx (putL e i (xs ++ [x])) else .bad) e := nr rfl
@[simp] theorem x_sSetL : sSetL i a b e = M.bind b (fun x => M.bind (ownL i) fun _ => M.bind a fun k => M.bind (ownL i) fun xs => match k with | .int k => (match ixN xs.length k with | some n => fun e => .ok .nx (putL e i (xs.set n x)) | none => fun _ => .bad) | _ => fun _ => .bad) e := nr rfl
@[simp] theorem x_sFor {it : DI} : sFor it g m e = M.bind it (fun xs => loop g m xs) e := nr rfl
@[simp] theorem x_putL : putL e i ys = put e i (match sl e i with | .own _ => .own ys | .bor _ => .bor ys | s => s) := nr rfl
@[simp] theorem x_isFix1 : isFix .no = false := nr rfl
@[simp] theorem x_isFix2 : isFix (.val x) = false := nr rfl
@[simp] theorem x_isFix3 : isFix (.own xs) = false := nr rfl
@[simp] theorem x_isFix4 : isFix (.ro x) = false := nr rfl
@[simp] theorem x_isOwn1 : isOwn .no = false := nr rfl
@[simp] theorem x_isOwn2 : isOwn (.val x) = false := nr rfl
@[simp] theorem x_isOwn3 : isOwn (.ro x) = false := nr rfl
@[simp] theorem x_yes : tYes e = .ok true e := nr rfl
@[simp] theorem x_isN1 : dIsN .non = true := nr rfl
@[simp] theorem x_ix0 : atI (x :: xs) 0 = some x := by
  unfold atI ixN; simp
@[simp] theorem x_ix1 : atI (x :: y :: xs) 1 = some y := by
  have h : ixN (x :: y :: xs).length 1 = some 1 := by unfold ixN; rw [if_pos (by decide), if_pos (by simp; omega)]; rfl
  unfold atI; rw [h]; rfl
@[simp] theorem x_ix2 {z : D} : atI (x :: y :: z :: xs) 2 = some z := by
  have h : ixN (x :: y :: z :: xs).length 2 = some 2 := by unfold ixN; rw [if_pos (by decide), if_pos (by simp; omega)]; rfl
  unfold atI; rw [h]; rfl
end
theorem rng1_ok {a : DE} {e e1 : Env} {j : Int} (ha : a e = .ok (.int j) e1) (h : rngOk 0 j = true) : AH.iRng1 a e = .ok (rng 0 j) e1 := by
  unfold AH.iRng1
  rw [bind_ok ha]
  show (if rngOk 0 j = true then M.pure (rng 0 j) else fun _ => .bad) e1 = _
  rw [if_pos h]
  rfl
theorem rng2_ok {a b : DE} {e e1 e2 : Env} {i j : Int} (ha : a e = .ok (.int i) e1) (hb : b e1 = .ok (.int j) e2) (h : rngOk i j = true) : AH.iRng2 a b e = .ok (rng i j) e2 := by
  unfold AH.iRng2
  rw [bind_ok ha, bind_ok hb]
  show (if rngOk i j = true then M.pure (rng i j) else fun _ => .bad) e2 = _
  rw [if_pos h]
  rfl
/-- a loop that goes on to its end -/
theorem run_loop {g : DG} {b : DS} (I : List D → Env → Prop) : ∀ {xs : List D} {e : Env}, I xs e → (∀ x r e, x ∈ xs → I (x :: r) e → Run (g x) e fun _ e1 => Run b e1 fun o e2 => (o = .nx ∨ o = .ct) ∧ I r e2) → Run (loop g b xs) e fun o e2 => o = .nx ∧ I [] e2
  | [], e, h, _ => run_ok (a := .nx) (e1 := e) rfl ⟨rfl, h⟩
  | x :: xs, e, h, st => by
    refine run_bind ((st x xs e List.mem_cons_self h).imp fun _ e1 h1 => run_bind (h1.imp fun o e2 h2 => ?_))
    obtain ⟨ho, hI⟩ := h2
    have ih := run_loop I hI fun y r e hy => st y r e (List.mem_cons_of_mem _ hy)
    rcases ho with rfl | rfl <;> exact ih
/-! ### comprehensions that change nothing -/
theorem back_wipe (e : Env) : ∀ vs : List Nat, back e (wipeE e vs) vs = e := fun vs => by
  apply List.ext_getElem?
  intro j
  have sl_eq : ∀ (a b : Env), a.length = b.length → (∀ j, sl a j = sl b j) → a = b := by
    intro a
    induction a with
    | nil => intro b h _; cases b with
      | nil => rfl
      | cons _ _ => cases h
    | cons x a ih => intro b h hs; cases b with
      | nil => cases h
      | cons y b =>
        have e0 : x = y := hs 0
        rw [e0, ih b (by simpa using h) fun j => hs (j + 1)]
  have l1 : (wipeE e vs).length = e.length := put_len' e vs
  rw [sl_eq (back e (wipeE e vs) vs) e (by rw [back_len, l1]) fun j => by
    rw [sl_back l1.symm, sl_wipe]
    split <;> rfl]
theorem compL_pure {vs : List Nat} {e0 ew : Env} {g : DG} {t : DT} {a : DE} (f : D → Option D) : ∀ {xs : List D}, (∀ x ∈ xs, ∃ e1, g x ew = .ok () e1 ∧ wipeE e1 vs = ew ∧ ((t e1 = .ok false e1 ∧ f x = none) ∨ ∃ y, t e1 = .ok true e1 ∧ a e1 = .ok y e1 ∧ f x = some y)) → compL vs e0 g t a xs ew = .ok (xs.filterMap f) ew
  | [], _ => rfl
  | x :: xs, h => by
    obtain ⟨e1, h1, h2, h3⟩ := h x List.mem_cons_self
    have ih := compL_pure (e0 := e0) f fun y hy => h y (List.mem_cons_of_mem _ hy)
    unfold compL
    rw [bind_ok h1, List.filterMap_cons]
    rcases h3 with ⟨h3, h4⟩ | ⟨y, h3, h4, h5⟩
    · rw [bind_ok h3, h4]
      show ((compL vs e0 g t a xs).bind fun zs => M.pure ([] ++ zs)) (wipeE e1 vs) = _
      rw [h2, bind_ok ih]
      rfl
    · rw [bind_ok h3, h5]
      show (((a.bind fun y => M.pure [y])).bind fun ys => fun e1 => ((compL vs e0 g t a xs).bind fun zs => M.pure (ys ++ zs)) (wipeE e1 vs)) e1 = _
      rw [bind_ok (show (a.bind fun y => M.pure [y]) e1 = .ok [y] e1 by rw [bind_ok h4]; rfl), h2, bind_ok ih]
      rfl
theorem eLc_pure {vs : List Nat} {it : DI} {g : DG} {t : DT} {a : DE} {e : Env} {xs : List D} (f : D → Option D) (hi : it e = .ok xs e) (hv : (vs.any fun v => isOwn (sl e v)) = false) (hl : xs.length ≤ 100000)
    (h : ∀ x ∈ xs, ∃ e1, g x (wipeE e vs) = .ok () e1 ∧ wipeE e1 vs = wipeE e vs ∧ ((t e1 = .ok false e1 ∧ f x = none) ∨ ∃ y, t e1 = .ok true e1 ∧ a e1 = .ok y e1 ∧ f x = some y)) : eLc vs it g t a e = .ok (.lst (xs.filterMap f)) e := by
  unfold eLc
  rw [bind_ok hi]
  have hl' : lenOk xs.length = true := decide_eq_true hl
  simp only [hv, hl', Bool.not_true, Bool.or_self]
  unfold noX
  rw [compL_pure (e0 := e) f h]
  show R.ok (D.lst (xs.filterMap f)) (back e (wipeE e vs) vs) = _
  rw [back_wipe]
/-- .. without a test -/
theorem eLc_map {vs : List Nat} {it : DI} {g : DG} {a : DE} {e : Env} {xs : List D} (f : D → D) (hi : it e = .ok xs e) (hv : (vs.any fun v => isOwn (sl e v)) = false) (hl : xs.length ≤ 100000)
    (h : ∀ x ∈ xs, ∃ e1, g x (wipeE e vs) = .ok () e1 ∧ wipeE e1 vs = wipeE e vs ∧ a e1 = .ok (f x) e1) : eLc vs it g tYes a e = .ok (.lst (xs.map f)) e := by
  rw [eLc_pure (fun x => some (f x)) hi hv hl fun x hx => ?_]
  · rw [List.filterMap_eq_map']
  · obtain ⟨e1, h1, h2, h3⟩ := h x hx
    exact ⟨e1, h1, h2, .inr ⟨f x, rfl, h3, rfl⟩⟩
/-! ### calls with plain arguments -/
theorem call_ok {f : DF} {as : List Arg} {e e1 e2 : Env} {xs : List (D ⊕ Nat)} {ds : List D} {d : D} {bs : List (List D)} (h1 : argsV as e = .ok xs e1) (h2 : (lends as).all (fun i => isL (sl e1 i)) = true) (h3 : argsD e1 xs = some ds) (h4 : f ds = .ok d bs) (h5 : giveBack as bs e1 = some e2) : eCall f as e = .ok d e2 := by
  unfold eCall
  simp only [h1, h2, h3, h4, h5, Bool.not_true, Bool.false_eq_true, if_false]
theorem args_e {a : DE} {as : List Arg} {e e1 e2 : Env} {x : D} {xs : List (D ⊕ Nat)} (h : a e = .ok x e1) (hr : argsV as e1 = .ok xs e2) : argsV (.e a :: as) e = .ok (.inl x :: xs) e2 := by
  unfold argsV; rw [bind_ok h, bind_ok hr]; rfl
theorem args_new {a : DE} {as : List Arg} {e e1 e2 : Env} {x : D} {xs : List (D ⊕ Nat)} (h : a e = .ok x e1) (hr : argsV as e1 = .ok xs e2) : argsV (.new a :: as) e = .ok (.inl x :: xs) e2 := by
  unfold argsV; rw [bind_ok h, bind_ok hr]; rfl
theorem args_lend {i : Nat} {as : List Arg} {e e2 : Env} {x : D} {xs : List (D ⊕ Nat)} (h : eTmp i e = .ok x e) (hr : argsV as e = .ok xs e2) : argsV (.lend i :: as) e = .ok (.inr i :: xs) e2 := by
  unfold argsV; rw [bind_ok h, bind_ok hr]; rfl
theorem args_look {i : Nat} {as : List Arg} {e e2 : Env} {x : D} {xs : List (D ⊕ Nat)} (h : eTmp i e = .ok x e) (hr : argsV as e = .ok xs e2) : argsV (.look i :: as) e = .ok (.inr i :: xs) e2 := by
  unfold argsV; rw [bind_ok h, bind_ok hr]; rfl
theorem call1 {f : DF} {a : DE} {e e1 : Env} {x r : D} (ha : a e = .ok x e1) (hf : f [x] = .ok r []) : eCall f [.e a] e = .ok r e1 := call_ok (args_e ha rfl) rfl rfl hf rfl
theorem call2 {f : DF} {a b : DE} {e e1 e2 : Env} {x y r : D} (ha : a e = .ok x e1) (hb : b e1 = .ok y e2) (hf : f [x, y] = .ok r []) : eCall f [.e a, .e b] e = .ok r e2 := call_ok (args_e ha (args_e hb rfl)) rfl rfl hf rfl
theorem call3 {f : DF} {a b c : DE} {e e1 e2 e3 : Env} {x y z r : D} (ha : a e = .ok x e1) (hb : b e1 = .ok y e2) (hc : c e2 = .ok z e3) (hf : f [x, y, z] = .ok r []) : eCall f [.e a, .e b, .e c] e = .ok r e3 := call_ok (args_e ha (args_e hb (args_e hc rfl))) rfl rfl hf rfl
theorem mkF_rt {n : Nat} {ms : List Md} {b : DS} {ds : List D} {d : D} {e : Env} {bs : List (List D)} (h1 : lstsOk ms ds = true) (h2 : b (startE ms ds ++ List.replicate (n - ms.length) .no) = .ok (.rt d) e) (h3 : lentOf ms e = some bs) : mkF n ms b ds = .ok d bs := by
  unfold mkF
  simp only [h1, h2, h3, Bool.not_true, Bool.false_eq_true, if_false]
theorem mkR_rt {n : Nat} {ms : List Md} {b : DS} {ds : List D} {d : D} {e : Env} {bs : List (List D)} (h1 : lstsOk ms ds = true) (h2 : b (startE ms ds ++ List.replicate (n - ms.length) .no) = .ok (.rt d) e) (h3 : lentOf ms e = some bs) : mkR n ms b ds = .ok d bs := by
  unfold mkR
  simp only [h1, h2, h3, Bool.not_true, Bool.false_eq_true, if_false]
theorem for_ok {it : DI} {g : DG} {b : DS} {e e1 e2 : Env} {xs : List D} {o : Out} (h1 : it e = .ok xs e1) (h2 : loop g b xs e1 = .ok o e2) : sFor it g b e = .ok o e2 := by
  unfold sFor
  rw [bind_ok h1]
  exact h2
theorem ret_ok {a : DE} {e e1 : Env} {x : D} (h : a e = .ok x e1) : sRet a e = .ok (.rt x) e1 := by
  unfold sRet
  rw [bind_ok h]
  rfl
theorem asg_ok {i : Nat} {a : DE} {e e1 : Env} {x : D} (h : a e = .ok x e1) (hf : isFix (sl e1 i) = false) : sAsgN i a e = .ok .nx (put e1 i (.val x)) := by
  unfold sAsgN
  rw [bind_ok h]
  simp [hf]
theorem eB_ok {t : DT} {e e1 : Env} {k : Bool} (h : t e = .ok k e1) : eB t e = .ok (.bl k) e1 := by
  unfold eB
  rw [bind_ok h]
  rfl
theorem c2_ok {f : D → D → Rv Bool} {a b : DE} {e e1 e2 : Env} {x y : D} {k : Bool} (ha : a e = .ok x e1) (hb : b e1 = .ok y e2) (hf : f x y = .ok k) : c2 f a b e = .ok k e2 := by
  unfold c2
  rw [bind_ok ha, bind_ok hb, hf]
  rfl
theorem e2_ok {f : D → D → Rv D} {a b : DE} {e e1 e2 : Env} {x y z : D} (ha : a e = .ok x e1) (hb : b e1 = .ok y e2) (hf : f x y = .ok z) : AH.e2 f a b e = .ok z e2 := by
  unfold AH.e2
  rw [bind_ok ha, bind_ok hb, hf]
  rfl
theorem e1_ok {f : D → Rv D} {a : DE} {e e1 : Env} {x z : D} (ha : a e = .ok x e1) (hf : f x = .ok z) : AH.e1 f a e = .ok z e1 := by
  unfold AH.e1
  rw [bind_ok ha, hf]
  rfl
theorem aCons_ok {a : DE} {r : DL} {e e1 e2 : Env} {x : D} {xs : List D} (ha : a e = .ok x e1) (hr : r e1 = .ok xs e2) : aCons a r e = .ok (x :: xs) e2 := by
  unfold aCons
  rw [bind_ok ha, bind_ok hr]
  rfl
theorem lst_ok {r : DL} {e e1 : Env} {xs : List D} (h : r e = .ok xs e1) (hl : xs.length ≤ 100000) : eLst r e = .ok (.lst xs) e1 := by
  unfold eLst
  rw [bind_ok h]
  simp [lenOk, hl]
theorem tup_ok {r : DL} {e e1 : Env} {xs : List D} (h : r e = .ok xs e1) (hl : xs.length ≤ 100000) : eTup r e = .ok (.tup xs) e1 := by
  unfold eTup
  rw [bind_ok h]
  simp [lenOk, hl]
theorem tV_ok {a : DE} {e e1 : Env} {k : Bool} (h : a e = .ok (.bl k) e1) : tV a e = .ok k e1 := by
  unfold tV
  rw [bind_ok h]
  rfl
theorem tNot_ok {t : DT} {e e1 : Env} {k : Bool} (h : t e = .ok k e1) : tNot t e = .ok (!k) e1 := by
  unfold tNot
  rw [bind_ok h]
  rfl
theorem eIf_ok {t : DT} {a b : DE} {e e1 : Env} {k : Bool} (h : t e = .ok k e1) : eIf t a b e = if k then a e1 else b e1 := by
  unfold eIf
  rw [bind_ok h]
  cases k <;> rfl
/-- the end: the law's promise -/
theorem law_sp {K : PySem.W.Frag} {H : Hp} {a : Addr} {ns : List Int} {N : List Str} {g : DF} (hS : SqL K H a (ns.map V.int)) (hN : 1 ≤ N.length) (hg : g [.lst (ns.map D.int)] = .ok (.bl true) []) :
    spD .s K N [.ro] g [.ref a] H (fun v _ => v = .bl true) fun _ _ _ => False := by
  refine ⟨rfl, [.lst (ns.map D.int)], ⟨fun _ => False, fun _ => False, H, fun _ => none⟩, fun _ => none, ?_, rfl, rfl, ?_⟩
  · refine ⟨fun j => ?_, fun i j a h => by (cases h), fun a z => z.elim False.elim fun ⟨_, z⟩ => by (cases z), fun a o e _ => e, fun a z => z, ?_, fun a z => z.elim, fun a xs z => z.elim⟩
    · cases j with
      | zero =>
        refine ⟨rfl, .ref a, rfl, ?_⟩
        rcases hS with s | s
        · exact .lst (fun z => z.elim (fun ⟨_, z⟩ => by (cases z)) False.elim) s (repL_ints ns)
        · exact .kl (.inr s)
      | succ j =>
        have e1 : sl (startE [.ro] [.lst (ns.map D.int)] ++ List.replicate (N.length - [Md.ro].length) .no) (j + 1) = .no := sl_app_no _ _ _ (by simp [startE])
        rw [e1]
        rfl
    · unfold L2.start
      simp [startE]
  · rw [hg]
    intro v H' _ r
    have r1 : Rep (fun _ => False) H' v (.bl true) := r.1
    cases r1
    rfl
end AH
namespace AH
open PySem PySem.Spec PyProof.Rows L2
variable [TheK]
/-! ### an instance of a class of the text that is made and just looked at -/
def gSl (K : PySem.W.Frag) (to : TE) (f : Str) : TG := fun y σ H Q => to σ H fun x H2 => ∃ a C dx p vs i, x = .ref a ∧ SlX.Slt H2 a C dx vs ∧ SlX.SCls K C ∧ SlX.Slot1 K C f p i ∧ Q σ (SlX.slH H2 a C dx (SlX.putS i y vs))
theorem pg_sl {X : Cx} {o : Expr} {to : TE} {f : Str} {pos : Pos} (ho : PE X o to)
    (ha : ∀ v, assign (.Attribute o f pos) X.env v = (do
      let ov ← holding [v] (eval o X.env)
      standAt pos.atName
      holding [v, ov] (setAttr ov f v)
      release [v, ov] []) := by intro _; rfl) : PG X (.Attribute o f pos) (gSl X.K to f) := by
  refine ⟨fun pins s σ H v u Q I r h => ?_⟩
  rw [ha]
  refine wpAny_bind (wpAny_holding (thn (ho.run pins s σ H _ I h) fun ov s1 ⟨x, H1, I1, r1, a, C, dx, p, vs, i, ex, hsl, c, t, q⟩ => ?_))
  subst ex
  obtain rfl : ov = Value.ref a := r1
  refine wpAny_bind (wpAny_standAt (wpAny_bind (wpAny_holding (SlX.setslot_ok I1 hsl c t r fun s3 I3 => ?_))))
  exact wpAny_release ⟨σ, _, I3, q⟩
structure RosF (K : PySem.W.Frag) (C : Addr) : Prop where
  o : ObjF K C
  s1 : ∃ p i, SlX.Slot1 K C "own_open" p i
  s2 : ∃ p i, SlX.Slot1 K C "own_done" p i
  s3 : ∃ p i, SlX.Slot1 K C "own_missed" p i
  s4 : ∃ p i, SlX.Slot1 K C "own_hands" p i
  s5 : ∃ p i, SlX.Slot1 K C "own_now" p i
  s6 : ∃ p i, SlX.Slot1 K C "own_past" p i
def spInit (C : Addr) : Sp := fun vs H Q _ => ∃ x dx n Hb, vs = [.ref x, .int n] ∧ H = upd (upd Hb dx (.own x)) x (.ins C dx []) ∧ Hb x = none ∧ Hb dx = none ∧ dx ≠ x ∧ 1 ≤ n ∧ n ≤ 1000 ∧
  ∀ H' ws, (∀ a o, Hb a = some o → H' a = some o) → H' x = some (SlX.SlO x C dx ws) → H' dx = some (.xd []) → Q .non H'
def Fm.two (Hb : Hp) (x dx : Addr) : Fm := ⟨fun a => a = x ∨ a = dx, fun a => a = x ∨ a = dx, Hb, fun _ => none⟩
/-- the frame of __init__, the instance as far as it is known -/
structure Ini (K : PySem.W.Frag) (Hb : Hp) (x dx C : Addr) (n : Int) (σ : L2.St) (H : Hp) : Prop where
  S : SR K (Fm.two Hb x dx) (fun _ => none) [.no, .val (.int n)] σ H
  sl : ∃ vs, SlX.Slt H x C dx vs
  g : get1 σ 0 = some (.ref x)
theorem Ini.store {K : PySem.W.Frag} {Hb : Hp} {x dx C : Addr} {n : Int} {σ : L2.St} {H : Hp} (I : Ini K Hb x dx C n σ H) (hx : Hb x = none) (hd : Hb dx = none) (ne : dx ≠ x) (vs : List (Option V)) : Ini K Hb x dx C n σ (SlX.slH H x C dx vs) := by
  refine ⟨?_, ⟨vs, SlX.slH_slt ne⟩, I.g⟩
  unfold SlX.slH
  have nj : ∀ a, ¬ Jo (fun _ => none) a := fun a ⟨i, h⟩ => by cases h
  exact SR.updQ (SR.updQ I.S (.inr rfl) (.inr rfl) (nj _) hd) (.inl rfl) (.inl rfl) (nj _) hx
theorem Ini.end_ {K : PySem.W.Frag} {Hb : Hp} {x dx C : Addr} {n : Int} {σ : L2.St} {H : Hp} (I : Ini K Hb x dx C n σ H) (nin : ∀ f, H x ≠ some (.ins C dx f)) : (∀ a o, Hb a = some o → H a = some o) ∧ ∃ ws, H x = some (SlX.SlO x C dx ws) ∧ H dx = some (.xd []) := by
  refine ⟨fun a o h => I.S.keep a o h (fun z => by obtain ⟨i, z⟩ := z; cases z), ?_⟩
  obtain ⟨vs, h⟩ := I.sl
  rcases h with ⟨h, _⟩ | h
  · exact absurd h (nin _)
  · exact ⟨vs, h⟩
/-- three values to three slots -/
theorem Ini.three {X : Cx} {Hb : Hp} {x dx C : Addr} {n : Int} {σ : L2.St} {H : Hp} {v : V} {a b c : D} {f1 f2 f3 : Str} {Q : L2.St → Hp → Prop} (I : Ini X.K Hb x dx C n σ H) (hx : Hb x = none) (hd : Hb dx = none) (ne : dx ≠ x) (sc : SlX.SCls X.K C)
    (t1 : ∃ p i, SlX.Slot1 X.K C f1 p i) (t2 : ∃ p i, SlX.Slot1 X.K C f2 p i) (t3 : ∃ p i, SlX.Slot1 X.K C f3 p i) (r : Rep (Ow (Fm.two Hb x dx) fun _ => none) H v (.tup [a, b, c]))
    (q : ∀ H', Ini X.K Hb x dx C n σ H' → (∀ f, H' x ≠ some (.ins C dx f)) → Q σ H') : gTup X.K 3 (gCons (gSl X.K (tVar 0) f1) (gCons (gSl X.K (tVar 0) f2) (gCons (gSl X.K (tVar 0) f3) gNil))) v σ H Q := by
  obtain ⟨p1, i1, t1⟩ := t1
  obtain ⟨p2, i2, t2⟩ := t2
  obtain ⟨p3, i3, t3⟩ := t3
  cases r with
  | tup nn hh l =>
    cases l with | cons r1 l => cases l with | cons r2 l => cases l with | cons r3 l =>
      cases l
      rename_i v1 v2 v3
      refine ⟨_, _, rfl, .inl (.inl hh), rfl, _, _, rfl, ?_⟩
      obtain ⟨vs, sl⟩ := I.sl
      refine ⟨_, get1_some I.g, x, C, dx, p1, vs, i1, rfl, sl, sc, t1, _, _, rfl, ?_⟩
      have I1 : ∀ z, Ini X.K Hb x dx C n σ (SlX.slH H x C dx z) := fun z => I.store hx hd ne z
      refine ⟨_, get1_some I.g, x, C, dx, p2, _, i2, rfl, SlX.slH_slt ne, sc, t2, _, _, rfl, ?_⟩
      refine ⟨_, get1_some I.g, x, C, dx, p3, _, i3, rfl, SlX.slH_slt ne, sc, t3, rfl, ?_⟩
      refine q _ (((I1 _).store hx hd ne _).store hx hd ne _) fun f z => ?_
      unfold SlX.slH at z
      rw [upd_same] at z
      cases z
theorem sw_attr {o1 o2 o3 v1 v2 v3 : Expr} {f1 f2 f3 : Str} {p1 p2 p3 p4 p5 : Pos} {k1 k2 : Nat} {env : PySem.Env} (hv : ([v1, v2, v3].any fun | .Starred .. => true | _ => false) = false) :
    swappedStores [.Tuple [.Attribute o1 f1 p1, .Attribute o2 f2 p2, .Attribute o3 f3 p3] k1 p4] (.Tuple [v1, v2, v3] k2 p5) env = pure none := by
  unfold swappedStores
  simp only [List.length_cons, List.length_nil]
  cases h : (env.blockKind != .function) with
  | true => simp [h]
  | false => simp [h, hv]
/-- the two rows of __init__, wherever they stand -/
def initBody (a1 a2 a3 a4 a5 a6 a7 a8 b1 b2 b3 b4 b5 b6 b7 b8 b9 c1 c2 c3 c4 c5 c6 c7 c8 d1 d2 d3 d4 d5 d6 d7 q1 q2 : Pos) (k1 k2 k3 k4 k5 k6 k7 k8 k9 k10 k11 k12 k13 : Nat) : List Stmt := [
  .Assign [.Tuple [.Attribute (.Name "self" a1) "own_open" a2, .Attribute (.Name "self" a3) "own_done" a4, .Attribute (.Name "self" a5) "own_missed" a6] k1 a7]
    (.Tuple [.Tuple [.Name "hours" b1, .Tuple [] k2 b2] k3 b3, .Tuple [.Name "hours" b4, .Tuple [] k4 b5] k5 b6, .Tuple [.Name "hours" b7, .Tuple [] k6 b8] k7 b9] k8 a8) q1,
  .Assign [.Tuple [.Attribute (.Name "self" c1) "own_hands" c2, .Attribute (.Name "self" c3) "own_now" c4, .Attribute (.Name "self" c5) "own_past" c6] k9 c7]
    (.Tuple [.BinOp (.Tuple [.Constant (.int 0) k10 d1] k11 d2) .Mult (.Name "hours" d3) d4, .Constant (.int 0) k12 d5, .List [] d6] k13 c8) q2]
section
variable {X : Cx} {Wx : WX}
def m_init1 : DE := eTup (aCons (eTup (aCons (eVar 1) (aCons (eTup aNil) aNil))) (aCons (eTup (aCons (eVar 1) (aCons (eTup aNil) aNil))) (aCons (eTup (aCons (eVar 1) (aCons (eTup aNil) aNil))) aNil)))
def m_init2 : DE := eTup (aCons (e2 dMul (eTup (aCons (eC (.int 0)) aNil)) (eVar 1)) (aCons (eC (.int 0)) (aCons (eLst aNil) aNil)))
theorem m_init2_ok {n : Int} (h1 : 1 ≤ n) (h2 : n ≤ 1000) : m_init2 [.no, .val (.int n)] = .ok (.tup [.tup (rep [.int 0] n), .int 0, .lst []]) [.no, .val (.int n)] := by
  have e : dMul (.tup [.int 0]) (.int n) = .ok (.tup (rep [.int 0] n)) := by
    show (if (decide (1 ≤ n) && decide (n ≤ 1000) && (decide (0 < [D.int 0].length) && decide ([D.int 0].length ≤ 1000))) = true then Rv.ok (D.tup (rep [.int 0] n)) else Rv.bad) = _
    rw [if_pos (by simp [h1, h2])]
  simp [m_init2, e, lenOk]
end
section
variable {P : Program} {w : World} {K : PySem.W.Frag} {mg : Str → Option Value} {base : Heap} {params : Arguments} {body : List Stmt} {scope : Scope} {f C : Addr} {fd : FuncData}
theorem fn_init {a1 a2 a3 a4 a5 a6 a7 a8 b1 b2 b3 b4 b5 b6 b7 b8 b9 c1 c2 c3 c4 c5 c6 c7 c8 d1 d2 d3 d4 d5 d6 d7 q1 q2 : Pos} {k1 k2 k3 k4 k5 k6 k7 k8 k9 k10 k11 k12 k13 : Nat}
    (F : FunD K "__init__" "Roster.__init__" params body scope [] [] f fd) (S : FnScope ["self", "hours"] ["self", "hours"] scope) (v0 : Vis scope "self") (v1 : Vis scope "hours") (R : RosF K C)
    (hb : body = initBody a1 a2 a3 a4 a5 a6 a7 a8 b1 b2 b3 b4 b5 b6 b7 b8 b9 c1 c2 c3 c4 c5 c6 c7 c8 d1 d2 d3 d4 d5 d6 d7 q1 q2 k1 k2 k3 k4 k5 k6 k7 k8 k9 k10 k11 k12 k13) : FnOk P w K mg base CX0 1 f fd ["self", "hours"] (spInit C) := by
  subst hb
  refine F.ok S (fun vs H Q E h => by obtain ⟨x, dx, n, Hb, rfl, _⟩ := h; rfl) (fun cdv A outer s H vs Q E hr h => ?_)
  obtain ⟨x, dx, n, Hb, rfl, rfl, hx, hd, ne, h1, h2, q⟩ := h
  have e0 : ∀ Wx : WX, PD .s (cxOf CX0 P w K mg base ["self", "hours"] "Roster.__init__" scope f cdv A outer s (upd (upd Hb dx (.own x)) x (.ins C dx [])) E) Wx (.Tuple [.Tuple [.Name "hours" b1, .Tuple [] k2 b2] k3 b3, .Tuple [.Name "hours" b4, .Tuple [] k4 b5] k5 b6, .Tuple [.Name "hours" b7, .Tuple [] k6 b8] k7 b9] k8 a8) m_init1 := fun Wx =>
    pd_tup (ad_cons (pd_tup (ad_cons (pd_var (i := 1) rfl v1) (ad_cons (pd_tup ad_nil) ad_nil))) (ad_cons (pd_tup (ad_cons (pd_var (i := 1) rfl v1) (ad_cons (pd_tup ad_nil) ad_nil))) (ad_cons (pd_tup (ad_cons (pd_var (i := 1) rfl v1) (ad_cons (pd_tup ad_nil) ad_nil))) ad_nil)))
  have e1 : ∀ Wx : WX, PD .s (cxOf CX0 P w K mg base ["self", "hours"] "Roster.__init__" scope f cdv A outer s (upd (upd Hb dx (.own x)) x (.ins C dx [])) E) Wx (.Tuple [.BinOp (.Tuple [.Constant (.int 0) k10 d1] k11 d2) .Mult (.Name "hours" d3) d4, .Constant (.int 0) k12 d5, .List [] d6] k13 c8) m_init2 := fun Wx =>
    pd_tup (ad_cons (pd_mul (pd_tup (ad_cons pd_int ad_nil)) (pd_var (i := 1) rfl v1)) (ad_cons pd_int (ad_cons (PD.str (pd_lst ad_nil)) ad_nil)))
  obtain ⟨t0, p0, z0⟩ := e0 W0
  obtain ⟨t1, p1, z1⟩ := e1 W0
  refine ⟨_, pss_cons (ps_asg p0 (pg_tup rfl (pgs_cons (pg_sl (pe_var (i := 0) rfl v0 rfl rfl)) (pgs_cons (pg_sl (pe_var (i := 0) rfl v0 rfl rfl)) (pgs_cons (pg_sl (pe_var (i := 0) rfl v0 rfl rfl)) pgs_nil)))) (hw := sw_attr rfl)) (pss_one (ps_asg p1 (pg_tup rfl (pgs_cons (pg_sl (pe_var (i := 0) rfl v0 rfl rfl)) (pgs_cons (pg_sl (pe_var (i := 0) rfl v0 rfl rfl)) (pgs_cons (pg_sl (pe_var (i := 0) rfl v0 rfl rfl)) pgs_nil)))) (hw := sw_attr rfl))), ?_⟩
  have I0 : Ini K Hb x dx C n (L2.start ["self", "hours"] [.ref x, .int n]) (upd (upd Hb dx (.own x)) x (.ins C dx [])) := by
    refine ⟨⟨fun i => ?_, fun i j a h => (by cases h), fun a h => ?_, fun a o h _ => ?_, fun a h => ?_, rfl, fun a h => ?_, fun a xs h => ?_⟩, ⟨[], .inl ⟨upd_same, rfl⟩⟩, rfl⟩
    · match i with
      | 0 => exact rfl
      | 1 => exact ⟨rfl, _, rfl, .int n⟩
      | i + 2 => exact rfl
    · rcases h with (rfl | rfl) | ⟨i, h⟩
      · rw [upd_same]; simp
      · rw [upd_ne ne, upd_same]; simp
      · cases h
    · rw [upd_ne (ne_of_none h hx), upd_ne (ne_of_none h hd)]; exact h
    · have h : Hb a ≠ none := h
      have n1 : a ≠ x := fun z => h (z ▸ hx)
      have n2 : a ≠ dx := fun z => h (z ▸ hd)
      rw [upd_ne n1, upd_ne n2]; exact h
    · rcases h with rfl | rfl
      · rw [upd_same]; simp
      · rw [upd_ne ne, upd_same]; simp
    · rcases h with rfl | rfl
      · rw [upd_same]; intro z; cases z
      · rw [upd_ne ne, upd_same]; intro z; cases z
  refine z0 _ _ _ _ _ _ I0.S ?_
  show ∀ v H', SR _ _ _ _ _ H' → Ke _ _ H' → Po .s _ _ _ _ _ _ H' v (.tup [.tup [.int n, .tup []], .tup [.int n, .tup []], .tup [.int n, .tup []]]) → _
  intro v H1 S1 k1 r1
  have sl1 : SlX.Slt H1 x C dx [] := .inl ⟨k1.stay _ _ (fun ⟨i, z⟩ => by cases z) upd_same, rfl⟩
  refine Ini.three (X := cxOf CX0 P w K mg base ["self", "hours"] "Roster.__init__" scope f cdv A outer s (upd (upd Hb dx (.own x)) x (.ins C dx [])) E) ⟨S1, ⟨[], sl1⟩, rfl⟩ hx hd ne R.o.sc R.s1 R.s2 R.s3 r1 fun H2 I2 _ => ?_
  refine z1 _ _ _ _ _ _ I2.S ?_
  show Want m_init2 _ _ _
  unfold Want
  rw [m_init2_ok h1 h2]
  intro v3 H3 S3 k3 r3
  obtain ⟨vs2, sl2⟩ := I2.sl
  have sl3 : SlX.Slt H3 x C dx vs2 := by
    have nj : ∀ a, ¬ Jo (fun _ => none) a := fun a ⟨i, z⟩ => by cases z
    rcases sl2 with ⟨a, b⟩ | ⟨a, b⟩
    · exact .inl ⟨k3.stay _ _ (nj _) a, b⟩
    · exact .inr ⟨k3.stay _ _ (nj _) a, k3.stay _ _ (nj _) b⟩
  refine Ini.three (X := cxOf CX0 P w K mg base ["self", "hours"] "Roster.__init__" scope f cdv A outer s (upd (upd Hb dx (.own x)) x (.ins C dx [])) E) ⟨S3, ⟨_, sl3⟩, rfl⟩ hx hd ne R.o.sc R.s4 R.s5 R.s6 r3 fun H4 I4 nin => ?_
  obtain ⟨y1, ws, y2, y3⟩ := I4.end_ nin
  exact q H4 ws y1 y2 y3
end
end AH
namespace AH
open PySem PySem.Spec PyProof.Rows L2
section
variable [TheK]
structure RosK (P : Program) (w : World) (K : PySem.W.Frag) (mg : Str → Option Value) (base : Heap) : Prop where
  ex : ∃ f fd, FnOk P w K mg base CX0 1 f fd ["self", "hours"] (spInit (He.ga K "Roster")) ∧ Mk K (He.ga K "Roster") f ∧ Binds K fd ["self", "hours"] []
  mg : mg "Roster" = some (.ref (He.ga K "Roster"))
  o : ObjF K (He.ga K "Roster")
def dNew : D → Rv D
  | .int n => if decide (1 ≤ n) && decide (n ≤ 1000) then .ok (.obj "Roster") else .bad
  | _ => .bad
theorem pd_new {X : Cx} {Wx : WX} {a : Expr} {ma : DE} {p pos : Pos} {j : Nat} (hK : X.K = TheK.K) (R : RosK X.prog X.w X.K X.mg X.base) (hr : Room j X.A) (hg : Gl X "Roster") (ha : PD .s X Wx a ma) (hj : 2 ≤ j := by decide)
    (hs : starEach [a] X.env = (false, eval a X.env) :: starEach [] X.env := by rfl) (hpl : (backTo pos (starEach [] X.env)).any (·.1) = false := by rfl) : PD .s X Wx (.Call (.Name "Roster" p) [a] [] pos) (e1 dNew ma) := by
  obtain ⟨f, fd, F, M, hb⟩ := R.ex
  obtain ⟨ta, pa, qa⟩ := ha
  refine ⟨_, pe_make M F (hr.mono hj) hg R.mg hb .nil pass0 (pa_cons pa pa_nil hs) (by decide) hs hpl, fun F O env σ H Q S w => ?_⟩
  refine qa F O env σ H _ S (w.bind.imp (fun dx e1 w1 x H1 S1 k1 p1 => ?_) fun _ _ _ z => z)
  obtain ⟨d2, e2, w2⟩ := w1.of
  cases p1 with
  | int n =>
    have e2 : (if (decide (1 ≤ n) && decide (n ≤ 1000)) = true then Rv.ok (D.obj "Roster") else Rv.bad) = .ok d2 := e2
    obtain ⟨c, rfl⟩ := if_ok e2
    rw [Bool.and_eq_true, decide_eq_true_eq, decide_eq_true_eq] at c
    intro x dx hx hd ne
    refine ⟨x, dx, n, H1, rfl, rfl, hx, hd, ne, c.1, c.2, fun H' ws k h1 h2 => ⟨rfl, w2 _ H' (S1.ext k) (k1.trans (ke_all k)) ?_⟩⟩
    exact .obj (S1.noW hx) (S1.noW hd) h1 h2 (hK ▸ R.o)
  | _ => cases e2
end
/-! ### the head with a further look -/
def hookX (n : Nat) (ck : PySem.W.Frag → Bool) (fa : List He.Fa) (fn : List He.DefD) : PySem.W.Hook where
  α := Bool × He.AlD
  obs := fun s => (ck (He.frG s.heap.get? (He.asD s.heap.get? n)), He.obsDG n fa fn s.heap.get?)
  val := fun _ => (true, He.valD fn)
  says := fun _ h => ∃ K : PySem.W.Frag, K.In h ∧ He.SaysD fa fn K ∧ ck K = true
  of := fun _ _ e => ⟨_, He.frG_in, congrArg Prod.snd e, congrArg Prod.fst e⟩
  keeps := fun _ _ _ ⟨K, hK, c⟩ k => ⟨K, PySem.W.Frag.In.keeps hK k, c⟩
def obsX (n : Nat) (ck : PySem.W.Frag → Bool) (fa : List He.Fa) (fn : List He.DefD) (g : Addr → Option Obj) : Bool × He.AlD := (ck (He.frG g (He.asD g n)), He.obsDG n fa fn g)
theorem obsX_eq {n : Nat} {ck : PySem.W.Frag → Bool} {fa : List He.Fa} {fn : List He.DefD} {g : Addr → Option Obj} {s : Shared} (h : ∀ a, g a = s.heap.get? a) : obsX n ck fa fn g = (hookX n ck fa fn).obs s := by
  have e : g = s.heap.get? := funext h
  rw [e] <;> rfl
def slotB (K : PySem.W.Frag) (C : Addr) (f : Str) : Bool :=
  He.eqO (PySem.W.findIn K (.ref C) f) (some (some (.ref (He.ma K C f)))) && (He.eqO (PySem.W.specialIn K (.ref (He.ma K C f)) "__get__") (some (some (.builtin "member_descriptor.__get__"))) &&
  (decide (PySem.W.takesIn K (.ref (He.ma K C f)) = some true) && (decide (PySem.W.typeIn K (.ref (He.ma K C f)) = some (.type "member_descriptor")) && (match PySem.W.slotIn K (He.ma K C f) C with
    | some i => decide (i < 1000)
    | none => false))))
theorem slotB_ok [TheK] {K : PySem.W.Frag} {C : Addr} {f : Str} (h : slotB K C f = true) : ∃ p i, SlX.Slot1 K C f p i := by
  unfold slotB at h
  obtain ⟨h1, h⟩ := He.ba h
  obtain ⟨h2, h⟩ := He.ba h
  obtain ⟨h3, h⟩ := He.ba h
  obtain ⟨h4, h⟩ := He.ba h
  cases q : PySem.W.slotIn K (He.ma K C f) C with
  | none => rw [q] at h; cases h
  | some i =>
    rw [q] at h
    exact ⟨_, i, He.eqO_ok h1, He.eqO_ok h2, of_decide_eq_true h3, of_decide_eq_true h4, q, of_decide_eq_true h⟩
def objB (K : PySem.W.Frag) (C : Addr) : Bool :=
  PySem.W.plainGet K C Str.empty && (PySem.W.isClsIn K C && (PySem.W.plainOver K C && (He.eqO (PySem.W.findIn K (.ref C) "__setattr__") (some (some (.builtin "object.__setattr__"))) &&
  (He.eqO (PySem.W.findIn K (.ref C) "__class__") (some (some (.builtin "object.__class__"))) && (He.eqO (PySem.W.specialIn K (.builtin "object.__class__") "__get__") (some (some (.builtin "getset_descriptor.__get__"))) &&
  (decide (PySem.W.takesIn K (.builtin "object.__class__") = some true) && (decide (PySem.W.mroIn K C (.type "object") = some true) && ["int", "bool", "str", "list", "tuple", "dict"].all fun n => decide (PySem.W.kitOne K (.ref C) (.type n) = some false))))))))
theorem objB_ok [TheK] {K : PySem.W.Frag} {C : Addr} (h : objB K C = true) : ObjF K C := by
  unfold objB at h
  obtain ⟨h1, h⟩ := He.ba h
  obtain ⟨h2, h⟩ := He.ba h
  obtain ⟨h3, h⟩ := He.ba h
  obtain ⟨h4, h⟩ := He.ba h
  obtain ⟨h5, h⟩ := He.ba h
  obtain ⟨h6, h⟩ := He.ba h
  obtain ⟨h7, h⟩ := He.ba h
  obtain ⟨h8, h⟩ := He.ba h
  exact ⟨⟨h1, h2, h3, He.eqO_ok h4⟩, ⟨He.eqO_ok h5, He.eqO_ok h6, of_decide_eq_true h7, of_decide_eq_true h8⟩, fun n hn => of_decide_eq_true (List.all_eq_true.mp h n hn)⟩
def rosB (K : PySem.W.Frag) : Bool := objB K (He.ga K "Roster") && (["own_open", "own_done", "own_missed", "own_hands", "own_now", "own_past"].all fun f => slotB K (He.ga K "Roster") (Str.ofString f))
theorem rosB_ok [TheK] {K : PySem.W.Frag} (h : rosB K = true) : RosF K (He.ga K "Roster") := by
  obtain ⟨h1, h⟩ := He.ba h
  have h := List.all_eq_true.mp h
  exact ⟨objB_ok h1, slotB_ok (h "own_open" (by decide)), slotB_ok (h "own_done" (by decide)), slotB_ok (h "own_missed" (by decide)), slotB_ok (h "own_hands" (by decide)), slotB_ok (h "own_now" (by decide)), slotB_ok (h "own_past" (by decide))⟩
end AH
namespace AH
open PySem PySem.Spec PyProof.Rows L2
variable [TheK]
/-! ### slots are forgotten -/
def fgt1 (e : Env) (i : Nat) : Env := if isFix (sl e i) then e else put e i .no
def fgt (e : Env) : List Nat → Env
  | [] => e
  | i :: r => fgt (fgt1 e i) r
def sFg (vs : List Nat) (m : DS) : DS := m.bind fun o => match o with
  | .rt d => M.pure (.rt d)
  | o => fun e => .ok o (fgt e vs)
section
variable {K : PySem.W.Frag} {F : Fm} {O : Nat → Option Addr} {env : Env} {σ : L2.St} {H H' : Hp} {i : Nat}
theorem SR.drop (S : SR K F O env σ H) : SR K F (setO O i none) (put env i .no) σ H where
  slot := fun j => by
    by_cases hj : j = i
    · subst hj
      by_cases hl : j < env.length
      · rw [sl_put_same _ _ _ hl]; exact setO_same
      · rw [put_out _ _ _ (by omega), sl_out _ _ (by omega)]; exact setO_same
    · rw [sl_put_ne _ _ _ _ hj]
      exact SlR.own (F := F) rfl rfl (setO_ne hj) (fun _ z => z) (fun a w => .inl (ow_setN w)) (fun a w => .inl (w.elim (fun w => .inl (jo_setN w)) .inr)) (S.slot j)
  inj := inj_setN S
  prot := fun a w => S.prot a (ow_setN w)
  keep := S.keep
  al := S.al
  len := by rw [put_len]; exact S.len
  nal := S.nal
  pt := S.pt
theorem SR.fgt (S : SR K F O env σ H) (vs : List Nat) : ∃ O', SR K F O' (AH.fgt env vs) σ H ∧ ∀ a, Jo O' a → Jo O a := by
  induction vs generalizing O env with
  | nil => exact ⟨O, S, fun _ z => z⟩
  | cons i r ih =>
    show ∃ O', SR K F O' (AH.fgt (fgt1 env i) r) σ H ∧ ∀ a, Jo O' a → Jo O a
    unfold fgt1
    split
    · exact ih S
    · obtain ⟨O', S', g⟩ := ih (S.drop (i := i))
      exact ⟨O', S', fun a z => jo_setN (g a z)⟩
end
section
variable {fl : Fl} {X : Cx} {Wx : WX} {sts : List Stmt} {m : DS}
theorem fg_post {D : Ends} {F : Fm} {O : Nat → Option Addr} {H : Hp} {vs : List Nat} {env : Env} (w : Want (sFg vs m) env (Post fl X.K F O H D) (XWs X.K F O H Wx)) : Want m env (Post fl X.K F O H D) (XWs X.K F O H Wx) := by
  refine (Want.bind (m := m) w).imp (fun o e1 w1 O' σ' H' S k => ?_) fun _ _ _ z => z
  obtain ⟨O2, S2, g⟩ := S.fgt vs
  have k2 : KeS O H O2 H' := k.trans ⟨Ke.refl, fun a z => .inl (g a z)⟩
  cases o with
  | nx => exact w1 O2 σ' H' S2 k2
  | bk => exact w1 O2 σ' H' S2 k2
  | ct => exact w1 O2 σ' H' S2 k2
  | rt d => exact w1 O' σ' H' S k
theorem ss_fg {vs : List Nat} (h : SsD fl X Wx sts m) : SsD fl X Wx sts (sFg vs m) := let ⟨t, p, q⟩ := h; ⟨t, p, fun F O env σ H D S w => q F O env σ H D S (fg_post w)⟩
theorem sd_fg {vs : List Nat} {st : Stmt} (h : SD fl X Wx st m) : SD fl X Wx st (sFg vs m) := let ⟨t, p, q⟩ := h; ⟨t, p, fun F O env σ H D S w => q F O env σ H D S (fg_post w)⟩
end
/-! ### raise X() -/
section
variable {X : Cx} {B newId initId : String} {C : Addr} {bmB : List Value}
theorem pmk_own0 {x : Str} {p pos : Pos} (F : ExcBaseFacts B newId initId bmB) (q : PySem.W.excIn X.K C bmB newId = true) (gC : X.mg x = some (.ref C)) (kC : PySem.W.keepIn X.K (.ref C) = true) (r : Raises X (.ref C)) (hg : Gl X x)
    (hdb : (x == ("__debug__" : Str)) = false := by decide) : PMk X (.Call (.Name x p) [] [] pos) (fun _ H Q => Q (.ref C) none H) := by
  intro pins s σ H Q I h
  refine wpAny_Call_Name_kw (ld_glob I hg gC (?_) hdb); refine PySem.W.callWith_K0 I.kIn kC ?_
  show wpAny _ _ (call (.ref C) []) _ _ _
  obtain ⟨bm, N, nm, qn, bs, hdct, sn, sub, ab, col, dd, k0, k1, k2, k3, k5, mN, hC, hN, hni, T⟩ := exc_obj I.kIn q
  exact wpAny_call_exc_subT F T hC hN hni (fun h' e hm => mk_of I hm r h (I.hok.gone hm.new)) (by show 0 ≤ sizeLine; omega)
end
/-- an own exception class without fields -/
structure XcF (K : PySem.W.Frag) (mg : Str → Option Value) (c : Str) : Prop where
  q : PySem.W.excIn K (He.ga K c) (PySem.HandSPX.veTail) "ValueError.__new__" = true
  g : mg c = some (.ref (He.ga K c))
  k : PySem.W.keepIn K (.ref (He.ga K c)) = true
  b : PySem.W.subIn K (.ref (He.ga K c)) (.type "BaseException") = some true
  t : PySem.W.typeIn K (.ref (He.ga K c)) = some (.type "type")
def sRaise (c : Str) : DS := fun e => .ex c [] e
theorem sd_raise0 {fl : Fl} {X : Cx} {Wx : WX} {c : Str} {p p1 pos : Pos} (hc : X.calm = true) (tk : Takes X Wx) (hx : c ∈ TheK.xs) (F : XcF X.K X.mg c) (hg : Gl X c) (hdb : (c == ("__debug__" : Str)) = false := by decide) :
    SD fl X Wx (.Raise (some (.Call (.Name c p) [] [] p1)) none pos) (sRaise c) :=
  ⟨_, ps_raise hc tk (pmk_own0 PySem.F.excBase_ValueError F.q F.g F.k (raises_own F.b F.t) hg hdb), fun F O env σ H D S w => w O σ _ _ H S .refl ⟨⟨rfl, hx⟩, rfl⟩⟩
end AH
namespace AH
open PySem PySem.Spec PyProof.Rows L2
/-! ### try: body, except x as n: suite; the exception's object is kept in the heap -/
section
variable {X : Cx} {σ : L2.St} {H : Hp} {pins : List (Addr × Obj)} {s : Shared}
theorem Inv.suiteK (I : Inv X pins σ H s) {a : Addr} {oe : Obj} {vs : Array Value} {cls : Value} {d : Option Addr} (ha : s.heap.get? a = some oe) (hd : oe.data = .fields vs) (hz : Zc cls d oe) (na : H a = none) (nL : a ≠ X.env.locals) (n0 : X.s_0.heap.get? a = none) (np : ∀ p ∈ X.pn ++ pins, p.1 ≠ a) :
    Inv (X.suite a (X.pn ++ pins)) [] σ (upd H a (CgO cls d a)) s := by
  refine ⟨I.ok.suite _ _, I.os, I.bare, ⟨I.base.keep, I.base.slot, fun b o e n hx => ?_, I.base.there, fun b xs e => ?_, fun b o u e => ?_, fun b ps e => ?_⟩, I.loc, I.cell, ?_, fun x c e => ?_, fun p hp => ?_, ?_, I.len⟩
  · rw [upd_ne (fun z => by rw [z, n0] at e; cases e)]
    exact I.base.free b o e n hx
  · have qt := I.base.tups b xs e
    rw [upd_ne (ne_of_none qt na)]; exact qt
  · have qf := I.base.frzs b o u e
    rw [upd_ne (ne_of_none qf na)]; exact qf
  · obtain ⟨more, q⟩ := I.base.tbls b ps e
    exact ⟨more, by rw [upd_ne (ne_of_none q na)]; exact q⟩
  · show upd H a (CgO cls d a) X.env.locals = none
    rw [upd_ne (Ne.symm nL)]; exact I.free
  · obtain ⟨v, hc⟩ := I.cell x c e
    have ne : c ≠ a := fun z => by
      subst z
      obtain ⟨o, h1, h2⟩ := hc
      rw [ha] at h1; cases h1
      rw [hd] at h2; cases h2
    rw [upd_ne ne]; exact I.freeC x c e
  · have hp' : p ∈ X.pn ++ pins := by rw [List.append_nil] at hp; exact hp
    obtain ⟨e, n, q⟩ := I.pin p hp'
    exact ⟨e, by rw [upd_ne (np p hp')]; exact n, q⟩
  · exact HOk.laidN I.hok (fun _ _ e => e) na ⟨⟨oe, vs, ha, hz, hd⟩, ⟨oe, ha⟩, fun _ _ ⟨o, v, q, r⟩ k => ⟨o, v, k o q, r⟩⟩
theorem Inv.unsuiteK {a : Addr} {pn' : List (Addr × Obj)} (I : Inv (X.suite a (X.pn ++ pins)) pn' σ H s) (ok : X.Ok) : Inv X pins σ H s :=
  ⟨ok, I.os, I.bare, I.base, I.loc, I.cell, I.free, I.freeC, fun r hr => I.pin r (List.mem_append_left _ hr), I.hok, I.len⟩
end
def wKp (K : PySem.W.Frag) (c : Value) (i : Nat) (ts : TS) (Wout : WX) (D : Ends) : WX := fun cls d σ H =>
  ∃ b, PySem.W.exmOne K cls c = some b ∧ (b = true → ∀ a, H a = none → ts { nx := fun σ' H' => D.nx (σ'.set i none) H', rt := D.rt, bk := fun σ' H' => D.bk (σ'.set i none) H', ct := fun σ' H' => D.ct (σ'.set i none) H' } (σ.set i (some (.ref a))) (upd H a (CgO cls d a))) ∧
    (b = false → Wout cls d σ H)
section
variable {X : Cx} {x n : Str} {c : Value} {i : Nat} {body suite : List Stmt} {b₀ : Stmt} {np pos pos' : Pos} {tb : WX → TS} {ts : TS} {Wout : WX}
theorem ps_try_keep (hs : X.stack = X.env :: X.outer) (hf : X.env.frame = some X.env.locals) (hex : X.ex = []) (hN : X.N.Nodup) (hi : X.N[i]? = some n) (hln : X.env.kindOf n = some .local) (hc : Names X x c) (tk : Takes X Wout)
    (hb : ∀ (W : WX) (pn : List (Addr × Obj)) (xe : Value → Shared → Prop),  Takes (X.tr pn xe) W → PassesOwn (model X.prog X.w) X.A X.env xe → PSs (X.tr pn xe) body (tb W))
    (hsu : ∀ (a : Addr) (pn : List (Addr × Obj)), PSs (X.suite a pn) (b₀ :: suite) ts) :
    PS X (.Try body [.ExceptHandler (some (.Name x np)) (some n) (b₀ :: suite) pos'] [] [] pos) (fun D σ H => tb (wKp X.K c i ts Wout D) D σ H) := by
  refine ⟨fun pins s σ H D I h => ?_⟩; have ok := I.ok
  have hff : X.A.frames = some (X.env :: X.outer) := by rw [ok.frames, hs]
  have hlo : Loc X.env.scope n := .inl hln
  refine wpAny_Try_except ?_
  refine wpAny_mono ((hb (wKp X.K c i ts Wout D) (X.pn ++ pins) (fun e s₁ => wpAny (model X.prog X.w) X.A (noteFrame e X.env) (fun _ s₂ => wpAny (model X.prog X.w) X.A (setFlight e none) (fun _ s₃ =>
    wpAny (model X.prog X.w) X.A (handleBy e X.env [.ExceptHandler (some (.Name x np)) (some n) (b₀ :: suite) pos']) (SP X pins D) X.xe s₃) X.xe s₂) X.xe s₁) (fun u s' xw => ?_) PassesOwn.looking).run [] s σ H D (I.toTry _) h) (fun f s1 sp1 => ?_) (fun e s1 he => he)
  · obtain ⟨a, B, sI, pins', σ', H', cls, d, rfl, Y', nb, uq, sk, na, os, ag, b, mb1, yes, nay⟩ := xw
    have Y : Inv X pins σ' H' sI := Y'.ofTry ok
    have sk' : Sky B (X.env :: X.outer) a (Zc cls d) X.env.locals s'.heap := by rw [← hs]; exact sk
    refine Sky.land Zc.steady hff hf sk' fun h3 fy3 uq3 => ?_
    have Y3 : Inv X pins σ' H' { s' with heap := h3 } := Y.landed nb fy3.1 (uq.trans uq3) os ag
    obtain ⟨ob3, ws3, at3, zc3, da3⟩ := fy3.there
    have isNoFr : ∀ {h : Heap} {o : Obj} {vs : Array Value}, h.FunFrames B (X.env :: X.outer) → h.get? a = some o → o.data = .fields vs → a ∉ frs (X.env :: X.outer) := fun {h o vs} ff e dd hm => by
      obtain ⟨_, o2, e2, hn2⟩ := ff.mem hm
      rw [e] at e2; cases e2
      exact hn2 _ dd
    have nofr := isNoFr fy3.2.2.1 at3 da3
    have nL : a ≠ X.env.locals := fun z => nofr (List.mem_filterMap.mpr ⟨X.env, List.mem_cons_self, by rw [hf, z]⟩)
    have nF : a ∉ X.fs := fun hmm => by
      obtain ⟨e, he, q⟩ := List.mem_filterMap.mp hmm
      exact nofr (List.mem_filterMap.mpr ⟨e, List.mem_cons_of_mem _ he, q⟩)
    have nB : B.get? a = none := fy3.2.1
    have nI : sI.heap.get? a = none := by
      cases q : sI.heap.get? a with
      | none => rfl
      | some o =>
        have z := nb a o q (by rw [hs]; exact nofr)
        rw [nB] at z; cases z
    have n00 : X.s_0.heap.get? a = none := by
      cases q : X.s_0.heap.get? a with
      | none => rfl
      | some o =>
        obtain ⟨o', z⟩ := Y.base.there a o q (by rw [hex]; simp)
        rw [nI] at z; cases z
    have npn : ∀ p ∈ X.pn ++ pins, p.1 ≠ a := fun p hp z => by
      obtain ⟨e, _⟩ := Y.pin p hp
      rw [z, nI] at e; cases e
    have Z3 := Y3.suite at3 da3 na nL nF
    refine wpAny_handleBy_cons (codeAny_handlers_test ?_) (by intro z; cases z)
    have lty : PySem.W.Looks (model X.prog X.w) h3 (typeOf (.ref a)) cls := fun A Q E s k q => wpAny_typeOf_ref (k _ _ at3) (by rw [zc3.1]; exact q)
    have lmt := PySem.W.exm_one (M := model X.prog X.w) (Y3.kIn) lty mb1
    have tst : ∀ {Q : Value → Shared → Prop} {E : Value → Shared → Prop}, Q c { s' with heap := h3 } → wpAny (model X.prog X.w) (X.A.mark (some (.ref a))) (eval (.Name x np) X.env) Q E { s' with heap := h3 } := fun {Q E} q => by
      obtain ⟨hg, hdg, hm | ⟨hm, hv, hnn⟩⟩ := hc
      · exact ld_glob (X := X.suite a ((a, ob3) :: (X.pn ++ pins))) Z3 hg hm q hdg
      · exact ld_blt (X := X.suite a ((a, ob3) :: (X.pn ++ pins))) Z3 hg hm hv q hnn hdg
    refine tst (lmt.here ?_)
    cases b with
    | true =>
      refine codeAny_handlers_suite_as (HandSPX.lands_againZ fy3 fun h4 fy4 uq4 => ?_)
      have Y4 : Inv X pins σ' H' { s' with heap := h4 } := Y.landed nb fy4.1 ((uq.trans uq3).trans uq4) os ag
      obtain ⟨ob4, ws4, at4, zc4, da4⟩ := fy4.there
      have Z4 := Inv.suiteK Y4 at4 da4 zc4 na nL n00 npn
      refine store_ok (X := X.suite a (X.pn ++ pins)) (v := .ref a) Z4 hN hi hlo rfl (fun s5 Z5 => ?_) (.inr hln)
      refine wpAny_mono ((hsu a (X.pn ++ pins)).run [] s5 _ _ _ Z5 (yes rfl a na)) (fun f s6 sp1 => ?_) (fun _ _ z => False.elim z)
      have fin_ : ∀ {τ6 : L2.St} {G6 : Hp} {Q : Shared → Prop}, Inv (X.suite a (X.pn ++ pins)) [] τ6 G6 s6 → (∀ s7, Inv X pins (τ6.set i none) G6 s7 → Q s7) →
          wpAny (model X.prog X.w) X.A (do bindName X.env n .none; unbindBehindTheSuite X.env n pos') (fun _ s7 => Q s7) X.xe s6 := fun {τ6 G6 Q} Z6 hq => gone_ok (Inv.unsuiteK Z6 ok) hN hi hln hq
      cases f with
      | next =>
        obtain ⟨τ6, G6, Z6, w6⟩ := sp1
        exact fin_ Z6 fun s7 Y7 => ⟨_, _, Y7, w6⟩
      | brk =>
        obtain ⟨τ6, G6, Z6, w6⟩ := sp1
        exact fin_ Z6 fun s7 Y7 => ⟨_, _, Y7, w6⟩
      | cont =>
        obtain ⟨τ6, G6, Z6, w6⟩ := sp1
        exact fin_ Z6 fun s7 Y7 => ⟨_, _, Y7, w6⟩
      | ret u =>
        obtain ⟨vl6, τ6, G6, Z6, rl6, w6⟩ := sp1
        exact fin_ Z6 fun s7 Y7 => ⟨_, _, _, Y7, rl6, w6⟩
    | false =>
      refine wpAny_handleBy_nil (?_)
      obtain ⟨k1, k2, k3, oe, vs, T, oT, ts', he, hz, hd, h1, hr⟩ := id fy3
      unfold PySem.passOn
      refine wpAny_bind (wpAny_field he hd h1 (?_)); rw [if_neg (show ¬ ((Value.ref T == Value.none) = true) by simp)]
      have finn : wpAny (model X.prog X.w) X.A (setFlight (.ref a) X.env.frame) (fun _ s4 => wpAny (model X.prog X.w) X.A (throw (.ref a) : Sem Flow) (SP X pins D) X.xe s4) X.xe { s' with heap := h3 } := by
        rw [hf]
        refine HandSPX.setFlight_upZ fy3 fun h4 hh4 uq4 => wpAny_throw (tk _ _ ?_)
        exact ⟨a, B, sI, pins, σ', H', cls, d, rfl, Y, nb, (uq.trans uq3).trans uq4, .inr (.inr (by rw [hs]; exact hh4)), na, os, ag, nay rfl⟩
      first
        | exact wpAny_bind (wpAny_pure (wpAny_bind finn))
        | exact wpAny_bind finn
  · cases f with
    | next =>
      obtain ⟨σ', H', Y', q⟩ := sp1
      exact wpAny_execs_nil ⟨σ', H', Y'.ofTry ok, q⟩
    | brk =>
      obtain ⟨σ', H', Y', q⟩ := sp1
      exact ⟨σ', H', Y'.ofTry ok, q⟩
    | cont =>
      obtain ⟨σ', H', Y', q⟩ := sp1
      exact ⟨σ', H', Y'.ofTry ok, q⟩
    | ret u =>
      obtain ⟨v, σ', H', Y', r, q⟩ := sp1
      exact ⟨v, σ', H', Y'.ofTry ok, r, q⟩
end
end AH
namespace AH
open PySem PySem.Spec PyProof.Rows L2
variable [TheK]
/-! ### try, the error kept in a name -/
def sTryK (c : Str) (i j : Nat) (m : DS) : DS := fun e => match m e with
  | .ok o e1 => .ok o e1
  | .ex c' fs e1 => if c' = c then (if isOwn (sl e1 i) || (isFix (sl e1 j) || !decide (i < e1.length)) then .bad else .ok .nx (put (put e1 j (.val (.exc c' [] fs))) i .no)) else .ex c' fs e1
  | .bad => .bad
theorem SR.newX {K : PySem.W.Frag} {F : Fm} {O : Nat → Option Addr} {env : Env} {σ : L2.St} {H : Hp} {a : Addr} {o : HO} (S : SR K F O env σ H) (h : H a = none) : SR K F O env σ (upd H a o) := S.new' h
theorem SR.dropS {K : PySem.W.Frag} {F : Fm} {O : Nat → Option Addr} {env : Env} {σ : L2.St} {H : Hp} {i : Nat} {o : Option V} (S : SR K F O env σ H) : SR K F (setO O i none) (put env i .no) (σ.set i o) H where
  slot := fun j => by
    by_cases hj : j = i
    · subst hj
      by_cases hl : j < env.length
      · rw [sl_put_same _ _ _ hl]; exact setO_same
      · rw [put_out _ _ _ (by omega), sl_out _ _ (by omega)]; exact setO_same
    · rw [sl_put_ne _ _ _ _ hj, get1_ne hj]
      exact SlR.own (F := F) rfl rfl (setO_ne hj) (fun _ z => z) (fun a w => .inl (ow_setN w)) (fun a w => .inl (w.elim (fun w => .inl (jo_setN w)) .inr)) (S.slot j)
  inj := inj_setN S
  prot := fun a w => S.prot a (ow_setN w)
  keep := S.keep
  al := S.al
  len := by rw [put_len, List.length_set]; exact S.len
  nal := S.nal
  pt := S.pt
section
variable {fl : Fl} {X : Cx} {Wx : WX} {n y c : Str} {i j : Nat} {body : List Stmt} {m : DS} {np py pn pa pos' pos : Pos}
def tSs (fl : Fl) (K : PySem.W.Frag) (m : DS) (W : WX) : TS := fun D σ H => ∃ F O env, SR K F O env σ H ∧ Want m env (Post fl K F O H D) (XWs K F O H W)
theorem SsD.pss (h : SsD fl X Wx body m) : PSs X body (tSs fl X.K m Wx) := by
  obtain ⟨t, p, q⟩ := h
  exact ⟨fun pins s σ H D I ⟨F, O, env, S, w⟩ => p.run pins s σ H D I (q F O env σ H D S w)⟩
theorem sd_tryK (hs : X.stack = X.env :: X.outer) (hf : X.env.frame = some X.env.locals) (hex : X.ex = []) (hN : X.N.Nodup) (hi : X.N[i]? = some n) (hln : X.env.kindOf n = some .local) (hj : X.N[j]? = some y) (hy : X.env.kindOf y = some .local) (hij : i ≠ j)
    (hK : X.K = TheK.K) (hg : Gl X c) (hdb : (c == ("__debug__" : Str)) = false) (hm : X.mg c = some (.ref (He.ga X.K c))) (hx : ∀ c' ∈ TheK.xs, PySem.W.exmOne X.K (.ref (He.ga X.K c')) (.ref (He.ga X.K c)) = some (decide (c' = c))) (tk : Takes X Wx)
    (hb : ∀ (W : WX) (pn : List (Addr × Obj)) (xe : Value → Shared → Prop), Takes (X.tr pn xe) W → PassesOwn (model X.prog X.w) X.A X.env xe → SsD fl (X.tr pn xe) W body m)
    (hd : (n == ("__debug__" : Str)) = false := by decide) (hcd : (n == ("__classdict__" : Str)) = false := by decide)
    (hsw : swapsWith (.Name n pn) (some (.Name y py)) pa.line X.env = pure false := by rfl) :
    SD fl X Wx (.Try body [.ExceptHandler (some (.Name c np)) (some n) [.Assign [.Name y py] (.Name n pn) pa] pos'] [] [] pos) (sTryK c i j m) := by
  refine ⟨_, ps_try_keep (tb := tSs fl X.K m) (ts := tAsg (tVar i) (gName j)) hs hf hex hN hi hln (c := .ref (He.ga X.K c)) ⟨hg, hdb, .inl hm⟩ tk (fun W pn xe t p => SsD.pss (hb W pn xe t p)) (fun a pns => pss_one (ps_set (X := X.suite a pns) hN hj (.inl hy) (pe_var hi (.inl hln) hd hcd) hsw (.inr hy))), fun F O env σ H D S w => ?_⟩
  refine ⟨F, O, env, S, ?_⟩
  unfold Want at w ⊢
  unfold sTryK at w
  cases hm : m env with
  | bad => rw [hm] at w; exact w
  | ok o e1 => rw [hm] at w; exact w
  | ex c' fs e1 =>
    rw [hm] at w
    simp only at w ⊢
    intro O1 σ1 cls d H1 S1 k1 xr
    have hmem := xr.1.2
    have ecls := xr.1.1
    refine ⟨decide (c' = c), by rw [ecls]; exact hx c' hmem, fun hb a na => ?_, fun hb => ?_⟩
    · have ec : c' = c := of_decide_eq_true hb
      rw [if_pos ec] at w
      cases hoo : (isOwn (sl e1 i) || (isFix (sl e1 j) || !decide (i < e1.length))) with
      | true => rw [hoo] at w; exact w.elim
      | false =>
      rw [hoo] at w
      rw [Bool.or_eq_false_iff, Bool.or_eq_false_iff] at hoo
      have w : Post fl X.K F O H D .nx (put (put e1 j (.val (.exc c' [] fs))) i .no) := w
      have hl : i < σ1.length := by
        have h2 := hoo.2.2
        rw [← S1.len]
        simpa using h2
      refine ⟨.ref a, ?_, ?_⟩
      · rw [List.getElem?_set_self hl]
      · have nW : ¬ Ow F O1 a := fun z => S1.prot a z na
        have S2 : SR X.K F O1 e1 σ1 (upd H1 a (CgO cls d a)) := S1.newX na
        have ke1 : Ke (Jo O1) H1 (upd H1 a (CgO cls d a)) := Ke.new na
        have r : Rep (Ow F O1) (upd H1 a (CgO cls d a)) (.ref a) (.exc c' [] fs) := by
          obtain ⟨_, x2⟩ := xr
          have ea : upd H1 a (CgO cls d a) a = some (CgO (.ref (He.ga TheK.K c')) d a) := by rw [upd_same, ecls, hK]
          cases d with
          | none =>
            have x2 : fs = [] := x2
            subst x2
            exact .exc (vs := []) nW hmem ea (fun _ => rfl) (fun d z => by cases z) .nil
          | some dd =>
            obtain ⟨y0, vs, y1, y2, y3⟩ := x2
            exact .exc (vs := vs) nW hmem ea (fun z => by cases z) (fun d z => by cases z; exact ⟨y0, by rw [upd_ne (ne_of_none y1 na)]; exact y1, y2⟩) (y3.mono (Ke.new na))
        have S3 := (S2.setVal (i := j) r).dropS (i := i) (o := none)
        have eσ : (((σ1.set i (some (.ref a))).set j (some (.ref a))).set i none : L2.St) = (σ1.set j (some (.ref a))).set i none := by
          rw [List.set_comm _ _ (Ne.symm hij), List.set_set, List.set_comm _ _ hij]
        have fin := w _ _ _ S3 (k1.trans ⟨ke1, fun b z => .inl (jo_setN (jo_setN z))⟩)
        rw [← eσ] at fin
        exact fin
    · have ec : ¬ c' = c := of_decide_eq_false hb
      rw [if_neg ec] at w
      exact w O1 σ1 cls d H1 S1 k1 xr
end
/-! ### isinstance(error, B), error.f -/
def isVE (c : Str) : Bool := decide (c = "Unlike" ∨ c = "Unfit" ∨ c = "NoMove" ∨ c = "TooFew" ∨ c = "BadText" ∨ c = "BadLine")
structure XvF (K : PySem.W.Frag) (c : Str) : Prop where
  x : ExcC K (He.ga K c)
  ve : PySem.W.kitOne K (.ref (He.ga K c)) (.type "ValueError") = some (isVE c)
  le : PySem.W.kitOne K (.ref (He.ga K c)) (.type "LookupError") = some (!isVE c)
section
variable {X : Cx} {Wx : WX} {a : Expr} {ma : DE} {p p2 pos : Pos}
theorem inst_of {H : Hp} {s : Shared} {b C : Addr} {dd : Option Addr} (hok : HOk X.prog X.w H s.heap) (h1 : H b = some (CgO (.ref C) dd b)) (h2 : ∀ d, dd = some d → ∃ fs, H d = some (.xd fs)) : ∃ ox od, PySem.W.InstAt s.heap b ox C od ∧ ox.dict = dd := by
  obtain ⟨⟨oe, vs, g, hz, hd⟩, _, _⟩ := (show ObjOk X.prog X.w H s.heap b (CgO (.ref C) dd b) from hok b _ h1)
  have no : PySem.W.notCls oe = true := by unfold PySem.W.notCls; rw [hd]
  cases dd with
  | none => exact ⟨oe, none, ⟨g, hz.1, no, by rw [hz.2]; trivial⟩, hz.2⟩
  | some d =>
    obtain ⟨fs, h3⟩ := h2 d rfl
    obtain ⟨mA, hns, _⟩ := (show ObjOk X.prog X.w H s.heap d (.xd fs) from hok d _ h3)
    obtain ⟨od, ho, _⟩ := lookIn_ns hns
    exact ⟨oe, some od, ⟨g, hz.1, no, by rw [hz.2]; exact ho⟩, hz.2⟩
def rIsX (K : PySem.W.Frag) : List V → Hp → VK → Prop := fun xs H Q => ∃ (b C : Addr) (dd : Option Addr) (c : V) (cv : Value) (k : Bool), xs = [.ref b, c] ∧ (∀ u, RelV c u → u = cv) ∧ H b = some (CgO (.ref C) dd b) ∧ (∀ d, dd = some d → ∃ fs, H d = some (.xd fs)) ∧ ExcC K C ∧ PySem.W.kitOne K (.ref C) cv = some k ∧ Q (.bl k) H
theorem call_isX : CallR X (.builtin "isinstance") (rIsX X.K) := by
  intro pins s σ H xs us Q I rr h
  obtain ⟨b, C, dd, c, cv, k, rfl, hcv, h1, h2, T, e, q⟩ := h
  cases rr with
  | cons rx rz =>
    cases rz with
    | cons rt rz =>
      cases rz
      cases rx
      have ec := hcv _ rt
      subst ec
      obtain ⟨ox, od, J, _⟩ := inst_of (X := X) I.hok h1 h2
      obtain ⟨cd, hcd, _⟩ := PySem.W.any_some T.hd
      exact PySem.W.kia_one (PySem.W.kitx_exc (by rw [hcd]; rfl) T.hg T.hk T.hs T.ha T.hn T.ht T.hm) I.kIn J e (fun z => nomatch z) fun tk => ⟨.bl k, H, I.kept (t' := tk) fun _ _ z => z, rfl, q⟩
def dIsX (v : Bool) : D → Rv D
  | .non => .ok (.bl false)
  | .exc c _ _ => .ok (.bl (if v then isVE c else !isVE c))
  | _ => .bad
def nmX (v : Bool) : Str := if v then "ValueError" else "LookupError"
def nmX' (v : Bool) : String := if v then "ValueError" else "LookupError"
theorem kit_nonX (v : Bool) : kitB "NoneType" (nmX' v) = some false := by cases v <;> decide +kernel
theorem pd_isX {v : Bool} {y : Str} (hK : X.K = TheK.K) (F : ∀ c ∈ TheK.xs, XvF X.K c) (hb : Bn X "isinstance" (.builtin "isinstance")) (hy : Bn X y (.type (nmX' v))) (ha : PD .s X Wx a ma)
    (hs : starEach [a, .Name y p2] X.env = (false, eval a X.env) :: starEach [.Name y p2] X.env := by rfl) : PD .s X Wx (.Call (.Name "isinstance" p) [a, .Name y p2] [] pos) (e1 (dIsX v) ma) := by
  obtain ⟨ta, pa, qa⟩ := ha
  refine ⟨_, pe_callB (CallR.or call_isi call_isX) hb.gl hb.mg hb.bt (pa_cons pa (pa_cons (pe_ty hy) pa_nil) hs) hb.nn hb.nd hs rfl, fun F' O env σ H Q S w => ?_⟩
  refine qa F' O env σ H _ S (w.bind.imp (fun dx e1 w1 x H1 S1 k1 p1 => ?_) fun _ _ _ z => z)
  obtain ⟨dz, ez, w2⟩ := w1.of
  cases p1 with
  | non =>
    cases ez
    exact .inl ⟨.non, .ty (nmX' v), _, _, _, rfl, .ty _, .base .non, kit_ty (kit_nonX v), w2 _ H1 S1 k1 (.bl _)⟩
  | exc n hc h h1 h2 l =>
    rename_i b dd c fs vs
    cases ez
    have T := F c hc
    rw [← hK] at h
    refine .inr ⟨b, He.ga X.K c, dd, .ty (nmX' v), .type (nmX' v), _, rfl, fun u z => z, h, fun d z => ⟨_, (h2 d z).2.1⟩, T.x, ?_, w2 _ H1 S1 k1 (.bl _)⟩
    cases v
    · exact T.le
    · exact T.ve
  | _ => cases ez
/-- error.f -/
def tXa (K : PySem.W.Frag) (f : Str) (te : TE) : TE := fun σ H Q => te σ H fun x H1 => ∃ (b C d : Addr) (fs : List (Str × V)) (v : V), x = .ref b ∧ H1 b = some (CgO (.ref C) (some d) b) ∧ H1 d = some (.xd fs) ∧ XfC K C ∧ PySem.W.findIn K (.ref C) f = some none ∧ fs.lookup f = some v ∧ Q v H1
theorem pe_xa {e : Expr} {te : TE} {f : Str} (he : PE X e te) (hb : attributeBase e f X.env (eval e X.env) = eval e X.env := by rfl) : PE X (.Attribute e f pos) (tXa X.K f te) := by
  refine ⟨fun pins s σ H Q I h => attr_of hb (thn (he.run pins s σ H _ I h) fun u s1 hh => ?_)⟩
  obtain ⟨x, H1, I1, rx, b, C, d, fs, v, ex, e1, e2, T, hno, l, q⟩ := hh
  subst ex
  obtain rfl : u = Value.ref b := rx
  obtain ⟨⟨oe, vs, g, hz, hd⟩, _, _⟩ := (show ObjOk X.prog X.w H1 s1.heap b (CgO (.ref C) (some d) b) from I1.hok b _ e1)
  obtain ⟨mA, hns, hr⟩ := (show ObjOk X.prog X.w H1 s1.heap d (.xd fs) from I1.hok d _ e2)
  obtain ⟨od, ho, hlk⟩ := lookIn_ns hns
  obtain ⟨u, hu, ru⟩ := RelO.some_of (v := v) (o := mA f) (by rw [← l]; exact hr f)
  have J : PySem.W.InstAt s1.heap b oe C (some od) := ⟨g, hz.1, by unfold PySem.W.notCls; rw [hd], by rw [hz.2]; exact ho⟩
  exact HandSPX.exc_get I1.kIn J T.ga T.gg T.exC (PySem.W.findObj_own T.hdC hno rfl (by rw [hlk, hu])) (handed_of ru) ⟨v, H1, I1.tok _, ru, q⟩
structure XaF (K : PySem.W.Frag) (c : Str) : Prop where
  x : XfC K (He.ga K c)
  n : ∀ f ∈ fieldsOf c, PySem.W.findIn K (.ref (He.ga K c)) f = some none
def dXa (f : Str) : D → Rv D
  | .exc c _ fs => (match ((fieldsOf c).zip fs).lookup f with
    | some d => .ok d
    | none => .bad)
  | _ => .bad
theorem lookup_rep {W : Pr} {H : Hp} {f : Str} : ∀ {ns : List Str} {vs : List V} {fs : List D} {d : D}, RepL W H vs fs → (ns.zip fs).lookup f = some d → f ∈ ns ∧ ∃ v, (ns.zip vs).lookup f = some v ∧ Rep W H v d
  | [], _, _, _, _, e => by cases e
  | n :: ns, _, _, d, .nil, e => by cases e
  | n :: ns, _, _, d, .cons (v := v) (d := d0) r l, e => by
    rw [List.zip_cons_cons, List.lookup_cons] at e
    rw [List.zip_cons_cons, List.lookup_cons]
    cases q : (f == n) with
    | true =>
      rw [q] at e
      cases e
      exact ⟨by rw [beq_iff_eq.mp q]; exact List.mem_cons_self, v, rfl, r⟩
    | false =>
      rw [q] at e
      obtain ⟨h1, v', h2, h3⟩ := lookup_rep l e
      exact ⟨List.mem_cons_of_mem _ h1, v', h2, h3⟩
theorem pd_xa {f : Str} (hK : X.K = TheK.K) (F : ∀ c ∈ TheK.xs, XaF X.K c) (ha : PD .s X Wx a ma) (hb : attributeBase a f X.env (eval a X.env) = eval a X.env := by rfl) : PD .s X Wx (.Attribute a f pos) (e1 (dXa f) ma) := by
  obtain ⟨ta, pa, qa⟩ := ha
  refine ⟨_, pe_xa pa hb, fun F' O env σ H Q S w => ?_⟩
  refine qa F' O env σ H _ S (w.bind.imp (fun dx e1 w1 x H1 S1 k1 p1 => ?_) fun _ _ _ z => z)
  obtain ⟨dz, ez, w2⟩ := w1.of
  cases p1 with
  | exc n hc h h1 h2 l =>
    rename_i b dd c fs vs
    have ez : (match ((fieldsOf c).zip fs).lookup f with | some d => Rv.ok d | none => Rv.bad) = .ok dz := ez
    have T := F c hc
    cases q : ((fieldsOf c).zip fs).lookup f with
    | none => rw [q] at ez; cases ez
    | some d' =>
      rw [q] at ez
      cases ez
      obtain ⟨m1, v, m2, m3⟩ := lookup_rep l q
      rw [← hK] at h
      cases dd with
      | none =>
        have z := h1 rfl
        subst z
        cases l
        simp at q
      | some d0 => exact ⟨b, He.ga X.K c, d0, _, v, rfl, h, (h2 d0 rfl).2.1, T.x, T.n f m1, m2, w2 v H1 S1 k1 m3⟩
  | _ => cases ez
end
end AH
namespace AH
open PySem PySem.Spec PyProof.Rows L2
/-! ### zip over lists and tuples, two or three -/
def SqK (k : Bool) (K : PySem.W.Frag) (H : Hp) (a : Addr) (xs : List V) : Prop := match k with
  | true => SqT K H a xs
  | false => SqL K H a xs
def ItK (k : Bool) (h : Heap) (it a : Addr) (i : Nat) : Prop := match k with
  | true => h.IsTupleIter it a i
  | false => h.IsListIter it a i
def IsK (k : Bool) (h : Heap) (a : Addr) (items : Array Value) : Prop := match k with
  | true => h.IsTuple a items
  | false => h.IsList a items
def obK (k : Bool) (a : Addr) : Obj := match k with
  | true => { cls := .type "tuple_iterator", data := .fields #[.ref a, .int 0 0] }
  | false => { cls := .type "list_iterator", data := .fields #[.ref a, .int 0 0] }
section
variable {k : Bool} {X : Cx} {pins : List (Addr × Obj)} {σ : L2.St} {H : Hp} {s : Shared} {a it : Addr} {xs : List V} {h h' : Heap} {i : Nat}
theorem drawsK {prog : Program} {w : World} {A : Around} (hh : A.handled = none) (k : Bool) (it a : Addr) (hne : a ≠ it) (items : Array Value) : Draws prog w A it [it, a] items.size (fun i v => items[i]? = some v) (fun i h => ItK k h it a i ∧ IsK k h a items) := by
  cases k
  · exact Draws.list hh it a hne items
  · exact Draws.tuple hh it a hne items
theorem beginsK (k : Bool) (a : Addr) (items : Array Value) : Begins (.ref a) (obK k a) fun h => IsK k h a items := by
  cases k
  · exact begins_list a items
  · exact begins_tuple a items
theorem itK0 (e : h.get? it = some (obK k a)) : ItK k h it a 0 := by
  cases k
  · exact ⟨_, e, rfl, rfl⟩
  · exact ⟨_, e, rfl, rfl⟩
theorem ItK.keep (x : ItK k h it a i) (qw : ∀ o, h.get? it = some o → h'.get? it = some o) : ItK k h' it a i := by
  cases k
  · exact Heap.IsListIter.at x qw
  · exact Heap.IsTupleIter.at x qw
theorem ItK.obj (x : ItK k h it a i) : ∃ o, h.get? it = some o ∧ ∀ v, o.data ≠ .cell v := by
  cases k
  · obtain ⟨o, e, _, d⟩ := x
    exact ⟨o, e, fun v qw => by rw [d] at qw; cases qw⟩
  · obtain ⟨o, e, _, d⟩ := x
    exact ⟨o, e, fun v qw => by rw [d] at qw; cases qw⟩
theorem Inv.sqK (I : Inv X pins σ H s) (qw : SqK k X.K H a xs) : ∃ its : List Value, Vals xs its ∧ IsK k s.heap a its.toArray ∧ a < s.heap.objs.size := by
  cases k
  · obtain ⟨its, rv, p, _⟩ := I.list qw
    exact ⟨its, rv, p.isList, p.lt⟩
  · obtain ⟨its, rv, p, _⟩ := I.tuple qw
    obtain ⟨o, ho, _⟩ := id p
    exact ⟨its, rv, p, Heap.lt_size ho⟩
theorem Inv.sqK_inj (I : Inv X pins σ H s) {ys : List V} (qw : SqK k X.K H a xs) (r : SqK k X.K H a ys) : xs = ys := by
  cases k
  · exact I.list_inj qw r
  · exact I.tuple_inj qw r
end
theorem nin2 {x y z : Nat} (h1 : x ≠ y) (h2 : x ≠ z) : x ∉ [y, z] := by simp [h1, h2]
def Itz2 (k1 k2 : Bool) (K : PySem.W.Frag) (a b : Addr) : It :=
  ⟨fun i H => ∃ (xs ys : List V) (x y : V), SqK k1 K H a xs ∧ SqK k2 K H b ys ∧ xs[i]? = some x ∧ ys[i]? = some y,
    fun i H v H' => ∃ T x y, v = .ref T ∧ H T = none ∧ H' = upd H T (.tup [x, y]) ∧ (∀ xs, SqK k1 K H a xs → xs[i]? = some x) ∧ ∀ ys, SqK k2 K H b ys → ys[i]? = some y,
    fun i H => ∃ xs ys : List V, SqK k1 K H a xs ∧ SqK k2 K H b ys ∧ i ≤ xs.length ∧ i ≤ ys.length ∧ (i = xs.length ∨ i = ys.length)⟩
theorem turn_z2 {P : Program} {w : World} {K : PySem.W.Frag} {elts : List Expr} {kk : Nat} {tpos : Pos} {k1 k2 : Bool} {a b n : Nat} (ha : a < n) (hb : b < n) :
    Turn P w K (.Tuple elts kk tpos) (Itz2 k1 k2 K a b) [n + 4, n + 2, n + 3, n, n + 1] (n + 4) (fun i h => IsZip h (n + 4) (n + 2) (n + 3) .none ∧ IsTupOf2 h (n + 2) (.ref n) (.ref (n + 1)) ∧ (∃ x y, IsTupOf2 h (n + 3) x y) ∧ ItK k1 h n a i ∧ ItK k2 h (n + 1) b i) := by
  have sep : ZipSep2 (n + 4) (n + 2) (n + 3) n (n + 1) [n, a] [n + 1, b] := by
    refine ⟨?_, ?_, ?_, ?_, ?_, ?_, ?_, ?_, ?_, ?_, ?_, ?_, ?_⟩ <;> first | (simp; done) | omega | (show @Ne Nat _ _; omega) | exact nin2 (by omega) (by omega)
  refine ⟨by simp, ?_, ?_, ?_, ?_, fun A i s Q E st h => wpAny_pyIter_zip st.1 h⟩
  · intro i h st c hc
    obtain ⟨hzp, hti, ⟨x, y, hto⟩, h1, h2⟩ := st
    have ee : c = n + 4 ∨ c = n + 2 ∨ c = n + 3 ∨ c = n ∨ c = n + 1 := by simpa using hc
    rcases ee with qw | qw | qw | qw | qw
    · rw [qw]; exact ⟨_, hzp, fun v qw => nomatch qw⟩
    · rw [qw]; exact ⟨_, hti, fun v qw => nomatch qw⟩
    · rw [qw]; exact ⟨_, hto, fun v qw => nomatch qw⟩
    · rw [qw]; exact h1.obj
    · rw [qw]; exact h2.obj
  · intro i h h' st k
    obtain ⟨hzp, hti, ⟨x, y, hto⟩, h1, h2⟩ := st
    exact ⟨k _ (by simp) _ hzp, k _ (by simp) _ hti, ⟨x, y, k _ (by simp) _ hto⟩, h1.keep fun o qw => k _ (by simp) o qw, h2.keep fun o qw => k _ (by simp) o qw⟩
  · intro X hP hw hK hc i pins s σ H E I hf st hg
    subst hP hw hK
    obtain ⟨hzp, hti, ⟨x0, y0, hto⟩, h1, h2⟩ := st
    obtain ⟨xs, ys, x, y, qqx, qqy, hx, hy⟩ := hg
    obtain ⟨its, rv, p, _⟩ := Inv.sqK I qqx
    obtain ⟨its2, rv2, p2, _⟩ := Inv.sqK I qqy
    obtain ⟨u, hgu, rlu⟩ := rv.get hx
    obtain ⟨u2, hgu2, rlu2⟩ := rv2.get hy
    have hzl : n + 4 < s.heap.objs.size := Heap.lt_size hzp
    have hh : X.A.in1.handled = none := I.ok.hd hc
    have il : i < its.toArray.size := by
      have := (List.getElem?_eq_some_iff.mp hgu).1
      simpa using this
    have il2 : i < its2.toArray.size := by
      have := (List.getElem?_eq_some_iff.mp hgu2).1
      simpa using this
    refine wpAny_pyNext_zipD2_item sep (drawsK hh k1 n a (by first | omega | (show @Ne Nat _ _; omega)) its.toArray) (drawsK hh k2 (n + 1) b (by first | omega | (show @Ne Nat _ _; omega)) its2.toArray) hzp hti hto ⟨h1, p⟩ ⟨h2, p2⟩ il il2 fun x1 x2 h' tk px1 px2 z' TO' s1' s2' hT hsz hk => ?_
    have e1 : x1 = u := by
      have z : its[i]? = some x1 := by simpa using px1
      rw [hgu] at z; cases z; rfl
    have e2 : x2 = u2 := by
      have z : its2[i]? = some x2 := by simpa using px2
      rw [hgu2] at z; cases z; rfl
    subst e1 e2
    refine ⟨_, rfl, wpAny_letOwnedTupleGo_zip (s := { s with heap := h', toks := tk }) z' fun h'' z'' sb => ?_⟩
    have hT2 : h''.get? s.heap.objs.size = some { cls := .type "tuple", data := .seq #[x1, x2] } := (sb.2 _ (Nat.ne_of_gt hzl)).trans hT
    have newO : ObjOk X.prog X.w (upd H s.heap.objs.size (.tup [x, y])) h'' s.heap.objs.size (.tup [x, y]) :=
      ⟨by show 2 ≤ sizeLine; decide, [x1, x2], .cons rlu (.cons rlu2 .nil), ⟨_, hT2, rfl, _, rfl⟩⟩
    have I1 : Inv X pins σ (upd H s.heap.objs.size (.tup [x, y])) { s with heap := h'', toks := tk } :=
      I.turnedNew (t' := tk) (ch := [n + 4, n + 2, n + 3, n, n + 1]) (fun c o hb qw => (sb.2 c (fun qq => hb (by simp [qq]))).trans (hk c o (fun qq => hb (by simp [qq])) (fun qq => hb (by simp [qq])) (fun qq => hb (by simp [qq])) (fun qq => hb (by simp [qq])) qw)) hf (Nat.le_refl _) newO
    refine ⟨.ref s.heap.objs.size, _, I1, rfl, ⟨_, x, y, rfl, I.hok.fresh (Nat.le_refl _), rfl, fun l hl => by rw [Inv.sqK_inj I hl qqx]; exact hx, fun l hl => by rw [Inv.sqK_inj I hl qqy]; exact hy⟩, ⟨z'', ?_, ⟨x1, x2, ?_⟩, ?_, ?_⟩, fun c hcm => ?_⟩
    · exact (sb.2 _ (by first | omega | (show @Ne Nat _ _; omega))).trans (hk _ _ (by first | omega | (show @Ne Nat _ _; omega)) (by first | omega | (show @Ne Nat _ _; omega)) (by first | omega | (show @Ne Nat _ _; omega)) (by first | omega | (show @Ne Nat _ _; omega)) hti)
    · exact (sb.2 _ (by first | omega | (show @Ne Nat _ _; omega))).trans TO'
    · exact s1'.1.keep fun o qw => (sb.2 _ (by first | omega | (show @Ne Nat _ _; omega))).trans qw
    · exact s2'.1.keep fun o qw => (sb.2 _ (by first | omega | (show @Ne Nat _ _; omega))).trans qw
    · have hltc : c < s.heap.objs.size := by
        have ee : @Eq Nat c (n + 4) ∨ @Eq Nat c (n + 2) ∨ @Eq Nat c (n + 3) ∨ @Eq Nat c n ∨ @Eq Nat c (n + 1) := by simpa using hcm
        have hzl' : @LT.lt Nat _ (n + 4) s.heap.objs.size := hzl
        show @LT.lt Nat _ c s.heap.objs.size
        omega
      rw [upd_ne (Nat.ne_of_lt hltc)]
      exact (hf c hcm).1
  · intro X hP hw hK hc i pins s σ H E I hf st hg
    subst hP hw hK
    obtain ⟨hzp, hti, ⟨x0, y0, hto⟩, h1, h2⟩ := st
    obtain ⟨xs, ys, qqx, qqy, i1, i2, hend⟩ := hg
    obtain ⟨its, rv, p, _⟩ := Inv.sqK I qqx
    obtain ⟨its2, rv2, p2, _⟩ := Inv.sqK I qqy
    have l1 := rv.length
    have l2 := rv2.length
    have hh : X.A.in1.handled = none := I.ok.hd hc
    exact wpAny_pyNext_zipD2_end sep (drawsK hh k1 n a (by first | omega | (show @Ne Nat _ _; omega)) its.toArray) (drawsK hh k2 (n + 1) b (by first | omega | (show @Ne Nat _ _; omega)) its2.toArray) hzp hti hto ⟨h1, p⟩ ⟨h2, p2⟩ (by simp; omega) (by simp; omega) (by simp; omega) fun h' tk hk => ⟨rfl, I.turnedL (t' := tk) (ch := [n + 4, n + 2, n + 3, n, n + 1]) (fun c o hb qw =>
      hk c o (fun qq => hb (by simp [qq])) (fun qq => hb (by simp [qq])) (fun qq => hb (by simp [qq])) (fun qq => hb (by simp [qq])) qw) hf⟩
def Itz3 (k1 k2 k3 : Bool) (K : PySem.W.Frag) (a b c : Addr) : It :=
  ⟨fun i H => ∃ (xs ys zs : List V) (x y z : V), SqK k1 K H a xs ∧ SqK k2 K H b ys ∧ SqK k3 K H c zs ∧ xs[i]? = some x ∧ ys[i]? = some y ∧ zs[i]? = some z,
    fun i H v H' => ∃ T x y z, v = .ref T ∧ H T = none ∧ H' = upd H T (.tup [x, y, z]) ∧ (∀ xs, SqK k1 K H a xs → xs[i]? = some x) ∧ (∀ ys, SqK k2 K H b ys → ys[i]? = some y) ∧ ∀ zs, SqK k3 K H c zs → zs[i]? = some z,
    fun i H => ∃ xs ys zs : List V, SqK k1 K H a xs ∧ SqK k2 K H b ys ∧ SqK k3 K H c zs ∧ i ≤ xs.length ∧ i ≤ ys.length ∧ i ≤ zs.length ∧ (i = xs.length ∨ i = ys.length ∨ i = zs.length)⟩
theorem turn_z3 {P : Program} {w : World} {K : PySem.W.Frag} {elts : List Expr} {kk : Nat} {tpos : Pos} {k1 k2 k3 : Bool} {a b c n : Nat} (ha : a < n) (hb : b < n) (hc : c < n) :
    Turn P w K (.Tuple elts kk tpos) (Itz3 k1 k2 k3 K a b c) [n + 5, n + 3, n + 4, n, n + 1, n + 2] (n + 5) (fun i h => IsZip h (n + 5) (n + 3) (n + 4) .none ∧ IsTupOf3 h (n + 3) (.ref n) (.ref (n + 1)) (.ref (n + 2)) ∧ (∃ x y z, IsTupOf3 h (n + 4) x y z) ∧ ItK k1 h n a i ∧ ItK k2 h (n + 1) b i ∧ ItK k3 h (n + 2) c i) := by
  have sep : ZipSep3 (n + 5) (n + 3) (n + 4) n (n + 1) (n + 2) [n, a] [n + 1, b] [n + 2, c] := by
    refine ⟨?_, ?_, ?_, ?_, ?_, ?_, ?_, ?_, ?_, ?_, ?_, ?_, ?_, ?_, ?_, ?_, ?_, ?_, ?_, ?_, ?_⟩ <;> first | (simp; done) | omega | (show @Ne Nat _ _; omega) | exact nin2 (by omega) (by omega)
  refine ⟨by simp, ?_, ?_, ?_, ?_, fun A i s Q E st h => wpAny_pyIter_zip st.1 h⟩
  · intro i h st d hd
    obtain ⟨hzp, hti, ⟨x, y, z, hto⟩, h1, h2, h3⟩ := st
    have ee : d = n + 5 ∨ d = n + 3 ∨ d = n + 4 ∨ d = n ∨ d = n + 1 ∨ d = n + 2 := by simpa using hd
    rcases ee with qw | qw | qw | qw | qw | qw
    · rw [qw]; exact ⟨_, hzp, fun v qw => nomatch qw⟩
    · rw [qw]; exact ⟨_, hti, fun v qw => nomatch qw⟩
    · rw [qw]; exact ⟨_, hto, fun v qw => nomatch qw⟩
    · rw [qw]; exact h1.obj
    · rw [qw]; exact h2.obj
    · rw [qw]; exact h3.obj
  · intro i h h' st k
    obtain ⟨hzp, hti, ⟨x, y, z, hto⟩, h1, h2, h3⟩ := st
    exact ⟨k _ (by simp) _ hzp, k _ (by simp) _ hti, ⟨x, y, z, k _ (by simp) _ hto⟩, h1.keep fun o qw => k _ (by simp) o qw, h2.keep fun o qw => k _ (by simp) o qw, h3.keep fun o qw => k _ (by simp) o qw⟩
  · intro X hP hw hK hcm i pins s σ H E I hf st hg
    subst hP hw hK
    obtain ⟨hzp, hti, ⟨x0, y0, z0, hto⟩, h1, h2, h3⟩ := st
    obtain ⟨xs, ys, zs, x, y, z, qqx, qqy, qqz, hx, hy, hzz⟩ := hg
    obtain ⟨its, rv, p, _⟩ := Inv.sqK I qqx
    obtain ⟨its2, rv2, p2, _⟩ := Inv.sqK I qqy
    obtain ⟨its3, rv3, p3, _⟩ := Inv.sqK I qqz
    obtain ⟨u, hgu, rlu⟩ := rv.get hx
    obtain ⟨u2, hgu2, rlu2⟩ := rv2.get hy
    obtain ⟨u3, hu3, ru3⟩ := rv3.get hzz
    have hzl : n + 5 < s.heap.objs.size := Heap.lt_size hzp
    have hh : X.A.in1.handled = none := I.ok.hd hcm
    have il : i < its.toArray.size := by
      have := (List.getElem?_eq_some_iff.mp hgu).1
      simpa using this
    have il2 : i < its2.toArray.size := by
      have := (List.getElem?_eq_some_iff.mp hgu2).1
      simpa using this
    have il3 : i < its3.toArray.size := by
      have := (List.getElem?_eq_some_iff.mp hu3).1
      simpa using this
    refine wpAny_pyNext_zipD3_item sep (drawsK hh k1 n a (by first | omega | (show @Ne Nat _ _; omega)) its.toArray) (drawsK hh k2 (n + 1) b (by first | omega | (show @Ne Nat _ _; omega)) its2.toArray) (drawsK hh k3 (n + 2) c (by first | omega | (show @Ne Nat _ _; omega)) its3.toArray) hzp hti hto ⟨h1, p⟩ ⟨h2, p2⟩ ⟨h3, p3⟩ il il2 il3 fun x1 x2 x3 h' tk px1 px2 px3 z' TO' s1' s2' s3' hT hsz hk => ?_
    have e1 : x1 = u := by
      have z : its[i]? = some x1 := by simpa using px1
      rw [hgu] at z; cases z; rfl
    have e2 : x2 = u2 := by
      have z : its2[i]? = some x2 := by simpa using px2
      rw [hgu2] at z; cases z; rfl
    have e3 : x3 = u3 := by
      have z : its3[i]? = some x3 := by simpa using px3
      rw [hu3] at z; cases z; rfl
    subst e1 e2 e3
    refine ⟨_, rfl, wpAny_letOwnedTupleGo_zip (s := { s with heap := h', toks := tk }) z' fun h'' z'' sb => ?_⟩
    have hT2 : h''.get? s.heap.objs.size = some { cls := .type "tuple", data := .seq #[x1, x2, x3] } := (sb.2 _ (Nat.ne_of_gt hzl)).trans hT
    have newO : ObjOk X.prog X.w (upd H s.heap.objs.size (.tup [x, y, z])) h'' s.heap.objs.size (.tup [x, y, z]) :=
      ⟨by show 3 ≤ sizeLine; decide, [x1, x2, x3], .cons rlu (.cons rlu2 (.cons ru3 .nil)), ⟨_, hT2, rfl, _, rfl⟩⟩
    have I1 : Inv X pins σ (upd H s.heap.objs.size (.tup [x, y, z])) { s with heap := h'', toks := tk } :=
      I.turnedNew (t' := tk) (ch := [n + 5, n + 3, n + 4, n, n + 1, n + 2]) (fun c o hb qw => (sb.2 c (fun qq => hb (by simp [qq]))).trans (hk c o (fun qq => hb (by simp [qq])) (fun qq => hb (by simp [qq])) (fun qq => hb (by simp [qq])) (fun qq => hb (by simp [qq])) (fun qq => hb (by simp [qq])) qw)) hf (Nat.le_refl _) newO
    refine ⟨.ref s.heap.objs.size, _, I1, rfl, ⟨_, x, y, z, rfl, I.hok.fresh (Nat.le_refl _), rfl, fun l hl => by rw [Inv.sqK_inj I hl qqx]; exact hx, fun l hl => by rw [Inv.sqK_inj I hl qqy]; exact hy, fun l hl => by rw [Inv.sqK_inj I hl qqz]; exact hzz⟩, ⟨z'', ?_, ⟨x1, x2, x3, ?_⟩, ?_, ?_, ?_⟩, fun d hdm => ?_⟩
    · exact (sb.2 _ (by first | omega | (show @Ne Nat _ _; omega))).trans (hk _ _ (by first | omega | (show @Ne Nat _ _; omega)) (by first | omega | (show @Ne Nat _ _; omega)) (by first | omega | (show @Ne Nat _ _; omega)) (by first | omega | (show @Ne Nat _ _; omega)) (by first | omega | (show @Ne Nat _ _; omega)) hti)
    · exact (sb.2 _ (by first | omega | (show @Ne Nat _ _; omega))).trans TO'
    · exact s1'.1.keep fun o qw => (sb.2 _ (by first | omega | (show @Ne Nat _ _; omega))).trans qw
    · exact s2'.1.keep fun o qw => (sb.2 _ (by first | omega | (show @Ne Nat _ _; omega))).trans qw
    · exact s3'.1.keep fun o qw => (sb.2 _ (by first | omega | (show @Ne Nat _ _; omega))).trans qw
    · have hltc : d < s.heap.objs.size := by
        have ee : @Eq Nat d (n + 5) ∨ @Eq Nat d (n + 3) ∨ @Eq Nat d (n + 4) ∨ @Eq Nat d n ∨ @Eq Nat d (n + 1) ∨ @Eq Nat d (n + 2) := by simpa using hdm
        have hzl' : @LT.lt Nat _ (n + 5) s.heap.objs.size := hzl
        show @LT.lt Nat _ d s.heap.objs.size
        omega
      rw [upd_ne (Nat.ne_of_lt hltc)]
      exact (hf d hdm).1
  · intro X hP hw hK hcm i pins s σ H E I hf st hg
    subst hP hw hK
    obtain ⟨hzp, hti, ⟨x0, y0, z0, hto⟩, h1, h2, h3⟩ := st
    obtain ⟨xs, ys, zs, qqx, qqy, qqz, i1, i2, i3, hend⟩ := hg
    obtain ⟨its, rv, p, _⟩ := Inv.sqK I qqx
    obtain ⟨its2, rv2, p2, _⟩ := Inv.sqK I qqy
    obtain ⟨its3, rv3, p3, _⟩ := Inv.sqK I qqz
    have l1 := rv.length
    have l2 := rv2.length
    have l3 := rv3.length
    have hh : X.A.in1.handled = none := I.ok.hd hcm
    exact wpAny_pyNext_zipD3_end sep (drawsK hh k1 n a (by first | omega | (show @Ne Nat _ _; omega)) its.toArray) (drawsK hh k2 (n + 1) b (by first | omega | (show @Ne Nat _ _; omega)) its2.toArray) (drawsK hh k3 (n + 2) c (by first | omega | (show @Ne Nat _ _; omega)) its3.toArray) hzp hti hto ⟨h1, p⟩ ⟨h2, p2⟩ ⟨h3, p3⟩ (by simp; omega) (by simp; omega) (by simp; omega) (by simp; omega) fun h' tk hk => ⟨rfl, I.turnedL (t' := tk) (ch := [n + 5, n + 3, n + 4, n, n + 1, n + 2]) (fun c o hb qw =>
      hk c o (fun qq => hb (by simp [qq])) (fun qq => hb (by simp [qq])) (fun qq => hb (by simp [qq])) (fun qq => hb (by simp [qq])) (fun qq => hb (by simp [qq])) qw) hf⟩
end AH
namespace AH
open PySem PySem.Spec PyProof.Rows L2
variable [TheK]
/-! ### zip in a for or a comprehension -/
def seqD : D → Option (List D)
  | .lst xs => some xs
  | .tup xs => some xs
  | _ => none
def trips (xs ys zs : List D) : List D := (xs.zip (ys.zip zs)).map fun p => .tup [p.1, p.2.1, p.2.2]
def iZip2 (a b : DE) : DI := a.bind fun x => b.bind fun y => match seqD x, seqD y with
  | some xs, some ys => M.pure (pairs xs ys)
  | _, _ => fun _ => .bad
def iZip3 (a b c : DE) : DI := a.bind fun x => b.bind fun y => c.bind fun z => match seqD x, seqD y, seqD z with
  | some xs, some ys, some zs => M.pure (trips xs ys zs)
  | _, _, _ => fun _ => .bad
section
variable {X : Cx} {Wx : WX} {a b c : Expr} {ma mb mc : DE} {p pos : Pos}
theorem fresh_of {pins : List (Addr × Obj)} {σ : L2.St} {H : Hp} {s : Shared} (I : Inv X pins σ H s) {n : Nat} (hn : n = s.heap.objs.size) (k : Nat) : FpOk X pins H (n + k) := by
  subst hn
  exact I.fpOk (Nat.le_add_right _ _) (I.hok.fresh (Nat.le_add_right _ _))
def tiZ2 (K : PySem.W.Frag) (ta : TA) : TI := fun σ H R => ta σ H fun vs H1 => ∃ (k1 k2 : Bool) (a b : Addr) (xs ys : List V), vs = [.ref a, .ref b] ∧ SqK k1 K H1 a xs ∧ SqK k2 K H1 b ys ∧ R (Itz2 k1 k2 K a b) H1
theorem pi_z2 {e ex2 : Expr} {ta : TA} {tpos : Pos} {elts : List Expr} {kk : Nat} (hg : Gl X "zip") (hm : X.mg "zip" = none) (ha : PA X [e, ex2] ta)
    (hs : starEach [e, ex2] X.env = (false, eval e X.env) :: starEach [ex2] X.env := by rfl) (hpl : (backTo pos (starEach [ex2] X.env)).any (·.1) = false := by rfl) :
    PI X (.Tuple elts kk tpos) (.Call (.Name "zip" p) [e, ex2] [] pos) (tiZ2 X.K ta) := by
  refine ⟨fun pins s σ H R I h => Call_ (ld_blt I hg hm PyProof.Rows.boot_zip (PyProof.Rows.callWith_type1 (thn (ha.run pos pins s σ H _ I h) fun us s1 ⟨vs, H1, I1, r1, q1⟩ => ?_) hs hpl))⟩
  obtain ⟨k1, k2, a, b, xs, ys, ex, hqx, hqy, q⟩ := q1
  subst ex
  cases r1 with
  | cons r rr =>
    cases rr with
    | cons r' rr =>
      cases rr
      cases r
      cases r'
      obtain ⟨its, rv, p1, l1⟩ := Inv.sqK I1 hqx
      obtain ⟨its2, rv2, p2, l2⟩ := Inv.sqK I1 hqy
      refine zip_begins2 (beginsK k1 a its.toArray) (beginsK k2 b its2.toArray) p1 p2 fun h' hz hti hto h1 h2 hsz hk => wpAny_pyIter_zip hz ?_
      have I9 : Inv X pins σ H1 { s1 with heap := h' } := I1.kept (t' := s1.toks) hk
      refine ⟨s1.heap.objs.size + 4, [s1.heap.objs.size + 4, s1.heap.objs.size + 2, s1.heap.objs.size + 3, s1.heap.objs.size, s1.heap.objs.size + 1], _, _, H1, rfl, I9, turn_z2 l1 l2, ⟨hz, hti, ⟨_, _, hto⟩, itK0 h1, itK0 h2⟩, fun c hcm => ?_, q⟩
      have e' : c = s1.heap.objs.size + 4 ∨ c = s1.heap.objs.size + 2 ∨ c = s1.heap.objs.size + 3 ∨ c = s1.heap.objs.size + 0 ∨ c = s1.heap.objs.size + 1 := by simpa using hcm
      rcases e' with z | z | z | z | z <;> (rw [z]; exact fresh_of I1 rfl _)
def tiZ3 (K : PySem.W.Frag) (ta : TA) : TI := fun σ H R => ta σ H fun vs H1 => ∃ (k1 k2 k3 : Bool) (a b c : Addr) (xs ys zs : List V), vs = [.ref a, .ref b, .ref c] ∧ SqK k1 K H1 a xs ∧ SqK k2 K H1 b ys ∧ SqK k3 K H1 c zs ∧ R (Itz3 k1 k2 k3 K a b c) H1
theorem pi_z3 {e ex2 e3 : Expr} {ta : TA} {tpos : Pos} {elts : List Expr} {kk : Nat} (hg : Gl X "zip") (hm : X.mg "zip" = none) (ha : PA X [e, ex2, e3] ta)
    (hs : starEach [e, ex2, e3] X.env = (false, eval e X.env) :: starEach [ex2, e3] X.env := by rfl) (hpl : (backTo pos (starEach [ex2, e3] X.env)).any (·.1) = false := by rfl) :
    PI X (.Tuple elts kk tpos) (.Call (.Name "zip" p) [e, ex2, e3] [] pos) (tiZ3 X.K ta) := by
  refine ⟨fun pins s σ H R I h => Call_ (ld_blt I hg hm PyProof.Rows.boot_zip (PyProof.Rows.callWith_type1 (thn (ha.run pos pins s σ H _ I h) fun us s1 ⟨vs, H1, I1, r1, q1⟩ => ?_) hs hpl))⟩
  obtain ⟨k1, k2, k3, a, b, c, xs, ys, zs, ex, hqx, hqy, hqz, q⟩ := q1
  subst ex
  cases r1 with
  | cons r rr =>
    cases rr with
    | cons r' rr =>
      cases rr with
      | cons r2 rr =>
        cases rr
        cases r
        cases r'
        cases r2
        obtain ⟨its, rv, p1, l1⟩ := Inv.sqK I1 hqx
        obtain ⟨its2, rv2, p2, l2⟩ := Inv.sqK I1 hqy
        obtain ⟨its3, rv3, p3, l3⟩ := Inv.sqK I1 hqz
        refine zip_begins3 (beginsK k1 a its.toArray) (beginsK k2 b its2.toArray) (beginsK k3 c its3.toArray) p1 p2 p3 fun h' hz hti hto h1 h2 hh3 hsz hk => wpAny_pyIter_zip hz ?_
        have I9 : Inv X pins σ H1 { s1 with heap := h' } := I1.kept (t' := s1.toks) hk
        refine ⟨s1.heap.objs.size + 5, [s1.heap.objs.size + 5, s1.heap.objs.size + 3, s1.heap.objs.size + 4, s1.heap.objs.size, s1.heap.objs.size + 1, s1.heap.objs.size + 2], _, _, H1, rfl, I9, turn_z3 l1 l2 l3, ⟨hz, hti, ⟨_, _, _, hto⟩, itK0 h1, itK0 h2, itK0 hh3⟩, fun c hcm => ?_, q⟩
        have e' : c = s1.heap.objs.size + 5 ∨ c = s1.heap.objs.size + 3 ∨ c = s1.heap.objs.size + 4 ∨ c = s1.heap.objs.size + 0 ∨ c = s1.heap.objs.size + 1 ∨ c = s1.heap.objs.size + 2 := by simpa using hcm
        rcases e' with z | z | z | z | z | z <;> (rw [z]; exact fresh_of I1 rfl _)
theorem Rep.sqK {F : Fm} {O : Nat → Option Addr} {H : Hp} {v : V} {d : D} {xs : List D} {K : PySem.W.Frag} (r : Rep (Ow F O) H v d) (h : seqD d = some xs) : ∃ (k : Bool) (a : Addr) (vs : List V), v = .ref a ∧ RepL (Ow F O) H vs xs ∧ ∀ H', Ke (Ow F O) H H' → SqK k K H' a vs := by
  cases r with
  | lst n hh l => cases h; exact ⟨false, _, _, rfl, l, fun H' k => .inl (.inl (k.stay _ _ n hh))⟩
  | tup n hh l => cases h; exact ⟨true, _, _, rfl, l, fun H' k => .inl (.inl (k.stay _ _ n hh))⟩
  | _ => cases h
theorem id_zip2 {elts : List Expr} {kk : Nat} {tpos : Pos} (hb : Bn X "zip" (.type "zip")) (ha : PD .s X Wx a ma) (hb' : PD .s X Wx b mb)
    (hs : starEach [a, b] X.env = (false, eval a X.env) :: starEach [b] X.env := by rfl) (hs2 : starEach [b] X.env = (false, eval b X.env) :: starEach [] X.env := by rfl) (hpl : (backTo pos (starEach [b] X.env)).any (·.1) = false := by rfl) :
    ID X Wx (.Tuple elts kk tpos) (.Call (.Name "zip" p) [a, b] [] pos) (iZip2 ma mb) := by
  obtain ⟨ta, pa, qa⟩ := ha
  obtain ⟨tb, pb, qb⟩ := hb'
  refine ⟨_, pi_z2 hb.gl hb.mg (pa_cons pa (pa_cons pb pa_nil hs2) hs) hs hpl, fun F O env σ H R S w => ?_⟩
  refine qa F O env σ H _ S (w.bind.imp (fun dx e1 w1 x H1 S1 k1 p1 => ?_) fun _ _ _ z => z)
  refine qb F O e1 σ H1 _ S1 (w1.bind.imp (fun dy ex2 w2 y H2 S2 k2 p2 => ?_) (XW.later k1))
  have p1' := Rep.mj k2 p1
  cases q1 : seqD dx with
  | none => rw [q1] at w2; exact w2.elim
  | some xs =>
    cases q2 : seqD dy with
    | none => rw [q1, q2] at w2; exact w2.elim
    | some ys =>
      rw [q1, q2] at w2
      obtain ⟨ka, aa, va, rfl, la, sa⟩ := p1'.sqK (K := X.K) q1
      obtain ⟨kb, ab, vb, rfl, lb, sb⟩ := Rep.sqK (K := X.K) p2 q2
      have zn : (pairs xs ys).length = min va.length vb.length := by unfold pairs; rw [List.length_map, List.length_zip, la.len, lb.len]
      refine ⟨ka, kb, aa, ab, va, vb, rfl, sa H2 .refl, sb H2 .refl, w2 _ H2 S2 (k1.trans k2) ⟨fun i H3 k3 hi => ?_, fun H3 k3 => ?_, fun i H3 v H' d W' k3 g al hd yy => ?_⟩⟩
      · rw [zn] at hi
        have h1 : i < va.length := by omega
        have h2 : i < vb.length := by omega
        exact ⟨va, vb, va[i], vb[i], sa H3 k3.wo, sb H3 k3.wo, by simp [h1], by simp [h2]⟩
      · rw [zn]
        exact ⟨va, vb, sa H3 k3.wo, sb H3 k3.wo, by omega, by omega, by omega⟩
      · obtain ⟨T, x, y, rfl, hT, rfl, hx, hy⟩ := yy
        obtain ⟨ex, ey, g1, g2, rfl⟩ := pairs_get hd
        have hx := hx va (sa H3 k3.wo)
        have hy := hy vb (sb H3 k3.wo)
        obtain ⟨v1, e1, r1⟩ := la.get g1
        obtain ⟨v2, ex2, r2⟩ := lb.get g2
        rw [hx] at e1; cases e1
        rw [hy] at ex2; cases ex2
        have st : ∀ a o, H3 a = some o → upd H3 T (.tup [x, y]) a = some o := new_ext hT
        refine ⟨st, .tup (fun z => (al T z).1 hT) upd_same (.cons ?_ (.cons ?_ .nil))⟩
        · exact (r1.ke k3.wo g).ke (ke_ext st) fun a z => .inl z
        · exact (r2.ke k3.wo g).ke (ke_ext st) fun a z => .inl z
theorem trips_get {xs ys zs : List D} {i : Nat} {d : D} (h : (trips xs ys zs)[i]? = some d) : ∃ x y z, xs[i]? = some x ∧ ys[i]? = some y ∧ zs[i]? = some z ∧ d = .tup [x, y, z] := by
  unfold trips at h
  rw [List.getElem?_map] at h
  cases hz : (xs.zip (ys.zip zs))[i]? with
  | none => rw [hz] at h; cases h
  | some q =>
    rw [hz] at h
    cases h
    obtain ⟨h1, h2⟩ := List.getElem?_zip_eq_some.mp hz
    obtain ⟨hh3, h4⟩ := List.getElem?_zip_eq_some.mp h2
    exact ⟨_, _, _, h1, hh3, h4, rfl⟩
theorem id_zip3 {elts : List Expr} {kk : Nat} {tpos : Pos} (hb : Bn X "zip" (.type "zip")) (ha : PD .s X Wx a ma) (hb' : PD .s X Wx b mb) (hc' : PD .s X Wx c mc)
    (hs : starEach [a, b, c] X.env = (false, eval a X.env) :: starEach [b, c] X.env := by rfl) (hs2 : starEach [b, c] X.env = (false, eval b X.env) :: starEach [c] X.env := by rfl) (hs3 : starEach [c] X.env = (false, eval c X.env) :: starEach [] X.env := by rfl) (hpl : (backTo pos (starEach [b, c] X.env)).any (·.1) = false := by rfl) :
    ID X Wx (.Tuple elts kk tpos) (.Call (.Name "zip" p) [a, b, c] [] pos) (iZip3 ma mb mc) := by
  obtain ⟨ta, pa, qa⟩ := ha
  obtain ⟨tb, pb, qb⟩ := hb'
  obtain ⟨tc, pc, qc⟩ := hc'
  refine ⟨_, pi_z3 hb.gl hb.mg (pa_cons pa (pa_cons pb (pa_cons pc pa_nil hs3) hs2) hs) hs hpl, fun F O env σ H R S w => ?_⟩
  refine qa F O env σ H _ S (w.bind.imp (fun dx e1 w1 x H1 S1 k1 p1 => ?_) fun _ _ _ z => z)
  refine qb F O e1 σ H1 _ S1 (w1.bind.imp (fun dy ex2 w2 y H2 S2 k2 p2 => ?_) (XW.later k1))
  refine qc F O ex2 σ H2 _ S2 (w2.bind.imp (fun dz e3 w3 z H3 S3 k3 p3 => ?_) fun c fs e z => XW.later k2 _ _ _ (XW.later k1 _ _ _ z))
  have p1' := Rep.mj k3 (Rep.mj k2 p1)
  have p2' := Rep.mj k3 p2
  cases q1 : seqD dx with
  | none => rw [q1] at w3; exact w3.elim
  | some xs =>
    cases q2 : seqD dy with
    | none => rw [q1, q2] at w3; exact w3.elim
    | some ys =>
      cases q3 : seqD dz with
      | none => rw [q1, q2, q3] at w3; exact w3.elim
      | some zs =>
        rw [q1, q2, q3] at w3
        obtain ⟨ka, aa, va, rfl, la, sa⟩ := p1'.sqK (K := X.K) q1
        obtain ⟨kb, ab, vb, rfl, lb, sb⟩ := p2'.sqK (K := X.K) q2
        obtain ⟨kc, ac, vc, rfl, lc, sc⟩ := Rep.sqK (K := X.K) p3 q3
        have zn : (trips xs ys zs).length = min va.length (min vb.length vc.length) := by unfold trips; rw [List.length_map, List.length_zip, List.length_zip, la.len, lb.len, lc.len]
        refine ⟨ka, kb, kc, aa, ab, ac, va, vb, vc, rfl, sa H3 .refl, sb H3 .refl, sc H3 .refl, w3 _ H3 S3 ((k1.trans k2).trans k3) ⟨fun i H4 k4 hi => ?_, fun H4 k4 => ?_, fun i H4 v H' d W' k4 g al hd yy => ?_⟩⟩
        · rw [zn] at hi
          have h1 : i < va.length := by omega
          have h2 : i < vb.length := by omega
          have hh3 : i < vc.length := by omega
          exact ⟨va, vb, vc, va[i], vb[i], vc[i], sa H4 k4.wo, sb H4 k4.wo, sc H4 k4.wo, by simp [h1], by simp [h2], by simp [hh3]⟩
        · rw [zn]
          exact ⟨va, vb, vc, sa H4 k4.wo, sb H4 k4.wo, sc H4 k4.wo, by omega, by omega, by omega, by omega⟩
        · obtain ⟨T, x, y, u, rfl, hT, rfl, hx, hy, hu⟩ := yy
          obtain ⟨ex, ey, eu, g1, g2, g3, rfl⟩ := trips_get hd
          have hx := hx va (sa H4 k4.wo)
          have hy := hy vb (sb H4 k4.wo)
          have hu := hu vc (sc H4 k4.wo)
          obtain ⟨v1, e1, r1⟩ := la.get g1
          obtain ⟨v2, ex2, r2⟩ := lb.get g2
          obtain ⟨v3, e3, r3⟩ := lc.get g3
          rw [hx] at e1; cases e1
          rw [hy] at ex2; cases ex2
          rw [hu] at e3; cases e3
          have st : ∀ a o, H4 a = some o → upd H4 T (.tup [x, y, u]) a = some o := new_ext hT
          refine ⟨st, .tup (fun z => (al T z).1 hT) upd_same (.cons ?_ (.cons ?_ (.cons ?_ .nil)))⟩
          · exact (r1.ke k4.wo g).ke (ke_ext st) fun a z => .inl z
          · exact (r2.ke k4.wo g).ke (ke_ext st) fun a z => .inl z
          · exact (r3.ke k4.wo g).ke (ke_ext st) fun a z => .inl z
end
end AH
namespace AH
open PySem PySem.Spec PyProof.Rows L2
/-! ### what is looked at of exception classes -/
def xvB (K : PySem.W.Frag) (c : Str) : Bool :=
  He.eqO (PySem.W.findIn K (.ref (He.ga K c)) "__getattribute__") (some (some (.builtin "BaseException.__getattribute__"))) && (He.eqO (PySem.W.findIn K (.ref (He.ga K c)) "__getattr__") (some none) &&
  (decide (PySem.W.subIn K (.ref (He.ga K c)) (.type "BaseException") = some true) && (PySem.W.hasDictIn K (He.ga K c) && (He.eqO (PySem.W.findIn K (.ref (He.ga K c)) "__class__") (some (some (.builtin "object.__class__"))) &&
  (He.eqO (PySem.W.specialIn K (.builtin "object.__class__") "__get__") (some (some (.builtin "getset_descriptor.__get__"))) && (decide (PySem.W.takesIn K (.builtin "object.__class__") = some true) && (decide (PySem.W.mroIn K (He.ga K c) (.type "object") = some true) &&
  (decide (PySem.W.kitOne K (.ref (He.ga K c)) (.type "ValueError") = some (isVE c)) && decide (PySem.W.kitOne K (.ref (He.ga K c)) (.type "LookupError") = some (!isVE c))))))))))
theorem xvB_ok {K : PySem.W.Frag} {c : Str} (h : xvB K c = true) : XvF K c := by
  unfold xvB at h
  obtain ⟨h1, h⟩ := He.ba h
  obtain ⟨h2, h⟩ := He.ba h
  obtain ⟨h3, h⟩ := He.ba h
  obtain ⟨h4, h⟩ := He.ba h
  obtain ⟨h5, h⟩ := He.ba h
  obtain ⟨h6, h⟩ := He.ba h
  obtain ⟨h7, h⟩ := He.ba h
  obtain ⟨h8, h⟩ := He.ba h
  obtain ⟨h9, h10⟩ := He.ba h
  exact ⟨⟨He.eqO_ok h1, He.eqO_ok h2, of_decide_eq_true h3, h4, He.eqO_ok h5, He.eqO_ok h6, of_decide_eq_true h7, of_decide_eq_true h8⟩, of_decide_eq_true h9, of_decide_eq_true h10⟩
def xaB (K : PySem.W.Frag) (c : Str) : Bool := xfB K (He.ga K c) && (fieldsOf c).all fun f => He.eqO (PySem.W.findIn K (.ref (He.ga K c)) f) (some none)
theorem xaB_ok {K : PySem.W.Frag} {c : Str} (h : xaB K c = true) : XaF K c := by
  obtain ⟨h1, h2⟩ := He.ba h
  exact ⟨xfB_ok h1, fun f hf => He.eqO_ok (List.all_eq_true.mp h2 f hf)⟩
def xmB (K : PySem.W.Frag) (xs : List Str) (c : Str) : Bool := xs.all fun c' => decide (PySem.W.exmOne K (.ref (He.ga K c')) (.ref (He.ga K c)) = some (decide (c' = c)))
theorem xmB_ok {K : PySem.W.Frag} {xs : List Str} {c : Str} (h : xmB K xs c = true) : ∀ c' ∈ xs, PySem.W.exmOne K (.ref (He.ga K c')) (.ref (He.ga K c)) = some (decide (c' = c)) := fun c' hc => of_decide_eq_true (List.all_eq_true.mp h c' hc)
def xcB (K : PySem.W.Frag) (c : Str) : Bool := PySem.W.excIn K (He.ga K c) PySem.HandSPX.veTail "ValueError.__new__" && (PySem.W.keepIn K (.ref (He.ga K c)) && (decide (PySem.W.subIn K (.ref (He.ga K c)) (.type "BaseException") = some true) && decide (PySem.W.typeIn K (.ref (He.ga K c)) = some (.type "type"))))
theorem xcB_ok {K : PySem.W.Frag} {mg : Str → Option Value} {c : Str} (g : mg c = some (.ref (He.ga K c))) (h : xcB K c = true) : XcF K mg c := by
  obtain ⟨h1, h⟩ := He.ba h
  obtain ⟨h2, h⟩ := He.ba h
  obtain ⟨h3, h4⟩ := He.ba h
  exact ⟨h1, g, h2, of_decide_eq_true h3, of_decide_eq_true h4⟩
def clsAt : Stmt → Nat → Stmt
  | .ClassDef (body := b) .., i => b.getD i (.Pass ⟨0, 0, 0, 0⟩)
  | s, _ => s
end AH
namespace AH
open PySem PySem.Spec PyProof.Rows L2
/-! ### own exceptions with fields: the class over a built-in base -/
structure XB (B newId initId : String) (bmB : List Value) : Prop where
  eb : ExcBaseFacts B newId initId bmB
  sf : StoreFacts B bmB "object.__setattr__" "object"
  kx : PySem.W.KxsFacts B initId
  al : ∀ K : PySem.W.Frag, PySem.W.alongIn K "__init__" bmB = some (some (.builtin initId))
abbrev vT : List Value := [.type "ValueError", .type "Exception", .type "BaseException", .type "object"]
abbrev lT : List Value := [.type "LookupError", .type "Exception", .type "BaseException", .type "object"]
theorem xb_V : XB "ValueError" "ValueError.__new__" "ValueError.__init__" vT := ⟨F.excBase_ValueError, F.store_ValueError, PySem.W.kxs_ValueError, fun K => by kernel_rfl⟩
theorem xb_L : XB "LookupError" "LookupError.__new__" "LookupError.__init__" lT := ⟨F.excBase_LookupError, F.store_LookupError, PySem.W.kxs_LookupError, fun K => by kernel_rfl⟩
/-- what the text's heap says of such a class; fI its __init__ -/
structure XK1 (K : PySem.W.Frag) (C : Addr) (bmB : List Value) (newId : String) : Prop where
  q : PySem.W.excInitIn K C bmB newId = true
  ov : PySem.W.excOver K C bmB = true
  hd : PySem.W.hasDictIn K C = true
  sa : PySem.W.findIn K (.ref C) "__setattr__" = some (some (.builtin "object.__setattr__"))
  exC : PySem.W.subIn K (.ref C) (.type "BaseException") = some true
  tyC : PySem.W.typeIn K (.ref C) = some (.type "type")
  kC : PySem.W.keepIn K (.ref C) = true
section
variable {prog : Program} {w : World} {A : Around} {E : Value → Shared → Prop} {R : Result → Shared → Prop} {hp : Heap} {g : Array GenState} {d : Drawn} {t : Nat} {os : OsState}
variable {B newId initId : String} {bmB : List Value} {K : PySem.W.Frag} {C x t1 : Addr} {name : Str} {tk : Tok} {v : Value}
/-- the first field -/
theorem xsa_new (XF : XB B newId initId bmB) (T : XK1 K C bmB newId) (X : K.In hp) (hx : hp.get? x = some (PySem.W.excObj C t1 none .none)) (ht : PySem.W.takerIn K C name = some none)
    (hq : ∀ h' tk' dx, (∀ b o, b ≠ x → hp.get? b = some o → h'.get? b = some o) → hp.objs.size ≤ dx → dx ≠ x → h'.get? x = some (PySem.W.excObj C t1 (some dx) .none) →
      h'.Ns1 dx (fun y => if y = name then some v else none) → R (.ok (.ret .none)) ⟨h', g, d, tk', os⟩) :
    codeAny (model prog w) A (.call (.builtin "object.__setattr__") ⟨[.ref x, .str name tk, v], []⟩) R ⟨hp, g, d, t, os⟩ := by
  have lx : x < hp.objs.size := Heap.lt_size hx
  obtain ⟨cd, hc, hd'⟩ := PySem.W.any_some T.hd
  refine PySem.W.osa_openX (od := none) XF.sf X ⟨hx, rfl, rfl, trivial⟩ T.ov ht fun b => ?_
  refine wpAny_bind (wpAny_pure (wpAny_bind (PySem.W.instanceDict_exc hx (PySem.W.looks_clsIn X hc) hd' ?_)))
  show wpAny _ _ (Builtin.ObjectAttr.storeInDict hp.objs.size (.str name tk) name v) _ _ _
  have hx1 : (hp.push (PySem.W.dictOf [] 0)).get? x = some (PySem.W.excObj C t1 none .none) := Heap.get?_push_of_some _ hx
  refine PySem.HandSPX.store_in_new ⟨_, #[], _, (Heap.get?_update_ne _ _ _ _ (Nat.ne_of_gt lx)).trans (Heap.get?_push_at rfl rfl), rfl, fun e he => absurd he (by simp), fun _ => rfl⟩ fun h' tk' hn' hs => ?_
  refine hq h' tk' hp.objs.size (fun b o hb ho => ?_) (Nat.le_refl _) (Nat.ne_of_gt lx) ?_ hn'
  · exact (hs.2 b (Nat.ne_of_lt (Heap.lt_size ho))).trans ((Heap.get?_update_ne _ _ _ _ hb).trans (Heap.get?_push_of_some _ ho))
  · exact (hs.2 x (Nat.ne_of_lt lx)).trans (Heap.get?_update_self _ hx1 rfl)
/-- a further field -/
theorem xsa_old {dx : Addr} {m0 : Str → Option Value} {nl : List Str} (XF : XB B newId initId bmB) (T : XK1 K C bmB newId) (X : K.In hp) (hx : hp.get? x = some (PySem.W.excObj C t1 (some dx) .none)) (hns : hp.Ns1 dx m0) (hw : Within m0 nl) (hz : nl.length ≤ 1000) (ht : PySem.W.takerIn K C name = some none)
    (hq : ∀ h' tk', (∀ b o, b ≠ dx → hp.get? b = some o → h'.get? b = some o) → h'.Ns1 dx (fun y => if y = name then some v else m0 y) → R (.ok (.ret .none)) ⟨h', g, d, tk', os⟩) :
    codeAny (model prog w) A (.call (.builtin "object.__setattr__") ⟨[.ref x, .str name tk, v], []⟩) R ⟨hp, g, d, t, os⟩ := by
  obtain ⟨oD, _, _, hoD, _, _⟩ := hns.count hw
  obtain ⟨cd, hc, hd'⟩ := PySem.W.any_some T.hd
  refine PySem.W.osa_openX (od := some oD) XF.sf X ⟨hx, rfl, rfl, hoD⟩ T.ov ht fun b => ?_
  refine wpAny_bind (wpAny_pure (wpAny_bind (wpAny_bind (wpAny_loadPart hx (wpAny_bind ((PySem.W.looks_clsIn X hc).here ?_))))))
  rw [hd']
  refine wpAny_pure (a := some dx) ?_
  exact PySem.OEX.store_in_old hns hw hz fun h' tk' hn' hs => hq h' tk' (fun b o hb ho => (hs.2 b hb).trans ho) hn'
end
section
variable {X : Cx} {pins : List (Addr × Obj)} {σ : L2.St} {H : Hp} {s : Shared} {a C dx : Addr} {f : Str} {y : V} {u : Value} {fs : List (Str × V)} {Q : Unit → Shared → Prop} {E : Value → Shared → Prop} {A : Around}
variable {B newId initId : String} {bmB : List Value}
theorem xst_new (XF : XB B newId initId bmB) (T : XK1 X.K C bmB newId) (I : Inv X pins σ H s) (e : H a = some (exo a C none)) (hno : PySem.W.takerIn X.K C f = some none) (ry : RelV y u)
    (h : ∀ dx s', H dx = none → dx ≠ a → Inv X pins σ (upd (upd H dx (exd dx [(f, y)])) a (exo a C (some dx))) s' → Q () s') : wpAny (model X.prog X.w) A (setAttr (.ref a) f u) Q E s := by
  obtain ⟨t1, ho⟩ := exo_at I.hok e
  obtain ⟨hp, g, d, t, os⟩ := s
  refine PySem.W.set_plain I.kIn (od := none) ⟨ho, rfl, rfl, trivial⟩ T.sa (xsa_new XF T I.kIn ho hno fun h' tk' dx k dn dne hx hn => ?_)
  have hnd : H dx = none := I.hok.fresh dn
  have nd : ∀ {b : Addr} {o : Obj}, hp.get? b = some o → b ≠ dx := fun {b o} q => Nat.ne_of_lt (Nat.lt_of_lt_of_le (Heap.lt_size q) dn)
  have na : ∀ {b : Addr}, H b = none → b ≠ a := fun {b} n z => by
    rw [z, e] at n
    cases n
  have Un1 : Un X.fs [] H (upd (upd H dx (exd dx [(f, y)])) a (exo a C (some dx))) hp h' := {
    keep := fun b o q n _ _ => k b o (na n) q
    slot := fun b o q n _ _ => ⟨o.slots, k b o (na n) q⟩
    free := fun b o q n _ => by rw [upd_ne (na n), upd_ne (nd q)]; exact n
    there := fun b o q _ => by
      by_cases hb : b = a
      · exact ⟨_, by rw [hb]; exact hx⟩
      · exact ⟨o, k b o hb q⟩
    tups := fun b xs q => by rw [upd_ne (at_ne e q exo_tup), upd_ne (ne_of_none q hnd)]; exact q
    frzs := fun b o v q => by rw [upd_ne (at_ne e q exo_frz), upd_ne (ne_of_none q hnd)]; exact q
    tbls := fun b ps q => ⟨#[], by rw [upd_ne (at_ne e q exo_tbl), upd_ne (ne_of_none q hnd), q]; simp⟩ }
  refine h dx _ hnd dne (I.un (t' := tk') Un1 fun b o q => ?_)
  by_cases hb : b = a
  · subst hb
    rw [upd_same] at q
    cases q
    exact exo_ok hx
  · rw [upd_ne hb] at q
    by_cases hd : b = dx
    · subst hd
      rw [upd_same] at q
      cases q
      exact exd_ok hn (relO_put (fs := []) ry fun g => True.intro)
    · rw [upd_ne hd] at q
      exact (I.hok b o q).stay (fun c v hc z => k c v (by
          rcases hc with hc | hc
          · rw [hc]
            exact hb
          · exact at_ne e hc exo_own) z)
        (fun c hc => by rw [upd_ne (at_ne e hc exo_own), upd_ne (ne_of_none hc hnd)]; exact hc) (fun c xs hc => by rw [upd_ne (at_ne e hc exo_tup), upd_ne (ne_of_none hc hnd)]; exact hc)
theorem xst_old (XF : XB B newId initId bmB) (T : XK1 X.K C bmB newId) (I : Inv X pins σ H s) (e : H a = some (exo a C (some dx))) (ed : H dx = some (exd dx fs)) (hl : fs.length ≤ 900) (hno : PySem.W.takerIn X.K C f = some none) (ry : RelV y u)
    (h : ∀ s', Inv X pins σ (upd H dx (exd dx ((f, y) :: fs))) s' → Q () s') : wpAny (model X.prog X.w) A (setAttr (.ref a) f u) Q E s := by
  obtain ⟨t1, ho⟩ := exo_at I.hok e
  obtain ⟨mA, hns, rel⟩ := exd_at I.hok ed
  have hw := within_of rel
  obtain ⟨hp, g, d, t, os⟩ := s
  obtain ⟨oD, _, _, hoD, _, _⟩ := hns.count hw
  refine PySem.W.set_plain I.kIn (od := some oD) ⟨ho, rfl, rfl, hoD⟩ T.sa (xsa_old XF T I.kIn ho hns hw (by rw [List.length_map]; omega) hno fun h' tk' k hn => ?_)
  have hd : ∃ o, h'.get? dx = some o := by
    obtain ⟨o, _, _, e', _⟩ := hn
    exact ⟨o, e'⟩
  exact h _ (I.write (t' := tk') (x := dx) (e := dx) (o := exd dx ((f, y) :: fs)) (by rw [ed]; exact True.intro) (.inl rfl) k hd (exd_ok hn (relO_put ry rel)))
/-- the bound built-in __init__ is called -/
theorem xinit_run {u0 : Addr} {us : List Value} {Q : Value → Shared → Prop} (XF : XB B newId initId bmB) (T : XK1 X.K C bmB newId) (I : Inv X pins σ H s) (e : H a = some (exo a C none)) (hu : s.heap.get? u0 = some (PySem.W.kxs_mw initId a)) (hl : us.length ≤ sizeLine) (h : ∀ s', Inv X pins σ H s' → Q .none s') :
    wpAny (model X.prog X.w) A (call (.ref u0) us) Q E s := by
  obtain ⟨nm, N', qn, bs, bm, hdct, sn, sub, ab, col, dd, k0, k1, k2, k3, k5, hC, hT⟩ := PySem.W.excInit_of I.kIn T.q
  obtain ⟨t1, ho⟩ := exo_at I.hok e
  obtain ⟨hp, g, d, t, os⟩ := s
  refine wpAny_call (codeAny_of_tree ?_)
  show wpAny _ A.in1 (callAny (.ref u0) ⟨us, []⟩) _ _ _
  simp only [callAny]
  refine wpAny_bind (wpAny_load hu ?_)
  simp only [PySem.W.kxs_mw, show (Value.type "method-wrapper" == Value.type "method" || Value.type "method-wrapper" == Value.type "builtin_function_or_method" || Value.type "method-wrapper" == Value.type "method-wrapper") = true by decide, if_true]
  refine PySem.W.KFB.if_so (by decide) ?_
  refine wpAny_bind (PySem.W.check_bound_init XF.eb.toExcCallFacts hC ho rfl ?_)
  refine wpAny_bind (wpAny_pure (wpAny_pure ?_))
  refine ⟨PySem.plainId_quiet XF.eb.init.plain _, codeAny_builtin XF.eb.initEntry ?_⟩
  refine PySem.W.exc_init_tree (cls := .ref C) (t0 := t1) (dv := none) (c2 := .none) (c3 := .none) (b4 := .bool false) ho hl fun h' k e' t' => ?_
  have J := I.write (t' := t) (x := a) (e := a) (o := exo a C none) (by rw [e]; exact True.intro) (.inl rfl) k ⟨_, e'⟩ (exo_ok e')
  have eu : upd H a (exo a C none) = H := by
    funext b
    by_cases hb : b = a
    · rw [hb, upd_same, e]
    · rw [upd_ne hb]
  rw [eu] at J
  exact h _ J
end
end AH
namespace AH
open PySem PySem.Spec PyProof.Rows L2
/-! ### an own __init__ that says super().__init__(..) -/
/-- what stands in the text of it: f the __init__, cc the cell of __class__, cda its code -/
structure XIn (P : Program) (K : PySem.W.Frag) (mg : Str → Option Value) (C : Addr) (qual : Str) (params : Arguments) (body : List Stmt) (scope : Scope) (f : Addr) (fd : FuncData) : Prop where
  ex : ∃ (oc : Value) (od : Option Addr) (dV kV doc pm : Value) (an : Option Addr) (cda cc : Addr) (ct : Value) (osl : Array (Option Value)) (ccl : Value) (cdd : Option Addr) (vs : Array Value) (ccs : Array (Option Value)) (file : Str) (tf : Tok) (cl : Value) (cld : Option Addr) (csl : Array (Option Value)),
    dV = .none ∧ fd = PySem.W.ksFn "__init__" qual params body scope dV kV doc pm an (.ref cda) ct cc ∧ K.lookup f = some ⟨oc, od, .func fd, osl⟩ ∧ PySem.W.codeIn K (.ref cda) qual = true ∧
    K.lookup cda = some ⟨ccl, cdd, .fields vs, ccs⟩ ∧ vs[2]? = some (.str file tf) ∧ ((P.main.file : Str) == file) = true ∧ K.lookup cc = some ⟨cl, cld, .cell (some (.ref C)), csl⟩
  top : (P.main.scope.names.lookup ("super" : Str)).isSome = false
  fr : mg "super" = none
/-- .. of its class -/
structure XSu (K : PySem.W.Frag) (C : Addr) (B initId : String) : Prop where
  op : PySem.W.nsIn K cStatics "thirdparty.any" = some none
  su : PySem.W.ks_superIn K C C "__init__" = some (some (.builtin initId))
  sb : PySem.W.subIn K (.ref C) (.type B) = some true
  me : PySem.W.mroIn K C (.ref C) = some true
  cl : ∃ cd, PySem.W.clsIn K C = some cd
/-- its names -/
structure XSc (ps : List Str) (sc : Scope) : Prop where
  kind : sc.kind = .function
  co : sc.isCoroutine = false
  gen : sc.isGenerator = false
  nd : ps.Nodup
  par : ∀ x ∈ ps, sc.names.lookup x = some .local
  su : sc.names.lookup ("super" : Str) = some .globalImplicit
  cl : sc.names.lookup ("__class__" : Str) = some .free
  nc : ∀ x ∈ sc.names, x.2 ≠ .cell
  fre : ∀ x : Str, sc.names.lookup x = some .free → x = "__class__"
theorem zip_look {x : Str} {u : Value} : ∀ {ps : List Str} {us : List Value} {i : Nat}, ps.Nodup → ps[i]? = some x → us[i]? = some u → ((ps.zip us).reverse).lookup x = some u
  | [], _, _, _, h, _ => by simp at h
  | _ :: _, [], _, _, _, h => by simp at h
  | p :: ps, w :: us, 0, nd, h1, h2 => by
    simp at h1 h2
    subst h1 h2
    have nn : ((ps.zip us).reverse).lookup p = none := by
      rw [List.lookup_eq_none_iff]
      intro q hq
      have hq := (List.of_mem_zip (List.mem_reverse.mp hq)).1
      have : p ≠ q.1 := fun z => (List.nodup_cons.mp nd).1 (z ▸ hq)
      simpa using this
    rw [List.zip_cons_cons, List.reverse_cons, List.lookup_append, nn]
    simp
  | p :: ps, w :: us, i + 1, nd, h1, h2 => by
    have ih := zip_look (ps := ps) (us := us) (i := i) (List.nodup_cons.mp nd).2 (by simpa using h1) (by simpa using h2)
    rw [List.zip_cons_cons, List.reverse_cons, List.lookup_append, ih]
    rfl
def cxX (CX : CXT) (P : Program) (w : World) (K : PySem.W.Frag) (mg : Str → Option Value) (base : Heap) (N : List Str) (qual : Str) (scope : Scope) (f cda cc : Addr) (A : Around) (outer : List PySem.Env) (s : Shared) (H : Hp) (E : XK) : Cx where
  prog := P
  w := w
  K := K
  mg := mg
  base := base
  A := A.deeper (PySem.W.ksEnv qual scope s.heap.objs.size f (.ref cda) cc)
  N := N
  s_0 := s
  H_0 := H
  env := PySem.W.ksEnv qual scope s.heap.objs.size f (.ref cda) cc
  outer := outer
  stack := PySem.W.ksEnv qual scope s.heap.objs.size f (.ref cda) cc :: outer
  ex := []
  calm := true
  fn := fun _ => false
  pn := []
  xe := fun e s' => wpAny (model P w) (A.deeper (PySem.W.ksEnv qual scope s.heap.objs.size f (.ref cda) cc)) (leaving (PySem.W.ksEnv qual scope s.heap.objs.size f (.ref cda) cc) e) (fun _ s'' => CX outer H s E e s'') (fun e' s'' => CX outer H s E e' s'') s'
theorem inv_startX {CX : CXT} {P : Program} {w : World} {K : PySem.W.Frag} {mg : Str → Option Value} {base : Heap} {ps : List Str} {qual : Str} {scope : Scope} {f cda cc : Addr} {A : Around} {outer : List PySem.Env} {s : Shared} {h1 : Heap} {tk : Nat} {H : Hp} {E : XK} {us : List Value} {vs : List V} {cl : Value} {cld : Option Addr} {csl : Array (Option Value)} {C : Addr}
    (S : XSc ps scope) (hd : A.handled = none) (e0 : Env0 P w K mg base A outer s H) (hl : vs.length = ps.length) (r : Vals vs us) (hcc : K.lookup cc = some ⟨cl, cld, .cell (some (.ref C)), csl⟩)
    (hns : h1.Ns s.heap.objs.size (fun x => (ps.zip us).reverse.lookup x)) (hk : ∀ b o, s.heap.get? b = some o → h1.get? b = some o) :
    Inv (cxX CX P w K mg base ps qual scope f cda cc A outer s H E) [] (L2.start ps vs) H { s with heap := h1, toks := tk } := by
  have noA : ∀ b : Addr, b ∉ (cxX CX P w K mg base ps qual scope f cda cc A outer s H E).ex := fun b z => absurd (show b ∈ ([] : List Addr) from z) (by simp)
  have KB := e0.mod.kin
  have hcb := KB _ _ hcc
  have cel : ∀ (x : Str) (c : Addr), (PySem.W.ksEnv qual scope s.heap.objs.size f (.ref cda) cc).cells.lookup x = some c → x = "__class__" ∧ c = cc := fun x c h => by
    have h : ([("__class__", cc)] : List (Str × Addr)).lookup x = some c := h
    simp only [List.lookup] at h
    split at h
    · rename_i q
      exact ⟨by simpa using q, (Option.some.inj h).symm⟩
    · cases h
  refine ⟨⟨e0.mod, S.kind, rfl, rfl, Nat.le_refl _, fun y z c h1 h2 => ?_, fun y hy => ?_, fun y c z _ => (by cases z), fun _ => hd, Around.frames_deeper e0.frames, .inr ⟨rfl, rfl⟩, fun b z => absurd z (noA b), e0.bs, e0.bsz, fun b _ _ => noA b, fun b z => absurd z (noA b), e0.funs, e0.frf⟩,
    rfl, e0.bare, Un.kept hk, ⟨_, hns, fun i y v h1 h2 h3 => ?_⟩, fun y c h => ?_, e0.hok.fresh (Nat.le_refl _), fun y c h => ?_, fun p hp => absurd (show p ∈ ([] : List (Addr × Obj)) from hp) (by simp), e0.hok.kept hk, ?_⟩
  · exact (cel y c h1).1.trans (cel z c h2).1.symm
  · have hy : scope.names.lookup y = some .cell ∨ scope.names.lookup y = some .free := hy
    rcases hy with hy | hy
    · exact absurd rfl (S.nc _ (PySem.mem_of_lookup hy))
    · obtain rfl := S.fre y hy
      exact ⟨cc, rfl⟩
  · have hN : ps[i]? = some y := h1
    have ha : vs[i]? = some v := by
      unfold L2.start at h2
      have hi : i < vs.length := by
        obtain ⟨q, _⟩ := List.getElem?_eq_some_iff.mp hN
        omega
      rw [List.getElem?_append_left (by simpa using hi), List.getElem?_map] at h2
      cases e : vs[i]? with
      | none => rw [e] at h2; cases h2
      | some a => rw [e] at h2; cases h2; rfl
    obtain ⟨u, hu, rv⟩ := r.get ha
    exact ⟨u, rv, .inl ⟨S.par y (List.mem_of_getElem? hN), zip_look S.nd hN hu⟩⟩
  · obtain ⟨_, rfl⟩ := cel y c h
    exact ⟨_, _, hk _ _ (e0.bs _ _ hcb).1, rfl⟩
  · obtain ⟨_, rfl⟩ := cel y c h
    exact (e0.bs _ _ hcb).2
  · unfold L2.start
    show _ = ps.length
    rw [List.length_append, List.length_map, List.length_replicate]
    omega
section
variable {X : Cx} {pins : List (Addr × Obj)} {σ : L2.St} {H : Hp} {s : Shared} {B newId initId : String} {bmB : List Value} {C a : Addr} {qual : Str} {scope : Scope} {L f cda cc : Addr} {params : Arguments} {ps : List Str}
/-- super().__init__(..) -/
theorem sup_run {all : List Stmt} {e : Expr} {es : List Expr} {ta : TA} {p0 p1 p2 p3 p4 : Pos} {fd : FuncData} {ar : PySem.Arg} {oc ccl cl : Value} {od cdd cld : Option Addr} {osl ccs csl : Array (Option Value)} {vs : Array Value} {file : Str} {tf : Tok} {pl : Sem Bool} {Q : L2.St → Hp → Prop} (XF : XB B newId initId bmB) (T : XK1 X.K C bmB newId) (U : XSu X.K C B initId) (hf : X.K.lookup f = some ⟨oc, od, .func fd, osl⟩) (hp : (fd.params.posonlyargs ++ fd.params.args).head? = some ar) (har : ar.arg = "self")
    (hcode : X.K.lookup cda = some ⟨ccl, cdd, .fields vs, ccs⟩) (hvs : vs[2]? = some (.str file tf)) (hfile : ((X.prog.main.file : Str) == file) = true) (hcell : X.K.lookup cc = some ⟨cl, cld, .cell (some (.ref C)), csl⟩) (htop : (X.prog.main.scope.names.lookup ("super" : Str)).isSome = false) (hfr : X.mg "super" = none)
    (S : XSc ps scope) (hX : X.env = PySem.W.ksEnv qual scope L f (.ref cda) cc) (hN : X.N = ps) (h0 : ps[0]? = some ("self" : Str)) (I : Inv X pins σ H s) (hσ : σ[0]? = some (some (.ref a))) (ea : H a = some (exo a C none)) (ha : PA X (e :: es) ta)
    (h : ta σ H fun vs H1 => vs.length ≤ 1000 ∧ H1 a = some (exo a C none) ∧ Q σ H1)
    (he : starEach (e :: es) X.env = (false, eval e X.env) :: starEach es X.env := by rfl) (hpl : (backTo p3 (starEach es X.env)).any (·.1) = false := by rfl) 
    (hm : eval (.Call (.Attribute (.Call (.Name "super" p0) [] [] p1) "__init__" p2) (e :: es) [] p3) X.env = (do
      let ov ← attributeBase (.Call (.Name "super" p0) [] [] p1) "__init__" X.env (eval (.Call (.Name "super" p0) [] [] p1) X.env)
      standAt p2.atName
      let (f, first) ← holding [ov] (getMethod ov "__init__" pl)
      callWith p3 f first (backTo p3 (starEach (e :: es) X.env)) []) := by rfl) (hi : interactive X.env = false := by rfl) (hs : swapsWith (.Call (.Attribute (.Call (.Name "super" p0) [] [] p1) "__init__" p2) (e :: es) [] p3) none p4.line X.env = pure false := by rfl) :
    PySem.wpAt (model X.prog X.w) X.A (.func all X.env) (exec (.Expr (.Call (.Attribute (.Call (.Name "super" p0) [] [] p1) "__init__" p2) (e :: es) [] p3) p4) X.env) (fun fl s' => fl = .next ∧ ∃ H1, Inv X pins σ H1 s' ∧ H1 a = some (exo a C none) ∧ Q σ H1) X.xe s := by
  refine PySem.ks_wpAt_Expr_any (PySem.ks_wpAt_MethodCall ?_ hm) hi hs
  have X0 : X.K.In s.heap := I.kIn
  obtain ⟨m, hns, hl⟩ := I.loc
  obtain ⟨u, ru, lk⟩ := hl 0 "self" (.ref a) (by rw [hN]; exact h0) hσ (by rw [hX]; exact .inl (S.par _ (List.mem_of_getElem? h0)))
  obtain rfl : u = .ref a := ru
  have hm0 : m "self" = some (.ref a) := by
    rcases lk with ⟨_, q⟩ | ⟨q, _⟩
    · exact q
    · rw [hX] at q
      have q : scope.names.lookup ("self" : Str) = some .cell ∨ scope.names.lookup ("self" : Str) = some .free := q
      rw [S.par _ (List.mem_of_getElem? h0)] at q
      rcases q with q | q <;> cases q
  obtain ⟨cd, hcd⟩ := U.cl
  obtain ⟨oD, hD1, hD2⟩ : ∃ oD, s.heap.get? C = some oD ∧ oD.data = .cls cd := by
    unfold PySem.W.clsIn at hcd
    split at hcd
    · rename_i c d cd' sl ho
      cases hcd
      exact ⟨_, X0 _ _ ho, rfl⟩
    · cases hcd
  obtain ⟨t1, ho⟩ := exo_at I.hok ea
  have II : PySem.W.InstAt s.heap a _ C none := ⟨ho, rfl, rfl, trivial⟩
  have k1 : X.env.kindOf "super" = some .globalImplicit := by rw [hX]; exact S.su
  have k2 : X.env.kindOf "__class__" = some .free := by rw [hX]; exact S.cl
  have k3 : X.env.kindOf "self" = some .local := by rw [hX]; exact S.par _ (List.mem_of_getElem? h0)
  obtain ⟨mb, b1, b2⟩ := I.mod.blt
  refine PySem.ks_wpAt_super_base (env := X.env) k1 k2 (by decide) (by rw [hX]) (X0 _ _ hf) rfl hp (by rw [hX]) (X0 _ _ hcode) rfl hvs hfile htop ?_
  refine PySem.W.ks_loadName_global I.ok.kind k1 (Calls.loadGlobal_builtin (by rw [I.ok.glob]; exact I.mod.glob.keeps I.bk) hfr (by rw [I.ok.blt]; exact b1.keeps I.bk) ((b2 "super" (by decide)).trans (show bootBuiltins "super" = some (.type "super") by decide +kernel)) ⟨rfl, ?_⟩)
  refine wpAny_loadName_free I.ok.kind k2 (by rw [hX]; rfl) ⟨_, X0 _ _ hcell, rfl⟩ ?_
  rw [har]
  refine wpAny_loadName_local I.ok.kind k3 hns hm0 ?_
  refine PySem.ks_wpAny_isType_cls hD1 hD2 ⟨rfl, ?_⟩
  obtain ⟨hh, gs, dr, tk, os⟩ := s
  refine PySem.ks_wpAny_call_super hD1 hD2 ho rfl (fun c e => by cases e) (PySem.W.looks_mroIn X0 U.me) fun h1 e1 kp1 => ?_
  have I1 : Inv X pins σ H ⟨h1, gs, dr, tk, os⟩ := I.kept (t' := tk) kp1
  have X1 : X.K.In h1 := I1.kIn
  have II1 : PySem.W.InstAt h1 a _ C none := ⟨kp1 _ _ ho, rfl, rfl, trivial⟩
  have hsu := U.su
  unfold PySem.W.ks_superIn at hsu
  rw [hcd] at hsu
  refine PySem.W.kxs_getMethod XF.kx e1 (PySem.W.looks_opaque X1 U.op) (l₀ := cd.mro) ((PySem.W.looks_clsIn X1 hcd).andThen .now) rfl X1 hsu (II1.type.andThen (PySem.W.looks_subIn X1 U.sb)) (PySem.W.ks_ne X1 II1 hcd) (by decide) ?_
  have kp2 : ∀ b o, h1.get? b = some o → (h1.push (PySem.W.kxs_mw initId a)).get? b = some o := fun b o z => Heap.get?_push_of_some _ z
  have I2 : Inv X pins σ H ⟨h1.push (PySem.W.kxs_mw initId a), gs, dr, tk + 1, os⟩ := I1.kept (t' := tk + 1) kp2
  have hu : (h1.push (PySem.W.kxs_mw initId a)).get? h1.objs.size = some (PySem.W.kxs_mw initId a) := Heap.get?_push_at rfl rfl
  have I3 : Inv X ((h1.objs.size, PySem.W.kxs_mw initId a) :: pins) σ H ⟨h1.push (PySem.W.kxs_mw initId a), gs, dr, tk + 1, os⟩ := I2.pins_of fun p hp => by
    rcases List.mem_cons.mp hp with rfl | hp
    · exact ⟨hu, I1.hok.fresh (Nat.le_refl _), Nat.ne_of_gt I1.lt, I1.nofs (Nat.le_refl _), fun v z => by cases z⟩
    · exact I2.pin p (List.mem_append_right _ hp)
  refine PySem.W.kxs_callWith1 (i := initId) (x := a) (h₀ := hh) (L := h1.objs.size + 1) (news := [(h1.objs.size, PySem.W.kxs_mw initId a)]) (fun p hp => ?_) List.mem_cons_self ?_ he hpl
  · obtain rfl := List.mem_singleton.mp hp
    refine ⟨hu, Nat.ne_of_lt (Nat.lt_succ_self _), ?_⟩
    cases z : hh.get? h1.objs.size with
    | none => rfl
    | some o => exact absurd (Heap.lt_size (kp1 _ _ z)) (Nat.lt_irrefl _)
  refine thn (ha.run p3 _ _ σ H _ I3 h) fun us s4 ⟨vs4, H4, I4, r4, hz, e4, q⟩ => ?_
  have hu4 := (I4.pin (h1.objs.size, PySem.W.kxs_mw initId a) (List.mem_append_right _ List.mem_cons_self)).1
  refine ⟨hu4, xinit_run XF T I4 e4 hu4 (by rw [← Paired.length r4, sizeLine_eq]; omega) fun s5 I5 => ⟨rfl, H4, I5.pins_of fun p hp => I5.pin p (List.mem_append_right _ (List.mem_cons_of_mem _ hp)), e4, q⟩⟩
end
/-! ### such an __init__ as a def -/
section
variable {P : Program} {w : World} {K : PySem.W.Frag} {mg : Str → Option Value} {base : Heap} {B newId initId : String} {bmB : List Value} {C f : Addr} {qual : Str} {params : Arguments} {scope : Scope} {fd : FuncData} {ps : List Str}
def spXi (C : Addr) (n : Nat) (Z : List V → Hp → VK → Prop) : Sp := fun vs H Q _ => vs.length = n ∧ ∃ a ws, vs = .ref a :: ws ∧ H a = some (exo a C none) ∧ Z vs H Q
theorem fn_xi {CX : CXT} {e : Expr} {es : List Expr} {rest : List Stmt} {p0 p1 p2 p3 p4 : Pos} {pl : PySem.Env → Sem Bool} {ar : PySem.Arg} {Z : List V → Hp → VK → Prop} (XF : XB B newId initId bmB) (T : XK1 K C bmB newId) (U : XSu K C B initId) (S : XSc ps scope)
    (F : XIn P K mg C qual params (.Expr (.Call (.Attribute (.Call (.Name "super" p0) [] [] p1) "__init__" p2) (e :: es) [] p3) p4 :: rest) scope f fd) (hp : (params.posonlyargs ++ params.args).head? = some ar) (har : ar.arg = "self") (h0 : ps[0]? = some ("self" : Str))
    (hbody : ∀ (cda cc : Addr) (A : Around) (outer : List PySem.Env) (s : Shared) (H : Hp) (E : XK), ∃ ta t, PA (cxX CX P w K mg base ps qual scope f cda cc A outer s H E) (e :: es) ta ∧ PSs (cxX CX P w K mg base ps qual scope f cda cc A outer s H E) rest t ∧
      ∀ vs H0 Q a, vs.length = ps.length → vs[0]? = some (.ref a) → H0 a = some (exo a C none) → Z vs H0 Q → ta (L2.start ps vs) H0 fun us H1 => us.length ≤ 1000 ∧ H1 a = some (exo a C none) ∧ t { nx := fun _ H' => Q .non H', rt := Q } (L2.start ps vs) H1)
    (he : ∀ env, starEach (e :: es) env = (false, eval e env) :: starEach es env := by intro _; rfl) (hpl : ∀ env, (backTo p3 (starEach es env)).any (·.1) = false := by intro _; rfl)
    (hm : ∀ env, eval (.Call (.Attribute (.Call (.Name "super" p0) [] [] p1) "__init__" p2) (e :: es) [] p3) env = (do
      let ov ← attributeBase (.Call (.Name "super" p0) [] [] p1) "__init__" env (eval (.Call (.Name "super" p0) [] [] p1) env)
      standAt p2.atName
      let (f, first) ← holding [ov] (getMethod ov "__init__" (pl env))
      callWith p3 f first (backTo p3 (starEach (e :: es) env)) []) := by intro _; rfl) :
    FnOk P w K mg base CX 1 f fd ps (spXi C ps.length Z) := by
  refine ⟨fun vs H Q E q => q.1, fun A outer s H args us vs Q E hr e0 hb r hsp => ?_⟩
  obtain ⟨hl, a, ws, ev, ea, hz⟩ := hsp
  obtain ⟨oc, od, dV, kV, doc, pm, an, cda, cc, ct, osl, ccl, cdd, vs2, ccs, file, tf, cl, cld, csl, _, rfl, lk, hcd, lcd, hvs, hfile, lcc⟩ := F.ex
  have KX : K.In s.heap := e0.mod.kin.keeps fun b o e => (e0.bs b o e).1
  have lim : s.heap.NoLimit := e0.mod.nolimit.keeps fun b o e => (e0.bs b o e).1
  obtain ⟨ta, t, pa, pt, hq⟩ := hbody cda cc A outer s H E
  refine PySem.ks_codeAny_call_defAt hr.depth (KX _ _ lk) rfl lim (PySem.W.codeRec_of KX hcd) rfl hb S.nc (fun x hx => S.par _ (List.of_mem_zip hx).1) (fun h1 hns hk => ?_) S.co S.gen S.kind
  have I : Inv (cxX CX P w K mg base ps qual scope f cda cc A outer s H E) [] (L2.start ps vs) H { s with heap := h1, toks := s.toks + (ps.zip us).length } := inv_startX S hr.hd e0 hl r lcc hns hk
  have hσ : (L2.start ps vs)[0]? = some (some (.ref a)) := by rw [ev]; rfl
  refine PySem.ks_wpAt_execs_cons (PySem.ks_wpAt_mono (sup_run (X := cxX CX P w K mg base ps qual scope f cda cc A outer s H E) (Q := fun σ H1 => t { nx := fun _ H' => Q .non H', rt := Q } σ H1) XF T U lk hp har lcd hvs hfile lcc F.top F.fr S rfl rfl h0 I hσ ea pa ?_ (he _) (hpl _) (hm _) (hi := by unfold interactive; rw [show (cxX CX P w K mg base ps qual scope f cda cc A outer s H E).env.scope.kind = .function from S.kind]; rfl)) (fun fl s' hh => ?_) fun _ _ z => z)
  · exact hq vs H Q a hl (by rw [ev]; rfl) ea hz
  · obtain ⟨rfl, H1, I1, e1, q1⟩ := hh
    refine PySem.wpAt_of_wpAny (wpAny_mono (pt.run [] s' (L2.start ps vs) H1 _ I1 q1) (fun fl s2 hs => ?_) fun e s' hs => hs)
    have fin : ∀ {σ' : L2.St} {H' : Hp} {v : V} {u : Value}, Inv (cxX CX P w K mg base ps qual scope f cda cc A outer s H E) [] σ' H' s2 → RelV v u → Q v H' → CE outer P w H s Q u s2 :=
      fun {σ' H' v u} J rv q => ⟨v, H', J.os, J.bare, J.base, J.hok, rv, q⟩
    cases fl with
    | ret u =>
      obtain ⟨v, σ', H', J, rv, q⟩ := hs
      exact fin J rv q
    | next =>
      obtain ⟨σ', H', J, q⟩ := hs
      exact fin (v := V.non) (u := Value.none) J rfl q
    | brk =>
      obtain ⟨_, _, _, q⟩ := hs
      exact False.elim q
    | cont =>
      obtain ⟨_, _, _, q⟩ := hs
      exact False.elim q
end
end AH
namespace AH
open PySem PySem.Spec PyProof.Rows L2
/-! ### self.f = .. of an exception that is being made, as a target -/
def gXs (C : Addr) (to : TE) (f : Str) : TG := fun y σ H Q => to σ H fun x H2 => ∃ a : Addr, x = .ref a ∧
  ((H2 a = some (exo a C none) ∧ ∀ dx, H2 dx = none → dx ≠ a → Q σ (upd (upd H2 dx (exd dx [(f, y)])) a (exo a C (some dx)))) ∨
    ∃ (dx : Addr) (fs : List (Str × V)), H2 a = some (exo a C (some dx)) ∧ H2 dx = some (exd dx fs) ∧ fs.length ≤ 900 ∧ Q σ (upd H2 dx (exd dx ((f, y) :: fs))))
section
variable {X : Cx} {B newId initId : String} {bmB : List Value} {C : Addr}
theorem pg_xs {o : Expr} {to : TE} {f : Str} {pos : Pos} (XF : XB B newId initId bmB) (T : XK1 X.K C bmB newId) (hno : PySem.W.takerIn X.K C f = some none) (ho : PE X o to)
    (ha : ∀ v, assign (.Attribute o f pos) X.env v = (do
      let ov ← holding [v] (eval o X.env)
      standAt pos.atName
      holding [v, ov] (setAttr ov f v)
      release [v, ov] []) := by intro _; rfl) : PG X (.Attribute o f pos) (gXs C to f) := by
  refine ⟨fun pins s σ H v u Q I r h => ?_⟩
  rw [ha]
  refine wpAny_bind (wpAny_holding (thn (ho.run pins s σ H _ I h) fun ov s1 ⟨x, H1, I1, r1, a, ex, q⟩ => ?_))
  subst ex
  obtain rfl : ov = Value.ref a := r1
  refine wpAny_bind (wpAny_standAt (wpAny_bind (wpAny_holding ?_)))
  rcases q with ⟨ea, q⟩ | ⟨dx, fs, ea, ed, hl, q⟩
  · exact xst_new XF T I1 ea hno r fun dx s3 n ne J => wpAny_release ⟨σ, _, J, q dx n ne⟩
  · exact xst_old XF T I1 ea ed hl hno r fun s3 J => wpAny_release ⟨σ, _, J, q⟩
theorem exd_congr {d : Addr} {fs fs' : List (Str × V)} (h : ∀ f, fs.lookup f = fs'.lookup f) : exd d fs = exd d fs' := by
  unfold exd
  simp only [h]
theorem sw_attr2 {o1 o2 v1 v2 : Expr} {f1 f2 : Str} {p1 p2 p4 p5 : Pos} {k1 k2 : Nat} {env : PySem.Env} (hv : ([v1, v2].any fun | .Starred .. => true | _ => false) = false) :
    swappedStores [.Tuple [.Attribute o1 f1 p1, .Attribute o2 f2 p2] k1 p4] (.Tuple [v1, v2] k2 p5) env = pure none := by
  unfold swappedStores
  simp only [List.length_cons, List.length_nil]
  cases h : (env.blockKind != .function) with
  | true => simp [h]
  | false => simp [h, hv]
end
/-- what the maker of an exception promises: the given values in the fields -/
def ZX (C : Addr) (fsN : List Str) : List V → Hp → VK → Prop := fun vs H Q => ∃ a ws, vs = .ref a :: ws ∧ ∀ H' dx, (∀ b o, b ≠ a → H b = some o → H' b = some o) → H dx = none → dx ≠ a → H' a = some (exo a C (some dx)) → H' dx = some (exd dx (fsN.zip ws)) → Q .non H'
section
variable {P : Program} {w : World} {K : PySem.W.Frag} {mg : Str → Option Value} {base : Heap} {B newId initId : String} {bmB : List Value} {C f : Addr} {qual : Str} {params : Arguments} {scope : Scope} {fd : FuncData}
def xiBody2 (a b : Str) (p0 p1 p2 p3 p4 q1 q2 q3 q4 q5 q6 q7 q8 q9 q10 q11 : Pos) (k1 k2 : Nat) : List Stmt := [
  .Expr (.Call (.Attribute (.Call (.Name "super" p0) [] [] p1) "__init__" p2) [.Name a q1, .Name b q2] [] p3) p4,
  .Assign [.Tuple [.Attribute (.Name "self" q3) a q4, .Attribute (.Name "self" q5) b q6] k1 q7] (.Tuple [.Name a q8, .Name b q9] k2 q10) q11]
def xiBody1 (a : Str) (p0 p1 p2 p3 p4 q1 q2 q3 q4 q5 : Pos) : List Stmt := [
  .Expr (.Call (.Attribute (.Call (.Name "super" p0) [] [] p1) "__init__" p2) [.Name a q1] [] p3) p4,
  .Assign [.Attribute (.Name "self" q2) a q3] (.Name a q4) q5]
theorem fn_xi2 {CX : CXT} {a b : Str} {p0 p1 p2 p3 p4 q1 q2 q3 q4 q5 q6 q7 q8 q9 q10 q11 : Pos} {k1 k2 : Nat} {ar : PySem.Arg} {body : List Stmt} {pl : PySem.Env → Sem Bool} (XF : XB B newId initId bmB) (T : XK1 K C bmB newId) (U : XSu K C B initId) (S : XSc ["self", a, b] scope)
    (F : XIn P K mg C qual params body scope f fd) (hb : body = xiBody2 a b p0 p1 p2 p3 p4 q1 q2 q3 q4 q5 q6 q7 q8 q9 q10 q11 k1 k2) (hp : (params.posonlyargs ++ params.args).head? = some ar) (har : ar.arg = "self")
    (hm : ∀ env, eval (.Call (.Attribute (.Call (.Name "super" p0) [] [] p1) "__init__" p2) [.Name a q1, .Name b q2] [] p3) env = (do
      let ov ← attributeBase (.Call (.Name "super" p0) [] [] p1) "__init__" env (eval (.Call (.Name "super" p0) [] [] p1) env)
      standAt p2.atName
      let (f, first) ← holding [ov] (getMethod ov "__init__" (pl env))
      callWith p3 f first (backTo p3 (starEach [.Name a q1, .Name b q2] env)) []))
    (n1 : PySem.W.takerIn K C a = some none) (n2 : PySem.W.takerIn K C b = some none) (hda : (a == ("__debug__" : Str)) = false) (hdb : (b == ("__debug__" : Str)) = false) (hca : (a == ("__classdict__" : Str)) = false) (hcb : (b == ("__classdict__" : Str)) = false) :
    FnOk P w K mg base CX 1 f fd ["self", a, b] (spXi C 3 (ZX C [a, b])) := by
  subst hb
  have nab : a ≠ b := fun z => by
    have := S.nd
    rw [z] at this
    simp at this
  have v0 : Vis scope "self" := .inl (S.par _ (by simp))
  have v1 : Vis scope a := .inl (S.par _ (by simp))
  have v2 : Vis scope b := .inl (S.par _ (by simp))
  refine fn_xi XF T U S F hp har rfl (fun cda cc A outer s H E => ?_) (hm := hm)
  refine ⟨_, _, pa_cons (pe_var (i := 1) rfl v1 hda hca) (pa_cons (pe_var (i := 2) rfl v2 hdb hcb) pa_nil), pss_one (ps_asg (pe_tup (pa_cons (pe_var (i := 1) rfl v1 hda hca) (pa_cons (pe_var (i := 2) rfl v2 hdb hcb) pa_nil)))
    (pg_tup rfl (pgs_cons (pg_xs XF T n1 (pe_var (i := 0) rfl v0 rfl rfl)) (pgs_cons (pg_xs XF T n2 (pe_var (i := 0) rfl v0 rfl rfl)) pgs_nil))) (hw := sw_attr2 rfl)), ?_⟩
  intro vs H0 Q x hl ev ex hz
  obtain ⟨a', ws, rfl, hz⟩ := hz
  obtain rfl : x = a' := by cases ev; rfl
  match ws, hl with
  | [y1, y2], _ =>
    refine ⟨y1, rfl, y2, rfl, Nat.le_of_ble_eq_true rfl, ex, y1, rfl, y2, rfl, by rw [sizeLine_eq]; exact Nat.le_of_ble_eq_true rfl, fun p hpn => ?_⟩
    have px : p ≠ x := fun z => by rw [z, ex] at hpn; cases hpn
    have e1 : upd H0 p (.tup [y1, y2]) x = some (exo x C none) := by rw [upd_ne (Ne.symm px)]; exact ex
    refine ⟨p, [y1, y2], rfl, .inl (.inl upd_same), rfl, _, _, rfl, .ref x, rfl, x, rfl, .inl ⟨e1, fun dx hd ne => ?_⟩⟩
    have dp : dx ≠ p := fun z => by rw [z, upd_same] at hd; cases hd
    refine ⟨_, _, rfl, .ref x, rfl, x, rfl, .inr ⟨dx, [(a, y1)], upd_same, by rw [upd_ne ne, upd_same], Nat.le_of_ble_eq_true rfl, rfl, ?_⟩⟩
    show Q _ _
    refine hz _ dx (fun b' o hb ho => ?_) (by rw [upd_ne dp] at hd; exact hd) ne ?_ ?_
    · have nd : b' ≠ dx := fun z => by
        rw [upd_ne dp] at hd
        rw [z, hd] at ho
        cases ho
      have np : b' ≠ p := fun z => by rw [z, hpn] at ho; cases ho
      rw [upd_ne nd, upd_ne hb, upd_ne nd, upd_ne np]
      exact ho
    · rw [upd_ne (Ne.symm ne), upd_same]
    · rw [upd_same]
      refine congrArg some (exd_congr fun g => ?_)
      show ([(b, y2), (a, y1)] : List (Str × V)).lookup g = ([(a, y1), (b, y2)] : List (Str × V)).lookup g
      rw [lookup_put, lookup_put, lookup_put, lookup_put]
      by_cases g1 : g = b
      · subst g1
        rw [if_pos rfl, if_neg (Ne.symm nab), if_pos rfl]
      · rw [if_neg g1, if_neg g1]
/-- one field -/
theorem fn_xi1 {CX : CXT} {a : Str} {p0 p1 p2 p3 p4 q1 q2 q3 q4 q5 : Pos} {ar : PySem.Arg} {body : List Stmt} {pl : PySem.Env → Sem Bool} (XF : XB B newId initId bmB) (T : XK1 K C bmB newId) (U : XSu K C B initId) (S : XSc ["self", a] scope)
    (F : XIn P K mg C qual params body scope f fd) (hb : body = xiBody1 a p0 p1 p2 p3 p4 q1 q2 q3 q4 q5) (hp : (params.posonlyargs ++ params.args).head? = some ar) (har : ar.arg = "self")
    (hm : ∀ env, eval (.Call (.Attribute (.Call (.Name "super" p0) [] [] p1) "__init__" p2) [.Name a q1] [] p3) env = (do
      let ov ← attributeBase (.Call (.Name "super" p0) [] [] p1) "__init__" env (eval (.Call (.Name "super" p0) [] [] p1) env)
      standAt p2.atName
      let (f, first) ← holding [ov] (getMethod ov "__init__" (pl env))
      callWith p3 f first (backTo p3 (starEach [.Name a q1] env)) []))
    (n1 : PySem.W.takerIn K C a = some none) (hda : (a == ("__debug__" : Str)) = false) (hca : (a == ("__classdict__" : Str)) = false) :
    FnOk P w K mg base CX 1 f fd ["self", a] (spXi C 2 (ZX C [a])) := by
  subst hb
  have v0 : Vis scope "self" := .inl (S.par _ (by simp))
  have v1 : Vis scope a := .inl (S.par _ (by simp))
  refine fn_xi XF T U S F hp har rfl (fun cda cc A outer s H E => ?_) (hm := hm)
  refine ⟨_, _, pa_cons (pe_var (i := 1) rfl v1 hda hca) pa_nil, pss_one (ps_asg (pe_var (i := 1) rfl v1 hda hca) (pg_xs XF T n1 (pe_var (i := 0) rfl v0 rfl rfl))), ?_⟩
  intro vs H0 Q x hl ev ex hz
  obtain ⟨a', ws, rfl, hz⟩ := hz
  obtain rfl : x = a' := by cases ev; rfl
  match ws, hl with
  | [y1], _ =>
    refine ⟨y1, rfl, Nat.le_of_ble_eq_true rfl, ex, y1, rfl, .ref x, rfl, x, rfl, .inl ⟨ex, fun dx hd ne => ?_⟩⟩
    show Q _ _
    refine hz _ dx (fun b' o hb ho => ?_) hd ne upd_same (by rw [upd_ne ne, upd_same]; rfl)
    have nd : b' ≠ dx := fun z => by
      rw [z, hd] at ho
      cases ho
    rw [upd_ne hb, upd_ne nd]
    exact ho
end
end AH
namespace AH
open PySem PySem.Spec PyProof.Rows L2
/-! ### C(e, ..) of such a class -/
def tMkX (C : Addr) (fsN : List Str) (ta : TA) : L2.St → Hp → L2.XK → Prop := fun σ H Q => ta σ H fun vs H1 => (vs.length = fsN.length ∧ vs.length ≤ 1000) ∧ ∀ H' d, (∀ b o, H1 b = some o → H' b = some o) → H1 d = none → H' d = some (.xd (fsN.zip vs)) → Q (.ref C) (some d) H'
section
variable {X : Cx} {B newId initId : String} {bmB : List Value} {C fI : Addr} {fd : FuncData} {ps fsN : List Str} {e : Expr} {es : List Expr} {ta : TA} {c : Str} {p pos : Pos}
theorem pmk_x (XF : XB B newId initId bmB) (T : XK1 X.K C bmB newId) (iC : PySem.W.findIn X.K (.ref C) "__init__" = some (some (.ref fI))) (tI : PySem.W.typeIn X.K (.ref fI) = some (.type "function"))
    (F1 : FnOk X.prog X.w X.K X.mg X.base CX0 1 fI fd ps (spXi C (fsN.length + 1) (ZX C fsN))) (hr : Room 2 X.A) (hb : Binds X.K fd ps []) (hg : Gl X c) (hm : X.mg c = some (.ref C)) (ha : PA X (e :: es) ta)
    (hdb : (c == ("__debug__" : Str)) = false := by decide) (he : starEach (e :: es) X.env = (false, eval e X.env) :: starEach es X.env := by rfl) (hpl : (backTo pos (starEach es X.env)).any (·.1) = false := by rfl) :
    PMk X (.Call (.Name c p) (e :: es) [] pos) (tMkX C fsN ta) := by
  intro pins s σ H Q I h
  refine wpAny_Call_Name_kw (ld_glob I hg hm ?_ hdb)
  refine PySem.W.callWith_K (h₀ := X.base) I.ok.mod.kin T.kC (thn (ha.run pos pins s σ H _ I h) fun us s1 ⟨vs, H1, I1, r1, ⟨hz1, hz⟩, q1⟩ => ⟨I1.kIn, ?_⟩) he hpl
  show wpAny _ _ (call (.ref C) us) _ _ _
  obtain ⟨nm, N', qn, bs, bm, hdct, sn, sub, ab, col, dd, k0, k1, k2, k3, k5, hC, hT⟩ := PySem.W.excInit_of I1.kIn T.q
  obtain ⟨hp, g, dr, tk, os⟩ := s1
  have hsz : hp.objs.size ≤ hp.objs.size + 1 := Nat.le_succ _
  have hn : H1 (hp.objs.size + 1) = none := I1.hok.fresh hsz
  have kk : ∀ b o, hp.get? b = some o → ((hp.push (PySem.W.kdv_tup us)).push (PySem.HandSPX.excO C hp.objs.size)).get? b = some o := fun b o e => Heap.get?_push_of_some _ (Heap.get?_push_of_some _ e)
  have hget : ((hp.push (PySem.W.kdv_tup us)).push (PySem.HandSPX.excO C hp.objs.size)).get? (hp.objs.size + 1) = some (PySem.HandSPX.excO C hp.objs.size) := by heap_get
  have I2 : Inv X pins σ (upd H1 (hp.objs.size + 1) (exo (hp.objs.size + 1) C none)) ⟨(hp.push (PySem.W.kdv_tup us)).push (PySem.HandSPX.excO C hp.objs.size), g, dr, tk, os⟩ :=
    I1.laid (t' := tk) (a := hp.objs.size + 1) (o := exo (hp.objs.size + 1) C none) (h' := (hp.push (PySem.W.kdv_tup us)).push (PySem.HandSPX.excO C hp.objs.size)) kk hsz (exo_ok hget)
  have r2 : Vals (V.ref (hp.objs.size + 1) :: (vs ++ [])) (Value.ref (hp.objs.size + 1) :: us ++ []) := .cons rfl (r1.append .nil)
  have hq : spXi C (fsN.length + 1) (ZX C fsN) (V.ref (hp.objs.size + 1) :: (vs ++ [])) (upd H1 (hp.objs.size + 1) (exo (hp.objs.size + 1) C none))
      (fun v H2 => v = .non ∧ ∃ (d : Addr) (fs : List (Str × V)), H2 (hp.objs.size + 1) = some (exo (hp.objs.size + 1) C (some d)) ∧ H2 d = some (exd d fs) ∧ H1 d = none ∧ Q (.ref C) (some d) (upd (del H2 (hp.objs.size + 1)) d (.xd fs))) (fun _ _ _ => False) := by
    rw [List.append_nil]
    refine ⟨by rw [List.length_cons, hz1], _, _, rfl, upd_same, _, _, rfl, fun H' dx k hd ne ea ed => ⟨rfl, dx, _, ea, ed, by rw [upd_ne ne] at hd; exact hd, ?_⟩⟩
    have hd1 : H1 dx = none := by rw [upd_ne ne] at hd; exact hd
    refine q1 _ dx (fun b o ho => ?_) hd1 upd_same
    have b1 : b ≠ hp.objs.size + 1 := ne_of_none ho hn
    rw [upd_ne (ne_of_none ho hd1), del_ne b1]
    exact k b o b1 (by rw [upd_ne b1]; exact ho)
  have hl : (Value.ref (hp.objs.size + 1) :: us ++ []).length = ps.length := by
    have e := r2.length
    rw [F1.len _ _ _ _ hq] at e
    exact e.symm
  have hus : us.length ≤ sizeLine := by
    rw [← Paired.length r1, sizeLine_eq]
    omega
  refine wpAny_call (PySem.HandSPX.call_own XF.eb hT hC (PySem.W.looks_findIn I1.kIn iC) (fun self => PySem.W.bind_fn I1.kIn self tI) hus
    (codeAny_mono (F1.run _ X.stack _ _ ⟨Value.ref (hp.objs.size + 1) :: us, []⟩ (Value.ref (hp.objs.size + 1) :: us ++ []) _ _ (fun _ _ _ => False) (hr.make C us []) (I2.env0.make C us []) (hb _ (Value.ref (hp.objs.size + 1) :: us) I2.kIn hl) r2 hq) fun r s' hq' => ?_))
  cases r with
  | error er => exact pass0 pins σ _ _ er s' I2 hq'
  | ok fl =>
    cases fl with
    | ret u =>
      obtain ⟨v, H2, os2, bare2, un2, hok2, rv, ev, d, fs, ea, ed, hd1, q2⟩ := hq'
      subst ev
      obtain ⟨h2, g2, d2, t2, os'⟩ := s'
      exact ⟨rv, mk_end (raises_own T.exC T.tyC) I1 hsz kk un2 hok2 os2 bare2 ea ed hd1 q2⟩
    | next => exact False.elim hq'
    | brk => exact False.elim hq'
    | cont => exact False.elim hq'
end
section
variable [TheK]
/-- what is known of an own exception class with fields -/
structure XcA (P : Program) (w : World) (K : PySem.W.Frag) (mg : Str → Option Value) (base : Heap) (c : Str) : Prop where
  ex : ∃ (B newId initId : String) (bmB : List Value) (fI : Addr) (fd : FuncData) (ps : List Str), XB B newId initId bmB ∧ XK1 K (He.ga K c) bmB newId ∧ PySem.W.findIn K (.ref (He.ga K c)) "__init__" = some (some (.ref fI)) ∧ PySem.W.typeIn K (.ref fI) = some (.type "function") ∧
    FnOk P w K mg base CX0 1 fI fd ps (spXi (He.ga K c) ((fieldsOf c).length + 1) (ZX (He.ga K c) (fieldsOf c))) ∧ Binds K fd ps []
  mg : mg c = some (.ref (He.ga K c))
def sRaiseA (c : Str) (n : Nat) (r : DL) : DS := r.bind fun xs e => if xs.length = n then .ex c xs e else .bad
theorem sd_raiseA {fl : Fl} {X : Cx} {Wx : WX} {c : Str} {e : Expr} {es : List Expr} {r : DL} {n j : Nat} {p p1 pos : Pos} (hc : X.calm = true) (tk : Takes X Wx) (hr : Room j X.A) (hx : c ∈ TheK.xs) (G : XcA X.prog X.w X.K X.mg X.base c) (hn : (fieldsOf c).length = n) (hg : Gl X c) (ha : AD X Wx (e :: es) r) (hn9 : n ≤ 9 := by decide) (hj : 2 ≤ j := by decide) (hdb : (c == ("__debug__" : Str)) = false := by decide)
    (he : starEach (e :: es) X.env = (false, eval e X.env) :: starEach es X.env := by rfl) (hpl : (backTo p1 (starEach es X.env)).any (·.1) = false := by rfl) :
    SD fl X Wx (.Raise (some (.Call (.Name c p) (e :: es) [] p1)) none pos) (sRaiseA c n r) := by
  obtain ⟨B, newId, initId, bmB, fI, fd, ps, XF, T, iC, tI, F1, hb⟩ := G.ex
  obtain ⟨ta, pa, qa⟩ := ha
  refine ⟨_, ps_raise hc tk (pmk_x XF T iC tI F1 (hr.mono hj) hb hg G.mg pa hdb he hpl), fun F O env σ H D S w => ?_⟩
  refine qa F O env σ H _ S (w.bind.imp (fun ds e1 w1 vs H1 S1 k1 p1 => ?_) XWs.xw)
  unfold Want at w1
  simp only at w1
  by_cases hl : ds.length = n
  · rw [if_pos hl] at w1
    have hv : vs.length = n := p1.len.trans hl
    refine ⟨⟨hv.trans hn.symm, by omega⟩, fun H' d k hd hxd => ?_⟩
    have ke : Ke (Jo O) H1 H' := ke_all k
    refine w1 O σ (.ref (He.ga X.K c)) (some d) H' (S1.ext k) ((KeS.of k1).trans (.of ke)) ⟨⟨rfl, hx⟩, S1.noW hd, vs, hxd, hv.trans hn.symm, p1.mono (ke_all k)⟩
  · rw [if_neg hl] at w1
    exact w1.elim
end
end AH
namespace AH
open PySem PySem.Spec PyProof.Rows L2
theorem boot_LookupError : bootBuiltins "LookupError" = some (.type "LookupError") := by decide +kernel
/-! ### the head's look at own exception classes with fields -/
structure XiD where
  c : Str
  qual : Str
  params : Arguments
  body : List Stmt
  scope : Scope
abbrev XiV : Type := Option (Str × Str × Arguments × FuncBody × Scope × Addr × List Str × Addr)
def xiA (K : PySem.W.Frag) (c : Str) : Addr := He.ma K (He.ga K c) "__init__"
def xiW (K : PySem.W.Frag) (d : XiD) : XiV := match K.lookup (xiA K d.c) with
  | some ⟨_, _, .func fd, _⟩ => some (fd.name, fd.qualname, fd.params, fd.body, fd.scope, fd.globals, fd.closure.map (·.1), fd.builtins)
  | _ => none
def XiD.val (d : XiD) : XiV := some ("__init__", d.qual, d.params, .stmts d.body, d.scope, mainGlobals, ["__class__"], builtinsNs)
def hookY (n : Nat) (ck : PySem.W.Frag → Bool) (fx : List XiD) (fa : List He.Fa) (fn : List He.DefD) : PySem.W.Hook where
  α := Bool × He.AlD × List XiV
  obs := fun s => (ck (He.frG s.heap.get? (cStatics :: He.asD s.heap.get? n)), He.obsD fa fn (He.frG s.heap.get? (cStatics :: He.asD s.heap.get? n)), fx.map (xiW (He.frG s.heap.get? (cStatics :: He.asD s.heap.get? n))))
  val := fun _ => (true, He.valD fn, fx.map XiD.val)
  says := fun _ h => ∃ K : PySem.W.Frag, K.In h ∧ He.SaysD fa fn K ∧ ck K = true ∧ fx.map (xiW K) = fx.map XiD.val
  of := fun _ _ e => ⟨_, He.frG_in, congrArg (fun z : Bool × He.AlD × List XiV => z.2.1) e, congrArg (fun z : Bool × He.AlD × List XiV => z.1) e, congrArg (fun z : Bool × He.AlD × List XiV => z.2.2) e⟩
  keeps := fun _ _ _ ⟨K, hK, c⟩ k => ⟨K, PySem.W.Frag.In.keeps hK k, c⟩
def obsY (n : Nat) (ck : PySem.W.Frag → Bool) (fx : List XiD) (fa : List He.Fa) (fn : List He.DefD) (g : Addr → Option Obj) : Bool × He.AlD × List XiV :=
  (ck (He.frG g (cStatics :: He.asD g n)), He.obsD fa fn (He.frG g (cStatics :: He.asD g n)), fx.map (xiW (He.frG g (cStatics :: He.asD g n))))
theorem obsY_eq {n : Nat} {ck : PySem.W.Frag → Bool} {fx : List XiD} {fa : List He.Fa} {fn : List He.DefD} {g : Addr → Option Obj} {s : Shared} (h : ∀ a, g a = s.heap.get? a) : obsY n ck fx fa fn g = (hookY n ck fx fa fn).obs s := by
  have e : g = s.heap.get? := funext h
  rw [e] <;> rfl
def xiFile (K : PySem.W.Frag) (file : Str) (C : Addr) (fd : FuncData) : Bool := match fd.closure, fd.code, fd.defaults with
  | [(_, cc)], .ref cda, .none => (match K.lookup cda with
      | some ⟨_, _, .fields vs, _⟩ => (match (vs[2]? : Option Value) with
          | some (.str f _) => file == f
          | _ => false)
      | _ => false) && (match K.lookup cc with
      | some ⟨_, _, .cell (some (.ref C')), _⟩ => decide (C' = C)
      | _ => false)
  | _, _, _ => false
def xiB (K : PySem.W.Frag) (file : Str) (B newId initId : String) (bmB : List Value) (d : XiD) : Bool :=
  (match K.lookup (xiA K d.c) with
  | some ⟨_, _, .func fd, _⟩ => PySem.W.codeIn K fd.code d.qual && xiFile K file (He.ga K d.c) fd
  | _ => false) &&
  ((PySem.W.excInitIn K (He.ga K d.c) bmB newId && (PySem.W.excOver K (He.ga K d.c) bmB && (PySem.W.hasDictIn K (He.ga K d.c) && (He.eqO (PySem.W.findIn K (.ref (He.ga K d.c)) "__setattr__") (some (some (.builtin "object.__setattr__"))) &&
  (decide (PySem.W.subIn K (.ref (He.ga K d.c)) (.type "BaseException") = some true) && (decide (PySem.W.typeIn K (.ref (He.ga K d.c)) = some (.type "type")) && PySem.W.keepIn K (.ref (He.ga K d.c)))))))) &&
  ((He.eqO (PySem.W.nsIn K cStatics "thirdparty.any") (some none) && (He.eqO (PySem.W.ks_superIn K (He.ga K d.c) (He.ga K d.c) "__init__") (some (some (.builtin initId))) && (decide (PySem.W.subIn K (.ref (He.ga K d.c)) (.type B) = some true) &&
  (decide (PySem.W.mroIn K (He.ga K d.c) (.ref (He.ga K d.c)) = some true) && (PySem.W.clsIn K (He.ga K d.c)).isSome)))) &&
  (((fieldsOf d.c).all fun f => He.eqO (PySem.W.takerIn K (He.ga K d.c) f) (some none)) && (He.eqO (PySem.W.findIn K (.ref (He.ga K d.c)) "__init__") (some (some (.ref (xiA K d.c)))) && decide (PySem.W.typeIn K (.ref (xiA K d.c)) = some (.type "function"))))))
structure XiO (P : Program) (K : PySem.W.Frag) (mg : Str → Option Value) (B newId initId : String) (bmB : List Value) (d : XiD) : Prop where
  x : ∃ fd, XIn P K mg (He.ga K d.c) d.qual d.params d.body d.scope (xiA K d.c) fd
  t : XK1 K (He.ga K d.c) bmB newId
  u : XSu K (He.ga K d.c) B initId
  f : ∀ f ∈ fieldsOf d.c, PySem.W.takerIn K (He.ga K d.c) f = some none
  i : PySem.W.findIn K (.ref (He.ga K d.c)) "__init__" = some (some (.ref (xiA K d.c)))
  k : PySem.W.typeIn K (.ref (xiA K d.c)) = some (.type "function")
theorem xiB_ok {P : Program} {K : PySem.W.Frag} {mg : Str → Option Value} {B newId initId : String} {bmB : List Value} {d : XiD} (h : xiB K P.main.file B newId initId bmB d = true) (e : xiW K d = d.val) (top : (P.main.scope.names.lookup ("super" : Str)).isSome = false) (fr : mg "super" = none) : XiO P K mg B newId initId bmB d := by
  unfold xiB at h
  obtain ⟨h1, h⟩ := He.ba h
  obtain ⟨h2, h⟩ := He.ba h
  obtain ⟨h3, h⟩ := He.ba h
  obtain ⟨h4, h⟩ := He.ba h
  obtain ⟨h5, h6⟩ := He.ba h
  obtain ⟨a1, h2⟩ := He.ba h2
  obtain ⟨a2, h2⟩ := He.ba h2
  obtain ⟨a3, h2⟩ := He.ba h2
  obtain ⟨a4, h2⟩ := He.ba h2
  obtain ⟨a5, h2⟩ := He.ba h2
  obtain ⟨a6, a7⟩ := He.ba h2
  obtain ⟨b1, h3⟩ := He.ba h3
  obtain ⟨b2, h3⟩ := He.ba h3
  obtain ⟨b3, h3⟩ := He.ba h3
  obtain ⟨b4, b5⟩ := He.ba h3
  refine ⟨?_, ⟨a1, a2, a3, He.eqO_ok a4, of_decide_eq_true a5, of_decide_eq_true a6, a7⟩, ⟨He.eqO_ok b1, He.eqO_ok b2, of_decide_eq_true b3, of_decide_eq_true b4, Option.isSome_iff_exists.mp b5⟩, fun f hf => He.eqO_ok (List.all_eq_true.mp h4 f hf), He.eqO_ok h5, of_decide_eq_true h6⟩
  unfold xiW at e
  cases q : K.lookup (xiA K d.c) with
  | none => rw [q] at h1; cases h1
  | some o =>
    obtain ⟨oc, od, dt, osl⟩ := o
    rw [q] at h1 e
    cases dt with
    | func fd =>
      obtain ⟨n1, n2, n3, n4, n5, n6, n7, n8, n9, n10, n11, n12, n13, n14, n15⟩ := fd
      have e2 : (some (n1, n2, n3, n4, n5, n6, n7.map (·.1), n15) : XiV) = (some ("__init__", d.qual, d.params, .stmts d.body, d.scope, mainGlobals, ["__class__"], builtinsNs) : XiV) := e
      simp only [Option.some.injEq, Prod.mk.injEq] at e2
      obtain ⟨z1, z2, z3, z4, z5, z6, z7, z8⟩ := e2
      subst z1 z2 z3 z4 z5 z6 z8
      obtain ⟨c1, c2⟩ := He.ba (show (PySem.W.codeIn K n13 d.qual && _) = true from h1)
      unfold xiFile at c2
      simp only at c2
      split at c2
      · rename_i nm cc cda
        obtain rfl : nm = "__class__" := by simpa using z7
        obtain ⟨c3, c4⟩ := He.ba c2
        split at c3
        · rename_i ccl cdd vs ccs lcd
          split at c3
          · rename_i file tf hvs
            split at c4
            · rename_i cl cld C' csl lcc
              obtain rfl := of_decide_eq_true c4
              exact ⟨_, ⟨oc, od, .none, n9, n10, n11, n12, cda, cc, n14, osl, ccl, cdd, vs, ccs, file, tf, cl, cld, csl, rfl, rfl, q, c1, lcd, hvs, c3, lcc⟩, top, fr⟩
            · cases c4
          · cases c3
        · cases c3
      · cases c2
    | _ => cases h1
theorem XIn.binds {P : Program} {K : PySem.W.Frag} {mg : Str → Option Value} {C : Addr} {qual : Str} {params : Arguments} {body : List Stmt} {scope : Scope} {f : Addr} {fd : FuncData} {ps : List Str} (F : XIn P K mg C qual params body scope f fd)
    (h : ∀ (kV doc pm : Value) (an : Option Addr) (cdv ct : Value) (cc : Addr) (us : List Value), us.length = ps.length → bindArgs (PySem.W.ksFn "__init__" qual params body scope .none kV doc pm an cdv ct cc) ⟨us, []⟩ = pure (ps.zip us)) : Binds K fd ps [] := by
  obtain ⟨oc, od, dV, kV, doc, pm, an, cda, cc, ct, osl, ccl, cdd, vs2, ccs, file, tf, cl, cld, csl, rfl, rfl, _⟩ := F.ex
  exact Binds.all fun us hl => h _ _ _ _ _ _ _ us hl
end AH
namespace AH
open PySem PySem.Spec PyProof.Rows L2
variable [TheK]
/-! ### sum of a list or a tuple -/
def dSumA : D → Rv D
  | .lst xs => (match intsL xs with
    | some ns => .ok (.int ns.sum)
    | none => .bad)
  | .tup xs => (match intsL xs with
    | some ns => .ok (.int ns.sum)
    | none => .bad)
  | _ => .bad
def rSumA (K : PySem.W.Frag) : List V → Hp → VK → Prop := fun vs H Q => ∃ (a : Addr) (ns : List Int), vs = [V.ref a] ∧ (SqL K H a (ns.map V.int) ∨ SqT K H a (ns.map V.int)) ∧ Q (.int ns.sum) H
section
variable {X : Cx} {Wx : WX} {a : Expr} {ma : DE} {p pos : Pos}
theorem cr_sumA (hc : X.calm = true) : CallR X (.builtin "sum") (rSumA X.K) := by
  intro pins s σ H vs us Q I r h
  obtain ⟨a, ns, rfl, hs | hs, q⟩ := h
  · exact cr_sum hc pins s σ H _ us Q I r ⟨a, ns, rfl, hs, q⟩
  · obtain ⟨its, rv, ht, _⟩ := I.tuple hs
    rw [Vals.ref1 r]
    have hi := rv.ints
    obtain ⟨xs, e⟩ := hi.allInts.items
    have hn : numsOf (intItems xs).toList = ns := by rw [← e]; exact hi.numsOf
    rw [nums_intItems] at hn
    rw [e] at ht
    refine PySem.W.ktm_sumG (I.ok.hd hc) ht fun h' tk t' hk => ?_
    rw [preSum_eq, List.take_of_length_le (by simp), hn]
    exact ⟨.int _, H, I.kept hk, ⟨_, rfl⟩, q⟩
theorem cb_sumA : Cb1 .s X.K (rSumA X.K) dSumA := by
  intro F O env σ H x dx dz Q S rx ef q
  unfold dSumA at ef
  split at ef
  · obtain ⟨a, vs, rfl, s, l⟩ := rx.lst'
    split at ef
    · rename_i ns h
      cases ef
      exact ⟨a, ns, rfl, .inl (by rw [← l.ints h]; exact s), q _ H S Ke.refl (.int _)⟩
    · cases ef
  · obtain ⟨a, vs, rfl, s, l⟩ := rx.tup'
    split at ef
    · rename_i ns h
      cases ef
      exact ⟨a, ns, rfl, .inr (by rw [← l.ints h]; exact s), q _ H S Ke.refl (.int _)⟩
    · cases ef
  · cases ef
theorem pd_sumA (hc : X.calm = true) (hb : Bn X "sum" (.builtin "sum")) (ha : PD .w X Wx a ma) (hs : starEach [a] X.env = (false, eval a X.env) :: starEach [] X.env := by rfl) : PD .s X Wx (.Call (.Name "sum" p) [a] [] pos) (e1 dSumA ma) := pd_b1 (cr_sumA hc) cb_sumA hb ha hs
end
end AH
namespace AH
open PySem PySem.Spec PyProof.Rows L2
variable [TheK]
/-! ### ranges that are not walked -/
section
variable {X : Cx} {Wx : WX} {a b c : Expr} {ma mb mc : DE} {p pos p2 : Pos}
/-- the bounds of a range -/
def dInR (neg : Bool) (x lo hi : D) : Rv Bool := match x, lo, hi with
  | .int i, .int l, .int h => .ok (neg != decide (l ≤ i ∧ i < h))
  | _, _, _ => .bad
def tInR1 (neg : Bool) (a b : DE) : DT := a.bind fun x => b.bind fun y => M.of (dInR neg x (.int 0) y)
def tInR2 (neg : Bool) (a b c : DE) : DT := a.bind fun x => b.bind fun y => c.bind fun z => M.of (dInR neg x y z)
theorem cr_range1 : CallR X (.type "range") (fun vs H Q => ∃ j, vs = [V.int j] ∧ ∀ p, H p = none → Q (.ref p) (upd H p (.rng 0 j))) := by
  intro pins s σ H vs us Q I r h
  obtain ⟨j, rfl, q⟩ := h
  cases r with
  | @cons _ u _ us r1 r2 =>
    cases r2
    obtain ⟨t, rfl⟩ := r1
    refine call_range_1 ⟨.ref s.heap.objs.size, upd H s.heap.objs.size (.rng 0 j), I.laid (fun b o e => Heap.get?_push_of_some _ e) (Nat.le_refl _) ?_, rfl, q _ (I.hok.fresh (Nat.le_refl _))⟩
    exact ⟨_, _, _, Heap.get?_push_size _ rfl⟩
theorem op_notin_rng : OpR X (compareOp .NotIn) (fun x y H Q => ∃ i a lo hi, x = V.int i ∧ y = V.ref a ∧ H a = some (.rng lo hi) ∧ Q (.bl (!decide (lo ≤ i ∧ i < hi))) H) := by
  intro pins s σ H x y v u Q I rx ry h
  obtain ⟨i, a, lo, hi, rfl, rfl, ha, q⟩ := h
  obtain ⟨k, rfl⟩ := rx
  obtain rfl : u = Value.ref a := ry
  obtain ⟨t1, t2, t3, ho⟩ := I.hok a _ ha
  show wpAny _ _ (do return Value.bool (!(← contains (Value.ref a) (Value.int i k)))) _ _ s
  refine wpAny_bind (wpAny_contains_slot (T := "range") ⟨_, ho, rfl⟩ F.slot_range_contains (call_meets F.slot_range_contains ⟨_, ho, rfl⟩ F.entry_range_contains (F.args_range_contains_2 _ _) (q_contains a lo hi i t1 t2 t3 k)
    ⟨ho, wpAny_truthy_bool (wpAny_pure ⟨.bl _, H, I, rfl, ?_⟩)⟩))
  rw [place1]
  exact q
def rInR (neg : Bool) : R2 := fun x y H Q => ∃ i a lo hi, x = V.int i ∧ y = V.ref a ∧ H a = some (.rng lo hi) ∧ Q (.bl (neg != decide (lo ≤ i ∧ i < hi))) H
theorem op_inR : OpR X (compareOp .In) (rInR false) := by
  intro pins s σ H x y v u Q I rx ry h
  obtain ⟨i, a, lo, hi, e1, e2, ha, q⟩ := h
  exact op_in_rng pins s σ H x y v u Q I rx ry ⟨i, a, lo, hi, e1, e2, ha, by simpa using q⟩
theorem op_notinR : OpR X (compareOp .NotIn) (rInR true) := by
  intro pins s σ H x y v u Q I rx ry h
  obtain ⟨i, a, lo, hi, e1, e2, ha, q⟩ := h
  exact op_notin_rng pins s σ H x y v u Q I rx ry ⟨i, a, lo, hi, e1, e2, ha, by simpa using q⟩
theorem td_inR1 {op : CmpOp} {neg : Bool} (ho : OpR X (compareOp op) (rInR neg)) (hb' : Bn X "range" (.type "range")) (ha : PD .s X Wx a ma) (hb : PD .s X Wx b mb) (hm : behindInMarks op (.Call (.Name "range" p) [b] [] p2) = false := by rfl) (hs : starEach [b] X.env = (false, eval b X.env) :: starEach [] X.env := by rfl) :
    TD X Wx (.Compare a [op] [.Call (.Name "range" p) [b] [] p2] pos) (tInR1 neg ma mb) := by
  obtain ⟨ta, pa, qa⟩ := ha
  obtain ⟨tb, pb, qb⟩ := hb
  refine ⟨_, pt_cmpR ho pa (pe_callTy cr_range1 hb'.gl hb'.mg hb'.bt (pa_cons pb pa_nil hs) hb'.nn hb'.nd hs rfl) hm, fun F O env σ H Q S w => ?_⟩
  refine qa F O env σ H _ S (w.bind.imp (fun dx e1 w1 x H1 S1 k1 p1 => ?_) fun _ _ _ z => z)
  refine qb F O e1 σ H1 _ S1 (w1.bind.imp (fun dy e2 w2 y H2 S2 k2 p2 => ?_) (XW.later k1))
  obtain ⟨dz, ef, q⟩ := w2.of
  cases p1 with
  | int i => cases p2 with
    | int h =>
      cases ef
      exact ⟨h, rfl, fun r hr => ⟨i, r, 0, h, rfl, rfl, upd_same, _, rfl, q _ (S2.new' hr) ((k1.trans k2).trans (ke_all (new_ext hr)))⟩⟩
    | _ => cases ef
  | _ => cases ef
theorem td_inR2 {op : CmpOp} {neg : Bool} (ho : OpR X (compareOp op) (rInR neg)) (hb' : Bn X "range" (.type "range")) (ha : PD .s X Wx a ma) (hb : PD .s X Wx b mb) (hc : PD .s X Wx c mc) (hm : behindInMarks op (.Call (.Name "range" p) [b, c] [] p2) = false := by rfl)
    (hs : starEach [b, c] X.env = (false, eval b X.env) :: starEach [c] X.env := by rfl) (hs2 : starEach [c] X.env = (false, eval c X.env) :: starEach [] X.env := by rfl) (hpl : (backTo p2 (starEach [c] X.env)).any (·.1) = false := by rfl) :
    TD X Wx (.Compare a [op] [.Call (.Name "range" p) [b, c] [] p2] pos) (tInR2 neg ma mb mc) := by
  obtain ⟨ta, pa, qa⟩ := ha
  obtain ⟨tb, pb, qb⟩ := hb
  obtain ⟨tc, pc, qc⟩ := hc
  refine ⟨_, pt_cmpR ho pa (pe_callTy cr_range2 hb'.gl hb'.mg hb'.bt (pa_cons pb (pa_cons pc pa_nil hs2) hs) hb'.nn hb'.nd hs hpl) hm, fun F O env σ H Q S w => ?_⟩
  refine qa F O env σ H _ S (w.bind.imp (fun dx e1 w1 x H1 S1 k1 p1 => ?_) fun _ _ _ z => z)
  refine qb F O e1 σ H1 _ S1 (w1.bind.imp (fun dy e2 w2 y H2 S2 k2 p2 => ?_) (XW.later k1))
  refine qc F O e2 σ H2 _ S2 (w2.bind.imp (fun dz e3 w3 z H3 S3 k3 p3 => ?_) (XW.later (k1.trans k2)))
  obtain ⟨du, ef, q⟩ := w3.of
  unfold dInR at ef
  split at ef
  · rename_i i l h
    cases ef
    cases p1
    cases p2
    cases p3
    exact ⟨l, h, rfl, fun r hr => ⟨i, r, l, h, rfl, rfl, upd_same, _, rfl, q _ (S3.new' hr) (((k1.trans k2).trans k3).trans (ke_all (new_ext hr)))⟩⟩
  · cases ef
/-! ### list(range(..)) -/
def lRng1 (a : DE) : DE := a.bind fun x => match x with
  | .int n => if rngOk 0 n && decide (n ≤ 100000) then M.pure (.lst (rng 0 n)) else fun _ => .bad
  | _ => fun _ => .bad
def lRng2 (a b : DE) : DE := a.bind fun x => b.bind fun y => match x, y with
  | .int l, .int h => if rngOk l h && decide (h - l ≤ 100000) then M.pure (.lst (rng l h)) else fun _ => .bad
  | _, _ => fun _ => .bad
theorem repL_rng {W : Pr} {H : Hp} {l h : Int} : RepL W H (rgV l h) (rng l h) := by
  unfold rgV rng
  generalize List.range (h - l).toNat = L
  induction L with
  | nil => exact .nil
  | cons x L ih => exact .cons (.int _) ih
theorem new_rng {K : PySem.W.Frag} {F : Fm} {O : Nat → Option Addr} {env : Env} {σ : L2.St} {H : Hp} {l h : Int} {Q : VK} (S : SR K F O env σ H) (q : ∀ z H', SR K F O env σ H' → Ke (Jo O) H H' → Po .f K F O env σ H H' z (.lst (rng l h)) → Q z H') {r : Addr} (hr : H r = none) : Q (.ref r) (upd H r (.lst (rgV l h))) := new_lst S repL_rng q hr
theorem pd_listR1 (hc : X.calm = true) (hl : Bn X "list" (.type "list")) (hb' : Bn X "range" (.type "range")) (hb : PD .s X Wx b mb) (hs : starEach [b] X.env = (false, eval b X.env) :: starEach [] X.env := by rfl)
    (hs2 : starEach [.Call (.Name "range" p) [b] [] p2] X.env = (false, eval (.Call (.Name "range" p) [b] [] p2) X.env) :: starEach [] X.env := by rfl) {p3 : Pos} : PD .f X Wx (.Call (.Name "list" p3) [.Call (.Name "range" p) [b] [] p2] [] pos) (lRng1 mb) := by
  obtain ⟨tb, pb, qb⟩ := hb
  refine ⟨_, pe_listRg hc hl.gl hl.mg (prg_1 hb'.gl hb'.mg pb hs) hs2, fun F O env σ H Q S w => ?_⟩
  refine qb F O env σ H _ S (w.bind.imp (fun dy e2 w2 y H2 S2 k2 p2 => ?_) fun _ _ _ z => z)
  cases p2 with
  | int n =>
    have w2 : Want (if (rngOk 0 n && decide (n ≤ 100000)) = true then (M.pure (D.lst (rng 0 n)) : DE) else fun _ => .bad) e2 _ _ := w2
    cases c : rngOk 0 n && decide (n ≤ 100000) with
    | false => rw [c] at w2; exact w2.elim
    | true =>
      rw [c] at w2
      obtain ⟨c1, c2⟩ := He.ba c
      have c2 := of_decide_eq_true c2
      unfold rngOk at c1
      simp only [Bool.and_eq_true, decide_eq_true_eq] at c1
      refine ⟨n, rfl, ⟨by omega, by omega, by omega, by omega, by omega⟩, fun r hr => ?_⟩
      exact new_rng S2 (fun z H' S' k' p' => w2 z H' S' (k2.trans k') (p'.back k2)) hr
  | _ => exact w2.elim
theorem pd_listR2 (hc' : X.calm = true) (hl : Bn X "list" (.type "list")) (hb' : Bn X "range" (.type "range")) (hb : PD .s X Wx b mb) (hc : PD .s X Wx c mc) (hs : starEach [b, c] X.env = (false, eval b X.env) :: starEach [c] X.env := by rfl) (hs3 : starEach [c] X.env = (false, eval c X.env) :: starEach [] X.env := by rfl) (hpl : (backTo p2 (starEach [c] X.env)).any (·.1) = false := by rfl)
    (hs2 : starEach [.Call (.Name "range" p) [b, c] [] p2] X.env = (false, eval (.Call (.Name "range" p) [b, c] [] p2) X.env) :: starEach [] X.env := by rfl) {p3 : Pos} : PD .f X Wx (.Call (.Name "list" p3) [.Call (.Name "range" p) [b, c] [] p2] [] pos) (lRng2 mb mc) := by
  obtain ⟨tb, pb, qb⟩ := hb
  obtain ⟨tc, pc, qc⟩ := hc
  refine ⟨_, pe_listRg hc' hl.gl hl.mg (prg_2 hb'.gl hb'.mg pb pc hs hs3 hpl) hs2, fun F O env σ H Q S w => ?_⟩
  refine qb F O env σ H _ S (w.bind.imp (fun dx e1 w1 x H1 S1 k1 p1 => ?_) fun _ _ _ z => z)
  refine qc F O e1 σ H1 _ S1 (w1.bind.imp (fun dy e2 w2 y H2 S2 k2 p2 => ?_) (XW.later k1))
  cases p1 with
  | int l => cases p2 with
    | int n =>
      have w2 : Want (if (rngOk l n && decide (n - l ≤ 100000)) = true then (M.pure (D.lst (rng l n)) : DE) else fun _ => .bad) e2 _ _ := w2
      cases c : rngOk l n && decide (n - l ≤ 100000) with
      | false => rw [c] at w2; exact w2.elim
      | true =>
        rw [c] at w2
        obtain ⟨c1, c2⟩ := He.ba c
        have c2 := of_decide_eq_true c2
        unfold rngOk at c1
        simp only [Bool.and_eq_true, decide_eq_true_eq] at c1
        refine ⟨l, n, rfl, rfl, ⟨by omega, by omega, by omega, by omega, by omega⟩, fun r hr => ?_⟩
        exact new_rng S2 (fun z H' S' k' p' => w2 z H' S' ((k1.trans k2).trans k') (p'.back (k1.trans k2))) hr
    | _ => exact w2.elim
  | _ => exact w2.elim
end
end AH
namespace AH
open PySem PySem.Spec PyProof.Rows L2
/-! ### dict(xs) of pairs whose keys are tuples -/
def mergeT (kvs more : List (List Key × V)) : List (List Key × V) := more.foldl (fun acc kv => putK acc kv.1 kv.2) kvs
theorem length_mergeT : ∀ (more kvs : List (List Key × V)), (mergeT kvs more).length ≤ kvs.length + more.length
  | [], kvs => by simp [mergeT]
  | kv :: more, kvs => by
    have h1 := length_mergeT more (putK kvs kv.1 kv.2)
    have h2 := length_putK kvs kv.1 kv.2
    show (mergeT (putK kvs kv.1 kv.2) more).length ≤ _
    rw [List.length_cons]
    omega
theorem KT.merge {H : Hp} : ∀ {more : List (List Key × V)} {rs : List (List Key × Addr × Value)} {kvs : List (List Key × V)} {xs : List (List Key × Addr × Value)}, KT H more rs → KT H kvs xs → KT H (mergeT kvs more) (storedAllH xs rs)
  | _, _, _, _, .nil, r => r
  | _, _, _, _, .cons (a := p) (b := q) h t, r => by
    obtain ⟨e1, e2, e3⟩ := h
    show KT H (mergeT (putK _ p.1 p.2) _) (storedAllH (storedH _ q.1 q.2.1 q.2.2) _)
    rw [← e1]
    exact KT.merge t (r.put p.1 e2 e3)
section
variable {X : Cx}
theorem pairsT_of {pins : List (Addr × Obj)} {σ : L2.St} {H : Hp} {s : Shared} (I : Inv X pins σ H s) : ∀ {ps : List Addr} {kvs : List (List Key × V)}, Paired (fun p kv => ∃ b, SqT X.K H p [.ref b, kv.2] ∧ H b = some (.tup (kv.1.map kV))) ps kvs →
    ∃ xs : List (List Key × Addr × Value), KT H kvs xs ∧ xs.length = ps.length ∧ ∀ (j : Nat) (q : List Key × Addr × Value), xs[j]? = some q → ∃ p : Addr, ps[j]? = some p ∧ IsTup s.heap p #[.ref q.2.1, q.2.2]
  | _, _, .nil => ⟨[], .nil, rfl, fun j q e => by simp at e⟩
  | _, _, .cons (a := p) (b := kv) h t => by
    obtain ⟨xs, r, hl, hp⟩ := pairsT_of I t
    obtain ⟨b, h, hb⟩ := h
    obtain ⟨its, rv, ht, _⟩ := I.tuple h
    obtain ⟨u, y, ei, ru, ry⟩ := vals2 rv
    subst ei
    cases (show u = Value.ref b from ru)
    refine ⟨(kv.1, b, y) :: xs, .cons ⟨rfl, hb, ry⟩ r, by rw [List.length_cons, List.length_cons, hl], fun j q e => ?_⟩
    cases j with
    | zero =>
      have e' : (kv.1, b, y) = q := Option.some.inj e
      subst e'
      exact ⟨p, rfl, ht⟩
    | succ j =>
      obtain ⟨p', e1, e2⟩ := hp j q (by simpa using e)
      exact ⟨p', by simpa using e1, e2⟩
def rDictT (K : PySem.W.Frag) : List V → Hp → VK → Prop := fun xs H Q => ∃ (a : Addr) (ps : List Addr) (kvs : List (List Key × V)), xs = [.ref a] ∧ SqL K H a (ps.map V.ref) ∧ Paired (fun p kv => ∃ b, SqT K H p [.ref b, kv.2] ∧ H b = some (.tup (kv.1.map kV))) ps kvs ∧
    ∀ p, H p = none → Q (.ref p) (upd H p (.dT (mergeT [] kvs)))
theorem call_dictT (hcalm : X.calm = true) (hu : X.A.units + 65 < cLine) : CallR X (.type "dict") (rDictT X.K) := by
  intro pins s σ H xs us Q I r q
  obtain ⟨a, ps, kvs, ex, hq, hp, q⟩ := q
  subst ex
  obtain ⟨u, eu, rx⟩ := vals1 r
  subst eu
  cases rx
  obtain ⟨its, rv, pl, hz⟩ := I.list hq
  have ei := refs_at rv
  subst ei
  rw [List.length_map] at hz
  obtain ⟨xs, rel, hl, hpr⟩ := pairsT_of I hp
  obtain ⟨o, n, ho, hc, hd, hdat⟩ := pl
  have key : ∀ (l : List (List Key × V)) (m : List (List Key × Addr × Value)), KT H l m → ∀ h', (∀ b ob, s.heap.get? b = some ob → h'.get? b = some ob) → ∀ x ∈ m, (tupleKind (mixKind X.prog X.w)).is h' x.1 x.2.1 := by
    intro l m q h' hk
    induction q with
    | nil => intro x hx; cases hx
    | @cons p q ps qs hq t ih =>
      intro x hx
      rcases List.mem_cons.mp hx with e | hx
      · subst e
        have := key_of (I.hok.kept hk) (show H x.2.1 = some (.tup (x.1.map kV)) by rw [← hq.1]; exact hq.2.1)
        exact this
      · exact ih x hx
  refine call_dict_pairsH (knd := tupleKind (mixKind X.prog X.w)) (ps := xs) (PairArg.list a (ps.map Value.ref).toArray (fun j => ps.getD j 0) (xs.map fun q => (Value.ref q.2.1, q.2.2))) (I.ok.hd hcalm) (show X.A.in1.in1.units < cLine by show X.A.units + 1 + 1 < cLine; omega) ⟨⟨o, n, ho, hc, hd, hdat⟩, by simp [hl], fun j k v e => ?_⟩ ⟨by simp, fun i k v e => ?_⟩ (fun h' hk x hx => key kvs xs rel h' (fun b ob e => hk b ob (Nat.ne_of_lt (Heap.lt_size e)) (by simp) e) x hx) (by simp [hl]; exact hz) fun h' tk hd' k => ?_
  · rw [List.getElem?_map] at e
    cases q1 : xs[j]? with
    | none => rw [q1] at e; cases e
    | some q =>
      rw [q1] at e
      cases e
      obtain ⟨p, e1, o', h1, h2, n', h3⟩ := hpr j q q1
      have eT : ps.getD j 0 = p := by rw [List.getD_eq_getElem?_getD, e1]; rfl
      refine ⟨by simp [e1, List.getD_eq_getElem?_getD], ?_⟩
      show PairAt s.heap (ps.getD j 0) _ _
      rw [eT]
      exact .inl ⟨o', h1, h2, n', h3⟩
  · have e : (xs.map fun q => (Value.ref q.2.1, q.2.2))[i]? = some (k, v) := e
    rw [List.getElem?_map] at e
    cases q1 : xs[i]? with
    | none => rw [q1] at e; cases e
    | some q =>
      rw [q1] at e
      cases e
      exact ⟨q.1, q.2.1, rfl, rfl⟩
  · have hm : (s.heap.objs.size == sysModules) = false := beq_eq_false_iff_ne.mpr (Nat.ne_of_gt I.big)
    have hlen : (mergeT [] kvs).length ≤ sizeLine := by
      refine Nat.le_trans (length_mergeT kvs []) ?_
      rw [List.length_nil, Nat.zero_add, Paired.length rel, hl]
      exact hz
    obtain ⟨od, es, ep, g1, g2, g3, g4, _, g5⟩ := hd'
    refine ⟨.ref s.heap.objs.size, upd H s.heap.objs.size (.dT (mergeT [] kvs)), I.laid (t' := tk) (fun b ob e => k b ob (by simp) e) (Nat.le_refl _) (show ObjOk X.prog X.w _ _ _ (.dT (mergeT [] kvs)) from ⟨hlen, hm, storedAllH [] xs, (KT.merge rel .nil).keeps fun c ys ec => ?_, od, es, ep, g1, g2, g3, g4, g5⟩), rfl, q _ (I.hok.fresh (Nat.le_refl _))⟩
    rw [upd_ne (ne_of_none ec (I.hok.fresh (Nat.le_refl _)))]
    exact ec
end
section
variable [TheK] {X : Cx} {Wx : WX} {a : Expr} {ma : DE} {p pos : Pos}
def pairsD : List D → Option (List (List Key × D))
  | [] => some []
  | x :: r => (match x with
    | .tup [k, v] => (match keyD k, pairsD r with
      | some k, some r => some ((k, v) :: r)
      | _, _ => none)
    | _ => none)
def dmerge (kvs more : List (List Key × D)) : List (List Key × D) := more.foldl (fun acc kv => dput acc kv.1 kv.2) kvs
def dDictP : D → Rv D
  | .lst xs => (match pairsD xs with
    | some kvs => .ok (.dic (dmerge [] kvs))
    | none => .bad)
  | _ => .bad
theorem pairsD_rep {K : PySem.W.Frag} {W : Pr} {H : Hp} : ∀ {vs : List V} {xs : List D} {kvs : List (List Key × D)}, RepL W H vs xs → pairsD xs = some kvs →
    ∃ (ps : List Addr) (ks : List (List Key × V)), vs = ps.map V.ref ∧ Paired (fun p kv => ∃ b, SqT K H p [.ref b, kv.2] ∧ H b = some (.tup (kv.1.map kV))) ps ks ∧ RepK W H ks kvs
  | _, _, _, .nil, e => by cases e; exact ⟨[], [], rfl, .nil, .nil⟩
  | _, _, kvs, .cons (v := v) (d := d) r l, e => by
    unfold pairsD at e
    split at e
    · rename_i k y
      split at e
      · rename_i k' r' h1 h2
        cases e
        obtain ⟨ps, ks, rfl, q1, q2⟩ := pairsD_rep (K := K) l h2
        cases r with
        | tup n hh ll =>
          cases ll with | cons r1 ll => cases ll with | cons r2 ll =>
            cases ll
            obtain ⟨b, rfl, hb⟩ := keyD_rep r1 h1
            exact ⟨_ :: ps, (k', _) :: ks, rfl, .cons ⟨b, .inl (.inl hh), hb⟩ q1, .cons r2 q2⟩
      · cases e
    · cases e
theorem RepK.merge {W : Pr} {H : Hp} : ∀ {ms : List (List Key × V)} {md : List (List Key × D)} {ks : List (List Key × V)} {kvs : List (List Key × D)}, RepK W H ms md → RepK W H ks kvs → RepK W H (mergeT ks ms) (dmerge kvs md)
  | _, _, _, _, .nil, l => l
  | _, _, _, _, .cons (k := k) (v := v) (d := d) r m, l => by
    have h := RepK.merge m (l.put k r)
    exact h
theorem cb_dictP : Cb1 .fd X.K (rDictT X.K) dDictP := by
  intro F O env σ H x dx dz Q S rx ef q
  unfold dDictP at ef
  split at ef
  · obtain ⟨a, vs, rfl, s, l⟩ := rx.lst'
    split at ef
    · rename_i kvs h
      cases ef
      obtain ⟨ps, ks, rfl, q1, q2⟩ := pairsD_rep (K := X.K) l h
      exact ⟨a, ps, ks, rfl, s, q1, fun p hp => new_dic S (RepK.merge q2 .nil) q hp⟩
    · cases ef
  · cases ef
theorem pd_dictP (hc : X.calm = true) (hu : X.A.units + 65 < cLine) (hb : Bn X "dict" (.type "dict")) (ha : PD .w X Wx a ma) (hs : starEach [a] X.env = (false, eval a X.env) :: starEach [] X.env := by rfl) : PD .fd X Wx (.Call (.Name "dict" p) [a] [] pos) (e1 dDictP ma) := pd_t1 (call_dictT hc hu) cb_dictP hb ha hs
/-! ### {} -/
theorem pd_dnew {pos : Pos} : PD .fd X Wx (.Dict [] [] pos) (eC (.dic [])) := ⟨_, pe_dnewT, fun F O env σ H Q S w p hp => new_dic S .nil w hp⟩
/-! ### d.get(k, e), d a name -/
def dGet2 (x k z : D) : Rv D := match x with
  | .dic kvs => (match keyD k with
    | some k => .ok ((dget kvs k).getD z)
    | none => .bad)
  | _ => .bad
def eGetL (i : Nat) (mk mz : DE) : DE := (eTmp i).bind fun x => match x with
  | .dic _ => mk.bind fun k => mz.bind fun z => (eTmp i).bind fun x => M.of (dGet2 x k z)
  | _ => fun _ => .bad
theorem pd_getL {i : Nat} {x : Str} {k z : Expr} {mk mz : DE} {p1 apos cpos : Pos} (hu : X.A.units + 65 < cLine) (hN : X.N[i]? = some x) (hv : Vis X.env.scope x) (hk : PD .s X Wx k mk) (hz : PD .s X Wx z mz) (m : M2 X (.Name x p1) "get" apos k z cpos)
    (hd : (x == ("__debug__" : Str)) = false := by decide) (hcd : (x == ("__classdict__" : Str)) = false := by decide) : PD .s X Wx (.Call (.Attribute (.Name x p1) "get" apos) [k, z] [] cpos) (eGetL i mk mz) := by
  obtain ⟨tk, pk, qk⟩ := hk
  obtain ⟨tz, pz, qz⟩ := hz
  refine ⟨_, pe_dget2 (by omega) (pe_var hN hv hd hcd) pk pz m, fun F O env σ H Q S w => ?_⟩
  obtain ⟨v, d, e, r, w⟩ := w.bind.tmp S
  refine ⟨v, get1_some e, ?_⟩
  cases d with
  | dic kvs =>
    obtain ⟨a, ks, rfl, ha, l⟩ := r.dic'
    refine ⟨a, rfl, .inr ⟨ks, ha⟩, ?_⟩
    refine qk F O env σ H _ S (w.bind.imp (fun dk e2 w2 y H2 S2 k2 p2 => ?_) fun _ _ _ z => z)
    refine qz F O e2 σ H2 _ S2 (w2.bind.imp (fun dz e3 w3 u H3 S3 k3 p3 => ?_) (XW.later k2))
    obtain ⟨v', dx, ex, rx, w4⟩ := w3.bind.tmp S3
    obtain rfl : v' = .ref a := Option.some.inj (ex.symm.trans e)
    obtain ⟨du, ef, q⟩ := w4.of
    unfold dGet2 at ef
    split at ef
    · rename_i kvs'
      split at ef
      · rename_i k' hk'
        cases ef
        obtain ⟨a', ks', ea, ha', l'⟩ := rx.dic'
        cases ea
        obtain ⟨b, rfl, hb⟩ := keyD_rep (Rep.mj k3 p2) hk'
        refine ⟨_, dget_of l' ha' hb, ?_⟩
        rcases l'.val k' with ⟨h1, h2⟩ | ⟨v2, d2, h1, h2, r2⟩
        · rw [h2] at q; rw [h1]; exact q _ H3 S3 (k2.trans k3) p3
        · rw [h2] at q; rw [h1]; exact q _ H3 S3 (k2.trans k3) r2
      · cases ef
    · cases ef
  | _ => exact w.elim
end
end AH
namespace AH
open PySem PySem.Spec PyProof.Rows L2
/-! ### sorted(xs) of plain data that can be compared -/
def ins {α : Type} (le : α → α → Bool) (a : α) : List α → List α
  | [] => [a]
  | b :: l => if le a b then a :: b :: l else b :: ins le a l
def isort {α : Type} (le : α → α → Bool) : List α → List α
  | [] => []
  | a :: l => ins le a (isort le l)
theorem ins_mid {α : Type} {le : α → α → Bool} {a : α} : ∀ {l1 l2 : List α}, (∀ b ∈ l1, le a b = false) → (∀ b ∈ l2, le a b = true) → ins le a (l1 ++ l2) = l1 ++ a :: l2
  | [], [], _, _ => rfl
  | [], b :: l2, _, h2 => by
    show (if le a b = true then a :: b :: l2 else _) = _
    rw [if_pos (h2 b List.mem_cons_self)]; rfl
  | b :: l1, l2, h1, h2 => by
    show (if le a b = true then _ else b :: ins le a (l1 ++ l2)) = _
    rw [h1 b List.mem_cons_self, if_neg (by simp), ins_mid (fun c hc => h1 c (List.mem_cons_of_mem _ hc)) h2]
    rfl
theorem merge_isort {α : Type} {le : α → α → Bool} (tr : ∀ a b c, le a b = true → le b c = true → le a c = true) (to : ∀ a b, (le a b || le b a) = true) : ∀ l : List α, l.mergeSort le = isort le l
  | [] => by simp [isort]
  | a :: l => by
    obtain ⟨l1, l2, e1, e2, h⟩ := List.mergeSort_cons (le := le) tr to a l
    have ih := merge_isort tr to l
    have pw := List.pairwise_mergeSort (le := le) tr to (a :: l)
    rw [e1] at pw
    show _ = ins le a (isort le l)
    rw [e1, ← ih, e2, ins_mid]
    · intro b hb
      simpa using h b hb
    · intro b hb
      have := (List.pairwise_append.mp pw).2.1
      exact (List.pairwise_cons.mp this).1 b hb
theorem isort_map {α β : Type} {f : α → β} {le : β → β → Bool} : ∀ l : List α, (isort (fun a b => le (f a) (f b)) l).map f = isort le (l.map f)
  | [] => rfl
  | a :: l => by
    have key : ∀ (x : α) (m : List α), (ins (fun a b => le (f a) (f b)) x m).map f = ins le (f x) (m.map f) := by
      intro x m
      induction m with
      | nil => rfl
      | cons y m ih =>
        show (if le (f x) (f y) = true then x :: y :: m else y :: ins _ x m).map f = if le (f x) (f y) = true then f x :: f y :: m.map f else f y :: ins le (f x) (m.map f)
        split
        · rfl
        · rw [List.map_cons, ih]
    show (ins _ a (isort _ l)).map f = ins le (f a) (isort le (l.map f))
    rw [key, isort_map l]
theorem isort_mem {α : Type} {le : α → α → Bool} {x : α} : ∀ {l : List α}, x ∈ isort le l → x ∈ l := by
  have ki : ∀ (a : α) (l : List α), x ∈ ins le a l → x = a ∨ x ∈ l := by
    intro a l
    induction l with
    | nil => intro h; exact .inl (List.mem_singleton.mp h)
    | cons b l ih =>
      intro h
      unfold ins at h
      split at h
      · rcases List.mem_cons.mp h with h | h
        · exact .inl h
        · exact .inr h
      · rcases List.mem_cons.mp h with h | h
        · exact .inr (by rw [h]; exact List.mem_cons_self)
        · rcases ih h with h | h
          · exact .inl h
          · exact .inr (List.mem_cons_of_mem _ h)
  intro l
  induction l with
  | nil => intro h; exact h
  | cons a l ih =>
    intro h
    rcases ki a _ h with h | h
    · rw [h]; exact List.mem_cons_self
    · exact List.mem_cons_of_mem _ (ih h)
/-- x <= y, for data that can be compared -/
def leD (x y : D) : Bool := PySem.W.dataLe false D.toP x y
section
variable {X : Cx}
def rSortD (K : PySem.W.Frag) : List V → Hp → VK → Prop := fun vs H Q => ∃ (a : Addr) (bs : List (V × D)), vs = [V.ref a] ∧ SqL K H a (bs.map (·.1)) ∧ (∀ b ∈ bs, Dp K H b.1 b.2.toP) ∧ PySem.W.AllAlike (bs.map fun b => b.2.toP) ∧ PySem.W.Sortable (bs.map fun b => b.2.toP) ∧ (∀ b ∈ bs, b.2.toP.depth ≤ 60) ∧
  ∀ p, H p = none → Q (.ref p) (upd H p (.lst ((isort (fun x y : V × D => leD x.2 y.2) bs).map (·.1))))
theorem cr_sortD (hu : X.A.units + 65 < cLine) : CallR X (.builtin "sorted") (rSortD X.K) := by
  intro pins s σ H vs us Q I r h
  obtain ⟨a, bs, rfl, hs, hdp, hal, hso, hde, q⟩ := h
  obtain ⟨its, rv, hl, hz⟩ := I.list hs
  rw [Vals.ref1 r]
  rw [List.length_map] at hz
  have each : ∀ {bs : List (V × D)} {its : List Value}, (∀ b ∈ bs, Dp X.K H b.1 b.2.toP) → Vals (bs.map (·.1)) its → PySem.W.EachIs (fun v (b : V × D) => RelV b.1 v) its bs ∧ PySem.W.EachIs (fun v (b : V × D) => ∃ as, Reads s.heap v b.2.toP as) its bs := by
    intro bs
    induction bs with
    | nil => intro its _ rv; cases rv; exact ⟨.nil, .nil⟩
    | cons b bs ih =>
      intro its h rv
      cases rv with
      | cons r1 r2 =>
        obtain ⟨e1, e2⟩ := ih (fun c hc => h c (List.mem_cons_of_mem _ hc)) r2
        exact ⟨.cons r1 e1, .cons (Dp.reads I _ _ _ (h b List.mem_cons_self) r1) e2⟩
  obtain ⟨e1, e2⟩ := each hdp rv
  refine PySem.W.sorted_data (enc := fun b : V × D => b.2.toP) hl.isList e1 e2 hal hso hz (fun b hb => by have := hde b hb; omega) fun out ho eo => ?_
  have tl := PySem.W.sortLe_total (PyProof.Rows.listOrd PyProof.Rows.itemOrd) false fun b : V × D => PySem.W.keyToks b.2.toP
  have em : bs.mergeSort (PySem.W.dataLe false fun b : V × D => b.2.toP) = isort (fun x y : V × D => leD x.2 y.2) bs := merge_isort tl.trans (fun a b => by
    rcases tl.total a b with h | h
    · rw [h]; rfl
    · rw [h, Bool.or_true]) bs
  rw [em] at eo
  obtain ⟨c, hc⟩ := sortedAll_at s.heap its out.toArray
  have vo : ∀ {L : List (V × D)} {out : List Value}, PySem.W.EachIs (fun v (b : V × D) => RelV b.1 v) out L → Vals (L.map (·.1)) out := by
    intro L
    induction L with
    | nil => intro out e; cases e; exact .nil
    | cons b L ih => intro out e; cases e with | cons h t => exact .cons h (ih t)
  have hsz : s.heap.objs.size ≤ s.heap.objs.size + 1 := Nat.le_succ _
  refine ⟨.ref (s.heap.objs.size + 1), upd H (s.heap.objs.size + 1) (.lst ((isort (fun x y : V × D => leD x.2 y.2) bs).map (·.1))), I.laid (t' := s.toks) (fun b o e => sortedAll_old e) hsz (show ObjOk X.prog X.w _ _ _ (.lst _) from ⟨?_, out, c, vo eo, hc⟩), rfl, q _ (I.hok.fresh hsz)⟩
  rw [List.length_map, ← eo.length, ho]
  exact hz
end
section
variable [TheK] {X : Cx} {Wx : WX} {a : Expr} {ma : DE} {p pos : Pos}
def tup1 : D → Bool
  | .tup (_ :: _) => true
  | _ => false
def noTup : D → Bool
  | .tup _ => false
  | .non => false
  | _ => true
def sortOk (xs : List D) : Bool := (xs.all fun x => x.plain 40 && decide (x.toP.depth ≤ 60)) && ((xs.all fun x => xs.all fun y => PySem.W.alike x.toP y.toP) && (xs.all tup1 || xs.all noTup))
def dSortA : D → Rv D
  | .lst xs => if sortOk xs then .ok (.lst (isort leD xs)) else .bad
  | _ => .bad
theorem RepL.zip {W : Pr} {H : Hp} : ∀ {vs : List V} {xs : List D}, RepL W H vs xs → ∃ bs : List (V × D), bs.map (·.1) = vs ∧ bs.map (·.2) = xs ∧ ∀ b ∈ bs, Rep W H b.1 b.2
  | _, _, .nil => ⟨[], rfl, rfl, by simp⟩
  | _, _, .cons (v := v) (d := d) r l => by
    obtain ⟨bs, h1, h2, h3⟩ := RepL.zip l
    refine ⟨(v, d) :: bs, by rw [List.map_cons, h1], by rw [List.map_cons, h2], fun b hb => ?_⟩
    rcases List.mem_cons.mp hb with rfl | hb
    · exact r
    · exact h3 b hb
theorem RepL.unzip {W : Pr} {H : Hp} : ∀ {bs : List (V × D)}, (∀ b ∈ bs, Rep W H b.1 b.2) → RepL W H (bs.map (·.1)) (bs.map (·.2))
  | [], _ => .nil
  | b :: bs, h => .cons (h b List.mem_cons_self) (RepL.unzip fun c hc => h c (List.mem_cons_of_mem _ hc))
theorem sortOk_of {xs : List D} (h : sortOk xs = true) : (∀ x ∈ xs, x.plain 40 = true ∧ x.toP.depth ≤ 60) ∧ PySem.W.AllAlike (xs.map D.toP) ∧ PySem.W.Sortable (xs.map D.toP) := by
  obtain ⟨h1, h⟩ := He.ba h
  obtain ⟨h2, h3⟩ := He.ba h
  refine ⟨fun x hx => ?_, ?_, ?_⟩
  · obtain ⟨a, b⟩ := He.ba (List.all_eq_true.mp h1 x hx)
    exact ⟨a, of_decide_eq_true b⟩
  · intro d hd d' hd'
    obtain ⟨x, hx, rfl⟩ := List.mem_map.mp hd
    obtain ⟨y, hy, rfl⟩ := List.mem_map.mp hd'
    exact List.all_eq_true.mp (List.all_eq_true.mp h2 x hx) y hy
  · rcases Bool.or_eq_true_iff.mp h3 with h3 | h3
    · refine .inl fun d hd => ?_
      obtain ⟨x, hx, rfl⟩ := List.mem_map.mp hd
      have := List.all_eq_true.mp h3 x hx
      cases x with
      | tup xs => cases xs with
        | nil => cases this
        | cons y ys => exact ⟨y.toP, D.toPs ys, rfl⟩
      | _ => cases this
    · refine .inr fun d hd => ?_
      obtain ⟨x, hx, rfl⟩ := List.mem_map.mp hd
      have h4 := List.all_eq_true.mp h3 x hx
      have h5 := (He.ba (List.all_eq_true.mp h1 x hx)).1
      cases x with
      | tup xs => cases h4
      | non => cases h4
      | int i => exact ⟨fun z => (by cases z), fun ys z => (by cases z)⟩
      | bl i => exact ⟨fun z => (by cases z), fun ys z => (by cases z)⟩
      | str i => exact ⟨fun z => (by cases z), fun ys z => (by cases z)⟩
      | lst i => exact ⟨fun z => (by cases z), fun ys z => (by cases z)⟩
      | _ => cases h5
theorem cb_sortA : Cb1 .f X.K (rSortD X.K) dSortA := by
  intro F O env σ H x dx dz Q S rx ef q
  unfold dSortA at ef
  split at ef
  · rename_i xs
    obtain ⟨a, vs, rfl, s, l⟩ := rx.lst'
    obtain ⟨h, rfl⟩ := if_ok ef
    obtain ⟨h1, h2, h3⟩ := sortOk_of h
    obtain ⟨bs, rfl, rfl, hb⟩ := RepL.zip l
    rw [List.map_map] at h2 h3
    refine ⟨a, bs, rfl, s, fun b hb' => (hb b hb').dp (h1 b.2 (List.mem_map.mpr ⟨b, hb', rfl⟩)).1, h2, h3, fun b hb' => (h1 b.2 (List.mem_map.mpr ⟨b, hb', rfl⟩)).2, fun p hp => ?_⟩
    have e := isort_map (f := fun b : V × D => b.2) (le := leD) bs
    rw [← e] at q
    exact new_lst S (RepL.unzip fun b hb' => hb b (isort_mem hb')) q hp
  · cases ef
theorem pd_sortA (hu : X.A.units + 65 < cLine) (hb : Bn X "sorted" (.builtin "sorted")) (ha : PD .w X Wx a ma) (hs : starEach [a] X.env = (false, eval a X.env) :: starEach [] X.env := by rfl) : PD .f X Wx (.Call (.Name "sorted" p) [a] [] pos) (e1 dSortA ma) := pd_b1 (cr_sortD hu) cb_sortA hb ha hs
end
end AH
namespace AH
open PySem PySem.Spec PyProof.Rows L2
section
variable [TheK] {fl : Fl} {X : Cx} {Wx : WX} {e a b c d tg : Expr} {ma mb mc md : DE} {pos p : Pos} {st : Stmt} {rest : List Stmt} {m n : DS}
/-! ### an own dict handed back, let go -/
def sRetOd (i : Nat) : DS := fun e => match sl e i with
  | .odc kvs => .ok (.rt (.dic kvs)) e
  | _ => .bad
theorem sd_retOd {i : Nat} {x : Str} (hN : X.N[i]? = some x) (hv : Vis X.env.scope x) (hd : (x == ("__debug__" : Str)) = false := by decide) (hcd : (x == ("__classdict__" : Str)) = false := by decide) : SD .fd X Wx (.Return (some (.Name x p)) pos) (sRetOd i) := by
  refine ⟨_, ps_ret (pe_var hN hv hd hcd), fun F O env σ H D S w => ?_⟩
  unfold Want sRetOd at w
  cases q : sl env i with
  | odc kvs =>
    rw [q] at w
    have s := S.slot i
    rw [q] at s
    obtain ⟨a, vs, h1, h0, h2, h3, r⟩ := s
    have sub : ∀ b, F.P b ∨ b = a → Ow F O b ∨ H b = none := fun b z => .inl (z.elim .inl fun e => .inr ⟨i, by rw [e]; exact h1⟩)
    refine ⟨.ref a, get1_some h2, w O σ H S .refl _ ⟨a, vs, kvs, rfl, rfl, h0.1, h3, r.sub sub, fun j ys hj => ?_⟩⟩
    have s := S.slot j
    rw [hj] at s
    obtain ⟨b, us, g1, g2, g3, g4, g5⟩ := s
    exact ⟨b, us, g2, g4, g5.sub sub⟩
  | _ => rw [q] at w; exact w.elim
theorem SR.relD {K : PySem.W.Frag} {F : Fm} {O : Nat → Option Addr} {env : Env} {σ : L2.St} {H : Hp} {i : Nat} {kvs : List (List Key × D)} (S : SR K F O env σ H) (h : sl env i = .odc kvs) : SR K F (setO O i none) (put env i (.val (.dic kvs))) σ H := by
  have s := S.slot i
  rw [h] at s
  obtain ⟨a, ks, h1, h0, h2, h3, r⟩ := s
  have gw : ∀ b, Ow F (setO O i none) b → Ow F O b ∨ H b = none := fun b z => .inl (ow_setN z)
  have gj : ∀ b, Jo (setO O i none) b ∨ F.N b → (Jo O b ∨ F.N b) ∨ H b = none := fun b z => .inl (z.elim (fun z => .inl (jo_setN z)) .inr)
  have hl : i < env.length := by
    cases Nat.lt_or_ge i env.length with
    | inl h' => exact h'
    | inr h' => rw [sl_out _ _ h'] at h; cases h
  have na : ¬ Ow F (setO O i none) a := fun z => by
    rcases z with z | ⟨j, z⟩
    · exact h0.2 z
    · by_cases hj : j = i
      · rw [hj, setO_same] at z; cases z
      · rw [setO_ne hj] at z; exact hj (S.inj j i a z h1)
  refine ⟨fun j => ?_, fun j k b hj hk => ?_, fun b z => S.prot b (ow_setN z), S.keep, S.al, by rw [put_len]; exact S.len, S.nal, S.pt⟩
  · by_cases hj : j = i
    · subst hj
      rw [sl_put_same _ _ _ hl]
      exact ⟨setO_same, _, h2, .dic na h3 (r.sub gw)⟩
    · rw [sl_put_ne _ _ _ _ hj]
      exact SlR.own (F := F) (F' := F) rfl rfl (setO_ne hj) (fun _ z => z) gw gj (S.slot j)
  · have e1 : ∀ l, setO O i none l = some b → O l = some b := fun l z => by
      by_cases hl : l = i
      · rw [hl, setO_same] at z; cases z
      · rwa [setO_ne hl] at z
    exact S.inj j k b (e1 j hj) (e1 k hk)
theorem ss_relD {i : Nat} {sts : List Stmt} (h : SsD fl X Wx sts n) : SsD fl X Wx sts (sSeq (sRelD i) n) := by
  obtain ⟨t, p, q⟩ := h
  refine ⟨t, p, fun F O env σ H D S w => ?_⟩
  have w := w.bind
  unfold Want sRelD at w
  cases hs : sl env i with
  | odc xs =>
    rw [hs] at w
    have k : KeS O H (setO O i none) H := ⟨Ke.refl, fun a z => .inl (jo_setN z)⟩
    exact q F _ _ σ H D (S.relD hs) (Want.imp (m := n) w (Post.later k) (XWs.later k))
  | _ => rw [hs] at w; exact w.elim
/-! ### xs + e, xs an own list -/
def eAddO (i : Nat) (mb : DE) : DE := (ownL i).bind fun _ => mb.bind fun y => (ownL i).bind fun xs => M.of (dAddL (.lst xs) y)
theorem pd_addO {i : Nat} {x : Str} {p1 : Pos} (hN : X.N[i]? = some x) (hv : Vis X.env.scope x) (hb : PD .s X Wx b mb) (hd : (x == ("__debug__" : Str)) = false := by decide) (hcd : (x == ("__classdict__" : Str)) = false := by decide) : PD .f X Wx (.BinOp (.Name x p1) .Add b pos) (eAddO i mb) := by
  obtain ⟨tb, pb, qb⟩ := hb
  refine ⟨_, pe_op op_cat (pe_var hN hv hd hcd) pb, fun F O env σ H Q S w => ?_⟩
  obtain ⟨xs, a, vs, h1, _, h2, h3, h4, w, _⟩ := Want.ownL S w.bind
  refine ⟨.ref a, get1_some h2, ?_⟩
  refine qb F O env σ H _ S (w.bind.imp (fun dy e2 w2 y H2 S2 k2 p2 => ?_) fun _ _ _ z => z)
  obtain ⟨xs', a', vs', g1, _, g2, g3, g4, w3, _⟩ := Want.ownL S2 w2.bind
  obtain ⟨dz, ef, q⟩ := w3.of
  rw [h1] at g1
  cases g1
  unfold dAddL at ef
  cases p2 with
  | lst n2 hh2 l2 =>
    obtain ⟨h, rfl⟩ := if_ok ef
    refine ⟨_, _, _, _, rfl, rfl, g3, hh2, by rw [g4.len, l2.len]; exact lenOk_of h, fun p hp => ?_⟩
    exact new_lst S2 (g4.app l2) (fun z H' S' k3 p3 => q z H' S' (k2.trans k3) (p3.back k2)) hp
  | _ => cases ef
/-! ### *e in a display -/
def aStar (a : DE) (r : DL) : DL := a.bind fun x => match x with
  | .lst xs => r.bind fun ys => M.pure (xs ++ ys)
  | .tup xs => r.bind fun ys => M.pure (xs ++ ys)
  | _ => fun _ => .bad
theorem ad_star {es : List Expr} {ml : DL} (ha : PD .w X Wx a ma) (hr : AD X Wx es ml) (hs : starEach (.Starred a p :: es) X.env = (true, eval a X.env) :: starEach es X.env := by rfl) : AD X Wx (.Starred a p :: es) (aStar ma ml) := by
  obtain ⟨ta, pa, qa⟩ := ha
  obtain ⟨tb, pb, qb⟩ := hr
  refine ⟨_, StX.pa_star pa pb hs, fun F O env σ H Q S w => ?_⟩
  refine qa F O env σ H _ S (w.bind.imp (fun dx e1 w1 x H1 S1 k1 p1 => ?_) fun _ _ _ z => z)
  cases dx with
  | lst xs =>
    obtain ⟨aa, vs, rfl, sq, l⟩ := RepW.lst' p1
    exact ⟨aa, vs, rfl, .inr sq, qb F O e1 σ H1 _ S1 ((Want.bind w1).imp (fun ds e2 w2 us H2 S2 k2 p2 => w2 _ H2 S2 (k1.trans k2) ((l.mj k2).app p2)) (XW.later k1))⟩
  | tup xs =>
    obtain ⟨aa, vs, rfl, sq, l⟩ := RepW.tup' p1
    exact ⟨aa, vs, rfl, .inl sq, qb F O e1 σ H1 _ S1 ((Want.bind w1).imp (fun ds e2 w2 us H2 S2 k2 p2 => w2 _ H2 S2 (k1.trans k2) ((l.mj k2).app p2)) (XW.later k1))⟩
  | _ => exact w1.elim
end
/-! ### sorted(d): its key tuples -/
section
variable {X : Cx}
theorem dt_raw {pins : List (Addr × Obj)} {σ : L2.St} {H : Hp} {s : Shared} {d : Addr} {ks : List (List Key × V)} (I : Inv X pins σ H s) (h : Rd H d (.dT ks)) : (d == sysModules) = false ∧ ks.length ≤ sizeLine ∧ ∃ (es : Array DictEntry) (ep : Nat) (xs : List (List Key × Addr × Value)), s.heap.DictRaw d es ep ∧ KT H ks xs ∧ es.size = ks.length ∧
    ∀ (i : Nat) (q : List Key × Addr × Value), xs[i]? = some q → ∃ en, es[i]? = some en ∧ en.key = .ref q.2.1 ∧ en.val = q.2.2 := by
  obtain ⟨z, hs, xs, pr, o, es, ep, ho, hx, hdt, he, hn⟩ := (show ObjOk X.prog X.w H s.heap d (.dT ks) from h.ok I.hok)
  have l1 : es.size = xs.length := size_of_entries he
  have l2 : ks.length = xs.length := Paired.length pr
  refine ⟨hs, z, es, ep, xs, ⟨o, ho, hx, hdt⟩, pr, by omega, fun i q e => ?_⟩
  have w := entry_at he i
  rw [e] at w
  exact ⟨_, w, rfl, rfl⟩
/-- a key as data -/
def kD : Key → D
  | .inl i => .int i
  | .inr s => .str s
def keyT (k : List Key) : D := .tup (k.map kD)
theorem kD_rep {W : Pr} [TheK] {H : Hp} : ∀ k : List Key, RepL W H (k.map kV) (k.map kD)
  | [] => .nil
  | .inl i :: k => .cons (.int i) (kD_rep k)
  | .inr i :: k => .cons (.str i) (kD_rep k)
theorem keyT_dp {K : PySem.W.Frag} {H : Hp} {a : Addr} {k : List Key} (h : H a = some (.tup (k.map kV))) : Dp K H (.ref a) (keyT k).toP := by
  have go : ∀ k : List Key, DpAll K H (k.map kV) (D.toPs (k.map kD)) := by
    intro k
    induction k with
    | nil => exact .nil
    | cons x k ih => cases x with
      | inl i => exact .cons (.int i) ih
      | inr i => exact .cons (.str i) ih
  exact .tup (.inl (.inl h)) (go k)
def KyB (H : Hp) (b : V × D) : Prop := ∃ (a : Addr) (k : List Key), b = (.ref a, keyT k) ∧ H a = some (.tup (k.map kV))
def rSortK : List V → Hp → VK → Prop := fun vs H Q => ∃ (d : Addr) (ks : List (List Key × V)), vs = [V.ref d] ∧ Rd H d (.dT ks) ∧ PySem.W.AllAlike (ks.map fun k => (keyT k.1).toP) ∧ PySem.W.Sortable (ks.map fun k => (keyT k.1).toP) ∧ (∀ k ∈ ks, (keyT k.1).toP.depth ≤ 60) ∧
  ∀ p (bs : List (V × D)), H p = none → (bs.map (·.2)) = ks.map (fun k => keyT k.1) → (∀ b ∈ bs, KyB H b) → Q (.ref p) (upd H p (.lst ((isort (fun x y : V × D => leD x.2 y.2) bs).map (·.1))))
theorem kt_bs {H : Hp} : ∀ {ks : List (List Key × V)} {xs : List (List Key × Addr × Value)}, KT H ks xs → ∃ bs : List (V × D), bs.map (·.2) = ks.map (fun k => keyT k.1) ∧ (∀ b ∈ bs, KyB H b) ∧ bs.map (·.1) = xs.map (fun x => V.ref x.2.1)
  | _, _, .nil => ⟨[], rfl, by simp, rfl⟩
  | _, _, .cons (a := p) (b := q) h t => by
    obtain ⟨bs, h1, h2, h3⟩ := kt_bs t
    refine ⟨(.ref q.2.1, keyT p.1) :: bs, by rw [List.map_cons, List.map_cons, h1], fun b hb => ?_, by rw [List.map_cons, List.map_cons, h3]⟩
    rcases List.mem_cons.mp hb with rfl | hb
    · exact ⟨_, _, rfl, h.2.1⟩
    · exact h2 b hb
theorem collectK {prog : Program} {w : World} {A : Around} {E : Value → Shared → Prop} {s : Shared} {T : String} {r d : Addr} {n : Nat} {P : Nat → Value → Prop} {OK : Heap → Prop} {R : List Value → Shared → Prop} (K : PySem.W.KdlSrc prog w T r d n P OK) (hh : A.handled = none) (hok : OK s.heap) (hn : n ≤ sizeLine)
    (h : ∀ (h' : Heap) (tk : Nat) (acc : Array Value), s.heap.objs.size ≤ h'.objs.size → (∀ b o, s.heap.get? b = some o → h'.get? b = some o) → ItemsOf P acc n → R acc.toList { s with heap := h', toks := tk }) : wpAny (model prog w) A (collect (.ref r)) R E s := by
  have hlt := K.there _ hok
  unfold collect
  refine wpAny_bind (wpAny_runValue (codeAny_builtin entry_proto_collect' ?_)); rw [Around.under_plainId PySem.F.plain_proto_collect _]
  show wpAny _ A.in1 (newList [] >>= fun l => again (.builtin "list.__iadd__" ⟨[l, .ref r], []⟩)) _ _ s; refine wpAny_bind (wpAny_newObj_type ?_)
  refine wpAny_pure ⟨plainId_quiet PySem.F.plain_list_iadd _, codeAny_builtin entry_list_iadd' ?_⟩; rw [Around.under_plainId PySem.F.plain_list_iadd _]
  have hS₁ : (s.heap.push { cls := .type "list", data := .seq ([] : List Value).toArray }).get? s.heap.objs.size = some { cls := .type "list", data := .seq #[] } := Heap.get?_push_size _ rfl
  show wpAny _ A.in1 (Builtin.List.listExtendWith (.ref s.heap.objs.size) (.ref r) (.ref s.heap.objs.size)) _ _ _
  have key := PySem.W.kdl_extend (A := A) (s := { s with heap := s.heap.push { cls := .type "list", data := .seq ([] : List Value).toArray } }) (R := fun (q : Result) (s' : Shared) => ∃ (h' : Heap) (tk : Nat) (acc' : Array Value) (c' : Nat), q = .ok (.ret (.ref s.heap.objs.size)) ∧ s' = { s with heap := h', toks := tk } ∧
      (∀ b o, s.heap.get? b = some o → h'.get? b = some o) ∧ h'.get? s.heap.objs.size = some { cls := .type "list", dict := none, data := .seq acc' c', slots := #[] } ∧ ItemsOf P acc' n) K hh (K.keep _ _ hok fun b _ o e => Heap.get?_push_of_some _ e) s.heap.objs.size (Nat.ne_of_gt hlt.1) (Nat.ne_of_gt hlt.2) (.ref s.heap.objs.size) 0 hS₁
    (fun h' tk acc' c' hk hS' hacc => ⟨h', tk, acc', c', rfl, rfl, fun b o e => hk b o (Nat.ne_of_lt (Heap.lt_size e)) (Heap.get?_push_of_some _ e), hS', hacc⟩) hn
  have fin : ∀ (h' : Heap) (tk : Nat) (acc' : Array Value) (c' : Nat), (∀ b o, s.heap.get? b = some o → h'.get? b = some o) → h'.get? s.heap.objs.size = some { cls := .type "list", dict := none, data := .seq acc' c', slots := #[] } → ItemsOf P acc' n → wpAny (model prog w) A (load s.heap.objs.size >>= fun o => match o.data with | .seq items _ => pure items.toList | _ => unsupported "internal:collect") R E { s with heap := h', toks := tk } := fun h' tk acc' c' hk hS' hacc =>
    wpAny_bind (wpAny_load hS' (wpAny_pure (h h' tk acc' (Nat.le_of_lt (Heap.lt_size hS')) hk hacc)))
  refine wpAny_mono key (fun fn s' x => ?_) fun e s' x => ?_
  · cases fn with
    | done f =>
      obtain ⟨h', tk, acc', c', e, rfl, hk, hS', hacc⟩ := x; cases e
      exact fin h' tk acc' c' hk hS' hacc
    | again c₁ =>
      refine ⟨x.1, codeAny_mono x.2 fun q s₂ y => ?_⟩
      obtain ⟨h', tk, acc', c', rfl, rfl, hk, hS', hacc⟩ := y
      exact fin h' tk acc' c' hk hS' hacc
  · obtain ⟨_, _, _, _, e', _⟩ := x; cases e'
theorem key_reads {pins : List (Addr × Obj)} {σ : L2.St} {H : Hp} {s : Shared} (I : Inv X pins σ H s) {a : Addr} {k : List Key} {u : Value} (h : H a = some (.tup (k.map kV))) (r : RelV (.ref a) u) : Reads s.heap u (keyT k).toP [] := by
  cases r
  obtain ⟨its, rv, ⟨o, ho, hc, n, hd⟩, _⟩ := I.tuple (SqT.of h)
  have go : ∀ (k : List Key) (its : List Value), Vals (k.map kV) its → ReadsAll s.heap its (D.toPs (k.map kD)) [] := by
    intro k
    induction k with
    | nil => intro its r; cases r; exact .nil
    | cons x k ih =>
      intro its r
      cases r with
      | cons r1 r2 => cases x with
        | inl i => obtain ⟨t, rfl⟩ := r1; exact ReadsAll.cons (as := []) (.int i t) (ih _ r2)
        | inr i => obtain ⟨t, rfl⟩ := r1; exact ReadsAll.cons (as := []) (.str i t) (ih _ r2)
  exact .tuple ho hc hd (go k its rv)
theorem cr_sortK (hc : X.calm = true) (hu : X.A.units + 65 < cLine) : CallR X (.builtin "sorted") rSortK := by
  intro pins s σ H vs us Q I r h
  obtain ⟨d, ks, rfl, hd, hal, hso, hde, q⟩ := h
  rw [Vals.ref1 r]
  obtain ⟨hs, z, es, ep, xs, raw, kt, hsz, hen⟩ := dt_raw I hd
  obtain ⟨bs, e1, e2, e3⟩ := kt_bs kt
  have hbl : bs.length = ks.length := by have := congrArg List.length e1; rwa [List.length_map, List.length_map] at this
  refine PySem.Calls.call_function_entry kind_sorted plain_sorted entry_sorted (args_sorted1 _) ?_
  unfold Builtin.«sorted»
  refine wpAny_bind (m := checkCount "sorted" 1 1 _) (wpAny_pure ?_)
  refine wpAny_bind (collectK (A := X.A.in1) (KdlSrc.rawDict hs) (I.ok.hd hc) raw (by omega) fun h' tk acc hle hk hacc => ?_)
  have hl : acc.toList.length = ks.length := by rw [Array.length_toList]; exact hacc.1.trans hsz
  have hxl : xs.length = ks.length := (Paired.length kt).symm
  have ea : acc.toList = xs.map fun x => Value.ref x.2.1 := by
    apply List.ext_getElem?
    intro j
    rw [List.getElem?_map]
    cases hj : acc.toList[j]? with
    | none =>
      have h1 := List.getElem?_eq_none_iff.mp hj
      rw [List.getElem?_eq_none (by omega)]
      rfl
    | some v =>
      have hjl := (List.getElem?_eq_some_iff.mp hj).1
      obtain ⟨hi, hv⟩ := hacc.2 j v (by rw [← Array.getElem?_toList]; exact hj)
      have hx : xs[j]? = some xs[j] := List.getElem?_eq_getElem (by omega)
      obtain ⟨en, g1, g2, g3⟩ := hen j _ hx
      rw [Array.getElem?_eq_getElem hi] at g1
      cases g1
      rw [hx, hv, g2]
      rfl
  have rv : Vals (bs.map (·.1)) acc.toList := by
    rw [e3, ea]
    have go : ∀ xs : List (List Key × Addr × Value), Vals (xs.map fun x => V.ref x.2.1) (xs.map fun x => Value.ref x.2.1) := fun xs => by
      induction xs with
      | nil => exact .nil
      | cons x xs ih => exact .cons rfl ih
    exact go xs
  refine wpAny_bind (wpAny_newList ?_ (by rw [hl]; exact z))
  generalize hh2 : h'.push (seqObj "list" acc.toList.toArray 0) = h2
  have keep : ∀ b o, s.heap.get? b = some o → h2.get? b = some o := fun b o e => by rw [← hh2]; exact Heap.get?_push_of_some _ (hk b o e)
  have at2 : h2.get? h'.objs.size = some (seqObj "list" acc.toList.toArray 0) := by rw [← hh2]; exact Heap.get?_push_size _ rfl
  have I2 : Inv X pins σ H { s with heap := h2, toks := tk } := I.kept (t' := tk) keep
  have eachV : ∀ {bs : List (V × D)} {its : List Value}, (∀ b ∈ bs, KyB H b) → Vals (bs.map (·.1)) its → PySem.W.EachIs (fun v (b : V × D) => RelV b.1 v) its bs ∧ PySem.W.EachIs (fun v (b : V × D) => ∃ as, Reads h2 v b.2.toP as ∧ h'.objs.size ∉ as) its bs := by
    intro bs
    induction bs with
    | nil => intro its _ rv; cases rv; exact ⟨.nil, .nil⟩
    | cons b bs ih =>
      intro its h rv
      cases rv with
      | cons r1 r2 =>
        obtain ⟨g1, g2⟩ := ih (fun c hc => h c (List.mem_cons_of_mem _ hc)) r2
        refine ⟨.cons r1 g1, .cons ⟨[], ?_, by simp⟩ g2⟩
        obtain ⟨a, k, rfl, ha⟩ := h b List.mem_cons_self
        exact key_reads I2 ha r1
  obtain ⟨ev, er⟩ := eachV e2 rv
  have m1 : bs.map (fun b => b.2.toP) = ks.map fun k => (keyT k.1).toP := by
    have := congrArg (List.map D.toP) e1
    rwa [List.map_map, List.map_map] at this
  have tl := PySem.W.sortLe_total (PyProof.Rows.listOrd PyProof.Rows.itemOrd) false fun b : V × D => PySem.W.keyToks b.2.toP
  have em : bs.mergeSort (PySem.W.dataLe false fun b : V × D => b.2.toP) = isort (fun x y : V × D => leD x.2 y.2) bs := merge_isort tl.trans (fun a b => by
    rcases tl.total a b with h | h
    · rw [h]; rfl
    · rw [h, Bool.or_true]) bs
  have vo : ∀ {L : List (V × D)} {out : List Value}, PySem.W.EachIs (fun v (b : V × D) => RelV b.1 v) out L → Vals (L.map (·.1)) out := by
    intro L
    induction L with
    | nil => intro out e; cases e; exact .nil
    | cons b L ih => intro out e; cases e with | cons h t => exact .cons h (ih t)
  refine wpAny_bind (wpAny_holding (PySem.W.list_sort_data (s := { s with heap := h2, toks := tk }) (enc := fun b : V × D => b.2.toP) at2 ev er (by rw [m1]; exact hal) (by rw [m1]; exact hso) (by omega) (fun b hb => ?_) (fun out ho eo => wpAny_pure ⟨_, rfl, ?_⟩)))
  · obtain ⟨a, k, rfl, ha⟩ := e2 b hb
    have hm : keyT k ∈ ks.map fun k => keyT k.1 := by rw [← e1]; exact List.mem_map.mpr ⟨_, hb, rfl⟩
    obtain ⟨k', hk', ek⟩ := List.mem_map.mp hm
    have := hde k' hk'
    show X.A.units + 1 + 1 + (keyT k).toP.depth < cLine
    rw [← ek]
    omega
  · rw [em] at eo
    obtain ⟨c, hc'⟩ := sortedHeap_at (vs := acc.toList) (out := out.toArray) at2
    refine ⟨.ref h'.objs.size, upd H h'.objs.size (.lst ((isort (fun x y : V × D => leD x.2 y.2) bs).map (·.1))), I.laid (t' := tk) (fun b o e => ?_) hle (show ObjOk X.prog X.w _ _ _ (.lst _) from ⟨?_, out, c, vo eo, hc'⟩), rfl, q _ bs (I.hok.fresh hle) e1 e2⟩
    · have hlt : b < h'.objs.size := Nat.lt_of_lt_of_le (Heap.lt_size e) hle
      have e' := keep b o e
      rw [sortedHeap_old (Nat.ne_of_lt hlt) (Heap.lt_size e')]
      exact e'
    · rw [List.length_map, ← eo.length, ho]
      omega
end
section
variable [TheK] {X : Cx} {Wx : WX} {a : Expr} {ma : DE} {p pos : Pos}
def dSortK : D → Rv D
  | .dic kvs => if sortOk (kvs.map fun k => keyT k.1) then .ok (.lst (isort leD (kvs.map fun k => keyT k.1))) else .bad
  | _ => .bad
theorem RepK.keys {W : Pr} {H : Hp} : ∀ {ks : List (List Key × V)} {kvs : List (List Key × D)}, RepK W H ks kvs → ks.map (·.1) = kvs.map (·.1)
  | _, _, .nil => rfl
  | _, _, .cons _ l => by rw [List.map_cons, List.map_cons, RepK.keys l]
theorem cb_sortK : Cb1 .f X.K rSortK dSortK := by
  intro F O env σ H x dx dz Q S rx ef q
  unfold dSortK at ef
  split at ef
  · rename_i kvs
    obtain ⟨a, ks, rfl, s, l⟩ := rx.dic'
    obtain ⟨h, rfl⟩ := if_ok ef
    obtain ⟨h1, h2, h3⟩ := sortOk_of h
    have ek : (kvs.map fun k => keyT k.1) = ks.map fun k => keyT k.1 := by
      have := congrArg (List.map keyT) l.keys
      rw [List.map_map, List.map_map] at this
      exact this.symm
    rw [ek] at h1 h2 h3 q
    rw [List.map_map] at h2 h3
    refine ⟨a, ks, rfl, s, h2, h3, fun k hk => (h1 _ (List.mem_map.mpr ⟨k, hk, rfl⟩)).2, fun p bs hp e1 e2 => ?_⟩
    have e := isort_map (f := fun b : V × D => b.2) (le := leD) bs
    rw [← e1, ← e] at q
    refine new_lst S (RepL.unzip fun b hb => ?_) q hp
    obtain ⟨a', k, rfl, ha⟩ := e2 b (isort_mem hb)
    exact .tup (fun z => S.ow_tup z ha) ha (kD_rep k)
  · cases ef
theorem pd_sortK (hc : X.calm = true) (hu : X.A.units + 65 < cLine) (hb : Bn X "sorted" (.builtin "sorted")) (ha : PD .w X Wx a ma) (hs : starEach [a] X.env = (false, eval a X.env) :: starEach [] X.env := by rfl) : PD .f X Wx (.Call (.Name "sorted" p) [a] [] pos) (e1 dSortK ma) := pd_b1 (cr_sortK hc hu) cb_sortK hb ha hs
end
end AH
namespace AH
open PySem PySem.Spec PyProof.Rows L2
variable [TheK]
/-! ### an own dict locked while an expression runs -/
def roS : Sl → Sl → Bool
  | s, .ro (.dic _) => (match s with | .ro (.dic _) => true | _ => false)
  | s, .ldc _ => (match s with | .ldc _ => true | _ => false)
  | _, _ => true
def roOk : Env → Env → Bool
  | s :: e, t :: f => roS s t && roOk e f
  | [], [] => true
  | _, _ => false
theorem roOk_at : ∀ {e f : Env} (j : Nat), roOk e f = true → roS (sl e j) (sl f j) = true
  | [], [], _, _ => rfl
  | [], _ :: _, _, h => by cases h
  | _ :: _, [], _, h => by cases h
  | s :: e, t :: f, 0, h => (He.ba h).1
  | s :: e, t :: f, j + 1, h => roOk_at (e := e) (f := f) j (He.ba h).2
def lockE (i : Nat) (m : DE) : DE := fun e => match sl e i with
  | .odc kvs => (match m (put e i (.ldc kvs)) with
    | .ok d e1 => if roOk (put e i (.ldc kvs)) e1 then .ok d (put e1 i (.odc kvs)) else .bad
    | _ => .bad)
  | _ => .bad
def Fm.lk (F : Fm) (a : Addr) : Fm := { F with P := fun b => F.P b ∨ b = a, N := fun b => F.N b ∧ b ≠ a }
section
variable {K : PySem.W.Frag} {F : Fm} {O : Nat → Option Addr} {env e1 : Env} {σ : L2.St} {H H' : Hp} {i : Nat} {a : Addr}
theorem ow_lk (h : O i = some a) (inj : ∀ j, O j = some a → j = i) : ∀ b, Ow (F.lk a) (setO O i none) b ↔ Ow F O b := by
  intro b
  constructor
  · rintro ((z | rfl) | z)
    · exact .inl z
    · exact .inr ⟨i, h⟩
    · exact .inr (jo_setN z)
  · rintro (z | ⟨j, z⟩)
    · exact .inl (.inl z)
    · by_cases hj : j = i
      · rw [hj, h] at z; cases z; exact .inl (.inr rfl)
      · exact .inr ⟨j, by rw [setO_ne hj]; exact z⟩
theorem SR.lock {ks : List (List Key × V)} {kvs : List (List Key × D)} {od : Obj} (S : SR K F O env σ H) (hs : sl env i = .odc kvs) (h1 : O i = some a) (h0 : F.H0 a = none ∧ ¬ F.P a) (h2 : get1 σ i = some (.ref a)) (h3 : H a = some (.dT ks)) (r : RepK (Ow F O) H ks kvs) :
    SR K (F.lk a) (setO O i none) (put env i (.ldc kvs)) σ (upd H a (.frz od (.dT ks))) := by
  have inj : ∀ j, O j = some a → j = i := fun j e => S.inj j i a e h1
  have ow := ow_lk (F := F) h1 inj
  have hl : i < env.length := by
    cases Nat.lt_or_ge i env.length with
    | inl h' => exact h'
    | inr h' => rw [sl_out _ _ h'] at hs; cases hs
  have nj : ¬ Jo (setO O i none) a := fun ⟨j, z⟩ => by
    by_cases hj : j = i
    · rw [hj, setO_same] at z; cases z
    · rw [setO_ne hj] at z; exact hj (inj j z)
  have kj : Ke (Jo O) H (upd H a (.frz od (.dT ks))) := Ke.mut ⟨i, h1⟩
  have ko : Ke (Ow F O) H (upd H a (.frz od (.dT ks))) := kj.ow
  have g : ∀ b, Ow (F.lk a) (setO O i none) b → Ow F O b ∨ H b = none := fun b z => .inl ((ow b).mp z)
  have gn : ∀ b, Jo (setO O i none) b ∨ (F.lk a).N b → (Jo O b ∨ F.N b) ∨ H b = none := fun b z => .inl (z.elim (fun z => .inl (jo_setN z)) fun z => .inr z.1)
  have ne : ∀ {b : Addr} {o : HO}, ¬ Jo O b → H b = some o → upd H a (.frz od (.dT ks)) b = some o := fun {b o} n e => kj.stay b o n e
  refine ⟨fun j => ?_, fun j k b hj hk => ?_, fun b z => ko.there b (S.prot b ((ow b).mp z)), fun b o e n => ?_, fun b e => kj.there b (S.al b e), by rw [put_len]; exact S.len, fun b e => kj.there b (S.nal b e.1), fun b xs w => ?_⟩
  · by_cases hj : j = i
    · subst hj
      rw [sl_put_same _ _ _ hl]
      exact ⟨setO_same, a, ks, od, fun z => z.elim nj fun z => z.2 rfl, h2, upd_same, r.ke ko g⟩
    · rw [sl_put_ne _ _ _ _ hj]
      have s := S.slot j
      have neq : ∀ b, O j = some b → b ≠ a := fun b e z => hj (inj j (by rw [← z]; exact e))
      cases z : sl env j with
      | no => rw [z] at s; exact (setO_ne hj).trans s
      | val d => rw [z] at s; obtain ⟨s1, v, s2, s3⟩ := s; exact ⟨(setO_ne hj).trans s1, v, s2, s3.ke ko g⟩
      | ro d => rw [z] at s; obtain ⟨s1, v, s2, s3⟩ := s; exact ⟨(setO_ne hj).trans s1, v, s2, s3.go kj g gn⟩
      | own xs => rw [z] at s; obtain ⟨b, vs, s1, s2, s3, s4, s5⟩ := s; exact ⟨b, vs, (setO_ne hj).trans s1, ⟨s2.1, fun q => q.elim s2.2 (neq b s1)⟩, s3, by rw [upd_ne (neq b s1)]; exact s4, s5.ke ko g⟩
      | bor xs => rw [z] at s; obtain ⟨b, vs, s1, s2, s3, s4, s5⟩ := s; exact ⟨b, vs, (setO_ne hj).trans s1, s2, s3, by rw [upd_ne (neq b s1)]; exact s4, s5.ke ko g⟩
      | odc xs => rw [z] at s; obtain ⟨b, vs, s1, s2, s3, s4, s5⟩ := s; exact ⟨b, vs, (setO_ne hj).trans s1, ⟨s2.1, fun q => q.elim s2.2 (neq b s1)⟩, s3, by rw [upd_ne (neq b s1)]; exact s4, s5.ke ko g⟩
      | ldc xs => rw [z] at s; obtain ⟨s0, b, vs, o, s1, s3, s4, s5⟩ := s; exact ⟨(setO_ne hj).trans s0, b, vs, o, fun q => (gn b q).elim s1 (al_of s4), s3, ne (fun q => s1 (.inl q)) s4, s5.ke ko g⟩
  · have ej : ∀ l, setO O i none l = some b → O l = some b := fun l z => by
      by_cases hl : l = i
      · rw [hl, setO_same] at z; cases z
      · rwa [setO_ne hl] at z
    exact S.inj j k b (ej j hj) (ej k hk)
  · have nb : b ≠ a := fun z => by
      have e : F.H0 b = some o := e
      rw [z, h0.1] at e; cases e
    rw [upd_ne nb]
    exact S.keep b o e n
  · rcases w with w | rfl
    · by_cases hb : b = a
      · rw [hb, upd_same]; exact fun y => by cases y
      · rw [upd_ne hb]; exact S.pt b xs w
    · rw [upd_same]; exact fun y => by cases y
/-- .. and back -/
theorem SR.unlock {ks : List (List Key × V)} {kvs : List (List Key × D)} {od : Obj} (S : SR K F O env σ H) (hs : sl env i = .odc kvs) (h1 : O i = some a) (h0 : F.H0 a = none ∧ ¬ F.P a) (h2 : get1 σ i = some (.ref a)) (h3 : H a = some (.dT ks)) (r : RepK (Ow F O) H ks kvs)
    {G : Fm} (hG : G.ba = F.ba) (hG0 : G.H0 = F.H0) (hGP : ¬ G.P a) (gG : ∀ b, Ow G O b → Ow F O b ∨ H b = none) (S' : SR K (G.lk a) (setO O i none) e1 σ H') (ro : roOk (put env i (.ldc kvs)) e1 = true) (hf : H' a = some (.frz od (.dT ks))) (k : Ke (Jo O) H (upd H' a (.dT ks))) : SR K G O (put e1 i (.odc kvs)) σ (upd H' a (.dT ks)) := by
  have inj : ∀ j, O j = some a → j = i := fun j e => S.inj j i a e h1
  have ow := ow_lk (F := G) h1 inj
  have hl : i < env.length := by
    cases Nat.lt_or_ge i env.length with
    | inl h' => exact h'
    | inr h' => rw [sl_out _ _ h'] at hs; cases hs
  have hl1 : i < e1.length := by rw [S'.len, ← S.len]; exact hl
  have ko : Ke (Ow (G.lk a) (setO O i none)) H' (upd H' a (.dT ks)) := Ke.mut (.inl (.inr rfl))
  have g : ∀ b, Ow G O b → Ow (G.lk a) (setO O i none) b ∨ H' b = none := fun b z => .inl ((ow b).mpr z)
  have al : ∀ b, H' b ≠ none → upd H' a (.dT ks) b ≠ none := ko.there
  have nn : ∀ {b : Addr}, b ≠ a → ¬ (Jo (setO O i none) b ∨ (G.lk a).N b) → ¬ (Jo O b ∨ G.N b) := fun {b} nb n z => by
    rcases z with ⟨j, z⟩ | z
    · by_cases hj : j = i
      · rw [hj, h1] at z; cases z; exact nb rfl
      · exact n (.inl ⟨j, by rw [setO_ne hj]; exact z⟩)
    · exact n (.inr ⟨z, nb⟩)
  have rdk : ∀ {b : Addr} {u : HO}, b ≠ a → Rd H' b u → Rd (upd H' a (.dT ks)) b u := fun {b u} nb r => rd_keep (fun o e => by rw [upd_ne nb]; exact e) r
  refine ⟨fun j => ?_, S.inj, fun b z => al b (S'.prot b ((ow b).mpr z)), fun b o e n => ?_, fun b e => al b (S'.al b e), by rw [put_len]; exact S'.len, fun b e => ?_, fun b xs w => ?_⟩
  · by_cases hj : j = i
    · subst hj
      rw [sl_put_same _ _ _ hl1]
      exact ⟨a, ks, h1, ⟨by rw [hG0]; exact h0.1, hGP⟩, h2, upd_same, r.ke k.ow gG⟩
    · rw [sl_put_ne _ _ _ _ hj]
      have s := S'.slot j
      have s0 := S.slot j
      have rj := roOk_at j ro
      rw [sl_put_ne _ _ _ _ hj] at rj
      have eO : setO O i none j = O j := setO_ne hj
      have neq : ∀ b, O j = some b → b ≠ a := fun b e z => hj (inj j (by rw [← z]; exact e))
      cases z : sl e1 j with
      | no => rw [z] at s; exact eO.symm.trans s
      | val d => rw [z] at s; obtain ⟨s1, v, s2, s3⟩ := s; exact ⟨eO.symm.trans s1, v, s2, s3.ke ko g⟩
      | ro d =>
        rw [z] at s rj
        obtain ⟨s1, v, s2, s3⟩ := s
        refine ⟨eO.symm.trans s1, v, s2, ?_⟩
        cases s3 with
        | of q => exact .of (q.ke ko g)
        | @tup b vs xs n q l =>
          have nb : b ≠ a := fun z => by
            rw [z] at q
            rcases q with q | ⟨o, q⟩
            · rw [hf] at q; cases q
            · rw [hf] at q; cases q
          exact .tup (nn nb n) (rdk nb q) (l.ke ko g)
        | @lst b vs xs n q l =>
          have nb : b ≠ a := fun z => by
            rw [z] at q
            rcases q with q | ⟨o, q⟩
            · rw [hf] at q; cases q
            · rw [hf] at q; cases q
          exact .lst (nn nb n) (rdk nb q) (l.ke ko g)
        | @dic b ls lvs n q l =>
          have nb : b ≠ a := fun zb => by
            subst zb
            cases z0 : sl env j with
            | ro d0 => cases d0 with
              | dic kk =>
                rw [z0] at s0
                obtain ⟨_, v0, e0, r0⟩ := s0
                rw [s2] at e0
                cases e0
                cases r0 with
                | of q0 => cases q0 with | dic n0 _ _ => exact n0 (.inr ⟨i, h1⟩)
                | dic n0 _ _ => exact n0 (.inl ⟨i, h1⟩)
              | _ => rw [z0] at rj; cases rj
            | _ => rw [z0] at rj; cases rj
          exact .dic (nn nb n) (rdk nb q) (l.ke ko g)
        | kl q => exact .kl q
      | own xs => rw [z] at s; obtain ⟨b, vs, s1, s2, s3, s4, s5⟩ := s; exact ⟨b, vs, eO.symm.trans s1, ⟨s2.1, fun q => s2.2 (.inl q)⟩, s3, by rw [upd_ne (neq b (eO.symm.trans s1))]; exact s4, s5.ke ko g⟩
      | bor xs => rw [z] at s; obtain ⟨b, vs, s1, s2, s3, s4, s5⟩ := s; exact ⟨b, vs, eO.symm.trans s1, s2, s3, by rw [upd_ne (neq b (eO.symm.trans s1))]; exact s4, s5.ke ko g⟩
      | odc xs => rw [z] at s; obtain ⟨b, vs, s1, s2, s3, s4, s5⟩ := s; exact ⟨b, vs, eO.symm.trans s1, ⟨s2.1, fun q => s2.2 (.inl q)⟩, s3, by rw [upd_ne (neq b (eO.symm.trans s1))]; exact s4, s5.ke ko g⟩
      | ldc xs =>
        rw [z] at s rj
        obtain ⟨t0, b, vs, o, t1, t3, t4, t5⟩ := s
        have nb : b ≠ a := fun zb => by
          subst zb
          cases z0 : sl env j with
          | ldc xs0 =>
            rw [z0] at s0
            obtain ⟨_, b0, vs0, o0, u1, u3, _, _⟩ := s0
            rw [t3] at u3
            cases u3
            exact u1 (.inl ⟨i, h1⟩)
          | _ => rw [z0] at rj; cases rj
        exact ⟨eO.symm.trans t0, b, vs, o, nn nb t1, t3, by rw [upd_ne nb]; exact t4, t5.ke ko g⟩
  · have nb : b ≠ a := fun z => by
      have e : G.H0 b = some o := e
      rw [hG0, z, h0.1] at e; cases e
    rw [upd_ne nb]
    exact S'.keep b o e n
  · by_cases hb : b = a
    · rw [hb, upd_same]; simp
    · exact al b (S'.nal b ⟨e, hb⟩)
  · by_cases hb : b = a
    · rw [hb, upd_same]; exact fun y => by cases y
    · rw [upd_ne hb]; exact S'.pt b xs (.inl w)
end
section
variable {X : Cx} {Wx : WX} {e : Expr} {m : DE} {i : Nat}
theorem Fm.lk_ad {F : Fm} {a p : Addr} (h : p ≠ a) : (F.lk a).ad p = (F.ad p).lk a := by
  unfold Fm.lk Fm.ad
  congr 1
  · funext b
    exact propext ⟨fun z => z.elim (fun z => z.elim (fun z => .inl (.inl z)) .inr) fun z => .inl (.inr z), fun z => z.elim (fun z => z.elim (fun z => .inl (.inl z)) .inr) fun z => .inl (.inr z)⟩
  · funext b
    exact propext ⟨fun z => z.elim (fun z => ⟨.inl z.1, z.2⟩) fun z => ⟨.inr z, fun y => h (z.symm.trans y)⟩, fun z => z.1.elim (fun y => .inl ⟨y, z.2⟩) .inr⟩
theorem pd_lock (h : PD .f X Wx e m) : PD .f X Wx e (lockE i m) := by
  obtain ⟨t, p, q⟩ := h
  refine ⟨_, pe_lock p, fun F O env σ H Q S w => ?_⟩
  unfold Want lockE at w
  cases hs : sl env i with
  | odc kvs =>
    rw [hs] at w
    have s := S.slot i
    rw [hs] at s
    obtain ⟨a, ks, h1, h0, h2, h3, r⟩ := s
    have inj : ∀ j, O j = some a → j = i := fun j e => S.inj j i a e h1
    have nj : ¬ Jo (setO O i none) a := fun ⟨j, z⟩ => by
      by_cases hj : j = i
      · rw [hj, setO_same] at z; cases z
      · rw [setO_ne hj] at z; exact hj (inj j z)
    refine ⟨a, .dT ks, h3, trivial, fun od => ?_⟩
    refine q (F.lk a) (setO O i none) (put env i (.ldc kvs)) σ _ _ (S.lock (od := od) hs h1 h0 h2 h3 r) ?_
    unfold Want
    simp only at w
    cases hm : m (put env i (.ldc kvs)) with
    | ok d e1 =>
      rw [hm] at w
      simp only at w ⊢
      cases ro : roOk (put env i (.ldc kvs)) e1 with
      | false => rw [ro] at w; exact w.elim
      | true =>
        rw [ro] at w
        simp only [if_true] at w
        intro v H' S' k' pv
        have hf : H' a = some (.frz od (.dT ks)) := k'.stay _ _ nj upd_same
        have k : Ke (Jo O) H (upd H' a (.dT ks)) := by
          refine ⟨fun b o n e => ?_, fun b n => ?_⟩
          · have nb : b ≠ a := fun z => n (z ▸ ⟨i, h1⟩)
            rw [upd_ne nb]
            exact k'.stay b o (fun z => n (jo_setN z)) (by rw [upd_ne nb]; exact e)
          · by_cases hb : b = a
            · rw [hb, upd_same]; simp
            · rw [upd_ne hb]
              exact k'.there b (by rw [upd_ne hb]; exact n)
        refine ⟨hf, w v _ (S.unlock hs h1 h0 h2 h3 r rfl rfl h0.2 (fun _ z => .inl z) S' ro hf k) k ?_⟩
        obtain ⟨p', vs, xs, rfl, rfl, hp, hp', l, Sp⟩ := pv
        have hpa : p' ≠ a := fun z => by rw [z, upd_same] at hp; cases hp
        rw [upd_ne hpa] at hp
        rw [Fm.lk_ad hpa] at l Sp
        have owp := ow_lk (F := F.ad p') h1 inj
        refine ⟨p', vs, xs, rfl, rfl, hp, by rw [upd_ne hpa]; exact hp', l.ke (Ke.mut (.inl (.inr rfl))) (fun b z => .inl ((owp b).mpr z)), ?_⟩
        exact S.unlock hs h1 h0 h2 h3 r rfl rfl (fun z => z.elim h0.2 fun z => hpa z.symm) (fun b z => by
          rcases z with (z | rfl) | z
          · exact .inl (.inl z)
          · exact .inr hp
          · exact .inl (.inr z)) Sp ro hf k
    | ex c fs e1 => rw [hm] at w; exact w.elim
    | bad => rw [hm] at w; exact w.elim
  | _ => rw [hs] at w; exact w.elim
end
end AH
namespace AH
open PySem PySem.Spec PyProof.Rows L2
/-! ### the items of a locked dict with tuple keys -/
section
variable {X : Cx} {pins : List (Addr × Obj)} {σ : L2.St} {H : Hp} {s : Shared} {d : Addr} {o : Obj}
theorem frzV {ks : List (List Key × V)} (I : Inv X pins σ H s) (h : H d = some (.frz o (.dT ks))) :
    (d == sysModules) = false ∧ s.heap.get? d = some o ∧ o.ExactDict ∧ ∃ (es : Array DictEntry) (ep : Nat), o.data = .dict es ep ∧ es.size = ks.length ∧
      ∀ (i : Nat) (k : List Key) (v : V), ks[i]? = some (k, v) → ∃ (en : DictEntry) (q : Addr), es[i]? = some en ∧ en.key = .ref q ∧ H q = some (.tup (k.map kV)) ∧ RelV v en.val := by
  obtain ⟨hd, z, hs, xs, pr, o', es, ep, ho, hx, hdt, he, _⟩ := I.hok d _ h
  rw [hd] at ho
  cases ho
  have l1 : es.size = xs.length := size_of_entries he
  have l2 : ks.length = xs.length := Paired.length pr
  refine ⟨hs, hd, hx, es, ep, hdt, by omega, fun i k v e => ?_⟩
  obtain ⟨b, hb, e1, e2, e3⟩ := paired_get pr e
  have q := entry_at he i
  rw [hb] at q
  exact ⟨_, b.2.1, q, rfl, e2, e3⟩
end
def ItiT (d : Addr) (o : Obj) (ks : List (List Key × V)) : It :=
  ⟨fun i H => H d = some (.frz o (.dT ks)) ∧ i < ks.length,
   fun i H x H' => ∃ (T q : Addr) (k : List Key) (v : V), ks[i]? = some (k, v) ∧ x = .ref T ∧ H T = none ∧ H q = some (.tup (k.map kV)) ∧ H' = upd H T (.tup [.ref q, v]),
   fun i H => H d = some (.frz o (.dT ks)) ∧ ks.length ≤ i⟩
section
variable {P : Program} {w : World} {K : PySem.W.Frag} {d : Addr} {o : Obj} {es : Array DictEntry} {ep : Nat}
theorem turn_itemsT {ks : List (List Key × V)} {elts : List Expr} {kk : Nat} {tpos : Pos} (it : Addr) (hod : o.data = .dict es ep) (hoe : o.ExactDict) :
    Turn P w K (.Tuple elts kk tpos) (ItiT d o ks) [it] it (fun i h => ∃ ok ov, IsItemIter h it d i ks.length ep ok ov) where
  mem := by simp
  obj := fun i h st b hb => by
    have e : b = it := by simpa using hb
    subst e; obtain ⟨ok, ov, e⟩ := st; exact ⟨_, e, fun v z => nomatch z⟩
  keep := fun i h h' st k => let ⟨ok, ov, e⟩ := st; ⟨ok, ov, k it (by simp) _ e⟩
  item := by
    intro X hP hw hK hc i pins s σ H E I hf st hg
    subst hP hw hK; obtain ⟨hd, hi⟩ := hg
    obtain ⟨hs, hgd, hx, es', ep', hdt, hsz, hen⟩ := frzV I hd
    obtain ⟨rfl, rfl⟩ := dict_ep hod hdt
    obtain ⟨⟨k, v⟩, hkv⟩ : ∃ p, ks[i]? = some p := ⟨ks[i], List.getElem?_eq_getElem hi⟩
    obtain ⟨en, q, e1, e2, e3, e4⟩ := hen i k v hkv
    obtain ⟨ok, ov, he⟩ := st
    rw [← hsz] at he
    have hie : i < es'.size := by omega
    have een : es'[i] = en := by rw [Array.getElem?_eq_getElem hie] at e1; exact Option.some.inj e1
    have hlt : it < s.heap.objs.size := Heap.lt_size he
    refine wpAny_pyNext_items_item_raw he ⟨o, hgd, hx, hdt⟩ hie fun h' ho hT hz hk => ?_
    rw [een] at ho hT
    refine ⟨_, rfl, wpAny_letOwnedTupleGo_items (s := { s with heap := h' }) ho fun h'' he' sb => ?_⟩
    have hT2 : h''.get? s.heap.objs.size = some { cls := .type "tuple", data := .seq #[en.key, en.val] } := (sb.2 _ (Nat.ne_of_gt hlt)).trans hT
    have new : ObjOk X.prog X.w (upd H s.heap.objs.size (.tup [.ref q, v])) h'' s.heap.objs.size (.tup [.ref q, v]) :=
      ⟨by show 2 ≤ sizeLine; decide, [en.key, en.val], .cons e2 (.cons e4 .nil), ⟨_, hT2, rfl, _, rfl⟩⟩
    have I1 : Inv X pins σ (upd H s.heap.objs.size (.tup [.ref q, v])) { s with heap := h'' } :=
      I.turnedNew (t' := s.toks) (ch := [it]) (fun b ob hb e => (sb.2 b (by simpa using hb)).trans (hk b ob (by simpa using hb) e)) hf (Nat.le_refl _) new
    refine ⟨.ref s.heap.objs.size, _, I1, rfl, ⟨_, q, k, v, hkv, rfl, I.hok.fresh (Nat.le_refl _), e3, rfl⟩, ⟨en.key, en.val, by rw [← hsz]; exact he'⟩, fun b hb => ?_⟩
    have e : b = it := by simpa using hb
    rw [e, upd_ne (Nat.ne_of_lt hlt)]; exact (hf it (by simp)).1
  done := by
    intro X hP hw hK hc i pins s σ H E I hf st hg
    subst hP hw hK; obtain ⟨hd, hi⟩ := hg
    obtain ⟨f0, f1, f2, f3, f4, f5⟩ := hf it (by simp)
    obtain ⟨hs, hgd, hx, es', ep', hdt, hsz, hen⟩ := frzV I hd
    obtain ⟨rfl, rfl⟩ := dict_ep hod hdt
    obtain ⟨ok, ov, he⟩ := st
    rw [← hsz] at he
    exact wpAny_pyNext_items_end_raw (I.ok.hd hc) he ⟨o, hgd, hx, hdt⟩ (by omega) fun h' eb => ⟨rfl, I.turned (t' := s.toks) (fun b ob hb e => eb b ob hb e) f0 f1 f3 f4 f5⟩
  self := fun A i s Q E st h => let ⟨_, _, e⟩ := st; PySem.W.kcp_self e h
end
section
variable {X : Cx} {tg e : Expr} {td : TE} {apos cpos : Pos}
/-- d.items(): d locked, or locked now -/
def iItemsT (td : TE) : TI := fun σ H R => td σ H fun x H1 => ∃ d ks, x = .ref d ∧ ((∃ o, H1 d = some (.frz o (.dT ks)) ∧ R (ItiT d o ks) H1) ∨ (H1 d = some (.dT ks) ∧ ∀ o, R (ItiT d o ks) (upd H1 d (.frz o (.dT ks)))))
theorem pi_itemsT {elts : List Expr} {kk : Nat} {tpos : Pos} (he : PE X e td) (hbase : attributeBase e "items" X.env (eval e X.env) = eval e X.env := by rfl) (hline : (apos.endLine == cpos.line) = true := by rfl) : PI X (.Tuple elts kk tpos) (.Call (.Attribute e "items" apos) [] [] cpos) (iItemsT td) := by
  refine ⟨fun pins s σ H R I h => ?_⟩
  refine wpAny_Call_method (T := "dict") (id := "dict.items") hbase rfl hline F.plainAttrs_dict F.slot_dict_items F.type_dict_items (thn (he.run pins s σ H _ I h) fun u s1 ⟨x, H1, I1, rx, d, ks, ex, q⟩ => ?_)
  subst ex
  obtain rfl : u = Value.ref d := rx
  have go : ∀ (o : Obj) (H2 : Hp), Inv X pins σ H2 s1 → H2 d = some (.frz o (.dT ks)) → R (ItiT d o ks) H2 → s1.TypeIs (.ref d) "dict" ∧ (∀ a, Value.ref d = Value.ref a → ∃ ob, s1.heap.get? a = some ob ∧ ob.dict = none) ∧ wpAny (model X.prog X.w) X.A (callWith cpos (.builtin "dict.items") [.ref d] [] []) (fun v s1 => wpAny (model X.prog X.w) X.A (pyIter v) (PIE X pins σ (.Tuple elts kk tpos) R) X.xe s1) X.xe s1 := by
    intro o H2 I1 hd q
    obtain ⟨hs, hgd, hx, es, ep, hdt, hsz, hen⟩ := frzV I1 hd
    have raw : s1.heap.DictRaw d es ep := ⟨o, hgd, hx, hdt⟩
    refine ⟨raw.typeIs, fun a z => by cases z; exact ⟨o, hgd, hx.2.1⟩, ?_⟩
    have I2 : Inv X pins σ H2 { s1 with heap := s1.heap.push { cls := .type "dict_items", data := .fields #[.ref d] } } := I1.kept (t' := s1.toks) fun b ob q => Heap.get?_push_of_some _ q
    have fin : wpAny (model X.prog X.w) X.A (pyIter (.ref s1.heap.objs.size)) (PIE X pins σ (.Tuple elts kk tpos) R) X.xe { s1 with heap := s1.heap.push { cls := .type "dict_items", data := .fields #[.ref d] } } := by
      refine wpAny_pyIter_items_raw (d := d) ⟨_, Heap.get?_push_size _ rfl, rfl, rfl⟩ (raw.at fun o e => Heap.get?_push_of_some _ e) (pi_one (tk := s1.toks) I2 _ (turn_itemsT _ hdt hx) ⟨.none, .none, ?_⟩ q)
      rw [← hsz]
      exact Heap.get?_push_size _ rfl
    exact method_meetsIn F.slot_dict_items F.entry_dict_items rfl (PySem.evalArgs_none ⟨rfl, raw.typeIs, F.args_dict_items_1 _, _, meets_dict_items_raw d hs, ⟨es, ep, raw⟩, fin⟩)
  rcases q with ⟨o, hd, q⟩ | ⟨hd, q⟩
  · exact go o H1 I1 hd q
  · obtain ⟨od, I1'⟩ := I1.lock hd trivial
    exact go od _ I1' upd_same (q od)
/-- for k in d -/
def iKeysT (td : TE) : TI := fun σ H R => td σ H fun x H1 => ∃ d ks, x = .ref d ∧ ((∃ o, H1 d = some (.frz o (.dT ks)) ∧ R (Itkt d o ks) H1) ∨ (H1 d = some (.dT ks) ∧ ∀ o, R (Itkt d o ks) (upd H1 d (.frz o (.dT ks)))))
theorem pi_keysT (he : PE X e td) : PI X tg e (iKeysT td) := by
  refine ⟨fun pins s σ H R I h => ?_⟩
  refine thn (he.run pins s σ H _ I h) fun u s1 ⟨x, H1, I1, rx, d, ks, ex, q⟩ => ?_
  subst ex
  obtain rfl : u = Value.ref d := rx
  have go : ∀ (o : Obj) (H2 : Hp), Inv X pins σ H2 s1 → H2 d = some (.frz o (.dT ks)) → R (Itkt d o ks) H2 → wpAny (model X.prog X.w) X.A (pyIter (.ref d)) (PIE X pins σ tg R) X.xe s1 := by
    intro o H2 I1 hd q
    obtain ⟨hs, hgd, hx, es, ep, hdt, hsz, ent⟩ := I1.frzT hd
    refine iter_keys hs hgd hx hdt (pi_one (tk := s1.toks) I1 _ (turn_keysT _ hdt) ⟨_, Heap.get?_push_size _ rfl, rfl, ?_⟩ q)
    rw [hsz] <;> rfl
  rcases q with ⟨o, hd, q⟩ | ⟨hd, q⟩
  · exact go o H1 I1 hd q
  · obtain ⟨od, I1'⟩ := I1.lock hd trivial
    exact go od _ I1' upd_same (q od)
end
section
variable [TheK] {X : Cx} {Wx : WX} {tg a : Expr} {ma : DE} {p apos cpos : Pos}
def itemsD (kvs : List (List Key × D)) : List D := kvs.map fun q => .tup [keyT q.1, q.2]
def keysD (kvs : List (List Key × D)) : List D := kvs.map fun q => keyT q.1
theorem RepK.get {W : Pr} {H : Hp} : ∀ {ks : List (List Key × V)} {kvs : List (List Key × D)} {i : Nat} {k : List Key} {v : V}, RepK W H ks kvs → ks[i]? = some (k, v) → ∃ d, kvs[i]? = some (k, d) ∧ Rep W H v d
  | _, _, _, _, _, .nil, e => by simp at e
  | _, _, 0, _, _, .cons r _, e => by simp at e; obtain ⟨rfl, rfl⟩ := e; exact ⟨_, rfl, r⟩
  | _, _, i + 1, k, v, .cons _ t, e => by
    obtain ⟨u, h1, h2⟩ := RepK.get (i := i) (k := k) (v := v) t (by simpa using e)
    exact ⟨u, by simpa using h1, h2⟩
theorem wk_items {F : Fm} {O : Nat → Option Addr} {H1 : Hp} {d : Addr} {o : Obj} {ks : List (List Key × V)} {kvs : List (List Key × D)} (n : ¬ Wj F O d) (h : H1 d = some (.frz o (.dT ks))) (l : RepK (Ow F O) H1 ks kvs) : Wk F O H1 (ItiT d o ks) (itemsD kvs) where
  go := fun i H k hi => ⟨k.stay _ _ n h, by rw [l.len]; unfold itemsD at hi; rwa [List.length_map] at hi⟩
  stop := fun H k => ⟨k.stay _ _ n h, by rw [l.len]; unfold itemsD; rw [List.length_map]; exact Nat.le_refl _⟩
  yld := fun i H x H' dd W' k g al hd y => by
    obtain ⟨T, q, kk, v, e1, rfl, hT, hq, rfl⟩ := y
    obtain ⟨dv, e2, r⟩ := l.get e1
    unfold itemsD at hd
    rw [List.getElem?_map, e2] at hd
    cases hd
    have st : ∀ a o, H a = some o → upd H T (.tup [.ref q, v]) a = some o := new_ext hT
    refine ⟨st, .tup (fun z => (al T z).1 hT) upd_same (.cons ?_ (.cons ?_ .nil))⟩
    · exact .tup (fun z => (al q z).2 _ hq) (st _ _ hq) (kD_rep kk)
    · exact (r.ke k.wo g).ke (ke_ext st) fun a z => .inl z
theorem wk_keys {F : Fm} {O : Nat → Option Addr} {H1 : Hp} {d : Addr} {o : Obj} {ks : List (List Key × V)} {kvs : List (List Key × D)} (n : ¬ Wj F O d) (h : H1 d = some (.frz o (.dT ks))) (l : RepK (Ow F O) H1 ks kvs) : Wk F O H1 (Itkt d o ks) (keysD kvs) where
  go := fun i H k hi => ⟨k.stay _ _ n h, by rw [l.len]; unfold keysD at hi; rwa [List.length_map] at hi⟩
  stop := fun H k => ⟨k.stay _ _ n h, by rw [l.len]; unfold keysD; rw [List.length_map]; exact Nat.le_refl _⟩
  yld := fun i H x H' dd W' k g al hd y => by
    obtain ⟨rfl, kk, v, q, e1, rfl, hq⟩ := y
    obtain ⟨dv, e2, r⟩ := l.get e1
    unfold keysD at hd
    rw [List.getElem?_map, e2] at hd
    cases hd
    exact ⟨fun _ _ e => e, .tup (fun z => (al q z).2 _ hq) hq (kD_rep kk)⟩
/-! ### of a locked name; of a new dict -/
def lkD (f : List (List Key × D) → List D) (i : Nat) : DI := fun e => match sl e i with
  | .ldc kvs => .ok (f kvs) e
  | _ => .bad
def nwD (f : List (List Key × D) → List D) (a : DE) : DI := a.bind fun x => match x with
  | .dic kvs => M.pure (f kvs)
  | _ => fun _ => .bad
theorem lk_slot {K : PySem.W.Frag} {F : Fm} {O : Nat → Option Addr} {env : Env} {σ : L2.St} {H : Hp} {i : Nat} {f : List (List Key × D) → List D} {Q : List D → Env → Prop} {E : Str → List D → Env → Prop} (S : SR K F O env σ H) (w : Want (lkD f i) env Q E) :
    ∃ a ks kvs o, ¬ Wj F O a ∧ get1 σ i = some (.ref a) ∧ H a = some (.frz o (.dT ks)) ∧ RepK (Ow F O) H ks kvs ∧ Q (f kvs) env := by
  unfold Want lkD at w
  have s := S.slot i
  cases q : sl env i with
  | ldc kvs =>
    rw [q] at w s
    obtain ⟨h0, a, ks, o, h1, h2, h3, l⟩ := s
    exact ⟨a, ks, kvs, o, fun z => h1 z.2, h2, h3, l, w⟩
  | _ => rw [q] at w; exact w.elim
theorem id_itemsL {i : Nat} {x : Str} {elts : List Expr} {kk : Nat} {tpos : Pos} (hN : X.N[i]? = some x) (hv : Vis X.env.scope x) (hd : (x == ("__debug__" : Str)) = false := by decide) (hcd : (x == ("__classdict__" : Str)) = false := by decide)
    (hbase : attributeBase (.Name x p) "items" X.env (eval (.Name x p) X.env) = eval (.Name x p) X.env := by rfl) (hline : (apos.endLine == cpos.line) = true := by rfl) : ID X Wx (.Tuple elts kk tpos) (.Call (.Attribute (.Name x p) "items" apos) [] [] cpos) (lkD itemsD i) := by
  refine ⟨_, pi_itemsT (pe_var hN hv hd hcd) hbase hline, fun F O env σ H R S w => ?_⟩
  obtain ⟨a, ks, kvs, o, n, h2, h3, l, w⟩ := lk_slot S w
  exact ⟨_, get1_some h2, a, ks, rfl, .inl ⟨o, h3, w _ H S Ke.refl (wk_items n h3 l)⟩⟩
theorem id_keysL {i : Nat} {x : Str} (hN : X.N[i]? = some x) (hv : Vis X.env.scope x) (hd : (x == ("__debug__" : Str)) = false := by decide) (hcd : (x == ("__classdict__" : Str)) = false := by decide) : ID X Wx tg (.Name x p) (lkD keysD i) := by
  refine ⟨_, pi_keysT (pe_var hN hv hd hcd), fun F O env σ H R S w => ?_⟩
  obtain ⟨a, ks, kvs, o, n, h2, h3, l, w⟩ := lk_slot S w
  exact ⟨_, get1_some h2, a, ks, rfl, .inl ⟨o, h3, w _ H S Ke.refl (wk_keys n h3 l)⟩⟩
theorem nw_step {F : Fm} {O : Nat → Option Addr} {env e1 : Env} {σ : L2.St} {H H1 : Hp} {p : Addr} {ks : List (List Key × V)} {kvs : List (List Key × D)} {o : Obj} {K : PySem.W.Frag} (S : SR K F O env σ H) (hp : H p = none) (k1 : Ke (Jo O) H H1) (h1 : H1 p = some (.dT ks)) (l : RepK (Ow (F.ad p) O) H1 ks kvs) (S1 : SR K (F.ad p) O e1 σ H1) :
    SR K F O e1 σ (upd H1 p (.frz o (.dT ks))) ∧ Ke (Jo O) H (upd H1 p (.frz o (.dT ks))) ∧ ¬ Wj F O p ∧ RepK (Ow F O) (upd H1 p (.frz o (.dT ks))) ks kvs := by
  have now : ¬ Ow F O p := S.noW hp
  have h0 : F.H0 p = none := al_none S.al hp
  refine ⟨(SR.updP S1 (fun z => now (.inr z)) h0).unad, ⟨fun a u n e => ?_, fun a e => ?_⟩, fun z => now z.1, ?_⟩
  · rw [upd_ne (ne_of_none e hp)]; exact k1.stay a u n e
  · by_cases q : a = p
    · rw [q, upd_same]; simp
    · rw [upd_ne q]; exact k1.there a e
  · exact l.ke (Ke.mut (.inl (.inr rfl))) fun a z => .inl (z.elim (fun z => .inl (.inl z)) .inr)
theorem id_itemsN {elts : List Expr} {kk : Nat} {tpos : Pos} (ha : PD .fd X Wx a ma) (hbase : attributeBase a "items" X.env (eval a X.env) = eval a X.env := by rfl) (hline : (apos.endLine == cpos.line) = true := by rfl) : ID X Wx (.Tuple elts kk tpos) (.Call (.Attribute a "items" apos) [] [] cpos) (nwD itemsD ma) := by
  obtain ⟨ta, pa, qa⟩ := ha
  refine ⟨_, pi_itemsT pa hbase hline, fun F O env σ H R S w => ?_⟩
  refine qa F O env σ H _ S (w.bind.imp (fun dx e1 w1 x H1 S1 k1 p1 => ?_) fun _ _ _ z => z)
  obtain ⟨p, ks, kvs, rfl, rfl, hp, hp', l, Sp⟩ := p1
  refine ⟨p, ks, rfl, .inr ⟨hp', fun o => ?_⟩⟩
  obtain ⟨s1, s2, s3, s4⟩ := nw_step (o := o) S hp k1 hp' l Sp
  exact w1 _ _ s1 s2 (wk_items s3 upd_same s4)
theorem id_keysN (ha : PD .fd X Wx a ma) : ID X Wx tg a (nwD keysD ma) := by
  obtain ⟨ta, pa, qa⟩ := ha
  refine ⟨_, pi_keysT pa, fun F O env σ H R S w => ?_⟩
  refine qa F O env σ H _ S (w.bind.imp (fun dx e1 w1 x H1 S1 k1 p1 => ?_) fun _ _ _ z => z)
  obtain ⟨p, ks, kvs, rfl, rfl, hp, hp', l, Sp⟩ := p1
  refine ⟨p, ks, rfl, .inr ⟨hp', fun o => ?_⟩⟩
  obtain ⟨s1, s2, s3, s4⟩ := nw_step (o := o) S hp k1 hp' l Sp
  exact w1 _ _ s1 s2 (wk_keys s3 upd_same s4)
end
end AH
namespace AH
open PySem PySem.Spec PyProof.Rows L2
variable [TheK]
/-! ### a, b = x, y with new dicts among them -/
inductive PKd where
  | v | l | d
def parV : List (PKd × DE) → M (List D)
  | [] => M.pure []
  | (_, a) :: r => a.bind fun x => (parV r).bind fun xs => M.pure (x :: xs)
def parPutK : List (Nat × PKd) → List D → Env → R Out
  | (i, .v) :: r, x :: xs, e => if isFix (sl e i) then .bad else parPutK r xs (put e i (.val x))
  | (i, .l) :: r, .lst ys :: xs, e => if isFix (sl e i) || !decide (i < e.length) then .bad else parPutK r xs (put e i (.own ys))
  | (i, .d) :: r, .dic ys :: xs, e => if isFix (sl e i) || !decide (i < e.length) then .bad else parPutK r xs (put e i (.odc ys))
  | [], [], e => .ok .nx e
  | _, _, _ => .bad
def sParK (ts : List (Nat × PKd × DE)) : DS := (parV (ts.map (·.2))).bind fun ds => parPutK (ts.map fun t => (t.1, t.2.1)) ds
theorem parPutK_noex : ∀ (ts : List (Nat × PKd)) (ds : List D) (e : Env) c fs e2, parPutK ts ds e ≠ .ex c fs e2 := by
  intro ts
  induction ts with
  | nil => intro ds e c fs e2 h; cases ds <;> cases h
  | cons t ts ih =>
    intro ds e c fs e2 h
    obtain ⟨i, b⟩ := t
    cases ds with
    | nil => cases b <;> cases h
    | cons d ds => cases b with
      | v =>
        unfold parPutK at h
        split at h
        · cases h
        · exact ih _ _ _ _ _ h
      | l => cases d with
        | lst ys =>
          unfold parPutK at h
          split at h
          · cases h
          · exact ih _ _ _ _ _ h
        | _ => cases h
      | d => cases d with
        | dic ys =>
          unfold parPutK at h
          split at h
          · cases h
          · exact ih _ _ _ _ _ h
        | _ => cases h
inductive PRK (F : Fm) (O : Nat → Option Addr) (H : Hp) : List PKd → List V → List D → List Addr → Prop
  | nil : PRK F O H [] [] [] []
  | val {bs : List PKd} {vs : List V} {ds : List D} {ps : List Addr} {v : V} {d : D} : Rep (Ow F O) H v d → PRK F O H bs vs ds ps → PRK F O H (.v :: bs) (v :: vs) (d :: ds) ps
  | new {bs : List PKd} {vs : List V} {ds : List D} {ps : List Addr} {p : Addr} {us : List V} {ys : List D} : F.P p → F.N p → ¬ Jo O p → F.H0 p = none → p ∉ ps → H p = some (.lst us) → RepL (Ow F O) H us ys → PRK F O H bs vs ds ps → PRK F O H (.l :: bs) (.ref p :: vs) (.lst ys :: ds) (p :: ps)
  | dic {bs : List PKd} {vs : List V} {ds : List D} {ps : List Addr} {p : Addr} {us : List (List Key × V)} {ys : List (List Key × D)} : F.P p → F.N p → ¬ Jo O p → F.H0 p = none → p ∉ ps → H p = some (.dT us) → RepK (Ow F O) H us ys → PRK F O H bs vs ds ps → PRK F O H (.d :: bs) (.ref p :: vs) (.dic ys :: ds) (p :: ps)
theorem PRK.len {F : Fm} {O : Nat → Option Addr} {H : Hp} {bs : List PKd} {vs : List V} {ds : List D} {ps : List Addr} (r : PRK F O H bs vs ds ps) : vs.length = bs.length := by
  induction r with
  | nil => rfl
  | val _ _ ih => simp [ih]
  | new _ _ _ _ _ _ _ _ ih => simp [ih]
  | dic _ _ _ _ _ _ _ _ ih => simp [ih]
theorem PRK.go {F F' : Fm} {O O' : Nat → Option Addr} {H : Hp} {bs : List PKd} {vs : List V} {ds : List D} {ps : List Addr} (r : PRK F O H bs vs ds ps) (g : ∀ a, Ow F' O' a → Ow F O a) (h0 : F'.H0 = F.H0) : (∀ p ∈ ps, F.P p → F'.P p) → (∀ p ∈ ps, F.N p → F'.N p) → (∀ p ∈ ps, ¬ Jo O p → ¬ Jo O' p) → PRK F' O' H bs vs ds ps := by
  induction r with
  | nil => intro _ _ _; exact .nil
  | val r l ih => intro a b c; exact .val (r.sub fun a z => .inl (g a z)) (ih a b c)
  | new h1 h2 h3 h4 h5 h6 h7 l ih =>
    intro a b c
    exact .new (a _ List.mem_cons_self h1) (b _ List.mem_cons_self h2) (c _ List.mem_cons_self h3) (by rw [h0]; exact h4) h5 h6 (h7.sub fun a z => .inl (g a z)) (ih (fun p hp => a p (List.mem_cons_of_mem _ hp)) (fun p hp => b p (List.mem_cons_of_mem _ hp)) fun p hp => c p (List.mem_cons_of_mem _ hp))
  | dic h1 h2 h3 h4 h5 h6 h7 l ih =>
    intro a b c
    exact .dic (a _ List.mem_cons_self h1) (b _ List.mem_cons_self h2) (c _ List.mem_cons_self h3) (by rw [h0]; exact h4) h5 h6 (h7.sub fun a z => .inl (g a z)) (ih (fun p hp => a p (List.mem_cons_of_mem _ hp)) (fun p hp => b p (List.mem_cons_of_mem _ hp)) fun p hp => c p (List.mem_cons_of_mem _ hp))
theorem par_putK {K : PySem.W.Frag} {H : Hp} : ∀ {ts : List (Nat × PKd)} {F1 : Fm} {O : Nat → Option Addr} {e e2 : Env} {σ : L2.St} {vs : List V} {ds : List D} {ps : List Addr} {o : Out}, SR K F1 O e σ H → PRK F1 O H (ts.map (·.2)) vs ds ps → parPutK ts ds e = .ok o e2 →
    o = .nx ∧ ∃ O' F2, SR K F2 O' e2 (setL σ (ts.map (·.1)) vs) H ∧ (F2.ba = F1.ba ∧ F2.H0 = F1.H0 ∧ (∀ a, F1.P a → a ∉ ps → F2.P a) ∧ (∀ a, F1.N a → a ∉ ps → F2.N a)) ∧ ∀ a, Jo O' a → Jo O a ∨ a ∈ ps
  | [], F1, O, e, e2, σ, vs, ds, ps, o, S, r, h => by
    cases r
    cases h
    exact ⟨rfl, O, F1, S, ⟨rfl, rfl, fun _ z _ => z, fun _ z _ => z⟩, fun _ z => .inl z⟩
  | (i, .v) :: ts, F1, O, e, e2, σ, vs, ds, ps, o, S, r, h => by
    cases r with
    | @val _ vs' ds' _ v d r l =>
      unfold parPutK at h
      cases hf : isFix (sl e i) with
      | true => simp [hf] at h
      | false =>
        simp only [hf] at h
        obtain ⟨ho, O', F2, S2, f, j⟩ := par_putK (ts := ts) (S.setVal (i := i) r) (l.go (fun a z => ow_setN z) rfl (fun _ _ z => z) (fun _ _ z => z) fun _ _ n z => n (jo_setN z)) h
        exact ⟨ho, O', F2, S2, f, fun a z => (j a z).elim (fun z => .inl (jo_setN z)) .inr⟩
  | (i, .l) :: ts, F1, O, e, e2, σ, vs, ds, ps, o, S, r, h => by
    cases r with
    | @new _ vs' ds' ps' p us ys h1 h2 h3 h4 h5 h6 h7 l =>
      unfold parPutK at h
      cases hf : isFix (sl e i) || !decide (i < e.length) with
      | true => simp [hf] at h
      | false =>
        simp only [hf] at h
        obtain ⟨_, hlen⟩ := Bool.or_eq_false_iff.mp hf
        have hl : i < e.length := by simpa using hlen
        have eF := rm_ad h1 h2
        have S' : SR K ((F1.rm p).ad p) O e σ H := by rw [eF]; exact S
        have g : ∀ a, Ow (F1.rm p) (setO O i (some p)) a → Ow F1 O a := fun a z => by
          have := ow_setS z
          rw [eF] at this
          exact this
        have S1 := S'.setNew (i := i) (s := .own ys) h3 hl ⟨p, us, setO_same, ⟨h4, fun z => z.2 rfl⟩, rfl, h6, h7.sub fun a z => .inl (g a z)⟩
        obtain ⟨ho, O', F2, S2, ⟨f1, f2, f3, f4⟩, j⟩ := par_putK (ts := ts) S1 (l.go (F' := F1.rm p) (O' := setO O i (some p)) g rfl (fun q hq z => ⟨z, fun e => h5 (e ▸ hq)⟩) (fun q hq z => ⟨z, fun e => h5 (e ▸ hq)⟩) fun q hq n z => (jo_setS z).elim n fun e => h5 (e ▸ hq)) h
        refine ⟨ho, O', F2, S2, ⟨f1, f2, fun a z n => f3 a ⟨z, fun e => n (by rw [e]; exact List.mem_cons_self)⟩ fun q => n (List.mem_cons_of_mem _ q), fun a z n => f4 a ⟨z, fun e => n (by rw [e]; exact List.mem_cons_self)⟩ fun q => n (List.mem_cons_of_mem _ q)⟩, fun a z => ?_⟩
        rcases j a z with z | z
        · rcases jo_setS z with z | z
          · exact .inl z
          · exact .inr (by rw [z]; exact List.mem_cons_self)
        · exact .inr (List.mem_cons_of_mem _ z)
  | (i, .d) :: ts, F1, O, e, e2, σ, vs, ds, ps, o, S, r, h => by
    cases r with
    | @dic _ vs' ds' ps' p us ys h1 h2 h3 h4 h5 h6 h7 l =>
      unfold parPutK at h
      cases hf : isFix (sl e i) || !decide (i < e.length) with
      | true => simp [hf] at h
      | false =>
        simp only [hf] at h
        obtain ⟨_, hlen⟩ := Bool.or_eq_false_iff.mp hf
        have hl : i < e.length := by simpa using hlen
        have eF := rm_ad h1 h2
        have S' : SR K ((F1.rm p).ad p) O e σ H := by rw [eF]; exact S
        have g : ∀ a, Ow (F1.rm p) (setO O i (some p)) a → Ow F1 O a := fun a z => by
          have := ow_setS z
          rw [eF] at this
          exact this
        have S1 := S'.setNew (i := i) (s := .odc ys) h3 hl ⟨p, us, setO_same, ⟨h4, fun z => z.2 rfl⟩, rfl, h6, h7.sub fun a z => .inl (g a z)⟩
        obtain ⟨ho, O', F2, S2, ⟨f1, f2, f3, f4⟩, j⟩ := par_putK (ts := ts) S1 (l.go (F' := F1.rm p) (O' := setO O i (some p)) g rfl (fun q hq z => ⟨z, fun e => h5 (e ▸ hq)⟩) (fun q hq z => ⟨z, fun e => h5 (e ▸ hq)⟩) fun q hq n z => (jo_setS z).elim n fun e => h5 (e ▸ hq)) h
        refine ⟨ho, O', F2, S2, ⟨f1, f2, fun a z n => f3 a ⟨z, fun e => n (by rw [e]; exact List.mem_cons_self)⟩ fun q => n (List.mem_cons_of_mem _ q), fun a z n => f4 a ⟨z, fun e => n (by rw [e]; exact List.mem_cons_self)⟩ fun q => n (List.mem_cons_of_mem _ q)⟩, fun a z => ?_⟩
        rcases j a z with z | z
        · rcases jo_setS z with z | z
          · exact .inl z
          · exact .inr (by rw [z]; exact List.mem_cons_self)
        · exact .inr (List.mem_cons_of_mem _ z)
def ParD (X : Cx) (Wx : WX) (es : List Expr) (ks : List (PKd × DE)) : Prop := ∃ t : TA, PA X es t ∧ ∀ (F : Fm) (O : Nat → Option Addr) (env : Env) (σ : L2.St) (H : Hp) (Q : List V → Hp → Prop), SR X.K F O env σ H →
  Want (parV ks) env (fun ds e1 => ∀ vs F1 H1 ps, FX F F1 H → SR X.K F1 O e1 σ H1 → Ke (Jo O) H H1 → PRK F1 O H1 (ks.map (·.1)) vs ds ps → (∀ p ∈ ps, H p = none) → Q vs H1) (XW X.K F O σ H Wx) → t σ H Q
section
variable {fl : Fl} {X : Cx} {Wx : WX} {e a b c d tg iter elt : Expr} {ma mb mc md : DE} {pos p : Pos} {st : Stmt} {es : List Expr} {ks : List (PKd × DE)}
theorem gp_nil : ParD X Wx [] [] := ⟨_, pa_nil, fun F O env σ H Q S w => w [] F H [] .refl S .refl .nil (fun _ h => by cases h)⟩
theorem gp_val (ha : PD .s X Wx e ma) (hr : ParD X Wx es ks) (hs : starEach (e :: es) X.env = (false, eval e X.env) :: starEach es X.env := by rfl) : ParD X Wx (e :: es) ((.v, ma) :: ks) := by
  obtain ⟨ta, pa, qa⟩ := ha
  obtain ⟨tr, pr, qr⟩ := hr
  refine ⟨_, pa_cons pa pr hs, fun F O env σ H Q S w => qa F O env σ H _ S ((Want.bind (m := ma) w).imp (fun d e1 w1 v H1 S1 k1 r1 => ?_) fun _ _ _ z => z)⟩
  refine qr F O e1 σ H1 _ S1 ((Want.bind w1).imp (fun xs e2 w2 vs F1 H2 ps x S2 k2 ar hq => ?_) (XW.later k1))
  exact w2 (v :: vs) F1 H2 ps (FX.refl.trans x k1.there) S2 (k1.trans k2) (.val (r1.ke k2.ow fun a z => z.elim (fun z => (x.pn a z).elim (fun z => .inl (.inl z)) .inr) fun z => .inl (.inr z)) ar) fun q h => none_back k1.there (hq q h)
theorem gp_new (ha : PD .f X Wx e ma) (hr : ParD X Wx es ks) (hs : starEach (e :: es) X.env = (false, eval e X.env) :: starEach es X.env := by rfl) : ParD X Wx (e :: es) ((.l, ma) :: ks) := by
  obtain ⟨ta, pa, qa⟩ := ha
  obtain ⟨tr, pr, qr⟩ := hr
  refine ⟨_, pa_cons pa pr hs, fun F O env σ H Q S w => qa F O env σ H _ S ((Want.bind (m := ma) w).imp (fun d e1 w1 v H1 S1 k1 r1 => ?_) fun _ _ _ z => z)⟩
  obtain ⟨p, us, ys, rfl, rfl, hp, hp', l, S1'⟩ := r1
  have x1 : FX F (F.ad p) H := FX.ad hp
  refine qr (F.ad p) O e1 σ H1 _ S1' ((Want.bind w1).imp (fun xs e2 w2 vs F1 H2 ps x S2 k2 ar hq => ?_) (XW.fx x1 k1))
  have nj : ¬ Jo O p := fun z => S.prot p (.inr z) hp
  exact w2 (.ref p :: vs) F1 H2 (p :: ps) (x1.trans x k1.there) S2 (k1.trans k2)
    (.new (x.p p (.inr rfl)) (x.n p (.inr rfl)) nj (by rw [x.h0]; exact al_none S.al hp) (fun z => by have := hq p z; rw [hp'] at this; cases this) (k2.stay _ _ nj hp') (l.ke k2.ow fun a z => z.elim (fun z => (x.pn a z).elim (fun z => .inl (.inl z)) .inr) fun z => .inl (.inr z)) ar)
    fun q h => by
      rcases List.mem_cons.mp h with rfl | h
      · exact hp
      · exact none_back k1.there (hq q h)
theorem gp_dic (ha : PD .fd X Wx e ma) (hr : ParD X Wx es ks) (hs : starEach (e :: es) X.env = (false, eval e X.env) :: starEach es X.env := by rfl) : ParD X Wx (e :: es) ((.d, ma) :: ks) := by
  obtain ⟨ta, pa, qa⟩ := ha
  obtain ⟨tr, pr, qr⟩ := hr
  refine ⟨_, pa_cons pa pr hs, fun F O env σ H Q S w => qa F O env σ H _ S ((Want.bind (m := ma) w).imp (fun d e1 w1 v H1 S1 k1 r1 => ?_) fun _ _ _ z => z)⟩
  obtain ⟨p, us, ys, rfl, rfl, hp, hp', l, S1'⟩ := r1
  have x1 : FX F (F.ad p) H := FX.ad hp
  refine qr (F.ad p) O e1 σ H1 _ S1' ((Want.bind w1).imp (fun xs e2 w2 vs F1 H2 ps x S2 k2 ar hq => ?_) (XW.fx x1 k1))
  have nj : ¬ Jo O p := fun z => S.prot p (.inr z) hp
  exact w2 (.ref p :: vs) F1 H2 (p :: ps) (x1.trans x k1.there) S2 (k1.trans k2)
    (.dic (x.p p (.inr rfl)) (x.n p (.inr rfl)) nj (by rw [x.h0]; exact al_none S.al hp) (fun z => by have := hq p z; rw [hp'] at this; cases this) (k2.stay _ _ nj hp') (l.ke k2.ow fun a z => z.elim (fun z => (x.pn a z).elim (fun z => .inl (.inl z)) .inr) fun z => .inl (.inr z)) ar)
    fun q h => by
      rcases List.mem_cons.mp h with rfl | h
      · exact hp
      · exact none_back k1.there (hq q h)
theorem parK_of {ts : List (Nat × PKd × DE)} (ha : ParD X Wx es (ts.map (·.2))) (hp : ∀ ta : TA, PA X es ta → PS X st (fun D σ H => ta σ H fun vs H1 => vs.length = ts.length ∧ D.nx (setL σ (ts.map (·.1)) vs) H1)) : SD fl X Wx st (sParK ts) := by
  obtain ⟨ta, pa, qa⟩ := ha
  refine ⟨_, hp ta pa, fun F O env σ H D S w => ?_⟩
  refine qa F O env σ H _ S ((Want.bind w).imp (fun ds e1 w1 vs F1 H1 ps x S1 k1 r hq => ?_) XWs.xw)
  refine ⟨by rw [r.len]; simp, ?_⟩
  unfold Want at w1
  cases hpp : parPutK (ts.map fun t => (t.1, t.2.1)) ds e1 with
  | bad => simp only [hpp] at w1
  | ex c fs e2 => exact absurd hpp (parPutK_noex _ _ _ _ _ _)
  | ok o e2 =>
    simp only [hpp] at w1
    have e1' : (ts.map (·.2)).map (·.1) = (ts.map fun t => (t.1, t.2.1)).map (·.2) := by rw [List.map_map, List.map_map]; rfl
    have e2' : ts.map (·.1) = (ts.map fun t => (t.1, t.2.1)).map (·.1) := by rw [List.map_map]; rfl
    rw [e1'] at r
    obtain ⟨rfl, O', F2, S2, ⟨f1, f2, f3, f4⟩, j⟩ := par_putK S1 r hpp
    rw [← e2'] at S2
    have ext : FX F F2 (fun _ => none) := ⟨f1.trans x.ba, f2.trans x.h0, fun a z => f3 a (x.p a z) fun q => S.prot a (.inl z) (hq a q), fun a z => f4 a (x.n a z) fun q => S.nal a z (hq a q), fun _ _ => .inr rfl, fun _ _ => .inr rfl⟩
    exact w1 O' _ H1 (S2.down ext) ⟨k1, fun a z => (j a z).elim .inl fun z => .inr (hq a z)⟩
theorem sd_parK2 {i j : Nat} {bi bj : PKd} {x y : Str} {px py pt : Pos} {kt k2 pt2} (hc : X.calm = true) (hN : X.N.Nodup) (hi : X.N[i]? = some x) (hj : X.N[j]? = some y) (hij : i ≠ j) (hx : X.env.scope.names.lookup x = some .local) (hy : X.env.scope.names.lookup y = some .local)
    (ha : ParD X Wx [a, b] [(bi, ma), (bj, mb)]) (hw : swappedStores [.Tuple [.Name x px, .Name y py] kt pt] (.Tuple [a, b] k2 pt2) X.env = pure (some [x, y]) := by rfl) (hs : swapsWithSole [.Tuple [.Name x px, .Name y py] kt pt] (.Tuple [a, b] k2 pt2) pos.line X.env = pure false := by rfl) :
    SD fl X Wx (.Assign [.Tuple [.Name x px, .Name y py] kt pt] (.Tuple [a, b] k2 pt2) pos) (sParK [(i, bi, ma), (j, bj, mb)]) :=
  parK_of (ts := [(i, bi, ma), (j, bj, mb)]) ha fun ta pa => ⟨fun pins s σ H D I h => (ps_par hc hN hi hj hij hx hy pa hw hs).run pins s σ H D I (by
    have e : (fun (vs : List V) (H1 : Hp) => vs.length = 2 ∧ D.nx (setL σ [i, j] vs) H1) = fun vs H1 => ∃ v w, vs = [v, w] ∧ D.nx ((σ.set i (some v)).set j (some w)) H1 := by
      funext vs H1
      apply propext
      constructor
      · rintro ⟨hl, h⟩
        match vs, hl, h with
        | [v, w], _, h => exact ⟨v, w, rfl, h⟩
      · rintro ⟨v, w, rfl, h⟩
        exact ⟨rfl, h⟩
    have h : ta σ H (fun (vs : List V) (H1 : Hp) => vs.length = 2 ∧ D.nx (setL σ [i, j] vs) H1) := h
    rw [e] at h
    exact h)⟩
theorem sd_parK3 {i j l : Nat} {bi bj bl : PKd} {x y z : Str} {px py pz pt : Pos} {kt k2 pt2} (hc : X.calm = true) (hN : X.N.Nodup) (hi : X.N[i]? = some x) (hj : X.N[j]? = some y) (hl : X.N[l]? = some z) (hij : i ≠ j) (hil : i ≠ l) (hjl : j ≠ l) (hx : X.env.scope.names.lookup x = some .local) (hy : X.env.scope.names.lookup y = some .local) (hz : X.env.scope.names.lookup z = some .local)
    (ha : ParD X Wx [a, b, c] [(bi, ma), (bj, mb), (bl, mc)]) (hw : swappedStores [.Tuple [.Name x px, .Name y py, .Name z pz] kt pt] (.Tuple [a, b, c] k2 pt2) X.env = pure (some [x, y, z]) := by rfl) (hs : swapsWithSole [.Tuple [.Name x px, .Name y py, .Name z pz] kt pt] (.Tuple [a, b, c] k2 pt2) pos.line X.env = pure false := by rfl) :
    SD fl X Wx (.Assign [.Tuple [.Name x px, .Name y py, .Name z pz] kt pt] (.Tuple [a, b, c] k2 pt2) pos) (sParK [(i, bi, ma), (j, bj, mb), (l, bl, mc)]) :=
  parK_of (ts := [(i, bi, ma), (j, bj, mb), (l, bl, mc)]) ha fun ta pa => ⟨fun pins s σ H D I h => (ps_par3 hc hN hi hj hl hij hil hjl hx hy hz pa hw hs).run pins s σ H D I (by
    have e : (fun (vs : List V) (H1 : Hp) => vs.length = 3 ∧ D.nx (setL σ [i, j, l] vs) H1) = fun vs H1 => ∃ u v w, vs = [u, v, w] ∧ D.nx (((σ.set i (some u)).set j (some v)).set l (some w)) H1 := by
      funext vs H1
      apply propext
      constructor
      · rintro ⟨hl, h⟩
        match vs, hl, h with
        | [u, v, w], _, h => exact ⟨u, v, w, rfl, h⟩
      · rintro ⟨u, v, w, rfl, h⟩
        exact ⟨rfl, h⟩
    have h : ta σ H (fun (vs : List V) (H1 : Hp) => vs.length = 3 ∧ D.nx (setL σ [i, j, l] vs) H1) := h
    rw [e] at h
    exact h)⟩
end
end AH
namespace AH
open PySem PySem.Spec PyProof.Rows L2
variable [TheK]
/-! ### the same where a name is a cell: by way of a tuple -/
theorem PRK.ext {F : Fm} {O : Nat → Option Addr} {H H' : Hp} {bs : List PKd} {vs : List V} {ds : List D} {ps : List Addr} (r : PRK F O H bs vs ds ps) (k : ∀ a o, H a = some o → H' a = some o) : PRK F O H' bs vs ds ps := by
  induction r with
  | nil => exact .nil
  | val r l ih => exact .val (r.mono (ke_ext k)) ih
  | new h1 h2 h3 h4 h5 h6 h7 l ih => exact .new h1 h2 h3 h4 h5 (k _ _ h6) (h7.mono (ke_ext k)) ih
  | dic h1 h2 h3 h4 h5 h6 h7 l ih => exact .dic h1 h2 h3 h4 h5 (k _ _ h6) (h7.mono (ke_ext k)) ih
section
variable {fl : Fl} {X : Cx} {Wx : WX} {e a b c d tg iter elt : Expr} {ma mb mc md : DE} {pos p : Pos} {st : Stmt} {es : List Expr} {ks : List (PKd × DE)}
theorem parT_end {ts : List (Nat × PKd × DE)} {F F1 : Fm} {O : Nat → Option Addr} {env e1 : Env} {σ : L2.St} {H H1 : Hp} {D : Ends} {ds : List AH.D} {vs : List V} {ps : List Addr} {T : Addr} (S : SR X.K F O env σ H) (w1 : Want (parPutK (ts.map fun t => (t.1, t.2.1)) ds) e1 (Post fl X.K F O H D) (XWs X.K F O H Wx)) (x : FX F F1 H) (S1 : SR X.K F1 O e1 σ H1) (k1 : Ke (Jo O) H H1) (r : PRK F1 O H1 ((ts.map (·.2)).map (·.1)) vs ds ps) (hq : ∀ p ∈ ps, H p = none) (hT : H1 T = none) : D.nx (setL σ (ts.map (·.1)) vs) (upd H1 T (.tup vs)) := by
  unfold Want at w1
  cases hpp : parPutK (ts.map fun t => (t.1, t.2.1)) ds e1 with
  | bad => simp only [hpp] at w1
  | ex c fs e2 => exact absurd hpp (parPutK_noex _ _ _ _ _ _)
  | ok o e2 =>
    simp only [hpp] at w1
    have e1' : (ts.map (·.2)).map (·.1) = (ts.map fun t => (t.1, t.2.1)).map (·.2) := by rw [List.map_map, List.map_map]; rfl
    have e2' : ts.map (·.1) = (ts.map fun t => (t.1, t.2.1)).map (·.1) := by rw [List.map_map]; rfl
    rw [e1'] at r
    have kx : ∀ a o, H1 a = some o → upd H1 T (.tup vs) a = some o := new_ext hT
    obtain ⟨rfl, O', F2, S2, ⟨f1, f2, f3, f4⟩, j⟩ := par_putK (S1.ext kx) (r.ext kx) hpp
    rw [← e2'] at S2
    have ext : FX F F2 (fun _ => none) := ⟨f1.trans x.ba, f2.trans x.h0, fun a z => f3 a (x.p a z) fun q => S.prot a (.inl z) (hq a q), fun a z => f4 a (x.n a z) fun q => S.nal a z (hq a q), fun _ _ => .inr rfl, fun _ _ => .inr rfl⟩
    exact w1 O' _ _ (S2.down ext) ⟨k1.trans (ke_ext kx), fun a z => (j a z).elim .inl fun z => .inr (hq a z)⟩
theorem two_le : 2 ≤ sizeLine := by decide
theorem three_le : 3 ≤ sizeLine := by decide
theorem sd_parT2 {i j : Nat} {bi bj : PKd} {x y : Str} {px py pt : Pos} {kt k2 pt2} (hc : X.calm = true) (hN : X.N.Nodup) (hi : X.N[i]? = some x) (hj : X.N[j]? = some y) (hx : Loc X.env.scope x) (hy : Loc X.env.scope y) (ha : ParD X Wx [a, b] [(bi, ma), (bj, mb)])
    (hfx : X.fn x = true ∨ X.env.scope.names.lookup x = some .local := by first | exact .inl rfl | exact .inr rfl) (hfy : X.fn y = true ∨ X.env.scope.names.lookup y = some .local := by first | exact .inl rfl | exact .inr rfl)
    (hs : swapsWithSole [.Tuple [.Name x px, .Name y py] kt pt] (.Tuple [a, b] k2 pt2) pos.line X.env = pure false := by rfl) (hw : swappedStores [.Tuple [.Name x px, .Name y py] kt pt] (.Tuple [a, b] k2 pt2) X.env = pure none := by rfl) (h1 : (assignEach [.Tuple [.Name x px, .Name y py] kt pt] X.env).map (·.2) = [assign (.Tuple [.Name x px, .Name y py] kt pt) X.env] := by rfl)
    (hn : (assignEach [.Name x px, .Name y py] X.env).length = 2 := by rfl) (hst : (assignEach [.Name x px, .Name y py] X.env).findIdx? (·.1) = none := by rfl) :
    SD fl X Wx (.Assign [.Tuple [.Name x px, .Name y py] kt pt] (.Tuple [a, b] k2 pt2) pos) (sParK [(i, bi, ma), (j, bj, mb)]) := by
  obtain ⟨ta, pa, qa⟩ := ha
  refine ⟨_, ps_asg (pe_tup pa) (pg_tup hc (pgs_cons (pg_name hN hi hx hfx) (pgs_cons (pg_name hN hj hy hfy) pgs_nil)) hn hst) hs hw h1, fun F O env σ H D S w => ?_⟩
  refine qa F O env σ H _ S ((Want.bind w).imp (fun ds e1 w1 vs F1 H1 ps x S1 k1 r hq => ?_) XWs.xw)
  have hl : vs.length = 2 := r.len
  match vs, hl, r with
  | [v, u], _, r => exact ⟨two_le, fun T hT => ⟨T, _, rfl, .inl (.inl upd_same), rfl, v, [u], rfl, u, [], rfl, rfl, parT_end (ts := [(i, bi, ma), (j, bj, mb)]) S w1 x S1 k1 r hq hT⟩⟩
theorem sd_parT3 {i j l : Nat} {bi bj bl : PKd} {x y z : Str} {px py pz pt : Pos} {kt k2 pt2} (hc : X.calm = true) (hN : X.N.Nodup) (hi : X.N[i]? = some x) (hj : X.N[j]? = some y) (hk : X.N[l]? = some z) (hx : Loc X.env.scope x) (hy : Loc X.env.scope y) (hz : Loc X.env.scope z) (ha : ParD X Wx [a, b, c] [(bi, ma), (bj, mb), (bl, mc)])
    (hfx : X.fn x = true ∨ X.env.scope.names.lookup x = some .local := by first | exact .inl rfl | exact .inr rfl) (hfy : X.fn y = true ∨ X.env.scope.names.lookup y = some .local := by first | exact .inl rfl | exact .inr rfl) (hfz : X.fn z = true ∨ X.env.scope.names.lookup z = some .local := by first | exact .inl rfl | exact .inr rfl)
    (hs : swapsWithSole [.Tuple [.Name x px, .Name y py, .Name z pz] kt pt] (.Tuple [a, b, c] k2 pt2) pos.line X.env = pure false := by rfl) (hw : swappedStores [.Tuple [.Name x px, .Name y py, .Name z pz] kt pt] (.Tuple [a, b, c] k2 pt2) X.env = pure none := by rfl) (h1 : (assignEach [.Tuple [.Name x px, .Name y py, .Name z pz] kt pt] X.env).map (·.2) = [assign (.Tuple [.Name x px, .Name y py, .Name z pz] kt pt) X.env] := by rfl)
    (hn : (assignEach [.Name x px, .Name y py, .Name z pz] X.env).length = 3 := by rfl) (hst : (assignEach [.Name x px, .Name y py, .Name z pz] X.env).findIdx? (·.1) = none := by rfl) :
    SD fl X Wx (.Assign [.Tuple [.Name x px, .Name y py, .Name z pz] kt pt] (.Tuple [a, b, c] k2 pt2) pos) (sParK [(i, bi, ma), (j, bj, mb), (l, bl, mc)]) := by
  obtain ⟨ta, pa, qa⟩ := ha
  refine ⟨_, ps_asg (pe_tup pa) (pg_tup hc (pgs_cons (pg_name hN hi hx hfx) (pgs_cons (pg_name hN hj hy hfy) (pgs_cons (pg_name hN hk hz hfz) pgs_nil))) hn hst) hs hw h1, fun F O env σ H D S w => ?_⟩
  refine qa F O env σ H _ S ((Want.bind w).imp (fun ds e1 w1 vs F1 H1 ps x S1 k1 r hq => ?_) XWs.xw)
  have hl : vs.length = 3 := r.len
  match vs, hl, r with
  | [v, u, t], _, r => exact ⟨three_le, fun T hT => ⟨T, _, rfl, .inl (.inl upd_same), rfl, v, [u, t], rfl, u, [t], rfl, t, [], rfl, rfl, parT_end (ts := [(i, bi, ma), (j, bj, mb), (l, bl, mc)]) S w1 x S1 k1 r hq hT⟩⟩
theorem boot_ValueError : bootBuiltins "ValueError" = some (.type "ValueError") := by decide +kernel
end
end AH
namespace AH
open PySem PySem.Spec PyProof.Rows L2
/-! ### enumerate over a list or a tuple -/
theorem enum_new1 {v : Value} {o : Obj} {H : Heap → Prop} (B : Begins v o H) :
    Meets (Builtin.«enumerate.__new__» ⟨[.type "enumerate", v], []⟩) (fun _ R s => H s.heap ∧
      R (.ok (.ret (.ref (s.heap.push o).objs.size))) { s with heap := (s.heap.push o).push { cls := .type "enumerate", data := .fields #[.none, .bool false, .ref s.heap.objs.size, rawInt 0, .none, .none] } }) :=
  .of_wp fun prog w A R s h => by
    obtain ⟨hp, g, d, tk, os⟩ := s; obtain ⟨h1, h⟩ := h
    have hsub := sub_enumerate
    have q1 : ∀ {A' : Around} {E : Value → Shared → Prop} {Q : Value → Shared → Prop}, Q (.ref hp.objs.size) ⟨hp.push o, g, d, tk, os⟩ → wpAny (model prog w) A' (pyIter v) Q E ⟨hp, g, d, tk, os⟩ :=
      fun q => B.iter prog w _ _ ⟨hp, g, d, tk, os⟩ _ h1 q
    wp_walk using q1
    refine wpAny_stack_any fun st => wpAny_pure ?_
    split
    · rename_i c _ _ _ _ _
      cases (c == Value.type "enumerate")
      · wp_walk using q1
        exact ⟨_, rfl, h⟩
      · wp_walk using q1
        exact ⟨_, rfl, h⟩
    · wp_walk using q1
      exact ⟨_, rfl, h⟩
theorem enum_begins1 {prog : Program} {w : World} {A : Around} {E : Value → Shared → Prop} {s : Shared} {v : Value} {o : Obj} {H : Heap → Prop} {Q : Value → Shared → Prop} (B : Begins v o H) (h1 : H s.heap)
    (h : ∀ h', IsEnum h' (s.heap.objs.size + 1) s.heap.objs.size 0 .none → h'.get? s.heap.objs.size = some o → h'.objs.size = s.heap.objs.size + 2 →
      (∀ b o, s.heap.get? b = some o → h'.get? b = some o) → Q (.ref (s.heap.objs.size + 1)) { s with heap := h' }) :
    wpAny (model prog w) A (call (.type "enumerate") [v]) Q E s := by
  refine callType_new F.called_enumerate (by decide) (F.typeCall_enumerate_1 _) (F.newCall_enumerate_1 _) (fun obj => F.args_object_init_2 obj _) F.entry_enumerate_new
    (enum_new1 B) ⟨h1, ?_⟩
  have hz : (s.heap.push o).objs.size = s.heap.objs.size + 1 := Heap.size_push ..
  show _ ∧ _
  rw [hz]
  have he : IsEnum ((s.heap.push o).push { cls := .type "enumerate", data := .fields #[.none, .bool false, .ref s.heap.objs.size, rawInt 0, .none, .none] }) (s.heap.objs.size + 1) s.heap.objs.size 0 .none := by
    have := Heap.get?_push_size (s.heap.push o) (o := { cls := .type "enumerate", data := .fields #[.none, .bool false, .ref s.heap.objs.size, rawInt 0, .none, .none] }) rfl
    rw [hz] at this; exact this
  refine ⟨⟨_, he, rfl⟩, h _ he (Heap.get?_push_of_some _ (Heap.get?_push_size _ B.free)) (by rw [Heap.size_push, hz]) fun b o x => Heap.get?_push_of_some _ (Heap.get?_push_of_some _ x)⟩
def IteK (k : Bool) (K : PySem.W.Frag) (a : Addr) : It :=
  ⟨fun i H => ∃ (xs : List V) (x : V), SqK k K H a xs ∧ xs[i]? = some x, fun i H v H' => ∃ T x, v = .ref T ∧ H T = none ∧ H' = upd H T (.tup [.int (i : Nat), x]) ∧ ∀ xs, SqK k K H a xs → xs[i]? = some x, fun i H => ∃ xs : List V, SqK k K H a xs ∧ i = xs.length⟩
theorem turn_enK {P : Program} {w : World} {K : PySem.W.Frag} {elts : List Expr} {kk : Nat} {tpos : Pos} {k : Bool} {a n : Nat} (ha : a < n) :
    Turn P w K (.Tuple elts kk tpos) (IteK k K a) [n + 1, n] (n + 1) (fun i h => (∃ old, IsEnum h (n + 1) n ((i : Nat) : Int) old) ∧ ItK k h n a i) where
  mem := by simp
  obj := fun i h st b hb => by
    obtain ⟨⟨old, he⟩, hi⟩ := st
    have e' : b = n + 1 ∨ b = n := by simpa using hb
    rcases e' with z | z
    · rw [z]; exact ⟨_, he, fun v q => nomatch q⟩
    · rw [z]; exact hi.obj
  keep := fun i h h' st kk => let ⟨⟨old, he⟩, hi⟩ := st; ⟨⟨old, kk _ (by simp) _ he⟩, hi.keep fun o q => kk _ (by simp) o q⟩
  item := by
    intro X hP hw hK hc i pins s σ H E I hf st hg
    subst hP hw hK
    obtain ⟨⟨old, he⟩, hit⟩ := st
    obtain ⟨xs, x, hq, hx⟩ := hg
    obtain ⟨its, rv, p, hz⟩ := Inv.sqK I hq
    obtain ⟨u, hu, ru⟩ := rv.get hx
    have hel : n + 1 < s.heap.objs.size := Heap.lt_size he
    have hh : X.A.in1.handled = none := I.ok.hd hc
    have il : i < its.toArray.size := by
      have := (List.getElem?_eq_some_iff.mp hu).1
      simpa using this
    refine wpAny_pyNext_enum_itemD (drawsK hh k n a (by first | omega | (show @Ne Nat _ _; omega)) its.toArray) he ⟨hit, p⟩ il (by first | omega | (show @Ne Nat _ _; omega)) (nin2 (by omega) (by omega)) fun y h' tk px ho st' hT hsz hk => ?_
    have ey : y = u := by
      have z : its[i]? = some y := by simpa using px
      rw [hu] at z; cases z; rfl
    subst ey
    refine ⟨_, rfl, wpAny_letOwnedTupleGo_enum (s := { s with heap := h', toks := tk + 1 }) ho fun h'' he' sb => ?_⟩
    have hT2 : h''.get? s.heap.objs.size = some { cls := .type "tuple", data := .seq #[.int i tk, y] } := (sb.2 _ (Nat.ne_of_gt hel)).trans hT
    have new : ObjOk X.prog X.w (upd H s.heap.objs.size (.tup [.int (i : Nat), x])) h'' s.heap.objs.size (.tup [.int (i : Nat), x]) :=
      ⟨by show 2 ≤ sizeLine; decide, [.int i tk, y], .cons ⟨_, rfl⟩ (.cons ru .nil), ⟨_, hT2, rfl, _, rfl⟩⟩
    have I1 : Inv X pins σ (upd H s.heap.objs.size (.tup [.int (i : Nat), x])) { s with heap := h'', toks := tk + 1 } :=
      I.turnedNew (t' := tk + 1) (ch := [n + 1, n]) (fun b ob hb q => (sb.2 b (fun z => hb (by simp [z]))).trans (hk b ob (fun z => hb (by simp [z])) (fun z => hb (by simp [z])) q)) hf (Nat.le_refl _) new
    refine ⟨.ref s.heap.objs.size, _, I1, rfl, ⟨_, x, rfl, I.hok.fresh (Nat.le_refl _), rfl, fun ys hy => by rw [Inv.sqK_inj I hy hq]; exact hx⟩, ⟨⟨y, ?_⟩, st'.1.keep fun o q => (sb.2 _ (by first | omega | (show @Ne Nat _ _; omega))).trans q⟩, fun b hb => ?_⟩
    · have e1 : ((i + 1 : Nat) : Int) = (i : Int) + 1 := by omega
      rw [e1]; exact he'
    · have hb' : b < s.heap.objs.size := by
        have e' : @Eq Nat b (n + 1) ∨ @Eq Nat b n := by simpa using hb
        have hel' : @LT.lt Nat _ (n + 1) s.heap.objs.size := hel
        show @LT.lt Nat _ b s.heap.objs.size
        omega
      rw [upd_ne (Nat.ne_of_lt hb')]
      exact (hf b hb).1
  done := by
    intro X hP hw hK hc i pins s σ H E I hf st hg
    subst hP hw hK
    obtain ⟨⟨old, he⟩, hit⟩ := st
    obtain ⟨xs, hq, hx⟩ := hg
    obtain ⟨its, rv, p, hz⟩ := Inv.sqK I hq
    have hl := rv.length
    have hh : X.A.in1.handled = none := I.ok.hd hc
    have ei : i = its.toArray.size := by simp; omega
    subst ei
    exact wpAny_pyNext_enum_endD (drawsK hh k n a (by first | omega | (show @Ne Nat _ _; omega)) its.toArray) he ⟨hit, p⟩ fun h' eb => ⟨rfl, I.turnedL (t' := s.toks) (ch := [n + 1, n]) (fun c o hb q => eb c o (fun z => hb (by simp [z])) q) hf⟩
  self := fun A i s Q E st h => let ⟨⟨_, he⟩, _⟩ := st; wpAny_pyIter_enum he h
variable [TheK]
def iEnumK (a : DE) : DI := a.bind fun x => match seqD x with
  | some xs => M.pure ((rng 0 xs.length).zip xs |>.map fun p => D.tup [p.1, p.2])
  | none => fun _ => .bad
section
variable {X : Cx} {Wx : WX} {a : Expr} {ma : DE} {p pos : Pos}
def tiEK (K : PySem.W.Frag) (ta : TA) : TI := fun σ H R => ta σ H fun vs H1 => ∃ (k : Bool) (a : Addr) (xs : List V), vs = [.ref a] ∧ SqK k K H1 a xs ∧ R (IteK k K a) H1
theorem pi_enK {e : Expr} {ta : TA} {tpos : Pos} {elts : List Expr} {kk : Nat} (hg : Gl X "enumerate") (hm : X.mg "enumerate" = none) (ha : PA X [e] ta) (hs : starEach [e] X.env = [(false, eval e X.env)] := by rfl) :
    PI X (.Tuple elts kk tpos) (.Call (.Name "enumerate" p) [e] [] pos) (tiEK X.K ta) := by
  refine ⟨fun pins s σ H R I h => Call_ (ld_blt I hg hm boot_enumerate (PyProof.Rows.callWith_type1 (thn (ha.run pos pins s σ H _ I h) fun us s1 ⟨vs, H1, I1, r1, q1⟩ => ?_) hs rfl))⟩
  obtain ⟨k, a, xs, ex, hq, q⟩ := q1
  subst ex
  cases r1 with
  | cons r rr =>
    cases rr
    cases r
    obtain ⟨its, rv, p1, l1⟩ := Inv.sqK I1 hq
    refine enum_begins1 (beginsK k a its.toArray) p1 fun h' he hit hsz hk => wpAny_pyIter_enum he ?_
    have I2 : Inv X pins σ H1 { s1 with heap := h' } := I1.kept (t' := s1.toks) hk
    refine ⟨s1.heap.objs.size + 1, [s1.heap.objs.size + 1, s1.heap.objs.size], _, _, H1, rfl, I2, turn_enK l1, ⟨⟨.none, he⟩, itK0 hit⟩, fun b hb => ?_, q⟩
    have e' : b = s1.heap.objs.size + 1 ∨ b = s1.heap.objs.size + 0 := by simpa using hb
    rcases e' with z | z <;> (rw [z]; exact fresh_of I1 rfl _)
theorem id_enK {elts : List Expr} {kk : Nat} {tpos : Pos} (hb : Bn X "enumerate" (.type "enumerate")) (ha : PD .s X Wx a ma) (hs : starEach [a] X.env = [(false, eval a X.env)] := by rfl) (hs2 : starEach [a] X.env = (false, eval a X.env) :: starEach [] X.env := by rfl) :
    ID X Wx (.Tuple elts kk tpos) (.Call (.Name "enumerate" p) [a] [] pos) (iEnumK ma) := by
  obtain ⟨ta, pa, qa⟩ := ha
  refine ⟨_, pi_enK hb.gl hb.mg (pa_cons pa pa_nil hs2) hs, fun F O env σ H R S w => ?_⟩
  refine qa F O env σ H _ S (w.bind.imp (fun dx e1 w1 x H1 S1 k1 p1 => ?_) fun _ _ _ z => z)
  cases q1 : seqD dx with
  | none => rw [q1] at w1; exact w1.elim
  | some xs =>
    rw [q1] at w1
    obtain ⟨ka, aa, va, rfl, la, sa⟩ := Rep.sqK (K := X.K) p1 q1
    have zn : ((rng 0 (xs.length : Int)).zip xs |>.map fun p => D.tup [p.1, p.2]).length = va.length := by rw [List.length_map, List.length_zip, rng0_len, la.len]; omega
    refine ⟨ka, aa, va, rfl, sa H1 .refl, w1 _ H1 S1 k1 ⟨fun i H3 k3 hi => ?_, fun H3 k3 => ?_, fun i H3 v H' d W' k3 g al hd yy => ?_⟩⟩
    · rw [zn] at hi
      exact ⟨va, va[i], sa H3 k3.wo, by simp [hi]⟩
    · rw [zn]
      exact ⟨va, sa H3 k3.wo, rfl⟩
    · obtain ⟨T, x, rfl, hT, rfl, hx⟩ := yy
      have hx := hx va (sa H3 k3.wo)
      rw [List.getElem?_map] at hd
      cases hz : ((rng 0 (xs.length : Int)).zip xs)[i]? with
      | none => rw [hz] at hd; cases hd
      | some q =>
        rw [hz] at hd
        cases hd
        obtain ⟨g1, g2⟩ := List.getElem?_zip_eq_some.mp hz
        have hi : i < xs.length := (List.getElem?_eq_some_iff.mp g2).1
        rw [rng0_get hi] at g1
        obtain ⟨v1, ev1, r1⟩ := la.get g2
        rw [hx] at ev1; cases ev1
        have st : ∀ a o, H3 a = some o → upd H3 T (.tup [.int (i : Nat), x]) a = some o := new_ext hT
        refine ⟨st, .tup (fun z => (al T z).1 hT) upd_same (.cons ?_ (.cons ?_ .nil))⟩
        · rw [← Option.some.inj g1]; exact .int _
        · exact (r1.ke k3.wo g).ke (ke_ext st) fun a z => .inl z
end
end AH
namespace AH
open PySem PySem.Spec PyProof.Rows L2
variable [TheK]
/-! ### xs[i] op= v, xs an own or a lent list of ints -/
def sAugI (g : Int → Int → Int) (i : Nat) (j a : DE) : DS := (ownL i).bind fun _ => j.bind fun k => (ownL i).bind fun xs => match k with
  | .int k => (match ixN xs.length k with
    | some n => (match xs[n]? with
      | some (.int u) => a.bind fun y => (ownL i).bind fun ys => (match y with
        | .int w => (match ixN ys.length k with
          | some m => fun e => .ok .nx (putL e i (ys.set m (.int (g u w))))
          | none => fun _ => .bad)
        | _ => fun _ => .bad)
      | _ => fun _ => .bad)
    | none => fun _ => .bad)
  | _ => fun _ => .bad
section
variable {fl : Fl} {X : Cx} {Wx : WX} {a b : Expr} {ma mb : DE} {pos p : Pos}
def rGetL : V → V → Hp → VK → Prop := fun x y H Q => ∃ p xs i j v, x = .ref p ∧ y = .int i ∧ H p = some (.lst xs) ∧ ixN xs.length i = some j ∧ xs[j]? = some v ∧ Q v H
theorem get_list : PGet X rGetL := by
  intro pins s σ H o i ov iv Q I ro ri h
  obtain ⟨p, xs, k, j, v, rfl, rfl, hp, hj, hv, q⟩ := h
  cases ro
  obtain ⟨t, rfl⟩ := ri
  obtain ⟨its, n, r, ho, hz⟩ := I.lst hp
  obtain ⟨h1, h2, h3, h4⟩ := ixN_seq hj
  obtain ⟨w, ew, rw'⟩ := r.get hv
  have hl := r.length
  have hn := line63
  have il : s.heap.IsList p its.toArray := ⟨_, ho, rfl, n, rfl⟩
  have fin : EP X pins σ Q w s := ⟨v, H, I, rw', q⟩
  by_cases h0 : 0 ≤ k
  · have hk : k.toNat = j := by
      rw [seqIndex_of h0 h4] at h1
      exact Option.some.inj h1
    exact wpAny_getItem_list il h0 (by omega) (by rw [hk]; simpa using ew) fin
  · have hk : (k + (its.toArray.size : Int)).toNat = j := by
      rw [seqIndex_neg (by omega) h3] at h1
      rw [List.size_toArray, ← hl]
      exact Option.some.inj h1
    exact wpAny_getItem_list_neg il (by omega) (by rw [List.size_toArray, ← hl]; exact h3) (by omega) (by rw [hk]; simpa using ew) fin
theorem sd_augL {g : Int → Int → Int} {op : Operator} {i : Nat} {x : Str} {p1 p2 : Pos} (hN : X.N[i]? = some x) (hv : Vis X.env.scope x) (ho : PIp X op (ipI g)) (hb : PD .s X Wx b mb) (ha : PD .s X Wx a ma)
    (has : ∀ ov iv new, augStore b ov iv new = (do holding [new, ov, iv] (setItem ov iv new); release [new, ov, iv] []; pure .next) := by intros; rfl)
    (hd : (x == ("__debug__" : Str)) = false := by decide) (hcd : (x == ("__classdict__" : Str)) = false := by decide) :
    SD fl X Wx (.AugAssign (.Subscript (.Name x p1) b p2) op a pos) (sAugI g i mb ma) := by
  obtain ⟨ta, pa, qa⟩ := ha
  obtain ⟨tb, pb, qb⟩ := hb
  refine ⟨_, ps_augS (pe_var hN hv hd hcd) pb get_list pa ho set_list has, fun F O env σ H D S w => ?_⟩
  obtain ⟨xs0, q, vs0, hO, hb0, hg, hq, l0, w1, _⟩ := w.bind.ownL S
  refine ⟨.ref q, get1_some hg, ?_⟩
  refine qb F O env σ H _ S (w1.bind.imp (fun dk e1 w2 k H1 S1 k1 p1 => ?_) XWs.xw)
  obtain ⟨xs, q', vs, hO', hb', hg', hq', l, w3, _⟩ := w2.bind.ownL S1
  obtain rfl : q' = q := Option.some.inj (hO'.symm.trans hO)
  cases p1 with
  | int k =>
    cases hj : ixN xs.length k with
    | none => simp only [hj] at w3; exact w3.elim
    | some j =>
      cases hx : xs[j]? with
      | none => simp only [hj, hx] at w3; exact w3.elim
      | some du =>
        simp only [hj, hx] at w3
        obtain ⟨v, ev, rv⟩ := l.get hx
        cases rv with
        | int u =>
          refine ⟨q', vs, k, j, _, rfl, rfl, hq', by rw [l.len]; exact hj, ev, ?_⟩
          refine qa F O e1 σ H1 _ S1 (Want.imp (Want.bind (m := ma) w3) (fun dy e2 w4 y H2 S2 k2 p2 => ?_) fun c fs e z => XW.later k1 c fs e (XWs.xw c fs e z))
          obtain ⟨ys, q2, vs2, hO2, hb2, hg2, hq2, l2, w5, f⟩ := w4.bind.ownL S2
          obtain rfl : q2 = q' := Option.some.inj (hO2.symm.trans hO')
          cases p2 with
          | int w0 =>
            cases hm : ixN ys.length k with
            | none => simp only [hm] at w5; exact w5.elim
            | some m =>
              simp only [hm] at w5
              refine ⟨u, w0, rfl, rfl, q2, vs2, k, m, rfl, rfl, hq2, by rw [l2.len]; exact hm, ?_⟩
              exact w5 O σ _ (f (vs2.set m _) (ys.set m _) (l2.set (.int _) m)) (.of (k1.trans (k2.trans (ke_mutJ hO))))
          | _ => exact w5.elim
        | _ => exact w3.elim
  | _ => exact w3.elim
end
end AH
namespace AH
open PySem PySem.Spec PyProof.Rows L2
variable [TheK]
/-! ### x is True, x is False: of bools alone -/
def tIsB (c : Bool) (a : DE) : DT := a.bind fun x => match x with
  | .bl d => M.pure (d == c)
  | _ => fun _ => .bad
section
variable {X : Cx} {Wx : WX} {a : Expr} {ma : DE} {pos p : Pos} {c : Bool} {j : Nat}
def tIsBv (c : Bool) (ta : TE) : TE := fun σ H Q => ta σ H fun x H1 => ∃ d, x = .bl d ∧ Q (.bl (d == c)) H1
theorem pc_isB {ta : TE} (ha : PE X a ta) : PC X .Is a (.Constant (.bool c) j p) (tIsBv c ta) := by
  refine ⟨fun pins s σ H Q I h => ?_⟩
  refine thn (ha.run pins s σ H _ I h) fun v s1 ⟨x, H1, I1, r1, q1⟩ => ?_
  obtain ⟨d, rfl, q⟩ := q1
  cases r1
  exact Constant_bool (is_bool ⟨.bl _, H1, I1, rfl, q⟩)
theorem pd_isB (ha : PD .s X Wx a ma) : PD .s X Wx (.Compare a [.Is] [.Constant (.bool c) j p] pos) (eB (tIsB c ma)) := by
  obtain ⟨ta, pa, qa⟩ := ha
  refine ⟨_, pe_cmp (pc_isB pa), fun F O env σ H Q S w => ?_⟩
  refine qa F O env σ H _ S (w.bind.bind.imp (fun dx e1 w1 x H1 S1 k1 p1 => ?_) fun _ _ _ z => z)
  cases p1 with
  | bl d => exact ⟨d, rfl, w1 _ H1 S1 k1 (.bl _)⟩
  | _ => exact w1.elim
theorem td_isB (ha : PD .s X Wx a ma) : TD X Wx (.Compare a [.Is] [.Constant (.bool c) j p] pos) (tIsB c ma) := by
  obtain ⟨ta, pa, qa⟩ := ha
  refine ⟨_, pt_cmp (pc_isB pa), fun F O env σ H Q S w => ?_⟩
  refine qa F O env σ H _ S (w.bind.imp (fun dx e1 w1 x H1 S1 k1 p1 => ?_) fun _ _ _ z => z)
  cases p1 with
  | bl d => exact ⟨d, rfl, _, rfl, w1 H1 S1 k1⟩
  | _ => exact w1.elim
end
end AH
namespace AH
open PySem PySem.Spec PyProof.Rows L2
variable [TheK]
/-! ### x = [f(..), ..]; if t: ..; x[0].append(v): the first item is changed in place -/
section
variable {K : PySem.W.Frag} {F : Fm} {O : Nat → Option Addr} {env : Env} {σ : L2.St} {H H' : Hp} {i : Nat}
theorem SR.setNo {v : V} (S : SR K F O env σ H) : SR K F (setO O i none) (put env i .no) (σ.set i (some v)) H where
  slot := fun j => by
    by_cases hj : j = i
    · subst hj
      by_cases hl : j < env.length
      · rw [sl_put_same _ _ _ hl]; exact setO_same
      · rw [put_out _ _ _ (by omega), sl_out _ _ (by omega)]; exact setO_same
    · rw [sl_put_ne _ _ _ _ hj, get1_ne hj]
      exact SlR.own (F := F) rfl rfl (setO_ne hj) (fun _ z => z) (fun a w => .inl (ow_setN w)) (fun a w => .inl (w.elim (fun w => .inl (jo_setN w)) .inr)) (S.slot j)
  inj := inj_setN S
  prot := fun a w => S.prot a (ow_setN w)
  keep := S.keep
  al := S.al
  len := by rw [put_len, List.length_set]; exact S.len
  nal := S.nal
  pt := S.pt
theorem noOwn_sl : ∀ {e : Env} (i : Nat), e.any isOwn = false → isOwn (sl e i) = false
  | [], _, _ => rfl
  | s :: r, 0, h => by simp only [List.any_cons, Bool.or_eq_false_iff] at h; exact h.1
  | s :: r, i + 1, h => by simp only [List.any_cons, Bool.or_eq_false_iff] at h; exact noOwn_sl (e := r) i h.2
theorem SR.noJo (S : SR K F O env σ H) (h : env.any isOwn = false) : ∀ a, ¬ Jo O a := fun a z => by
  obtain ⟨j, z⟩ := z
  have := S.notOwn (noOwn_sl j h)
  rw [this] at z
  cases z
end
def noNx (m : DS) : DS := fun e => match m e with
  | .ok .nx _ => .bad
  | z => z
def sNst (i : Nat) (m0 : DE) (mr : DL) (t : DT) (r : DS) (mv : DE) (n : DS) : DS :=
  m0.bind fun d0 => mr.bind fun ds => match d0 with
    | .lst ys => fun e => if e.any isOwn || !decide (i < e.length) || !lenOk (ds.length + 1) || !lenOk (ys.length + 1) then .bad else
        match t (put e i (.val (.lst (.lst ys :: ds)))) with
        | .ok true e1 => noNx r e1
        | .ok false _ => (mv.bind fun _ => n) (put e i .no)
        | _ => .bad
    | _ => fun _ => .bad
section
variable {fl : Fl} {X : Cx} {Wx : WX} {e0 c a : Expr} {es : List Expr} {sa rest : List Stmt} {m0 mv : DE} {mr : DL} {t : DT} {r n : DS} {pos pl p pos2 p1 p2 p3 pos3 ps pz : Pos}
theorem Want.noNx {K : PySem.W.Frag} {F : Fm} {O : Nat → Option Addr} {H : Hp} {Z Z' : Ends} {e : Env} {E : Str → List D → Env → Prop} (h : Want (AH.noNx r) e (Post fl K F O H Z) E) (h1 : Z'.bk = Z.bk) (h2 : Z'.ct = Z.ct) (h3 : Z'.rt = Z.rt) : Want r e (Post fl K F O H Z') E := by
  unfold Want AH.noNx at h
  unfold Want
  cases hm : r e with
  | bad => rw [hm] at h; exact h
  | ex c fs e => rw [hm] at h; exact h
  | ok o e =>
    rw [hm] at h
    cases o with
    | nx => exact h.elim
    | bk => exact fun O' σ' H' S k => by show Z'.bk σ' H'; rw [h1]; exact h O' σ' H' S k
    | ct => exact fun O' σ' H' S k => by show Z'.ct σ' H'; rw [h2]; exact h O' σ' H' S k
    | rt d => exact fun O' σ' H' S k v z => by rw [h3]; exact h O' σ' H' S k v z
theorem ss_nst {i : Nat} {x : Str} {zk : Nat} (hN : X.N.Nodup) (hi : X.N[i]? = some x) (hx : Loc X.env.scope x) (hv : Vis X.env.scope x)
    (h0 : PD .f X Wx e0 m0) (hr : AD X Wx es mr) (hc : TD X Wx c t) (hsa : SsD fl X Wx sa r) (ha : PD .s X Wx a mv) (hn : SsD fl X Wx rest n)
    (hs0 : starEach (e0 :: es) X.env = (false, eval e0 X.env) :: starEach es X.env := by rfl)
    (hsw : swapsWith (.List (e0 :: es) pl) (some (.Name x p)) pos.line X.env = pure false := by rfl)
    (hf : X.fn x = true ∨ X.env.scope.names.lookup x = some .local := by first | exact .inl rfl | exact .inr rfl | assumption)
    (hfew : ((backTo p3 (starEach [a] X.env)).all (fun x => !x.1) && (backToKw p3 (keywordEach [] X.env)).all (fun x => x.1.isSome)
      && decide (([a] : List Expr).length + ([] : List Keyword).length + (if ([] : List Keyword).isEmpty then 0 else 1) < 30)) = true := by rfl)
    (hline : (p2.endLine == p3.line) = true := by rfl) (hs : starEach [a] X.env = (false, eval a X.env) :: starEach [] X.env := by rfl)
    (hd : (x == ("__debug__" : Str)) = false := by decide) (hcd : (x == ("__classdict__" : Str)) = false := by decide) :
    SsD fl X Wx (.Assign [.Name x p] (.List (e0 :: es) pl) pos :: .If c sa [] pos2 :: .Expr (.Call (.Attribute (.Subscript (.Name x p1) (.Constant (.int 0) zk pz) ps) "append" p2) [a] [] p3) pos3 :: rest) (sNst i m0 mr t r mv n) := by
  obtain ⟨t0, b0, q0⟩ := h0
  obtain ⟨tr, br, qr⟩ := hr
  obtain ⟨tc, bc, qc⟩ := hc
  obtain ⟨tsa, bsa, qsa⟩ := hsa
  obtain ⟨ta, ba, qa⟩ := ha
  obtain ⟨tn, bn, qn⟩ := hn
  refine ⟨_, pss_cons (ps_set hN hi hx (pe_lst (pa_cons b0 br hs0)) hsw hf) (pss_cons (ps_if bc bsa pss_nil) (pss_cons (ps_expr (pe_bm PySem.F.plainAttrs_list PySem.F.slot_list_append PySem.F.type_list_append mt_append (pe_ix ix_list (pe_var hi hv hd hcd) pe_int (by intro _ _; rfl)) (pa_cons ba pa_nil hs) rfl hfew hline hs rfl)) bn)), fun F O env σ H D S w => ?_⟩
  refine q0 F O env σ H _ S (w.bind.imp (fun d0 e1 w1 v1 H1 S1 k1 po => ?_) XWs.xw)
  obtain ⟨q, vs0, ys, rfl, rfl, hq, hq1, l0, S1'⟩ := po
  have x1 : FX F (F.ad q) H := FX.ad hq
  have nj : ¬ Jo O q := fun z => S.prot q (.inr z) hq
  refine qr (F.ad q) O e1 σ H1 _ S1' (w1.bind.imp (fun ds e2 w2 vs H2 S2 k2 l => ?_) fun c fs e h => XW.fx x1 k1 c fs e (XWs.xw c fs e h))
  have hcond : (e2.any isOwn || !decide (i < e2.length) || !lenOk (ds.length + 1) || !lenOk (ys.length + 1)) = false := by
    cases hz : (e2.any isOwn || !decide (i < e2.length) || !lenOk (ds.length + 1) || !lenOk (ys.length + 1)) with
    | false => rfl
    | true => unfold Want at w2; simp only [hz, if_true] at w2
  unfold Want at w2
  simp only [hcond, Bool.false_eq_true, if_false] at w2
  simp only [Bool.or_eq_false_iff, Bool.not_eq_false'] at hcond
  obtain ⟨⟨⟨c1, c2⟩, c3⟩, c4⟩ := hcond
  have c2 : i < e2.length := of_decide_eq_true c2
  have c4' : ys.length + 1 ≤ 100000 := of_decide_eq_true c4
  refine ⟨by rw [List.length_cons, l.len]; exact lenOk_of c3, fun la hla => ?_⟩
  have hq2 : H2 q = some (.lst vs0) := k2.stay q _ nj hq1
  have hqla : q ≠ la := fun z => by rw [z, hla] at hq2; cases hq2
  have hq3 : upd H2 la (.lst (.ref q :: vs)) q = some (.lst vs0) := by rw [upd_ne hqla]; exact hq2
  have S3 : SR X.K (F.ad q) O e2 σ (upd H2 la (.lst (.ref q :: vs))) := S2.new' hla
  have back : ∀ a, Ow F O a → Ow (F.ad q) O a ∨ upd H2 la (.lst (.ref q :: vs)) a = none := fun a z => .inl (x1.ow a z)
  have SU : SR X.K F O (put e2 i (.val (.lst (.lst ys :: ds)))) (σ.set i (some (.ref la))) (upd H2 la (.lst (.ref q :: vs))) := by
    refine S3.unad.set (noOwn_sl i c1) (.lst (S2.unad.noW hla) upd_same (.cons (.lst (S.noW hq) hq3 ?_) ?_))
    · exact RepL.sub back (((RepL.mj k2 l0)).mono (Ke.new hla))
    · exact RepL.sub back (l.mono (Ke.new hla))
  have SP : SR X.K (F.ad q) O (put e2 i .no) (σ.set i (some (.ref la))) (upd H2 la (.lst (.ref q :: vs))) := by
    have z := S3.setNo (i := i) (v := .ref la)
    rw [setO_id (S2.notOwn (noOwn_sl i c1))] at z
    exact z
  have k3 : Ke (Jo O) H (upd H2 la (.lst (.ref q :: vs))) := k1.trans (k2.trans (Ke.new hla))
  refine qc F O _ _ _ _ SU ?_
  unfold Want
  cases ht : t (put e2 i (.val (.lst (.lst ys :: ds)))) with
  | bad => rw [ht] at w2; exact w2.elim
  | ex c fs e => rw [ht] at w2; exact w2.elim
  | ok b e4 =>
    rw [ht] at w2
    intro H4 S4 k4
    have k04 : Ke (Jo O) H H4 := k3.trans k4
    cases b with
    | true =>
      have w3 : Want (noNx r) e4 (Post fl X.K F O H D) (XWs X.K F O H Wx) := w2
      exact qsa F O e4 _ H4 _ S4 (Want.noNx (Want.imp (m := noNx r) w3 (Post.later (.of k04)) (XWs.later (.of k04))) rfl rfl rfl)
    | false =>
      have w3 : Want (mv.bind fun _ => n) (put e2 i .no) (Post fl X.K F O H D) (XWs X.K F O H Wx) := w2
      have keep : ∀ a o, upd H2 la (.lst (.ref q :: vs)) a = some o → H4 a = some o := fun a o h => k4.stay a o (S2.noJo c1 a) h
      have S5 := SP.ext keep
      have hq4 : H4 q = some (.lst vs0) := keep _ _ hq3
      have hla4 : H4 la = some (.lst (.ref q :: vs)) := keep _ _ upd_same
      have hg : get1 (σ.set i (some (.ref la))) i = some (.ref la) := get1_same (by rw [← S2.len]; exact c2)
      have ha0 : atI (V.ref q :: vs) 0 = some (.ref q) := by unfold atI ixN; simp
      refine ⟨.ref la, get1_some hg, la, .ref q :: vs, 0, .ref q, rfl, rfl, .inl (.inl hla4), ha0, .inl ⟨rfl, vs0, .inl (.inl hq4)⟩, ?_⟩
      refine qa (F.ad q) O _ _ H4 _ S5 (w3.bind.imp (fun dv e5 w5 v H5 S6 k5 p5 => ?_) fun c fs e h => fun cls d H' S k x => h O _ cls d H' (S.down x1) (.of (k04.trans k)) (XR.sub x1.ow x))
      have hq5 : H5 q = some (.lst vs0) := k5.stay q _ nj hq4
      refine ⟨q, vs0, v, rfl, rfl, hq5, by rw [l0.len, sizeLine_eq]; omega, ?_⟩
      have kF : KeS O H O (upd H5 q (.lst (vs0 ++ [v]))) := .of ⟨fun a o nn e => by
        have : a ≠ q := fun z => by rw [z, hq] at e; cases e
        rw [upd_ne this]
        exact k5.stay a o nn (k04.stay a o nn e), fun a e => by
        by_cases z : a = q
        · rw [z, upd_same]; simp
        · rw [upd_ne z]; exact k5.there a (k04.there a e)⟩
      exact qn F O e5 _ _ D (S6.updP nj (al_none S.al hq)).unad (Want.imp (m := n) w5 (Post.later kF) (XWs.later kF))
/-- return x if t else b: x the frame's own list -/
theorem sd_retIfO {i : Nat} {x : Str} {b : Expr} {mb : DE} (hc : TD X Wx c t) (hN : X.N[i]? = some x) (hv : Vis X.env.scope x) (hb : PD .f X Wx b mb) (hd : (x == ("__debug__" : Str)) = false := by decide) (hcd : (x == ("__classdict__" : Str)) = false := by decide) :
    SD .f X Wx (.Return (some (.IfExp c (.Name x p) b p1)) pos) (sIf t (sRetO i) (sRet mb)) := by
  obtain ⟨tc, bc, qc⟩ := hc
  obtain ⟨tb, bb, qb⟩ := hb
  refine ⟨_, ps_ret (pe_ifExp bc (pe_var hN hv hd hcd) bb), fun F O env σ H D S w => ?_⟩
  refine qc F O env σ H _ S (w.bind.imp (fun k e1 w1 H1 S1 k1 => ?_) XWs.xw)
  cases k with
  | true =>
    have w1 : Want (sRetO i) e1 _ _ := w1
    unfold Want sRetO at w1
    cases q : sl e1 i with
    | own xs =>
      rw [q] at w1
      have s := S1.slot i
      rw [q] at s
      obtain ⟨a, vs, h1, h0, h2, h3, r⟩ := s
      have sub : ∀ b, F.P b ∨ b = a → Ow F O b ∨ H1 b = none := fun b z => .inl (z.elim .inl fun e => .inr ⟨i, by rw [e]; exact h1⟩)
      refine ⟨.ref a, get1_some h2, w1 O σ H1 S1 (.of k1) _ ⟨a, vs, xs, rfl, rfl, h0.1, h3, r.sub sub, fun j ys hj => ?_⟩⟩
      have s := S1.slot j
      rw [hj] at s
      obtain ⟨b, us, g1, g2, g3, g4, g5⟩ := s
      exact ⟨b, us, g2, g4, g5.sub sub⟩
    | _ => rw [q] at w1; exact w1.elim
  | false =>
    have w1 : Want (sRet mb) e1 _ _ := w1
    refine qb F O e1 σ H1 _ S1 (w1.bind.imp (fun dx e2 w2 x H2 S2 k2 p1 => w2 O σ H2 S2 (.of (k1.trans k2)) x ?_) fun c fs e h => XW.later k1 c fs e (XWs.xw c fs e h))
    obtain ⟨q, vs, xs, rfl, rfl, hq, hq', l, S3⟩ := p1
    exact ⟨q, vs, xs, rfl, rfl, al_none S1.al hq, hq', l.sub fun a z => .inl (.inl z), S3.boR rfl fun a z => .inl z⟩
end
end AH
namespace AH
open PySem L2
variable [TheK]
def b_law_cells_1 : DS := (sFg [3, 4, 5] (sSeq (sAsgN 5 (e2 dMod (e1 dInt (eVar 3)) (eVar 1))) (sSetL 2 (eVar 5) (e2 dAdd (e2L dIx 2 (eVar 5)) (e2 dMul (eVar 4) (e2 dAdd (eVar 3) (eC (.int 2))))))))
def l_law_cells_1 : DS := (sFor (iEnumL (eSlN 0 (oSome (eVar 1)) (oSome (eC (.int 63))))) (gT (gsCons (gN 3) (gsCons (gN 4) gsNil))) b_law_cells_1)
def m_law_cells : DS := (sSeq (sOwn 2 (eOrT (e1 dList (eSlN 0 oNone (oSome (eVar 1)))) (eLst (aCons (eC (.int 0)) aNil)))) (sSeq l_law_cells_1 (sSeq (sRelL 2) (sRet (eVar 2)))))
def f_law_cells : DF := mkF 6 [.ro, .val] m_law_cells
def c_law_same_1 (n_f : DF) : DE := (eLc [2, 3] (iZip2 (eVar 0) (eVar 1)) (gT (gsCons (gN 2) (gsCons (gN 3) gsNil))) tYes (eCall n_f [.e (eVar 2), .e (eVar 3)]))
def m_law_same (n_f : DF) : DS := (sSeq (sIf (tV (eIsi2 .list .tuple (eVar 1))) (sSeq (sIf (tOr (c2 dNe (eIsi .list (eVar 0)) (eIsi .list (eVar 1))) (c2 dNe (eIsi .tuple (eVar 0)) (eIsi .tuple (eVar 1)))) (sRet (eC (.bl false))) sNil) (sRet (eAnd (eB (c2 dEq (e1 dLen (eVar 0)) (e1 dLen (eVar 1)))) (e1 dAll (c_law_same_1 n_f))))) sNil) (sSeq (sIf (tOr (tIsN (eVar 1)) (tV (eIsi2 .bool .str (eVar 1)))) (sRet (eAnd (eB (c2 dEq (eVar 0) (eVar 1))) (eAnd (eB (c2 dEq (eIsi .bool (eVar 0)) (eIsi .bool (eVar 1)))) (eB (c2 dEq (eB (tIsN (eVar 0))) (eB (tIsN (eVar 1)))))))) sNil) (sRet (eAnd (eIsi .int (eVar 0)) (eAnd (eNot (eIsi .bool (eVar 0))) (eB (c2 dEq (eVar 0) (eVar 1))))))))
def f_law_same : Nat → DF
  | 0 => fun _ => .bad
  | n + 1 => mkF 4 [.val, .val] (m_law_same (f_law_same n))
def m_law_take : DS := (sSeq (sIf (c2 dGt (e2L dIx 0 (eC (.int 0))) (eC (.int 0))) (sSeq (sAsgN 2 (e2 dMod (e1 dInt (e2L dIx 0 (eC (.int 0)))) (eVar 1))) (sSeq (sSetL 0 (eC (.int 0)) (e2 dDiv (e2L dIx 0 (eC (.int 0))) (eVar 1))) (sRet (eVar 2)))) sNil) (sSeq (sSetL 0 (eC (.int 2)) (e2 dAdd (e2L dIx 0 (eC (.int 2))) (eC (.int 1)))) (sSeq (sAsgN 3 (e2 dMod (e1 dInt (e2 dMul (e2 dAdd (e2L dIx 0 (eC (.int 1))) (e2 dMul (eC (.int 48271)) (e2L dIx 0 (eC (.int 2))))) (e2 dAdd (eC (.int 39373)) (e2L dIx 0 (eC (.int 2)))))) (eC (.int 2147483647)))) (sSeq (sAsgN 4 (e2 dAdd (e2 dMod (e1 dInt (eVar 3)) (eC (.int 40009))) (eC (.int 7)))) (sSeq (sAsgN 5 (e2 dMod (e1 dInt (e2 dMul (e2 dAdd (e2 dAdd (eVar 3) (e2L dIx 0 (eC (.int 2)))) (e2 dDiv (e2L dIx 0 (eC (.int 1))) (eC (.int 1000003)))) (eVar 4))) (eC (.int 2147483629)))) (sRet (e2 dMod (e1 dInt (e2 dDiv (e2 dMod (e1 dInt (e2 dAdd (e2 dMul (eVar 5) (eC (.int 48271))) (eVar 3))) (eC (.int 2147483587))) (eC (.int 64)))) (eVar 1))))))))
def f_law_take : DF := mkF 6 [.bor, .val] m_law_take
def m_law_of : DS := (sRet (e2L dIx 1 (eCall f_law_take [.lend 0, .e (e1 dLen (eTmp 1))])))
def f_law_of : DF := mkF 2 [.bor, .ro] m_law_of
def m_hours_of : DS := (sRet (e2 dIx (eVar 0) (eC (.int 0))))
def f_hours_of : DF := mkF 1 [.val] m_hours_of
def c_all_work_1 : DE := (eLc [1, 2] (iSeq (e2 dIx (eVar 0) (eC (.int 1)))) (gT (gsCons (gN 1) (gsCons (gN 2) gsNil))) tYes (eVar 2))
def m_all_work : DS := (sRet (e1 dSumA c_all_work_1))
def f_all_work : DF := mkF 3 [.val] m_all_work
def m_check_stretch : DS := (sIf (tNot (c4 dLe dLe dLt (eC (.int 0)) (eVar 1) (eVar 2) (eVar 0))) (sRaiseA "NoStretch" 2 (aCons (eVar 1) (aCons (eVar 2) aNil))) sNil)
def f_check_stretch : DF := mkF 3 [.val, .val, .val] m_check_stretch
def c_law_lists_1 (n_f : DF) : DE := (eLc [1] (iSeq (eVar 0)) (gN 1) tYes (eCall n_f [.e (eVar 1)]))
def m_law_lists (n_f : DF) : DS := (sRet (eIf (tV (eIsi2 .list .tuple (eVar 0))) (c_law_lists_1 n_f) (eVar 0)))
def f_law_lists : Nat → DF
  | 0 => fun _ => .bad
  | n + 1 => mkF 2 [.val] (m_law_lists (f_law_lists n))
def c_law_spans_1 : DE := (eLc [3] (iRng2 (eVar 2) (eVar 0)) (gN 3) tYes (eTup (aCons (eVar 2) (aCons (eVar 3) aNil))))
def b_law_spans_1 : DS := (sFg [2] (sAsgN 1 (e2 dAdd (eVar 1) c_law_spans_1)))
def l_law_spans_1 : DS := (sFor (iRng1 (eVar 0)) (gN 2) b_law_spans_1)
def m_law_spans : DS := (sSeq (sAsgN 1 (eLst aNil)) (sSeq l_law_spans_1 (sRet (eVar 1))))
def f_law_spans : DF := mkF 4 [.val] m_law_spans
def c_law_table_1 : DE := (eLc [2] (iSeq (eCall f_law_spans [.e (e2 dIx (eVar 0) (eC (.int 0)))])) (gN 2) tYes (eTup (aCons (eVar 2) (aCons (eC (.int 0)) aNil))))
def b_law_table_1 : DS := (sFg [2, 3] (sSetD 1 (eVar 2) (eVar 3)))
def l_law_table_1 : DS := (sFor (iSeq (e2 dIx (eVar 0) (eC (.int 1)))) (gT (gsCons (gN 2) (gsCons (gN 3) gsNil))) b_law_table_1)
def m_law_table : DS := (sSeq (sOwnD 1 (e1 dDictP c_law_table_1)) (sSeq l_law_table_1 (sRetOd 1)))
def f_law_table : DF := mkR 4 [.val] m_law_table
def b_law_great_1 : DS := (sFg [3, 4] (sSeq (sAsgN 4 (eCall f_law_take [.lend 0, .e (eCall f_law_of [.lend 0, .e (eLst (aCons (eC (.int 1)) (aCons (eC (.int 2)) (aCons (eC (.int 10)) (aCons (e2 dPow (eC (.int 10)) (eC (.int 6))) (aCons (e2 dPow (eC (.int 10)) (eC (.int 38))) aNil))))))])])) (sIf (c2 dGt (eVar 4) (eC (.int 0))) (sApp 2 (eTup (aCons (eVar 3) (aCons (eVar 4) aNil)))) sNil)))
def l_law_great_1 : DS := (sFor (iSeq (eCall f_law_spans [.e (eVar 1)])) (gN 3) b_law_great_1)
def m_law_great : DS := (sSeq (sOwn 2 (eLst aNil)) (sSeq l_law_great_1 (sSeq (sRelL 2) (sRet (eTup (aCons (eVar 1) (aCons (e1 dTuple (eVar 2)) aNil)))))))
def f_law_great : DF := mkF 5 [.bor, .val] m_law_great
def b_law_lot_1 : DS := (sFg [5, 6] (sSeq (sAsgN 6 (eIf (tOr (c2 dLt (eVar 3) (eC (.int 1))) (c2 dEq (eCall f_law_take [.lend 0, .e (e2 dAdd (eC (.int 1)) (eVar 3))]) (eC (.int 0)))) (eCall f_law_take [.lend 0, .e (e2 dAdd (eVar 2) (eC (.int 1)))]) (eC (.int 0)))) (sIf (c2 dGt (eVar 6) (eC (.int 0))) (sApp 4 (eTup (aCons (eVar 5) (aCons (eVar 6) aNil)))) sNil)))
def l_law_lot_1 : DS := (sFor (iSeq (eCall f_law_spans [.e (eVar 1)])) (gN 5) b_law_lot_1)
def m_law_lot : DS := (sSeq (sPar [(3, false), (4, true)] [.e (eCall f_law_take [.lend 0, .e (eC (.int 4))]), .new (eLst aNil)]) (sSeq l_law_lot_1 (sSeq (sRelL 4) (sRet (eTup (aCons (eVar 1) (aCons (e1 dTuple (eVar 4)) aNil)))))))
def f_law_lot : DF := mkF 7 [.bor, .val, .val] m_law_lot
def b_made_lot_1 : DS := (sFg [3, 4, 5] (sSeq (sExpr (eCall f_check_stretch [.e (eVar 0), .e (eVar 3), .e (eVar 4)])) (sSetD 2 (eTup (aCons (eVar 3) (aCons (eVar 4) aNil))) (e2 dAdd (eGetL 2 (eTup (aCons (eVar 3) (aCons (eVar 4) aNil))) (eC (.int 0))) (eVar 5)))))
def l_made_lot_1 : DS := (sFor (iSeq (eVar 1)) (gT (gsCons (gT (gsCons (gN 3) (gsCons (gN 4) gsNil))) (gsCons (gN 5) gsNil))) b_made_lot_1)
def c_made_lot_1 : DE := (eLc [6, 5] (lkD itemsD 2) (gT (gsCons (gN 6) (gsCons (gN 5) gsNil))) (c2 dGt (eVar 5) (eC (.int 0))) (eTup (aCons (eVar 6) (aCons (eVar 5) aNil))))
def m_made_lot : DS := (sSeq (sOwnD 2 (eC (.dic []))) (sSeq l_made_lot_1 (sRet (eTup (aCons (eVar 0) (aCons (e1 dTuple (e1 dSortA (lockE 2 c_made_lot_1))) aNil))))))
def f_made_lot : DF := mkF 7 [.val, .val] m_made_lot
def c_law_made_1 : DE := (eLc [2] (iSeq (e1 dSortK (eTmp 1))) (gN 2) (c2 dGt (e2L dIx 1 (eVar 2)) (eC (.int 0))) (eTup (aCons (eVar 2) (aCons (e2L dIx 1 (eVar 2)) aNil))))
def m_law_made : DS := (sRet (eTup (aCons (eVar 0) (aCons (e1 dTuple c_law_made_1) aNil))))
def f_law_made : DF := mkF 3 [.val, .ro] m_law_made
def c_behind_1 : DE := (eLc [2, 3, 4] (iSeq (e2 dIx (eVar 0) (eC (.int 1)))) (gT (gsCons (gT (gsCons (gN 2) (gsCons (gN 3) gsNil))) (gsCons (gN 4) gsNil))) tYes (eTup (aCons (eTup (aCons (e2 dSub (eVar 1) (eVar 3)) (aCons (e2 dSub (eVar 1) (eVar 2)) aNil))) (aCons (eVar 4) aNil))))
def m_behind : DS := (sSeq (sAsgN 1 (e2 dSub (e2 dIx (eVar 0) (eC (.int 0))) (eC (.int 1)))) (sRet (eCall f_made_lot [.e (e2 dIx (eVar 0) (eC (.int 0))), .e c_behind_1])))
def f_behind : DF := mkF 5 [.val] m_behind
def c_joined_1 : DE := (eLc [3] (iRng1 (e2 dIx (eVar 0) (eC (.int 0)))) (gN 3) tYes (e2 dSub (eVar 3) (e1 dInt (eB (c2 dGt (eVar 3) (eVar 1))))))
def c_joined_2 : DE := (eLc [4, 5, 6] (iSeq (e2 dIx (eVar 0) (eC (.int 1)))) (gT (gsCons (gT (gsCons (gN 4) (gsCons (gN 5) gsNil))) (gsCons (gN 6) gsNil))) tYes (eTup (aCons (eTup (aCons (e2 dIx (eVar 2) (eVar 4)) (aCons (e2 dIx (eVar 2) (eVar 5)) aNil))) (aCons (eVar 6) aNil))))
def m_joined : DS := (sSeq (sIf (tNot (c3 dLe dLt (eC (.int 0)) (eVar 1) (e2 dSub (e2 dIx (eVar 0) (eC (.int 0))) (eC (.int 1))))) (sRaiseA "NoHour" 1 (aCons (eVar 1) aNil)) sNil) (sSeq (sAsgN 2 c_joined_1) (sRet (eCall f_made_lot [.e (e2 dSub (e2 dIx (eVar 0) (eC (.int 0))) (eC (.int 1))), .e c_joined_2]))))
def f_joined : DF := mkF 7 [.val, .val] m_joined
def c_put_in_1 : DE := (eLc [3] (iRng1 (e2 dIx (eVar 0) (eC (.int 0)))) (gN 3) tYes (e2 dAdd (eVar 3) (e1 dInt (eB (c2 dGe (eVar 3) (eVar 1))))))
def c_put_in_2 : DE := (eLc [4, 5, 6] (iSeq (e2 dIx (eVar 0) (eC (.int 1)))) (gT (gsCons (gT (gsCons (gN 4) (gsCons (gN 5) gsNil))) (gsCons (gN 6) gsNil))) tYes (eTup (aCons (eTup (aCons (e2 dIx (eVar 2) (eVar 4)) (aCons (e2 dIx (eVar 2) (eVar 5)) aNil))) (aCons (eVar 6) aNil))))
def m_put_in : DS := (sSeq (sIf (tNot (c3 dLe dLe (eC (.int 0)) (eVar 1) (e2 dIx (eVar 0) (eC (.int 0))))) (sRaiseA "NoHour" 1 (aCons (eVar 1) aNil)) sNil) (sSeq (sAsgN 2 c_put_in_1) (sRet (eCall f_made_lot [.e (e2 dAdd (e2 dIx (eVar 0) (eC (.int 0))) (eC (.int 1))), .e c_put_in_2]))))
def f_put_in : DF := mkF 7 [.val, .val] m_put_in
def m_check_same : DS := (sIf (c2 dNe (e2 dIx (eVar 0) (eC (.int 0))) (e2 dIx (eVar 1) (eC (.int 0)))) (sRaise "Unlike") sNil)
def f_check_same : DF := mkF 2 [.val, .val] m_check_same
def m_added : DS := (sSeq (sExpr (eCall f_check_same [.e (eVar 0), .e (eVar 1)])) (sRet (eCall f_made_lot [.e (e2 dIx (eVar 0) (eC (.int 0))), .e (eLst (aStar (e2 dIx (eVar 0) (eC (.int 1))) (aStar (e2 dIx (eVar 1) (eC (.int 1))) aNil)))])))
def f_added : DF := mkF 2 [.val, .val] m_added
def c_times_over_1 : DE := (eLc [2, 3] (iSeq (e2 dIx (eVar 0) (eC (.int 1)))) (gT (gsCons (gN 2) (gsCons (gN 3) gsNil))) tYes (eTup (aCons (eVar 2) (aCons (e2 dMul (eVar 1) (eVar 3)) aNil))))
def m_times_over : DS := (sRet (eCall f_made_lot [.e (e2 dIx (eVar 0) (eC (.int 0))), .e c_times_over_1]))
def f_times_over : DF := mkF 4 [.val, .val] m_times_over
def c_all_stretches_1 : DE := (eLc2 [1, 2] [2] (iRng1 (eVar 0)) (gN 1) tYes (iRng2 (eVar 1) (eVar 0)) (gN 2) tYes (eTup (aCons (eVar 1) (aCons (eVar 2) aNil))))
def m_all_stretches : DS := (sRet c_all_stretches_1)
def f_all_stretches : DF := mkF 3 [.val] m_all_stretches
def m_lies_within : DS := (sRet (eAnd (eB (c2 dLe (e2 dIx (eVar 1) (eC (.int 0))) (e2 dIx (eVar 0) (eC (.int 0))))) (eB (c2 dLe (e2 dIx (eVar 0) (eC (.int 1))) (e2 dIx (eVar 1) (eC (.int 1)))))))
def f_lies_within : DF := mkF 2 [.val, .val] m_lies_within
def c_asked_1 : DE := (eLc [3, 4] (iSeq (e2 dIx (eVar 0) (eC (.int 1)))) (gT (gsCons (gN 3) (gsCons (gN 4) gsNil))) (tV (eCall f_lies_within [.e (eVar 3), .e (eTup (aCons (eVar 1) (aCons (eVar 2) aNil)))])) (eVar 4))
def m_asked : DS := (sSeq (sExpr (eCall f_check_stretch [.e (e2 dIx (eVar 0) (eC (.int 0))), .e (eVar 1), .e (eVar 2)])) (sRet (e1 dSumA c_asked_1)))
def f_asked : DF := mkF 5 [.val, .val, .val] m_asked
def c_table_of_1 : DE := (eLc [1, 2] (iSeq (eCall f_all_stretches [.e (e2 dIx (eVar 0) (eC (.int 0)))])) (gT (gsCons (gN 1) (gsCons (gN 2) gsNil))) tYes (eCall f_asked [.e (eVar 0), .e (eVar 1), .e (eVar 2)]))
def m_table_of : DS := (sRet (e1 dTuple c_table_of_1))
def f_table_of : DF := mkF 3 [.val] m_table_of
def b_differences_1 : DS := (sFg [3, 4, 5, 6] (sApp 2 (eTup (aCons (eVar 3) (aCons (eVar 4) (aCons (e2 dSub (eVar 5) (eVar 6)) aNil))))))
def l_differences_1 : DS := (sFor (iZip3 (eCall f_all_stretches [.e (e2 dIx (eVar 0) (eC (.int 0)))]) (eCall f_table_of [.e (eVar 0)]) (eCall f_table_of [.e (eVar 1)])) (gT (gsCons (gT (gsCons (gN 3) (gsCons (gN 4) gsNil))) (gsCons (gN 5) (gsCons (gN 6) gsNil)))) b_differences_1)
def m_differences : DS := (sSeq (sExpr (eCall f_check_same [.e (eVar 0), .e (eVar 1)])) (sSeq (sOwn 2 (eLst aNil)) (sSeq l_differences_1 (sSeq (sRelL 2) (sRet (eVar 2))))))
def f_differences : DF := mkF 7 [.val, .val] m_differences
def c_compare_1 : DE := (eLc [3, 4, 5] (iSeq (eCall f_differences [.e (eVar 0), .e (eVar 1)])) (gT (gsCons (gN 3) (gsCons (gN 4) (gsCons (gN 5) gsNil)))) tYes (eVar 5))
def c_compare_2 : DE := (eLc [5] (iSeq (eVar 2)) (gN 5) tYes (eB (c2 dEq (eVar 5) (eC (.int 0)))))
def c_compare_3 : DE := (eLc [5] (iSeq (eVar 2)) (gN 5) tYes (eB (c2 dLe (eVar 5) (eC (.int 0)))))
def c_compare_4 : DE := (eLc [5] (iSeq (eVar 2)) (gN 5) tYes (eB (c2 dGe (eVar 5) (eC (.int 0)))))
def m_compare : DS := (sSeq (sAsgN 2 c_compare_1) (sSeq (sIf (tV (e1 dAll c_compare_2)) (sRet (eC (.str "alike"))) sNil) (sSeq (sIf (tV (e1 dAll c_compare_3)) (sRet (eC (.str "lighter"))) sNil) (sRet (eIf (tV (e1 dAll c_compare_4)) (eC (.str "heavier")) (eC (.str "neither")))))))
def f_compare : DF := mkF 6 [.val, .val] m_compare
def c_never_more_1 : DE := (eLc [2, 3, 4] (iSeq (eCall f_differences [.e (eVar 0), .e (eVar 1)])) (gT (gsCons (gN 2) (gsCons (gN 3) (gsCons (gN 4) gsNil)))) tYes (eB (c2 dLe (eVar 4) (eC (.int 0)))))
def m_never_more : DS := (sRet (e1 dAll c_never_more_1))
def f_never_more : DF := mkF 5 [.val, .val] m_never_more
def c_law_moved_1 : DE := (eLc [8] (iSeq (e1 dSortK (eTmp 3))) (gN 8) (c2 dGt (e2L dIx 3 (eVar 8)) (eC (.int 0))) (eVar 8))
def b_law_moved_1 : DS := (sFg [8, 13] (sSetD 3 (eVar 8) (e2 dAdd (e2L dIx 3 (eVar 8)) (eVar 13))))
def l_law_moved_1 : DS := (sFor (iSeq (eTup (aCons (eTup (aCons (eVar 10) (aCons (e1 dNeg (eC (.int 1))) aNil))) (aCons (eTup (aCons (eVar 11) (aCons (e1 dNeg (eC (.int 1))) aNil))) (aCons (eTup (aCons (eVar 12) (aCons (eC (.int 1)) aNil))) (aCons (eTup (aCons (eVar 9) (aCons (eC (.int 1)) aNil))) aNil)))))) (gT (gsCons (gN 8) (gsCons (gN 13) gsNil))) b_law_moved_1)
def b_law_moved_2 : DS := (sFg [5, 6, 7, 8, 9, 10, 11, 12, 13] (sSeq (sAsgN 6 c_law_moved_1) (sSeq (sAsgN 7 (eCall f_law_take [.lend 0, .e (eC (.int 5))])) (sIf (tOr (c2 dEq (eVar 6) (eLst aNil)) (c2 dEq (eVar 7) (eC (.int 0)))) (sSeq (sAsgN 8 (eCall f_law_of [.lend 0, .e (eCall f_law_spans [.e (e2 dIx (eVar 1) (eC (.int 0)))])])) (sSetD 3 (eVar 8) (e2 dAdd (e2 dAdd (e2L dIx 3 (eVar 8)) (eC (.int 1))) (eCall f_law_take [.lend 0, .e (eC (.int 2))])))) (sIf (c2 dEq (eVar 7) (eC (.int 1))) (sSeq (sAsgN 8 (eCall f_law_of [.lend 0, .e (eVar 6)])) (sSetD 3 (eVar 8) (e2 dSub (e2L dIx 3 (eVar 8)) (eC (.int 1))))) (sIf (c2 dEq (eVar 7) (eC (.int 2))) (sSeq (sAsgN 8 (eCall f_law_of [.lend 0, .e (eVar 6)])) (sSeq (sAsgN 9 (eTup (aCons (e2 dMax2 (eC (.int 0)) (e2 dSub (e2 dIx (eVar 8) (eC (.int 0))) (eCall f_law_take [.lend 0, .e (eC (.int 2))]))) (aCons (e2 dMin2 (eVar 4) (e2 dAdd (e2 dIx (eVar 8) (eC (.int 1))) (eCall f_law_take [.lend 0, .e (eC (.int 2))]))) aNil)))) (sSeq (sSetD 3 (eVar 8) (e2 dSub (e2L dIx 3 (eVar 8)) (eC (.int 1)))) (sSetD 3 (eVar 9) (e2 dAdd (e2L dIx 3 (eVar 9)) (eC (.int 1))))))) (sSeq (sPar [(10, false), (11, false)] [.e (eCall f_law_of [.lend 0, .e (eVar 6)]), .e (eCall f_law_of [.lend 0, .e (eVar 6)])]) (sIf (tAnd (c2 dNe (eVar 10) (eVar 11)) (tAnd (c2 dLe (e2 dIx (eVar 10) (eC (.int 0))) (e2 dIx (eVar 11) (eC (.int 1)))) (c2 dLe (e2 dIx (eVar 11) (eC (.int 0))) (e2 dIx (eVar 10) (eC (.int 1)))))) (sSeq (sPar [(12, false), (9, false)] [.e (eTup (aCons (e2 dIx (eVar 10) (eC (.int 0))) (aCons (e2 dIx (eVar 11) (eC (.int 1))) aNil))), .e (eTup (aCons (e2 dIx (eVar 11) (eC (.int 0))) (aCons (e2 dIx (eVar 10) (eC (.int 1))) aNil)))]) l_law_moved_1) sNil))))))))
def l_law_moved_2 : DS := (sFor (iRng1 (eVar 2)) (gN 5) b_law_moved_2)
def m_law_moved : DS := (sSeq (sParK [(3, .d, (eCall f_law_table [.e (eVar 1)])), (4, .v, (e2 dSub (e2 dIx (eVar 1) (eC (.int 0))) (eC (.int 1))))]) (sSeq l_law_moved_2 (sRet (eCall f_law_made [.e (e2 dIx (eVar 1) (eC (.int 0))), .look 3]))))
def f_law_moved : DF := mkF 14 [.bor, .val, .val] m_law_moved
def c_law_asked_1 : DE := (eLc [3, 4] (iSeq (e2 dIx (eVar 0) (eC (.int 1)))) (gT (gsCons (gN 3) (gsCons (gN 4) gsNil))) (tAnd (c2 dLe (e2 dIx (eVar 1) (eC (.int 0))) (e2 dIx (eVar 3) (eC (.int 0)))) (c2 dLe (e2 dIx (eVar 3) (eC (.int 1))) (e2 dIx (eVar 1) (eC (.int 1))))) (eVar 4))
def m_law_asked : DS := (sSeq (sAsgN 2 c_law_asked_1) (sRet (e1 dSumA (eVar 2))))
def f_law_asked : DF := mkF 5 [.val, .val] m_law_asked
def c_law_over_1 : DE := (eLc [2] (iSeq (eCall f_law_spans [.e (e2 dIx (eVar 0) (eC (.int 0)))])) (gN 2) tYes (e2 dSub (eCall f_law_asked [.e (eVar 0), .e (eVar 2)]) (eCall f_law_asked [.e (eVar 1), .e (eVar 2)])))
def m_law_over : DS := (sRet c_law_over_1)
def f_law_over : DF := mkF 3 [.val, .val] m_law_over
def c_over_1 : DE := (eLc [2, 3, 4] (iSeq (eCall f_differences [.e (eVar 0), .e (eVar 1)])) (gT (gsCons (gN 2) (gsCons (gN 3) (gsCons (gN 4) gsNil)))) (c2 dGt (eVar 4) (eC (.int 0))) (eTup (aCons (eVar 2) (aCons (eVar 3) (aCons (eVar 4) aNil)))))
def m_over : DS := (sRet c_over_1)
def f_over : DF := mkF 5 [.val, .val] m_over
def m_is_number : DS := (sRet (eAnd (eIsi .int (eVar 0)) (eNot (eIsi .bool (eVar 0)))))
def f_is_number : DF := mkF 1 [.val] m_is_number
def c_are_numbers_1 : DE := (eLc [3] (iSeq (eVar 0)) (gN 3) tYes (eAnd (eCall f_is_number [.e (eVar 3)]) (eB (c2 dGe (eVar 3) (eVar 2)))))
def m_are_numbers : DS := (sRet (eAnd (eIsi .tuple (eVar 0)) (eAnd (eB (c2 dEq (e1 dLen (eVar 0)) (eVar 1))) (e1 dAll c_are_numbers_1))))
def f_are_numbers : DF := mkF 4 [.val, .val, .val] m_are_numbers
def m_is_calendar : DS := (sRet (eCall f_are_numbers [.e (eVar 1), .e (eVar 0), .e (eC (.int 0))]))
def f_is_calendar : DF := mkF 2 [.val, .val] m_is_calendar
def m_check_calendar : DS := (sIf (c2 dNe (e1 dLen (eVar 1)) (e2 dIx (eVar 0) (eC (.int 0)))) (sRaise "Unfit") sNil)
def f_check_calendar : DF := mkF 2 [.val, .val] m_check_calendar
def m_hands_in : DS := (sSeq (sExpr (eCall f_check_stretch [.e (e1 dLen (eVar 0)), .e (eVar 1), .e (eVar 2)])) (sRet (e1 dSumA (eSl (eVar 0) (oSome (eVar 1)) (oSome (e2 dAdd (eVar 2) (eC (.int 1))))))))
def f_hands_in : DF := mkF 3 [.val, .val, .val] m_hands_in
def c_heavy_prices_1 : DE := (eLc [6] (iRng1 (e2 dIx (eVar 0) (eC (.int 0)))) (gN 6) tYes (e1 dInt (eB (c3 dLe dLe (eVar 3) (eVar 6) (eVar 4)))))
def m_heavy_prices : DS := (sSeq (sAsgN 2 (eCall f_over [.e (eVar 0), .e (eVar 1)])) (sSeq (sIf (c2 dEq (e1 dLen (eVar 2)) (eC (.int 0))) (sRet (eC .non)) sNil) (sSeq (sAsg (e2 dIx (eVar 2) (eC (.int 0))) (gT (gsCons (gN 3) (gsCons (gN 4) (gsCons (gN 5) gsNil))))) (sRet (e1 dTuple c_heavy_prices_1)))))
def f_heavy_prices : DF := mkF 7 [.val, .val] m_heavy_prices
def m_is_prices : DS := (sRet (eCall f_are_numbers [.e (eVar 1), .e (eVar 0), .e (eC (.int 0))]))
def f_is_prices : DF := mkF 2 [.val, .val] m_is_prices
def m_check_fit : DS := (sIf (c2 dNe (e1 dLen (eVar 1)) (e2 dIx (eVar 0) (eC (.int 0)))) (sRaise "Unfit") sNil)
def f_check_fit : DF := mkF 2 [.val, .val] m_check_fit
def c_cheapest_1 : DE := (eLc [2, 3, 4] (iSeq (e2 dIx (eVar 0) (eC (.int 1)))) (gT (gsCons (gT (gsCons (gN 2) (gsCons (gN 3) gsNil))) (gsCons (gN 4) gsNil))) tYes (e2 dMul (eVar 4) (e1 dMinL (eSl (eVar 1) (oSome (eVar 2)) (oSome (e2 dAdd (eVar 3) (eC (.int 1))))))))
def m_cheapest : DS := (sSeq (sExpr (eCall f_check_fit [.e (eVar 0), .e (eVar 1)])) (sRet (e1 dSumA c_cheapest_1)))
def f_cheapest : DF := mkF 5 [.val, .val] m_cheapest
def c_law_cheapest_1 : DE := (eLc [2, 3] (iSeq (e2 dIx (eVar 0) (eC (.int 1)))) (gT (gsCons (gN 2) (gsCons (gN 3) gsNil))) tYes (e2 dMul (eVar 3) (e1 dMinL (eSl (eVar 1) (oSome (e2 dIx (eVar 2) (eC (.int 0)))) (oSome (e2 dAdd (e2 dIx (eVar 2) (eC (.int 1))) (eC (.int 1))))))))
def m_law_cheapest : DS := (sRet (e1 dSumA c_law_cheapest_1))
def f_law_cheapest : DF := mkF 4 [.val, .val] m_law_cheapest
def c_law_best_done_1 : DE := (eLc [10] (iSeq (e1 dSortK (eTmp 2))) (gN 10) (tAnd (c3 dLe dLe (e2 dIx (eVar 10) (eC (.int 0))) (eVar 4) (e2 dIx (eVar 10) (eC (.int 1)))) (c2 dGt (e2L dIx 2 (eVar 10)) (eC (.int 0)))) (eTup (aCons (e2 dIx (eVar 10) (eC (.int 1))) (aCons (e2 dIx (eVar 10) (eC (.int 0))) aNil))))
def b_law_best_done_1 : DS := (sFg [7, 8, 9] (sSeq (sAsgN 9 (e2 dMin2 (eVar 5) (e2L dIx 2 (eTup (aCons (eVar 8) (aCons (eVar 7) aNil)))))) (sSeq (sSetD 2 (eTup (aCons (eVar 8) (aCons (eVar 7) aNil))) (e2 dSub (e2L dIx 2 (eTup (aCons (eVar 8) (aCons (eVar 7) aNil)))) (eVar 9))) (sPar [(5, false), (3, false)] [.e (e2 dSub (eVar 5) (eVar 9)), .e (e2 dAdd (eVar 3) (eVar 9))]))))
def l_law_best_done_1 : DS := (sFor (iSeq (e1 dSortA (eVar 6))) (gT (gsCons (gN 7) (gsCons (gN 8) gsNil))) b_law_best_done_1)
def b_law_best_done_2 : DS := (sFg [4, 5, 6, 7, 8, 9] (sSeq (sAsgN 6 c_law_best_done_1) l_law_best_done_1))
def l_law_best_done_2 : DS := (sFor (iEnumK (eVar 1)) (gT (gsCons (gN 4) (gsCons (gN 5) gsNil))) b_law_best_done_2)
def m_law_best_done : DS := (sSeq (sParK [(2, .d, (eCall f_law_table [.e (eVar 0)])), (3, .v, (eC (.int 0)))]) (sSeq l_law_best_done_2 (sRet (eVar 3))))
def f_law_best_done : DF := mkF 11 [.val, .val] m_law_best_done
def b_law_hands_1 : DS := (sFg [4] (sApp 3 (eIf (c2 dGt (eCall f_law_take [.lend 0, .e (eC (.int 4))]) (eC (.int 0))) (eCall f_law_take [.lend 0, .e (e2 dAdd (eVar 2) (eC (.int 1)))]) (eC (.int 0)))))
def l_law_hands_1 : DS := (sFor (iRng1 (eVar 1)) (gN 4) b_law_hands_1)
def m_law_hands : DS := (sSeq (sOwn 3 (eLst aNil)) (sSeq l_law_hands_1 (sSeq (sRelL 3) (sRet (e1 dTuple (eVar 3))))))
def f_law_hands : DF := mkF 5 [.bor, .val, .val] m_law_hands
def b_check_all_1 : DS := (sFg [1] (sExpr (eCall f_check_same [.e (e2 dIx (eVar 0) (eC (.int 0))), .e (eVar 1)])))
def l_check_all_1 : DS := (sFor (iSeq (eVar 0)) (gN 1) b_check_all_1)
def m_check_all : DS := l_check_all_1
def f_check_all : DF := mkF 2 [.val] m_check_all
def c_always_lightest_1 : DE := (eLc [4] (iSeq (eVar 0)) (gN 4) tYes (eCall f_never_more [.e (eVar 3), .e (eVar 4)]))
def c_always_lightest_2 : DE := (eLc [2, 3] (iEnumK (eVar 0)) (gT (gsCons (gN 2) (gsCons (gN 3) gsNil))) (tV (e1 dAll c_always_lightest_1)) (eVar 2))
def m_always_lightest : DS := (sSeq (sExpr (eCall f_check_all [.e (eVar 0)])) (sSeq (sAsgN 1 c_always_lightest_2) (sRet (eIf (c2 dGt (e1 dLen (eVar 1)) (eC (.int 0))) (e2 dIx (eVar 1) (eC (.int 0))) (eC .non)))))
def f_always_lightest : DF := mkF 5 [.val] m_always_lightest
def c_always_heaviest_1 : DE := (eLc [4] (iSeq (eVar 0)) (gN 4) tYes (eCall f_never_more [.e (eVar 4), .e (eVar 3)]))
def c_always_heaviest_2 : DE := (eLc [2, 3] (iEnumK (eVar 0)) (gT (gsCons (gN 2) (gsCons (gN 3) gsNil))) (tV (e1 dAll c_always_heaviest_1)) (eVar 2))
def m_always_heaviest : DS := (sSeq (sExpr (eCall f_check_all [.e (eVar 0)])) (sSeq (sAsgN 1 c_always_heaviest_2) (sRet (eIf (c2 dGt (e1 dLen (eVar 1)) (eC (.int 0))) (e2 dIx (eVar 1) (eC (.int 0))) (eC .non)))))
def f_always_heaviest : DF := mkF 5 [.val] m_always_heaviest
def c_unbeaten_1 : DE := (eLc [4] (iSeq (eVar 0)) (gN 4) tYes (eB (c2 dEq (eCall f_compare [.e (eVar 4), .e (eVar 3)]) (eC (.str "lighter")))))
def b_unbeaten_1 : DS := (sFg [2, 3] (sIf (tNot (tV (e1 dAny c_unbeaten_1))) (sApp 1 (eVar 2)) sNil))
def l_unbeaten_1 : DS := (sFor (iEnumK (eVar 0)) (gT (gsCons (gN 2) (gsCons (gN 3) gsNil))) b_unbeaten_1)
def m_unbeaten : DS := (sSeq (sExpr (eCall f_check_all [.e (eVar 0)])) (sSeq (sOwn 1 (eLst aNil)) (sSeq l_unbeaten_1 (sSeq (sRelL 1) (sRet (e1 dTuple (eVar 1)))))))
def f_unbeaten : DF := mkF 5 [.val] m_unbeaten
def c_rises_1 : DE := (eLc [1, 2] (iZip2 (eVar 0) (eSl (eVar 0) (oSome (eC (.int 1))) oNone)) (gT (gsCons (gN 1) (gsCons (gN 2) gsNil))) tYes (eB (c2 dLt (eVar 1) (eVar 2))))
def m_rises : DS := (sRet (e1 dAll c_rises_1))
def f_rises : DF := mkF 3 [.val] m_rises
def m_is_errand : DS := (sSeq (sIf (tOr (tNot (tV (eIsi .tuple (eVar 1)))) (tOr (c2 dNe (e1 dLen (eVar 1)) (eC (.int 2))) (tOr (tNot (tV (eCall f_is_number [.e (e2 dIx (eVar 1) (eC (.int 1)))]))) (c2 dLt (e2 dIx (eVar 1) (eC (.int 1))) (eC (.int 1)))))) (sRet (eC (.bl false))) sNil) (sSeq (sAsgN 2 (e2 dIx (eVar 1) (eC (.int 0)))) (sRet (eAnd (eCall f_are_numbers [.e (eVar 2), .e (eC (.int 2)), .e (eC (.int 0))]) (eB (c3 dLe dLt (e2 dIx (eVar 2) (eC (.int 0))) (e2 dIx (eVar 2) (eC (.int 1))) (eVar 0)))))))
def f_is_errand : DF := mkF 3 [.val, .val] m_is_errand
def c_is_lot_1 : DE := (eLc [1] (iSeq (e2 dIx (eVar 0) (eC (.int 1)))) (gN 1) tYes (eCall f_is_errand [.e (e2 dIx (eVar 0) (eC (.int 0))), .e (eVar 1)]))
def c_is_lot_2 : DE := (eLc [2, 3] (iSeq (e2 dIx (eVar 0) (eC (.int 1)))) (gT (gsCons (gN 2) (gsCons (gN 3) gsNil))) tYes (eVar 2))
def m_is_lot : DS := (sSeq (sIf (tOr (tNot (tV (eIsi .tuple (eVar 0)))) (tOr (c2 dNe (e1 dLen (eVar 0)) (eC (.int 2))) (tOr (tNot (tV (eCall f_is_number [.e (e2 dIx (eVar 0) (eC (.int 0)))]))) (c2 dLt (e2 dIx (eVar 0) (eC (.int 0))) (eC (.int 1)))))) (sRet (eC (.bl false))) sNil) (sSeq (sIf (tOr (tNot (tV (eIsi .tuple (e2 dIx (eVar 0) (eC (.int 1)))))) (tNot (tV (e1 dAll c_is_lot_1)))) (sRet (eC (.bl false))) sNil) (sRet (eCall f_rises [.e c_is_lot_2]))))
def f_is_lot : DF := mkF 4 [.val] m_is_lot
def m_law_is_whole : DS := (sRet (eAnd (eIsi .int (eVar 0)) (eNot (eIsi .bool (eVar 0)))))
def f_law_is_whole : DF := mkF 1 [.val] m_law_is_whole
def c_is_stretch_1 : DE := (eLc [2] (iSeq (eVar 1)) (gN 2) tYes (eCall f_is_number [.e (eVar 2)]))
def m_is_stretch : DS := (sSeq (sIf (tOr (tNot (tV (eIsi .tuple (eVar 1)))) (tOr (c2 dNe (e1 dLen (eVar 1)) (eC (.int 2))) (tNot (tV (e1 dAll c_is_stretch_1))))) (sRet (eC (.bl false))) sNil) (sRet (eB (c4 dLe dLe dLt (eC (.int 0)) (e2 dIx (eVar 1) (eC (.int 0))) (e2 dIx (eVar 1) (eC (.int 1))) (eVar 0)))))
def f_is_stretch : DF := mkF 3 [.val, .val] m_is_stretch
def c_law_rank_1 : DE := (eLc [1] (iSeq (eCall f_law_spans [.e (e2 dIx (eVar 0) (eC (.int 0)))])) (gN 1) tYes (eCall f_law_asked [.e (eVar 0), .e (eVar 1)]))
def m_law_rank : DS := (sRet c_law_rank_1)
def f_law_rank : DF := mkF 2 [.val] m_law_rank
def c_tupled_1 (n_f : DF) : DE := (eLc [1] (iSeq (eVar 0)) (gN 1) tYes (eCall n_f [.e (eVar 1)]))
def m_tupled (n_f : DF) : DS := (sRet (eIf (tV (eIsi2 .list .tuple (eVar 0))) (e1 dTuple (c_tupled_1 n_f)) (eVar 0)))
def f_tupled : Nat → DF
  | 0 => fun _ => .bad
  | n + 1 => mkF 2 [.val] (m_tupled (f_tupled n))
def b_exchanged_1 : DS := (sFg [5] (sSetD 4 (eVar 5) (e2 dSub (eGetL 4 (eVar 5) (eC (.int 0))) (eVar 3))))
def l_exchanged_1 : DS := (sFor (iSeq (eVar 1)) (gN 5) b_exchanged_1)
def b_exchanged_2 : DS := (sFg [5] (sSetD 4 (eVar 5) (e2 dAdd (eGetL 4 (eVar 5) (eC (.int 0))) (eVar 3))))
def l_exchanged_2 : DS := (sFor (iSeq (eVar 2)) (gN 5) b_exchanged_2)
def c_exchanged_1 : DE := (eLc [5] (iSeq (e1 dSortK (eTmp 4))) (gN 5) (c2 dGt (e2L dIx 4 (eVar 5)) (eC (.int 0))) (eTup (aCons (eVar 5) (aCons (e2L dIx 4 (eVar 5)) aNil))))
def m_exchanged : DS := (sSeq (sOwnD 4 (e1 dDictP (eCall (f_tupled 30) [.e (e2 dIx (eVar 0) (eC (.int 1)))]))) (sSeq l_exchanged_1 (sSeq l_exchanged_2 (sRet (eTup (aCons (e2 dIx (eVar 0) (eC (.int 0))) (aCons (e1 dTuple c_exchanged_1) aNil)))))))
def f_exchanged : DF := mkF 6 [.val, .val, .val, .val] m_exchanged
def m_come_by : DS := (sSeq (sAsg (e2 dIx (eVar 0) (eC (.int 1))) (gT (gsCons (gN 1) (gsCons (gN 2) gsNil)))) (sSeq (sIf (c2 dEq (e2 dIx (eVar 0) (eC (.int 0))) (eC (.str "front"))) (sRet (eTup (aCons (eTup (aCons (e2 dSub (eVar 1) (eC (.int 1))) (aCons (eVar 2) aNil))) aNil))) sNil) (sSeq (sIf (c2 dEq (e2 dIx (eVar 0) (eC (.int 0))) (eC (.str "back"))) (sRet (eTup (aCons (eTup (aCons (eVar 1) (aCons (e2 dAdd (eVar 2) (eC (.int 1))) aNil))) aNil))) sNil) (sRet (eIf (c2 dEq (e2 dIx (eVar 0) (eC (.int 0))) (eC (.str "out"))) (eTup aNil) (eTup (aCons (eTup (aCons (eVar 1) (aCons (e2 dIx (e2 dIx (eVar 0) (eC (.int 2))) (eC (.int 1))) aNil))) (aCons (eTup (aCons (e2 dIx (e2 dIx (eVar 0) (eC (.int 2))) (eC (.int 0))) (aCons (eVar 2) aNil))) aNil))))))))
def f_come_by : DF := mkF 3 [.val] m_come_by
def c_is_move_1 : DE := (eLc [6] (iSeq (eSl (eVar 1) (oSome (eC (.int 1))) oNone)) (gN 6) tYes (eCall f_is_stretch [.e (eVar 0), .e (eVar 6)]))
def m_is_move : DS := (sSeq (sIf (tOr (tNot (tV (eIsi .tuple (eVar 1)))) (tOr (c2 dNotIn (e1 dLen (eVar 1)) (eTup (aCons (eC (.int 2)) (aCons (eC (.int 3)) aNil)))) (tNot (tV (eIsi .str (e2 dIx (eVar 1) (eC (.int 0)))))))) (sRet (eC (.bl false))) sNil) (sSeq (sIf (tNot (tV (e1 dAll c_is_move_1))) (sRet (eC (.bl false))) sNil) (sSeq (sIf (c2 dEq (e1 dLen (eVar 1)) (eC (.int 3))) (sSeq (sAsg (eSl (eVar 1) (oSome (eC (.int 1))) oNone) (gT (gsCons (gT (gsCons (gN 2) (gsCons (gN 3) gsNil))) (gsCons (gT (gsCons (gN 4) (gsCons (gN 5) gsNil))) gsNil)))) (sRet (eAnd (eB (c2 dEq (e2 dIx (eVar 1) (eC (.int 0))) (eC (.str "cross")))) (eAnd (eB (c2 dLt (eVar 2) (eVar 4))) (eB (c2 dLt (eVar 5) (eVar 3))))))) sNil) (sSeq (sIf (c2 dEq (e2 dIx (eVar 1) (eC (.int 0))) (eC (.str "front"))) (sRet (eB (c2 dGt (e2 dIx (e2 dIx (eVar 1) (eC (.int 1))) (eC (.int 0))) (eC (.int 0))))) sNil) (sRet (eOr (eB (c2 dEq (e2 dIx (eVar 1) (eC (.int 0))) (eC (.str "out")))) (eAnd (eB (c2 dEq (e2 dIx (eVar 1) (eC (.int 0))) (eC (.str "back")))) (eB (c2 dLt (e2 dIx (e2 dIx (eVar 1) (eC (.int 1))) (eC (.int 1))) (e2 dSub (eVar 0) (eC (.int 1))))))))))))
def f_is_move : DF := mkF 7 [.val, .val] m_is_move
def c_least_work_1 : DE := (eLc [3] (iSeq (eVar 1)) (gN 3) tYes (eGetL 2 (eVar 3) (eC (.int 0))))
def m_least_work : DS := (sSeq (sAsgN 2 (e1 dDictP (eCall (f_tupled 30) [.e (e2 dIx (eVar 0) (eC (.int 1)))]))) (sRet (e1 dMinL c_least_work_1)))
def f_least_work : DF := mkF 4 [.val, .val] m_least_work
def m_moved : DS := (sSeq (sAsgN 3 (eCall (f_tupled 30) [.e (eVar 1)])) (sSeq (sIf (tOr (tNot (tV (eCall f_is_move [.e (e2 dIx (eVar 0) (eC (.int 0))), .e (eVar 3)]))) (c2 dLt (eCall f_least_work [.e (eVar 0), .e (eSl (eVar 3) (oSome (eC (.int 1))) oNone)]) (eVar 2))) sBad sNil) (sRet (eCall f_exchanged [.e (eVar 0), .e (eSl (eVar 3) (oSome (eC (.int 1))) oNone), .e (eCall f_come_by [.e (eVar 3)]), .e (eVar 2)]))))
def f_moved : DF := mkF 4 [.val, .val, .val] m_moved
def m_law_comes : DS := (sSeq (sAsg (e2 dIx (eVar 0) (eC (.int 1))) (gT (gsCons (gN 1) (gsCons (gN 2) gsNil)))) (sSeq (sIf (c2 dEq (e2 dIx (eVar 0) (eC (.int 0))) (eC (.str "out"))) (sRet (eLst aNil)) sNil) (sSeq (sIf (c2 dEq (e2 dIx (eVar 0) (eC (.int 0))) (eC (.str "front"))) (sRet (eLst (aCons (eTup (aCons (e2 dSub (eVar 1) (eC (.int 1))) (aCons (eVar 2) aNil))) aNil))) sNil) (sSeq (sIf (c2 dEq (e2 dIx (eVar 0) (eC (.int 0))) (eC (.str "back"))) (sRet (eLst (aCons (eTup (aCons (eVar 1) (aCons (e2 dAdd (eVar 2) (eC (.int 1))) aNil))) aNil))) sNil) (sRet (eLst (aCons (eTup (aCons (eVar 1) (aCons (e2 dIx (e2 dIx (eVar 0) (eC (.int 2))) (eC (.int 1))) aNil))) (aCons (eTup (aCons (e2 dIx (e2 dIx (eVar 0) (eC (.int 2))) (eC (.int 0))) (aCons (eVar 2) aNil))) aNil))))))))
def f_law_comes : DF := mkF 3 [.val] m_law_comes
def c_law_ways_1 : DE := (eLc [4] (iSeq (eVar 1)) (gN 4) (tAnd (c2 dLt (e2 dIx (eVar 3) (eC (.int 0))) (e2 dIx (eVar 4) (eC (.int 0)))) (c2 dLt (e2 dIx (eVar 4) (eC (.int 1))) (e2 dIx (eVar 3) (eC (.int 1))))) (eTup (aCons (eC (.str "cross")) (aCons (eVar 3) (aCons (eVar 4) aNil)))))
def b_law_ways_1 : DS := (sFg [3] (sSeq (sApp 2 (eTup (aCons (eC (.str "out")) (aCons (eVar 3) aNil)))) (sSeq (sIf (c2 dGt (e2 dIx (eVar 3) (eC (.int 0))) (eC (.int 0))) (sApp 2 (eTup (aCons (eC (.str "front")) (aCons (eVar 3) aNil)))) sNil) (sSeq (sIf (c2 dLt (e2 dIx (eVar 3) (eC (.int 1))) (e2 dSub (eVar 0) (eC (.int 1)))) (sApp 2 (eTup (aCons (eC (.str "back")) (aCons (eVar 3) aNil)))) sNil) (sOwn 2 (eAddO 2 c_law_ways_1))))))
def l_law_ways_1 : DS := (sFor (iSeq (eVar 1)) (gN 3) b_law_ways_1)
def m_law_ways : DS := (sSeq (sPar [(1, false), (2, true)] [.e (eCall f_law_spans [.e (eVar 0)]), .new (eLst aNil)]) (sSeq l_law_ways_1 (sSeq (sRelL 2) (sRet (e1 dSortA (eVar 2))))))
def f_law_ways : DF := mkF 5 [.val] m_law_ways
def c_all_moves_1 : DE := (eLc2 [3, 4] [4] (iSeq (eTup (aCons (eC (.str "out")) (aCons (eC (.str "front")) (aCons (eC (.str "back")) aNil))))) (gN 3) tYes (iSeq (eVar 1)) (gN 4) tYes (eTup (aCons (eVar 3) (aCons (eVar 4) aNil))))
def c_all_moves_2 : DE := (eLc2 [5, 6] [6] (iSeq (eVar 1)) (gN 5) tYes (iSeq (eVar 1)) (gN 6) tYes (eTup (aCons (eC (.str "cross")) (aCons (eVar 5) (aCons (eVar 6) aNil)))))
def c_all_moves_3 : DE := (eLc [7] (iSeq (eVar 2)) (gN 7) (tV (eCall f_is_move [.e (eVar 0), .e (eVar 7)])) (eVar 7))
def m_all_moves : DS := (sSeq (sAsgN 1 (eCall f_all_stretches [.e (eVar 0)])) (sSeq (sAsgN 2 c_all_moves_1) (sSeq (sAsgN 2 (e2 dAdd (eVar 2) c_all_moves_2)) (sRet (e1 dSortA c_all_moves_3)))))
def f_all_moves : DF := mkF 8 [.val] m_all_moves
def c_open_moves_1 : DE := (eLc [1] (iSeq (eCall f_all_moves [.e (e2 dIx (eVar 0) (eC (.int 0)))])) (gN 1) (c2 dGt (eCall f_least_work [.e (eVar 0), .e (eSl (eVar 1) (oSome (eC (.int 1))) oNone)]) (eC (.int 0))) (eVar 1))
def m_open_moves : DS := (sRet c_open_moves_1)
def f_open_moves : DF := mkF 2 [.val] m_open_moves
def b_one_move_1 : DS := (sFg [5, 6] (sSeq (sAsgN 6 (e2 dSub (e2 dIx (eVar 3) (e2 dIx (eVar 5) (eC (.int 1)))) (eGetL 4 (e2 dIx (eVar 5) (eC (.int 1))) (eC (.int 0))))) (sIf (tAnd (c3 dLt dLe (eC (.int 0)) (eVar 6) (eCall f_least_work [.e (eVar 0), .e (eSl (eVar 5) (oSome (eC (.int 1))) oNone)])) (c2 dEq (eCall f_moved [.e (eVar 0), .e (eVar 5), .e (eVar 6)]) (eVar 2))) (sRet (eTup (aCons (eVar 5) (aCons (eVar 6) aNil)))) sNil)))
def l_one_move_1 : DS := (sFor (iSeq (eCall f_open_moves [.e (eVar 0)])) (gN 5) b_one_move_1)
def m_one_move : DS := (sSeq (sExpr (eCall f_check_same [.e (eVar 0), .e (eVar 1)])) (sSeq (sAsgN 2 (eCall (f_tupled 30) [.e (eVar 1)])) (sSeq (sPar [(3, false), (4, false)] [.e (e1 dDictP (eCall (f_tupled 30) [.e (e2 dIx (eVar 0) (eC (.int 1)))])), .e (e1 dDictP (e2 dIx (eVar 2) (eC (.int 1))))]) (sSeq l_one_move_1 (sRet (eC .non))))))
def f_one_move : DF := mkF 7 [.val, .val] m_one_move
def m_is_step : DS := (sSeq (sIf (tOr (tNot (tV (eIsi .tuple (eVar 1)))) (tOr (c2 dNe (e1 dLen (eVar 1)) (eC (.int 2))) (tNot (tV (eCall f_is_move [.e (eVar 0), .e (e2 dIx (eVar 1) (eC (.int 0)))]))))) (sRet (eC (.bl false))) sNil) (sRet (eAnd (eCall f_is_number [.e (e2 dIx (eVar 1) (eC (.int 1)))]) (eB (c2 dGt (e2 dIx (eVar 1) (eC (.int 1))) (eC (.int 0)))))))
def f_is_step : DF := mkF 2 [.val, .val] m_is_step
def c_is_path_1 : DE := (eLc [6] (iSeq (eVar 2)) (gN 6) tYes (eCall f_is_step [.e (e2 dIx (eVar 0) (eC (.int 0))), .e (eVar 6)]))
def b_is_path_1 : DS := (sFg [4, 5] (sSeq (sIf (c2 dLt (eCall f_least_work [.e (eVar 3), .e (eSl (eVar 4) (oSome (eC (.int 1))) oNone)]) (eVar 5)) (sRet (eC (.bl false))) sNil) (sAsgN 3 (eCall f_moved [.e (eVar 3), .e (eVar 4), .e (eVar 5)]))))
def l_is_path_1 : DS := (sFor (iSeq (eVar 2)) (gT (gsCons (gN 4) (gsCons (gN 5) gsNil))) b_is_path_1)
def m_is_path : DS := (sSeq (sExpr (eCall f_check_same [.e (eVar 0), .e (eVar 1)])) (sSeq (sIf (tOr (tNot (tV (eIsi .tuple (eVar 2)))) (tNot (tV (e1 dAll c_is_path_1)))) (sRet (eC (.bl false))) sNil) (sSeq (sAsgN 3 (eCall (f_tupled 30) [.e (eVar 0)])) (sSeq l_is_path_1 (sRet (eB (c2 dEq (eVar 3) (eCall (f_tupled 30) [.e (eVar 1)]))))))))
def f_is_path : DF := mkF 7 [.val, .val, .val] m_is_path
def c_crossing_at_1 : DE := (eLc [11] (iRng2 (e2 dAdd (eVar 4) (eC (.int 1))) (e2 dIx (eVar 0) (eC (.int 0)))) (gN 11) (c2 dEq (e2L dIx 1 (eTup (aCons (eVar 3) (aCons (eVar 11) aNil)))) (eC (.int 0))) (eVar 11))
def c_crossing_at_2 : DE := (eLc [12] (iRng2 (eVar 4) (eVar 5)) (gN 12) tYes (e2L dIx 1 (eTup (aCons (eVar 11) (aCons (eVar 12) aNil)))))
def c_crossing_at_3 : DE := (eLc [11] (iRng1 (eVar 3)) (gN 11) (c2 dEq (e1 dMinL c_crossing_at_2) (eC (.int 0))) (eVar 11))
def c_crossing_at_4 : DE := (eLc [11] (iRng2 (eVar 4) (eVar 5)) (gN 11) (c2 dEq (e2L dIx 1 (eTup (aCons (eVar 7) (aCons (eVar 11) aNil)))) (eC (.int 0))) (eVar 11))
def c_crossing_at_5 : DE := (eLc2 [11, 12] [12] (iRng2 (eVar 7) (eVar 3)) (gN 11) tYes (iRng2 (e2 dAdd (eVar 8) (eC (.int 1))) (e2 dAdd (eVar 5) (eC (.int 1)))) (gN 12) (c2 dIn (eTup (aCons (eVar 11) (aCons (eVar 12) aNil))) (eVar 9)) (eTup (aCons (eVar 11) (aCons (eVar 12) aNil))))
def m_crossing_at : DS := (sSeq (sAsg (eVar 2) (gT (gsCons (gN 3) (gsCons (gN 4) gsNil)))) (sSeq (sAsgN 5 (e2 dIx c_crossing_at_1 (eC (.int 0)))) (sSeq (sAsgN 6 c_crossing_at_3) (sSeq (sAsgN 7 (e2 dIx (eVar 6) (e1 dNeg (eC (.int 1))))) (sSeq (sAsgN 8 (e2 dIx c_crossing_at_4 (eC (.int 0)))) (sSeq (sAsgN 9 (e1 dDictP (e2 dIx (eVar 0) (eC (.int 1))))) (sSeq (sAsgN 10 c_crossing_at_5) (sRet (eTup (aCons (eC (.str "cross")) (aCons (e2 dIx (eVar 10) (eC (.int 0))) (aCons (eVar 2) aNil))))))))))))
def f_crossing_at : DF := mkF 13 [.val, .ro, .val] m_crossing_at
def c_step_at_1 : DE := (eLc [5] (iRng2 (eVar 4) (e2 dIx (eVar 0) (eC (.int 0)))) (gN 5) tYes (e2L dIx 1 (eTup (aCons (eVar 3) (aCons (eVar 5) aNil)))))
def c_step_at_2 : DE := (eLc [5] (iRng1 (e2 dAdd (eVar 3) (eC (.int 1)))) (gN 5) tYes (e2L dIx 1 (eTup (aCons (eVar 5) (aCons (eVar 4) aNil)))))
def m_step_at : DS := (sSeq (sAsg (eVar 2) (gT (gsCons (gN 3) (gsCons (gN 4) gsNil)))) (sSeq (sIf (c2 dGt (e1 dMinL c_step_at_1) (eC (.int 0))) (sRet (eIf (c2 dGt (eVar 3) (eC (.int 0))) (eTup (aCons (eC (.str "front")) (aCons (eVar 2) aNil))) (eTup (aCons (eC (.str "out")) (aCons (eVar 2) aNil))))) sNil) (sSeq (sIf (c2 dGt (e1 dMinL c_step_at_2) (eC (.int 0))) (sRet (eIf (c2 dLt (eVar 4) (e2 dSub (e2 dIx (eVar 0) (eC (.int 0))) (eC (.int 1)))) (eTup (aCons (eC (.str "back")) (aCons (eVar 2) aNil))) (eTup (aCons (eC (.str "out")) (aCons (eVar 2) aNil))))) sNil) (sRet (eCall f_crossing_at [.e (eVar 0), .look 1, .e (eVar 2)])))))
def f_step_at : DF := mkF 6 [.val, .ro, .val] m_step_at
def c_falls_by_1 : DE := (eLc [3] (iSeq (eSl (eVar 0) (oSome (eC (.int 1))) oNone)) (gN 3) (tV (eCall f_lies_within [.e (eVar 3), .e (eVar 1)])) (eVar 3))
def c_falls_by_2 : DE := (eLc [3] (iSeq (eCall f_come_by [.e (eVar 0)])) (gN 3) (tV (eCall f_lies_within [.e (eVar 3), .e (eVar 1)])) (eVar 3))
def m_falls_by : DS := (sSeq (sAsgN 2 (e1 dLen c_falls_by_1)) (sRet (eB (c2 dGt (eVar 2) (e1 dLen c_falls_by_2)))))
def f_falls_by : DF := mkF 4 [.val, .val] m_falls_by
def c_law_under_1 : DE := (eLc [2, 3] (iZip2 (eVar 0) (eVar 1)) (gT (gsCons (gN 2) (gsCons (gN 3) gsNil))) tYes (eB (c2 dLe (eVar 2) (eVar 3))))
def m_law_under : DS := (sRet (e1 dAll c_law_under_1))
def f_law_under : DF := mkF 4 [.val, .val] m_law_under
def c_is_below_1 : DE := (eLc [2, 3] (iZip2 (eVar 0) (eVar 1)) (gT (gsCons (gN 2) (gsCons (gN 3) gsNil))) tYes (eB (c2 dLe (eVar 2) (eVar 3))))
def m_is_below : DS := (sRet (e1 dAll c_is_below_1))
def f_is_below : DF := mkF 4 [.val, .val] m_is_below
def m_moved_back : DS := (sSeq (sAsgN 2 (eCall f_come_by [.e (eVar 1)])) (sSeq (sIf (tAnd (c2 dGt (e1 dLen (eVar 2)) (eC (.int 0))) (c2 dLt (eCall f_least_work [.e (eVar 0), .e (eVar 2)]) (eC (.int 1)))) (sRet (eC .non)) sNil) (sRet (eCall f_exchanged [.e (eVar 0), .e (eVar 2), .e (eSl (eVar 1) (oSome (eC (.int 1))) oNone), .e (eC (.int 1))]))))
def f_moved_back : DF := mkF 3 [.val, .val] m_moved_back
def b_law_lots_1 : DS := (sFg [7] (sApp 4 (eTup (aCons (e2 dAdd (eVar 5) (eTup (aCons (eTup (aCons (eVar 3) (aCons (eVar 7) aNil))) aNil))) (aCons (e2 dSub (eVar 6) (eVar 7)) aNil)))))
def l_law_lots_1 : DS := (sFor (iRng2 (eC (.int 1)) (e2 dAdd (eVar 6) (eC (.int 1)))) (gN 7) b_law_lots_1)
def b_law_lots_2 : DS := (sFg [5, 6, 7] (sSeq (sApp 4 (eTup (aCons (eVar 5) (aCons (eVar 6) aNil)))) l_law_lots_1))
def l_law_lots_2 : DS := (sFor (iSeq (eVar 2)) (gT (gsCons (gN 5) (gsCons (gN 6) gsNil))) b_law_lots_2)
def b_law_lots_3 : DS := (sFg [3, 4, 5, 6, 7] (sSeq (sOwn 4 (eLst aNil)) (sSeq l_law_lots_2 (sSeq (sRelL 4) (sAsgN 2 (eVar 4))))))
def l_law_lots_3 : DS := (sFor (iSeq (eCall f_law_spans [.e (eVar 0)])) (gN 3) b_law_lots_3)
def c_law_lots_1 : DE := (eLc [5, 6] (iSeq (eVar 2)) (gT (gsCons (gN 5) (gsCons (gN 6) gsNil))) tYes (eTup (aCons (eVar 0) (aCons (eVar 5) aNil))))
def m_law_lots : DS := (sSeq (sAsgN 2 (eLst (aCons (eTup (aCons (eTup aNil) (aCons (eVar 1) aNil))) aNil))) (sSeq l_law_lots_3 (sRet (e1 dSortA c_law_lots_1))))
def f_law_lots : DF := mkF 8 [.val, .val] m_law_lots
def c_law_work_1 : DE := (eLc [1, 2] (iSeq (e2 dIx (eVar 0) (eC (.int 1)))) (gT (gsCons (gN 1) (gsCons (gN 2) gsNil))) tYes (eVar 2))
def m_law_work : DS := (sRet (e1 dSumA c_law_work_1))
def f_law_work : DF := mkF 3 [.val] m_law_work
def c_law_does_1 : DE := (eLc [2, 3] (iSeq (e2 dIx (eVar 0) (eC (.int 1)))) (gT (gsCons (gN 2) (gsCons (gN 3) gsNil))) tYes (eVar 3))
def m_law_does : DS := (sRet (eB (c2 dEq (eCall f_law_best_done [.e (eVar 0), .e (eVar 1)]) (e1 dSumA c_law_does_1))))
def f_law_does : DF := mkF 4 [.val, .val] m_law_does
def b_best_apart_1 : DS := (sFg [5, 6, 7] (sSeq (sAsg (e2L dIx 2 (eVar 5)) (gT (gsCons (gN 6) (gsCons (gN 7) gsNil)))) (sIf (c2 dGt (e2 dAdd (eVar 6) (e2 dIx (eVar 1) (eTup (aCons (eVar 5) (aCons (eVar 3) aNil))))) (e2 dIx (eVar 4) (eC (.int 0)))) (sAsgN 4 (eTup (aCons (e2 dAdd (eVar 6) (e2 dIx (eVar 1) (eTup (aCons (eVar 5) (aCons (eVar 3) aNil))))) (aCons (eTup (aStar (eVar 7) (aCons (eTup (aCons (eVar 5) (aCons (eVar 3) aNil))) aNil))) aNil)))) sNil)))
def l_best_apart_1 : DS := (sFor (iRng1 (e2 dAdd (eVar 3) (eC (.int 1)))) (gN 5) b_best_apart_1)
def b_best_apart_2 : DS := (sFg [3, 4, 5, 6, 7] (sSeq (sAsgN 4 (e2L dIx 2 (eVar 3))) (sSeq l_best_apart_1 (sApp 2 (eVar 4)))))
def l_best_apart_2 : DS := (sFor (iRng1 (eVar 0)) (gN 3) b_best_apart_2)
def m_best_apart : DS := (sSeq (sOwn 2 (eLst (aCons (eTup (aCons (eC (.int 0)) (aCons (eTup aNil) aNil))) aNil))) (sSeq l_best_apart_2 (sSeq (sRelL 2) (sRet (e2 dIx (eVar 2) (eVar 0))))))
def f_best_apart : DF := mkF 8 [.val, .val] m_best_apart
def b_work_by_1 : DS := (sFg [3, 4] (sSetD 1 (eVar 3) (e2 dAdd (eGetL 1 (eVar 3) (eC (.int 0))) (eVar 4))))
def l_work_by_1 : DS := (sFor (iSeq (eVar 2)) (gT (gsCons (gN 3) (gsCons (gN 4) gsNil))) b_work_by_1)
def b_work_by_2 : DS := (sFg [2, 3, 4] l_work_by_1)
def l_work_by_2 : DS := (sFor (iSeq (eCall (f_tupled 30) [.e (eVar 0)])) (gN 2) b_work_by_2)
def m_work_by : DS := (sSeq (sOwnD 1 (eC (.dic []))) (sSeq l_work_by_2 (sRetOd 1)))
def f_work_by : DF := mkR 5 [.val] m_work_by
def c_left_by_1 : DE := (eLc [3, 4] (iSeq (eCall (f_tupled 30) [.e (e2 dIx (eVar 0) (eC (.int 1)))])) (gT (gsCons (gN 3) (gsCons (gN 4) gsNil))) tYes (eTup (aCons (eVar 3) (aCons (e2 dSub (eVar 4) (eGetL 2 (eVar 3) (eC (.int 0)))) aNil))))
def m_left_by : DS := (sSeq (sAsgN 2 (eCall f_work_by [.e (eVar 1)])) (sRet (eCall f_made_lot [.e (e2 dIx (eVar 0) (eC (.int 0))), .e c_left_by_1])))
def f_left_by : DF := mkF 5 [.val, .val] m_left_by
def c_done_by_1 : DE := (eLc2 [1, 2, 3] [2, 3] (iSeq (eVar 0)) (gN 1) tYes (iSeq (eVar 1)) (gT (gsCons (gN 2) (gsCons (gN 3) gsNil))) tYes (eVar 3))
def m_done_by : DS := (sRet (e1 dSumA c_done_by_1))
def f_done_by : DF := mkF 4 [.val] m_done_by
def c_is_within_1 : DE := (eLc [2, 3, 4] (iZip2 (eVar 0) (eVar 1)) (gT (gsCons (gT (gsCons (gN 2) (gsCons (gN 3) gsNil))) (gsCons (gN 4) gsNil))) tYes (eB (c3 dLe dLe (eVar 2) (eVar 4) (eVar 3))))
def m_is_within : DS := (sSeq (sIf (tNot (tV (eCall f_is_calendar [.e (e1 dLen (eVar 0)), .e (eVar 1)]))) (sRet (eC (.bl false))) sNil) (sRet (e1 dAll c_is_within_1)))
def f_is_within : DF := mkF 5 [.val, .val] m_is_within
def b_law_spread_1 : DS := (sFg [5, 6] (sSeq (sAsgN 6 (eCall f_law_take [.lend 0, .e (e2 dAdd (eVar 2) (eC (.int 1)))])) (sApp 4 (eTup (aCons (eVar 6) (aCons (e2 dAdd (eVar 6) (eCall f_law_take [.lend 0, .e (e2 dAdd (eVar 3) (eC (.int 1)))])) aNil))))))
def l_law_spread_1 : DS := (sFor (iRng1 (eVar 1)) (gN 5) b_law_spread_1)
def m_law_spread : DS := (sSeq (sOwn 4 (eLst aNil)) (sSeq l_law_spread_1 (sSeq (sRelL 4) (sRet (e1 dTuple (eVar 4))))))
def f_law_spread : DF := mkF 7 [.bor, .val, .val, .val] m_law_spread
def c_law_amid_1 : DE := (eLc [2, 3] (iSeq (eVar 1)) (gT (gsCons (gN 2) (gsCons (gN 3) gsNil))) tYes (e2 dAdd (eVar 2) (eCall f_law_take [.lend 0, .e (e2 dAdd (e2 dSub (eVar 3) (eVar 2)) (eC (.int 1)))])))
def m_law_amid : DS := (sRet (e1 dTuple c_law_amid_1))
def f_law_amid : DF := mkF 4 [.bor, .val] m_law_amid
def c_lows_of_1 : DE := (eLc [1, 2] (iSeq (eVar 0)) (gT (gsCons (gN 1) (gsCons (gN 2) gsNil))) tYes (eVar 1))
def m_lows_of : DS := (sRet (e1 dTuple c_lows_of_1))
def f_lows_of : DF := mkF 3 [.val] m_lows_of
def c_highs_of_1 : DE := (eLc [1, 2] (iSeq (eVar 0)) (gT (gsCons (gN 1) (gsCons (gN 2) gsNil))) tYes (eVar 2))
def m_highs_of : DS := (sRet (e1 dTuple c_highs_of_1))
def f_highs_of : DF := mkF 3 [.val] m_highs_of
def c_law_inside_1 : DE := (eLc [6] (iRng2 (eVar 2) (e2 dAdd (eVar 3) (eC (.int 1)))) (gN 6) tYes (e2 dAdd (eVar 5) (eTup (aCons (eVar 6) aNil))))
def b_law_inside_1 : DS := (sFg [5] (sAsgN 4 (e2 dAdd (eVar 4) c_law_inside_1)))
def l_law_inside_1 : DS := (sFor (iSeq (eVar 1)) (gN 5) b_law_inside_1)
def b_law_inside_2 : DS := (sFg [2, 3, 4, 5] (sSeq (sAsgN 4 (eLst aNil)) (sSeq l_law_inside_1 (sAsgN 1 (eVar 4)))))
def l_law_inside_2 : DS := (sFor (iSeq (eVar 0)) (gT (gsCons (gN 2) (gsCons (gN 3) gsNil))) b_law_inside_2)
def m_law_inside : DS := (sSeq (sAsgN 1 (eLst (aCons (eTup aNil) aNil))) (sSeq l_law_inside_2 (sRet (eVar 1))))
def f_law_inside : DF := mkF 7 [.val] m_law_inside
def m_check_ranges : DS := (sIf (c2 dNe (e1 dLen (eVar 1)) (e2 dIx (eVar 0) (eC (.int 0)))) (sRaise "Unfit") sNil)
def f_check_ranges : DF := mkF 2 [.val, .val] m_check_ranges
def b_raised_1 : DS := (sFg [5, 6] (sSeq (sAsgN 6 (e2 dAdd (e2L dIx 2 (eTup (aCons (eVar 4) (aCons (eVar 3) aNil)))) (e2L dIx 2 (eTup (aCons (eVar 3) (aCons (eVar 5) aNil)))))) (sSetD 2 (eTup (aCons (eVar 4) (aCons (eVar 5) aNil))) (e2 dMax2 (e2L dIx 2 (eTup (aCons (eVar 4) (aCons (eVar 5) aNil)))) (eVar 6)))))
def l_raised_1 : DS := (sFor (iRng1 (e2 dAdd (eVar 1) (eC (.int 1)))) (gN 5) b_raised_1)
def b_raised_2 : DS := (sFg [4, 5, 6] l_raised_1)
def l_raised_2 : DS := (sFor (iRng1 (e2 dAdd (eVar 1) (eC (.int 1)))) (gN 4) b_raised_2)
def b_raised_3 : DS := (sFg [3, 4, 5, 6] l_raised_2)
def l_raised_3 : DS := (sFor (iRng1 (e2 dAdd (eVar 1) (eC (.int 1)))) (gN 3) b_raised_3)
def m_raised : DS := (sSeq (sOwnD 2 (e1 dDictP (eVar 0))) (sSeq l_raised_3 (sRetOd 2)))
def f_raised : DF := mkR 7 [.val, .val] m_raised
def c_expense_1 : DE := (eLc [2, 3] (iZip2 (eVar 0) (eVar 1)) (gT (gsCons (gN 2) (gsCons (gN 3) gsNil))) tYes (e2 dMul (eVar 2) (eVar 3)))
def m_expense : DS := (sSeq (sIf (c2 dNe (e1 dLen (eVar 0)) (e1 dLen (eVar 1))) (sRaise "Unfit") sNil) (sRet (e1 dSumA c_expense_1)))
def f_expense : DF := mkF 4 [.val, .val] m_expense
def c_does_1 : DE := (eLc [3, 4] (iSeq (eVar 2)) (gT (gsCons (gN 3) (gsCons (gN 4) gsNil))) tYes (eB (c2 dGe (e1 dSumA (eSl (eVar 1) (oSome (eVar 3)) (oSome (e2 dAdd (eVar 4) (eC (.int 1)))))) (eCall f_asked [.e (eVar 0), .e (eVar 3), .e (eVar 4)]))))
def m_does : DS := (sSeq (sAsgN 2 (eCall f_all_stretches [.e (e2 dIx (eVar 0) (eC (.int 0)))])) (sRet (e1 dAll c_does_1)))
def f_does : DF := mkF 5 [.val, .val] m_does
def m_is_cheapest : DS := (sSeq (sExpr (eCall f_check_fit [.e (eVar 0), .e (eVar 1)])) (sSeq (sIf (tOr (tNot (tV (eCall f_are_numbers [.e (eVar 2), .e (e2 dIx (eVar 0) (eC (.int 0))), .e (eC (.int 0))]))) (tNot (tV (eCall f_does [.e (eVar 0), .e (eVar 2)])))) (sRet (eC (.bl false))) sNil) (sRet (eB (c2 dEq (eCall f_expense [.e (eVar 2), .e (eVar 1)]) (eCall f_cheapest [.e (eVar 0), .e (eVar 1)]))))))
def f_is_cheapest : DF := mkF 3 [.val, .val, .val] m_is_cheapest
def c_law_rows_1 : DE := (eLc [6] (iRng1 (e2 dAdd (eVar 1) (eC (.int 1)))) (gN 6) tYes (e2 dAdd (eVar 5) (eTup (aCons (eVar 6) aNil))))
def b_law_rows_1 : DS := (sFg [5] (sAsgN 4 (e2 dAdd (eVar 4) c_law_rows_1)))
def l_law_rows_1 : DS := (sFor (iSeq (eVar 2)) (gN 5) b_law_rows_1)
def b_law_rows_2 : DS := (sFg [3, 4, 5] (sSeq (sAsgN 4 (eLst aNil)) (sSeq l_law_rows_1 (sAsgN 2 (eVar 4)))))
def l_law_rows_2 : DS := (sFor (iRng1 (eVar 0)) (gN 3) b_law_rows_2)
def m_law_rows : DS := (sSeq (sAsgN 2 (eLst (aCons (eTup aNil) aNil))) (sSeq l_law_rows_2 (sRet (eVar 2))))
def f_law_rows : DF := mkF 7 [.val, .val] m_law_rows
def b_asked_of_1 : DS := (sFg [2] (sIf (tNot (c3 dLe dLt (eC (.int 0)) (eVar 2) (e2 dIx (eVar 0) (eC (.int 0))))) (sRaiseA "NoHour" 1 (aCons (eVar 2) aNil)) sNil))
def l_asked_of_1 : DS := (sFor (iSeq (eVar 1)) (gN 2) b_asked_of_1)
def c_asked_of_1 : DE := (eLc [2] (iRng2 (eVar 3) (e2 dAdd (eVar 4) (eC (.int 1)))) (gN 2) tYes (eB (c2 dIn (eVar 2) (eVar 1))))
def c_asked_of_2 : DE := (eLc [3, 4, 5] (iSeq (e2 dIx (eVar 0) (eC (.int 1)))) (gT (gsCons (gT (gsCons (gN 3) (gsCons (gN 4) gsNil))) (gsCons (gN 5) gsNil))) (tV (e1 dAll c_asked_of_1)) (eVar 5))
def m_asked_of : DS := (sSeq l_asked_of_1 (sRet (e1 dSumA c_asked_of_2)))
def f_asked_of : DF := mkF 6 [.val, .val] m_asked_of
def c_law_in_set_1 : DE := (eLc [5] (iRng2 (e2 dIx (eVar 3) (eC (.int 0))) (e2 dAdd (e2 dIx (eVar 3) (eC (.int 1))) (eC (.int 1)))) (gN 5) (c2 dNotIn (eVar 5) (eVar 1)) (eVar 5))
def b_law_in_set_1 : DS := (sFg [3, 4] (sIf (c2 dEq c_law_in_set_1 (eLst aNil)) (sAsgN 2 (e2 dAdd (eVar 2) (eVar 4))) sNil))
def l_law_in_set_1 : DS := (sFor (iSeq (e2 dIx (eVar 0) (eC (.int 1)))) (gT (gsCons (gN 3) (gsCons (gN 4) gsNil))) b_law_in_set_1)
def m_law_in_set : DS := (sSeq (sAsgN 2 (eC (.int 0))) (sSeq l_law_in_set_1 (sRet (eVar 2))))
def f_law_in_set : DF := mkF 6 [.val, .val] m_law_in_set
def m_more_of : DS := (sRet (e2 dSub (eCall f_asked_of [.e (eVar 0), .e (eVar 2)]) (eCall f_asked_of [.e (eVar 1), .e (eVar 2)])))
def f_more_of : DF := mkF 3 [.val, .val, .val] m_more_of
def c_sets_of_1 : DE := (eLc [3] (iSeq (eVar 1)) (gN 3) tYes (eTup (aStar (eVar 3) (aCons (eVar 2) aNil))))
def b_sets_of_1 : DS := (sFg [2] (sAsgN 1 (e2 dAdd (eVar 1) c_sets_of_1)))
def l_sets_of_1 : DS := (sFor (iRng1 (eVar 0)) (gN 2) b_sets_of_1)
def m_sets_of : DS := (sSeq (sAsgN 1 (eLst (aCons (eTup aNil) aNil))) (sSeq l_sets_of_1 (sRet (e1 dSortA (eVar 1)))))
def f_sets_of : DF := mkF 4 [.val] m_sets_of
def c_excess_1 : DE := (eLc [3] (iSeq (eCall f_sets_of [.e (e2 dIx (eVar 0) (eC (.int 0)))])) (gN 3) tYes (eCall f_more_of [.e (eVar 0), .e (eVar 1), .e (eVar 3)]))
def m_excess : DS := (sSeq (sExpr (eCall f_check_same [.e (eVar 0), .e (eVar 1)])) (sRet (e2 dMul (eVar 2) (e1 dMaxL c_excess_1))))
def f_excess : DF := mkF 4 [.val, .val, .val] m_excess
def m_check_order : DS := (sIf (c2 dNe (e1 dSortA (eVar 1)) (lRng1 (eVar 0))) (sRaise "Unfit") sNil)
def f_check_order : DF := mkF 2 [.val, .val] m_check_order
def c_never_dearer_in_1 : DE := (eLc [3] (iRng1 (e2 dIx (eVar 0) (eC (.int 0)))) (gN 3) tYes (eB (c2 dLe (eCall f_more_of [.e (eVar 0), .e (eVar 1), .e (eSl (eVar 2) (oSome (eVar 3)) oNone)]) (eC (.int 0)))))
def m_never_dearer_in : DS := (sSeq (sExpr (eCall f_check_same [.e (eVar 0), .e (eVar 1)])) (sSeq (sExpr (eCall f_check_order [.e (e2 dIx (eVar 0) (eC (.int 0))), .e (eVar 2)])) (sRet (e1 dAll c_never_dearer_in_1))))
def f_never_dearer_in : DF := mkF 4 [.val, .val, .val] m_never_dearer_in
def b_law_mixed_1 : DS := (sFg [4, 5] (sSeq (sAsgN 5 (eCall f_law_take [.lend 0, .e (e1 dLen (eVar 2))])) (sSeq (sApp 3 (e2 dIx (eVar 2) (eVar 5))) (sAsgN 2 (e2 dAdd (eSl (eVar 2) oNone (oSome (eVar 5))) (eSl (eVar 2) (oSome (e2 dAdd (eVar 5) (eC (.int 1)))) oNone))))))
def l_law_mixed_1 : DS := (sFor (iRng1 (e1 dLen (eVar 1))) (gN 4) b_law_mixed_1)
def m_law_mixed : DS := (sSeq (sPar [(2, false), (3, true)] [.e (e1 dList (eVar 1)), .new (eLst aNil)]) (sSeq l_law_mixed_1 (sSeq (sRelL 3) (sRet (eVar 3)))))
def f_law_mixed : DF := mkF 6 [.bor, .val] m_law_mixed
def m_beside : DS := (sRet (eIf (c3 dLe dLt (eC (.int 0)) (eVar 1) (e1 dLen (eVar 0))) (e2 dIx (eVar 0) (eVar 1)) (eC (.int 0))))
def f_beside : DF := mkF 2 [.val, .val] m_beside
def m_weight_of : DS := (sRet (e2 dSub (e1 dMinL (eSl (eVar 0) (oSome (eVar 1)) (oSome (e2 dAdd (eVar 2) (eC (.int 1)))))) (e2 dMax2 (eCall f_beside [.e (eVar 0), .e (e2 dSub (eVar 1) (eC (.int 1)))]) (eCall f_beside [.e (eVar 0), .e (e2 dAdd (eVar 2) (eC (.int 1)))]))))
def f_weight_of : DF := mkF 3 [.val, .val, .val] m_weight_of
def c_weights_of_1 : DE := (eLc [2] (iSeq (eCall f_all_stretches [.e (e1 dLen (eVar 0))])) (gN 2) tYes (eTup (aCons (eVar 2) (aCons (eCall f_weight_of [.e (eVar 0), .e (e2 dIx (eVar 2) (eC (.int 0))), .e (e2 dIx (eVar 2) (eC (.int 1)))]) aNil))))
def c_weights_of_2 : DE := (eLc [2, 3] (iSeq (eVar 1)) (gT (gsCons (gN 2) (gsCons (gN 3) gsNil))) (c2 dGt (eVar 3) (eC (.int 0))) (eTup (aCons (eVar 2) (aCons (eVar 3) aNil))))
def m_weights_of : DS := (sSeq (sAsgN 1 c_weights_of_1) (sRet (e1 dTuple c_weights_of_2)))
def f_weights_of : DF := mkF 4 [.val] m_weights_of
def c_seen_1 : DE := (eLc [1, 2] (iSeq (eCall f_weights_of [.e (eVar 0)])) (gT (gsCons (gN 1) (gsCons (gN 2) gsNil))) tYes (eVar 1))
def m_seen : DS := (sRet (e1 dTuple c_seen_1))
def f_seen : DF := mkF 3 [.val] m_seen
def b_law_runs_1 : DS := (sFg [2] (sIf (tAnd (c2L dNe 1 (eLst aNil)) (c2 dEq (e2 dIx (e2L dIx 1 (e1 dNeg (eC (.int 1)))) (eC (.int 1))) (e2 dSub (eVar 2) (eC (.int 1))))) (sSetL 1 (e1 dNeg (eC (.int 1))) (eTup (aCons (e2 dIx (e2L dIx 1 (e1 dNeg (eC (.int 1)))) (eC (.int 0))) (aCons (eVar 2) aNil)))) (sApp 1 (eTup (aCons (eVar 2) (aCons (eVar 2) aNil))))))
def l_law_runs_1 : DS := (sFor (iSeq (eVar 0)) (gN 2) b_law_runs_1)
def m_law_runs : DS := (sSeq (sOwn 1 (eLst aNil)) (sSeq l_law_runs_1 (sSeq (sRelL 1) (sRet (eVar 1)))))
def f_law_runs : DF := mkF 3 [.val] m_law_runs
def c_law_begun_1 : DE := (eLc [6] (iSeq (eCall f_law_spans [.e (eVar 0)])) (gN 6) tYes (eTup (aCons (eVar 6) (aCons (eC (.int 0)) aNil))))
def b_law_begun_1 : DS := (sFg [4, 5, 6] (sSeq (sAsgN 6 (eTup (aCons (e2 dMax2 (e2 dIx (eVar 4) (eC (.int 0))) (eVar 2)) (aCons (e2 dIx (eVar 4) (eC (.int 1))) aNil)))) (sSetD 3 (eVar 6) (e2 dAdd (e2L dIx 3 (eVar 6)) (eVar 5)))))
def l_law_begun_1 : DS := (sFor (iSeq (eVar 1)) (gT (gsCons (gN 4) (gsCons (gN 5) gsNil))) b_law_begun_1)
def m_law_begun : DS := (sSeq (sOwnD 3 (e1 dDictP c_law_begun_1)) (sSeq l_law_begun_1 (sRet (eCall f_law_made [.e (eVar 0), .look 3]))))
def f_law_begun : DF := mkF 7 [.val, .val, .val] m_law_begun
def m_law_crew : DS := (sRet (e2 dAdd (e2 dMul (eTup (aCons (eC (.int 0)) aNil)) (eVar 1)) (e1 dTuple (eSl (eVar 0) (oSome (eVar 1)) oNone))))
def f_law_crew : DF := mkF 2 [.val, .val] m_law_crew
def m_fewest_rows : DS := (sRet (eIf (c2 dEq (eVar 0) (eC (.int 1))) (eC (.int 1)) (e2 dDiv (e2 dAdd (eVar 0) (eC (.int 3))) (eC (.int 2)))))
def f_fewest_rows : DF := mkF 1 [.val] m_fewest_rows
def c_bills_of_1 : DE := (eLc [2] (iSeq (eVar 1)) (gN 2) tYes (eCall f_cheapest [.e (eVar 0), .e (eVar 2)]))
def m_bills_of : DS := (sRet (e1 dTuple c_bills_of_1))
def f_bills_of : DF := mkF 3 [.val, .val] m_bills_of
def b_spans_in_row_1 : DS := (sFg [4, 5, 6] (sSeq (sAsgN 6 (e2 dMod (e2 dAdd (e2 dAdd (eVar 4) (eVar 5)) (eC (.int 2))) (eVar 2))) (sIf (tOr (c2 dEq (eTup (aCons (eVar 4) (aCons (eVar 5) aNil))) (eTup (aCons (eC (.int 0)) (aCons (e2 dSub (eVar 0) (eC (.int 1))) aNil)))) (c2 dIn (eVar 6) (eTup (aCons (e2 dMod (e2 dMul (eC (.int 2)) (eVar 1)) (eVar 2)) (aCons (e2 dMod (e2 dAdd (e2 dMul (eC (.int 2)) (eVar 1)) (eC (.int 1))) (eVar 2)) aNil))))) (sApp 3 (eTup (aCons (eVar 4) (aCons (eVar 5) aNil)))) sNil)))
def l_spans_in_row_1 : DS := (sFor (iSeq (eCall f_all_stretches [.e (eVar 0)])) (gT (gsCons (gN 4) (gsCons (gN 5) gsNil))) b_spans_in_row_1)
def m_spans_in_row : DS := (sSeq (sPar [(2, false), (3, true)] [.e (e2 dAdd (eVar 0) (eC (.int 2))), .new (eLst aNil)]) (sSeq l_spans_in_row_1 (sSeq (sRelL 3) (sRet (eVar 3)))))
def f_spans_in_row : DF := mkF 7 [.val, .val] m_spans_in_row
def b_powers_1 : DS := (sFg [3] (sApp 2 (e2 dMul (e2L dIx 2 (e1 dNeg (eC (.int 1)))) (eVar 0))))
def l_powers_1 : DS := (sFor (iRng1 (e2 dSub (eVar 1) (eC (.int 1)))) (gN 3) b_powers_1)
def m_powers : DS := (sSeq (sOwn 2 (eLst (aCons (eC (.int 1)) aNil))) (sSeq l_powers_1 (sSeq (sRelL 2) (sRet (eVar 2)))))
def f_powers : DF := mkF 4 [.val, .val] m_powers
def b_figures_of_1 : DS := (sFg [4] (sSeq (sApp 3 (e2 dMod (eVar 0) (eVar 1))) (sAsgN 0 (e2 dDiv (eVar 0) (eVar 1)))))
def l_figures_of_1 : DS := (sFor (iRng1 (eVar 2)) (gN 4) b_figures_of_1)
def m_figures_of : DS := (sSeq (sOwn 3 (eLst aNil)) (sSeq l_figures_of_1 (sSeq (sRelL 3) (sRet (eIf (c2 dEq (eVar 0) (eC (.int 0))) (eVar 3) (eC .non))))))
def f_figures_of : DF := mkF 5 [.val, .val, .val] m_figures_of
def b_check_rows_1 : DS := (sFg [2] (sIf (c2 dNe (e1 dLen (eVar 2)) (eVar 0)) (sRaise "Unfit") sNil))
def l_check_rows_1 : DS := (sFor (iSeq (eVar 1)) (gN 2) b_check_rows_1)
def m_check_rows : DS := l_check_rows_1
def f_check_rows : DF := mkF 3 [.val, .val] m_check_rows
def c_unseen_1 : DE := (eLc2 [3, 4] [4] (iSeq (eVar 1)) (gN 3) tYes (iSeq (eCall f_seen [.e (eVar 3)])) (gN 4) tYes (eVar 4))
def c_unseen_2 : DE := (eLc [4] (iSeq (eCall f_all_stretches [.e (eVar 0)])) (gN 4) (c2 dNotIn (eVar 4) (eVar 2)) (eVar 4))
def m_unseen : DS := (sSeq (sExpr (eCall f_check_rows [.e (eVar 0), .e (eVar 1)])) (sSeq (sAsgN 2 c_unseen_1) (sRet (e1 dTuple c_unseen_2))))
def f_unseen : DF := mkF 5 [.val, .val] m_unseen
def m_pair_at : DS := (sSeq (sPar [(3, false), (4, false)] [.e (eB (c2 dGt (eVar 1) (eC (.int 0)))), .e (eB (c2 dLt (eVar 2) (e2 dSub (eVar 0) (eC (.int 1)))))]) (sSeq (sAsgN 5 (e2 dAdd (e2 dMul (eLst (aCons (eTup (aCons (eTup (aCons (e2 dSub (eVar 1) (eC (.int 1))) (aCons (eVar 2) aNil))) (aCons (eC (.int 1)) aNil))) aNil)) (e1 dInt (eVar 3))) (e2 dMul (eLst (aCons (eTup (aCons (eTup (aCons (eVar 1) (aCons (e2 dAdd (eVar 2) (eC (.int 1))) aNil))) (aCons (eC (.int 1)) aNil))) aNil)) (e1 dInt (eVar 4))))) (sSeq (sAsgN 6 (e2 dAdd (eLst (aCons (eTup (aCons (eTup (aCons (eVar 1) (aCons (eVar 2) aNil))) (aCons (eC (.int 1)) aNil))) aNil)) (e2 dMul (eLst (aCons (eTup (aCons (eTup (aCons (e2 dSub (eVar 1) (eC (.int 1))) (aCons (e2 dAdd (eVar 2) (eC (.int 1))) aNil))) (aCons (eC (.int 1)) aNil))) aNil)) (e1 dInt (eAnd (eVar 3) (eVar 4)))))) (sRet (eTup (aCons (eCall f_made_lot [.e (eVar 0), .e (eVar 5)]) (aCons (eCall f_made_lot [.e (eVar 0), .e (eVar 6)]) aNil)))))))
def f_pair_at : DF := mkF 7 [.val, .val, .val] m_pair_at
def m_blind_pair : DS := (sSeq (sAsgN 2 (eCall f_unseen [.e (eVar 0), .e (eVar 1)])) (sRet (eIf (c2 dGt (e1 dLen (eVar 2)) (eC (.int 0))) (eCall f_pair_at [.e (eVar 0), .e (e2 dIx (e2 dIx (eVar 2) (eC (.int 0))) (eC (.int 0))), .e (e2 dIx (e2 dIx (eVar 2) (eC (.int 0))) (eC (.int 1)))]) (eC .non))))
def f_blind_pair : DF := mkF 3 [.val, .val] m_blind_pair
def c_is_blind_pair_1 : DE := (eLc [3] (iSeq (eVar 2)) (gN 3) tYes (eCall f_is_lot [.e (eVar 3)]))
def m_is_blind_pair : DS := (sSeq (sExpr (eCall f_check_rows [.e (eVar 0), .e (eVar 1)])) (sSeq (sIf (tOr (tNot (tV (eIsi .tuple (eVar 2)))) (tOr (c2 dNe (e1 dLen (eVar 2)) (eC (.int 2))) (tNot (tV (e1 dAll c_is_blind_pair_1))))) (sRet (eC (.bl false))) sNil) (sSeq (sIf (tOr (c2 dEq (e2 dIx (eVar 2) (eC (.int 0))) (e2 dIx (eVar 2) (eC (.int 1)))) (c2 dNe (eTup (aCons (e2 dIx (e2 dIx (eVar 2) (eC (.int 0))) (eC (.int 0))) (aCons (e2 dIx (e2 dIx (eVar 2) (eC (.int 1))) (eC (.int 0))) aNil))) (eTup (aCons (eVar 0) (aCons (eVar 0) aNil))))) (sRet (eC (.bl false))) sNil) (sRet (eB (c2 dEq (eCall f_bills_of [.e (e2 dIx (eVar 2) (eC (.int 0))), .e (eVar 1)]) (eCall f_bills_of [.e (e2 dIx (eVar 2) (eC (.int 1))), .e (eVar 1)])))))))
def f_is_blind_pair : DF := mkF 4 [.val, .val, .val] m_is_blind_pair
def m_law_sum : DS := (sRet (e2 dAdd (e1 dSumA (eSl (eVar 0) (oSome (eVar 2)) (oSome (e2 dAdd (eVar 3) (eC (.int 1)))))) (e2 dMul (eVar 1) (e2 dMax2 (eC (.int 0)) (e2 dAdd (e2 dSub (eVar 3) (e1 dLen (eVar 0))) (eC (.int 1)))))))
def f_law_sum : DF := mkF 4 [.val, .val, .val, .val] m_law_sum
def b_least_after_1 : DS := (sFg [5, 6, 7] (sSeq (sAsgN 6 (e2 dSub (eCall f_asked [.e (eVar 0), .e (e2 dIx (eVar 5) (eC (.int 0))), .e (e2 dIx (eVar 5) (eC (.int 1)))]) (e1 dSumA (eSl (eVar 1) (oSome (e2 dIx (eVar 5) (eC (.int 0)))) (oSome (e2 dAdd (e2 dAdd (e2 dIx (eVar 5) (eC (.int 1))) (eVar 2)) (eC (.int 1)))))))) (sSeq (sAsgN 7 (e2 dSub (e2 dAdd (e2 dIx (eVar 5) (eC (.int 1))) (eVar 2)) (eVar 4))) (sSeq (sIf (tAnd (c2 dGt (eVar 6) (eC (.int 0))) (c2 dLt (eVar 7) (eC (.int 1)))) (sRet (eC .non)) sNil) (sIf (c2 dGt (eVar 6) (eC (.int 0))) (sAsgN 3 (e2 dMax2 (eVar 3) (e1 dNeg (e2 dDiv (e1 dNeg (eVar 6)) (eVar 7))))) sNil)))))
def l_least_after_1 : DS := (sFor (iSeq (eCall f_all_stretches [.e (e2 dIx (eVar 0) (eC (.int 0)))])) (gN 5) b_least_after_1)
def m_least_after : DS := (sSeq (sExpr (eCall f_check_calendar [.e (eVar 0), .e (eVar 1)])) (sSeq (sPar [(3, false), (4, false)] [.e (eC (.int 0)), .e (e2 dSub (e2 dIx (eVar 0) (eC (.int 0))) (eC (.int 1)))]) (sSeq l_least_after_1 (sRet (eVar 3)))))
def f_least_after : DF := mkF 8 [.val, .val, .val] m_least_after
def c_longer_1 : DE := (eLc [2, 3, 4] (iSeq (e2 dIx (eVar 0) (eC (.int 1)))) (gT (gsCons (gT (gsCons (gN 2) (gsCons (gN 3) gsNil))) (gsCons (gN 4) gsNil))) tYes (eTup (aCons (eTup (aCons (eVar 2) (aCons (e2 dAdd (eVar 3) (eVar 1)) aNil))) (aCons (eVar 4) aNil))))
def m_longer : DS := (sRet (eCall f_made_lot [.e (e2 dAdd (e2 dIx (eVar 0) (eC (.int 0))) (eVar 1)), .e c_longer_1]))
def f_longer : DF := mkF 5 [.val, .val] m_longer
def m_never_later : DS := (sRet (eB (c2 dEq (eCall f_over [.e (eVar 0), .e (eVar 1)]) (eLst aNil))))
def f_never_later : DF := mkF 2 [.val, .val] m_never_later
def m_is_later : DS := (sRet (eAnd (eB (tNotN (eVar 1))) (eOr (eB (tIsN (eVar 0))) (eB (c2 dGt (eVar 0) (eVar 1))))))
def f_is_later : DF := mkF 2 [.val, .val] m_is_later
def c_later_calendar_1 : DE := (eLc [9, 10, 11] (iSeq (e2 dIx (eVar 1) (eC (.int 1)))) (gT (gsCons (gT (gsCons (gN 9) (gsCons (gN 10) gsNil))) (gsCons (gN 11) gsNil))) (tAnd (c2 dEq (eVar 9) (eVar 8)) (c2 dLe (eVar 10) (eVar 4))) (eVar 11))
def b_later_calendar_1 : DS := (sFg [8] (sSetL 7 (eVar 8) (e1 dSumA c_later_calendar_1)))
def l_later_calendar_1 : DS := (sFor (iRng2 (eVar 3) (e2 dAdd (eVar 4) (eC (.int 1)))) (gN 8) b_later_calendar_1)
def m_later_calendar : DS := (sSeq (sAsgN 2 (eCall f_over [.e (eVar 0), .e (eVar 1)])) (sSeq (sIf (c2 dEq (eVar 2) (eLst aNil)) (sRet (eC .non)) sNil) (sSeq (sAsg (e2 dIx (eVar 2) (eC (.int 0))) (gT (gsCons (gN 3) (gsCons (gN 4) (gsCons (gN 5) gsNil))))) (sSeq (sAsgN 6 (e2 dAdd (eCall f_all_work [.e (eVar 0)]) (eCall f_all_work [.e (eVar 1)]))) (sSeq (sOwn 7 (e2 dMulL (eLst (aCons (eVar 6) aNil)) (e2 dIx (eVar 1) (eC (.int 0))))) (sSeq l_later_calendar_1 (sSeq (sRelL 7) (sRet (eTup (aCons (e1 dTuple (eVar 7)) (aCons (eVar 6) aNil)))))))))))
def f_later_calendar : DF := mkF 12 [.val, .val] m_later_calendar
def b_least_times_1 : DS := (sFg [3, 4, 5, 6] (sSeq (sPar [(5, false), (6, false)] [.e (eCall f_asked [.e (eVar 0), .e (eVar 3), .e (eVar 4)]), .e (e1 dSumA (eSl (eVar 1) (oSome (eVar 3)) (oSome (e2 dAdd (eVar 4) (eC (.int 1))))))]) (sSeq (sIf (tAnd (c2 dGt (eVar 5) (eC (.int 0))) (c2 dEq (eVar 6) (eC (.int 0)))) (sRet (eC .non)) sNil) (sAsgN 2 (e2 dMax2 (eVar 2) (eIf (c2 dGt (eVar 5) (eC (.int 0))) (e1 dNeg (e2 dDiv (e1 dNeg (eVar 5)) (eVar 6))) (eC (.int 0))))))))
def l_least_times_1 : DS := (sFor (iSeq (eCall f_all_stretches [.e (e2 dIx (eVar 0) (eC (.int 0)))])) (gT (gsCons (gN 3) (gsCons (gN 4) gsNil))) b_least_times_1)
def m_least_times : DS := (sSeq (sExpr (eCall f_check_calendar [.e (eVar 0), .e (eVar 1)])) (sSeq (sAsgN 2 (eC (.int 0))) (sSeq l_least_times_1 (sRet (eVar 2)))))
def f_least_times : DF := mkF 7 [.val, .val] m_least_times
def m_even_hands : DS := (sRet (eCall f_least_times [.e (eVar 0), .e (e2 dMul (eLst (aCons (eC (.int 1)) aNil)) (e2 dIx (eVar 0) (eC (.int 0))))]))
def f_even_hands : DF := mkF 1 [.val] m_even_hands
def m_hours_in : DS := (sRet (lRng2 (e2 dIx (eVar 0) (eC (.int 0))) (e2 dAdd (e2 dIx (eVar 0) (eC (.int 1))) (eC (.int 1)))))
def f_hours_in : DF := mkF 1 [.val] m_hours_in
def c_tightest_1 : DE := (eLc [3] (iSeq (eCall f_all_stretches [.e (e2 dIx (eVar 0) (eC (.int 0)))])) (gN 3) (c2 dGt (eCall f_asked [.e (eVar 0), .e (e2 dIx (eVar 3) (eC (.int 0))), .e (e2 dIx (eVar 3) (eC (.int 1)))]) (e2 dMul (e2 dSub (eVar 1) (eC (.int 1))) (e1 dLen (eCall f_hours_in [.e (eVar 3)])))) (eVar 3))
def m_tightest : DS := (sSeq (sAsgN 1 (eCall f_even_hands [.e (eVar 0)])) (sSeq (sAsgN 2 c_tightest_1) (sRet (eIf (c2 dGt (eVar 1) (eC (.int 0))) (e2 dIx (eVar 2) (eC (.int 0))) (eC .non)))))
def f_tightest : DF := mkF 4 [.val] m_tightest
def m_law_done : DS := (sRet (eB (c2 dEq (eCall f_law_best_done [.e (eVar 0), .e (eVar 1)]) (eCall f_law_work [.e (eVar 0)]))))
def f_law_done : DF := mkF 2 [.val, .val] m_law_done
def b_slack_1 : DS := (sFg [3] (sApp 2 (eTup (aCons (eVar 3) (aCons (e2 dSub (e1 dSumA (eSl (eVar 1) (oSome (e2 dIx (eVar 3) (eC (.int 0)))) (oSome (e2 dAdd (e2 dIx (eVar 3) (eC (.int 1))) (eC (.int 1)))))) (eCall f_asked [.e (eVar 0), .e (e2 dIx (eVar 3) (eC (.int 0))), .e (e2 dIx (eVar 3) (eC (.int 1)))])) aNil)))))
def l_slack_1 : DS := (sFor (iSeq (eCall f_all_stretches [.e (e2 dIx (eVar 0) (eC (.int 0)))])) (gN 3) b_slack_1)
def c_slack_1 : DE := (eLc [3, 4] (iSeq (eVar 2)) (gT (gsCons (gN 3) (gsCons (gN 4) gsNil))) tYes (eVar 4))
def c_slack_2 : DE := (eLc [3, 4] (iSeq (eVar 2)) (gT (gsCons (gN 3) (gsCons (gN 4) gsNil))) (c3 dLe dLe (e2 dIx (eVar 3) (eC (.int 0))) (eVar 5) (e2 dIx (eVar 3) (eC (.int 1)))) (eVar 4))
def c_slack_3 : DE := (eLc [5] (iRng1 (e2 dIx (eVar 0) (eC (.int 0)))) (gN 5) tYes (e1 dMinL c_slack_2))
def m_slack : DS := (sSeq (sExpr (eCall f_check_calendar [.e (eVar 0), .e (eVar 1)])) (sSeq (sOwn 2 (eLst aNil)) (sSeq l_slack_1 (sSeq (sRelL 2) (sSeq (sIf (c2 dLt (e1 dMinL c_slack_1) (eC (.int 0))) (sRet (eC .non)) sNil) (sRet (e1 dTuple c_slack_3)))))))
def f_slack : DF := mkF 6 [.val, .val] m_slack
def m_is_least : DS := (sSeq (sAsgN 2 (eCall f_slack [.e (eVar 0), .e (eVar 1)])) (sRet (eAnd (eB (tNotN (eVar 2))) (eB (c2 dEq (e1 dMaxL (eVar 2)) (eC (.int 0)))))))
def f_is_least : DF := mkF 3 [.val, .val] m_is_least
def c_set_asked_1 : DE := (eLc [5] (iRng2 (eVar 2) (e2 dAdd (eVar 3) (eC (.int 1)))) (gN 5) tYes (eB (c2 dIn (eVar 5) (eTmp 1))))
def c_set_asked_2 : DE := (eLc [2, 3, 4] (iSeq (e2 dIx (eVar 0) (eC (.int 1)))) (gT (gsCons (gT (gsCons (gN 2) (gsCons (gN 3) gsNil))) (gsCons (gN 4) gsNil))) (tV (e1 dAll c_set_asked_1)) (eVar 4))
def m_set_asked : DS := (sRet (e1 dSumA c_set_asked_2))
def f_set_asked : DF := mkF 6 [.val, .ro] m_set_asked
def b_least_by_1 : DS := (sFg [5] (sSeq (sApp 3 (eVar 5)) (sSeq (sSetL 2 (eVar 5) (e2 dSub (eCall f_set_asked [.e (eVar 0), .look 3]) (eVar 4))) (sAsgN 4 (eCall f_set_asked [.e (eVar 0), .look 3])))))
def l_least_by_1 : DS := (sFor (iSeq (eVar 1)) (gN 5) b_least_by_1)
def m_least_by : DS := (sSeq (sIf (c2 dNe (e1 dSortA (eVar 1)) (lRng1 (e2 dIx (eVar 0) (eC (.int 0))))) (sRaise "Unfit") sNil) (sSeq (sPar [(2, true), (3, true), (4, false)] [.new (e2 dMulL (eLst (aCons (eC (.int 0)) aNil)) (e2 dIx (eVar 0) (eC (.int 0)))), .new (eLst aNil), .e (eC (.int 0))]) (sSeq l_least_by_1 (sSeq (sRelL 2) (sRet (e1 dTuple (eVar 2)))))))
def f_least_by : DF := mkF 6 [.val, .val] m_least_by
def c_hands_range_1 : DE := (eLc [4] (iRng1 (e2 dIx (eVar 0) (eC (.int 0)))) (gN 4) (tNot (c3 dLe dLe (eVar 1) (eVar 4) (eVar 2))) (eVar 4))
def m_hands_range : DS := (sSeq (sExpr (eCall f_check_stretch [.e (e2 dIx (eVar 0) (eC (.int 0))), .e (eVar 1), .e (eVar 2)])) (sSeq (sAsgN 3 c_hands_range_1) (sRet (eTup (aCons (eCall f_asked [.e (eVar 0), .e (eVar 1), .e (eVar 2)]) (aCons (e2 dSub (eCall f_all_work [.e (eVar 0)]) (eCall f_set_asked [.e (eVar 0), .e (eVar 3)])) aNil))))))
def f_hands_range : DF := mkF 5 [.val, .val, .val] m_hands_range
def b_law_light_1 : DS := (sFg [4, 5] (sSeq (sAsgN 5 (eCall f_law_of [.lend 0, .e (eCall f_law_spans [.e (eVar 1)])])) (sSetD 3 (eVar 5) (e2 dAdd (e2L dIx 3 (eVar 5)) (eC (.int 1))))))
def l_law_light_1 : DS := (sFor (iRng1 (eCall f_law_take [.lend 0, .e (e2 dAdd (eVar 2) (eC (.int 1)))])) (gN 4) b_law_light_1)
def m_law_light : DS := (sSeq (sOwnD 3 (eCall f_law_table [.e (eTup (aCons (eVar 1) (aCons (eTup aNil) aNil)))])) (sSeq l_law_light_1 (sRet (eCall f_law_made [.e (eVar 1), .look 3]))))
def f_law_light : DF := mkF 6 [.bor, .val, .val] m_law_light
def c_law_rows_to_1 : DE := (eLc [6] (iRng1 (e2 dAdd (eVar 1) (eC (.int 1)))) (gN 6) tYes (e2 dAdd (eVar 5) (eTup (aCons (eVar 6) aNil))))
def b_law_rows_to_1 : DS := (sFg [5] (sAsgN 4 (e2 dAdd (eVar 4) c_law_rows_to_1)))
def l_law_rows_to_1 : DS := (sFor (iSeq (eVar 2)) (gN 5) b_law_rows_to_1)
def b_law_rows_to_2 : DS := (sFg [3, 4, 5] (sSeq (sAsgN 4 (eLst aNil)) (sSeq l_law_rows_to_1 (sAsgN 2 (eVar 4)))))
def l_law_rows_to_2 : DS := (sFor (iRng1 (eVar 0)) (gN 3) b_law_rows_to_2)
def m_law_rows_to : DS := (sSeq (sAsgN 2 (eLst (aCons (eTup aNil) aNil))) (sSeq l_law_rows_to_2 (sRet (eVar 2))))
def f_law_rows_to : DF := mkF 7 [.val, .val] m_law_rows_to
def c_law_set_asked_1 : DE := (eLc [6] (iRng2 (e2 dIx (eVar 3) (eC (.int 0))) (e2 dAdd (e2 dIx (eVar 3) (eC (.int 1))) (eC (.int 1)))) (gN 6) (c2 dIn (eVar 6) (eVar 1)) (eVar 6))
def b_law_set_asked_1 : DS := (sFg [3, 4, 5] (sSeq (sAsgN 5 c_law_set_asked_1) (sAsgN 2 (e2 dAdd (eVar 2) (e2 dMul (eVar 4) (e1 dInt (eB (c2 dEq (e1 dLen (eVar 5)) (e2 dAdd (e2 dSub (e2 dIx (eVar 3) (eC (.int 1))) (e2 dIx (eVar 3) (eC (.int 0)))) (eC (.int 1)))))))))))
def l_law_set_asked_1 : DS := (sFor (iSeq (e2 dIx (eVar 0) (eC (.int 1)))) (gT (gsCons (gN 3) (gsCons (gN 4) gsNil))) b_law_set_asked_1)
def m_law_set_asked : DS := (sSeq (sAsgN 2 (eC (.int 0))) (sSeq l_law_set_asked_1 (sRet (eVar 2))))
def f_law_set_asked : DF := mkF 7 [.val, .val] m_law_set_asked
def b_best_runs_1 : DS := (sFg [5, 6, 7, 8] (sSeq (sAsgN 6 (e2 dSub (eCall f_asked [.e (eVar 0), .e (eVar 5), .e (eVar 3)]) (eCall f_asked [.e (eVar 1), .e (eVar 5), .e (eVar 3)]))) (sSeq (sAsg (e2L dIx 2 (eVar 5)) (gT (gsCons (gN 7) (gsCons (gN 8) gsNil)))) (sIf (c2 dGt (e2 dAdd (eVar 7) (eVar 6)) (e2 dIx (eVar 4) (eC (.int 0)))) (sAsgN 4 (eTup (aCons (e2 dAdd (eVar 7) (eVar 6)) (aCons (eTup (aStar (eVar 8) (aCons (eTup (aCons (eVar 5) (aCons (eVar 3) aNil))) aNil))) aNil)))) sNil))))
def l_best_runs_1 : DS := (sFor (iRng1 (e2 dAdd (eVar 3) (eC (.int 1)))) (gN 5) b_best_runs_1)
def b_best_runs_2 : DS := (sFg [3, 4, 5, 6, 7, 8] (sSeq (sAsgN 4 (e2L dIx 2 (e1 dNeg (eC (.int 1))))) (sSeq l_best_runs_1 (sApp 2 (eVar 4)))))
def l_best_runs_2 : DS := (sFor (iRng1 (e2 dIx (eVar 0) (eC (.int 0)))) (gN 3) b_best_runs_2)
def m_best_runs : DS := (sSeq (sOwn 2 (eLst (aCons (eTup (aCons (eC (.int 0)) (aCons (eTup aNil) aNil))) (aCons (eTup (aCons (eC (.int 0)) (aCons (eTup aNil) aNil))) aNil)))) (sSeq l_best_runs_2 (sSeq (sRelL 2) (sRet (e2 dIx (eVar 2) (e1 dNeg (eC (.int 1))))))))
def f_best_runs : DF := mkF 9 [.val, .val] m_best_runs
def m_most_undone : DS := (sSeq (sExpr (eCall f_check_same [.e (eVar 0), .e (eVar 1)])) (sRet (e2 dIx (eCall f_best_runs [.e (eVar 0), .e (eVar 1)]) (eC (.int 0)))))
def f_most_undone : DF := mkF 2 [.val, .val] m_most_undone
def c_undone_calendar_1 : DE := (eLc [8, 9, 10] (iSeq (e2 dIx (eVar 1) (eC (.int 1)))) (gT (gsCons (gT (gsCons (gN 8) (gsCons (gN 9) gsNil))) (gsCons (gN 10) gsNil))) (tAnd (c2 dEq (eVar 8) (eVar 7)) (c2 dLe (eVar 9) (eVar 6))) (eVar 10))
def b_undone_calendar_1 : DS := (sFg [7] (sSetL 4 (eVar 7) (e1 dSumA c_undone_calendar_1)))
def l_undone_calendar_1 : DS := (sFor (iRng2 (eVar 5) (e2 dAdd (eVar 6) (eC (.int 1)))) (gN 7) b_undone_calendar_1)
def b_undone_calendar_2 : DS := (sFg [5, 6, 7] l_undone_calendar_1)
def l_undone_calendar_2 : DS := (sFor (iSeq (eVar 2)) (gT (gsCons (gN 5) (gsCons (gN 6) gsNil))) b_undone_calendar_2)
def m_undone_calendar : DS := (sSeq (sExpr (eCall f_check_same [.e (eVar 0), .e (eVar 1)])) (sSeq (sPar [(2, false), (3, false)] [.e (e2 dIx (eCall f_best_runs [.e (eVar 0), .e (eVar 1)]) (eC (.int 1))), .e (e2 dAdd (eCall f_all_work [.e (eVar 0)]) (eCall f_all_work [.e (eVar 1)]))]) (sSeq (sOwn 4 (e2 dMulL (eLst (aCons (eVar 3) aNil)) (e2 dIx (eVar 0) (eC (.int 0))))) (sSeq l_undone_calendar_2 (sSeq (sRelL 4) (sRet (e1 dTuple (eVar 4))))))))
def f_undone_calendar : DF := mkF 11 [.val, .val] m_undone_calendar
def c_law_drawn_1 : DE := (eLc [7] (iSeq (e2 dIx (eVar 4) (eC (.int 1)))) (gN 7) (c2 dGe (e2 dIx (e2 dIx (eVar 7) (eC (.int 0))) (eC (.int 1))) (eVar 3)) (eVar 7))
def c_law_drawn_2 : DE := (eLc [7] (iSeq (eVar 6)) (gN 7) tYes (e2 dMul (eVar 7) (eCall f_law_of [.lend 0, .e (eLst (aCons (eC (.int 1)) (aCons (e2 dPow (eC (.int 10)) (eC (.int 6))) (aCons (e2 dPow (eC (.int 10)) (eC (.int 38))) aNil))))])))
def m_law_drawn : DS := (sSeq (sAsgN 3 (eCall f_law_of [.lend 0, .e (eLst (aCons (eC (.int 0)) (aCons (eC (.int 0)) (aCons (eCall f_law_take [.lend 0, .e (e2 dAdd (eVar 1) (eC (.int 1)))]) aNil))))])) (sSeq (sAsgN 4 (eIf (tV (eVar 2)) (eCall f_law_great [.lend 0, .e (eVar 1)]) (eCall f_law_lot [.lend 0, .e (eVar 1), .e (eC (.int 3))]))) (sSeq (sAsgN 5 (e1 dTuple c_law_drawn_1)) (sSeq (sAsgN 6 (eCall f_law_hands [.lend 0, .e (eVar 1), .e (eC (.int 6))])) (sSeq (sIf (tV (eVar 2)) (sAsgN 6 (e1 dTuple c_law_drawn_2)) sNil) (sRet (eTup (aCons (eVar 5) (aCons (eVar 6) (aCons (eVar 3) aNil))))))))))
def f_law_drawn : DF := mkF 8 [.bor, .val, .val] m_law_drawn
def c_is_name_1 : DE := (eLc [1] (iSeq (eVar 0)) (gN 1) tYes (eB (c2 dIn (eVar 1) (eC (.str "abcdefghijklmnopqrstuvwxyz")))))
def m_is_name : DS := (sRet (eAnd (eIsi .str (eVar 0)) (eAnd (eB (c3 dLe dLe (eC (.int 1)) (e1 dLen (eVar 0)) (eC (.int 8)))) (e1 dAll c_is_name_1))))
def f_is_name : DF := mkF 2 [.val] m_is_name
def c_number_in_1 : DE := (eLc [1] (iSeq (eVar 0)) (gN 1) tYes (eB (c2 dIn (eVar 1) (eC (.str "0123456789")))))
def m_number_in : DS := (sSeq (sIf (tOr (c2 dEq (eVar 0) (eC (.str ""))) (tOr (tNot (tV (e1 dAll c_number_in_1))) (tAnd (c2 dEq (e2 dIx (eVar 0) (eC (.int 0))) (eC (.str "0"))) (c2 dNe (eVar 0) (eC (.str "0")))))) (sRaise "BadText") sNil) (sRet (e1 dInt (eVar 0))))
def f_number_in : DF := mkF 2 [.val] m_number_in
def m_yes_or_no : DS := (sRet (eIf (tV (eVar 0)) (eC (.str "yes")) (eC (.str "no"))))
def f_yes_or_no : DF := mkF 1 [.val] m_yes_or_no
end AH
namespace AH
open PySem L2
variable [TheK]
/-! ### what a run comes to, exceptions too -/
@[irreducible] def Wn {α : Type} (m : M α) (e : Env) (Q : α → Env → Prop) (E : Str → List D → Env → Prop) : Prop := match m e with
  | .ok a e1 => Q a e1
  | .ex c fs e1 => E c fs e1
  | .bad => False
@[irreducible] def WF (r : Rf) (Q : D → List (List D) → Prop) (E : Str → List D → List (List D) → Prop) : Prop := match r with
  | .ok d bs => Q d bs
  | .ex c fs bs => E c fs bs
  | .bad => False
def WR {α : Type} (r : Rv α) (Q : α → Prop) : Prop := match r with
  | .ok a => Q a
  | .bad => False
abbrev NoE : Str → List D → Env → Prop := fun _ _ _ => False
abbrev NoF : Str → List D → List (List D) → Prop := fun _ _ _ => False
section
variable {α β : Type} {e : Env} {i j : Nat} {a b c d : DE} {t u : DT} {x y z : D} {xs ys : List D} {m n : DS} {g : DG} {E : Str → List D → Env → Prop}
theorem Wn.imp {m : M α} {Q Q' : α → Env → Prop} {E' : Str → List D → Env → Prop} (h : Wn m e Q E) (q : ∀ a e1, Q a e1 → Q' a e1) (x : ∀ c fs e1, E c fs e1 → E' c fs e1 := by intro _ _ _ h; exact h) : Wn m e Q' E' := by
  unfold Wn at h ⊢
  split at h <;> rename_i q1
  · exact q _ _ h
  · exact x _ _ _ h
  · exact h
theorem WF.imp {r : Rf} {Q Q' : D → List (List D) → Prop} {E E' : Str → List D → List (List D) → Prop} (h : WF r Q E) (q : ∀ a e1, Q a e1 → Q' a e1) (x : ∀ c fs e1, E c fs e1 → E' c fs e1 := by intro _ _ _ h; exact h) : WF r Q' E' := by
  unfold WF at h ⊢
  cases r with
  | ok d bs => exact q _ _ h
  | ex c fs bs => exact x _ _ _ h
  | bad => exact h
theorem wn_eq {m : M α} {v : α} {e1 : Env} {Q : α → Env → Prop} (h : m e = .ok v e1) : Wn m e Q E = Q v e1 := by unfold Wn; rw [h]
theorem wn_ex {m : M α} {c : Str} {fs : List D} {e1 : Env} {Q : α → Env → Prop} (h : m e = .ex c fs e1) : Wn m e Q E = E c fs e1 := by unfold Wn; rw [h]
theorem Wn.eq {m : M α} {v : α} {e1 : Env} (h : Wn m e (fun a e2 => a = v ∧ e2 = e1) NoE) : m e = .ok v e1 := by
  unfold Wn at h
  cases q : m e with
  | ok a e2 => rw [q] at h; obtain ⟨rfl, rfl⟩ := h; rfl
  | ex _ _ _ => rw [q] at h; exact h.elim
  | bad => rw [q] at h; exact h.elim
theorem WF.eq {r : Rf} {v : D} {bs : List (List D)} (h : WF r (fun a b => a = v ∧ b = bs) NoF) : r = .ok v bs := by
  unfold WF at h
  cases r with
  | ok a b => obtain ⟨rfl, rfl⟩ := h; rfl
  | ex _ _ _ => exact h.elim
  | bad => exact h.elim
theorem WF.ex_eq {r : Rf} {c : Str} {fs : List D} {bs : List (List D)} (h : WF r (fun _ _ => False) (fun c' fs' bs' => c' = c ∧ fs' = fs ∧ bs' = bs)) : r = .ex c fs bs := by
  unfold WF at h
  cases r with
  | ok a b => exact h.elim
  | ex _ _ _ => obtain ⟨rfl, rfl, rfl⟩ := h; rfl
  | bad => exact h.elim
theorem WF.run {r : Rf} {Q : D → List (List D) → Prop} (h : WF r Q NoF) : ∃ d bs, r = .ok d bs ∧ Q d bs := by
  unfold WF at h
  cases r with
  | ok d bs => exact ⟨d, bs, rfl, h⟩
  | ex _ _ _ => exact h.elim
  | bad => exact h.elim
@[simp] theorem wf_ok {d : D} {bs : List (List D)} {Q : D → List (List D) → Prop} {E : Str → List D → List (List D) → Prop} : WF (.ok d bs) Q E = Q d bs := by unfold WF; rfl
@[simp] theorem wf_ex {c : Str} {fs : List D} {bs : List (List D)} {Q : D → List (List D) → Prop} {E : Str → List D → List (List D) → Prop} : WF (.ex c fs bs) Q E = E c fs bs := by unfold WF; rfl
@[simp] theorem wf_bad {Q : D → List (List D) → Prop} {E : Str → List D → List (List D) → Prop} : WF .bad Q E = False := by unfold WF; rfl
@[simp] theorem wr_ok {v : α} {Q : α → Prop} : WR (.ok v) Q = Q v := nr rfl
@[simp] theorem wr_bad {Q : α → Prop} : WR (.bad : Rv α) Q = False := nr rfl
@[simp] theorem wr_ite {k : Prop} [Decidable k] {r s : Rv α} {Q : α → Prop} : WR (if k then r else s) Q = if k then WR r Q else WR s Q := by split <;> rfl
@[simp] theorem wn_bind {m : M α} {f : α → M β} {Q : β → Env → Prop} : Wn (M.bind m f) e Q E = Wn m e (fun a e1 => Wn (f a) e1 Q E) E := by
  unfold Wn M.bind
  cases m e <;> rfl
@[simp] theorem wn_pure {v : α} {Q : α → Env → Prop} : Wn (M.pure v) e Q E = Q v e := by unfold Wn; rfl
@[simp] theorem wn_of {r : Rv α} {Q : α → Env → Prop} : Wn (M.of r) e Q E = WR r fun v => Q v e := by unfold Wn; cases r <;> rfl
@[simp] theorem wn_bad {Q : α → Env → Prop} : Wn (fun _ => .bad : M α) e Q E = False := by unfold Wn; rfl
@[simp] theorem wn_ite {k : Prop} [Decidable k] {p q : M α} {Q : α → Env → Prop} : Wn (if k then p else q) e Q E = if k then Wn p e Q E else Wn q e Q E := by split <;> rfl
def isVal : Sl → Option D
  | .val d => some d
  | _ => none
def WS (s : Sl) (Q : D → Prop) : Prop := match s with
  | .val d => Q d
  | _ => False
@[simp] theorem ws_val {Q : D → Prop} : WS (.val x) Q = Q x := nr rfl
def WT (s : Sl) (Q : D → Prop) : Prop := match s with
  | .val d => Q d
  | .ro d => Q d
  | .own xs => Q (.lst xs)
  | .bor xs => Q (.lst xs)
  | .odc kvs => Q (.dic kvs)
  | .ldc kvs => Q (.dic kvs)
  | .no => False
@[simp] theorem wt_val {Q : D → Prop} : WT (.val x) Q = Q x := nr rfl
@[simp] theorem wt_ro {Q : D → Prop} : WT (.ro x) Q = Q x := nr rfl
@[simp] theorem wt_own {Q : D → Prop} : WT (.own xs) Q = Q (.lst xs) := nr rfl
@[simp] theorem wt_bor {Q : D → Prop} : WT (.bor xs) Q = Q (.lst xs) := nr rfl
@[simp] theorem wt_odc {k : List (List Key × D)} {Q : D → Prop} : WT (.odc k) Q = Q (.dic k) := nr rfl
@[simp] theorem wn_var {Q : D → Env → Prop} : Wn (eVar i) e Q E = WS (sl e i) fun v => Q v e := by
  unfold Wn eVar WS
  cases sl e i <;> rfl
@[simp] theorem wn_tmp {Q : D → Env → Prop} : Wn (eTmp i) e Q E = WT (sl e i) fun v => Q v e := by
  unfold Wn eTmp WT
  cases sl e i <;> rfl
@[simp] theorem wn_c {Q : D → Env → Prop} : Wn (eC x) e Q E = Q x e := by unfold Wn; rfl
@[simp] theorem wn_e2 {f : D → D → Rv D} {Q : D → Env → Prop} : Wn (e2 f a b) e Q E = Wn a e (fun x e1 => Wn b e1 (fun y e2 => WR (f x y) fun z => Q z e2) E) E := by simp only [e2, wn_bind, wn_of]
@[simp] theorem wn_e1 {f : D → Rv D} {Q : D → Env → Prop} : Wn (e1 f a) e Q E = Wn a e (fun x e1 => WR (f x) fun z => Q z e1) E := by simp only [e1, wn_bind, wn_of]
@[simp] theorem wn_e2L {f : D → D → Rv D} {Q : D → Env → Prop} : Wn (e2L f i b) e Q E = WT (sl e i) fun _ => Wn b e (fun y e2 => WT (sl e2 i) fun x => WR (f x y) fun z => Q z e2) E := by simp only [e2L, wn_bind, wn_of, wn_tmp]
@[simp] theorem wn_c2 {f : D → D → Rv Bool} {Q : Bool → Env → Prop} : Wn (c2 f a b) e Q E = Wn a e (fun x e1 => Wn b e1 (fun y e2 => WR (f x y) fun z => Q z e2) E) E := by simp only [c2, wn_bind, wn_of]
@[simp] theorem wn_c2L {f : D → D → Rv Bool} {Q : Bool → Env → Prop} : Wn (c2L f i b) e Q E = WT (sl e i) fun _ => Wn b e (fun y e2 => WT (sl e2 i) fun x => WR (f x y) fun z => Q z e2) E := by simp only [c2L, wn_bind, wn_of, wn_tmp]
@[simp] theorem wn_eB {Q : D → Env → Prop} : Wn (eB t) e Q E = Wn t e (fun k e1 => Q (.bl k) e1) E := by simp only [eB, wn_bind, wn_pure]
def WB (d : D) (Q : Bool → Prop) : Prop := match d with
  | .bl k => Q k
  | _ => False
@[simp] theorem wb_bl {k : Bool} {Q : Bool → Prop} : WB (.bl k) Q = Q k := nr rfl
@[simp] theorem wn_tV {Q : Bool → Env → Prop} : Wn (tV a) e Q E = Wn a e (fun x e1 => WB x fun k => Q k e1) E := by
  simp only [tV, wn_bind]
  congr 1
  funext x e1
  unfold Wn; cases x <;> rfl
@[simp] theorem wn_tNot {Q : Bool → Env → Prop} : Wn (tNot t) e Q E = Wn t e (fun k e1 => Q (!k) e1) E := by simp only [tNot, wn_bind, wn_pure]
@[simp] theorem wn_tAnd {Q : Bool → Env → Prop} : Wn (AH.tAnd t u) e Q E = Wn t e (fun k e1 => if k = true then Wn u e1 Q E else Q false e1) E := by simp only [AH.tAnd, wn_bind, wn_ite, wn_pure]
@[simp] theorem wn_tOr {Q : Bool → Env → Prop} : Wn (AH.tOr t u) e Q E = Wn t e (fun k e1 => if k = true then Q true e1 else Wn u e1 Q E) E := by simp only [AH.tOr, wn_bind, wn_ite, wn_pure]
@[simp] theorem wn_tIsN {Q : Bool → Env → Prop} : Wn (tIsN a) e Q E = Wn a e (fun x e1 => Q (dIsN x) e1) E := by simp only [tIsN, wn_bind, wn_pure]
@[simp] theorem wn_tNotN {Q : Bool → Env → Prop} : Wn (tNotN a) e Q E = Wn a e (fun x e1 => Q (!dIsN x) e1) E := by simp only [tNotN, wn_bind, wn_pure]
@[simp] theorem wn_c3 {f g : D → D → Rv Bool} {Q : Bool → Env → Prop} : Wn (c3 f g a b c) e Q E = Wn a e (fun x e1 => Wn b e1 (fun y e2 => WR (f x y) fun k => if k = true then Wn c e2 (fun z e3 => WR (g y z) fun l => Q l e3) E else Q false e2) E) E := by simp only [c3, wn_bind, wn_ite, wn_pure, wn_of]
@[simp] theorem wn_c4 {f g h : D → D → Rv Bool} {Q : Bool → Env → Prop} : Wn (c4 f g h a b c d) e Q E = Wn a e (fun x e1 => Wn b e1 (fun y e2 => WR (f x y) fun k => if k = true then Wn c e2 (fun z e3 => WR (g y z) fun l => if l = true then Wn d e3 (fun u e4 => WR (h z u) fun o => Q o e4) E else Q false e3) E else Q false e2) E) E := by simp only [c4, wn_bind, wn_ite, wn_pure, wn_of]
@[simp] theorem wn_eIf {Q : D → Env → Prop} : Wn (eIf t a b) e Q E = Wn t e (fun k e1 => if k = true then Wn a e1 Q E else Wn b e1 Q E) E := by simp only [eIf, wn_bind, wn_ite]
@[simp] theorem wn_eAnd {Q : D → Env → Prop} : Wn (eAnd a b) e Q E = Wn a e (fun x e1 => WB x fun k => if k = true then Wn b e1 Q E else Q (.bl false) e1) E := by simp only [eAnd, wn_bind, wn_ite, wn_pure, wn_tV]
@[simp] theorem wn_eOr {Q : D → Env → Prop} : Wn (eOr a b) e Q E = Wn a e (fun x e1 => WB x fun k => if k = true then Q (.bl true) e1 else Wn b e1 Q E) E := by simp only [eOr, wn_bind, wn_ite, wn_pure, wn_tV]
@[simp] theorem wn_eNot {Q : D → Env → Prop} : Wn (eNot a) e Q E = Wn a e (fun x e1 => WB x fun k => Q (.bl (!k)) e1) E := by simp only [eNot, wn_bind, wn_pure, wn_tV]
@[simp] theorem wn_eOrT {Q : D → Env → Prop} : Wn (eOrT a b) e Q E = Wn a e (fun x e1 => WR (truth x) fun k => if k = true then Q x e1 else Wn b e1 Q E) E := by simp only [eOrT, wn_bind, wn_ite, wn_pure, wn_of]
@[simp] theorem wn_aNil {Q : List D → Env → Prop} : Wn aNil e Q E = Q [] e := by unfold Wn; rfl
@[simp] theorem wn_aCons {r : DL} {Q : List D → Env → Prop} : Wn (aCons a r) e Q E = Wn a e (fun x e1 => Wn r e1 (fun xs e2 => Q (x :: xs) e2) E) E := by simp only [aCons, wn_bind, wn_pure]
@[simp] theorem wn_aApp {r s : DL} {Q : List D → Env → Prop} : Wn (aApp r s) e Q E = Wn r e (fun x e1 => Wn s e1 (fun xs e2 => Q (x ++ xs) e2) E) E := by simp only [aApp, wn_bind, wn_pure]
@[simp] theorem wn_eTup {r : DL} {Q : D → Env → Prop} : Wn (eTup r) e Q E = Wn r e (fun xs e1 => lenOk xs.length = true ∧ Q (.tup xs) e1) E := by
  simp only [eTup, wn_bind, wn_ite, wn_pure, wn_bad]
  congr 1; funext xs e1; split <;> simp [*]
@[simp] theorem wn_eLst {r : DL} {Q : D → Env → Prop} : Wn (eLst r) e Q E = Wn r e (fun xs e1 => lenOk xs.length = true ∧ Q (.lst xs) e1) E := by
  simp only [eLst, wn_bind, wn_ite, wn_pure, wn_bad]
  congr 1; funext xs e1; split <;> simp [*]
@[simp] theorem wn_oNone {Q : Option Int → Env → Prop} : Wn oNone e Q E = Q none e := by unfold Wn; rfl
def WI (d : D) (Q : Int → Prop) : Prop := match d with
  | .int k => Q k
  | _ => False
@[simp] theorem wi_int {k : Int} {Q : Int → Prop} : WI (.int k) Q = Q k := nr rfl
@[simp] theorem wn_oSome {Q : Option Int → Env → Prop} : Wn (oSome a) e Q E = Wn a e (fun x e1 => WI x fun k => Q (some k) e1) E := by
  simp only [oSome, wn_bind]
  congr 1
  funext x e1
  unfold Wn; cases x <;> rfl
@[simp] theorem wn_eSl {lo hi : DO} {Q : D → Env → Prop} : Wn (eSl a lo hi) e Q E = Wn a e (fun x e1 => Wn lo e1 (fun l e2 => Wn hi e2 (fun h e3 => WR (dSl x l h) fun z => Q z e3) E) E) E := by simp only [eSl, wn_bind, wn_of]
@[simp] theorem wn_eSlN {lo hi : DO} {Q : D → Env → Prop} : Wn (eSlN i lo hi) e Q E = WT (sl e i) fun _ => Wn lo e (fun l e2 => Wn hi e2 (fun h e3 => WT (sl e3 i) fun x => WR (dSlL x l h) fun z => Q z e3) E) E := by simp only [eSlN, wn_bind, wn_of, wn_tmp]
@[simp] theorem wn_isi {t : Ty} {Q : D → Env → Prop} : Wn (eIsi t a) e Q E = Wn a e (fun x e1 => isExc x = false ∧ Q (.bl (isi t x)) e1) E := by
  simp only [eIsi, wn_bind, wn_ite, wn_pure, wn_bad]
  congr 1; funext x e1; cases isExc x <;> simp
@[simp] theorem wn_isi2 {t u : Ty} {Q : D → Env → Prop} : Wn (eIsi2 t u a) e Q E = Wn a e (fun x e1 => isPy x = true ∧ Q (.bl (isi t x || isi u x)) e1) E := by
  simp only [eIsi2, wn_bind, wn_ite, wn_pure, wn_bad]
  congr 1; funext x e1; cases isPy x <;> simp
def WL (d : D) (Q : List D → Prop) : Prop := match d with
  | .lst xs => Q xs
  | .tup xs => Q xs
  | _ => False
@[simp] theorem wl_lst {Q : List D → Prop} : WL (.lst xs) Q = Q xs := nr rfl
@[simp] theorem wl_tup {Q : List D → Prop} : WL (.tup xs) Q = Q xs := nr rfl
@[simp] theorem wn_iSeq {Q : List D → Env → Prop} : Wn (iSeq a) e Q E = Wn a e (fun x e1 => WL x fun xs => Q xs e1) E := by
  simp only [iSeq, wn_bind]
  congr 1
  funext x e1
  unfold Wn; cases x <;> rfl
@[simp] theorem wn_iRng1 {Q : List D → Env → Prop} : Wn (AH.iRng1 a) e Q E = Wn a e (fun x e1 => WI x fun k => rngOk 0 k = true ∧ Q (rng 0 k) e1) E := by
  simp only [AH.iRng1, wn_bind]
  congr 1
  funext x e1
  cases x with
  | int k => simp only [wn_ite, wn_pure, wn_bad, wi_int]; cases rngOk 0 k <;> simp
  | _ => unfold Wn; rfl
@[simp] theorem wn_iRng2 {Q : List D → Env → Prop} : Wn (AH.iRng2 a b) e Q E = Wn a e (fun x e1 => Wn b e1 (fun y e2 => WI x fun k => WI y fun l => rngOk k l = true ∧ Q (rng k l) e2) E) E := by
  simp only [AH.iRng2, wn_bind]
  congr 1
  funext x e1
  congr 1
  funext y e2
  cases x with
  | int k => cases y with
    | int l => simp only [wn_ite, wn_pure, wn_bad, wi_int]; cases rngOk k l <;> simp
    | _ => unfold Wn; rfl
  | _ => unfold Wn; rfl
def WZ (x y : D) (Q : List D → Prop) : Prop := match x, y with
  | .lst xs, .lst ys => Q (pairs xs ys)
  | .tup xs, .tup ys => Q (pairs xs ys)
  | _, _ => False
@[simp] theorem wz_lst {Q : List D → Prop} : WZ (.lst xs) (.lst ys) Q = Q (pairs xs ys) := nr rfl
@[simp] theorem wz_tup {Q : List D → Prop} : WZ (.tup xs) (.tup ys) Q = Q (pairs xs ys) := nr rfl
@[simp] theorem wn_iZip {Q : List D → Env → Prop} : Wn (AH.iZip a b) e Q E = Wn a e (fun x e1 => Wn b e1 (fun y e2 => WZ x y fun zs => Q zs e2) E) E := by
  simp only [AH.iZip, wn_bind]
  congr 1
  funext x e1
  congr 1
  funext y e2
  unfold Wn; cases x <;> cases y <;> rfl
@[simp] theorem seqD_lst : seqD (.lst xs) = some xs := nr rfl
@[simp] theorem seqD_tup : seqD (.tup xs) = some xs := nr rfl
def WZ2 (x y : D) (Q : List D → Prop) : Prop := match seqD x, seqD y with
  | some xs, some ys => Q (pairs xs ys)
  | _, _ => False
@[simp] theorem wz2_ok {Q : List D → Prop} (h1 : seqD x = some xs) (h2 : seqD y = some ys) : WZ2 x y Q = Q (pairs xs ys) := by unfold WZ2; rw [h1, h2]
@[simp] theorem wn_iZip2 {Q : List D → Env → Prop} : Wn (iZip2 a b) e Q E = Wn a e (fun x e1 => Wn b e1 (fun y e2 => WZ2 x y fun zs => Q zs e2) E) E := by
  simp only [iZip2, wn_bind]
  congr 1
  funext x e1
  congr 1
  funext y e2
  unfold WZ2
  cases seqD x <;> cases seqD y <;> (unfold Wn; rfl)
def WZ3 (x y z : D) (Q : List D → Prop) : Prop := match seqD x, seqD y, seqD z with
  | some xs, some ys, some zs => Q (trips xs ys zs)
  | _, _, _ => False
@[simp] theorem wz3_ok {zs : List D} {Q : List D → Prop} (h1 : seqD x = some xs) (h2 : seqD y = some ys) (h3 : seqD z = some zs) : WZ3 x y z Q = Q (trips xs ys zs) := by unfold WZ3; rw [h1, h2, h3]
@[simp] theorem wn_iZip3 {Q : List D → Env → Prop} : Wn (iZip3 a b c) e Q E = Wn a e (fun x e1 => Wn b e1 (fun y e2 => Wn c e2 (fun z e3 => WZ3 x y z fun zs => Q zs e3) E) E) E := by
  simp only [iZip3, wn_bind]
  congr 1
  funext x e1
  congr 1
  funext y e2
  congr 1
  funext z e3
  unfold WZ3
  cases seqD x <;> cases seqD y <;> cases seqD z <;> (unfold Wn; rfl)
def enumL (xs : List D) : List D := (rng 0 xs.length).zip xs |>.map fun p => D.tup [p.1, p.2]
def WM (d : D) (Q : List D → Prop) : Prop := match d with
  | .lst xs => Q xs
  | _ => False
@[simp] theorem wm_lst {Q : List D → Prop} : WM (.lst xs) Q = Q xs := nr rfl
@[simp] theorem wn_iEnum {Q : List D → Env → Prop} : Wn (iEnumL a) e Q E = Wn a e (fun x e1 => WM x fun xs => Q (enumL xs) e1) E := by
  simp only [iEnumL, wn_bind]
  congr 1
  funext x e1
  cases x <;> (unfold Wn; rfl)
@[simp] theorem wn_iEnumK {Q : List D → Env → Prop} : Wn (iEnumK a) e Q E = Wn a e (fun x e1 => WL x fun xs => Q (enumL xs) e1) E := by
  simp only [iEnumK, wn_bind]
  congr 1
  funext x e1
  cases x <;> (unfold Wn; rfl)
@[simp] theorem wn_gN {Q : Unit → Env → Prop} : Wn (gN i x) e Q E = (isOwn (sl e i) = false ∧ Q () (put e i (.val x))) := by
  unfold Wn gN
  cases isOwn (sl e i) <;> simp
@[simp] theorem wn_gsNil {Q : Unit → Env → Prop} : Wn (gsNil []) e Q E = Q () e := by unfold Wn; rfl
@[simp] theorem wn_gsCons {r : DGs} {Q : Unit → Env → Prop} : Wn (gsCons g r (x :: xs)) e Q E = Wn (g x) e (fun _ e1 => Wn (r xs) e1 Q E) E := by simp only [gsCons, wn_bind]
@[simp] theorem wn_gT {r : DGs} {Q : Unit → Env → Prop} : Wn (gT r x) e Q E = WL x fun xs => Wn (r xs) e Q E := by cases x <;> (unfold Wn; rfl)
/-! ### statements -/
@[simp] theorem wn_sNil {Q : Out → Env → Prop} : Wn sNil e Q E = Q .nx e := by unfold Wn; rfl
def WO (o : Out) (P : Prop) (Q : Out → Prop) : Prop := match o with
  | .nx => P
  | o => Q o
@[simp] theorem wo_nx {P : Prop} {Q : Out → Prop} : WO .nx P Q = P := nr rfl
@[simp] theorem wo_rt {P : Prop} {Q : Out → Prop} : WO (.rt x) P Q = Q (.rt x) := nr rfl
@[simp] theorem wo_bk {P : Prop} {Q : Out → Prop} : WO .bk P Q = Q .bk := nr rfl
@[simp] theorem wo_ct {P : Prop} {Q : Out → Prop} : WO .ct P Q = Q .ct := nr rfl
theorem wn_seq {Q : Out → Env → Prop} : Wn (sSeq m n) e Q E = Wn m e (fun o e1 => WO o (Wn n e1 Q E) fun o => Q o e1) E := by
  simp only [sSeq, wn_bind]
  congr 1
  funext o e1
  cases o <;> (unfold Wn; rfl)
@[simp] theorem wn_sAsg {Q : Out → Env → Prop} : Wn (sAsg a g) e Q E = Wn a e (fun x e1 => Wn (g x) e1 (fun _ e2 => Q .nx e2) E) E := by simp only [sAsg, wn_bind, wn_pure]
@[simp] theorem wn_sAsgN {Q : Out → Env → Prop} : Wn (sAsgN i a) e Q E = Wn a e (fun x e1 => isFix (sl e1 i) = false ∧ Q .nx (put e1 i (.val x))) E := by
  simp only [sAsgN, wn_bind]
  congr 1
  funext x e1
  unfold Wn
  dsimp only
  cases isFix (sl e1 i) <;> simp
@[simp] theorem wn_sOwn {Q : Out → Env → Prop} : Wn (sOwn i a) e Q E = Wn a e (fun x e1 => WM x fun xs => isFix (sl e1 i) = false ∧ i < e1.length ∧ Q .nx (put e1 i (.own xs))) E := by
  simp only [sOwn, wn_bind]
  congr 1
  funext x e1
  cases x with
  | lst xs =>
    unfold Wn
    simp only [wm_lst]
    cases isFix (sl e1 i) <;> by_cases h : i < e1.length <;> simp [h]
  | _ => (unfold Wn; rfl)
@[simp] theorem wn_sRelL {Q : Out → Env → Prop} : Wn (sRelL i) e Q E = (match sl e i with | .own xs => Q .nx (put e i (.val (.lst xs))) | _ => False) := by
  unfold Wn sRelL
  cases sl e i <;> rfl
@[simp] theorem wn_sIf {Q : Out → Env → Prop} : Wn (sIf t m n) e Q E = Wn t e (fun k e1 => if k = true then Wn m e1 Q E else Wn n e1 Q E) E := by simp only [sIf, wn_bind, wn_ite]
@[simp] theorem wn_sRet {Q : Out → Env → Prop} : Wn (sRet a) e Q E = Wn a e (fun x e1 => Q (.rt x) e1) E := by simp only [sRet, wn_bind, wn_pure]
@[simp] theorem wn_sRetN {Q : Out → Env → Prop} : Wn sRetN e Q E = Q (.rt .non) e := by unfold Wn; rfl
@[simp] theorem wn_sRetO {Q : Out → Env → Prop} : Wn (sRetO i) e Q E = (match sl e i with | .own xs => Q (.rt (.lst xs)) e | _ => False) := by
  unfold Wn sRetO
  cases sl e i <;> rfl
@[simp] theorem wn_sExpr {Q : Out → Env → Prop} : Wn (sExpr a) e Q E = Wn a e (fun _ e1 => Q .nx e1) E := by simp only [sExpr, wn_bind, wn_pure]
@[simp] theorem wn_sBrk {Q : Out → Env → Prop} : Wn sBrk e Q E = Q .bk e := by unfold Wn; rfl
@[simp] theorem wn_sCnt {Q : Out → Env → Prop} : Wn sCnt e Q E = Q .ct e := by unfold Wn; rfl
@[simp] theorem wn_sRaise {c : Str} {Q : Out → Env → Prop} : Wn (sRaise c) e Q E = E c [] e := by unfold Wn; rfl
@[simp] theorem wn_sRaiseA {c : Str} {n : Nat} {r : DL} {Q : Out → Env → Prop} : Wn (sRaiseA c n r) e Q E = Wn r e (fun xs e1 => xs.length = n ∧ E c xs e1) E := by
  simp only [sRaiseA, wn_bind]
  congr 1; funext xs e1
  by_cases h : xs.length = n <;> (unfold Wn; simp [h])
@[simp] theorem wn_sTryK {c : Str} {Q : Out → Env → Prop} : Wn (sTryK c i j m) e Q E = Wn m e Q (fun c' fs e1 => if c' = c then (isOwn (sl e1 i) = false ∧ isFix (sl e1 j) = false ∧ i < e1.length) ∧ Q .nx (put (put e1 j (.val (.exc c' [] fs))) i .no) else E c' fs e1) := by
  unfold Wn sTryK
  cases m e with
  | ok o e1 => rfl
  | bad => rfl
  | ex c' fs e1 =>
    simp only
    by_cases h : c' = c
    · rw [if_pos h, if_pos h]
      cases h1 : isOwn (sl e1 i) <;> cases h2 : isFix (sl e1 j) <;> by_cases h3 : i < e1.length <;> simp [h3]
    · rw [if_neg h, if_neg h]
@[simp] theorem wn_sBad {Q : Out → Env → Prop} : Wn sBad e Q E = False := by unfold Wn; rfl
def WQ (s : Sl) (Q : List D → Prop) : Prop := match s with
  | .own xs => Q xs
  | .bor xs => Q xs
  | _ => False
@[simp] theorem wq_own {Q : List D → Prop} : WQ (.own xs) Q = Q xs := nr rfl
@[simp] theorem wq_bor {Q : List D → Prop} : WQ (.bor xs) Q = Q xs := nr rfl
@[simp] theorem wn_ownL {Q : List D → Env → Prop} : Wn (ownL i) e Q E = WQ (sl e i) fun xs => Q xs e := by
  unfold Wn ownL
  cases sl e i <;> rfl
@[simp] theorem putL_own : putL (.own xs :: e) 0 ys = .own ys :: e := nr rfl
@[simp] theorem putL_bor : putL (.bor xs :: e) 0 ys = .bor ys :: e := nr rfl
@[simp] theorem putL_S {s : Sl} : putL (s :: e) (i + 1) ys = s :: putL e i ys := by simp [putL]
@[simp] theorem wn_sApp {Q : Out → Env → Prop} : Wn (sApp i a) e Q E = WQ (sl e i) fun _ => Wn a e (fun x e1 => WQ (sl e1 i) fun xs => lenOk (xs.length + 1) = true ∧ Q .nx (putL e1 i (xs ++ [x]))) E := by
  simp only [sApp, wn_bind, wn_ownL]
  congr 1
  funext _
  congr 1
  funext x e1
  congr 1
  funext xs
  unfold Wn
  cases lenOk (xs.length + 1) <;> simp
def WX1 (r : Option Nat) (Q : Nat → Prop) : Prop := match r with
  | some n => Q n
  | none => False
@[simp] theorem wx1_some {n : Nat} {Q : Nat → Prop} : WX1 (some n) Q = Q n := nr rfl
@[simp] theorem wn_sSetL {Q : Out → Env → Prop} : Wn (sSetL i a b) e Q E = Wn b e (fun x e1 => WQ (sl e1 i) fun _ => Wn a e1 (fun k e2 => WQ (sl e2 i) fun xs => WI k fun k => WX1 (ixN xs.length k) fun n => Q .nx (putL e2 i (xs.set n x))) E) E := by
  simp only [sSetL, wn_bind, wn_ownL]
  congr 1
  funext x e1
  congr 1
  funext _
  congr 1
  funext k e2
  congr 1
  funext xs
  cases k with
  | int k =>
    simp only [wi_int]
    cases ixN xs.length k <;> (unfold Wn; rfl)
  | _ => (unfold Wn; rfl)
@[simp] theorem wn_sFor {it : DI} {Q : Out → Env → Prop} : Wn (sFor it g m) e Q E = Wn it e (fun xs e1 => Wn (loop g m xs) e1 Q E) E := by simp only [sFor, wn_bind]
def fgO (vs : List Nat) (o : Out) (e : Env) : Env := match o with
  | .rt _ => e
  | _ => fgt e vs
@[simp] theorem fgO_nx {vs : List Nat} : fgO vs .nx e = fgt e vs := nr rfl
@[simp] theorem fgO_ct {vs : List Nat} : fgO vs .ct e = fgt e vs := nr rfl
@[simp] theorem fgO_bk {vs : List Nat} : fgO vs .bk e = fgt e vs := nr rfl
@[simp] theorem fgO_rt {vs : List Nat} : fgO vs (.rt x) e = e := nr rfl
theorem wn_sFg {vs : List Nat} {Q : Out → Env → Prop} : Wn (sFg vs m) e Q E = Wn m e (fun o e1 => Q o (fgO vs o e1)) E := by
  simp only [sFg, wn_bind]
  congr 1
  funext o e1
  cases o <;> (unfold Wn; rfl)
@[simp] theorem fgt_nil : fgt e [] = e := nr rfl
@[simp] theorem fgt_cons {vs : List Nat} : fgt e (i :: vs) = fgt (fgt1 e i) vs := nr rfl
@[simp] theorem fgt1_S {s : Sl} : fgt1 (s :: e) (i + 1) = s :: fgt1 e i := by
  by_cases h : isFix (sl e i) = true <;> simp [fgt1, h]
@[simp] theorem fgt1_0v : fgt1 (.val x :: e) 0 = .no :: e := nr rfl
@[simp] theorem fgt1_0n : fgt1 (.no :: e) 0 = .no :: e := nr rfl
@[simp] theorem fgt1_0o : fgt1 (.own xs :: e) 0 = .no :: e := nr rfl
@[simp] theorem fgt1_0b : fgt1 (.bor xs :: e) 0 = .bor xs :: e := nr rfl
/-! ### calls -/
theorem wn_call {f : DF} {as : List Arg} {Q : D → Env → Prop} : Wn (eCall f as) e Q E = Wn (argsV as) e (fun vs e1 => (lends as).all (fun i => isL (sl e1 i)) = true ∧ match argsD e1 vs with
    | some ds => WF (f ds) (fun d bs => match giveBack as bs e1 with | some e2 => Q d e2 | none => False) (fun c fs bs => match giveBack as bs e1 with | some e2 => E c fs e2 | none => False)
    | none => False) E := by
  unfold eCall Wn
  dsimp only
  cases argsV as e with
  | ok vs e1 =>
    simp only
    cases (lends as).all fun i => isL (sl e1 i) with
    | false => simp
    | true =>
      simp only [Bool.not_true, Bool.false_eq_true, if_false, true_and]
      cases argsD e1 vs with
      | none => simp
      | some ds =>
        simp only
        cases f ds with
        | ok d bs => simp only [wf_ok]; cases giveBack as bs e1 <;> simp
        | ex c fs bs => simp only [wf_ex]; cases giveBack as bs e1 <;> simp
        | bad => simp
  | ex c fs e1 => rfl
  | bad => rfl
@[simp] theorem wn_call0 {f : DF} {Q : D → Env → Prop} : Wn (eCall f []) e Q E = WF (f []) (fun d bs => bs = [] ∧ Q d e) (fun c fs bs => bs = [] ∧ E c fs e) := by
  rw [wn_call]
  simp only [argsV, wn_pure, lends, List.all_nil, true_and, argsD]
  congr 1
  · funext d bs; cases bs <;> simp [giveBack]
  · funext c fs bs; cases bs <;> simp [giveBack]
@[simp] theorem wn_call1 {f : DF} {Q : D → Env → Prop} : Wn (eCall f [.e a]) e Q E = Wn a e (fun x e1 => WF (f [x]) (fun d bs => bs = [] ∧ Q d e1) (fun c fs bs => bs = [] ∧ E c fs e1)) E := by
  rw [wn_call]
  simp only [argsV, wn_bind, wn_pure, lends, List.all_nil, true_and, argsD, argD]
  congr 1; funext x e1
  congr 1
  · funext d bs; cases bs <;> simp [giveBack]
  · funext c fs bs; cases bs <;> simp [giveBack]
@[simp] theorem wn_call2 {f : DF} {Q : D → Env → Prop} : Wn (eCall f [.e a, .e b]) e Q E = Wn a e (fun x e1 => Wn b e1 (fun y e2 => WF (f [x, y]) (fun d bs => bs = [] ∧ Q d e2) (fun c fs bs => bs = [] ∧ E c fs e2)) E) E := by
  rw [wn_call]
  simp only [argsV, wn_bind, wn_pure, lends, List.all_nil, true_and, argsD, argD]
  congr 1; funext x e1
  congr 1; funext y e2
  congr 1
  · funext d bs; cases bs <;> simp [giveBack]
  · funext c fs bs; cases bs <;> simp [giveBack]
@[simp] theorem wn_call3 {f : DF} {Q : D → Env → Prop} : Wn (eCall f [.e a, .e b, .e c]) e Q E = Wn a e (fun x e1 => Wn b e1 (fun y e2 => Wn c e2 (fun z e3 => WF (f [x, y, z]) (fun d bs => bs = [] ∧ Q d e3) (fun c fs bs => bs = [] ∧ E c fs e3)) E) E) E := by
  rw [wn_call]
  simp only [argsV, wn_bind, wn_pure, lends, List.all_nil, true_and, argsD, argD]
  congr 1; funext x e1
  congr 1; funext y e2
  congr 1; funext z e3
  congr 1
  · funext d bs; cases bs <;> simp [giveBack]
  · funext c fs bs; cases bs <;> simp [giveBack]
@[simp] theorem wn_call4 {f : DF} {Q : D → Env → Prop} : Wn (eCall f [.e a, .e b, .e c, .e d]) e Q E = Wn a e (fun x e1 => Wn b e1 (fun y e2 => Wn c e2 (fun z e3 => Wn d e3 (fun u e4 => WF (f [x, y, z, u]) (fun d bs => bs = [] ∧ Q d e4) (fun c fs bs => bs = [] ∧ E c fs e4)) E) E) E) E := by
  rw [wn_call]
  simp only [argsV, wn_bind, wn_pure, lends, List.all_nil, true_and, argsD, argD]
  congr 1; funext x e1
  congr 1; funext y e2
  congr 1; funext z e3
  congr 1; funext u e4
  congr 1
  · funext d bs; cases bs <;> simp [giveBack]
  · funext c fs bs; cases bs <;> simp [giveBack]
/-- the box in slot 0 is lent -/
theorem isL_bor {s : Sl} (h : s = .bor xs) : isL s = true := by rw [h]; rfl
@[simp] theorem wn_lend1 {f : DF} {Q : D → Env → Prop} : Wn (eCall f [.lend 0]) (.bor xs :: e) Q E = WF (f [.lst xs]) (fun d bs => ∃ ys, bs = [ys] ∧ Q d (.bor ys :: e)) (fun c fs bs => ∃ ys, bs = [ys] ∧ E c fs (.bor ys :: e)) := by
  rw [wn_call]
  simp only [argsV, wn_bind, wn_pure, wn_tmp, x_sl0, wt_bor, lends, List.all_cons, List.all_nil, Bool.and_true, isL, true_and, argsD, argD, slD]
  congr 1
  · funext d bs
    match bs with
    | [] => simp [giveBack]
    | [ys] => simp [giveBack]
    | _ :: _ :: _ => simp [giveBack]
  · funext c fs bs
    match bs with
    | [] => simp [giveBack]
    | [ys] => simp [giveBack]
    | _ :: _ :: _ => simp [giveBack]
end
/-- an argument leaves the box where it is -/
theorem wn_lendE {f : DF} {a : DE} {xs : List D} {e : Env} {x : D} {Q : D → Env → Prop} {E : Str → List D → Env → Prop} {xs' : List D} {e' : Env} (ha : a (.bor xs :: e) = .ok x (.bor xs' :: e')) : Wn (eCall f [.lend 0, .e a]) (.bor xs :: e) Q E = WF (f [.lst xs', x]) (fun d bs => ∃ ys, bs = [ys] ∧ Q d (.bor ys :: e')) (fun c fs bs => ∃ ys, bs = [ys] ∧ E c fs (.bor ys :: e')) := by
  rw [wn_call]
  simp only [argsV, wn_bind, wn_pure, wn_tmp, x_sl0, wt_bor, wn_eq ha, lends, List.all_cons, List.all_nil, Bool.and_true, isL, true_and, argsD, argD, slD]
  congr 1
  · funext d bs
    match bs with
    | [] => simp [giveBack]
    | [ys] => simp [giveBack]
    | _ :: _ :: _ => simp [giveBack]
  · funext c fs bs
    match bs with
    | [] => simp [giveBack]
    | [ys] => simp [giveBack]
    | _ :: _ :: _ => simp [giveBack]
end AH
namespace AH
open PySem L2
variable [TheK]
/-! ### small facts -/
@[simp] theorem lenOk_iff {n : Nat} : lenOk n = true ↔ n ≤ 100000 := by unfold lenOk; simp
@[simp] theorem rngOk_iff {a b : Int} : rngOk a b = true ↔ ((-(2 ^ 62) ≤ a ∧ a < 2 ^ 62) ∧ -(2 ^ 62) ≤ b) ∧ b < 2 ^ 62 := by unfold rngOk; simp
theorem rng_mem {a b : Int} {x : D} (h : x ∈ rng a b) : ∃ i : Int, a ≤ i ∧ i < b ∧ x = .int i := by
  unfold rng at h
  obtain ⟨i, hi, rfl⟩ := List.mem_map.mp h
  have := List.mem_range.mp hi
  exact ⟨a + i, by omega, by omega, rfl⟩
theorem rng_len {a b : Int} : (rng a b).length = (b - a).toNat := by
  unfold rng; rw [List.length_map, List.length_range]
/-- the intsR of a range -/
def intsR (a b : Int) : List Int := (List.range (b - a).toNat).map fun i => a + (i : Nat)
theorem rng_eq {a b : Int} : rng a b = (intsR a b).map D.int := by
  unfold rng intsR; rw [List.map_map]; rfl
theorem mem_intsR {a b i : Int} : i ∈ intsR a b ↔ a ≤ i ∧ i < b := by
  unfold intsR
  rw [List.mem_map]
  constructor
  · rintro ⟨j, hj, rfl⟩
    have := List.mem_range.mp hj
    omega
  · intro h
    exact ⟨(i - a).toNat, List.mem_range.mpr (by omega), by omega⟩
theorem intsR_len {a b : Int} : (intsR a b).length = (b - a).toNat := by
  unfold intsR; rw [List.length_map, List.length_range]
@[simp] theorem dAdd_int {i j : Int} : dAdd (.int i) (.int j) = .ok (.int (i + j)) := nr rfl
@[simp] theorem dAdd_lst {a b : List D} : dAdd (.lst a) (.lst b) = if lenOk (a.length + b.length) then .ok (.lst (a ++ b)) else .bad := nr rfl
@[simp] theorem dAdd_tup {a b : List D} : dAdd (.tup a) (.tup b) = if lenOk (a.length + b.length) then .ok (.tup (a ++ b)) else .bad := nr rfl
@[simp] theorem dSub_int {i j : Int} : dSub (.int i) (.int j) = .ok (.int (i - j)) := nr rfl
@[simp] theorem dNeg_int {i : Int} : dNeg (.int i) = .ok (.int (-i)) := nr rfl
@[simp] theorem dMul_int {i j : Int} : dMul (.int i) (.int j) = if mulOk i j then .ok (.int (i * j)) else .bad := nr rfl
@[simp] theorem dDiv_int {i j : Int} : dDiv (.int i) (.int j) = if divOk j then .ok (.int (i / j)) else .bad := nr rfl
@[simp] theorem dMod_int {i j : Int} : dMod (.int i) (.int j) = if decide (0 < j) then .ok (.int (i % j)) else .bad := nr rfl
@[simp] theorem dInt_int {i : Int} : dInt (.int i) = .ok (.int i) := nr rfl
@[simp] theorem dInt_bl {k : Bool} : dInt (.bl k) = .ok (.int (if k then 1 else 0)) := nr rfl
@[simp] theorem dAbs_int {i : Int} : dAbs (.int i) = .ok (.int (if i < 0 then -i else i)) := nr rfl
@[simp] theorem dLt_int {i j : Int} : dLt (.int i) (.int j) = .ok (decide (i < j)) := nr rfl
@[simp] theorem dLe_int {i j : Int} : dLe (.int i) (.int j) = .ok (decide (i ≤ j)) := nr rfl
@[simp] theorem dGt_int {i j : Int} : dGt (.int i) (.int j) = .ok (decide (j < i)) := nr rfl
@[simp] theorem dGe_int {i j : Int} : dGe (.int i) (.int j) = .ok (decide (j ≤ i)) := nr rfl
@[simp] theorem dEq_int {i j : Int} : dEq (.int i) (.int j) = .ok (i == j) := by simp [dEq, D.plain, D.eqv]
@[simp] theorem dNe_int {i j : Int} : dNe (.int i) (.int j) = .ok (!(i == j)) := by simp [dNe, D.plain, D.eqv]
@[simp] theorem dEq_bl {i j : Bool} : dEq (.bl i) (.bl j) = .ok (i == j) := by simp [dEq, D.plain, D.eqv]
@[simp] theorem dNe_bl {i j : Bool} : dNe (.bl i) (.bl j) = .ok (!(i == j)) := by simp [dNe, D.plain, D.eqv]
@[simp] theorem dEq_non : dEq .non .non = .ok true := nr rfl
theorem dEq_str {s : Str} (h : PySem.PyData.strOk s = true) : dEq (.str s) (.str s) = .ok true := by
  have hp : D.plain 40 (.str s) = true := h
  have he : D.eqv (.str s) (.str s) = true := by show (s == s) = true; simp
  unfold dEq
  rw [hp, he]
  rfl
@[simp] theorem dLen_lst {xs : List D} : dLen (.lst xs) = .ok (.int xs.length) := nr rfl
@[simp] theorem dLen_tup {xs : List D} : dLen (.tup xs) = .ok (.int xs.length) := nr rfl
@[simp] theorem dTuple_lst {xs : List D} : dTuple (.lst xs) = .ok (.tup xs) := nr rfl
@[simp] theorem dTuple_tup {xs : List D} : dTuple (.tup xs) = .ok (.tup xs) := nr rfl
@[simp] theorem dList_lst {xs : List D} : dList (.lst xs) = .ok (.lst xs) := nr rfl
@[simp] theorem dList_tup {xs : List D} : dList (.tup xs) = .ok (.lst xs) := nr rfl
@[simp] theorem dIx_lst {xs : List D} {i : Int} : dIx (.lst xs) (.int i) = (match atI xs i with | some v => .ok v | none => .bad) := nr rfl
@[simp] theorem dIx_tup {xs : List D} {i : Int} : dIx (.tup xs) (.int i) = (match atI xs i with | some v => .ok v | none => .bad) := nr rfl
@[simp] theorem dSl_lst {xs : List D} {l h : Option Int} : dSl (.lst xs) l h = .ok (.lst (cut xs l h)) := nr rfl
@[simp] theorem dSl_tup {xs : List D} {l h : Option Int} : dSl (.tup xs) l h = .ok (.tup (cut xs l h)) := nr rfl
@[simp] theorem dSlL_lst {xs : List D} {l h : Option Int} : dSlL (.lst xs) l h = .ok (.lst (cut xs l h)) := nr rfl
@[simp] theorem dIsN_int {i : Int} : dIsN (.int i) = false := nr rfl
@[simp] theorem dIsN_bl {i : Bool} : dIsN (.bl i) = false := nr rfl
@[simp] theorem dIsN_tup {i : List D} : dIsN (.tup i) = false := nr rfl
@[simp] theorem dIsN_lst {i : List D} : dIsN (.lst i) = false := nr rfl
@[simp] theorem dIsN_str {i : Str} : dIsN (.str i) = false := nr rfl
@[simp] theorem dIsN_exc {c : Str} {ns : List Str} {fs : List D} : dIsN (.exc c ns fs) = false := nr rfl
@[simp] theorem isi_li {xs : List D} : isi .list (.lst xs) = true := nr rfl
@[simp] theorem isi_lt {xs : List D} : isi .list (.tup xs) = false := nr rfl
@[simp] theorem isi_ln {i : Int} : isi .list (.int i) = false := nr rfl
@[simp] theorem isi_tt {xs : List D} : isi .tuple (.tup xs) = true := nr rfl
@[simp] theorem isi_tl {xs : List D} : isi .tuple (.lst xs) = false := nr rfl
@[simp] theorem isi_tn {i : Int} : isi .tuple (.int i) = false := nr rfl
@[simp] theorem isi_ii {i : Int} : isi .int (.int i) = true := nr rfl
@[simp] theorem isi_bi {i : Int} : isi .bool (.int i) = false := nr rfl
theorem atI_nat {xs : List D} {k : Nat} (h : k < xs.length) : atI xs (k : Int) = some xs[k] := by
  have : ixN xs.length (k : Int) = some k := by
    unfold ixN
    rw [if_pos (by omega), if_pos (by omega)]
    rfl
  unfold atI
  rw [this]
  exact List.getElem?_eq_getElem h
theorem atI_of {xs : List D} {i : Int} (h0 : 0 ≤ i) (h1 : i < xs.length) : ∃ x ∈ xs, atI xs i = some x := by
  have e : i = ((i.toNat : Nat) : Int) := by omega
  have hl : i.toNat < xs.length := by omega
  have q := atI_nat hl
  rw [← e] at q
  exact ⟨xs[i.toNat], List.getElem_mem hl, q⟩
theorem cut_to {xs : List D} {i : Nat} (h : i ≤ xs.length) : cut xs none (some (i : Int)) = xs.take i := by
  have h1 : HT.sIx xs.length 0 none = 0 := rfl
  have h2 : HT.sIx xs.length xs.length (some (i : Int)) = i := by rw [HT.sIx_nat]; omega
  unfold cut
  rw [h1, h2]
  rfl
theorem cut_from {xs : List D} {i : Nat} (h : i ≤ xs.length) : cut xs (some (i : Int)) none = xs.drop i := by
  have h1 : HT.sIx xs.length 0 (some (i : Int)) = i := by rw [HT.sIx_nat]; omega
  have h2 : HT.sIx xs.length xs.length none = xs.length := rfl
  unfold cut
  rw [h1, h2, List.take_of_length_le]
  rw [List.length_drop]
  exact Nat.le_refl _
theorem cut_mem {xs : List D} {lo hi : Option Int} {x : D} (h : x ∈ cut xs lo hi) : x ∈ xs := List.mem_of_mem_drop (List.mem_of_mem_take h)
theorem cut_len {xs : List D} {lo hi : Option Int} : (cut xs lo hi).length ≤ xs.length := by
  unfold cut
  rw [List.length_take, List.length_drop]
  omega
theorem mulOk_r {i j : Int} (h : j.natAbs < 2 ^ 64) : mulOk i j = true := by
  unfold mulOk; rw [decide_eq_true h, Bool.or_true, Bool.or_true]
theorem mulOk_l {i j : Int} (h : i.natAbs < 2 ^ 64) : mulOk i j = true := by
  unfold mulOk; rw [decide_eq_true h, Bool.true_or, Bool.or_true]
theorem bools_map {α : Type} {f : α → Bool} : ∀ xs : List α, bools (xs.map fun x => .bl (f x)) = some (xs.map f)
  | [] => rfl
  | x :: xs => by simp [bools, bools_map xs]
@[simp] theorem dAll_map {α : Type} {f : α → Bool} {xs : List α} : dAll (.lst (xs.map fun x => .bl (f x))) = .ok (.bl (xs.all f)) := by
  simp [dAll, bools_map, Function.comp_def]
@[simp] theorem dAny_map {α : Type} {f : α → Bool} {xs : List α} : dAny (.lst (xs.map fun x => .bl (f x))) = .ok (.bl (xs.any f)) := by
  simp [dAny, bools_map, Function.comp_def]
theorem intsL_map {α : Type} {f : α → Int} : ∀ xs : List α, intsL (xs.map fun x => .int (f x)) = some (xs.map f)
  | [] => rfl
  | x :: xs => by simp [intsL, intsL_map xs]
@[simp] theorem dSum_map {α : Type} {f : α → Int} {xs : List α} : dSum (.lst (xs.map fun x => .int (f x))) = .ok (.int (xs.map f).sum) := by
  simp [dSum, intsL_map]
@[simp] theorem dSumA_map {α : Type} {f : α → Int} {xs : List α} : dSumA (.lst (xs.map fun x => .int (f x))) = .ok (.int (xs.map f).sum) := by
  simp [dSumA, intsL_map]
@[simp] theorem dSumA_mapT {α : Type} {f : α → Int} {xs : List α} : dSumA (.tup (xs.map fun x => .int (f x))) = .ok (.int (xs.map f).sum) := by
  simp [dSumA, intsL_map]
@[simp] theorem dSumA_ints {xs : List Int} : dSumA (.lst (xs.map D.int)) = .ok (.int xs.sum) := by
  have := dSumA_map (f := fun i : Int => i) (xs := xs)
  rw [List.map_id'] at this; exact this
@[simp] theorem dSumA_intsT {xs : List Int} : dSumA (.tup (xs.map D.int)) = .ok (.int xs.sum) := by
  have := dSumA_mapT (f := fun i : Int => i) (xs := xs)
  rw [List.map_id'] at this; exact this
/-! ### loops -/
section
variable {g : DG} {b : DS} {E : Str → List D → Env → Prop}
@[simp] theorem wn_loop_nil {e : Env} {Q : Out → Env → Prop} : Wn (loop g b []) e Q E = Q .nx e := wn_eq rfl
theorem wn_wipe {α : Type} {m : M α} {vs : List Nat} {e : Env} {Q : α → Env → Prop} : Wn (fun e1 => m (wipeE e1 vs)) e Q E = Wn m (wipeE e vs) Q E := by unfold Wn; rfl
theorem wn_loop (I : List D → Env → Prop) {Q : Out → Env → Prop} (hs : ∀ x r e, I (x :: r) e → Wn (g x) e (fun _ e1 => Wn b e1 (fun o e2 => match o with | .nx => I r e2 | .ct => I r e2 | .bk => Q .nx e2 | .rt d => Q (.rt d) e2) E) E) (hend : ∀ e, I [] e → Q .nx e) :
    ∀ {xs : List D} {e : Env}, I xs e → Wn (loop g b xs) e Q E
  | [], e, h => by rw [wn_loop_nil]; exact hend e h
  | x :: xs, e, h => by
    unfold loop
    rw [wn_bind]
    refine (hs x xs e h).imp fun _ e1 h1 => ?_
    rw [wn_bind]
    refine h1.imp fun o e2 h2 => ?_
    cases o with
    | nx => exact wn_loop I hs hend h2
    | ct => exact wn_loop I hs hend h2
    | bk => exact (wn_eq rfl).mpr h2
    | rt d => exact (wn_eq rfl).mpr h2
theorem loop_cons {x : D} {xs : List D} {e e' : Env} (h : Wn (g x) e (fun _ e1 => Wn b e1 (fun o e2 => o = .nx ∧ e2 = e') NoE) NoE) : loop g b (x :: xs) e = loop g b xs e' := by
  have q : ∃ e1, g x e = .ok () e1 ∧ b e1 = .ok .nx e' := by
    unfold Wn at h
    cases h1 : g x e with
    | ok u e1 =>
      rw [h1] at h
      simp only at h
      exact ⟨e1, rfl, Wn.eq (by unfold Wn; exact h)⟩
    | ex _ _ _ => rw [h1] at h; exact h.elim
    | bad => rw [h1] at h; exact h.elim
  obtain ⟨e1, h1, h2⟩ := q
  show M.bind (g x) _ e = _
  rw [bind_ok h1, bind_ok h2]
/-- a loop over typed things that only carries a state on -/
theorem loop_fold {S T : Type} {st : S → Env} {enc : T → D} (f : S → T → S) : ∀ (L : List T) (s : S), (∀ (s : S) (y : T), y ∈ L → Wn (g (enc y)) (st s) (fun _ e1 => Wn b e1 (fun o e2 => (o = .nx ∨ o = .ct) ∧ e2 = st (f s y)) NoE) NoE) → loop g b (L.map enc) (st s) = .ok .nx (st (L.foldl f s))
  | [], s, _ => rfl
  | y :: L, s, h => by
    have h1 := h s y List.mem_cons_self
    have ih := loop_fold f L (f s y) fun s z hz => h s z (List.mem_cons_of_mem _ hz)
    rw [List.map_cons, List.foldl_cons]
    refine Wn.eq ?_
    unfold loop
    rw [wn_bind]
    refine h1.imp fun _ e1 h2 => ?_
    rw [wn_bind]
    refine h2.imp fun o e2 h3 => ?_
    obtain ⟨ho, rfl⟩ := h3
    rcases ho with rfl | rfl
    · rw [wn_eq ih]; exact ⟨rfl, rfl⟩
    · rw [wn_eq ih]; exact ⟨rfl, rfl⟩
/-! ### comprehensions -/
theorem lc_filter {T : Type} {vs : List Nat} {it : DI} {t : DT} {a : DE} {e : Env} {L : List T} {enc : T → D} (p : T → Bool) (f : T → D) (hi : it e = .ok (L.map enc) e) (hv : (vs.any fun v => isOwn (sl e v)) = false) (hl : L.length ≤ 100000)
    (h : ∀ y ∈ L, Wn (g (enc y)) (wipeE e vs) (fun _ e1 => wipeE e1 vs = wipeE e vs ∧ Wn t e1 (fun k e2 => k = p y ∧ e2 = e1) NoE ∧ (p y = true → Wn a e1 (fun d e2 => d = f y ∧ e2 = e1) NoE)) NoE) : eLc vs it g t a e = .ok (.lst ((L.filter p).map f)) e := by
  have key : ∀ L : List T, (∀ y ∈ L, Wn (g (enc y)) (wipeE e vs) (fun _ e1 => wipeE e1 vs = wipeE e vs ∧ Wn t e1 (fun k e2 => k = p y ∧ e2 = e1) NoE ∧ (p y = true → Wn a e1 (fun d e2 => d = f y ∧ e2 = e1) NoE)) NoE) → compL vs e g t a (L.map enc) (wipeE e vs) = .ok ((L.filter p).map f) (wipeE e vs) := by
    intro L
    induction L with
    | nil => intro _; rfl
    | cons y L ih =>
      intro h
      have h1 := h y List.mem_cons_self
      have ih := ih fun z hz => h z (List.mem_cons_of_mem _ hz)
      refine Wn.eq ?_
      rw [List.map_cons]
      unfold compL
      show Wn (M.bind _ _) _ _ _
      rw [wn_bind]
      refine h1.imp fun _ e1 h2 => ?_
      obtain ⟨hw, ht, ha⟩ := h2
      rw [wn_bind]
      refine ht.imp fun k e2 hk => ?_
      obtain ⟨rfl, rfl⟩ := hk
      rw [wn_bind]
      cases hp : p y with
      | false =>
        simp only [Bool.false_eq_true, if_false, wn_pure]
        rw [wn_wipe, wn_bind, hw, wn_eq ih]
        simp [hp]
      | true =>
        simp only [if_true, wn_bind, wn_pure]
        refine (ha hp).imp fun d e3 hd => ?_
        obtain ⟨rfl, rfl⟩ := hd
        rw [wn_wipe, wn_bind, hw, wn_eq ih]
        simp [hp]
  unfold eLc
  rw [bind_ok hi]
  have hl' : lenOk (L.map enc).length = true := by rw [List.length_map]; exact decide_eq_true hl
  simp only [hv, hl', Bool.not_true, Bool.or_self]
  unfold noX
  rw [key L h]
  show R.ok (D.lst ((L.filter p).map f)) (back e (wipeE e vs) vs) = _
  rw [back_wipe]
theorem lc_map {T : Type} {vs : List Nat} {it : DI} {a : DE} {e : Env} {L : List T} {enc : T → D} (f : T → D) (hi : it e = .ok (L.map enc) e) (hv : (vs.any fun v => isOwn (sl e v)) = false) (hl : L.length ≤ 100000)
    (h : ∀ y ∈ L, Wn (g (enc y)) (wipeE e vs) (fun _ e1 => wipeE e1 vs = wipeE e vs ∧ Wn a e1 (fun d e2 => d = f y ∧ e2 = e1) NoE) NoE) : eLc vs it g tYes a e = .ok (.lst (L.map f)) e := by
  have q := lc_filter (t := tYes) (fun _ => true) f hi hv hl fun y hy => (h y hy).imp fun _ e1 h1 => ⟨h1.1, (wn_eq rfl).mpr ⟨rfl, rfl⟩, fun _ => h1.2⟩
  rw [List.filter_eq_self.mpr fun _ _ => rfl] at q
  exact q
/-- items as they are -/
theorem lc_mapD {vs : List Nat} {it : DI} {a : DE} {e : Env} {L : List D} (f : D → D) (hi : it e = .ok L e) (hv : (vs.any fun v => isOwn (sl e v)) = false) (hl : L.length ≤ 100000)
    (h : ∀ y ∈ L, Wn (g y) (wipeE e vs) (fun _ e1 => wipeE e1 vs = wipeE e vs ∧ Wn a e1 (fun d e2 => d = f y ∧ e2 = e1) NoE) NoE) : eLc vs it g tYes a e = .ok (.lst (L.map f)) e :=
  lc_map (enc := id) f (by rw [List.map_id]; exact hi) hv hl h
end
/-! ### draws -/
def Bx (n : Nat) (xs : List D) : Prop := ∃ a m c : Int, xs = [.int a, .int m, .int c] ∧ 0 ≤ a ∧ 0 ≤ m ∧ m < 2 ^ 62 ∧ 0 ≤ c ∧ c + n ≤ 2 ^ 59
theorem Bx.le {n k : Nat} {xs : List D} (h : Bx n xs) (hk : k ≤ n) : Bx k xs := by
  obtain ⟨a, m, c, e, h1, h2, h3, h4, h5⟩ := h
  exact ⟨a, m, c, e, h1, h2, h3, h4, by omega⟩
theorem take_ok {n : Nat} {xs : List D} {b : Int} (hb : Bx (n + 1) xs) (h1 : 0 < b) (h2 : b.natAbs.log2 < 9000) : ∃ r xs', f_law_take [.lst xs, .int b] = .ok (.int r) [xs'] ∧ 0 ≤ r ∧ r < b ∧ Bx n xs' := by
  obtain ⟨a, m, c, rfl, hn, hm, hm2, hc, hck⟩ := hb
  have d2 : divOk b = true := by unfold divOk; rw [decide_eq_true h1, decide_eq_true h2]; rfl
  by_cases h0 : 0 < a
  · refine ⟨a % b, [.int (a / b), .int m, .int c], ?_, Int.emod_nonneg _ (by omega), Int.emod_lt_of_pos _ h1, a / b, m, c, rfl, Int.ediv_nonneg hn (by omega), hm, hm2, hc, by omega⟩
    simp [f_law_take, m_law_take, mkF, lstsOk, startE, ixN, h0, h1, d2, lentOf]
  · have m1 : ∀ i : Int, mulOk i (39373 + (c + 1)) = true := fun i => mulOk_r (by omega)
    have m2 : ∀ i : Int, mulOk 48271 i = true := fun i => mulOk_l (by decide)
    have m3 : ∀ i j : Int, mulOk i (j % 40009 + 7) = true := fun i j => mulOk_r (by omega)
    have m4 : ∀ i : Int, mulOk i 48271 = true := fun i => mulOk_r (by decide)
    have d3 : divOk 1000003 = true := by decide
    have d4 : divOk 64 = true := by decide
    have key : ∃ r, f_law_take [.lst [.int a, .int m, .int c], .int b] = .ok (.int (r % b)) [[.int a, .int m, .int (c + 1)]] := by
      refine ⟨((((m + 48271 * (c + 1)) * (39373 + (c + 1)) % 2147483647 + (c + 1) + m / 1000003) * ((m + 48271 * (c + 1)) * (39373 + (c + 1)) % 2147483647 % 40009 + 7)) % 2147483629 * 48271 + (m + 48271 * (c + 1)) * (39373 + (c + 1)) % 2147483647) % 2147483587 / 64, ?_⟩
      simp [f_law_take, m_law_take, mkF, lstsOk, startE, ixN, h0, h1, d2, d3, d4, m1, m2, m3, m4, lentOf]
    obtain ⟨r, key⟩ := key
    exact ⟨r % b, [.int a, .int m, .int (c + 1)], key, Int.emod_nonneg _ (by omega), Int.emod_lt_of_pos _ h1, a, m, c + 1, rfl, hn, hm, hm2, by omega, by omega⟩
theorem log_lt {b : Int} (h0 : 0 < b) (h : b < 2 ^ 140) : b.natAbs.log2 < 9000 := by
  have h1 : b.natAbs < 2 ^ 140 := by omega
  have := (Nat.log2_lt (n := b.natAbs) (k := 140) (by omega)).mpr h1
  omega
/-- a draw, as a wish -/
theorem wf_take {n : Nat} {xs : List D} {b : Int} {Q : D → List (List D) → Prop} {E : Str → List D → List (List D) → Prop} (hb : Bx (n + 1) xs) (h1 : 0 < b) (h2 : b < 2 ^ 140) (q : ∀ v ys, 0 ≤ v → v < b → Bx n ys → Q (.int v) [ys]) : WF (f_law_take [.lst xs, .int b]) Q E := by
  obtain ⟨r, xs', h, h3, h4, h5⟩ := take_ok hb h1 (log_lt h1 h2)
  rw [h, wf_ok]
  exact q r xs' h3 h4 h5
theorem wn_take {n : Nat} {xs : List D} {b : Int} {a : DE} {e : Env} {Q : D → Env → Prop} {E : Str → List D → Env → Prop} (ha : a (.bor xs :: e) = .ok (.int b) (.bor xs :: e)) (hb : Bx (n + 1) xs) (h1 : 0 < b) (h2 : b < 2 ^ 140) (q : ∀ v ys, 0 ≤ v → v < b → Bx n ys → Q (.int v) (.bor ys :: e)) : Wn (eCall f_law_take [.lend 0, .e a]) (.bor xs :: e) Q E := by
  rw [wn_lendE ha]
  exact wf_take hb h1 h2 fun v ys h3 h4 h5 => ⟨ys, rfl, q v ys h3 h4 h5⟩
/-- one of a pool -/
theorem of_okK {n : Nat} {xs ps : List D} {d : D} (hd : d = .lst ps ∨ d = .tup ps) (hb : Bx (n + 1) xs) (h1 : 0 < ps.length) (h2 : ps.length ≤ 100000) : ∃ p ∈ ps, ∃ xs', f_law_of [.lst xs, d] = .ok p [xs'] ∧ Bx n xs' := by
  obtain ⟨r, xs', h, h3, h4, h5⟩ := take_ok (b := ps.length) hb (by omega) (log_lt (by omega) (by omega))
  obtain ⟨p, hp, e⟩ := atI_of h3 h4
  refine ⟨p, hp, xs', ?_, h5⟩
  have hl : dLen d = .ok (.int ps.length) := by rcases hd with rfl | rfl <;> rfl
  have hx : dIx d (.int r) = .ok p := by rcases hd with rfl | rfl <;> simp [e]
  have c : eCall f_law_take [.lend 0, .e (e1 dLen (eTmp 1))] [.bor xs, .ro d] = .ok (.int r) [.bor xs', .ro d] := call_ok (args_lend (x := .lst xs) rfl (args_e (x := .int ps.length) (e1 := [.bor xs, .ro d]) (Wn.eq (by simp [hl])) rfl)) rfl rfl h rfl
  refine mkF_rt (by rcases hd with rfl | rfl <;> rfl) (e := [.bor xs', .ro d]) (show m_law_of [.bor xs, .ro d] = _ from ?_) rfl
  unfold m_law_of
  refine Wn.eq ?_
  simp [wn_eq c, hx]
theorem of_ok {n : Nat} {xs ps : List D} (hb : Bx (n + 1) xs) (h1 : 0 < ps.length) (h2 : ps.length ≤ 100000) : ∃ p ∈ ps, ∃ xs', f_law_of [.lst xs, .lst ps] = .ok p [xs'] ∧ Bx n xs' := of_okK (.inl rfl) hb h1 h2
theorem wn_of2 {n : Nat} {xs ps : List D} {a : DE} {e : Env} {Q : D → Env → Prop} {E : Str → List D → Env → Prop} (ha : a (.bor xs :: e) = .ok (.lst ps) (.bor xs :: e)) (hb : Bx (n + 1) xs) (h1 : 0 < ps.length) (h2 : ps.length ≤ 100000) (q : ∀ p ys, p ∈ ps → Bx n ys → Q p (.bor ys :: e)) : Wn (eCall f_law_of [.lend 0, .e a]) (.bor xs :: e) Q E := by
  rw [wn_lendE ha]
  obtain ⟨p, hp, xs', h, h5⟩ := of_ok hb h1 h2
  rw [h, wf_ok]
  exact ⟨xs', rfl, q p xs' hp h5⟩
end AH
namespace AH
open PySem L2
variable [TheK]
/-! ### small plain data -/
mutual
def D.sm : Nat → D → Bool
  | _, .non => true
  | _, .bl _ => true
  | _, .int _ => true
  | _, .str s => PySem.PyData.strOk s
  | n + 1, .tup xs => decide (xs.length ≤ 10000) && D.smL n xs
  | n + 1, .lst xs => decide (xs.length ≤ 10000) && D.smL n xs
  | _, _ => false
def D.smL : Nat → List D → Bool
  | _, [] => true
  | n, x :: xs => D.sm n x && D.smL n xs
end
mutual
def D.li : D → D
  | .tup xs => .lst (D.liL xs)
  | .lst xs => .lst (D.liL xs)
  | d => d
def D.liL : List D → List D
  | [] => []
  | x :: xs => D.li x :: D.liL xs
end
mutual
def D.tu : D → D
  | .tup xs => .tup (D.tuL xs)
  | .lst xs => .tup (D.tuL xs)
  | d => d
def D.tuL : List D → List D
  | [] => []
  | x :: xs => D.tu x :: D.tuL xs
end
theorem smL_iff {n : Nat} : ∀ {xs : List D}, D.smL n xs = true ↔ ∀ x ∈ xs, D.sm n x = true
  | [] => by simp [D.smL]
  | x :: xs => by simp [D.smL, smL_iff (xs := xs)]
theorem liL_map : ∀ xs : List D, D.liL xs = xs.map D.li
  | [] => rfl
  | x :: xs => by simp [D.liL, liL_map xs]
theorem tuL_map : ∀ xs : List D, D.tuL xs = xs.map D.tu
  | [] => rfl
  | x :: xs => by simp [D.tuL, tuL_map xs]
@[simp] theorem li_tup {xs : List D} : (D.tup xs).li = .lst (xs.map D.li) := by rw [D.li, liL_map]
@[simp] theorem li_lst {xs : List D} : (D.lst xs).li = .lst (xs.map D.li) := by rw [D.li, liL_map]
@[simp] theorem li_int {i : Int} : (D.int i).li = .int i := by simp [D.li]
@[simp] theorem tu_tup {xs : List D} : (D.tup xs).tu = .tup (xs.map D.tu) := by rw [D.tu, tuL_map]
@[simp] theorem tu_lst {xs : List D} : (D.lst xs).tu = .tup (xs.map D.tu) := by rw [D.tu, tuL_map]
@[simp] theorem tu_int {i : Int} : (D.int i).tu = .int i := by simp [D.tu]
@[simp] theorem sm_int {n : Nat} {i : Int} : (D.int i).sm n = true := by cases n <;> rfl
@[simp] theorem sm_bl {n : Nat} {i : Bool} : (D.bl i).sm n = true := by cases n <;> rfl
@[simp] theorem sm_non {n : Nat} : D.non.sm n = true := by cases n <;> rfl
@[simp] theorem sm_tup {n : Nat} {xs : List D} : (D.tup xs).sm (n + 1) = true ↔ xs.length ≤ 10000 ∧ ∀ x ∈ xs, x.sm n = true := by
  rw [D.sm, Bool.and_eq_true, decide_eq_true_eq, smL_iff]
@[simp] theorem sm_lst {n : Nat} {xs : List D} : (D.lst xs).sm (n + 1) = true ↔ xs.length ≤ 10000 ∧ ∀ x ∈ xs, x.sm n = true := by
  rw [D.sm, Bool.and_eq_true, decide_eq_true_eq, smL_iff]
theorem D.sm_le : ∀ {n m : Nat} {d : D}, n ≤ m → d.sm n = true → d.sm m = true := by
  intro n
  induction n with
  | zero => intro m d _ h; cases d <;> first | (cases m <;> exact h) | (cases h)
  | succ n ih =>
    intro m d hm h
    cases m with
    | zero => omega
    | succ m =>
      cases d with
      | tup xs => rw [sm_tup] at h ⊢; exact ⟨h.1, fun x hx => ih (by omega) (h.2 x hx)⟩
      | lst xs => rw [sm_lst] at h ⊢; exact ⟨h.1, fun x hx => ih (by omega) (h.2 x hx)⟩
      | _ => exact h
/-! ### the same again -/
theorem same_lc {nf : DF} {xs : List D} {d1 d2 : D} (hd : (d1 = .tup xs ∧ d2 = .tup xs) ∨ (d1 = .lst xs ∧ d2 = .lst xs)) (hl : xs.length ≤ 10000) (h : ∀ x ∈ xs, nf [x, x] = .ok (.bl true) []) :
    c_law_same_1 nf [.val d1, .val d2, .no, .no] = .ok (.lst ((xs.zip xs).map fun _ => .bl true)) [.val d1, .val d2, .no, .no] := by
  unfold c_law_same_1
  refine lc_map (L := xs.zip xs) (enc := fun p => .tup [p.1, p.2]) (fun _ => .bl true) ?_ rfl (by rw [List.length_zip]; omega) fun y hy => ?_
  · rcases hd with ⟨rfl, rfl⟩ | ⟨rfl, rfl⟩ <;> rfl
  · have e : ∀ {xs : List D} {p : D × D}, p ∈ xs.zip xs → p.1 = p.2 ∧ p.1 ∈ xs := by
      intro xs
      induction xs with
      | nil => intro p h; cases h
      | cons x xs ih =>
        intro p h
        rw [List.zip_cons_cons] at h
        rcases List.mem_cons.mp h with rfl | h
        · exact ⟨rfl, List.mem_cons_self⟩
        · exact ⟨(ih h).1, List.mem_cons_of_mem _ (ih h).2⟩
    obtain ⟨h1, h2⟩ := e hy
    have h3 := h _ h2
    rw [h1] at h3
    simp [wipeE, h1, h3]
theorem same_refl : ∀ {k n : Nat} {d : D}, d.sm n = true → n + 1 ≤ k → f_law_same k [d, d] = .ok (.bl true) [] := by
  intro k
  induction k with
  | zero => intro n d _ h; omega
  | succ k ih =>
    intro n d hd hk
    cases d with
    | tup xs =>
      cases n with
      | zero => cases hd
      | succ n =>
        rw [sm_tup] at hd
        have lc := same_lc (nf := f_law_same k) (d1 := .tup xs) (d2 := .tup xs) (.inl ⟨rfl, rfl⟩) hd.1 fun x hx => ih (hd.2 x hx) (by omega)
        have al : dAll (.lst ((xs.zip xs).map fun _ => .bl true)) = .ok (.bl true) := by rw [dAll_map (f := fun _ => true)]; simp
        refine mkF_rt rfl (e := [.val (.tup xs), .val (.tup xs), .no, .no]) (show m_law_same (f_law_same k) [.val (.tup xs), .val (.tup xs), .no, .no] = _ from ?_) rfl
        simp [m_law_same, lc, al]
    | lst xs =>
      cases n with
      | zero => cases hd
      | succ n =>
        rw [sm_lst] at hd
        have lc := same_lc (nf := f_law_same k) (d1 := .lst xs) (d2 := .lst xs) (.inr ⟨rfl, rfl⟩) hd.1 fun x hx => ih (hd.2 x hx) (by omega)
        have al : dAll (.lst ((xs.zip xs).map fun _ => .bl true)) = .ok (.bl true) := by rw [dAll_map (f := fun _ => true)]; simp
        refine mkF_rt rfl (e := [.val (.lst xs), .val (.lst xs), .no, .no]) (show m_law_same (f_law_same k) [.val (.lst xs), .val (.lst xs), .no, .no] = _ from ?_) rfl
        simp [m_law_same, lc, al]
    | int i => simp [f_law_same, m_law_same, mkF, lstsOk, startE, lentOf, isi]
    | bl i => simp [f_law_same, m_law_same, mkF, lstsOk, startE, lentOf, isi]
    | non => simp [f_law_same, m_law_same, mkF, lstsOk, startE, lentOf, isi]
    | str s =>
      have h : PySem.PyData.strOk s = true := by cases n <;> exact hd
      simp [f_law_same, m_law_same, mkF, lstsOk, startE, lentOf, isi, dEq_str h]
    | dic _ => cases n <;> cases hd
    | exc _ _ _ => cases n <;> cases hd
    | obj _ => cases n <;> cases hd
/-- a check by the law's own word: both sides are the same small thing -/
theorem same_eq {n : Nat} {x y : D} (h : x = y) (hs : y.sm n = true) (hn : n ≤ 29 := by decide) : f_law_same 30 [x, y] = .ok (.bl true) [] := by
  subst h
  exact same_refl hs (by omega)
/-! ### with lists; with tuples -/
theorem lists_ok : ∀ {k n : Nat} {d : D}, d.sm n = true → n + 1 ≤ k → f_law_lists k [d] = .ok d.li [] := by
  intro k
  induction k with
  | zero => intro n d _ h; omega
  | succ k ih =>
    intro n d hd hk
    have lc : ∀ {xs : List D} {d : D} {m : Nat}, (d = .tup xs ∨ d = .lst xs) → xs.length ≤ 10000 → (∀ x ∈ xs, f_law_lists k [x] = .ok x.li []) → c_law_lists_1 (f_law_lists k) [.val d, .no] = .ok (.lst (xs.map D.li)) [.val d, .no] := by
      intro xs d m hd hl h
      unfold c_law_lists_1
      refine lc_mapD D.li ?_ rfl (by omega) fun y hy => ?_
      · rcases hd with rfl | rfl <;> rfl
      · simp [wipeE, h y hy]
    cases d with
    | tup xs =>
      cases n with
      | zero => cases hd
      | succ n =>
        rw [sm_tup] at hd
        have l := lc (d := .tup xs) (m := n) (.inl rfl) hd.1 fun x hx => ih (hd.2 x hx) (by omega)
        refine mkF_rt rfl (e := [.val (.tup xs), .no]) (show m_law_lists (f_law_lists k) [.val (.tup xs), .no] = _ from ?_) rfl
        simp [m_law_lists, l]
    | lst xs =>
      cases n with
      | zero => cases hd
      | succ n =>
        rw [sm_lst] at hd
        have l := lc (d := .lst xs) (m := n) (.inr rfl) hd.1 fun x hx => ih (hd.2 x hx) (by omega)
        refine mkF_rt rfl (e := [.val (.lst xs), .no]) (show m_law_lists (f_law_lists k) [.val (.lst xs), .no] = _ from ?_) rfl
        simp [m_law_lists, l]
    | int i => simp [f_law_lists, m_law_lists, mkF, lstsOk, startE, lentOf, isi, D.li]
    | bl i => simp [f_law_lists, m_law_lists, mkF, lstsOk, startE, lentOf, isi, D.li]
    | non => simp [f_law_lists, m_law_lists, mkF, lstsOk, startE, lentOf, isi, D.li]
    | str s => simp [f_law_lists, m_law_lists, mkF, lstsOk, startE, lentOf, isi, D.li]
    | dic _ => cases n <;> cases hd
    | exc _ _ _ => cases n <;> cases hd
    | obj _ => cases n <;> cases hd
/-! ### the script's cells -/
theorem cells_fold {ns cs : List Int} {m : Nat} (hm : 1 ≤ m) (hm3 : m ≤ 3) (S : List D) (L : List (Int × Int)) (hL : ∀ p ∈ L, 0 ≤ p.1 ∧ p.1 < 100) (hc : cs.length = m) :
    ∃ cs' : List Int, cs'.length = m ∧ loop (gT (gsCons (gN 3) (gsCons (gN 4) gsNil))) b_law_cells_1 (L.map fun p => .tup [.int p.1, .int p.2]) [.ro (.lst S), .val (.int m), .own (cs.map D.int), .no, .no, .no] = .ok .nx [.ro (.lst S), .val (.int m), .own (cs'.map D.int), .no, .no, .no] := by
  induction L generalizing cs with
  | nil => exact ⟨cs, hc, rfl⟩
  | cons p L ih =>
    obtain ⟨h0, h1⟩ := hL p List.mem_cons_self
    have hmod : 0 ≤ p.1 % (m : Int) ∧ p.1 % (m : Int) < m := ⟨Int.emod_nonneg _ (by omega), Int.emod_lt_of_pos _ (by omega)⟩
    obtain ⟨i, hi⟩ : ∃ i : Nat, p.1 % (m : Int) = i := ⟨(p.1 % (m : Int)).toNat, by omega⟩
    have hil : i < cs.length := by omega
    have hm0 : (0 : Int) < m := by omega
    have hmul : mulOk p.2 (p.1 + 2) = true := mulOk_r (by omega)
    have hat : atI (cs.map D.int) (i : Int) = some (.int cs[i]) := by rw [atI_nat (by rw [List.length_map]; exact hil), List.getElem_map]
    have hix : ixN (cs.map D.int).length (i : Int) = some i := by
      unfold ixN
      rw [if_pos (by omega), if_pos (by rw [List.length_map]; omega)]
      rfl
    rw [List.length_map] at hix
    obtain ⟨cs', hl', e'⟩ := ih (cs := cs.set i (cs[i] + p.2 * (p.1 + 2))) (fun q hq => hL q (List.mem_cons_of_mem _ hq)) (by rw [List.length_set]; exact hc)
    refine ⟨cs', hl', ?_⟩
    rw [List.map_cons, loop_cons (e' := [.ro (.lst S), .val (.int m), .own ((cs.set i (cs[i] + p.2 * (p.1 + 2))).map D.int), .no, .no, .no])]
    · exact e'
    · simp [b_law_cells_1, wn_sFg, wn_seq, hm0, hi, hat, hix, hmul, List.map_set]
      omega
theorem enum_ints (ns : List Int) : enumL (ns.map D.int) = ((intsR 0 ns.length).zip ns).map fun p => .tup [.int p.1, .int p.2] := by
  unfold enumL
  rw [rng_eq, List.length_map, List.zip_map, List.map_map]
  rfl
theorem cut_ints (ns : List Int) (lo hi : Option Int) : cut (ns.map D.int) lo hi = (cut ns lo hi).map D.int := by
  unfold cut
  simp
theorem cells_ok (ns : List Int) (hn : ns.length ≤ 63) (m : Nat) (hm : 1 ≤ m) (hm3 : m ≤ 3) : ∃ cs : List Int, 1 ≤ cs.length ∧ cs.length ≤ 3 ∧ f_law_cells [.lst (ns.map D.int), .int m] = .ok (.lst (cs.map D.int)) [] := by
  obtain ⟨c0, h1, h2, h3, h4⟩ : ∃ c0 : List Int, 1 ≤ c0.length ∧ c0.length ≤ 3 ∧ (c0.length = m ∨ ns.length ≤ m) ∧ (if cut ns none (some (m : Int)) = [] then [0] else cut ns none (some (m : Int))) = c0 := by
    refine ⟨_, ?_, ?_, ?_, rfl⟩
    · split
      · simp
      · rename_i h; exact List.length_pos_iff.mpr h
    · split
      · simp
      · have : (cut ns none (some (m : Int))).length ≤ m := by
          unfold cut
          rw [List.length_take, show HT.sIx ns.length 0 none = 0 from rfl, HT.sIx_nat]
          omega
        omega
    · by_cases h : ns.length ≤ m
      · exact .inr h
      · refine .inl ?_
        have e : (cut ns none (some (m : Int))).length = m := by
          unfold cut
          rw [List.length_take, List.length_drop, show HT.sIx ns.length 0 none = 0 from rfl, HT.sIx_nat]
          omega
        rw [if_neg (fun z => by rw [z] at e; simp at e; omega)]
        exact e
  have hcut : (cut ns (some (m : Int)) (some 63)).length ≤ 63 := by
    unfold cut
    rw [List.length_take, List.length_drop]
    omega
  have fin : ∀ cs' : List Int, cs'.length ≤ 3 → 1 ≤ cs'.length → loop (gT (gsCons (gN 3) (gsCons (gN 4) gsNil))) b_law_cells_1 (enumL (cut (ns.map D.int) (some (m : Int)) (some 63))) [.ro (.lst (ns.map D.int)), .val (.int m), .own (c0.map D.int), .no, .no, .no] = .ok .nx [.ro (.lst (ns.map D.int)), .val (.int m), .own (cs'.map D.int), .no, .no, .no] →
      ∃ cs : List Int, 1 ≤ cs.length ∧ cs.length ≤ 3 ∧ f_law_cells [.lst (ns.map D.int), .int m] = .ok (.lst (cs.map D.int)) [] := by
    intro cs' hl h0 he
    refine ⟨cs', h0, hl, ?_⟩
    refine mkF_rt rfl (e := [.ro (.lst (ns.map D.int)), .val (.int m), .val (.lst (cs'.map D.int)), .no, .no, .no]) (show m_law_cells [.ro (.lst (ns.map D.int)), .val (.int m), .no, .no, .no, .no] = _ from ?_) rfl
    refine Wn.eq ?_
    unfold m_law_cells
    rw [wn_seq]
    have tr : ∀ Q, WR (truth (.lst (cut (ns.map D.int) none (some (m : Int))))) Q = Q (!(cut ns none (some (m : Int))).isEmpty) := fun Q => by
      rw [cut_ints]
      show Q _ = _
      rw [List.isEmpty_map]
    have first : Wn (sOwn 2 (eOrT (e1 dList (eSlN 0 oNone (oSome (eVar 1)))) (eLst (aCons (eC (.int 0)) aNil)))) [.ro (.lst (ns.map D.int)), .val (.int m), .no, .no, .no, .no] (fun o e1 => o = .nx ∧ e1 = [.ro (.lst (ns.map D.int)), .val (.int m), .own (c0.map D.int), .no, .no, .no]) NoE := by
      simp [tr]
      by_cases hz : cut ns none (some (m : Int)) = []
      · rw [if_pos hz] at h4
        simp [hz, ← h4]
      · rw [if_neg hz] at h4
        simp [hz, cut_ints, h4]
        intro z
        rw [z] at h1
        simp at h1
    refine first.imp fun o e1 h => ?_
    obtain ⟨rfl, rfl⟩ := h
    rw [wo_nx, wn_seq]
    unfold l_law_cells_1
    simp only [wn_sFor, wn_iEnum, wn_eSlN, x_sl0, wt_ro, wn_oSome, wn_var, x_slS, ws_val, wi_int, wn_c, dSlL_lst, wr_ok, wm_lst]
    rw [wn_eq he]
    simp [wn_seq]
  rw [cut_ints, enum_ints] at fin
  rcases h3 with h3 | h3
  · obtain ⟨cs', hl, he⟩ := cells_fold (ns := ns) (cs := c0) hm hm3 (ns.map D.int) ((intsR 0 (cut ns (some (m : Int)) (some 63)).length).zip (cut ns (some (m : Int)) (some 63))) (fun p hp => by
      have := mem_intsR.mp (List.of_mem_zip hp).1
      omega) h3
    exact fin cs' (by omega) (by omega) he
  · have e : cut ns (some (m : Int)) (some 63) = [] := by
      unfold cut
      rw [HT.sIx_nat]
      apply List.eq_nil_of_length_eq_zero
      rw [List.length_take, List.length_drop]
      omega
    rw [e] at fin
    exact fin c0 h2 h1 rfl
end AH
namespace AH
open PySem L2
variable [TheK]
/-! ### the source of draws -/
def M_box (K : Int) : DS := (sSeq (sAsgN 2 (eIf (c2 dLt (eVar 1) (e1 dLen (eVar 0))) (e2 dIx (eVar 0) (eVar 1)) (eC (.int 0)))) (sRet (eLst (aCons (e2 dMul (e1 dAbs (eVar 2)) (e1 dInt (eB (c2 dGe (e1 dAbs (eVar 2)) (e2 dPow (eC (.int 10)) (eC (.int 18))))))) (aCons (e2 dAdd (e2 dAdd (e2 dMod (e1 dInt (eVar 2)) (eC (.int 2305843009213693951))) (e2 dMul (eC (.int 39373)) (eVar 1))) (eC (.int K))) (aCons (eC (.int 0)) aNil))))))
theorem pow18 : dPow (.int 10) (.int 18) = .ok (.int 1000000000000000000) := by kernel_rfl
theorem box_ok {K : Int} (hK0 : 0 ≤ K) (hK : K < 2 ^ 60) {cs : List Int} {i : Nat} (hi : i < cs.length) (hl : cs.length ≤ 3) : ∃ bx, mkR 3 [.val, .val] (M_box K) [.lst (cs.map D.int), .int i] = .ok (.lst bx) [] ∧ Bx (2 ^ 59) bx := by
  obtain ⟨c, hc⟩ : ∃ c, atI (cs.map D.int) (i : Int) = some (.int c) := ⟨_, by rw [atI_nat (by rw [List.length_map]; exact hi), List.getElem_map]⟩
  obtain ⟨a, ha, ha0⟩ : ∃ a : Int, (if c < 0 then -c else c) = a ∧ 0 ≤ a := ⟨_, rfl, by split <;> omega⟩
  have hm : ∀ x : Int, ∀ b : Bool, mulOk x (if b = true then 1 else 0) = true := fun x b => mulOk_r (by cases b <;> decide)
  have hm0 : ∀ x : Int, mulOk x 0 = true := fun x => mulOk_r (by decide)
  have hm1 : ∀ x : Int, mulOk x 1 = true := fun x => mulOk_r (by decide)
  have h39 : mulOk 39373 (i : Int) = true := mulOk_l (by decide)
  have h62 : (2 : Int) ^ 62 = 4611686018427387904 := by decide
  have h60 : (2 : Int) ^ 60 = 1152921504606846976 := by decide
  refine ⟨[.int (a * (if decide ((1000000000000000000 : Int) ≤ a) = true then 1 else 0)), .int (c % 2305843009213693951 + 39373 * (i : Int) + K), .int 0], ?_, _, _, _, rfl, ?_, ?_, ?_, by omega, by omega⟩
  · refine mkR_rt rfl (e := [.val (.lst (cs.map D.int)), .val (.int i), .val (.int c)]) (show M_box K [.val (.lst (cs.map D.int)), .val (.int i), .no] = _ from ?_) rfl
    refine Wn.eq ?_
    unfold M_box
    rw [wn_seq]
    simp only [wn_sAsgN, wn_eIf, wn_c2, wn_var, x_sl0, x_slS, ws_val, wn_e1, dLen_lst, wr_ok, dLt_int, List.length_map]
    rw [if_pos (by rw [decide_eq_true_eq]; omega)]
    simp [hc, ha, pow18, hm, h39, hm0, hm1]
    split <;> first | exact hm1 a | exact hm0 a
  · split <;> omega
  · have := Int.emod_nonneg c (b := 2305843009213693951) (by decide)
    omega
  · have := Int.emod_lt_of_pos c (b := 2305843009213693951) (by decide)
    omega
/-! ### the law -/
def C_law (fr fb : DF) : DE := (eLc [2] (iRng1 (e1 dLen (eVar 1))) (gN 2) tYes (eCall fr [.new (eCall fb [.e (eVar 1), .e (eVar 2)])]))
def M_law (fh fr fb : DF) : DS := (sSeq (sIf (tNot (tV (eCall fh []))) (sRet (eC (.bl false))) sNil) (sSeq (sAsgN 1 (eCall f_law_cells [.look 0, .e (eC (.int 3))])) (sRet (e1 dAll (C_law fr fb)))))
def M_law0 (m : Int) (fr fb : DF) : DS := (sSeq (sAsgN 1 (eCall f_law_cells [.look 0, .e (eC (.int m))])) (sRet (e1 dAll (C_law fr fb))))
def Right (fr : DF) : Prop := ∀ xs, Bx (2 ^ 59) xs → WF (fr [.lst xs]) (fun d bs => d = .bl true ∧ ∃ ys, bs = [ys]) NoF
theorem law_lc {K : Int} (hK0 : 0 ≤ K) (hK : K < 2 ^ 60) {fr : DF} (hr : Right fr) {S : D} {cs : List Int} (h1 : 1 ≤ cs.length) (h3 : cs.length ≤ 3) : C_law fr (mkR 3 [.val, .val] (M_box K)) [.ro S, .val (.lst (cs.map D.int)), .no] = .ok (.lst ((intsR 0 cs.length).map fun _ => .bl true)) [.ro S, .val (.lst (cs.map D.int)), .no] := by
  unfold C_law
  refine lc_map (L := intsR 0 cs.length) (enc := D.int) (fun _ => .bl true) ?_ rfl (by rw [intsR_len]; omega) fun y hy => ?_
  · refine Wn.eq ?_
    simp only [wn_iRng1, wn_e1, wn_var, x_slS, x_sl0, ws_val, dLen_lst, wr_ok, wi_int, List.length_map, rng_eq]
    refine ⟨?_, by simp⟩
    rw [rngOk_iff]
    omega
  · obtain ⟨y0, y1⟩ := mem_intsR.mp hy
    obtain ⟨i, rfl⟩ : ∃ i : Nat, y = i := ⟨y.toNat, by omega⟩
    obtain ⟨bx, b1, b2⟩ := box_ok hK0 hK (cs := cs) (i := i) (by omega) h3
    obtain ⟨d, bs, r1, rfl, ys, rfl⟩ := (hr bx b2).run
    have c : eCall fr [.new (eCall (mkR 3 [.val, .val] (M_box K)) [.e (eVar 1), .e (eVar 2)])] [.ro S, .val (.lst (cs.map D.int)), .val (.int i)] = .ok (.bl true) [.ro S, .val (.lst (cs.map D.int)), .val (.int i)] :=
      call_ok (args_new (x := .lst bx) (call2 (x := .lst (cs.map D.int)) (y := .int i) (e1 := [.ro S, .val (.lst (cs.map D.int)), .val (.int i)]) rfl rfl b1) rfl) rfl rfl r1 rfl
    simp [wipeE, wn_eq c]
theorem law_end {K : Int} (hK0 : 0 ≤ K) (hK : K < 2 ^ 60) {fh fr : DF} (hh : fh [] = .ok (.bl true) []) (hr : Right fr) (ns : List Int) (hn : ns.length ≤ 63) : mkF 3 [.ro] (M_law fh fr (mkR 3 [.val, .val] (M_box K))) [.lst (ns.map D.int)] = .ok (.bl true) [] := by
  obtain ⟨cs, h1, h2, hc⟩ := cells_ok ns hn 3 (by omega) (by omega)
  refine mkF_rt rfl (e := [.ro (.lst (ns.map D.int)), .val (.lst (cs.map D.int)), .no]) (show M_law fh fr _ [.ro (.lst (ns.map D.int)), .no, .no] = _ from ?_) rfl
  have a1 : eCall f_law_cells [.look 0, .e (eC (.int 3))] [.ro (.lst (ns.map D.int)), .no, .no] = .ok (.lst (cs.map D.int)) [.ro (.lst (ns.map D.int)), .no, .no] := call_ok (args_look (x := .lst (ns.map D.int)) rfl (args_e (a := eC (.int 3)) (as := []) (x := .int 3) (e1 := [.ro (.lst (ns.map D.int)), .no, .no]) (xs := []) rfl rfl)) rfl rfl hc rfl
  have al : dAll (.lst ((intsR 0 cs.length).map fun _ => .bl true)) = .ok (.bl true) := by rw [dAll_map (f := fun _ => true)]; simp
  refine Wn.eq ?_
  unfold M_law
  rw [wn_seq]
  simp [hh, wn_seq, wn_eq a1, wn_eq (law_lc hK0 hK hr h1 h2), al]
theorem law_end0 {K : Int} (hK0 : 0 ≤ K) (hK : K < 2 ^ 60) {fr : DF} (hr : Right fr) {m : Nat} (hm : 1 ≤ m) (hm3 : m ≤ 3) (ns : List Int) (hn : ns.length ≤ 63) : mkF 3 [.ro] (M_law0 m fr (mkR 3 [.val, .val] (M_box K))) [.lst (ns.map D.int)] = .ok (.bl true) [] := by
  obtain ⟨cs, h1, h2, hc⟩ := cells_ok ns hn m hm hm3
  refine mkF_rt rfl (e := [.ro (.lst (ns.map D.int)), .val (.lst (cs.map D.int)), .no]) (show M_law0 m fr _ [.ro (.lst (ns.map D.int)), .no, .no] = _ from ?_) rfl
  have a1 : eCall f_law_cells [.look 0, .e (eC (.int m))] [.ro (.lst (ns.map D.int)), .no, .no] = .ok (.lst (cs.map D.int)) [.ro (.lst (ns.map D.int)), .no, .no] := call_ok (args_look (x := .lst (ns.map D.int)) rfl (args_e (a := eC (.int m)) (as := []) (x := .int m) (e1 := [.ro (.lst (ns.map D.int)), .no, .no]) (xs := []) rfl rfl)) rfl rfl hc rfl
  have al : dAll (.lst ((intsR 0 cs.length).map fun _ => .bl true)) = .ok (.bl true) := by rw [dAll_map (f := fun _ => true)]; simp
  refine Wn.eq ?_
  unfold M_law0
  rw [wn_seq]
  simp [wn_eq a1, wn_eq (law_lc hK0 hK hr h1 h2), al]
end AH
namespace AH
open PySem L2
variable [TheK]
/-! ### defs, as wishes -/
def WE (ms : List Md) (o : Out) (e : Env) (Q : D → List (List D) → Prop) : Prop := match lentOf ms e with
  | some bs => (match o with
    | .rt d => Q d bs
    | .nx => Q .non bs
    | _ => False)
  | none => False
theorem wf_mkF {n : Nat} {ms : List Md} {b : DS} {ds : List D} {Q : D → List (List D) → Prop} {E : Str → List D → List (List D) → Prop} (h : lstsOk ms ds = true) : WF (mkF n ms b ds) Q E = Wn b (startE ms ds ++ List.replicate (n - ms.length) .no) (fun o e => WE ms o e Q) (fun c fs e => match lentOf ms e with | some bs => E c fs bs | none => False) := by
  unfold mkF
  simp only [h, Bool.not_true, Bool.false_eq_true, if_false]
  unfold Wn WE
  cases b (startE ms ds ++ List.replicate (n - ms.length) .no) with
  | ok o e =>
    simp only
    cases o with
    | rt d => simp only; cases lentOf ms e <;> (unfold WF; rfl)
    | nx => simp only; cases lentOf ms e <;> (unfold WF; rfl)
    | bk => simp only; cases lentOf ms e <;> (unfold WF; rfl)
    | ct => simp only; cases lentOf ms e <;> (unfold WF; rfl)
  | ex c fs e => simp only; cases lentOf ms e <;> (unfold WF; rfl)
  | bad => (unfold WF; rfl)
@[simp] theorem we_nil {o : Out} {e : Env} {Q : D → List (List D) → Prop} : WE [] o e Q = (match o with | .rt d => Q d [] | .nx => Q .non [] | _ => False) := by
  unfold WE; cases e <;> rfl
@[simp] theorem we_val {ms : List Md} {s : Sl} {o : Out} {e : Env} {Q : D → List (List D) → Prop} : WE (.val :: ms) o (s :: e) Q = WE ms o e Q := by
  have h : lentOf (.val :: ms) (s :: e) = lentOf ms e := by cases s <;> rfl
  unfold WE; rw [h]
@[simp] theorem we_ro {ms : List Md} {s : Sl} {o : Out} {e : Env} {Q : D → List (List D) → Prop} : WE (.ro :: ms) o (s :: e) Q = WE ms o e Q := by
  have h : lentOf (.ro :: ms) (s :: e) = lentOf ms e := by cases s <;> rfl
  unfold WE; rw [h]
@[simp] theorem we_bor {ms : List Md} {xs : List D} {o : Out} {e : Env} {Q : D → List (List D) → Prop} : WE (.bor :: ms) o (.bor xs :: e) Q = WE ms o e (fun d bs => Q d (xs :: bs)) := by
  unfold WE
  rw [lentOf]
  cases lentOf ms e <;> rfl
/-! ### loops that look for a thing that is not so -/
theorem wn_all {g : DG} {b : DS} {p : D → Bool} {e : Env} {Q : Out → Env → Prop} {E : Str → List D → Env → Prop} : ∀ {xs : List D}, (∀ x ∈ xs, Wn (g x) e (fun _ e1 => Wn b e1 (fun o e2 => (p x = true → o = .nx ∧ e2 = e) ∧ (p x = false → o = .rt (.bl false) ∧ e2.length = e.length)) NoE) NoE) →
    (xs.all p = true → Q .nx e) → (xs.all p = false → ∀ e2 : Env, e2.length = e.length → Q (.rt (.bl false)) e2) → Wn (loop g b xs) e Q E
  | [], _, h1, _ => by rw [wn_loop_nil]; exact h1 rfl
  | x :: xs, h, h1, h2 => by
    unfold loop
    rw [wn_bind]
    refine (h x List.mem_cons_self).imp (fun _ e1 h3 => ?_) fun _ _ _ z => z.elim
    rw [wn_bind]
    refine h3.imp (fun o e2 h4 => ?_) fun _ _ _ z => z.elim
    cases hp : p x with
    | true =>
      obtain ⟨rfl, rfl⟩ := h4.1 hp
      exact wn_all (fun y hy => h y (List.mem_cons_of_mem _ hy)) (fun z => h1 (by rw [List.all_cons, hp, z]; rfl)) fun z => h2 (by rw [List.all_cons, hp, z]; rfl)
    | false =>
      obtain ⟨rfl, hl⟩ := h4.2 hp
      exact (wn_eq rfl).mpr (h2 (by rw [List.all_cons, hp]; rfl) e2 hl)
/-- a loop with draws: the box stands first, each turn takes at most c of it -/
theorem wn_turns {g : DG} {b : DS} {c : Nat} {r : Env} {Q : Out → Env → Prop} {E : Str → List D → Env → Prop} (hs : ∀ (n : Nat) (x : D) (bx : List D), Bx (n + c) bx → Wn (g x) (.bor bx :: r) (fun _ e1 => Wn b e1 (fun o e2 => o = .nx ∧ ∃ by_, e2 = .bor by_ :: r ∧ Bx n by_) NoE) NoE) :
    ∀ {xs : List D} {n : Nat} {bx : List D}, Bx (n + c * xs.length) bx → (∀ by_, Bx n by_ → Q .nx (.bor by_ :: r)) → Wn (loop g b xs) (.bor bx :: r) Q E
  | [], n, bx, hb, q => by rw [wn_loop_nil]; exact q bx hb
  | x :: xs, n, bx, hb, q => by
    unfold loop
    rw [wn_bind]
    refine (hs (n + c * xs.length) x bx (by rw [List.length_cons] at hb; exact hb.le (by rw [Nat.mul_succ]; omega))).imp (fun _ e1 h1 => ?_) fun _ _ _ z => z.elim
    rw [wn_bind]
    refine h1.imp (fun o e2 h2 => ?_) fun _ _ _ z => z.elim
    obtain ⟨rfl, by_, rfl, h3⟩ := h2
    exact wn_turns hs h3 q
/-- .. that appends drawn things to a list in slot j -/
@[simp] theorem we_rt_bor {xs : List D} {d : D} {e : Env} {Q : D → List (List D) → Prop} : WE [.bor] (.rt d) (.bor xs :: e) Q = Q d [xs] := by simp
theorem all_eq_of {p q : D → Bool} {xs : List D} (h : ∀ x ∈ xs, p x = q x) : xs.all p = xs.all q := by
  induction xs with
  | nil => rfl
  | cons x xs ih => rw [List.all_cons, List.all_cons, h x List.mem_cons_self, ih fun y hy => h y (List.mem_cons_of_mem _ hy)]
end AH
namespace AH
open PySem L2
variable [TheK]
section
variable {e : Env} {i j l : Nat} {a b c : DE} {E : Str → List D → Env → Prop} {Q : Out → Env → Prop}
@[simp] theorem wn_par_vv : Wn (sPar [(i, false), (j, false)] [.e a, .e b]) e Q E = Wn a e (fun x e1 => Wn b e1 (fun y e2 => isFix (sl e2 i) = false ∧ isFix (sl (put e2 i (.val x)) j) = false ∧ Q .nx (put (put e2 i (.val x)) j (.val y))) E) E := by
  simp only [sPar, argsV, wn_bind, wn_pure, allL, Option.map]
  congr 1; funext x e1; congr 1; funext y e2
  unfold Wn
  simp only [parPut]
  cases isFix (sl e2 i) <;> cases isFix (sl (put e2 i (.val x)) j) <;> simp
@[simp] theorem wn_par_vn : Wn (sPar [(i, false), (j, true)] [.e a, .new b]) e Q E = Wn a e (fun x e1 => Wn b e1 (fun y e2 => WM y fun ys => isFix (sl e2 i) = false ∧ isFix (sl (put e2 i (.val x)) j) = false ∧ j < e2.length ∧ Q .nx (put (put e2 i (.val x)) j (.own ys))) E) E := by
  simp only [sPar, argsV, wn_bind, wn_pure, allL, Option.map]
  congr 1; funext x e1; congr 1; funext y e2
  cases y with
  | lst ys =>
    unfold Wn
    simp only [parPut, wm_lst, put_len]
    cases isFix (sl e2 i) <;> cases isFix (sl (put e2 i (.val x)) j) <;> by_cases h : j < e2.length <;> simp [h]
  | _ =>
    unfold Wn
    simp only [parPut]
    cases isFix (sl e2 i) <;> rfl
@[simp] theorem wn_par_nv : Wn (sPar [(i, true), (j, false)] [.new a, .e b]) e Q E = Wn a e (fun x e1 => Wn b e1 (fun y e2 => WM x fun xs => isFix (sl e2 i) = false ∧ i < e2.length ∧ isFix (sl (put e2 i (.own xs)) j) = false ∧ Q .nx (put (put e2 i (.own xs)) j (.val y))) E) E := by
  simp only [sPar, argsV, wn_bind, wn_pure, allL, Option.map]
  congr 1; funext x e1; congr 1; funext y e2
  cases x with
  | lst xs =>
    unfold Wn
    simp only [parPut, wm_lst]
    cases isFix (sl e2 i) <;> cases isFix (sl (put e2 i (.own xs)) j) <;> by_cases h : i < e2.length <;> simp [h]
  | _ => (unfold Wn; rfl)
@[simp] theorem wn_par_vvv : Wn (sPar [(i, false), (j, false), (l, false)] [.e a, .e b, .e c]) e Q E = Wn a e (fun x e1 => Wn b e1 (fun y e2 => Wn c e2 (fun z e3 => isFix (sl e3 i) = false ∧ isFix (sl (put e3 i (.val x)) j) = false ∧ isFix (sl (put (put e3 i (.val x)) j (.val y)) l) = false ∧ Q .nx (put (put (put e3 i (.val x)) j (.val y)) l (.val z))) E) E) E := by
  simp only [sPar, argsV, wn_bind, wn_pure, allL, Option.map]
  congr 1; funext x e1; congr 1; funext y e2; congr 1; funext z e3
  unfold Wn
  simp only [parPut]
  cases isFix (sl e3 i) <;> cases isFix (sl (put e3 i (.val x)) j) <;> cases isFix (sl (put (put e3 i (.val x)) j (.val y)) l) <;> simp
end
/-! ### plain data; few items -/
theorem plainL_iff {n : Nat} : ∀ {xs : List D}, D.plainL n xs = true ↔ ∀ x ∈ xs, D.plain n x = true
  | [] => by simp [D.plainL]
  | x :: xs => by simp [D.plainL, plainL_iff (xs := xs)]
theorem sm_plain : ∀ {n m : Nat} {d : D}, d.sm n = true → n ≤ m → d.plain m = true := by
  intro n
  induction n with
  | zero => intro m d h _; cases d <;> first | (cases m <;> rfl) | (cases m <;> exact h) | (cases h)
  | succ n ih =>
    intro m d h hm
    cases m with
    | zero => omega
    | succ m =>
      cases d with
      | tup xs =>
        rw [sm_tup] at h
        show D.plainL m xs = true
        exact plainL_iff.mpr fun x hx => ih (h.2 x hx) (by omega)
      | lst xs =>
        rw [sm_lst] at h
        show D.plainL m xs = true
        exact plainL_iff.mpr fun x hx => ih (h.2 x hx) (by omega)
      | dic _ => cases h
      | exc _ _ _ => cases h
      | obj _ => cases h
      | str s => exact h
      | _ => rfl
theorem dEq_nil {n : Nat} {xs : List D} (h : (D.tup xs).sm n = true) (hn : n ≤ 40) : dEq (.tup xs) (.tup []) = .ok xs.isEmpty := by
  have h1 : D.plain 40 (.tup xs) = true := sm_plain h hn
  have h2 : D.plain 40 (.tup []) = true := rfl
  have h3 : D.eqv (.tup xs) (.tup []) = xs.isEmpty := by cases xs <;> rfl
  unfold dEq
  rw [h1, h2, h3]
  rfl
/-- data of a depth, its lists of at most b items -/
def D.fit (b : Nat) : Nat → D → Prop
  | _, .non => True
  | _, .bl _ => True
  | _, .int _ => True
  | _, .str s => PySem.PyData.strOk s = true
  | n + 1, .tup xs => xs.length ≤ b ∧ ∀ x ∈ xs, D.fit b n x
  | n + 1, .lst xs => xs.length ≤ b ∧ ∀ x ∈ xs, D.fit b n x
  | _, _ => False
theorem fit_sm {b : Nat} (hb : b ≤ 10000) : ∀ {n : Nat} {d : D}, d.fit b n → d.sm n = true
  | 0, .non, _ => rfl
  | 0, .bl _, _ => rfl
  | 0, .int _, _ => rfl
  | 0, .str s, h => by
    have h : PySem.PyData.strOk s = true := by simpa [D.fit] using h
    exact h
  | n + 1, .non, _ => rfl
  | n + 1, .bl _, _ => rfl
  | n + 1, .int _, _ => rfl
  | n + 1, .str s, h => by
    have h : PySem.PyData.strOk s = true := by simpa [D.fit] using h
    exact h
  | n + 1, .tup xs, h => by
    simp only [D.fit] at h
    exact sm_tup.mpr ⟨by omega, fun x hx => fit_sm hb (h.2 x hx)⟩
  | n + 1, .lst xs, h => by
    simp only [D.fit] at h
    exact sm_lst.mpr ⟨by omega, fun x hx => fit_sm hb (h.2 x hx)⟩
theorem fit_le {b c : Nat} (hb : b ≤ c) : ∀ {n m : Nat} {d : D}, n ≤ m → d.fit b n → d.fit c m := by
  intro n
  induction n with
  | zero => intro m d _ h; cases d <;> cases m <;> simp_all [D.fit]
  | succ n ih =>
    intro m d hm h
    cases m with
    | zero => omega
    | succ m =>
      cases d with
      | tup xs => simp only [D.fit] at h ⊢; exact ⟨by omega, fun x hx => ih (by omega) (h.2 x hx)⟩
      | lst xs => simp only [D.fit] at h ⊢; exact ⟨by omega, fun x hx => ih (by omega) (h.2 x hx)⟩
      | _ => simp_all [D.fit]
end AH
namespace AH
open PySem L2
variable [TheK]
/-! ### numbers, rows of numbers -/
def numB : D → Bool
  | .int _ => true
  | _ => false
theorem sm_ex {n : Nat} {d : D} (h : d.sm n = true) : isExc d = false := by cases d <;> first | rfl | (cases n <;> cases h)
theorem num_ok {n : Nat} {d : D} (h : d.sm n = true) : f_is_number [d] = .ok (.bl (numB d)) [] := by
  have e := sm_ex h
  cases d <;> first | (simp [f_is_number, m_is_number, mkF, lstsOk, startE, lentOf, isi, numB]; done) | (cases e)
theorem whole_ok {n : Nat} {d : D} (h : d.sm n = true) : f_law_is_whole [d] = .ok (.bl (numB d)) [] := by
  have e := sm_ex h
  cases d <;> first | (simp [f_law_is_whole, m_law_is_whole, mkF, lstsOk, startE, lentOf, isi, numB]; done) | (cases e)
def nnB (l : Int) : D → Bool
  | .int a => decide (l ≤ a)
  | _ => false
def rowB (s l : Int) : D → Bool
  | .tup xs => decide ((xs.length : Int) = s) && xs.all (nnB l)
  | _ => false
theorem are_ok {n : Nat} {s l : Int} {d : D} (h : d.sm n = true) : f_are_numbers [d, .int s, .int l] = .ok (.bl (rowB s l d)) [] := by
  have e := sm_ex h
  cases d with
  | tup xs =>
    cases n with
    | zero => cases h
    | succ n =>
      rw [sm_tup] at h
      have lc : c_are_numbers_1 [.val (.tup xs), .val (.int s), .val (.int l), .no] = .ok (.lst (xs.map fun x => .bl (nnB l x))) [.val (.tup xs), .val (.int s), .val (.int l), .no] := by
        unfold c_are_numbers_1
        refine lc_mapD (fun x => .bl (nnB l x)) rfl rfl (by omega) fun y hy => ?_
        have c := num_ok (h.2 y hy)
        cases y <;> simp [wipeE, c, numB, nnB]
      refine WF.eq ?_
      rw [f_are_numbers, wf_mkF rfl]
      simp [startE, m_are_numbers, wn_eq lc, rowB]
      split <;> simp [*]
  | exc _ _ _ => cases e
  | _ => simp [f_are_numbers, m_are_numbers, mkF, lstsOk, startE, lentOf, isi, rowB]
theorem cal_ok {n : Nat} {s : Int} {d : D} (h : d.sm n = true) : f_is_calendar [.int s, d] = .ok (.bl (rowB s 0 d)) [] := by
  have c := are_ok (s := s) (l := 0) h
  refine WF.eq ?_
  rw [f_is_calendar, wf_mkF rfl]
  simp [startE, m_is_calendar, c]
/-! ### drawn rows -/
/-- a row of numbers from 0, below a bound -/
def Row (s : Nat) (t : Int) (d : D) : Prop := ∃ ns : List Int, d = .tup (ns.map D.int) ∧ ns.length = s ∧ ∀ n ∈ ns, 0 ≤ n ∧ n ≤ t
theorem wn_lendE3 {f : DF} {a b c : DE} {xs : List D} {e : Env} {x y z : D} {Q : D → Env → Prop} {E : Str → List D → Env → Prop} (ha : a (.bor xs :: e) = .ok x (.bor xs :: e)) (hb : b (.bor xs :: e) = .ok y (.bor xs :: e)) : Wn (eCall f [.lend 0, .e a, .e b]) (.bor xs :: e) Q E = WF (f [.lst xs, x, y]) (fun d bs => ∃ ys, bs = [ys] ∧ Q d (.bor ys :: e)) (fun c fs bs => ∃ ys, bs = [ys] ∧ E c fs (.bor ys :: e)) := by
  rw [wn_call]
  simp only [argsV, wn_bind, wn_pure, wn_tmp, x_sl0, wt_bor, wn_eq ha, wn_eq hb, lends, List.all_cons, List.all_nil, Bool.and_true, isL, true_and, argsD, argD, slD]
  congr 1
  · funext d bs
    match bs with
    | [] => simp [giveBack]
    | [ys] => simp [giveBack]
    | _ :: _ :: _ => simp [giveBack]
  · funext c fs bs
    match bs with
    | [] => simp [giveBack]
    | [ys] => simp [giveBack]
    | _ :: _ :: _ => simp [giveBack]
theorem wn_lendE4 {f : DF} {a b c : DE} {xs : List D} {e : Env} {x y z : D} {Q : D → Env → Prop} {E : Str → List D → Env → Prop} (ha : a (.bor xs :: e) = .ok x (.bor xs :: e)) (hb : b (.bor xs :: e) = .ok y (.bor xs :: e)) (hc : c (.bor xs :: e) = .ok z (.bor xs :: e)) : Wn (eCall f [.lend 0, .e a, .e b, .e c]) (.bor xs :: e) Q E = WF (f [.lst xs, x, y, z]) (fun d bs => ∃ ys, bs = [ys] ∧ Q d (.bor ys :: e)) (fun c fs bs => ∃ ys, bs = [ys] ∧ E c fs (.bor ys :: e)) := by
  rw [wn_call]
  simp only [argsV, wn_bind, wn_pure, wn_tmp, x_sl0, wt_bor, wn_eq ha, wn_eq hb, wn_eq hc, lends, List.all_cons, List.all_nil, Bool.and_true, isL, true_and, argsD, argD, slD]
  congr 1
  · funext d bs
    match bs with
    | [] => simp [giveBack]
    | [ys] => simp [giveBack]
    | _ :: _ :: _ => simp [giveBack]
  · funext c fs bs
    match bs with
    | [] => simp [giveBack]
    | [ys] => simp [giveBack]
    | _ :: _ :: _ => simp [giveBack]
theorem lend2 {f : DF} {a : DE} {xs xs' : List D} {e e' : Env} {x : D} {Q : D → Env → Prop} {E : Str → List D → Env → Prop} (ha : a (.bor xs :: e) = .ok x (.bor xs' :: e')) (h : WF (f [.lst xs', x]) (fun d bs => ∃ ys, bs = [ys] ∧ Q d (.bor ys :: e')) (fun c fs bs => ∃ ys, bs = [ys] ∧ E c fs (.bor ys :: e'))) : Wn (eCall f [.lend 0, .e a]) (.bor xs :: e) Q E := by
  rw [wn_lendE ha]; exact h
theorem lend3 {f : DF} {a b : DE} {xs : List D} {e : Env} {x y : D} {Q : D → Env → Prop} {E : Str → List D → Env → Prop} (ha : a (.bor xs :: e) = .ok x (.bor xs :: e)) (hb : b (.bor xs :: e) = .ok y (.bor xs :: e)) (h : WF (f [.lst xs, x, y]) (fun d bs => ∃ ys, bs = [ys] ∧ Q d (.bor ys :: e)) (fun c fs bs => ∃ ys, bs = [ys] ∧ E c fs (.bor ys :: e))) : Wn (eCall f [.lend 0, .e a, .e b]) (.bor xs :: e) Q E := by
  rw [wn_lendE3 (c := eC .non) (z := .non) ha hb]; exact h
theorem lend4 {f : DF} {a b c : DE} {xs : List D} {e : Env} {x y z : D} {Q : D → Env → Prop} {E : Str → List D → Env → Prop} (ha : a (.bor xs :: e) = .ok x (.bor xs :: e)) (hb : b (.bor xs :: e) = .ok y (.bor xs :: e)) (hc : c (.bor xs :: e) = .ok z (.bor xs :: e)) (h : WF (f [.lst xs, x, y, z]) (fun d bs => ∃ ys, bs = [ys] ∧ Q d (.bor ys :: e)) (fun c fs bs => ∃ ys, bs = [ys] ∧ E c fs (.bor ys :: e))) : Wn (eCall f [.lend 0, .e a, .e b, .e c]) (.bor xs :: e) Q E := by
  rw [wn_lendE4 ha hb hc]; exact h
/-- a loop that fills the list in the last used slot with drawn things -/
theorem fill {α : Type} {g : DG} {b : DS} {c : Nat} {enc : α → D} {P : α → Prop} {st : List D → List D → Env} {E : Str → List D → Env → Prop} {m : Nat}
    (hs : ∀ (n : Nat) (x : D) (bx fs : List D), fs.length < m → Bx (n + c) bx → Wn (g x) (st bx fs) (fun _ e1 => Wn b e1 (fun o e2 => o = .nx ∧ ∃ by_ y, P y ∧ e2 = st by_ (fs ++ [enc y]) ∧ Bx n by_) NoE) NoE) :
    ∀ {xs : List D} {n : Nat} {bx : List D} {L : List α} {Q : Out → Env → Prop}, xs.length + L.length ≤ m → (∀ y ∈ L, P y) → Bx (n + c * xs.length) bx → (∀ (by_ : List D) (L' : List α), L'.length = xs.length + L.length → (∀ y ∈ L', P y) → Bx n by_ → Q .nx (st by_ (L'.map enc))) → Wn (loop g b xs) (st bx (L.map enc)) Q E
  | [], n, bx, L, Q, hl, hL, hb, q => by
    rw [wn_eq (show loop g b [] (st bx (L.map enc)) = .ok .nx (st bx (L.map enc)) from rfl)]
    exact q bx L (by simp) hL hb
  | x :: xs, n, bx, L, Q, hl, hL, hb, q => by
    rw [List.length_cons] at hl
    unfold loop
    rw [wn_bind]
    refine (hs (n + c * xs.length) x bx (L.map enc) (by rw [List.length_map]; omega) (by rw [List.length_cons] at hb; exact hb.le (by rw [Nat.mul_succ]; omega))).imp (fun _ e1 h1 => ?_) fun _ _ _ z => z.elim
    rw [wn_bind]
    refine h1.imp (fun o e2 h2 => ?_) fun _ _ _ z => z.elim
    obtain ⟨rfl, by_, y, hy, rfl, h3⟩ := h2
    have e : L.map enc ++ [enc y] = (L ++ [y]).map enc := by simp
    rw [e]
    refine fill hs (by simp; omega) (fun z hz => ?_) h3 fun by2 L' hl' hL' hb' => q by2 L' (by rw [hl', List.length_append, List.length_cons, List.length_cons, List.length_nil]; omega) hL' hb'
    rcases List.mem_append.mp hz with hz | hz
    · exact hL z hz
    · rw [List.mem_singleton.mp hz]; exact hy
theorem hands_ok {n s : Nat} {t : Int} {xs : List D} {Q : D → List (List D) → Prop} {E : Str → List D → List (List D) → Prop} (hs : s ≤ 1000) (ht : 0 ≤ t) (ht2 : t < 2 ^ 139) (hb : Bx (n + 2 * s) xs) (q : ∀ d ys, Row s t d → Bx n ys → Q d [ys]) : WF (f_law_hands [.lst xs, .int s, .int t]) Q E := by
  rw [f_law_hands, wf_mkF rfl]
  simp only [startE, m_law_hands, wn_seq]
  simp [l_law_hands_1, wn_seq]
  refine ⟨by omega, ?_⟩
  refine fill (α := Int) (enc := D.int) (P := fun v => 0 ≤ v ∧ v ≤ t) (c := 2) (m := 1000) (L := []) (n := n) (st := fun bx fs => [.bor bx, .val (.int s), .val (.int t), .own fs, .no]) (fun k x bx fs hf hbx => ?_) (by rw [rng_len]; simp; omega) (by simp) (by rw [rng_len]; exact hb.le (by omega)) fun by_ L' hl hL hb' => ?_
  · simp only [b_law_hands_1, wn_sFg]
    simp only [wn_gN, x_slS, x_sl0, x_isOwn1, true_and, x_putS, x_put0, wn_sApp, wq_own, wn_eIf, wn_c2]
    refine wn_take (b := 4) rfl hbx (by omega) (by omega) fun v ys h0 h1 hy => ?_
    by_cases hv : 0 < v
    · simp only [wn_c, dGt_int, wr_ok, hv, decide_true, if_true]
      refine wn_take (b := t + 1) rfl hy (by omega) (by omega) fun u zs h2 h3 hz => ?_
      simp
      exact ⟨by omega, zs, u, ⟨h2, by omega⟩, ⟨rfl, rfl⟩, hz⟩
    · simp [hv]
      exact ⟨by omega, ys, 0, ⟨by omega, ht⟩, ⟨rfl, rfl⟩, hy.le (by omega)⟩
  · rw [rng_len] at hl
    simp
    exact q _ by_ ⟨L', rfl, by simp at hl; omega, hL⟩ hb'
end AH
namespace AH
open PySem L2
variable [TheK]
/-! ### drawn ranges -/
def encR (p : Int × Int) : D := .tup [.int p.1, .int p.2]
def Rngs (s : Nat) (t : Int) (d : D) : Prop := ∃ rs : List (Int × Int), d = .tup (rs.map encR) ∧ rs.length = s ∧ ∀ r ∈ rs, 0 ≤ r.1 ∧ r.1 ≤ r.2 ∧ r.2 ≤ t
theorem spread_ok {n s : Nat} {t u : Int} {xs : List D} {Q : D → List (List D) → Prop} {E : Str → List D → List (List D) → Prop} (hs : s ≤ 1000) (ht : 0 ≤ t) (ht2 : t < 2 ^ 138) (hu : 0 ≤ u) (hu2 : u < 2 ^ 138) (hb : Bx (n + 2 * s) xs) (q : ∀ d ys, Rngs s (t + u) d → Bx n ys → Q d [ys]) : WF (f_law_spread [.lst xs, .int s, .int t, .int u]) Q E := by
  rw [f_law_spread, wf_mkF rfl]
  simp only [startE, m_law_spread, wn_seq]
  simp [l_law_spread_1, wn_seq]
  refine ⟨by omega, ?_⟩
  refine fill (α := Int × Int) (enc := encR) (P := fun r => 0 ≤ r.1 ∧ r.1 ≤ r.2 ∧ r.2 ≤ t + u) (c := 2) (m := 1000) (L := []) (n := n) (st := fun bx fs => [.bor bx, .val (.int s), .val (.int t), .val (.int u), .own fs, .no, .no]) (fun k x bx fs hf hbx => ?_) (by rw [rng_len]; simp; omega) (by simp) (by rw [rng_len]; exact hb.le (by omega)) fun by_ L' hl hL hb' => ?_
  · simp only [b_law_spread_1, wn_sFg, wn_seq]
    simp only [wn_gN, x_slS, x_sl0, x_isOwn1, true_and, x_putS, x_put0, wn_sAsgN]
    refine wn_take (b := t + 1) rfl hbx (by omega) (by omega) fun v ys h0 h1 hy => ?_
    simp only [x_slS, x_sl0, x_isFix1, true_and, wo_nx, x_putS, x_put0, wn_sApp, wq_own, wn_eTup, wn_aCons, wn_var, ws_val, wn_e2]
    refine wn_take (b := u + 1) rfl hy (by omega) (by omega) fun w zs h2 h3 hz => ?_
    simp
    exact ⟨by omega, zs, v, v + w, ⟨h0, by omega, by omega⟩, ⟨rfl, rfl⟩, hz⟩
  · rw [rng_len] at hl
    simp
    exact q _ by_ ⟨L', rfl, by simp at hl; omega, hL⟩ hb'
theorem put_self : ∀ (r : Env) (v : Nat), put r v (sl r v) = r
  | [], _ => rfl
  | _ :: _, 0 => rfl
  | s :: r, v + 1 => congrArg (s :: ·) (put_self r v)
theorem back_self (r : Env) : ∀ vs : List Nat, back r r vs = r
  | [] => rfl
  | v :: vs => by unfold back; rw [back_self r vs, put_self]
/-- a comprehension with draws: the box stands first -/
theorem lc_draw {α T : Type} {vs : List Nat} {it : DI} {g : DG} {a : DE} {r : Env} {bx : List D} {L : List T} {enc : T → D} {en : α → D} {P : T → α → Prop} {c n : Nat} (hi : it (.bor bx :: r) = .ok (L.map enc) (.bor bx :: r)) (hv0 : 0 ∉ vs) (hv : (vs.any fun v => isOwn (sl (.bor bx :: r) v)) = false) (hl : L.length ≤ 100000) (hb : Bx (n + c * L.length) bx)
    (hw : ∀ b1, wipeE (.bor b1 :: r) vs = .bor b1 :: r) (h : ∀ (y : T) (k : Nat) (b1 : List D), y ∈ L → Bx (k + c) b1 → Wn (g (enc y)) (.bor b1 :: r) (fun _ e1 => Wn a e1 (fun d e2 => ∃ b2 z, d = en z ∧ P y z ∧ wipeE e2 vs = .bor b2 :: r ∧ Bx k b2) NoE) NoE) :
    ∃ (zs : List α) (b2 : List D), eLc vs it g tYes a (.bor bx :: r) = .ok (.lst (zs.map en)) (.bor b2 :: r) ∧ zs.length = L.length ∧ (∀ z ∈ zs, ∃ y ∈ L, P y z) ∧ Bx n b2 := by
  have key : ∀ (L : List T) (bx : List D) (n : Nat), Bx (n + c * L.length) bx → (∀ (y : T) (k : Nat) (b1 : List D), y ∈ L → Bx (k + c) b1 → Wn (g (enc y)) (.bor b1 :: r) (fun _ e1 => Wn a e1 (fun d e2 => ∃ b2 z, d = en z ∧ P y z ∧ wipeE e2 vs = .bor b2 :: r ∧ Bx k b2) NoE) NoE) →
      ∀ e0, ∃ (zs : List α) (b2 : List D), compL vs e0 g tYes a (L.map enc) (.bor bx :: r) = .ok (zs.map en) (.bor b2 :: r) ∧ zs.length = L.length ∧ (∀ z ∈ zs, ∃ y ∈ L, P y z) ∧ Bx n b2 := by
    intro L
    induction L with
    | nil => intro bx n hb _ e0; exact ⟨[], bx, rfl, rfl, by simp, hb⟩
    | cons y L ih =>
      intro bx n hb h e0
      have h1 := h y (n + c * L.length) bx List.mem_cons_self (hb.le (by rw [List.length_cons, Nat.mul_succ]; omega))
      unfold Wn at h1
      cases q1 : g (enc y) (.bor bx :: r) with
      | ok u e1 =>
        rw [q1] at h1
        simp only at h1
        cases q2 : a e1 with
        | ok d e2 =>
          rw [q2] at h1
          simp only at h1
          obtain ⟨b2, z, rfl, hp, hw2, hb2⟩ := h1
          obtain ⟨zs, b3, k1, k2, k3, k4⟩ := ih b2 n hb2 (fun y k b1 hy => h y k b1 (List.mem_cons_of_mem _ hy)) e0
          refine ⟨z :: zs, b3, ?_, by rw [List.length_cons, List.length_cons, k2], fun w hw => ?_, k4⟩
          · rw [List.map_cons]
            unfold compL
            rw [bind_ok q1]
            show M.bind (M.pure true) _ e1 = _
            rw [bind_ok (m := M.pure true) rfl]
            simp only [if_true]
            rw [bind_ok (a := [en z]) (e1 := e2) (by rw [bind_ok q2]; rfl), hw2, bind_ok k1]
            rfl
          · rcases List.mem_cons.mp hw with rfl | hw
            · exact ⟨y, List.mem_cons_self, hp⟩
            · obtain ⟨y', hy', hp'⟩ := k3 w hw
              exact ⟨y', List.mem_cons_of_mem _ hy', hp'⟩
        | ex _ _ _ => rw [q2] at h1; exact h1.elim
        | bad => rw [q2] at h1; exact h1.elim
      | ex _ _ _ => rw [q1] at h1; exact h1.elim
      | bad => rw [q1] at h1; exact h1.elim
  obtain ⟨zs, b2, k1, k2, k3, k4⟩ := key L bx n hb h (.bor bx :: r)
  refine ⟨zs, b2, ?_, k2, k3, k4⟩
  unfold eLc
  rw [bind_ok hi]
  have hl' : lenOk (L.map enc).length = true := by rw [List.length_map]; exact decide_eq_true hl
  simp only [hv, hl', Bool.not_true, Bool.or_self]
  unfold noX
  rw [hw bx, k1]
  show R.ok (D.lst (zs.map en)) (back (.bor bx :: r) (.bor b2 :: r) vs) = _
  have e : ∀ vs : List Nat, 0 ∉ vs → back (.bor bx :: r) (.bor b2 :: r) vs = .bor b2 :: back r r (vs.map (· - 1)) := by
    intro vs
    induction vs with
    | nil => intro _; rfl
    | cons v vs ih =>
      intro h0
      rw [List.mem_cons, not_or] at h0
      rw [List.map_cons]
      unfold back
      rw [ih h0.2]
      cases v with
      | zero => exact absurd rfl h0.1
      | succ v => rfl
  rw [e vs hv0, back_self]
theorem amid_ok {n : Nat} {xs : List D} {rs : List (Int × Int)} {t : Int} {Q : D → List (List D) → Prop} {E : Str → List D → List (List D) → Prop} (hl : rs.length ≤ 1000) (hr : ∀ r ∈ rs, 0 ≤ r.1 ∧ r.1 ≤ r.2 ∧ r.2 ≤ t) (ht : t < 2 ^ 139) (hb : Bx (n + 1 * rs.length) xs) (q : ∀ d ys, Row rs.length t d → Bx n ys → Q d [ys]) : WF (f_law_amid [.lst xs, .tup (rs.map encR)]) Q E := by
  rw [f_law_amid, wf_mkF rfl]
  simp only [startE, m_law_amid]
  obtain ⟨zs, b2, h1, h2, h3, h4⟩ := lc_draw (α := Int) (T := Int × Int) (vs := [2, 3]) (it := iSeq (eVar 1)) (g := gT (gsCons (gN 2) (gsCons (gN 3) gsNil))) (a := e2 dAdd (eVar 2) (eCall f_law_take [.lend 0, .e (e2 dAdd (e2 dSub (eVar 3) (eVar 2)) (eC (.int 1)))])) (r := [.val (.tup (rs.map encR)), .no, .no]) (bx := xs) (L := rs) (enc := encR) (en := D.int) (P := fun _ z => 0 ≤ z ∧ z ≤ t) (c := 1) (n := n) rfl (by simp) rfl (by omega) hb (fun _ => rfl) (fun y k b1 hy hb1 => by
    obtain ⟨r0, r1, r2⟩ := hr y hy
    simp only [encR, wn_gT, wl_tup, wn_gsCons, wn_gN, x_slS, x_sl0, x_isOwn1, true_and, x_putS, x_put0, wn_gsNil, wn_e2, wn_var, ws_val]
    refine wn_take (b := y.2 - y.1 + 1) rfl hb1 (by omega) (by omega) fun v ys v0 v1 hy2 => ?_
    simp only [dAdd_int, wr_ok]
    exact ⟨ys, y.1 + v, rfl, ⟨by omega, by omega⟩, rfl, hy2⟩)
  have e : c_law_amid_1 [.bor xs, .val (.tup (rs.map encR)), .no, .no] = .ok (.lst (zs.map D.int)) [.bor b2, .val (.tup (rs.map encR)), .no, .no] := h1
  simp [wn_eq e]
  exact q _ b2 ⟨zs, rfl, h2, fun z hz => by obtain ⟨y, hy, hp⟩ := h3 z hz; exact hp⟩ h4
end AH
namespace AH
open PySem L2
variable [TheK]
@[simp] theorem wn_inR1 {neg : Bool} {a b : DE} {e : Env} {Q : Bool → Env → Prop} {E : Str → List D → Env → Prop} : Wn (tInR1 neg a b) e Q E = Wn a e (fun x e1 => Wn b e1 (fun y e2 => WR (dInR neg x (.int 0) y) fun k => Q k e2) E) E := by simp only [tInR1, wn_bind, wn_of]
@[simp] theorem wn_inR2 {neg : Bool} {a b c : DE} {e : Env} {Q : Bool → Env → Prop} {E : Str → List D → Env → Prop} : Wn (tInR2 neg a b c) e Q E = Wn a e (fun x e1 => Wn b e1 (fun y e2 => Wn c e2 (fun z e3 => WR (dInR neg x y z) fun k => Q k e3) E) E) E := by simp only [tInR2, wn_bind, wn_of]
@[simp] theorem dInR_int {neg : Bool} {i l h : Int} : dInR neg (.int i) (.int l) (.int h) = .ok (neg != decide (l ≤ i ∧ i < h)) := nr rfl
@[simp] theorem wn_lRng1 {a : DE} {e : Env} {Q : D → Env → Prop} {E : Str → List D → Env → Prop} : Wn (lRng1 a) e Q E = Wn a e (fun x e1 => WI x fun k => (rngOk 0 k = true ∧ k ≤ 100000) ∧ Q (.lst (rng 0 k)) e1) E := by
  simp only [lRng1, wn_bind]
  congr 1; funext x e1
  cases x with
  | int k =>
    simp only [wi_int, wn_ite, wn_pure, wn_bad]
    cases rngOk 0 k <;> by_cases h : k ≤ 100000 <;> simp [h]
  | _ => unfold Wn; rfl
@[simp] theorem wn_lRng2 {a b : DE} {e : Env} {Q : D → Env → Prop} {E : Str → List D → Env → Prop} : Wn (lRng2 a b) e Q E = Wn a e (fun x e1 => Wn b e1 (fun y e2 => WI x fun k => WI y fun l => (rngOk k l = true ∧ l - k ≤ 100000) ∧ Q (.lst (rng k l)) e2) E) E := by
  simp only [lRng2, wn_bind]
  congr 1; funext x e1
  congr 1; funext y e2
  cases x with
  | int k => cases y with
    | int l =>
      simp only [wi_int, wn_ite, wn_pure, wn_bad]
      cases rngOk k l <;> by_cases h : l - k ≤ 100000 <;> simp [h]
    | _ => unfold Wn; rfl
  | _ => unfold Wn; rfl
@[simp] theorem wn_callK {f : DF} {ix : List Nat} {a : DL} {e : Env} {Q : D → Env → Prop} {E : Str → List D → Env → Prop} : Wn (eCallK f ix a) e Q E = Wn a e (fun ds e1 => WF (f (perm ix ds)) (fun d bs => bs = [] ∧ Q d e1) (fun c fs bs => bs = [] ∧ E c fs e1)) E := by
  simp only [eCallK, wn_bind]
  congr 1; funext ds e1
  unfold Wn
  cases f (perm ix ds) with
  | ok d bs => cases bs <;> simp
  | ex c fs bs => cases bs <;> simp
  | bad => simp
@[simp] theorem perm_nil {α : Type} {l : List α} : perm [] l = [] := rfl
@[simp] theorem perm_cons {α : Type} {l : List α} {i : Nat} {ix : List Nat} : perm (i :: ix) l = (match l[i]? with | some x => x :: perm ix l | none => perm ix l) := by
  unfold perm
  rw [List.filterMap_cons]
  cases l[i]? <;> rfl
/-! ### stretches -/
theorem chk_in {h a b : Int} (h0 : 0 ≤ a) (h1 : a ≤ b) (h2 : b < h) : f_check_stretch [.int h, .int a, .int b] = .ok .non [] := by
  refine WF.eq ?_
  rw [f_check_stretch, wf_mkF rfl]
  simp [startE, m_check_stretch, h0, h1, h2]
theorem chk_out {h a b : Int} (h0 : ¬ (0 ≤ a ∧ a ≤ b ∧ b < h)) : f_check_stretch [.int h, .int a, .int b] = .ex "NoStretch" [.int a, .int b] [] := by
  refine WF.ex_eq ?_
  rw [f_check_stretch, wf_mkF rfl]
  simp [startE, m_check_stretch]
  by_cases c1 : 0 ≤ a
  · by_cases c2 : a ≤ b
    · have c3 : ¬ b < h := fun z => h0 ⟨c1, c2, z⟩
      simp [c1, c2, c3, lentOf]
      omega
    · simp [c1, c2, lentOf]
  · simp [c1, lentOf]
@[simp] theorem xa_ns1 {x y : D} : dXa "first" (.exc "NoStretch" [] [x, y]) = .ok x := rfl
@[simp] theorem xa_ns2 {x y : D} : dXa "last" (.exc "NoStretch" [] [x, y]) = .ok y := rfl
@[simp] theorem xa_tf1 {x y : D} : dXa "first" (.exc "TooFew" [] [x, y]) = .ok x := rfl
@[simp] theorem xa_tf2 {x y : D} : dXa "last" (.exc "TooFew" [] [x, y]) = .ok y := rfl
@[simp] theorem xa_nh {x : D} : dXa "hour" (.exc "NoHour" [] [x]) = .ok x := rfl
@[simp] theorem xa_bl {x : D} : dXa "number" (.exc "BadLine" [] [x]) = .ok x := rfl
@[simp] theorem isx_ns {fs : List D} : dIsX false (.exc "NoStretch" [] fs) = .ok (.bl true) := rfl
@[simp] theorem isx_nh {fs : List D} : dIsX false (.exc "NoHour" [] fs) = .ok (.bl true) := rfl
@[simp] theorem isx_tf {fs : List D} : dIsX true (.exc "TooFew" [] fs) = .ok (.bl true) := rfl
@[simp] theorem isx_bl {fs : List D} : dIsX true (.exc "BadLine" [] fs) = .ok (.bl true) := rfl
@[simp] theorem isx_ul {fs : List D} : dIsX true (.exc "Unlike" [] fs) = .ok (.bl true) := rfl
@[simp] theorem isx_uf {fs : List D} : dIsX true (.exc "Unfit" [] fs) = .ok (.bl true) := rfl
@[simp] theorem isx_nm {fs : List D} : dIsX true (.exc "NoMove" [] fs) = .ok (.bl true) := rfl
def spansL (s : Int) : List (Int × Int) := (intsR 0 s).flatMap fun a => (intsR a s).map fun b => (a, b)
theorem mem_spansL {s : Int} {p : Int × Int} : p ∈ spansL s ↔ 0 ≤ p.1 ∧ p.1 ≤ p.2 ∧ p.2 < s := by
  unfold spansL
  rw [List.mem_flatMap]
  constructor
  · rintro ⟨a, ha, hp⟩
    obtain ⟨b, hb, rfl⟩ := List.mem_map.mp hp
    rw [mem_intsR] at ha hb
    exact ⟨ha.1, hb.1, hb.2⟩
  · rintro ⟨h0, h1, h2⟩
    exact ⟨p.1, mem_intsR.mpr ⟨h0, by omega⟩, List.mem_map.mpr ⟨p.2, mem_intsR.mpr ⟨h1, h2⟩, rfl⟩⟩
theorem flat_len {α β : Type} {f : α → List β} {m : Nat} : ∀ {L : List α}, (∀ x ∈ L, (f x).length ≤ m) → (L.flatMap f).length ≤ L.length * m
  | [], _ => by simp
  | x :: L, h => by
    have h1 := h x List.mem_cons_self
    have h2 := flat_len (L := L) fun y hy => h y (List.mem_cons_of_mem _ hy)
    rw [List.flatMap_cons, List.length_append, List.length_cons, Nat.succ_mul]
    omega
theorem spansL_len {s : Int} (h : 0 ≤ s) : (spansL s).length ≤ s.toNat * s.toNat := by
  have := flat_len (L := intsR 0 s) (f := fun a => (intsR a s).map fun b => (a, b)) (m := s.toNat) fun x hx => by
    have := mem_intsR.mp hx
    rw [List.length_map, intsR_len]
    omega
  rw [intsR_len] at this
  have e : (s - 0).toNat = s.toNat := by rw [Int.sub_zero]
  rw [e] at this
  exact this
theorem spans_ok {s : Int} (h0 : 0 ≤ s) (h1 : s ≤ 100) : f_law_spans [.int s] = .ok (.lst ((spansL s).map encR)) [] := by
  have sq : s.toNat * s.toNat ≤ 10000 := Nat.mul_le_mul (show s.toNat ≤ 100 by omega) (show s.toNat ≤ 100 by omega)
  have pre : ∀ (L : List Int) (M : List Int), M ++ L = intsR 0 s → ((M.flatMap fun a => (intsR a s).map fun b => (a, b)).length ≤ 10000) := fun L M e => by
    have : (spansL s).length ≤ 10000 := Nat.le_trans (spansL_len h0) sq
    unfold spansL at this
    rw [← e, List.flatMap_append, List.length_append] at this
    omega
  have key : ∀ (L M : List Int), M ++ L = intsR 0 s → loop (gN 2) b_law_spans_1 (L.map D.int) [.val (.int s), .val (.lst ((M.flatMap fun a => (intsR a s).map fun b => (a, b)).map encR)), .no, .no] = .ok .nx [.val (.int s), .val (.lst ((spansL s).map encR)), .no, .no] := by
    intro L
    induction L with
    | nil =>
      intro M e
      rw [List.append_nil] at e
      subst e
      rfl
    | cons x L ih =>
      intro M e
      rw [List.map_cons]
      have hx : 0 ≤ x ∧ x < s := mem_intsR.mp (by rw [← e]; simp)
      have ih := ih (M ++ [x]) (by rw [List.append_assoc]; exact e)
      have pl := pre L (M ++ [x]) (by rw [List.append_assoc]; exact e)
      rw [loop_cons (e' := [.val (.int s), .val (.lst (((M ++ [x]).flatMap fun a => (intsR a s).map fun b => (a, b)).map encR)), .no, .no]), ih]
      have lc : c_law_spans_1 [.val (.int s), .val (.lst ((M.flatMap fun a => (intsR a s).map fun b => (a, b)).map encR)), .val (.int x), .no] = .ok (.lst ((intsR x s).map fun b => encR (x, b))) [.val (.int s), .val (.lst ((M.flatMap fun a => (intsR a s).map fun b => (a, b)).map encR)), .val (.int x), .no] := by
        unfold c_law_spans_1
        refine lc_map (L := intsR x s) (enc := D.int) (fun b => encR (x, b)) ?_ rfl (by rw [intsR_len]; omega) fun y hy => ?_
        · refine Wn.eq ?_
          simp [rng_eq]
          omega
        · simp [wipeE, encR]
      have ee : ((M ++ [x]).flatMap fun a => (intsR a s).map fun b => (a, b)).map encR = (M.flatMap fun a => (intsR a s).map fun b => (a, b)).map encR ++ (intsR x s).map fun b => encR (x, b) := by
        rw [List.flatMap_append, List.map_append]
        congr 1
        simp [Function.comp_def]
      have ln : ((M.flatMap fun a => (intsR a s).map fun b => (a, b)).map encR).length + ((intsR x s).map fun b => encR (x, b)).length ≤ 100000 := by
        have := congrArg List.length ee
        rw [List.length_append, List.length_map] at this
        omega
      rw [ee]
      unfold b_law_spans_1
      simp only [wn_gN, x_slS, x_sl0, x_isOwn1, true_and, x_putS, x_put0, wn_sFg, wn_sAsgN, wn_e2, wn_var, ws_val, wn_eq lc, dAdd_lst, lenOk_iff.mpr ln, if_true, wr_ok, x_isFix1, wo_nx]
      simp
  have k0 := key (intsR 0 s) [] rfl
  refine WF.eq ?_
  rw [f_law_spans, wf_mkF rfl]
  simp only [startE, m_law_spans, wn_seq]
  simp [l_law_spans_1, rng_eq]
  refine ⟨by omega, ?_⟩
  have k0 : loop (gN 2) b_law_spans_1 ((intsR 0 s).map D.int) [.val (.int s), .val (.lst []), .no, .no] = .ok .nx [.val (.int s), .val (.lst ((spansL s).map encR)), .no, .no] := k0
  rw [wn_eq k0]
  simp
/-! ### rows, by index -/
def sq (k : Bool) (xs : List D) : D := if k then .tup xs else .lst xs
@[simp] theorem seqD_sq {k : Bool} {xs : List D} : seqD (sq k xs) = some xs := by cases k <;> rfl
@[simp] theorem dLen_sq {k : Bool} {xs : List D} : dLen (sq k xs) = .ok (.int xs.length) := by cases k <;> rfl
@[simp] theorem wl_sq {k : Bool} {xs : List D} {Q : List D → Prop} : WL (sq k xs) Q = Q xs := by cases k <;> rfl
@[simp] theorem dSl_sq {k : Bool} {xs : List D} {l h : Option Int} : dSl (sq k xs) l h = .ok (sq k (cut xs l h)) := by cases k <;> rfl
@[simp] theorem dSumA_sq {k : Bool} {ns : List Int} : dSumA (sq k (ns.map D.int)) = .ok (.int ns.sum) := by cases k <;> simp [sq]
@[simp] theorem dIx_sq {k : Bool} {xs : List D} {i : Int} : dIx (sq k xs) (.int i) = (match atI xs i with | some v => .ok v | none => .bad) := by cases k <;> rfl
@[simp] theorem dList_sq {k : Bool} {xs : List D} : dList (sq k xs) = .ok (.lst xs) := by cases k <;> rfl
@[simp] theorem dTuple_sq {k : Bool} {xs : List D} : dTuple (sq k xs) = .ok (.tup xs) := by cases k <;> rfl
theorem sq_true {xs : List D} : sq true xs = .tup xs := rfl
theorem sq_false {xs : List D} : sq false xs = .lst xs := rfl
def getI (ns : List Int) (i : Int) : Int := ns.getD i.toNat 0
theorem atI_ints {ns : List Int} {i : Int} (h0 : 0 ≤ i) (h1 : i < ns.length) : atI (ns.map D.int) i = some (.int (getI ns i)) := by
  obtain ⟨k, rfl⟩ : ∃ k : Nat, i = k := ⟨i.toNat, by omega⟩
  rw [atI_nat (by rw [List.length_map]; omega), List.getElem_map]
  unfold getI
  rw [Int.toNat_natCast, List.getD_eq_getElem?_getD, List.getElem?_eq_getElem (by omega)]
  rfl
theorem sIx_in {n d : Nat} {i : Int} (h0 : 0 ≤ i) (h1 : i ≤ n) : HT.sIx n d (some i) = i.toNat := by
  unfold HT.sIx
  simp only
  split <;> omega
theorem cut_get {ns : List Int} {a b : Int} (h0 : 0 ≤ a) (h1 : a ≤ b) (h2 : b ≤ ns.length) : cut ns (some a) (some b) = (intsR a b).map (getI ns) := by
  unfold cut
  rw [sIx_in h0 (by omega), sIx_in (by omega) h2]
  apply List.ext_getElem
  · rw [List.length_take, List.length_drop, List.length_map, intsR_len]
    omega
  · intro i q1 q2
    rw [List.getElem_take, List.getElem_drop, List.getElem_map]
    unfold getI intsR
    rw [List.getElem_map, List.getElem_range]
    rw [List.length_take, List.length_drop] at q1
    rw [List.getD_eq_getElem?_getD, List.getElem?_eq_getElem (by omega)]
    show ns[a.toNat + i] = ns[(a + (i : Int)).toNat]
    congr 1
    omega
theorem hin_ok {k : Bool} {ns : List Int} {a b : Int} (h0 : 0 ≤ a) (h1 : a ≤ b) (h2 : b < ns.length) : f_hands_in [sq k (ns.map D.int), .int a, .int b] = .ok (.int ((intsR a (b + 1)).map (getI ns)).sum) [] := by
  refine WF.eq ?_
  rw [f_hands_in, wf_mkF rfl]
  have c := chk_in h0 h1 h2
  simp [startE, m_hands_in, wn_seq, c, cut_ints, cut_get h0 (show a ≤ b + 1 by omega) (show b + 1 ≤ ns.length by omega)]
  have := dSumA_sq (k := k) (ns := (intsR a (b + 1)).map (getI ns))
  rw [List.map_map] at this
  simp [this]
theorem hin_out {k : Bool} {ns : List Int} {a b : Int} (h : ¬ (0 ≤ a ∧ a ≤ b ∧ b < ns.length)) : f_hands_in [sq k (ns.map D.int), .int a, .int b] = .ex "NoStretch" [.int a, .int b] [] := by
  refine WF.ex_eq ?_
  rw [f_hands_in, wf_mkF rfl]
  have c := chk_out h
  simp [startE, m_hands_in, wn_seq, c, lentOf]
/-- a loop each of whose turns leaves all as it was -/
theorem wn_each {g : DG} {b : DS} {e : Env} {Q : Out → Env → Prop} {E : Str → List D → Env → Prop} : ∀ {xs : List D}, (∀ x ∈ xs, Wn (g x) e (fun _ e1 => Wn b e1 (fun o e2 => o = .nx ∧ e2 = e) NoE) NoE) → Q .nx e → Wn (loop g b xs) e Q E
  | [], _, q => by rw [wn_loop_nil]; exact q
  | x :: xs, h, q => by
    unfold loop
    rw [wn_bind]
    refine (h x List.mem_cons_self).imp (fun _ e1 h1 => ?_) fun _ _ _ z => z.elim
    rw [wn_bind]
    refine h1.imp (fun o e2 h2 => ?_) fun _ _ _ z => z.elim
    obtain ⟨rfl, rfl⟩ := h2
    exact wn_each (fun y hy => h y (List.mem_cons_of_mem _ hy)) q
/-- the box is lent, an argument draws from it -/
theorem lend3w {f : DF} {a b : DE} {xs : List D} {e : Env} {x : D} {Q : D → Env → Prop} {E : Str → List D → Env → Prop} (ha : a (.bor xs :: e) = .ok x (.bor xs :: e))
    (hb : Wn b (.bor xs :: e) (fun y e1 => ∃ xs', e1 = .bor xs' :: e ∧ WF (f [.lst xs', x, y]) (fun d bs => ∃ ys, bs = [ys] ∧ Q d (.bor ys :: e)) (fun c fs bs => ∃ ys, bs = [ys] ∧ E c fs (.bor ys :: e))) E) : Wn (eCall f [.lend 0, .e a, .e b]) (.bor xs :: e) Q E := by
  rw [wn_call]
  simp only [argsV, wn_bind, wn_pure, wn_tmp, x_sl0, wt_bor, wn_eq ha]
  refine hb.imp fun y e1 h => ?_
  obtain ⟨xs', rfl, h⟩ := h
  simp only [x_sl0, lends, List.all_cons, List.all_nil, Bool.and_true, isL, true_and, argsD, argD, slD]
  refine h.imp (fun d bs h => ?_) fun c fs bs h => ?_
  · obtain ⟨ys, rfl, h⟩ := h
    simp [giveBack]
    exact h
  · obtain ⟨ys, rfl, h⟩ := h
    simp [giveBack]
    exact h
theorem pow40 : dPow (.int 10) (.int 40) = .ok (.int (10000000000000000000000000000000000000000)) := by kernel_rfl
theorem eqvL_refl {xs : List D} (h : ∀ x ∈ xs, D.eqv x x = true) : D.eqvL xs xs = true := by
  induction xs with
  | nil => rfl
  | cons x xs ih =>
    show (D.eqv x x && D.eqvL xs xs) = true
    rw [h x List.mem_cons_self, ih fun y hy => h y (List.mem_cons_of_mem _ hy)]
    rfl
theorem eqv_refl : ∀ {n : Nat} {d : D}, d.sm n = true → D.eqv d d = true := by
  intro n
  induction n with
  | zero =>
    intro d h
    cases d with
    | str s => show (s == s) = true; simp
    | int i => show (i == i) = true; simp
    | bl b => show (b == b) = true; simp
    | non => rfl
    | _ => cases h
  | succ n ih =>
    intro d h
    cases d with
    | str s => show (s == s) = true; simp
    | int i => show (i == i) = true; simp
    | bl b => show (b == b) = true; simp
    | non => rfl
    | tup xs => exact eqvL_refl fun x hx => ih ((sm_tup.mp h).2 x hx)
    | lst xs => exact eqvL_refl fun x hx => ih ((sm_lst.mp h).2 x hx)
    | _ => cases h
theorem dEq_self {n : Nat} {d : D} (h : d.sm n = true) (hn : n ≤ 40) : dEq d d = .ok true := by
  unfold dEq
  rw [sm_plain h hn, eqv_refl h]
  rfl
theorem dNe_self {n : Nat} {d : D} (h : d.sm n = true) (hn : n ≤ 40) : dNe d d = .ok false := by
  unfold dNe
  rw [sm_plain h hn, eqv_refl h]
  rfl
theorem sm_row {ns : List Int} {k : Bool} (h : ns.length ≤ 1000) : (sq k (ns.map D.int)).sm 1 = true := by
  have : ∀ x ∈ ns.map D.int, x.sm 0 = true := fun x hx => by
    obtain ⟨r, _, rfl⟩ := List.mem_map.mp hx
    rfl
  cases k
  · exact sm_lst.mpr ⟨by rw [List.length_map]; omega, this⟩
  · exact sm_tup.mpr ⟨by rw [List.length_map]; omega, this⟩
theorem dEq_nilL {n : Nat} {xs : List D} (h : (D.lst xs).sm n = true) (hn : n ≤ 40) : dEq (.lst xs) (.lst []) = .ok xs.isEmpty := by
  have h1 : D.plain 40 (.lst xs) = true := sm_plain h hn
  have h2 : D.plain 40 (.lst []) = true := rfl
  have h3 : D.eqv (.lst xs) (.lst []) = xs.isEmpty := by cases xs <;> rfl
  unfold dEq
  rw [h1, h2, h3]
  rfl
end AH
namespace AH
open PySem L2
variable [TheK]
/-! ### comprehensions over two sources -/
theorem compL_map {T : Type} {vs : List Nat} {e0 e : Env} {g : DG} {t : DT} {a : DE} {enc : T → D} (p : T → Bool) (f : T → D) : ∀ {L : List T}, (∀ y ∈ L, Wn (g (enc y)) e (fun _ e1 => wipeE e1 vs = e ∧ Wn t e1 (fun k e2 => k = p y ∧ e2 = e1) NoE ∧ (p y = true → Wn a e1 (fun d e2 => d = f y ∧ e2 = e1) NoE)) NoE) → compL vs e0 g t a (L.map enc) e = .ok ((L.filter p).map f) e := by
  intro L
  induction L with
  | nil => intro _; rfl
  | cons y L ih =>
    intro h
    have h1 := h y List.mem_cons_self
    have ih := ih fun z hz => h z (List.mem_cons_of_mem _ hz)
    refine Wn.eq ?_
    rw [List.map_cons]
    unfold compL
    show Wn (M.bind _ _) _ _ _
    rw [wn_bind]
    refine h1.imp fun _ e1 h2 => ?_
    obtain ⟨hw, ht, ha⟩ := h2
    rw [wn_bind]
    refine ht.imp fun k e2 hk => ?_
    obtain ⟨rfl, rfl⟩ := hk
    rw [wn_bind]
    cases hp : p y with
    | false =>
      simp only [Bool.false_eq_true, if_false, wn_pure]
      rw [wn_wipe, wn_bind, hw, wn_eq ih]
      simp [hp]
    | true =>
      simp only [if_true, wn_bind, wn_pure]
      refine (ha hp).imp fun d e3 hd => ?_
      obtain ⟨rfl, rfl⟩ := hd
      rw [wn_wipe, wn_bind, hw, wn_eq ih]
      simp [hp]
theorem lc2_map {T U : Type} {vs vs1 : List Nat} {it it1 : DI} {g g1 : DG} {t t1 : DT} {a : DE} {e : Env} {L : List T} {L1 : T → List U} {enc : T → D} {enc1 : U → D} (q : T → Bool) (p : T → U → Bool) (f : T → U → D) (hi : it e = .ok (L.map enc) e) (hv : (vs.any fun v => isOwn (sl e v)) = false) (hl : len2Ok L.length = true)
    (h : ∀ y ∈ L, Wn (g (enc y)) (wipeE e vs) (fun _ e1 => Wn t e1 (fun k e2 => k = q y ∧ e2 = e1) NoE ∧ (q y = false → wipeE e1 vs = wipeE e vs) ∧ (q y = true → (vs1.any fun v => isOwn (sl e1 v)) = false ∧ wipeE (wipeE e1 vs1) vs = wipeE e vs ∧ len2Ok (L1 y).length = true ∧ it1 e1 = .ok ((L1 y).map enc1) e1 ∧
      ∀ z ∈ L1 y, Wn (g1 (enc1 z)) (wipeE e1 vs1) (fun _ e2 => wipeE e2 vs1 = wipeE e1 vs1 ∧ Wn t1 e2 (fun k e3 => k = p y z ∧ e3 = e2) NoE ∧ (p y z = true → Wn a e2 (fun d e3 => d = f y z ∧ e3 = e2) NoE)) NoE)) NoE) :
    eLc2 vs vs1 it g t it1 g1 t1 a e = .ok (.lst ((L.filter q).flatMap fun y => ((L1 y).filter (p y)).map (f y))) e := by
  have key : ∀ L : List T, (∀ y ∈ L, Wn (g (enc y)) (wipeE e vs) (fun _ e1 => Wn t e1 (fun k e2 => k = q y ∧ e2 = e1) NoE ∧ (q y = false → wipeE e1 vs = wipeE e vs) ∧ (q y = true → (vs1.any fun v => isOwn (sl e1 v)) = false ∧ wipeE (wipeE e1 vs1) vs = wipeE e vs ∧ len2Ok (L1 y).length = true ∧ it1 e1 = .ok ((L1 y).map enc1) e1 ∧
      ∀ z ∈ L1 y, Wn (g1 (enc1 z)) (wipeE e1 vs1) (fun _ e2 => wipeE e2 vs1 = wipeE e1 vs1 ∧ Wn t1 e2 (fun k e3 => k = p y z ∧ e3 = e2) NoE ∧ (p y z = true → Wn a e2 (fun d e3 => d = f y z ∧ e3 = e2) NoE)) NoE)) NoE) →
      compL2 vs vs1 g t it1 g1 t1 a (L.map enc) (wipeE e vs) = .ok ((L.filter q).flatMap fun y => ((L1 y).filter (p y)).map (f y)) (wipeE e vs) := by
    intro L
    induction L with
    | nil => intro _; rfl
    | cons y L ih =>
      intro h
      have h1 := h y List.mem_cons_self
      have ih := ih fun z hz => h z (List.mem_cons_of_mem _ hz)
      refine Wn.eq ?_
      rw [List.map_cons]
      unfold compL2
      rw [wn_bind]
      refine h1.imp fun _ e1 h2 => ?_
      obtain ⟨ht, hno, hyes⟩ := h2
      rw [wn_bind]
      refine ht.imp fun k e2 hk => ?_
      obtain ⟨rfl, rfl⟩ := hk
      rw [wn_bind]
      cases hp : q y with
      | false =>
        simp only [Bool.false_eq_true, if_false, wn_pure]
        rw [wn_wipe, wn_bind, hno hp, wn_eq ih]
        simp [hp]
      | true =>
        obtain ⟨v1, w1, l1, i1, z1⟩ := hyes hp
        simp only [if_true, wn_bind, wn_eq i1]
        have l1' : len2Ok ((L1 y).map enc1).length = true := by rw [List.length_map]; exact l1
        have c := compL_map (e0 := e2) (p y) (f y) z1
        have c2 : (fun e => if (vs1.any fun v => isOwn (sl e v)) || !len2Ok ((L1 y).map enc1).length then .bad else compL vs1 e g1 t1 a ((L1 y).map enc1) (wipeE e vs1) : M (List D)) e2 = .ok (((L1 y).filter (p y)).map (f y)) (wipeE e2 vs1) := by
          simp only [v1, l1', Bool.not_true, Bool.or_self, Bool.false_eq_true, if_false]
          exact c
        rw [wn_eq c2, wn_wipe, wn_bind, w1, wn_eq ih]
        simp [hp]
  unfold eLc2
  rw [bind_ok hi]
  have hl' : len2Ok (L.map enc).length = true := by rw [List.length_map]; exact hl
  simp only [hv, hl', Bool.not_true, Bool.or_self]
  unfold noX
  rw [key L h]
  show R.ok (D.lst _) (back e (wipeE e vs) vs) = _
  rw [back_wipe]
theorem len2_ok {n : Nat} (h : n ≤ 1000) : len2Ok n = true := decide_eq_true (by omega)
/-! ### all stretches -/
theorem str_ok {s : Int} (h0 : 0 ≤ s) (h1 : s ≤ 100) : f_all_stretches [.int s] = .ok (.lst ((spansL s).map encR)) [] := by
  have lc : c_all_stretches_1 [.val (.int s), .no, .no] = .ok (.lst ((spansL s).map encR)) [.val (.int s), .no, .no] := by
    unfold c_all_stretches_1
    have := lc2_map (T := Int) (U := Int) (vs := [1, 2]) (vs1 := [2]) (it := iRng1 (eVar 0)) (it1 := iRng2 (eVar 1) (eVar 0)) (g := gN 1) (g1 := gN 2) (t := tYes) (t1 := tYes) (a := eTup (aCons (eVar 1) (aCons (eVar 2) aNil))) (e := [.val (.int s), .no, .no]) (L := intsR 0 s) (L1 := fun a => intsR a s) (enc := D.int) (enc1 := D.int) (fun _ => true) (fun _ _ => true) (fun a b => encR (a, b))
      (Wn.eq (by simp [rng_eq]; omega)) rfl (len2_ok (by rw [intsR_len]; omega)) fun y hy => by
        have hy := mem_intsR.mp hy
        simp only [wn_gN, wipeE, x_slS, x_sl0, x_isOwn1, true_and, x_putS, x_put0]
        exact ⟨(wn_eq rfl).mpr ⟨rfl, rfl⟩, fun _ => trivial, fun _ => ⟨rfl, len2_ok (by rw [intsR_len]; omega), Wn.eq (by simp [rng_eq]; omega), fun z hz => ⟨(wn_eq rfl).mpr ⟨rfl, rfl⟩, fun _ => by simp [encR]⟩⟩⟩
    rw [this]
    congr 2
    unfold spansL
    rw [List.map_flatMap, List.filter_eq_self.mpr fun _ _ => rfl]
    congr 1
    funext a
    rw [List.filter_eq_self.mpr fun _ _ => rfl, List.map_map]
    rfl
  refine WF.eq ?_
  rw [f_all_stretches, wf_mkF rfl]
  simp [startE, m_all_stretches, wn_eq lc]
end AH
namespace AH
open PySem L2
variable [TheK]
/-! ### lots -/
abbrev Er := (Int × Int) × Int
def encE (k : Bool) (it : Er) : D := sq k [sq k [.int it.1.1, .int it.1.2], .int it.2]
def lotD (k : Bool) (s : Int) (its : List Er) : D := sq k [.int s, sq k (its.map (encE k))]
structure Lot (s : Int) (t : Int) (its : List Er) : Prop where
  sub : (its.map (·.1)).Sublist (spansL s)
  pos : ∀ it ∈ its, 0 < it.2 ∧ it.2 ≤ t
theorem Lot.mem {s t : Int} {its : List Er} (h : Lot s t its) {it : Er} (hi : it ∈ its) : 0 ≤ it.1.1 ∧ it.1.1 ≤ it.1.2 ∧ it.1.2 < s := mem_spansL.mp (h.sub.mem (List.mem_map.mpr ⟨it, hi, rfl⟩))
theorem Lot.len {s t : Int} {its : List Er} (h : Lot s t its) : its.length ≤ (spansL s).length := by
  have := h.sub.length_le
  rwa [List.length_map] at this
theorem spans8 {s : Int} (h0 : 0 ≤ s) (h1 : s ≤ 8) : (spansL s).length ≤ 36 := by
  have : s = 0 ∨ s = 1 ∨ s = 2 ∨ s = 3 ∨ s = 4 ∨ s = 5 ∨ s = 6 ∨ s = 7 ∨ s = 8 := by omega
  rcases this with rfl | rfl | rfl | rfl | rfl | rfl | rfl | rfl | rfl <;> decide +kernel
/-- a loop that puts things, one or none a turn, to a list -/
theorem fillS {T α : Type} {g : DG} {b : DS} {c m : Nat} {enc : T → D} {en : α → D} {key : α → T} {P : α → Prop} {st : List D → List D → Env} {E : Str → List D → Env → Prop} :
    ∀ {L : List T} {n : Nat} {bx : List D} {M : List α} {Q : Out → Env → Prop}, (∀ (n : Nat) (y : T) (bx fs : List D), y ∈ L → fs.length < m → Bx (n + c) bx → Wn (g (enc y)) (st bx fs) (fun _ e1 => Wn b e1 (fun o e2 => o = .nx ∧ ∃ by_, Bx n by_ ∧ (e2 = st by_ fs ∨ ∃ z, key z = y ∧ P z ∧ e2 = st by_ (fs ++ [en z]))) NoE) NoE) →
      L.length + M.length ≤ m → Bx (n + c * L.length) bx → (∀ (by_ : List D) (zs : List α), (zs.map key).Sublist L → (∀ z ∈ zs, P z) → Bx n by_ → Q .nx (st by_ ((M ++ zs).map en))) → Wn (loop g b (L.map enc)) (st bx (M.map en)) Q E
  | [], n, bx, M, Q, hs, hl, hb, q => by
    rw [List.map_nil, wn_loop_nil]
    have := q bx [] (by simp) (by simp) (hb.le (by simp))
    rwa [List.append_nil] at this
  | y :: L, n, bx, M, Q, hs, hl, hb, q => by
    rw [List.length_cons] at hl hb
    rw [List.map_cons]
    unfold loop
    rw [wn_bind]
    refine (hs (n + c * L.length) y bx (M.map en) List.mem_cons_self (by rw [List.length_map]; omega) (hb.le (by rw [Nat.mul_succ]; omega))).imp (fun _ e1 h1 => ?_) fun _ _ _ z => z.elim
    rw [wn_bind]
    refine h1.imp (fun o e2 h2 => ?_) fun _ _ _ z => z.elim
    have hs' : ∀ (n : Nat) (z : T) (bx fs : List D), z ∈ L → fs.length < m → Bx (n + c) bx → Wn (g (enc z)) (st bx fs) (fun _ e1 => Wn b e1 (fun o e2 => o = .nx ∧ ∃ by_, Bx n by_ ∧ (e2 = st by_ fs ∨ ∃ w, key w = z ∧ P w ∧ e2 = st by_ (fs ++ [en w]))) NoE) NoE := fun n z bx fs hz => hs n z bx fs (List.mem_cons_of_mem _ hz)
    obtain ⟨rfl, by_, h3, rfl | ⟨z, hz, hP, rfl⟩⟩ := h2
    · exact fillS hs' (by omega) h3 fun by2 zs s1 s2 s3 => q by2 zs (s1.cons y) s2 s3
    · have e : M.map en ++ [en z] = (M ++ [z]).map en := by simp
      rw [e]
      refine fillS hs' (by rw [List.length_append]; simp; omega) h3 fun by2 zs s1 s2 s3 => ?_
      have := q by2 (z :: zs) (by rw [List.map_cons, hz]; exact s1.cons₂ y) (fun w hw => by
        rcases List.mem_cons.mp hw with rfl | hw
        · exact hP
        · exact s2 w hw) s3
      rw [List.append_assoc]
      exact this
theorem rel_sp {i : Nat} {e : Env} {Q : Out → Env → Prop} {E : Str → List D → Env → Prop} {xs : List D} (h : sl e i = .own xs) : Wn (sRelL i) e Q E = Q .nx (put e i (.val (.lst xs))) := by
  refine wn_eq ?_
  unfold sRelL
  rw [h]
theorem lot_ok {n : Nat} {s t : Int} {xs : List D} {Q : D → List (List D) → Prop} {E : Str → List D → List (List D) → Prop} (h0 : 0 ≤ s) (hs : s ≤ 8) (ht : 0 ≤ t) (ht2 : t < 2 ^ 139) (hb : Bx (n + 73) xs) (q : ∀ its ys, Lot s t its → Bx n ys → Q (lotD true s its) [ys]) : WF (f_law_lot [.lst xs, .int s, .int t]) Q E := by
  have sl36 := spans8 h0 hs
  have sp := spans_ok h0 (by omega)
  rw [f_law_lot, wf_mkF rfl]
  simp only [startE, m_law_lot, wn_seq, wn_par_vn]
  refine wn_take (n := n + 72) (b := 4) rfl hb (by omega) (by omega) fun v b1 v0 v1 hb1 => ?_
  simp [l_law_lot_1, sp]
  refine fillS (T := Int × Int) (α := Er) (enc := encR) (en := encE true) (key := (·.1)) (P := fun z => 0 < z.2 ∧ z.2 ≤ t) (c := 2) (m := 100) (M := []) (n := n) (st := fun bx fs => [.bor bx, .val (.int s), .val (.int t), .val (.int v), .own fs, .no, .no]) (fun k y bx fs hy hf hbx => ?_) (by simp; omega) (hb1.le (by omega)) fun by_ zs z1 z2 z3 => ?_
  · simp only [b_law_lot_1, wn_sFg, wn_seq]
    simp only [wn_gN, x_slS, x_sl0, x_isOwn1, true_and, x_putS, x_put0, wn_sAsgN, wn_eIf, wn_tOr, wn_c2, wn_var, ws_val, wn_c, dLt_int, wr_ok]
    have last : ∀ (u : Int) (zs : List D), 0 ≤ u → u ≤ t → Bx k zs → isFix (sl [.bor zs, .val (.int s), .val (.int t), .val (.int v), .own fs, .val (encR y), .no] 6) = false ∧ WO .nx (Wn (sIf (c2 dGt (eVar 6) (eC (.int 0))) (sApp 4 (eTup (aCons (eVar 5) (aCons (eVar 6) aNil)))) sNil) (put [.bor zs, .val (.int s), .val (.int t), .val (.int v), .own fs, .val (encR y), .no] 6 (.val (.int u)))
        (fun o e1 => o = .nx ∧ ∃ by_, Bx k by_ ∧ (fgO [5, 6] o e1 = [.bor by_, .val (.int s), .val (.int t), .val (.int v), .own fs, .no, .no] ∨ ∃ z : Er, z.1 = y ∧ (0 < z.2 ∧ z.2 ≤ t) ∧ fgO [5, 6] o e1 = [.bor by_, .val (.int s), .val (.int t), .val (.int v), .own (fs ++ [encE true z]), .no, .no])) NoE)
        (fun o => o = .nx ∧ ∃ by_, Bx k by_ ∧ (fgO [5, 6] o (put [.bor zs, .val (.int s), .val (.int t), .val (.int v), .own fs, .val (encR y), .no] 6 (.val (.int u))) = [.bor by_, .val (.int s), .val (.int t), .val (.int v), .own fs, .no, .no] ∨ ∃ z : Er, z.1 = y ∧ (0 < z.2 ∧ z.2 ≤ t) ∧ fgO [5, 6] o (put [.bor zs, .val (.int s), .val (.int t), .val (.int v), .own fs, .val (encR y), .no] 6 (.val (.int u))) = [.bor by_, .val (.int s), .val (.int t), .val (.int v), .own (fs ++ [encE true z]), .no, .no])) := by
      intro u zs u0 u1 hz
      by_cases hu : 0 < u
      · simp [hu]
        exact ⟨by omega, zs, hz, u, ⟨hu, u1⟩, rfl, rfl⟩
      · simp [hu]
        exact hz
    by_cases c1 : v < 1
    · simp only [c1, decide_true, if_true]
      refine wn_take (n := k) (b := t + 1) (Wn.eq (by simp)) (hbx.le (by omega)) (by omega) (by omega) fun u zs u0 u1 hz => ?_
      exact last u zs u0 (by omega) hz
    · simp only [c1, decide_false, Bool.false_eq_true, if_false]
      refine wn_take (n := k + 1) (b := 1 + v) (Wn.eq (by simp)) hbx (by omega) (by omega) fun u zs u0 u1 hz => ?_
      simp only [wn_c, dEq_int, wr_ok]
      by_cases c2 : u = 0
      · subst c2
        simp only [show ((0 : Int) == 0) = true from rfl, if_true]
        refine wn_take (n := k) (b := t + 1) (Wn.eq (by simp)) hz (by omega) (by omega) fun u2 zs2 w0 w1 hz2 => ?_
        exact last u2 zs2 w0 (by omega) hz2
      · simp only [show (u == 0) = false by simpa using c2, Bool.false_eq_true, if_false, wn_c]
        exact last 0 zs (by omega) ht (hz.le (by omega))
  · rw [List.nil_append]
    simp [rel_sp]
    exact q zs by_ ⟨z1, z2⟩ z3
theorem pow6 : dPow (.int 10) (.int 6) = .ok (.int 1000000) := by kernel_rfl
theorem pow38 : dPow (.int 10) (.int 38) = .ok (.int 100000000000000000000000000000000000000) := by kernel_rfl
theorem lend2w {f : DF} {b : DE} {xs : List D} {e : Env} {Q : D → Env → Prop} {E : Str → List D → Env → Prop}
    (hb : Wn b (.bor xs :: e) (fun y e1 => ∃ xs', e1 = .bor xs' :: e ∧ WF (f [.lst xs', y]) (fun d bs => ∃ ys, bs = [ys] ∧ Q d (.bor ys :: e)) (fun c fs bs => ∃ ys, bs = [ys] ∧ E c fs (.bor ys :: e))) E) : Wn (eCall f [.lend 0, .e b]) (.bor xs :: e) Q E := by
  rw [wn_call]
  simp only [argsV, wn_bind, wn_pure, wn_tmp, x_sl0, wt_bor]
  refine hb.imp fun y e1 h => ?_
  obtain ⟨xs', rfl, h⟩ := h
  simp only [x_sl0, lends, List.all_cons, List.all_nil, Bool.and_true, isL, true_and, argsD, argD, slD]
  refine h.imp (fun d bs h => ?_) fun c fs bs h => ?_
  · obtain ⟨ys, rfl, h⟩ := h
    simp [giveBack]
    exact h
  · obtain ⟨ys, rfl, h⟩ := h
    simp [giveBack]
    exact h
theorem great_ok {n : Nat} {s : Int} {xs : List D} {Q : D → List (List D) → Prop} {E : Str → List D → List (List D) → Prop} (h0 : 0 ≤ s) (hs : s ≤ 8) (hb : Bx (n + 72) xs) (q : ∀ its ys, Lot s 100000000000000000000000000000000000000 its → Bx n ys → Q (lotD true s its) [ys]) : WF (f_law_great [.lst xs, .int s]) Q E := by
  have sl36 := spans8 h0 hs
  have sp := spans_ok h0 (by omega)
  rw [f_law_great, wf_mkF rfl]
  simp only [startE, m_law_great, wn_seq]
  simp [l_law_great_1, sp]
  refine fillS (T := Int × Int) (α := Er) (enc := encR) (en := encE true) (key := (·.1)) (P := fun z => 0 < z.2 ∧ z.2 ≤ 100000000000000000000000000000000000000) (c := 2) (m := 100) (M := []) (n := n) (st := fun bx fs => [.bor bx, .val (.int s), .own fs, .no, .no]) (fun k y bx fs hy hf hbx => ?_) (by simp; omega) (hb.le (by omega)) fun by_ zs z1 z2 z3 => ?_
  · simp only [b_law_great_1, wn_sFg, wn_seq]
    simp only [wn_gN, x_slS, x_sl0, x_isOwn1, true_and, x_putS, x_put0, wn_sAsgN]
    refine lend2w ?_
    refine wn_of2 (n := k + 1) (ps := [.int 1, .int 2, .int 10, .int 1000000, .int 100000000000000000000000000000000000000]) (Wn.eq (by simp [pow6, pow38])) hbx (by simp) (by simp) fun d b1 hd hb1 => ⟨b1, rfl, ?_⟩
    obtain ⟨w, rfl, w0, w1⟩ : ∃ w : Int, d = .int w ∧ 0 < w ∧ w ≤ 100000000000000000000000000000000000000 := by
      simp only [List.mem_cons, List.not_mem_nil, or_false] at hd
      rcases hd with rfl | rfl | rfl | rfl | rfl <;> exact ⟨_, rfl, by decide, by decide⟩
    refine wf_take hb1 w0 (Int.lt_of_le_of_lt w1 (by decide +kernel)) fun u zs u0 u1 hz => ⟨zs, rfl, ?_⟩
    by_cases hu : 0 < u
    · simp [hu]
      exact ⟨by omega, zs, hz, u, ⟨hu, by omega⟩, rfl, rfl⟩
    · simp [hu]
      exact hz
  · rw [List.nil_append]
    simp [rel_sp]
    exact q zs by_ ⟨z1, z2⟩ z3
/-! ### what a stretch asks -/
def askI (its : List Er) (a b : Int) : Int := ((its.filter fun it => decide (a ≤ it.1.1) && decide (it.1.2 ≤ b)).map (·.2)).sum
theorem ix0 {k : Bool} {x y : D} : dIx (sq k [x, y]) (.int 0) = .ok x := by cases k <;> rfl
theorem ix1 {k : Bool} {x y : D} : dIx (sq k [x, y]) (.int 1) = .ok y := by cases k <;> rfl
theorem within_ok {k j : Bool} {a b c d : Int} : f_lies_within [sq k [.int a, .int b], sq j [.int c, .int d]] = .ok (.bl (decide (c ≤ a) && decide (b ≤ d))) [] := by
  refine WF.eq ?_
  rw [f_lies_within, wf_mkF rfl]
  simp [startE, m_lies_within, ix0, ix1, -dIx_sq]
  by_cases h : c ≤ a <;> simp [h]
theorem asked_in {k : Bool} {s a b : Int} {its : List Er} (hl : its.length ≤ 1000) (h0 : 0 ≤ a) (h1 : a ≤ b) (h2 : b < s) : f_asked [lotD k s its, .int a, .int b] = .ok (.int (askI its a b)) [] := by
  have c := chk_in h0 h1 h2
  have lc : c_asked_1 [.val (lotD k s its), .val (.int a), .val (.int b), .no, .no] = .ok (.lst ((its.filter fun it => decide (a ≤ it.1.1) && decide (it.1.2 ≤ b)).map fun it => .int it.2)) [.val (lotD k s its), .val (.int a), .val (.int b), .no, .no] := by
    unfold c_asked_1
    refine lc_filter (T := Er) (L := its) (enc := encE k) (fun it => decide (a ≤ it.1.1) && decide (it.1.2 ≤ b)) (fun it => .int it.2) ?_ rfl (by omega) fun y hy => ?_
    · refine Wn.eq ?_
      simp [lotD, ix1, -dIx_sq]
    · have w := within_ok (k := k) (j := true) (a := y.1.1) (b := y.1.2) (c := a) (d := b)
      rw [sq_true] at w
      simp [wipeE, encE, w]
  refine WF.eq ?_
  rw [f_asked, wf_mkF rfl]
  simp [startE, m_asked, wn_seq, lotD, ix0, -dIx_sq, c]
  rw [show sq k [D.int s, sq k (its.map (encE k))] = lotD k s its from rfl, wn_eq lc]
  simp [askI]
theorem asked_out {k : Bool} {s a b : Int} {its : List Er} (h : ¬ (0 ≤ a ∧ a ≤ b ∧ b < s)) : f_asked [lotD k s its, .int a, .int b] = .ex "NoStretch" [.int a, .int b] [] := by
  have c := chk_out h
  refine WF.ex_eq ?_
  rw [f_asked, wf_mkF rfl]
  simp [startE, m_asked, wn_seq, lotD, ix0, -dIx_sq, c, lentOf]
theorem table_ok {k : Bool} {s : Int} {its : List Er} (hl : its.length ≤ 1000) (h0 : 0 ≤ s) (h1 : s ≤ 100) : f_table_of [lotD k s its] = .ok (.tup ((spansL s).map fun p => .int (askI its p.1 p.2))) [] := by
  have st := str_ok h0 h1
  have sq2 : s.toNat * s.toNat ≤ 10000 := Nat.mul_le_mul (show s.toNat ≤ 100 by omega) (show s.toNat ≤ 100 by omega)
  have ln := spansL_len h0
  have lc : c_table_of_1 [.val (lotD k s its), .no, .no] = .ok (.lst ((spansL s).map fun p => .int (askI its p.1 p.2))) [.val (lotD k s its), .no, .no] := by
    unfold c_table_of_1
    refine lc_map (T := Int × Int) (L := spansL s) (enc := encR) (fun p => .int (askI its p.1 p.2)) ?_ rfl (by omega) fun y hy => ?_
    · refine Wn.eq ?_
      simp [lotD, ix0, -dIx_sq, st]
    · obtain ⟨g0, g1, g2⟩ := mem_spansL.mp hy
      have c := asked_in (k := k) (its := its) hl g0 g1 g2
      simp [wipeE, encR, c]
  refine WF.eq ?_
  rw [f_table_of, wf_mkF rfl]
  simp [startE, m_table_of, wn_eq lc]
@[simp] theorem lot_ix0 {k : Bool} {s : Int} {its : List Er} : dIx (lotD k s its) (.int 0) = .ok (.int s) := ix0
@[simp] theorem lot_ix1 {k : Bool} {s : Int} {its : List Er} : dIx (lotD k s its) (.int 1) = .ok (sq k (its.map (encE k))) := ix1
end AH
namespace AH
open PySem L2
variable [TheK]
/-! ### wishes for dicts -/
section
variable {e : Env} {i j l : Nat} {a b c : DE} {E : Str → List D → Env → Prop} {kvs : List (List Key × D)} {xs : List D}
def WDc (s : Sl) (Q : List (List Key × D) → Prop) : Prop := match s with
  | .odc kvs => Q kvs
  | _ => False
@[simp] theorem wdc_odc {Q : List (List Key × D) → Prop} : WDc (.odc kvs) Q = Q kvs := nr rfl
def WDi (d : D) (Q : List (List Key × D) → Prop) : Prop := match d with
  | .dic kvs => Q kvs
  | _ => False
@[simp] theorem wdi_dic {Q : List (List Key × D) → Prop} : WDi (.dic kvs) Q = Q kvs := nr rfl
def WKy (d : D) (Q : List Key → Prop) : Prop := match keyD d with
  | some k => Q k
  | none => False
theorem wky_of {d : D} {k : List Key} {Q : List Key → Prop} (h : keyD d = some k) : WKy d Q = Q k := by unfold WKy; rw [h]
@[simp] theorem wky_two {x y : Int} {Q : List Key → Prop} : WKy (.tup [.int x, .int y]) Q = Q [.inl x, .inl y] := wky_of rfl
@[simp] theorem wt_ldc {Q : D → Prop} : WT (.ldc kvs) Q = Q (.dic kvs) := nr rfl
@[simp] theorem wn_sOwnD {Q : Out → Env → Prop} : Wn (sOwnD i a) e Q E = Wn a e (fun x e1 => WDi x fun kvs => isFix (sl e1 i) = false ∧ i < e1.length ∧ Q .nx (put e1 i (.odc kvs))) E := by
  simp only [sOwnD, wn_bind]
  congr 1
  funext x e1
  cases x with
  | dic xs =>
    unfold Wn
    simp only [wdi_dic]
    cases isFix (sl e1 i) <;> by_cases h : i < e1.length <;> simp [h]
  | _ => (unfold Wn; rfl)
@[simp] theorem wn_ownD {Q : List (List Key × D) → Env → Prop} : Wn (ownD i) e Q E = WDc (sl e i) fun xs => Q xs e := by
  unfold Wn ownD
  cases sl e i <;> rfl
@[simp] theorem wn_sSetD {Q : Out → Env → Prop} : Wn (sSetD i a b) e Q E = Wn b e (fun x e1 => WDc (sl e1 i) fun _ => Wn a e1 (fun k e2 => WDc (sl e2 i) fun kvs => WKy k fun k => lenOk (kvs.length + 1) = true ∧ Q .nx (put e2 i (.odc (dput kvs k x)))) E) E := by
  simp only [sSetD, wn_bind, wn_ownD]
  congr 1
  funext x e1
  congr 1
  funext _
  congr 1
  funext k e2
  congr 1
  funext kvs
  unfold WKy
  cases keyD k with
  | none => unfold Wn; rfl
  | some k =>
    unfold Wn
    simp only
    cases lenOk (kvs.length + 1) <;> simp
@[simp] theorem wn_sRetOd {Q : Out → Env → Prop} : Wn (sRetOd i) e Q E = WDc (sl e i) fun kvs => Q (.rt (.dic kvs)) e := by
  unfold Wn sRetOd
  cases sl e i <;> rfl
@[simp] theorem wn_eGetL {Q : D → Env → Prop} : Wn (eGetL i a b) e Q E = WT (sl e i) fun x => WDi x fun _ => Wn a e (fun k e1 => Wn b e1 (fun z e2 => WT (sl e2 i) fun x => WR (dGet2 x k z) fun v => Q v e2) E) E := by
  simp only [eGetL, wn_bind, wn_tmp]
  congr 1
  funext x
  cases x <;> first | (simp only [wn_bind, wn_tmp, wn_of, wdi_dic]; done) | (unfold Wn; rfl)
@[simp] theorem wn_lockE {Q : D → Env → Prop} : Wn (lockE i a) e Q E = WDc (sl e i) fun kvs => Wn a (put e i (.ldc kvs)) (fun d e1 => roOk (put e i (.ldc kvs)) e1 = true ∧ Q d (put e1 i (.odc kvs))) NoE := by
  unfold Wn lockE
  dsimp only
  cases sl e i with
  | odc kvs =>
    simp only [wdc_odc]
    cases a (put e i (.ldc kvs)) with
    | ok d e1 => simp only; cases roOk (put e i (.ldc kvs)) e1 <;> simp
    | ex c fs e1 => rfl
    | bad => rfl
  | _ => rfl
def WLk (s : Sl) (Q : List (List Key × D) → Prop) : Prop := match s with
  | .ldc kvs => Q kvs
  | _ => False
@[simp] theorem wlk_ldc {Q : List (List Key × D) → Prop} : WLk (.ldc kvs) Q = Q kvs := nr rfl
@[simp] theorem wn_lkD {f : List (List Key × D) → List D} {Q : List D → Env → Prop} : Wn (lkD f i) e Q E = WLk (sl e i) fun kvs => Q (f kvs) e := by
  unfold Wn lkD
  cases sl e i <;> rfl
@[simp] theorem wn_nwD {f : List (List Key × D) → List D} {Q : List D → Env → Prop} : Wn (nwD f a) e Q E = Wn a e (fun x e1 => WDi x fun kvs => Q (f kvs) e1) E := by
  simp only [nwD, wn_bind]
  congr 1
  funext x e1
  cases x <;> (unfold Wn; rfl)
@[simp] theorem wn_aStar {r : DL} {Q : List D → Env → Prop} : Wn (aStar a r) e Q E = Wn a e (fun x e1 => WL x fun xs => Wn r e1 (fun ys e2 => Q (xs ++ ys) e2) E) E := by
  simp only [aStar, wn_bind]
  congr 1
  funext x e1
  cases x <;> first | (simp only [wn_bind, wn_pure, wl_lst, wl_tup]; done) | (unfold Wn; rfl)
@[simp] theorem wn_eAddO {Q : D → Env → Prop} : Wn (eAddO i b) e Q E = WQ (sl e i) fun _ => Wn b e (fun y e1 => WQ (sl e1 i) fun xs => WR (dAddL (.lst xs) y) fun z => Q z e1) E := by
  simp only [eAddO, wn_bind, wn_ownL, wn_of]
@[simp] theorem dAddL_lst {a b : List D} : dAddL (.lst a) (.lst b) = if lenOk (a.length + b.length) then .ok (.lst (a ++ b)) else .bad := nr rfl
@[simp] theorem wn_parK_dv {Q : Out → Env → Prop} : Wn (sParK [(i, .d, a), (j, .v, b)]) e Q E = Wn a e (fun x e1 => Wn b e1 (fun y e2 => WDi x fun kvs => isFix (sl e2 i) = false ∧ i < e2.length ∧ isFix (sl (put e2 i (.odc kvs)) j) = false ∧ Q .nx (put (put e2 i (.odc kvs)) j (.val y))) E) E := by
  simp only [sParK, List.map, parV, wn_bind, wn_pure]
  congr 1; funext x e1; congr 1; funext y e2
  cases x with
  | dic ys =>
    unfold Wn
    simp only [parPutK, wdi_dic]
    cases isFix (sl e2 i) <;> cases isFix (sl (put e2 i (.odc ys)) j) <;> by_cases h : i < e2.length <;> simp [h]
  | _ => (unfold Wn; simp only [parPutK]; rfl)
@[simp] theorem wn_parK_dl {Q : Out → Env → Prop} : Wn (sParK [(i, .d, a), (j, .l, b)]) e Q E = Wn a e (fun x e1 => Wn b e1 (fun y e2 => WDi x fun kvs => WM y fun ys => (isFix (sl e2 i) = false ∧ i < e2.length) ∧ (isFix (sl (put e2 i (.odc kvs)) j) = false ∧ j < e2.length) ∧ Q .nx (put (put e2 i (.odc kvs)) j (.own ys))) E) E := by
  simp only [sParK, List.map, parV, wn_bind, wn_pure]
  congr 1; funext x e1; congr 1; funext y e2
  cases x with
  | dic ys => cases y with
    | lst zs =>
      unfold Wn
      simp only [parPutK, wdi_dic, wm_lst, put_len]
      cases isFix (sl e2 i) <;> cases isFix (sl (put e2 i (.odc ys)) j) <;> by_cases h : i < e2.length <;> by_cases h' : j < e2.length <;> simp [h, h']
    | _ => (unfold Wn WM; simp only [parPutK, wdi_dic]; cases isFix (sl e2 i) <;> by_cases h : i < e2.length <;> simp [h])
  | _ => (unfold Wn; simp only [parPutK]; rfl)
theorem wf_mkR {n : Nat} {ms : List Md} {b : DS} {ds : List D} {Q : D → List (List D) → Prop} {E : Str → List D → List (List D) → Prop} (h : lstsOk ms ds = true) : WF (mkR n ms b ds) Q E = Wn b (startE ms ds ++ List.replicate (n - ms.length) .no) (fun o e => match o with | .rt d => WE ms (.rt d) e Q | _ => False) (fun c fs e => match lentOf ms e with | some bs => E c fs bs | none => False) := by
  unfold mkR
  simp only [h, Bool.not_true, Bool.false_eq_true, if_false]
  unfold Wn WE
  cases b (startE ms ds ++ List.replicate (n - ms.length) .no) with
  | ok o e =>
    simp only
    cases o with
    | rt d => simp only; cases lentOf ms e <;> (unfold WF; rfl)
    | nx => (unfold WF; rfl)
    | bk => (unfold WF; rfl)
    | ct => (unfold WF; rfl)
  | ex c fs e => simp only; cases lentOf ms e <;> (unfold WF; rfl)
  | bad => (unfold WF; rfl)
end
/-! ### dicts by windows -/
def keyR (p : Int × Int) : List Key := [.inl p.1, .inl p.2]
theorem keyR_inj {p q : Int × Int} : keyR p = keyR q ↔ p = q := by
  unfold keyR
  constructor
  · intro h
    simp at h
    exact Prod.ext h.1 h.2
  · intro h; rw [h]
theorem keyD_encR {p : Int × Int} : keyD (encR p) = some (keyR p) := rfl
theorem keyT_keyR {p : Int × Int} : keyT (keyR p) = encR p := rfl
@[simp] theorem wky_encR {p : Int × Int} {Q : List Key → Prop} : WKy (encR p) Q = Q (keyR p) := wky_of rfl
def tabD (L : List (Int × Int)) (f : Int × Int → Int) : List (List Key × D) := L.map fun p => (keyR p, .int (f p))
theorem tabD_len {L : List (Int × Int)} {f : Int × Int → Int} : (tabD L f).length = L.length := by unfold tabD; rw [List.length_map]
theorem tabD_congr {L : List (Int × Int)} {f g : Int × Int → Int} (h : ∀ p ∈ L, f p = g p) : tabD L f = tabD L g := by
  unfold tabD
  apply List.map_congr_left
  intro p hp
  rw [h p hp]
theorem dget_tab {L : List (Int × Int)} {f : Int × Int → Int} {q : Int × Int} : dget (tabD L f) (keyR q) = if q ∈ L then some (.int (f q)) else none := by
  induction L with
  | nil => rfl
  | cons p L ih =>
    unfold dget tabD at ih ⊢
    rw [List.map_cons, List.find?_cons]
    by_cases h : p = q
    · subst h
      simp
    · have hk : decide (keyR p = keyR q) = false := by simpa [keyR_inj] using h
      simp only [hk]
      rw [ih]
      have : (q ∈ p :: L) ↔ q ∈ L := by
        rw [List.mem_cons]
        exact ⟨fun z => z.elim (fun z => absurd z.symm h) id, .inr⟩
      simp only [this]
theorem dput_in {L : List (Int × Int)} {f : Int × Int → Int} {q : Int × Int} {v : Int} (h : q ∈ L) : dput (tabD L f) (keyR q) (.int v) = tabD L fun p => if p = q then v else f p := by
  unfold dput
  have ha : ((tabD L f).any fun p => decide (p.1 = keyR q)) = true := by
    rw [List.any_eq_true]
    exact ⟨(keyR q, .int (f q)), List.mem_map.mpr ⟨q, h, rfl⟩, by simp⟩
  rw [ha, if_pos rfl]
  unfold tabD
  rw [List.map_map]
  apply List.map_congr_left
  intro p _
  show (if keyR p = keyR q then (keyR p, D.int v) else (keyR p, .int (f p))) = _
  by_cases hp : p = q
  · subst hp; simp
  · rw [if_neg (fun z => hp (keyR_inj.mp z))]
    simp [hp]
theorem dput_out {L : List (Int × Int)} {f : Int × Int → Int} {q : Int × Int} {v : Int} (h : q ∉ L) : dput (tabD L f) (keyR q) (.int v) = tabD (L ++ [q]) fun p => if p = q then v else f p := by
  unfold dput
  have ha : ((tabD L f).any fun p => decide (p.1 = keyR q)) = false := by
    rw [List.any_eq_false]
    intro x hx
    obtain ⟨p, hp, rfl⟩ := List.mem_map.mp hx
    simp [keyR_inj]
    exact fun z => h (z ▸ hp)
  rw [ha, if_neg (by simp)]
  unfold tabD
  rw [List.map_append]
  congr 1
  · apply List.map_congr_left
    intro p hp
    have : p ≠ q := fun z => h (z ▸ hp)
    simp [this]
  · simp
theorem dIx_tab {L : List (Int × Int)} {f : Int × Int → Int} {q : Int × Int} (h : q ∈ L) : dIx (.dic (tabD L f)) (encR q) = .ok (.int (f q)) := by
  show (match keyD (encR q) with | some k => (match dget (tabD L f) k with | some v => Rv.ok v | none => .bad) | none => .bad) = _
  rw [keyD_encR]
  simp only
  rw [dget_tab, if_pos h]
theorem dIx_tab2 {L : List (Int × Int)} {f : Int × Int → Int} {x y : Int} (h : (x, y) ∈ L) : dIx (.dic (tabD L f)) (.tup [.int x, .int y]) = .ok (.int (f (x, y))) := dIx_tab (q := (x, y)) h
theorem dGet2_tab {L : List (Int × Int)} {f : Int × Int → Int} {q : Int × Int} {z : Int} : dGet2 (.dic (tabD L f)) (encR q) (.int z) = .ok (.int (if q ∈ L then f q else z)) := by
  show (match keyD (encR q) with | some k => Rv.ok ((dget (tabD L f) k).getD (.int z)) | none => .bad) = _
  rw [keyD_encR]
  simp only
  rw [dget_tab]
  split <;> rfl
theorem dGet2_tab2 {L : List (Int × Int)} {f : Int × Int → Int} {x y z : Int} : dGet2 (.dic (tabD L f)) (.tup [.int x, .int y]) (.int z) = .ok (.int (if (x, y) ∈ L then f (x, y) else z)) := dGet2_tab (q := (x, y))
theorem dIn_tab {L : List (Int × Int)} {f : Int × Int → Int} {q : Int × Int} : dIn (encR q) (.dic (tabD L f)) = .ok (decide (q ∈ L)) := by
  show (match keyD (encR q) with | some k => Rv.ok (dget (tabD L f) k).isSome | none => .bad) = _
  rw [keyD_encR]
  simp only
  rw [dget_tab]
  by_cases h : q ∈ L <;> simp [h]
/-- dict of pairs -/
theorem pairsD_tab {L : List (Int × Int)} {f : Int × Int → Int} : pairsD (L.map fun p => D.tup [encR p, .int (f p)]) = some (tabD L f) := by
  induction L with
  | nil => rfl
  | cons p L ih =>
    show (match keyD (encR p), pairsD (L.map fun p => D.tup [encR p, .int (f p)]) with | some k, some r => some ((k, D.int (f p)) :: r) | _, _ => none) = _
    rw [ih, keyD_encR]
    rfl
theorem dmerge_nodup : ∀ (L M : List (Int × Int)) (f : Int × Int → Int), (M ++ L).Nodup → dmerge (tabD M f) (tabD L f) = tabD (M ++ L) f
  | [], M, f, _ => by rw [List.append_nil]; rfl
  | p :: L, M, f, h => by
    show dmerge (dput (tabD M f) (keyR p) (.int (f p))) (tabD L f) = _
    have hp : p ∉ M := fun z => by
      rw [List.nodup_append] at h
      exact h.2.2 p z p List.mem_cons_self rfl
    rw [dput_out hp]
    have e : tabD (M ++ [p]) (fun q => if q = p then f p else f q) = tabD (M ++ [p]) f := tabD_congr fun q _ => by
      split
      · rename_i z; rw [z]
      · rfl
    rw [e, dmerge_nodup L (M ++ [p]) f (by rw [List.append_assoc]; exact h), List.append_assoc]
    rfl
theorem dDictP_tab {L : List (Int × Int)} {f : Int × Int → Int} (h : L.Nodup) : dDictP (.lst (L.map fun p => D.tup [encR p, .int (f p)])) = .ok (.dic (tabD L f)) := by
  unfold dDictP
  simp only
  rw [pairsD_tab]
  simp only
  have := dmerge_nodup L [] f h
  simp only [List.nil_append] at this
  rw [show dmerge [] (tabD L f) = dmerge (tabD [] f) (tabD L f) from rfl, this]
end AH
namespace AH
open PySem L2
/-! ### sorting windows -/
theorem sorted_unique {α : Type} {le : α → α → Bool} : ∀ {L M : List α}, L.Perm M → L.Pairwise (fun a b => le a b = true) → M.Pairwise (fun a b => le a b = true) → (∀ a ∈ L, ∀ b ∈ L, le a b = true → le b a = true → a = b) → L = M
  | [], M, h, _, _, _ => h.nil_eq
  | a :: L, [], h, _, _, _ => absurd h.symm.nil_eq (by simp)
  | a :: L, b :: M, h, h1, h2, an => by
    have e : a = b := by
      by_cases z : a = b
      · exact z
      · have ha : a ∈ M := by
          have := h.subset List.mem_cons_self
          rcases List.mem_cons.mp this with q | q
          · exact absurd q z
          · exact q
        have hb : b ∈ L := by
          have := h.symm.subset List.mem_cons_self
          rcases List.mem_cons.mp this with q | q
          · exact absurd q.symm z
          · exact q
        exact an a List.mem_cons_self b (List.mem_cons_of_mem _ hb) ((List.pairwise_cons.mp h1).1 b hb) ((List.pairwise_cons.mp h2).1 a ha)
    subst e
    rw [sorted_unique ((List.perm_cons a).mp h) (List.pairwise_cons.mp h1).2 (List.pairwise_cons.mp h2).2 fun x hx y hy => an x (List.mem_cons_of_mem _ hx) y (List.mem_cons_of_mem _ hy)]
theorem leD_tot : (∀ a b c, leD a b = true → leD b c = true → leD a c = true) ∧ (∀ a b, (leD a b || leD b a) = true) := by
  have tl := PySem.W.sortLe_total (PyProof.Rows.listOrd PyProof.Rows.itemOrd) false fun b : D => PySem.W.keyToks b.toP
  refine ⟨tl.trans, fun a b => ?_⟩
  rcases tl.total a b with h | h
  · have h : leD a b = true := h
    rw [h]; rfl
  · have h : leD b a = true := h
    rw [h, Bool.or_true]
theorem isort_eq {L M : List D} (h : L.Perm M) (hM : M.Pairwise (fun a b => leD a b = true)) (an : ∀ a ∈ L, ∀ b ∈ L, leD a b = true → leD b a = true → a = b) : isort leD L = M := by
  rw [← merge_isort leD_tot.1 leD_tot.2]
  refine sorted_unique ((List.mergeSort_perm L leD).trans h) (List.pairwise_mergeSort leD_tot.1 leD_tot.2 L) hM fun a ha b hb => ?_
  exact an a ((List.mergeSort_perm L leD).subset ha) b ((List.mergeSort_perm L leD).subset hb)
def lxP (p q : Int × Int) : Prop := p.1 < q.1 ∨ (p.1 = q.1 ∧ p.2 < q.2)
theorem leD_encR {p q : Int × Int} : leD (encR p) (encR q) = true ↔ lxP p q ∨ p = q := by
  unfold leD PySem.W.dataLe PySem.W.sortLe encR lxP
  simp [D.toP, D.toPs, PySem.W.keyToks, PySem.W.keyToksAll, PyProof.Rows.lexLt, PyProof.Rows.itemLt]
  obtain ⟨p1, p2⟩ := p
  obtain ⟨q1, q2⟩ := q
  simp only [Prod.mk.injEq]
  omega
theorem leD_encE {x y : Er} : leD (encE true x) (encE true y) = true ↔ lxP x.1 y.1 ∨ (x.1 = y.1 ∧ x.2 ≤ y.2) := by
  unfold leD PySem.W.dataLe PySem.W.sortLe encE lxP
  simp only [sq_true]
  simp [D.toP, D.toPs, PySem.W.keyToks, PySem.W.keyToksAll, PyProof.Rows.lexLt, PyProof.Rows.itemLt]
  obtain ⟨⟨p1, p2⟩, p3⟩ := x
  obtain ⟨⟨q1, q2⟩, q3⟩ := y
  simp only [Prod.mk.injEq]
  omega
theorem intsR_sorted {a b : Int} : (intsR a b).Pairwise (· < ·) := by
  unfold intsR
  rw [List.pairwise_map]
  exact List.pairwise_lt_range.imp fun {x y} h => by omega
theorem spansL_sorted {s : Int} : (spansL s).Pairwise lxP := by
  unfold spansL
  rw [List.pairwise_flatMap]
  refine ⟨fun a _ => ?_, intsR_sorted.imp fun {x y} h p hp q hq => ?_⟩
  · rw [List.pairwise_map]
    exact intsR_sorted.imp fun {x y} h => .inr ⟨rfl, h⟩
  · obtain ⟨_, _, rfl⟩ := List.mem_map.mp hp
    obtain ⟨_, _, rfl⟩ := List.mem_map.mp hq
    exact .inl h
theorem lxP_ne {p q : Int × Int} (h : lxP p q) : p ≠ q := fun z => by
  subst z
  unfold lxP at h
  omega
theorem lxP_trans {p q r : Int × Int} (h : lxP p q) (h' : lxP q r) : lxP p r := by unfold lxP at *; omega
theorem lxP_asymm {p q : Int × Int} (h : lxP p q) (h' : lxP q p) : False := by unfold lxP at *; omega
theorem spansL_nodup {s : Int} : (spansL s).Nodup := spansL_sorted.imp fun h => lxP_ne h
theorem encR_inj {p q : Int × Int} (h : encR p = encR q) : p = q := by
  unfold encR at h
  simp at h
  exact Prod.ext h.1 h.2
theorem isort_win {L M : List (Int × Int)} (h : L.Perm M) (hM : M.Pairwise lxP) : isort leD (L.map encR) = M.map encR := by
  refine isort_eq (h.map encR) ?_ ?_
  · rw [List.pairwise_map]
    exact hM.imp fun z => leD_encR.mpr (.inl z)
  · intro a ha b hb h1 h2
    obtain ⟨p, _, rfl⟩ := List.mem_map.mp ha
    obtain ⟨q, _, rfl⟩ := List.mem_map.mp hb
    rcases leD_encR.mp h1 with z | z
    · rcases leD_encR.mp h2 with z' | z'
      · exact (lxP_asymm z z').elim
      · rw [z']
    · rw [z]
theorem isort_err {L M : List Er} (h : L.Perm M) (hM : M.Pairwise fun x y => lxP x.1 y.1) : isort leD (L.map (encE true)) = M.map (encE true) := by
  refine isort_eq (h.map _) ?_ ?_
  · rw [List.pairwise_map]
    exact hM.imp fun z => leD_encE.mpr (.inl z)
  · intro a ha b hb h1 h2
    obtain ⟨p, _, rfl⟩ := List.mem_map.mp ha
    obtain ⟨q, _, rfl⟩ := List.mem_map.mp hb
    have e : p = q := by
      rcases leD_encE.mp h1 with z | z
      · rcases leD_encE.mp h2 with z' | z'
        · exact (lxP_asymm z z').elim
        · exact absurd z'.1.symm (lxP_ne z)
      · rcases leD_encE.mp h2 with z' | z'
        · exact absurd z.1.symm (lxP_ne z')
        · exact Prod.ext z.1 (by omega)
    rw [e]
theorem sortOk_all {xs : List D} (h1 : ∀ x ∈ xs, x.plain 40 = true ∧ x.toP.depth ≤ 60) (h2 : ∀ x ∈ xs, ∀ y ∈ xs, PySem.W.alike x.toP y.toP = true) (h3 : ∀ x ∈ xs, tup1 x = true) : sortOk xs = true := by
  unfold sortOk
  rw [Bool.and_eq_true, Bool.and_eq_true, Bool.or_eq_true]
  refine ⟨List.all_eq_true.mpr fun x hx => ?_, List.all_eq_true.mpr fun x hx => List.all_eq_true.mpr fun y hy => h2 x hx y hy, .inl (List.all_eq_true.mpr h3)⟩
  rw [(h1 x hx).1, decide_eq_true (h1 x hx).2]
  rfl
theorem sortOk_win {L : List (Int × Int)} : sortOk (L.map encR) = true := by
  refine sortOk_all (fun x hx => ?_) (fun x hx y hy => ?_) fun x hx => ?_
  · obtain ⟨p, _, rfl⟩ := List.mem_map.mp hx
    exact ⟨rfl, by show (1 : Nat) ≤ 60; decide⟩
  · obtain ⟨p, _, rfl⟩ := List.mem_map.mp hx
    obtain ⟨q, _, rfl⟩ := List.mem_map.mp hy
    rfl
  · obtain ⟨p, _, rfl⟩ := List.mem_map.mp hx
    rfl
theorem sortOk_err {L : List Er} : sortOk (L.map (encE true)) = true := by
  refine sortOk_all (fun x hx => ?_) (fun x hx y hy => ?_) fun x hx => ?_
  · obtain ⟨p, _, rfl⟩ := List.mem_map.mp hx
    exact ⟨rfl, by show (2 : Nat) ≤ 60; decide⟩
  · obtain ⟨p, _, rfl⟩ := List.mem_map.mp hx
    obtain ⟨q, _, rfl⟩ := List.mem_map.mp hy
    rfl
  · obtain ⟨p, _, rfl⟩ := List.mem_map.mp hx
    rfl
theorem dSortK_tab {L M : List (Int × Int)} {f : Int × Int → Int} (h : L.Perm M) (hM : M.Pairwise lxP) : dSortK (.dic (tabD L f)) = .ok (.lst (M.map encR)) := by
  have e : ((tabD L f).map fun k => keyT k.1) = L.map encR := by
    unfold tabD
    rw [List.map_map]
    rfl
  unfold dSortK
  simp only
  rw [e, sortOk_win, if_pos rfl, isort_win h hM]
theorem dSortA_err {L M : List Er} (h : L.Perm M) (hM : M.Pairwise fun x y => lxP x.1 y.1) : dSortA (.lst (L.map (encE true))) = .ok (.lst (M.map (encE true))) := by
  unfold dSortA
  simp only
  rw [sortOk_err, if_pos rfl, isort_err h hM]
/-! ### the work of a window; lots by it -/
def wkI (its : List Er) (p : Int × Int) : Int := ((its.filter fun it => decide (it.1 = p)).map (·.2)).sum
theorem wkI_nil {p : Int × Int} : wkI [] p = 0 := rfl
theorem wkI_cons {it : Er} {its : List Er} {p : Int × Int} : wkI (it :: its) p = (if it.1 = p then it.2 else 0) + wkI its p := by
  unfold wkI
  rw [List.filter_cons]
  by_cases h : it.1 = p <;> simp [h]
theorem wkI_app {xs ys : List Er} {p : Int × Int} : wkI (xs ++ ys) p = wkI xs p + wkI ys p := by
  unfold wkI
  rw [List.filter_append, List.map_append, List.sum_append]
theorem wkI_out {its : List Er} {p : Int × Int} (h : p ∉ its.map (·.1)) : wkI its p = 0 := by
  unfold wkI
  rw [List.filter_eq_nil_iff.mpr fun it hi => ?_]
  · rfl
  · simp
    exact fun z => h (z ▸ List.mem_map.mpr ⟨it, hi, rfl⟩)
def canon (s : Int) (f : Int × Int → Int) : List Er := ((spansL s).filter fun p => decide (0 < f p)).map fun p => (p, f p)
theorem canon_congr {s : Int} {f g : Int × Int → Int} (h : ∀ p ∈ spansL s, f p = g p) : canon s f = canon s g := by
  unfold canon
  have e : (spansL s).filter (fun p => decide (0 < f p)) = (spansL s).filter fun p => decide (0 < g p) := List.filter_congr fun p hp => by rw [h p hp]
  rw [e]
  apply List.map_congr_left
  intro p hp
  rw [h p (List.mem_filter.mp hp).1]
theorem canon_of {L ks : List (Int × Int)} (h : ks.Sublist L) : L.Nodup → ∀ {its : List Er}, its.map (·.1) = ks → (∀ it ∈ its, 0 < it.2) → ((L.filter fun p => decide (0 < wkI its p)).map fun p => (p, wkI its p)) = its := by
  induction h with
  | slnil =>
    intro _ its h _
    have : its = [] := by simpa using h
    subst this
    rfl
  | @cons l L a h ih =>
    intro nd its hk hp
    obtain ⟨na, nd'⟩ := List.nodup_cons.mp nd
    have e : wkI its a = 0 := wkI_out fun z => na (h.subset (hk ▸ z))
    rw [List.filter_cons, e]
    simp only [Int.lt_irrefl, decide_false, Bool.false_eq_true, if_false]
    exact ih nd' hk hp
  | @cons_cons l L a h ih =>
    intro nd its hk hp
    obtain ⟨na, nd'⟩ := List.nodup_cons.mp nd
    match its, hk with
    | it :: its', hk =>
      rw [List.map_cons, List.cons.injEq] at hk
      obtain ⟨e1, e2⟩ := hk
      have z : wkI its' a = 0 := wkI_out fun z => na (h.subset (e2 ▸ z))
      have e : wkI (it :: its') a = it.2 := by rw [wkI_cons, if_pos e1, z, Int.add_zero]
      have hpos := hp it List.mem_cons_self
      have eq : ∀ p ∈ L, wkI (it :: its') p = wkI its' p := fun p hpL => by
        rw [wkI_cons, if_neg (fun q => na (by rw [← e1, q]; exact hpL)), Int.zero_add]
      have ih' := ih nd' e2 fun x hx => hp x (List.mem_cons_of_mem _ hx)
      have e3 : (L.filter fun p => decide (0 < wkI (it :: its') p)) = L.filter fun p => decide (0 < wkI its' p) := List.filter_congr fun p hp => by rw [eq p hp]
      have e4 : ((L.filter fun p => decide (0 < wkI its' p)).map fun p => (p, wkI (it :: its') p)) = its' := by
        refine Eq.trans (List.map_congr_left fun p hp => ?_) ih'
        rw [eq p (List.mem_filter.mp hp).1]
      rw [List.filter_cons, e]
      simp only [hpos, decide_true, if_true, List.map_cons]
      rw [e3, e4, e]
      congr 1
      rw [← e1]
theorem canon_lot {s t : Int} {its : List Er} (h : Lot s t its) : canon s (wkI its) = its := canon_of h.sub spansL_nodup rfl fun it hi => (h.pos it hi).1
theorem canon_sorted {s : Int} {f : Int × Int → Int} : (canon s f).Pairwise fun x y => lxP x.1 y.1 := by
  unfold canon
  rw [List.pairwise_map]
  exact spansL_sorted.sublist List.filter_sublist
theorem canon_map {s : Int} {f : Int × Int → Int} : (canon s f).map (·.1) = (spansL s).filter fun p => decide (0 < f p) := by
  unfold canon
  rw [List.map_map]
  exact List.map_id'' (fun _ => rfl) _
theorem canon_is {s t : Int} {f : Int × Int → Int} (h : ∀ p ∈ spansL s, f p ≤ t) : Lot s t (canon s f) where
  sub := by rw [canon_map]; exact List.filter_sublist
  pos := fun it hi => by
    obtain ⟨p, hp, rfl⟩ := List.mem_map.mp hi
    obtain ⟨h1, h2⟩ := List.mem_filter.mp hp
    exact ⟨of_decide_eq_true h2, h p h1⟩
theorem wkI_of {L : List (Int × Int)} {f : Int × Int → Int} {q : Int × Int} (nd : L.Nodup) : wkI (L.map fun p => (p, f p)) q = if q ∈ L then f q else 0 := by
  induction L with
  | nil => rfl
  | cons p L ih =>
    obtain ⟨na, nd'⟩ := List.nodup_cons.mp nd
    rw [List.map_cons, wkI_cons, ih nd']
    by_cases h : p = q
    · subst h
      simp [na]
    · have : (q ∈ p :: L) ↔ q ∈ L := by
        rw [List.mem_cons]
        exact ⟨fun z => z.elim (fun z => absurd z.symm h) id, .inr⟩
      simp [h, this]
theorem wkI_canon {s : Int} {f : Int × Int → Int} {q : Int × Int} : wkI (canon s f) q = if q ∈ spansL s ∧ 0 < f q then f q else 0 := by
  unfold canon
  rw [wkI_of (spansL_nodup.sublist List.filter_sublist)]
  simp [List.mem_filter]
end AH
namespace AH
open PySem L2
variable [TheK]
theorem roS_self (s : Sl) : roS s s = true := by
  cases s with
  | ro d => cases d <;> rfl
  | _ => rfl
@[simp] theorem roOk_self : ∀ e : Env, roOk e e = true
  | [] => rfl
  | s :: e => by show (roS s s && roOk e e) = true; rw [roS_self, roOk_self e]; rfl
@[simp] theorem gd_sq {k : Bool} {r : DGs} {xs : List D} {e : Env} {Q : Unit → Env → Prop} {E : Str → List D → Env → Prop} : Wn (gT r (sq k xs)) e Q E = Wn (r xs) e Q E := by rw [wn_gT, wl_sq]
/-! ### the law's own table -/
def putF (f : Int × Int → Int) (y : Er) : Int × Int → Int := fun p => if p = y.1 then y.2 else f p
theorem putF_fold : ∀ (its : List Er) (f : Int × Int → Int), (its.map (·.1)).Nodup → ∀ p, its.foldl putF f p = if p ∈ its.map (·.1) then wkI its p else f p
  | [], f, _, p => by simp
  | y :: its, f, nd, p => by
    rw [List.map_cons] at nd ⊢
    obtain ⟨na, nd'⟩ := List.nodup_cons.mp nd
    rw [List.foldl_cons, putF_fold its _ nd' p, wkI_cons]
    by_cases h : p = y.1
    · subst h
      rw [if_neg na, if_pos List.mem_cons_self, if_pos rfl, wkI_out na, Int.add_zero]
      simp [putF]
    · have : (p ∈ y.1 :: its.map (·.1)) ↔ p ∈ its.map (·.1) := by
        rw [List.mem_cons]
        exact ⟨fun z => z.elim (fun z => absurd z h) id, .inr⟩
      simp only [this]
      rw [if_neg (c := y.1 = p) (fun z => h z.symm), Int.zero_add]
      simp [putF, h]
theorem Lot.nd {s t : Int} {its : List Er} (h : Lot s t its) : (its.map (·.1)).Nodup := spansL_nodup.sublist h.sub
theorem dput_in' {L : List (Int × Int)} {f : Int × Int → Int} {x y v : Int} (h : (x, y) ∈ L) : dput (tabD L f) [.inl x, .inl y] (.int v) = tabD L (putF f ((x, y), v)) := dput_in (q := (x, y)) h
theorem table_law {s t : Int} {its : List Er} (hL : Lot s t its) (h0 : 0 ≤ s) (h1 : s ≤ 100) : f_law_table [lotD true s its] = .ok (.dic (tabD (spansL s) (wkI its))) [] := by
  have sp := spans_ok h0 h1
  have sq2 : s.toNat * s.toNat ≤ 10000 := Nat.mul_le_mul (show s.toNat ≤ 100 by omega) (show s.toNat ≤ 100 by omega)
  have ln := spansL_len h0
  have l1 : c_law_table_1 [.val (lotD true s its), .no, .no, .no] = .ok (.lst ((spansL s).map fun p => .tup [encR p, .int 0])) [.val (lotD true s its), .no, .no, .no] := by
    unfold c_law_table_1
    refine lc_map (T := Int × Int) (L := spansL s) (enc := encR) (fun p => .tup [encR p, .int 0]) (Wn.eq (by simp [sp])) rfl (by omega) fun y hy => ?_
    simp [wipeE]
  have dd := dDictP_tab (L := spansL s) (f := fun _ => 0) spansL_nodup
  have q : ∀ (L : List Er) (f : Int × Int → Int), (∀ y ∈ L, y.1 ∈ spansL s) → loop (gT (gsCons (gN 2) (gsCons (gN 3) gsNil))) b_law_table_1 (L.map (encE true)) [.val (lotD true s its), .odc (tabD (spansL s) f), .no, .no] = .ok .nx [.val (lotD true s its), .odc (tabD (spansL s) (L.foldl putF f)), .no, .no] := by
    intro L f hy
    refine loop_fold (st := fun f => [.val (lotD true s its), .odc (tabD (spansL s) f), .no, .no]) putF L f fun f y hyL => ?_
    have hm : (y.1.1, y.1.2) ∈ spansL s := hy y hyL
    unfold b_law_table_1
    simp [encE, sq_true, wn_sFg, dput_in' hm, tabD_len]
    omega
  have hall : ∀ y ∈ its, y.1 ∈ spansL s := fun y hy => hL.sub.subset (List.mem_map.mpr ⟨y, hy, rfl⟩)
  have e : tabD (spansL s) (its.foldl putF fun _ => 0) = tabD (spansL s) (wkI its) := tabD_congr fun p _ => by
    rw [putF_fold its _ hL.nd]
    split
    · rfl
    · rename_i z; rw [wkI_out z]
  refine WF.eq ?_
  rw [f_law_table, wf_mkR rfl]
  simp only [startE, m_law_table, wn_seq]
  simp [wn_eq l1, dd, l_law_table_1, sq_true]
  rw [wn_eq (q its _ hall), e]
  simp
/-! ### the lot of a table -/
theorem law_made_ok {s : Int} {L : List (Int × Int)} {f : Int × Int → Int} (hp : L.Perm (spansL s)) (hs : L.length ≤ 10000) : f_law_made [.int s, .dic (tabD L f)] = .ok (lotD true s (canon s f)) [] := by
  have so := dSortK_tab (f := f) hp spansL_sorted
  have l1 : c_law_made_1 [.val (.int s), .ro (.dic (tabD L f)), .no] = .ok (.lst (((spansL s).filter fun p => decide (0 < f p)).map fun p => encE true (p, f p))) [.val (.int s), .ro (.dic (tabD L f)), .no] := by
    unfold c_law_made_1
    refine lc_filter (T := Int × Int) (L := spansL s) (enc := encR) (fun p => decide (0 < f p)) (fun p => encE true (p, f p)) (Wn.eq (by simp [so])) rfl (by rw [← hp.length_eq]; omega) fun y hy => ?_
    have ix := dIx_tab (f := f) (hp.symm.subset hy)
    have ee : encE true (y, f y) = .tup [encR y, .int (f y)] := rfl
    simp [wipeE, ix, ee]
  refine WF.eq ?_
  rw [f_law_made, wf_mkF rfl]
  simp [startE, m_law_made, wn_eq l1]
  unfold lotD canon
  simp [sq_true, List.map_map]
/-! ### made_lot -/
theorem lt_spans {h : Int} {p : Int × Int} : p ∈ spansL h ↔ 0 ≤ p.1 ∧ p.1 ≤ p.2 ∧ p.2 < h := mem_spansL
/-- an errand whose parts are of two kinds -/
def enc2 (k k2 : Bool) (it : Er) : D := sq k [sq k2 [.int it.1.1, .int it.1.2], .int it.2]
def MkI (h : Int) (es : List Er) (k k2 j : Bool) (r : List D) (e : Env) : Prop := ∃ (M R : List Er) (W : List (Int × Int)) (f : Int × Int → Int), es = M ++ R ∧ r = R.map (enc2 k k2) ∧ e = [.val (.int h), .val (sq j (es.map (enc2 k k2))), .odc (tabD W f), .no, .no, .no, .no] ∧ W.Nodup ∧ (∀ p, p ∈ W ↔ p ∈ M.map (·.1)) ∧ (∀ p ∈ W, f p = wkI M p) ∧ W.length ≤ M.length ∧ ∀ it ∈ M, it.1 ∈ spansL h
theorem made_wf2 {k k2 j : Bool} {h : Int} {es : List Er} {Q : D → List (List D) → Prop} {E : Str → List D → List (List D) → Prop} (hl : es.length ≤ 10000) (hq : (∀ it ∈ es, it.1 ∈ spansL h) → Q (lotD true h (canon h (wkI es))) [])
    (he : ∀ pre x post, es = pre ++ x :: post → (∀ it ∈ pre, it.1 ∈ spansL h) → x.1 ∉ spansL h → E "NoStretch" [.int x.1.1, .int x.1.2] []) : WF (f_made_lot [.int h, sq j (es.map (enc2 k k2))]) Q E := by
  rw [f_made_lot, wf_mkF rfl]
  simp only [startE, m_made_lot, wn_seq]
  simp [l_made_lot_1]
  refine wn_loop (MkI h es k k2 j) (fun x r e hI => ?_) (fun e hI => ?_) ⟨[], es, [], fun _ => 0, rfl, rfl, rfl, List.nodup_nil, by simp, by simp, by simp, by simp⟩
  · obtain ⟨M, R, W, f, e1, e2, rfl, nd, hW, hf, hlen, hin⟩ := hI
    match R, e2 with
    | y :: R, e2 =>
      rw [List.map_cons, List.cons.injEq] at e2
      obtain ⟨rfl, rfl⟩ := e2
      have hM : M.length < es.length := by rw [e1, List.length_append, List.length_cons]; omega
      by_cases hy : y.1 ∈ spansL h
      · obtain ⟨g0, g1, g2⟩ := mem_spansL.mp hy
        have c := chk_in g0 g1 g2
        unfold b_made_lot_1
        simp [enc2, wn_sFg, wn_seq, c, dGet2_tab2, tabD_len]
        refine ⟨by omega, ?_⟩
        by_cases hw : y.1 ∈ W
        · have hw' : (y.1.1, y.1.2) ∈ W := hw
          refine ⟨M ++ [y], R, W, putF f (y.1, f y.1 + y.2), by rw [e1]; simp, rfl, ?_, nd, fun p => ?_, fun p hp => ?_, by simp; omega, fun it hi => ?_⟩
          · rw [if_pos hw', dput_in' hw']
          · rw [hW p, List.map_append, List.mem_append]
            refine ⟨.inl, fun z => z.elim id fun z => ?_⟩
            have : p = y.1 := by simpa using z
            rw [this]; exact (hW _).mp hw
          · rw [wkI_app, wkI_cons, wkI_nil]
            unfold putF
            by_cases hpy : p = y.1
            · subst hpy; simp [hf _ hp]
            · rw [if_neg hpy, if_neg (fun z => hpy z.symm), hf p hp]; omega
          · rcases List.mem_append.mp hi with hi | hi
            · exact hin it hi
            · rw [List.mem_singleton.mp hi]; exact hy
        · have hw' : (y.1.1, y.1.2) ∉ W := hw
          refine ⟨M ++ [y], R, W ++ [y.1], (fun p => if p = y.1 then 0 + y.2 else f p), by rw [e1]; simp, rfl, ?_, ?_, fun p => ?_, fun p hp => ?_, by simp; omega, fun it hi => ?_⟩
          · rw [if_neg hw']
            have := dput_out (L := W) (f := f) (q := y.1) (v := 0 + y.2) hw
            unfold keyR at this
            rw [this]
          · rw [List.nodup_append]
            exact ⟨nd, by simp, fun a ha b hb => by rw [List.mem_singleton.mp hb]; exact fun z => hw (z ▸ ha)⟩
          · rw [List.mem_append, hW p, List.map_append, List.mem_append]
            simp
          · rw [wkI_app, wkI_cons, wkI_nil]
            by_cases hpy : p = y.1
            · subst hpy
              have : wkI M y.1 = 0 := wkI_out fun z => hw ((hW _).mpr z)
              simp [this]
            · have hpW : p ∈ W := by
                rcases List.mem_append.mp hp with z | z
                · exact z
                · exact absurd (List.mem_singleton.mp z) hpy
              show (if p = y.1 then 0 + y.2 else f p) = _
              rw [if_neg hpy, if_neg (fun z => hpy z.symm), hf p hpW]; omega
          · rcases List.mem_append.mp hi with hi | hi
            · exact hin it hi
            · rw [List.mem_singleton.mp hi]; exact hy
      · have c := chk_out (h := h) (a := y.1.1) (b := y.1.2) (fun z => hy (mem_spansL.mpr z))
        unfold b_made_lot_1
        simp [enc2, wn_sFg, wn_seq, c, lentOf]
        exact he M y R e1 hin hy
  · obtain ⟨M, R, W, f, e1, e2, rfl, nd, hW, hf, hlen, hin⟩ := hI
    have : R = [] := by simpa using e2.symm
    subst this
    rw [List.append_nil] at e1
    subst e1
    have l1 : ∀ e6 e5 : Sl, e6 = .no → e5 = .no → c_made_lot_1 [.val (.int h), .val (sq j (es.map (enc2 k k2))), .ldc (tabD W f), .no, .no, e5, e6] = .ok (.lst (((W.filter fun p => decide (0 < f p)).map fun p => (p, f p)).map (encE true))) [.val (.int h), .val (sq j (es.map (enc2 k k2))), .ldc (tabD W f), .no, .no, e5, e6] := by
      rintro _ _ rfl rfl
      unfold c_made_lot_1
      rw [List.map_map]
      refine lc_filter (T := Int × Int) (L := W) (enc := fun p => .tup [encR p, .int (f p)]) (fun p => decide (0 < f p)) (fun p => encE true (p, f p)) (Wn.eq ?_) rfl (by omega) fun y hy => ?_
      · simp
        unfold itemsD tabD
        rw [List.map_map]
        rfl
      · simp [wipeE, encE, sq_true, encR]
    have pm : ((W.filter fun p => decide (0 < f p)).map fun p => (p, f p)).Perm (canon h (wkI es)) := by
      have e2 : (W.filter fun p => decide (0 < f p)) = W.filter fun p => decide (0 < wkI es p) := List.filter_congr fun p hp => by rw [hf p hp]
      have e3 : ((W.filter fun p => decide (0 < f p)).map fun p => (p, f p)) = (W.filter fun p => decide (0 < wkI es p)).map fun p => (p, wkI es p) := by
        rw [e2]
        exact List.map_congr_left fun p hp => by rw [hf p (List.mem_filter.mp hp).1]
      rw [e3]
      unfold canon
      refine List.Perm.map _ ((List.perm_ext_iff_of_nodup (nd.sublist List.filter_sublist) (spansL_nodup.sublist List.filter_sublist)).mpr fun p => ?_)
      rw [List.mem_filter, List.mem_filter]
      constructor
      · rintro ⟨h1, h2⟩
        obtain ⟨it, hi, rfl⟩ := List.mem_map.mp ((hW p).mp h1)
        exact ⟨hin it hi, h2⟩
      · rintro ⟨h1, h2⟩
        refine ⟨(hW p).mpr ?_, h2⟩
        by_cases z : p ∈ es.map (·.1)
        · exact z
        · rw [wkI_out z] at h2; simp at h2
    have so := dSortA_err pm canon_sorted
    simp [wn_eq (l1 _ _ rfl rfl), so, -List.map_map]
    exact hq hin
theorem made_wf {k j : Bool} {h : Int} {es : List Er} {Q : D → List (List D) → Prop} {E : Str → List D → List (List D) → Prop} (hl : es.length ≤ 10000) (hq : (∀ it ∈ es, it.1 ∈ spansL h) → Q (lotD true h (canon h (wkI es))) [])
    (he : ∀ pre x post, es = pre ++ x :: post → (∀ it ∈ pre, it.1 ∈ spansL h) → x.1 ∉ spansL h → E "NoStretch" [.int x.1.1, .int x.1.2] []) : WF (f_made_lot [.int h, sq j (es.map (encE k))]) Q E := made_wf2 (k := k) (k2 := k) hl hq he
theorem made_ok2 {k k2 j : Bool} {h : Int} {es : List Er} (hl : es.length ≤ 10000) (hin : ∀ it ∈ es, it.1 ∈ spansL h) : f_made_lot [.int h, sq j (es.map (enc2 k k2))] = .ok (lotD true h (canon h (wkI es))) [] := by
  refine WF.eq (made_wf2 hl (fun _ => ⟨rfl, rfl⟩) fun pre x post e h1 h2 => ?_)
  exact h2 (hin x (by rw [e]; simp))
theorem made_ok {k j : Bool} {h : Int} {es : List Er} (hl : es.length ≤ 10000) (hin : ∀ it ∈ es, it.1 ∈ spansL h) : f_made_lot [.int h, sq j (es.map (encE k))] = .ok (lotD true h (canon h (wkI es))) [] := by
  refine WF.eq (made_wf hl (fun _ => ⟨rfl, rfl⟩) fun pre x post e h1 h2 => ?_)
  exact h2 (hin x (by rw [e]; simp))
end AH
namespace AH
open PySem L2
variable [TheK]
theorem dEq_two {x y a b : Int} : dEq (.tup [.int x, .int y]) (.tup [.int a, .int b]) = .ok (decide ((x, y) = (a, b))) := by
  have h : D.eqv (.tup [.int x, .int y]) (.tup [.int a, .int b]) = decide ((x, y) = (a, b)) := by
    show (x == a && (y == b && true)) = _
    by_cases h1 : x = a <;> by_cases h2 : y = b <;> simp [h1, h2]
  unfold dEq
  rw [h]
  rfl
theorem eqv_encR {p q : Int × Int} : D.eqv (encR p) (encR q) = decide (p = q) := by
  obtain ⟨x, y⟩ := p
  obtain ⟨a, b⟩ := q
  show (x == a && (y == b && true)) = _
  by_cases h1 : x = a <;> by_cases h2 : y = b <;> simp [h1, h2]
theorem plainL_encR (L : List (Int × Int)) : D.plainL 39 (L.map encR) = true := plainL_iff.mpr fun x hx => by
  obtain ⟨p, _, rfl⟩ := List.mem_map.mp hx
  rfl
theorem any_encR {L : List (Int × Int)} {p : Int × Int} : ((L.map encR).any fun y => y.eqv (encR p)) = decide (p ∈ L) := by
  rw [List.any_map, Bool.eq_iff_iff, List.any_eq_true, decide_eq_true_eq]
  constructor
  · rintro ⟨q, hq, e⟩
    simp only [Function.comp, eqv_encR, decide_eq_true_eq] at e
    exact e ▸ hq
  · intro h
    exact ⟨p, h, by simp [Function.comp, eqv_encR]⟩
theorem dIn_win {L : List (Int × Int)} {p : Int × Int} : dIn (encR p) (.lst (L.map encR)) = .ok (decide (p ∈ L)) := by
  show (if (encR p).plain 40 && D.plainL 39 (L.map encR) then Rv.ok ((L.map encR).any fun y => y.eqv (encR p)) else .bad) = _
  rw [plainL_encR, any_encR]
  rfl
theorem dNotIn_win {L : List (Int × Int)} {p : Int × Int} : dNotIn (encR p) (.lst (L.map encR)) = .ok (!decide (p ∈ L)) := by
  have h := dIn_win (L := L) (p := p)
  unfold dNotIn
  rw [h]
theorem dNotIn_win2 {L : List (Int × Int)} {x y : Int} : dNotIn (.tup [.int x, .int y]) (.lst (L.map encR)) = .ok (!decide ((x, y) ∈ L)) := dNotIn_win (p := (x, y))
theorem dIn_win2 {L : List (Int × Int)} {x y : Int} : dIn (.tup [.int x, .int y]) (.lst (L.map encR)) = .ok (decide ((x, y) ∈ L)) := dIn_win (p := (x, y))
theorem sm_str {n : Nat} {s : Str} (h : PySem.PyData.strOk s = true) : (D.str s).sm n = true := by cases n <;> exact h
@[simp] theorem sm_none {n : Nat} : (D.str "none").sm n = true := sm_str (by kernel_rfl)
@[simp] theorem sm_unlike {n : Nat} : (D.str "unlike").sm n = true := sm_str (by kernel_rfl)
@[simp] theorem sm_unfit {n : Nat} : (D.str "unfit").sm n = true := sm_str (by kernel_rfl)
@[simp] theorem sm_alike {n : Nat} : (D.str "alike").sm n = true := sm_str (by kernel_rfl)
@[simp] theorem sm_lighter {n : Nat} : (D.str "lighter").sm n = true := sm_str (by kernel_rfl)
@[simp] theorem sm_heavier {n : Nat} : (D.str "heavier").sm n = true := sm_str (by kernel_rfl)
@[simp] theorem sm_neither {n : Nat} : (D.str "neither").sm n = true := sm_str (by kernel_rfl)
/-! ### lots as lists; their size -/
theorem li_lot {s : Int} {its : List Er} : (lotD true s its).li = lotD false s its := by
  unfold lotD
  rw [sq_true, sq_true, sq_false, sq_false, li_tup]
  simp [li_tup, List.map_map]
  intro a b c _
  simp [encE, sq_true, sq_false]
theorem sm_encE {k : Bool} {it : Er} : (encE k it).sm 2 = true := by cases k <;> simp [encE, sq]
theorem sm_sq {k : Bool} {n : Nat} {xs : List D} (h1 : xs.length ≤ 10000) (h2 : ∀ x ∈ xs, x.sm n = true) : (sq k xs).sm (n + 1) = true := by
  cases k
  · exact sm_lst.mpr ⟨h1, h2⟩
  · exact sm_tup.mpr ⟨h1, h2⟩
theorem sm_errs {k j : Bool} {its : List Er} (h : its.length ≤ 10000) : (sq j (its.map (encE k))).sm 3 = true := sm_sq (by rw [List.length_map]; omega) fun x hx => by
  obtain ⟨r, _, rfl⟩ := List.mem_map.mp hx
  exact sm_encE
theorem sm_lot {k : Bool} {s : Int} {its : List Er} (h : its.length ≤ 10000) : (lotD k s its).sm 4 = true := sm_sq (by simp) fun x hx => by
  simp only [List.mem_cons, List.not_mem_nil, or_false] at hx
  rcases hx with rfl | rfl
  · rfl
  · exact sm_errs h
theorem lists_lot {s : Int} {its : List Er} (h : its.length ≤ 10000) : f_law_lists 30 [lotD true s its] = .ok (lotD false s its) [] := by
  have := lists_ok (k := 30) (d := lotD true s its) (sm_lot h) (by omega)
  rwa [li_lot] at this
theorem er_ix0 {p : Int × Int} : dIx (encR p) (.int 0) = .ok (.int p.1) := rfl
theorem er_ix1 {p : Int × Int} : dIx (encR p) (.int 1) = .ok (.int p.2) := rfl
theorem ee_ix0 {k : Bool} {it : Er} : dIx (encE k it) (.int 0) = .ok (sq k [.int it.1.1, .int it.1.2]) := by cases k <;> rfl
theorem ee_ix1 {k : Bool} {it : Er} : dIx (encE k it) (.int 1) = .ok (.int it.2) := by cases k <;> rfl
theorem eqv_lot {k : Bool} {s : Int} {its : List Er} (h : its.length ≤ 10000) : dEq (lotD k s its) (lotD k s its) = .ok true := dEq_self (sm_lot h) (by omega)
/-! ### all work -/
def allI (its : List Er) : Int := (its.map (·.2)).sum
theorem all_work_ok {k : Bool} {s : Int} {its : List Er} (hl : its.length ≤ 10000) : f_all_work [lotD k s its] = .ok (.int (allI its)) [] := by
  have l1 : c_all_work_1 [.val (lotD k s its), .no, .no] = .ok (.lst (its.map fun it => .int it.2)) [.val (lotD k s its), .no, .no] := by
    unfold c_all_work_1
    refine lc_map (T := Er) (L := its) (enc := encE k) (fun it => .int it.2) (Wn.eq (by simp)) rfl (by omega) fun y hy => ?_
    simp [wipeE, encE]
  refine WF.eq ?_
  rw [f_all_work, wf_mkF rfl]
  simp [startE, m_all_work, wn_eq l1, allI]
theorem hours_ok {k : Bool} {s : Int} {its : List Er} : f_hours_of [lotD k s its] = .ok (.int s) [] := by
  refine WF.eq ?_
  rw [f_hours_of, wf_mkF rfl]
  simp [startE, m_hours_of]
/-! ### the turns of a law -/
theorem right_turns {n : Nat} {c m : Nat} {b : DS} {fs : List Sl} (hm : c * m ≤ 2 ^ 59) (hm1 : m ≤ 1000) (hf : fs = List.replicate n .no)
    (ht : ∀ (k : Nat) (x : Int) (bx : List D), 0 ≤ x → x < m → Bx (k + c) bx → Wn b (.bor bx :: .val (.int x) :: fs) (fun o e => o = .nx ∧ ∃ by_, e = .bor by_ :: .no :: fs ∧ Bx k by_) NoE) :
    Right (mkF (n + 2) [.bor] (sSeq (sFor (iRng1 (eC (.int m))) (gN 1) b) (sRet (eC (.bl true))))) := by
  intro xs hb
  rw [wf_mkF rfl]
  simp only [startE, wn_seq]
  have e0 : [Sl.bor xs] ++ List.replicate (n + 2 - [Md.bor].length) Sl.no = .bor xs :: .no :: fs := by
    rw [hf]
    show Sl.bor xs :: List.replicate (n + 1) Sl.no = _
    rw [List.replicate_succ]
  rw [e0]
  simp only [wn_sFor, wn_iRng1, wn_c, wi_int]
  refine ⟨by simp; omega, ?_⟩
  refine wn_loop (fun xs e => ∃ by_, e = .bor by_ :: .no :: fs ∧ Bx (c * xs.length) by_ ∧ ∀ y ∈ xs, ∃ i : Int, 0 ≤ i ∧ i < m ∧ y = .int i) (fun y r e hI => ?_) (fun e hI => ?_) ⟨xs, rfl, hb.le (by rw [rng_len]; simpa using hm), fun y hy => by obtain ⟨i, h0, h1, rfl⟩ := rng_mem hy; exact ⟨i, h0, h1, rfl⟩⟩
  · obtain ⟨by_, rfl, h1, h2⟩ := hI
    obtain ⟨i, i0, i1, rfl⟩ := h2 y List.mem_cons_self
    rw [List.length_cons, Nat.mul_succ] at h1
    simp only [wn_gN, x_slS, x_sl0, x_isOwn1, true_and, x_putS, x_put0]
    refine (ht (c * r.length) i by_ i0 i1 h1).imp (fun o e h => ?_) fun _ _ _ z => z.elim
    obtain ⟨rfl, by2, rfl, g1⟩ := h
    exact ⟨by2, rfl, g1, fun z hz => h2 z (List.mem_cons_of_mem _ hz)⟩
  · obtain ⟨by_, rfl, h1, _⟩ := hI
    simp
end AH
namespace AH
open PySem L2
variable [TheK]
/-! ### dicts that grow -/
structure Grow (M : List Er) (W : List (Int × Int)) (f : Int × Int → Int) : Prop where
  nd : W.Nodup
  mem : ∀ p, p ∈ W ↔ p ∈ M.map (·.1)
  val : ∀ p ∈ W, f p = wkI M p
  len : W.length ≤ M.length
theorem Grow.nil : Grow [] [] fun _ => 0 := ⟨List.nodup_nil, by simp, by simp, Nat.le_refl _⟩
theorem Grow.add {M : List Er} {W : List (Int × Int)} {f : Int × Int → Int} (G : Grow M W f) (y : Er) : ∃ W' f', dput (tabD W f) (keyR y.1) (.int ((if y.1 ∈ W then f y.1 else 0) + y.2)) = tabD W' f' ∧ Grow (M ++ [y]) W' f' := by
  by_cases hw : y.1 ∈ W
  · refine ⟨W, _, by rw [if_pos hw]; exact dput_in hw, G.nd, fun p => ?_, fun p hp => ?_, by have := G.len; simp; omega⟩
    · rw [G.mem p, List.map_append, List.mem_append]
      refine ⟨.inl, fun z => z.elim id fun z => ?_⟩
      have : p = y.1 := by simpa using z
      rw [this]; exact (G.mem _).mp hw
    · rw [wkI_app, wkI_cons, wkI_nil]
      by_cases hpy : p = y.1
      · subst hpy; simp [G.val _ hp]
      · have hpy' : y.1 ≠ p := fun z => hpy z.symm
        simp [hpy, hpy', G.val p hp]
  · refine ⟨W ++ [y.1], _, by rw [if_neg hw]; exact dput_out hw, ?_, fun p => ?_, fun p hp => ?_, by have := G.len; simp; omega⟩
    · rw [List.nodup_append]
      exact ⟨G.nd, by simp, fun a ha b hb => by rw [List.mem_singleton.mp hb]; exact fun z => hw (z ▸ ha)⟩
    · rw [List.mem_append, G.mem p, List.map_append, List.mem_append]
      simp
    · rw [wkI_app, wkI_cons, wkI_nil]
      by_cases hpy : p = y.1
      · subst hpy
        have : wkI M y.1 = 0 := wkI_out fun z => hw ((G.mem _).mpr z)
        simp [this]
      · have hpW : p ∈ W := by
          rcases List.mem_append.mp hp with z | z
          · exact z
          · exact absurd (List.mem_singleton.mp z) hpy
        have hpy' : y.1 ≠ p := fun z => hpy z.symm
        simp [hpy, hpy', G.val p hpW]
theorem Grow.set {M : List Er} {W : List (Int × Int)} {f : Int × Int → Int} (G : Grow M W f) (y : Er) (hy : y.1 ∉ M.map (·.1)) : ∃ W' f', dput (tabD W f) (keyR y.1) (.int y.2) = tabD W' f' ∧ Grow (M ++ [y]) W' f' := by
  obtain ⟨W', f', h1, h2⟩ := G.add y
  rw [if_neg (fun z => hy ((G.mem _).mp z)), Int.zero_add] at h1
  exact ⟨W', f', h1, h2⟩
theorem law_made_gen {s : Int} {M : List Er} {W : List (Int × Int)} {f : Int × Int → Int} (G : Grow M W f) (hin : ∀ it ∈ M, it.1 ∈ spansL s) (hs : M.length ≤ 10000) : f_law_made [.int s, .dic (tabD W f)] = .ok (lotD true s (canon s (wkI M))) [] := by
  have hm : ∀ p, p ∈ W → p ∈ spansL s := fun p hp => by
    obtain ⟨it, hi, rfl⟩ := List.mem_map.mp ((G.mem p).mp hp)
    exact hin it hi
  have pm : W.Perm ((spansL s).filter fun p => decide (p ∈ W)) := (List.perm_ext_iff_of_nodup G.nd (spansL_nodup.sublist List.filter_sublist)).mpr fun p => by
    rw [List.mem_filter, decide_eq_true_eq]
    exact ⟨fun z => ⟨hm p z, z⟩, fun z => z.2⟩
  have so := dSortK_tab (f := f) pm (spansL_sorted.sublist List.filter_sublist)
  have gl := G.len
  have l1 : c_law_made_1 [.val (.int s), .ro (.dic (tabD W f)), .no] = .ok (.lst ((((spansL s).filter fun p => decide (p ∈ W)).filter fun p => decide (0 < f p)).map fun p => encE true (p, f p))) [.val (.int s), .ro (.dic (tabD W f)), .no] := by
    unfold c_law_made_1
    refine lc_filter (T := Int × Int) (L := (spansL s).filter fun p => decide (p ∈ W)) (enc := encR) (fun p => decide (0 < f p)) (fun p => encE true (p, f p)) (Wn.eq (by simp [so])) rfl (by rw [← pm.length_eq]; omega) fun y hy => ?_
    have ix := dIx_tab (f := f) (pm.symm.subset hy)
    have ee : encE true (y, f y) = .tup [encR y, .int (f y)] := rfl
    simp [wipeE, ix, ee]
  have ec : ((((spansL s).filter fun p => decide (p ∈ W)).filter fun p => decide (0 < f p)).map fun p => encE true (p, f p)) = (canon s (wkI M)).map (encE true) := by
    unfold canon
    rw [List.map_map, List.filter_filter]
    have e1 : ((spansL s).filter fun p => decide (0 < f p) && decide (p ∈ W)) = (spansL s).filter fun p => decide (0 < wkI M p) := List.filter_congr fun p hp => by
      by_cases hw : p ∈ W
      · simp [hw, G.val p hw]
      · have : wkI M p = 0 := wkI_out fun z => hw ((G.mem p).mpr z)
        simp [hw, this]
    rw [e1]
    apply List.map_congr_left
    intro p hp
    obtain ⟨_, h2⟩ := List.mem_filter.mp hp
    have hw : p ∈ W := by
      by_cases hw : p ∈ W
      · exact hw
      · rw [wkI_out fun z => hw ((G.mem p).mpr z)] at h2; simp at h2
    show encE true (p, f p) = encE true (p, wkI M p)
    rw [G.val p hw]
  rw [ec] at l1
  refine WF.eq ?_
  rw [f_law_made, wf_mkF rfl]
  simp [startE, m_law_made, wn_eq l1, lotD, sq_true]
/-! ### hours counted otherwise -/
def bhI (s : Int) (it : Er) : Er := ((s - 1 - it.1.2, s - 1 - it.1.1), it.2)
def jnH (a i : Int) : Int := i - (if a < i then 1 else 0)
def ptH (a i : Int) : Int := i + (if a ≤ i then 1 else 0)
def jnI (a : Int) (it : Er) : Er := ((jnH a it.1.1, jnH a it.1.2), it.2)
def ptI (a : Int) (it : Er) : Er := ((ptH a it.1.1, ptH a it.1.2), it.2)
theorem bh_in {s : Int} {it : Er} (h : it.1 ∈ spansL s) : (bhI s it).1 ∈ spansL s := by
  rw [mem_spansL] at h ⊢
  simp only [bhI]
  omega
theorem jn_in {s a : Int} {it : Er} (h0 : 0 ≤ a) (h1 : a < s - 1) (h : it.1 ∈ spansL s) : (jnI a it).1 ∈ spansL (s - 1) := by
  rw [mem_spansL] at h ⊢
  simp only [jnI, jnH]
  split <;> split <;> omega
theorem pt_in {s a : Int} {it : Er} (h0 : 0 ≤ a) (h1 : a ≤ s) (h : it.1 ∈ spansL s) : (ptI a it).1 ∈ spansL (s + 1) := by
  rw [mem_spansL] at h ⊢
  simp only [ptI, ptH]
  split <;> split <;> omega
theorem behind_ok {k : Bool} {s : Int} {its : List Er} (hl : its.length ≤ 10000) (hin : ∀ it ∈ its, it.1 ∈ spansL s) : f_behind [lotD k s its] = .ok (lotD true s (canon s (wkI (its.map (bhI s))))) [] := by
  have l1 : c_behind_1 [.val (lotD k s its), .val (.int (s - 1)), .no, .no, .no] = .ok (.lst ((its.map (bhI s)).map (encE true))) [.val (lotD k s its), .val (.int (s - 1)), .no, .no, .no] := by
    unfold c_behind_1
    rw [List.map_map]
    refine lc_map (T := Er) (L := its) (enc := encE k) (fun it => encE true (bhI s it)) (Wn.eq (by simp)) rfl (by omega) fun y hy => ?_
    simp [wipeE, encE, bhI, sq_true]
  have mk := made_ok (k := true) (j := false) (h := s) (es := its.map (bhI s)) (by rw [List.length_map]; omega) fun it hi => by
    obtain ⟨y, hy, rfl⟩ := List.mem_map.mp hi
    exact bh_in (hin y hy)
  rw [sq_false] at mk
  refine WF.eq ?_
  rw [f_behind, wf_mkF rfl]
  simp [startE, m_behind, wn_seq, wn_eq l1, mk, -List.map_map]
theorem joined_out {k : Bool} {s a : Int} {its : List Er} (h : ¬ (0 ≤ a ∧ a < s - 1)) : f_joined [lotD k s its, .int a] = .ex "NoHour" [.int a] [] := by
  refine WF.ex_eq ?_
  rw [f_joined, wf_mkF rfl]
  by_cases c1 : 0 ≤ a
  · have c2 : ¬ a < s - 1 := fun z => h ⟨c1, z⟩
    simp [startE, m_joined, wn_seq, c1, c2, lentOf]
  · simp [startE, m_joined, wn_seq, c1, lentOf]
theorem putin_out {k : Bool} {s a : Int} {its : List Er} (h : ¬ (0 ≤ a ∧ a ≤ s)) : f_put_in [lotD k s its, .int a] = .ex "NoHour" [.int a] [] := by
  refine WF.ex_eq ?_
  rw [f_put_in, wf_mkF rfl]
  by_cases c1 : 0 ≤ a
  · have c2 : ¬ a ≤ s := fun z => h ⟨c1, z⟩
    simp [startE, m_put_in, wn_seq, c1, c2, lentOf]
  · simp [startE, m_put_in, wn_seq, c1, lentOf]
theorem atI_rng {s i : Int} {f : Int → Int} (h0 : 0 ≤ i) (h1 : i < s) : atI ((intsR 0 s).map fun j => D.int (f j)) i = some (.int (f i)) := by
  obtain ⟨n, rfl⟩ : ∃ n : Nat, i = n := ⟨i.toNat, by omega⟩
  have hl : n < (intsR 0 s).length := by rw [intsR_len]; omega
  rw [atI_nat (by rw [List.length_map]; exact hl), List.getElem_map]
  congr 2
  unfold intsR
  rw [List.getElem_map, List.getElem_range]
  simp
theorem joined_ok {k : Bool} {s a : Int} {its : List Er} (h0 : 0 ≤ a) (h1 : a < s - 1) (hs : s ≤ 1000) (hl : its.length ≤ 10000) (hin : ∀ it ∈ its, it.1 ∈ spansL s) : f_joined [lotD k s its, .int a] = .ok (lotD true (s - 1) (canon (s - 1) (wkI (its.map (jnI a))))) [] := by
  have l1 : c_joined_1 [.val (lotD k s its), .val (.int a), .no, .no, .no, .no, .no] = .ok (.lst ((intsR 0 s).map fun j => .int (jnH a j))) [.val (lotD k s its), .val (.int a), .no, .no, .no, .no, .no] := by
    unfold c_joined_1
    refine lc_map (T := Int) (L := intsR 0 s) (enc := D.int) (fun j => .int (jnH a j)) (Wn.eq (by simp [rng_eq]; omega)) rfl (by rw [intsR_len]; omega) fun y hy => ?_
    simp [wipeE, jnH]
  have l2 : c_joined_2 [.val (lotD k s its), .val (.int a), .val (.lst ((intsR 0 s).map fun j => .int (jnH a j))), .no, .no, .no, .no] = .ok (.lst ((its.map (jnI a)).map (encE true))) [.val (lotD k s its), .val (.int a), .val (.lst ((intsR 0 s).map fun j => .int (jnH a j))), .no, .no, .no, .no] := by
    unfold c_joined_2
    rw [List.map_map]
    refine lc_map (T := Er) (L := its) (enc := encE k) (fun it => encE true (jnI a it)) (Wn.eq (by simp)) rfl (by omega) fun y hy => ?_
    obtain ⟨g0, g1, g2⟩ := mem_spansL.mp (hin y hy)
    have e1 := atI_rng (s := s) (i := y.1.1) (f := jnH a) (by omega) (by omega)
    have e2 := atI_rng (s := s) (i := y.1.2) (f := jnH a) (by omega) (by omega)
    simp [wipeE, encE, jnI, sq_true, e1, e2]
  have mk := made_ok (k := true) (j := false) (h := s - 1) (es := its.map (jnI a)) (by rw [List.length_map]; omega) fun it hi => by
    obtain ⟨y, hy, rfl⟩ := List.mem_map.mp hi
    exact jn_in h0 h1 (hin y hy)
  rw [sq_false] at mk
  refine WF.eq ?_
  rw [f_joined, wf_mkF rfl]
  simp [startE, m_joined, wn_seq, wn_eq l1, wn_eq l2, mk, h0, h1, -List.map_map]
theorem putin_ok {k : Bool} {s a : Int} {its : List Er} (h0 : 0 ≤ a) (h1 : a ≤ s) (hs : s ≤ 1000) (hl : its.length ≤ 10000) (hin : ∀ it ∈ its, it.1 ∈ spansL s) : f_put_in [lotD k s its, .int a] = .ok (lotD true (s + 1) (canon (s + 1) (wkI (its.map (ptI a))))) [] := by
  have l1 : c_put_in_1 [.val (lotD k s its), .val (.int a), .no, .no, .no, .no, .no] = .ok (.lst ((intsR 0 s).map fun j => .int (ptH a j))) [.val (lotD k s its), .val (.int a), .no, .no, .no, .no, .no] := by
    unfold c_put_in_1
    refine lc_map (T := Int) (L := intsR 0 s) (enc := D.int) (fun j => .int (ptH a j)) (Wn.eq (by simp [rng_eq]; omega)) rfl (by rw [intsR_len]; omega) fun y hy => ?_
    simp [wipeE, ptH]
  have l2 : c_put_in_2 [.val (lotD k s its), .val (.int a), .val (.lst ((intsR 0 s).map fun j => .int (ptH a j))), .no, .no, .no, .no] = .ok (.lst ((its.map (ptI a)).map (encE true))) [.val (lotD k s its), .val (.int a), .val (.lst ((intsR 0 s).map fun j => .int (ptH a j))), .no, .no, .no, .no] := by
    unfold c_put_in_2
    rw [List.map_map]
    refine lc_map (T := Er) (L := its) (enc := encE k) (fun it => encE true (ptI a it)) (Wn.eq (by simp)) rfl (by omega) fun y hy => ?_
    obtain ⟨g0, g1, g2⟩ := mem_spansL.mp (hin y hy)
    have e1 := atI_rng (s := s) (i := y.1.1) (f := ptH a) (by omega) (by omega)
    have e2 := atI_rng (s := s) (i := y.1.2) (f := ptH a) (by omega) (by omega)
    simp [wipeE, encE, ptI, sq_true, e1, e2]
  have mk := made_ok (k := true) (j := false) (h := s + 1) (es := its.map (ptI a)) (by rw [List.length_map]; omega) fun it hi => by
    obtain ⟨y, hy, rfl⟩ := List.mem_map.mp hi
    exact pt_in h0 h1 (hin y hy)
  rw [sq_false] at mk
  refine WF.eq ?_
  rw [f_put_in, wf_mkF rfl]
  simp [startE, m_put_in, wn_seq, wn_eq l1, wn_eq l2, mk, h0, h1, -List.map_map]
theorem canon_len {s : Int} {f : Int × Int → Int} (h0 : 0 ≤ s) (h1 : s ≤ 100) : (canon s f).length ≤ 10000 := by
  have sq2 : s.toNat * s.toNat ≤ 10000 := Nat.mul_le_mul (show s.toNat ≤ 100 by omega) (show s.toNat ≤ 100 by omega)
  have ln := spansL_len h0
  unfold canon
  rw [List.length_map]
  exact Nat.le_trans (List.length_filter_le _ _) (by omega)
end AH
namespace AH
open PySem L2
variable [TheK]
/-! ### two lots of as many hours -/
theorem same_in {k j : Bool} {s : Int} {its its' : List Er} : f_check_same [lotD k s its, lotD j s its'] = .ok .non [] := by
  refine WF.eq ?_
  rw [f_check_same, wf_mkF rfl]
  simp [startE, m_check_same]
theorem same_out {k j : Bool} {s s' : Int} {its its' : List Er} (h : s ≠ s') : f_check_same [lotD k s its, lotD j s' its'] = .ex "Unlike" [] [] := by
  have e : (s == s') = false := by simpa using h
  refine WF.ex_eq ?_
  rw [f_check_same, wf_mkF rfl]
  simp [startE, m_check_same, h, lentOf]
theorem added_ok {k : Bool} {s : Int} {its its' : List Er} (hl : its.length ≤ 1000) (hl' : its'.length ≤ 1000) (hin : ∀ it ∈ its, it.1 ∈ spansL s) (hin' : ∀ it ∈ its', it.1 ∈ spansL s) : f_added [lotD k s its, lotD k s its'] = .ok (lotD true s (canon s fun p => wkI its p + wkI its' p)) [] := by
  have c := same_in (k := k) (j := k) (s := s) (its := its) (its' := its')
  have mk := made_ok (k := k) (j := false) (h := s) (es := its ++ its') (by rw [List.length_append]; omega) fun it hi => (List.mem_append.mp hi).elim (hin it) (hin' it)
  rw [sq_false, List.map_append, canon_congr (g := fun p => wkI its p + wkI its' p) fun p _ => wkI_app] at mk
  refine WF.eq ?_
  rw [f_added, wf_mkF rfl]
  simp [startE, m_added, wn_seq, c, mk]
  omega
theorem added_out {k : Bool} {s s' : Int} {its its' : List Er} (h : s ≠ s') : f_added [lotD k s its, lotD k s' its'] = .ex "Unlike" [] [] := by
  have c := same_out (k := k) (j := k) (its := its) (its' := its') h
  refine WF.ex_eq ?_
  rw [f_added, wf_mkF rfl]
  simp [startE, m_added, wn_seq, c, lentOf]
theorem wkI_mul {m : Int} {its : List Er} {p : Int × Int} : wkI (its.map fun it => (it.1, m * it.2)) p = m * wkI its p := by
  induction its with
  | nil => simp [wkI_nil]
  | cons y its ih =>
    rw [List.map_cons, wkI_cons, wkI_cons, ih, Int.mul_add]
    split <;> simp
theorem times_ok {k : Bool} {s m : Int} {its : List Er} (hl : its.length ≤ 1000) (hm : ∀ it ∈ its, mulOk m it.2 = true) (hin : ∀ it ∈ its, it.1 ∈ spansL s) : f_times_over [lotD k s its, .int m] = .ok (lotD true s (canon s fun p => m * wkI its p)) [] := by
  have l1 : c_times_over_1 [.val (lotD k s its), .val (.int m), .no, .no] = .ok (.lst ((its.map fun it => (it.1, m * it.2)).map (enc2 true k))) [.val (lotD k s its), .val (.int m), .no, .no] := by
    unfold c_times_over_1
    rw [List.map_map]
    refine lc_map (T := Er) (L := its) (enc := encE k) (fun it => enc2 true k (it.1, m * it.2)) (Wn.eq (by simp)) rfl (by omega) fun y hy => ?_
    simp [wipeE, encE, enc2, sq_true, hm y hy]
  have mk := made_ok2 (k := true) (k2 := k) (j := false) (h := s) (es := its.map fun it => (it.1, m * it.2)) (by rw [List.length_map]; omega) fun it hi => by
    obtain ⟨y, hy, rfl⟩ := List.mem_map.mp hi
    exact hin y hy
  rw [sq_false, canon_congr (g := fun p => m * wkI its p) fun p _ => wkI_mul] at mk
  refine WF.eq ?_
  rw [f_times_over, wf_mkF rfl]
  simp [startE, m_times_over, wn_seq, wn_eq l1, mk, -List.map_map]
end AH
namespace AH
open PySem L2
variable [TheK]
/-! ### what stretches ask more -/
theorem law_asked_ok {k : Bool} {s : Int} {its : List Er} {p : Int × Int} (hl : its.length ≤ 1000) : f_law_asked [lotD k s its, encR p] = .ok (.int (askI its p.1 p.2)) [] := by
  have l1 : c_law_asked_1 [.val (lotD k s its), .val (encR p), .no, .no, .no] = .ok (.lst ((its.filter fun it => decide (p.1 ≤ it.1.1) && decide (it.1.2 ≤ p.2)).map fun it => .int it.2)) [.val (lotD k s its), .val (encR p), .no, .no, .no] := by
    unfold c_law_asked_1
    refine lc_filter (T := Er) (L := its) (enc := encE k) (fun it => decide (p.1 ≤ it.1.1) && decide (it.1.2 ≤ p.2)) (fun it => .int it.2) (Wn.eq (by simp)) rfl (by omega) fun y hy => ?_
    have e0 : dIx (sq k [.int y.1.1, .int y.1.2]) (.int 0) = .ok (.int y.1.1) := ix0
    have e1 : dIx (sq k [.int y.1.1, .int y.1.2]) (.int 1) = .ok (.int y.1.2) := ix1
    by_cases c1 : p.1 ≤ y.1.1
    · simp [wipeE, encE, er_ix0, er_ix1, e0, e1, -dIx_sq, c1]
    · simp [wipeE, encE, er_ix0, er_ix1, e0, e1, -dIx_sq, c1]
  refine WF.eq ?_
  rw [f_law_asked, wf_mkF rfl]
  simp [startE, m_law_asked, wn_seq, wn_eq l1, askI]
def dfI (its its' : List Er) (p : Int × Int) : Int := askI its p.1 p.2 - askI its' p.1 p.2
theorem law_over_ok {k j : Bool} {s s' : Int} {its its' : List Er} (h0 : 0 ≤ s) (h1 : s ≤ 100) (hl : its.length ≤ 1000) (hl' : its'.length ≤ 1000) : f_law_over [lotD k s its, lotD j s' its'] = .ok (.lst ((spansL s).map fun p => .int (dfI its its' p))) [] := by
  have sp := spans_ok h0 h1
  have sq2 : s.toNat * s.toNat ≤ 10000 := Nat.mul_le_mul (show s.toNat ≤ 100 by omega) (show s.toNat ≤ 100 by omega)
  have ln := spansL_len h0
  have l1 : c_law_over_1 [.val (lotD k s its), .val (lotD j s' its'), .no] = .ok (.lst ((spansL s).map fun p => .int (dfI its its' p))) [.val (lotD k s its), .val (lotD j s' its'), .no] := by
    unfold c_law_over_1
    refine lc_map (T := Int × Int) (L := spansL s) (enc := encR) (fun p => .int (dfI its its' p)) (Wn.eq (by simp [sp])) rfl (by omega) fun y hy => ?_
    simp [wipeE, law_asked_ok (k := k) (s := s) (p := y) hl, law_asked_ok (k := j) (s := s') (p := y) hl', dfI]
  refine WF.eq ?_
  rw [f_law_over, wf_mkF rfl]
  simp [startE, m_law_over, wn_eq l1]
def encT (f : Int × Int → Int) (p : Int × Int) : D := .tup [.int p.1, .int p.2, .int (f p)]
theorem diff_ok {k j : Bool} {s : Int} {its its' : List Er} (h0 : 0 ≤ s) (h1 : s ≤ 100) (hl : its.length ≤ 1000) (hl' : its'.length ≤ 1000) : f_differences [lotD k s its, lotD j s its'] = .ok (.lst ((spansL s).map (encT (dfI its its')))) [] := by
  have c := same_in (k := k) (j := j) (s := s) (its := its) (its' := its')
  have st := str_ok h0 h1
  have t1 := table_ok (k := k) (s := s) (its := its) hl h0 h1
  have t2 := table_ok (k := j) (s := s) (its := its') hl' h0 h1
  have sq2 : s.toNat * s.toNat ≤ 10000 := Nat.mul_le_mul (show s.toNat ≤ 100 by omega) (show s.toNat ≤ 100 by omega)
  have ln := spansL_len h0
  have tr : ∀ L : List (Int × Int), trips (L.map encR) (L.map fun p => D.int (askI its p.1 p.2)) (L.map fun p => D.int (askI its' p.1 p.2)) = L.map fun p => D.tup [encR p, .int (askI its p.1 p.2), .int (askI its' p.1 p.2)] := by
    intro L
    unfold trips
    induction L with
    | nil => rfl
    | cons p L ih => simp only [List.map_cons, List.zip_cons_cons]; rw [ih]
  have q : ∀ (L M : List (Int × Int)), M ++ L = spansL s → loop (gT (gsCons (gT (gsCons (gN 3) (gsCons (gN 4) gsNil))) (gsCons (gN 5) (gsCons (gN 6) gsNil)))) b_differences_1 (L.map fun p => D.tup [encR p, .int (askI its p.1 p.2), .int (askI its' p.1 p.2)]) [.val (lotD k s its), .val (lotD j s its'), .own (M.map (encT (dfI its its'))), .no, .no, .no, .no] = .ok .nx [.val (lotD k s its), .val (lotD j s its'), .own ((spansL s).map (encT (dfI its its'))), .no, .no, .no, .no] := by
    intro L
    induction L with
    | nil => intro M e; rw [List.append_nil] at e; subst e; rfl
    | cons p L ih =>
      intro M e
      have hM : M.length < (spansL s).length := by rw [← e, List.length_append, List.length_cons]; omega
      rw [List.map_cons, loop_cons (e' := [.val (lotD k s its), .val (lotD j s its'), .own ((M ++ [p]).map (encT (dfI its its'))), .no, .no, .no, .no])]
      · exact ih (M ++ [p]) (by rw [List.append_assoc]; exact e)
      · unfold b_differences_1
        simp [encR, wn_sFg, encT, dfI]
        omega
  have q0 := q (spansL s) [] rfl
  rw [List.map_nil] at q0
  refine WF.eq ?_
  rw [f_differences, wf_mkF rfl]
  simp only [startE, m_differences, wn_seq]
  simp [c, l_differences_1, st, t1, t2, tr]
  rw [wn_eq q0]
  simp [rel_sp]
theorem diff_out {k j : Bool} {s s' : Int} {its its' : List Er} (h : s ≠ s') : f_differences [lotD k s its, lotD j s' its'] = .ex "Unlike" [] [] := by
  have c := same_out (k := k) (j := j) (its := its) (its' := its') h
  refine WF.ex_eq ?_
  rw [f_differences, wf_mkF rfl]
  simp [startE, m_differences, wn_seq, c, lentOf]
theorem nmore_ok {k j : Bool} {s : Int} {its its' : List Er} (h0 : 0 ≤ s) (h1 : s ≤ 100) (hl : its.length ≤ 1000) (hl' : its'.length ≤ 1000) : f_never_more [lotD k s its, lotD j s its'] = .ok (.bl ((spansL s).all fun p => decide (dfI its its' p ≤ 0))) [] := by
  have d := diff_ok (k := k) (j := j) h0 h1 hl hl'
  have sq2 : s.toNat * s.toNat ≤ 10000 := Nat.mul_le_mul (show s.toNat ≤ 100 by omega) (show s.toNat ≤ 100 by omega)
  have ln := spansL_len h0
  have l1 : c_never_more_1 [.val (lotD k s its), .val (lotD j s its'), .no, .no, .no] = .ok (.lst ((spansL s).map fun p => .bl (decide (dfI its its' p ≤ 0)))) [.val (lotD k s its), .val (lotD j s its'), .no, .no, .no] := by
    unfold c_never_more_1
    refine lc_map (T := Int × Int) (L := spansL s) (enc := encT (dfI its its')) (fun p => .bl (decide (dfI its its' p ≤ 0))) (Wn.eq (by simp [d])) rfl (by omega) fun y hy => ?_
    simp [wipeE, encT]
  refine WF.eq ?_
  rw [f_never_more, wf_mkF rfl]
  simp [startE, m_never_more, wn_eq l1]
theorem Wn.ex_eq {α : Type} {m : M α} {e e1 : Env} {c : Str} {fs : List D} (h : Wn m e (fun _ _ => False) (fun c' fs' e' => c' = c ∧ fs' = fs ∧ e' = e1)) : m e = .ex c fs e1 := by
  unfold Wn at h
  cases q : m e with
  | ok a e2 => rw [q] at h; exact h.elim
  | ex _ _ _ => rw [q] at h; obtain ⟨rfl, rfl, rfl⟩ := h; rfl
  | bad => rw [q] at h; exact h.elim
theorem lc_ex {vs : List Nat} {it : DI} {g : DG} {t : DT} {a : DE} {e e1 : Env} {c : Str} {fs : List D} (h : it e = .ex c fs e1) : eLc vs it g t a e = .ex c fs e1 := by
  unfold eLc M.bind
  rw [h]
theorem nmore_out {k j : Bool} {s s' : Int} {its its' : List Er} (h : s ≠ s') : f_never_more [lotD k s its, lotD j s' its'] = .ex "Unlike" [] [] := by
  have d := diff_out (k := k) (j := j) (its := its) (its' := its') h
  have cx : eCall f_differences [.e (eVar 0), .e (eVar 1)] [.val (lotD k s its), .val (lotD j s' its'), .no, .no, .no] = .ex "Unlike" [] [.val (lotD k s its), .val (lotD j s' its'), .no, .no, .no] := Wn.ex_eq (by simp [d])
  have l1 : c_never_more_1 [.val (lotD k s its), .val (lotD j s' its'), .no, .no, .no] = .ex "Unlike" [] [.val (lotD k s its), .val (lotD j s' its'), .no, .no, .no] := by
    unfold c_never_more_1
    refine lc_ex ?_
    unfold iSeq M.bind
    rw [cx]
  refine WF.ex_eq ?_
  rw [f_never_more, wf_mkF rfl]
  simp [startE, m_never_more, wn_ex l1, lentOf]
def cmpS (s : Int) (d : Int × Int → Int) : Str := if (spansL s).all (fun p => decide (d p = 0)) then "alike" else if (spansL s).all (fun p => decide (d p ≤ 0)) then "lighter" else if (spansL s).all (fun p => decide (0 ≤ d p)) then "heavier" else "neither"
theorem compare_ok {k j : Bool} {s : Int} {its its' : List Er} (h0 : 0 ≤ s) (h1 : s ≤ 100) (hl : its.length ≤ 1000) (hl' : its'.length ≤ 1000) : f_compare [lotD k s its, lotD j s its'] = .ok (.str (cmpS s (dfI its its'))) [] := by
  have d := diff_ok (k := k) (j := j) h0 h1 hl hl'
  have sq2 : s.toNat * s.toNat ≤ 10000 := Nat.mul_le_mul (show s.toNat ≤ 100 by omega) (show s.toNat ≤ 100 by omega)
  have ln := spansL_len h0
  have l1 : c_compare_1 [.val (lotD k s its), .val (lotD j s its'), .no, .no, .no, .no] = .ok (.lst ((spansL s).map fun p => .int (dfI its its' p))) [.val (lotD k s its), .val (lotD j s its'), .no, .no, .no, .no] := by
    unfold c_compare_1
    refine lc_map (T := Int × Int) (L := spansL s) (enc := encT (dfI its its')) (fun p => .int (dfI its its' p)) (Wn.eq (by simp [d])) rfl (by omega) fun y hy => ?_
    simp [wipeE, encT]
  have l2 : c_compare_2 [.val (lotD k s its), .val (lotD j s its'), .val (.lst ((spansL s).map fun p => .int (dfI its its' p))), .no, .no, .no] = .ok (.lst ((spansL s).map fun p => .bl (decide (dfI its its' p = 0)))) [.val (lotD k s its), .val (lotD j s its'), .val (.lst ((spansL s).map fun p => .int (dfI its its' p))), .no, .no, .no] := by
    unfold c_compare_2
    refine lc_map (T := Int × Int) (L := spansL s) (enc := fun p => .int (dfI its its' p)) (fun p => .bl (decide (dfI its its' p = 0))) (Wn.eq (by simp)) rfl (by omega) fun y hy => ?_
    by_cases hz : dfI its its' y = 0 <;> simp [wipeE, hz]
  have l3 : c_compare_3 [.val (lotD k s its), .val (lotD j s its'), .val (.lst ((spansL s).map fun p => .int (dfI its its' p))), .no, .no, .no] = .ok (.lst ((spansL s).map fun p => .bl (decide (dfI its its' p ≤ 0)))) [.val (lotD k s its), .val (lotD j s its'), .val (.lst ((spansL s).map fun p => .int (dfI its its' p))), .no, .no, .no] := by
    unfold c_compare_3
    refine lc_map (T := Int × Int) (L := spansL s) (enc := fun p => .int (dfI its its' p)) (fun p => .bl (decide (dfI its its' p ≤ 0))) (Wn.eq (by simp)) rfl (by omega) fun y hy => ?_
    simp [wipeE]
  have l4 : c_compare_4 [.val (lotD k s its), .val (lotD j s its'), .val (.lst ((spansL s).map fun p => .int (dfI its its' p))), .no, .no, .no] = .ok (.lst ((spansL s).map fun p => .bl (decide (0 ≤ dfI its its' p)))) [.val (lotD k s its), .val (lotD j s its'), .val (.lst ((spansL s).map fun p => .int (dfI its its' p))), .no, .no, .no] := by
    unfold c_compare_4
    refine lc_map (T := Int × Int) (L := spansL s) (enc := fun p => .int (dfI its its' p)) (fun p => .bl (decide (0 ≤ dfI its its' p))) (Wn.eq (by simp)) rfl (by omega) fun y hy => ?_
    simp [wipeE]
  refine WF.eq ?_
  rw [f_compare, wf_mkF rfl]
  unfold cmpS
  simp only [startE, m_compare, wn_seq]
  simp only [List.length_cons, List.length_nil, List.cons_append, List.nil_append, List.replicate, Nat.reduceAdd, Nat.reduceSub, wn_sAsgN, wn_eq l1, x_slS, x_sl0, x_isFix1, true_and, x_putS, x_put0, wo_nx, wn_sIf, wn_tV, wn_e1, wn_eq l2, dAll_map, wr_ok, wb_bl]
  cases c1 : (spansL s).all fun p => decide (dfI its its' p = 0) with
  | true => simp
  | false =>
    simp only [Bool.false_eq_true, if_false, wn_sNil, wo_nx, wn_sIf, wn_tV, wn_e1, wn_eq l3, dAll_map, wr_ok, wb_bl]
    cases c2 : (spansL s).all fun p => decide (dfI its its' p ≤ 0) with
    | true => simp
    | false =>
      simp only [Bool.false_eq_true, if_false, wn_sNil, wo_nx, wn_sRet, wn_eIf, wn_tV, wn_e1, wn_eq l4, dAll_map, wr_ok, wb_bl]
      cases c3 : (spansL s).all fun p => decide (0 ≤ dfI its its' p) with
      | true => simp
      | false => simp
theorem compare_out {k j : Bool} {s s' : Int} {its its' : List Er} (h : s ≠ s') : f_compare [lotD k s its, lotD j s' its'] = .ex "Unlike" [] [] := by
  have d := diff_out (k := k) (j := j) (its := its) (its' := its') h
  have cx : eCall f_differences [.e (eVar 0), .e (eVar 1)] [.val (lotD k s its), .val (lotD j s' its'), .no, .no, .no, .no] = .ex "Unlike" [] [.val (lotD k s its), .val (lotD j s' its'), .no, .no, .no, .no] := Wn.ex_eq (by simp [d])
  have l1 : c_compare_1 [.val (lotD k s its), .val (lotD j s' its'), .no, .no, .no, .no] = .ex "Unlike" [] [.val (lotD k s its), .val (lotD j s' its'), .no, .no, .no, .no] := by
    unfold c_compare_1
    refine lc_ex ?_
    unfold iSeq M.bind
    rw [cx]
  refine WF.ex_eq ?_
  rw [f_compare, wf_mkF rfl]
  simp [startE, m_compare, wn_seq, wn_ex l1, lentOf]
/-! ### the least, the greatest -/
theorem least_iff {c : Int} : ∀ {L : List Int}, L ≠ [] → (c ≤ leastOf L ↔ ∀ x ∈ L, c ≤ x)
  | [], h => absurd rfl h
  | [x], _ => by simp [leastOf]
  | x :: y :: r, _ => by
    have ih := least_iff (c := c) (L := y :: r) (by simp)
    have e : leastOf (x :: y :: r) = if leastOf (y :: r) < x then leastOf (y :: r) else x := rfl
    rw [e, List.forall_mem_cons, ← ih]
    split <;> omega
theorem great_iff {c : Int} : ∀ {L : List Int}, L ≠ [] → (greatestOf L ≤ c ↔ ∀ x ∈ L, x ≤ c)
  | [], h => absurd rfl h
  | [x], _ => by simp [greatestOf]
  | x :: y :: r, _ => by
    have ih := great_iff (c := c) (L := y :: r) (by simp)
    have e : greatestOf (x :: y :: r) = if greatestOf (y :: r) > x then greatestOf (y :: r) else x := rfl
    rw [e, List.forall_mem_cons, ← ih]
    split <;> omega
theorem dMinL_map {α : Type} {f : α → Int} {L : List α} (h : L ≠ []) : dMinL (.lst (L.map fun x => .int (f x))) = .ok (.int (leastOf (L.map f))) := by
  unfold dMinL
  simp only [intsL_map]
  cases L with
  | nil => exact absurd rfl h
  | cons x L => rfl
theorem dMaxL_map {α : Type} {f : α → Int} {L : List α} (h : L ≠ []) : dMaxL (.lst (L.map fun x => .int (f x))) = .ok (.int (greatestOf (L.map f))) := by
  unfold dMaxL
  simp only [intsL_map]
  cases L with
  | nil => exact absurd rfl h
  | cons x L => rfl
theorem spansL_ne {s : Int} (h : 1 ≤ s) : spansL s ≠ [] := fun z => by
  have : ((0 : Int), (0 : Int)) ∈ spansL s := mem_spansL.mpr ⟨by simp, by simp, by simp; omega⟩
  rw [z] at this
  cases this
end AH
namespace AH
open PySem L2
variable [TheK]
/-! ### drawn moves of a lot -/
theorem fit_lot {s : Int} (f : Int × Int → Int) : ∃ t, Lot s t (canon s f) := by
  have : ∀ L : List (Int × Int), ∃ t : Int, ∀ p ∈ L, f p ≤ t := by
    intro L
    induction L with
    | nil => exact ⟨0, by simp⟩
    | cons p L ih =>
      obtain ⟨t, ht⟩ := ih
      refine ⟨max t (f p), fun q hq => ?_⟩
      rcases List.mem_cons.mp hq with rfl | hq
      · omega
      · have := ht q hq
        omega
  obtain ⟨t, ht⟩ := this (spansL s)
  exact ⟨t, canon_is ht⟩
abbrev mvE (bx : List D) (s m : Int) (its : List Er) (f : Int × Int → Int) (r : List Sl) : Env := .bor bx :: .val (lotD true s its) :: .val (.int m) :: .odc (tabD (spansL s) f) :: .val (.int (s - 1)) :: r
theorem dput_sp {s : Int} {f : Int × Int → Int} {q : Int × Int} {v : Int} (h : q ∈ spansL s) : ∃ g, dput (tabD (spansL s) f) (keyR q) (.int v) = tabD (spansL s) g := ⟨_, dput_in h⟩
theorem some_ok {bx : List D} {s m : Int} {its : List Er} {f : Int × Int → Int} {x : Sl} (hs : (spansL s).length ≤ 1000) : c_law_moved_1 (mvE bx s m its f [x, .no, .no, .no, .no, .no, .no, .no, .no]) = .ok (.lst (((spansL s).filter fun p => decide (0 < f p)).map encR)) (mvE bx s m its f [x, .no, .no, .no, .no, .no, .no, .no, .no]) := by
  have so := dSortK_tab (f := f) (List.Perm.refl (spansL s)) spansL_sorted
  unfold c_law_moved_1
  refine lc_filter (T := Int × Int) (L := spansL s) (enc := encR) (fun p => decide (0 < f p)) encR (Wn.eq (by simp [so])) rfl (by omega) fun y hy => ?_
  have ix := dIx_tab (f := f) hy
  simp [wipeE, ix]
theorem dEq_nilL' {L : List (Int × Int)} (h : L.length ≤ 1000) : dEq (.lst (L.map encR)) (.lst []) = .ok L.isEmpty := by
  have := dEq_nilL (xs := L.map encR) (n := 2) (sm_lst.mpr ⟨by rw [List.length_map]; omega, fun x hx => by
    obtain ⟨p, _, rfl⟩ := List.mem_map.mp hx
    simp [encR]⟩) (by omega)
  rwa [List.isEmpty_map] at this
theorem wn_ofw {n : Nat} {xs : List D} {L : List (Int × Int)} {a : DE} {e : Env} {Q : D → Env → Prop} {E : Str → List D → Env → Prop} (ha : a (.bor xs :: e) = .ok (.lst (L.map encR)) (.bor xs :: e)) (hb : Bx (n + 1) xs) (h1 : L ≠ []) (h2 : L.length ≤ 1000) (q : ∀ p ys, p ∈ L → Bx n ys → Q (encR p) (.bor ys :: e)) : Wn (eCall f_law_of [.lend 0, .e a]) (.bor xs :: e) Q E := by
  refine wn_of2 ha hb (by rw [List.length_map]; exact List.length_pos_iff.mpr h1) (by rw [List.length_map]; omega) fun d ys hd hy => ?_
  obtain ⟨p, hp, rfl⟩ := List.mem_map.mp hd
  exact q p ys hp hy
@[simp] theorem dMax2_int {i j : Int} : dMax2 (.int i) (.int j) = .ok (.int (if j > i then j else i)) := nr rfl
@[simp] theorem dMin2_int {i j : Int} : dMin2 (.int i) (.int j) = .ok (.int (if j < i then j else i)) := nr rfl
theorem dNe_encR {p q : Int × Int} : dNe (encR p) (encR q) = .ok (!decide (p = q)) := by
  unfold dNe
  rw [eqv_encR]
  rfl
theorem lap_mv {bx : List D} {s m : Int} {its : List Er} {x6 x7 x10 x11 x12 : Sl} {x5 : Sl} {x9 : Int × Int} {L : List ((Int × Int) × Int)} {f : Int × Int → Int} (hs : (spansL s).length ≤ 1000) (hL : ∀ y ∈ L, y.1 ∈ spansL s) : ∃ g, loop (gT (gsCons (gN 8) (gsCons (gN 13) gsNil))) b_law_moved_1 (L.map fun y => D.tup [encR y.1, .int y.2]) (mvE bx s m its f [x5, x6, x7, .no, .val (encR x9), x10, x11, x12, .no]) = .ok .nx (mvE bx s m its g [x5, x6, x7, .no, .val (encR x9), x10, x11, x12, .no]) := by
  induction L generalizing f with
  | nil => exact ⟨f, rfl⟩
  | cons y L ih =>
    have hy := hL y List.mem_cons_self
    obtain ⟨g, hg⟩ := dput_sp (f := f) (v := f y.1 + y.2) hy
    obtain ⟨g', h'⟩ := ih (f := g) fun z hz => hL z (List.mem_cons_of_mem _ hz)
    refine ⟨g', ?_⟩
    rw [List.map_cons, loop_cons (e' := mvE bx s m its g [x5, x6, x7, .no, .val (encR x9), x10, x11, x12, .no])]
    · exact h'
    · have ix := dIx_tab (f := f) hy
      unfold b_law_moved_1
      simp [wn_sFg, ix, tabD_len, hg]
      omega
def MvP (n : Nat) (s m : Int) (its : List Er) (o : Out) (e : Env) : Prop := o = .nx ∧ ∃ by_ g, fgO [5, 6, 7, 8, 9, 10, 11, 12, 13] o e = mvE by_ s m its g [.no, .no, .no, .no, .no, .no, .no, .no, .no] ∧ Bx n by_
theorem MvP.of {n : Nat} {s m : Int} {its : List Er} {e : Env} {by_ : List D} {g : Int × Int → Int} (h : fgO [5, 6, 7, 8, 9, 10, 11, 12, 13] .nx e = mvE by_ s m its g [.no, .no, .no, .no, .no, .no, .no, .no, .no]) (hb : Bx n by_) : MvP n s m its .nx e := ⟨rfl, by_, g, h, hb⟩
theorem turn_mv {n : Nat} {bx : List D} {s m x : Int} {its : List Er} {f : Int × Int → Int} (hs1 : 1 ≤ s) (hs : s ≤ 8) (hb : Bx (n + 4) bx) :
    Wn b_law_moved_2 (mvE bx s m its f [.val (.int x), .no, .no, .no, .no, .no, .no, .no, .no]) (fun o e => o = .nx ∧ ∃ by_ g, e = mvE by_ s m its g [.no, .no, .no, .no, .no, .no, .no, .no, .no] ∧ Bx n by_) NoE := by
  have s36 := spans8 (s := s) (by omega) hs
  have sp := spans_ok (s := s) (by omega) (by omega)
  unfold b_law_moved_2
  rw [wn_sFg]
  show Wn _ _ (MvP n s m its) NoE
  rw [wn_seq]
  have so := some_ok (bx := bx) (s := s) (m := m) (its := its) (f := f) (x := .val (.int x)) (by omega)
  simp only [wn_sAsgN, wn_eq so, x_slS, x_sl0, x_isFix1, true_and, x_putS, x_put0, wo_nx]
  obtain ⟨S, hS⟩ : ∃ S, (spansL s).filter (fun p => decide (0 < f p)) = S := ⟨_, rfl⟩
  rw [hS]
  have hSl : S.length ≤ 36 := by rw [← hS]; exact Nat.le_trans (List.length_filter_le _ _) s36
  have hSm : ∀ p ∈ S, p ∈ spansL s := fun p hp => by rw [← hS] at hp; exact (List.mem_filter.mp hp).1
  rw [wn_seq]
  simp only [wn_sAsgN]
  refine wn_take (n := n + 3) (b := 5) rfl hb (by omega) (by omega) fun v b1 v0 v1 hb1 => ?_
  simp only [x_slS, x_sl0, x_isFix1, true_and, x_putS, x_put0, wo_nx, wn_sIf, wn_tOr, wn_c2, wn_var, ws_val, wn_eLst, wn_aNil, List.length_nil, lenOk_iff, Nat.zero_le, dEq_nilL' (show S.length ≤ 1000 by omega), wr_ok, wn_c, dEq_int]
  by_cases hz : S.isEmpty = true ∨ v = 0
  · have hc : (if S.isEmpty = true then True else v = 0) := by rcases hz with hz | hz <;> simp [hz]
    have first : Wn (sSeq (sAsgN 8 (eCall f_law_of [.lend 0, .e (eCall f_law_spans [.e (e2 dIx (eVar 1) (eC (.int 0)))])])) (sSetD 3 (eVar 8) (e2 dAdd (e2 dAdd (e2L dIx 3 (eVar 8)) (eC (.int 1))) (eCall f_law_take [.lend 0, .e (eC (.int 2))])))) (mvE b1 s m its f [.val (.int x), .val (.lst (S.map encR)), .val (.int v), .no, .no, .no, .no, .no, .no]) (MvP n s m its) NoE := by
      rw [wn_seq]
      simp only [wn_sAsgN]
      refine wn_ofw (n := n + 2) (L := spansL s) (Wn.eq (by simp [sp])) hb1 (spansL_ne hs1) (by omega) fun p b2 hp hb2 => ?_
      have ix := dIx_tab (f := f) hp
      simp only [x_slS, x_sl0, x_isFix1, true_and, x_putS, x_put0, wo_nx, wn_sSetD, wn_e2, wn_e2L, wt_odc, wn_var, ws_val, ix, wr_ok, wn_c, dAdd_int]
      refine wn_take (n := n + 1) (b := 2) rfl hb2 (by omega) (by omega) fun u b3 u0 u1 hb3 => ?_
      obtain ⟨g, hg⟩ := dput_sp (f := f) (v := f p + 1 + u) hp
      simp [hg, tabD_len]
      exact ⟨by omega, MvP.of (g := g) (by simp) (hb3.le (by omega))⟩
    rcases hz with hz | hz
    · simp only [hz, if_true]
      exact first
    · subst hz
      cases hE : S.isEmpty with
      | true => simp only [if_true]; exact first
      | false => simp only [Bool.false_eq_true, if_false, beq_self_eq_true, if_true]; exact first
  · have hne : S.isEmpty = false := by
      cases hE : S.isEmpty with
      | true => exact absurd (.inl hE) hz
      | false => rfl
    have hSn : S ≠ [] := fun z => by rw [z] at hne; cases hne
    have hv : v ≠ 0 := fun z => hz (.inr z)
    simp only [hne, Bool.false_eq_true, if_false, show (v == 0) = false by simpa using hv, wn_sIf, wn_c2, wn_var, x_slS, x_sl0, ws_val, wn_c, dEq_int, wr_ok]
    by_cases h1 : v = 1
    · subst h1
      simp only [beq_self_eq_true, if_true]
      rw [wn_seq]
      simp only [wn_sAsgN]
      refine wn_ofw (n := n + 2) (L := S) (Wn.eq (by simp)) hb1 hSn (by omega) fun p b2 hp hb2 => ?_
      have ix := dIx_tab (f := f) (hSm p hp)
      obtain ⟨g, hg⟩ := dput_sp (f := f) (v := f p - 1) (hSm p hp)
      simp [ix, hg, tabD_len]
      exact ⟨by omega, MvP.of (g := g) (by simp) (hb2.le (by omega))⟩
    · simp only [show (v == 1) = false by simpa using h1, Bool.false_eq_true, if_false]
      by_cases h2 : v = 2
      · subst h2
        simp only [beq_self_eq_true, if_true]
        rw [wn_seq]
        simp only [wn_sAsgN]
        refine wn_ofw (n := n + 2) (L := S) (Wn.eq (by simp)) hb1 hSn (by omega) fun p b2 hp hb2 => ?_
        have hpS := hSm p hp
        obtain ⟨p0, p1, p2⟩ := mem_spansL.mp hpS
        simp only [x_slS, x_sl0, x_isFix1, true_and, x_putS, x_put0, wo_nx]
        rw [wn_seq]
        simp only [wn_sAsgN, wn_eTup, wn_aCons, wn_e2, wn_c, wn_var, x_slS, x_sl0, ws_val, er_ix0, er_ix1, wr_ok]
        refine wn_take (n := n + 1) (b := 2) rfl hb2 (by omega) (by omega) fun u b3 u0 u1 hb3 => ?_
        simp only [dSub_int, wr_ok, dMax2_int, x_slS, x_sl0, ws_val, er_ix0, er_ix1, wn_aCons, wn_e2, wn_var]
        refine wn_take (n := n) (b := 2) rfl hb3 (by omega) (by omega) fun w b4 w0 w1 hb4 => ?_
        obtain ⟨x1, hx1, g1⟩ : ∃ x1, (if p.1 - u > 0 then p.1 - u else 0) = x1 ∧ 0 ≤ x1 ∧ x1 ≤ p.1 := ⟨_, rfl, by split <;> omega⟩
        obtain ⟨x2, hx2, g2⟩ : ∃ x2, (if p.2 + w < s - 1 then p.2 + w else s - 1) = x2 ∧ p.2 ≤ x2 ∧ x2 < s := ⟨_, rfl, by split <;> omega⟩
        have hqm : (x1, x2) ∈ spansL s := mem_spansL.mpr ⟨by simp; omega, by simp; omega, by simp; omega⟩
        have hq : D.tup [.int x1, .int x2] = encR (x1, x2) := rfl
        generalize (x1, x2) = q at hq hqm
        simp only [dAdd_int, wr_ok, dMin2_int, wn_aNil, List.length_cons, List.length_nil, lenOk_iff, hx1, hx2, hq, x_slS, x_sl0, x_isFix1, true_and, x_putS, x_put0, wo_nx]
        refine ⟨by decide, ?_⟩
        have ix := dIx_tab (f := f) hpS
        obtain ⟨g, hg⟩ := dput_sp (f := f) (v := f p - 1) hpS
        obtain ⟨g2, hg2⟩ := dput_sp (f := g) (v := g q + 1) hqm
        have ix2 := dIx_tab (f := g) hqm
        rw [wn_seq]
        simp [ix, hg, ix2, hg2, tabD_len]
        exact ⟨by omega, MvP.of (g := g2) (by simp) hb4⟩
      · simp only [show (v == 2) = false by simpa using h2, Bool.false_eq_true, if_false]
        rw [wn_seq]
        simp only [wn_par_vv]
        refine wn_ofw (n := n + 2) (L := S) (Wn.eq (by simp)) hb1 hSn (by omega) fun p b2 hp hb2 => ?_
        refine wn_ofw (n := n + 1) (L := S) (Wn.eq (by simp)) hb2 hSn (by omega) fun q b3 hq hb3 => ?_
        obtain ⟨p0, p1, p2⟩ := mem_spansL.mp (hSm p hp)
        obtain ⟨q0, q1, q2⟩ := mem_spansL.mp (hSm q hq)
        simp only [x_slS, x_sl0, x_isFix1, true_and, x_putS, x_put0, wo_nx, wn_sIf, wn_tAnd, wn_c2, wn_var, ws_val, dNe_encR, wr_ok, wn_e2, wn_c, er_ix0, er_ix1, dLe_int]
        by_cases ov : p ≠ q ∧ p.1 ≤ q.2 ∧ q.1 ≤ p.2
        · obtain ⟨o1, o2, o3⟩ := ov
          simp only [o1, o2, o3, decide_true, decide_false, Bool.not_false, if_true]
          rw [wn_seq]
          have m1 : (p.1, q.2) ∈ spansL s := mem_spansL.mpr ⟨by simp; omega, by simp; omega, by simp; omega⟩
          have m2 : (q.1, p.2) ∈ spansL s := mem_spansL.mpr ⟨by simp; omega, by simp; omega, by simp; omega⟩
          obtain ⟨g, hg⟩ := lap_mv (bx := b3) (s := s) (m := m) (its := its) (x5 := .val (.int x)) (x6 := .val (.lst (S.map encR))) (x7 := .val (.int v)) (x10 := .val (encR p)) (x11 := .val (encR q)) (x12 := .val (encR (p.1, q.2))) (x9 := (q.1, p.2)) (L := [(p, -1), (q, -1), ((p.1, q.2), 1), ((q.1, p.2), 1)]) (f := f) (by omega) (by
            intro y hy
            simp only [List.mem_cons, List.not_mem_nil, or_false] at hy
            rcases hy with rfl | rfl | rfl | rfl
            · exact hSm _ hp
            · exact hSm _ hq
            · exact m1
            · exact m2)
          simp only [List.map_cons, List.map_nil] at hg
          have ee : ∀ a b : Int, D.tup [.int a, .int b] = encR (a, b) := fun _ _ => rfl
          simp only [wn_par_vv, wn_eTup, wn_aCons, wn_e2, wn_var, x_slS, x_sl0, ws_val, wn_c, er_ix0, er_ix1, wr_ok, wn_aNil, List.length_cons, List.length_nil, lenOk_iff, x_isFix1, true_and, x_putS, x_put0, wo_nx, ee, l_law_moved_1, wn_sFor, wn_iSeq, wn_e1, dNeg_int, wl_tup]
          refine ⟨by decide, by decide, by decide, by decide, by decide, by decide, by decide, ?_⟩
          rw [wn_eq hg]
          exact MvP.of (g := g) (by simp) (hb3.le (by omega))
        · have done : MvP n s m its .nx (mvE b3 s m its f [.val (.int x), .val (.lst (S.map encR)), .val (.int v), .no, .no, .val (encR p), .val (encR q), .no, .no]) := MvP.of (g := f) (by simp) (hb3.le (by omega))
          by_cases o1 : p = q
          · subst o1
            simp only [decide_true, Bool.not_true, Bool.false_eq_true, if_false, wn_sNil]
            exact done
          · by_cases o2 : p.1 ≤ q.2
            · have o3 : ¬ q.1 ≤ p.2 := fun z => ov ⟨o1, o2, z⟩
              simp only [o1, o2, o3, decide_true, decide_false, Bool.not_false, Bool.false_eq_true, if_true, if_false, wn_sNil]
              exact done
            · simp only [o1, o2, decide_true, decide_false, Bool.not_false, Bool.false_eq_true, if_true, if_false, wn_sNil]
              exact done
theorem moved_ok {n m : Nat} {s t : Int} {xs : List D} {its : List Er} {Q : D → List (List D) → Prop} {E : Str → List D → List (List D) → Prop} (hs1 : 1 ≤ s) (hs : s ≤ 8) (hL : Lot s t its) (hm : m ≤ 1000) (hb : Bx (n + 4 * m) xs) (q : ∀ its' t' ys, Lot s t' its' → Bx n ys → Q (lotD true s its') [ys]) : WF (f_law_moved [.lst xs, lotD true s its, .int m]) Q E := by
  have tb := table_law hL (by omega) (by omega)
  have s36 := spans8 (s := s) (by omega) hs
  rw [f_law_moved, wf_mkF rfl]
  simp only [startE, m_law_moved, wn_seq]
  simp [tb, l_law_moved_2]
  refine ⟨by omega, ?_⟩
  refine wn_loop (fun r e => ∃ by_ g, e = mvE by_ s m its g [.no, .no, .no, .no, .no, .no, .no, .no, .no] ∧ Bx (n + 4 * r.length) by_ ∧ ∀ y ∈ r, ∃ i : Int, y = .int i) (fun y r e hI => ?_) (fun e hI => ?_) ⟨xs, _, rfl, hb.le (by rw [rng_len]; simp), fun y hy => by obtain ⟨i, _, _, rfl⟩ := rng_mem hy; exact ⟨i, rfl⟩⟩
  · obtain ⟨by_, g, rfl, h1, h2⟩ := hI
    obtain ⟨i, rfl⟩ := h2 y List.mem_cons_self
    rw [List.length_cons] at h1
    simp only [wn_gN, x_slS, x_sl0, x_isOwn1, true_and, x_putS, x_put0]
    refine (turn_mv (n := n + 4 * r.length) hs1 hs (h1.le (by omega))).imp (fun o e h => ?_) fun _ _ _ z => z.elim
    obtain ⟨rfl, by2, g2, rfl, h3⟩ := h
    exact ⟨by2, g2, rfl, h3, fun z hz => h2 z (List.mem_cons_of_mem _ hz)⟩
  · obtain ⟨by_, g, rfl, h1, _⟩ := hI
    obtain ⟨t', ht⟩ := fit_lot (s := s) g
    have mk := law_made_ok (s := s) (L := spansL s) (f := g) (List.Perm.refl _) (by omega)
    have c : eCall f_law_made [.e (e2 dIx (eVar 1) (eC (.int 0))), .look 3] (mvE by_ s m its g [.no, .no, .no, .no, .no, .no, .no, .no, .no]) = .ok (lotD true s (canon s g)) (mvE by_ s m its g [.no, .no, .no, .no, .no, .no, .no, .no, .no]) :=
      call_ok (args_e (x := .int s) (e1 := mvE by_ s m its g [.no, .no, .no, .no, .no, .no, .no, .no, .no]) (Wn.eq (by simp)) (args_look (x := .dic (tabD (spansL s) g)) rfl rfl)) rfl rfl mk rfl
    simp [wn_eq c]
    exact q _ _ by_ ht (h1.le (by simp))
end AH
namespace LW
open PySem PySem.Spec PyProof.Rows L2 AH
variable [TheK]
def top (i : Nat) : Stmt := PySem.Challenge.pw_anyhands_k10_stretches_of_hours.main.body.getD i (.Pass ⟨0, 0, 0, 0⟩)
abbrev s_law_cells : Stmt := top 19
abbrev s_is_number : Stmt := top 5
abbrev s_is_stretch : Stmt := top 11
abbrev s_law_same : Stmt := top 21
abbrev s_lies_within : Stmt := top 13
abbrev s_law_spans : Stmt := top 22
abbrev s_all_stretches : Stmt := top 12
abbrev s_law_sizes_right : Stmt := top 24
abbrev s_law_by_hand_right : Stmt := top 25
abbrev s_law_take : Stmt := top 18
abbrev s_law_of : Stmt := top 20
abbrev s_law_hours : Stmt := top 23
abbrev s_law_right : Stmt := top 26
abbrev s_law_box : Stmt := top 17
abbrev s_law : Stmt := top 27
abbrev xcs : List Str := []
/-- what is asked of the module -/
structure Bf (K : PySem.W.Frag) (mg : Str → Option Value) : Prop where
  abs : mg "abs" = none
  all : mg "all" = none
  bool : mg "bool" = none
  enumerate : mg "enumerate" = none
  int : mg "int" = none
  isinstance : mg "isinstance" = none
  len : mg "len" = none
  list : mg "list" = none
  range : mg "range" = none
  str : mg "str" = none
  tuple : mg "tuple" = none
  zip : mg "zip" = none
  g_PAIR : ∃ t, mg "PAIR" = some (.int 2 t)
abbrev n_law_cells : List Str := ["_law_script", "_law_most_so", "_law_cells_here", "_law_k", "_law_cell", "_law_at_so"]
abbrev p_law_cells : List Str := ["_law_script", "_law_most_so"]
theorem sc_law_cells : FnScope n_law_cells p_law_cells (defScope s_law_cells) := ⟨rfl, rfl, rfl, by decide +kernel, rfl, by decide +kernel, by decide +kernel⟩
theorem b_law_cells : BindsOk "_law_cells" s_law_cells p_law_cells := fun _ _ _ _ _ _ us hl => match us, hl with | [_, _], _ => rfl
theorem ok_law_cells {P : Program} {w : World} {K : PySem.W.Frag} {mg : Str → Option Value} {base : Heap} (hK : K = TheK.K) (B : Bf K mg) (F : Fu K mg "_law_cells" s_law_cells) : Kn P w K mg base .s "_law_cells" s_law_cells n_law_cells p_law_cells [.ro, .val] f_law_cells 1 := kn_of F sc_law_cells rfl b_law_cells (.inl ⟨rfl, rfl⟩) fun f cdv A outer s H E hr tk hp => by
  have nd : n_law_cells.Nodup := sc_law_cells.nd
  have hc : (cxD P w K mg base n_law_cells "_law_cells" (defScope s_law_cells) f cdv A outer s H E).calm = true := rfl
  have hu := room_u hr
  exact (ss_cons (sd_own (i := 2) nd rfl (.inl rfl) (pd_orT (pd_list (bn_any rfl B.list boot_list) (PD.weak (PD.str (pd_slN (i := 0) rfl (.inl rfl) od_none (od_some (pd_var (i := 1) rfl (.inl rfl))))))) (pd_lst (ad_cons pd_int ad_nil)) (.inl rfl))) (ss_cons (sd_for hp hc (id_enum (bn_any rfl B.enumerate boot_enumerate) (PD.str (pd_slN (i := 0) rfl (.inl rfl) (od_some (pd_var (i := 1) rfl (.inl rfl))) (od_some pd_int)))) (gd_tup (n := 2) hc (gsd_cons (gd_name (i := 3) nd rfl (.inl rfl)) (gsd_cons (gd_name (i := 4) nd rfl (.inl rfl)) gsd_nil)) (gs_lenS (gs_lenS gs_len0))) (ss_fg (vs := [3, 4, 5]) (ss_cons (sd_asgN (i := 5) nd rfl (.inl rfl) (pd_mod (pd_toint (bn_any rfl B.int boot_int) (pd_var (i := 3) rfl (.inl rfl))) (pd_var (i := 1) rfl (.inl rfl)))) (ss_one (sd_setL (i := 2) rfl (.inl rfl) (pd_var (i := 5) rfl (.inl rfl)) (pd_add (pd_ixL (i := 2) hu rfl (.inl rfl) (pd_var (i := 5) rfl (.inl rfl))) (pd_mul (pd_var (i := 4) rfl (.inl rfl)) (pd_add (pd_var (i := 3) rfl (.inl rfl)) pd_int)))))))) (ss_rel (i := 2) (ss_one (sd_ret (pd_var (i := 2) rfl (.inl rfl)))))))
abbrev n_is_number : List Str := ["thing"]
abbrev p_is_number : List Str := ["thing"]
theorem sc_is_number : FnScope n_is_number p_is_number (defScope s_is_number) := ⟨rfl, rfl, rfl, by decide +kernel, rfl, by decide +kernel, by decide +kernel⟩
theorem b_is_number : BindsOk "is_number" s_is_number p_is_number := fun _ _ _ _ _ _ us hl => match us, hl with | [_], _ => rfl
theorem ok_is_number {P : Program} {w : World} {K : PySem.W.Frag} {mg : Str → Option Value} {base : Heap} (hK : K = TheK.K) (B : Bf K mg) (F : Fu K mg "is_number" s_is_number) : Kn P w K mg base .s "is_number" s_is_number n_is_number p_is_number [.val] f_is_number 1 := kn_of F sc_is_number rfl b_is_number (.inl ⟨rfl, rfl⟩) fun f cdv A outer s H E hr tk hp => by
  have nd : n_is_number.Nodup := sc_is_number.nd
  have hc : (cxD P w K mg base n_is_number "is_number" (defScope s_is_number) f cdv A outer s H E).calm = true := rfl
  have hu := room_u hr
  exact (ss_one (sd_ret (pd_and (pd_isi (t := .int) hK (bn_any rfl B.isinstance boot_isinstance) (bn_any rfl B.int boot_int) (pd_var (i := 0) rfl (.inl rfl))) (pd_one (pd_not (pd_isi (t := .bool) hK (bn_any rfl B.isinstance boot_isinstance) (bn_any rfl B.bool boot_bool) (pd_var (i := 0) rfl (.inl rfl))))))))
abbrev n_is_stretch : List Str := ["hours", "thing", "part"]
abbrev p_is_stretch : List Str := ["hours", "thing"]
theorem sc_is_stretch : FnScope n_is_stretch p_is_stretch (defScope s_is_stretch) := ⟨rfl, rfl, rfl, by decide +kernel, rfl, by decide +kernel, by decide +kernel⟩
theorem b_is_stretch : BindsOk "is_stretch" s_is_stretch p_is_stretch := fun _ _ _ _ _ _ us hl => match us, hl with | [_, _], _ => rfl
theorem kb_is_stretch_0_thing_hours : KBindsOk "is_stretch" s_is_stretch p_is_stretch 0 ["thing", "hours"] [1, 0] := fun _ _ _ _ _ _ us ws h1 h2 => match us, ws, h1, h2 with | [], [_, _], _, _ => rfl
theorem ok_is_stretch {P : Program} {w : World} {K : PySem.W.Frag} {mg : Str → Option Value} {base : Heap} (hK : K = TheK.K) (B : Bf K mg) (F : Fu K mg "is_stretch" s_is_stretch) (k_is_number : Kn P w K mg base .s "is_number" s_is_number n_is_number p_is_number [.val] f_is_number 1) : Kn P w K mg base .s "is_stretch" s_is_stretch n_is_stretch p_is_stretch [.val, .val] f_is_stretch 2 := kn_of F sc_is_stretch rfl b_is_stretch (.inl ⟨rfl, rfl⟩) fun f cdv A outer s H E hr tk hp => by
  have nd : n_is_stretch.Nodup := sc_is_stretch.nd
  have hc : (cxD P w K mg base n_is_stretch "is_stretch" (defScope s_is_stretch) f cdv A outer s H E).calm = true := rfl
  have hu := room_u hr
  exact (ss_cons (sd_if (WD.td (wd_or (td_not (td_val (pd_isi (t := .tuple) hK (bn_any rfl B.isinstance boot_isinstance) (bn_any rfl B.tuple boot_tuple) (pd_var (i := 1) rfl (.inl rfl))))) (wd_or (td_cmp (ck_ne hu) (pd_len (bn_any rfl B.len boot_len) (PD.weak (pd_var (i := 1) rfl (.inl rfl)))) (PD.weak (pd_gint rfl B.g_PAIR)) rfl) (wd_or1 (td_not (td_val (pd_all hc (bn_any rfl B.all boot_all) (PD.weak (PD.str (pd_lc (own := [("part", 2)]) hc nd (by kernel_rfl) rfl (id_seq (pd_var (i := 1) rfl (.inl rfl))) (fun s H C cl fp => (gd_name (i := 2) nd rfl (.inl rfl))) (fun s H C cl fp => cd_nil) (fun s H C cl fp => (pd_call (k_is_number.fn hr) tkNone rfl (ga_val (pd_var (i := 2) rfl (.inl rfl)) ga_nil))))))))))))) (ss_one (sd_ret pd_bl)) ss_nil) (ss_one (sd_ret (pd_chain4 (ck_le hu) (ck_le hu) (ck_lt hu) pd_int (pd_ix hu (pd_var (i := 1) rfl (.inl rfl)) pd_int) (pd_ix hu (pd_var (i := 1) rfl (.inl rfl)) pd_int) (PD.weak (pd_var (i := 0) rfl (.inl rfl)))))))
abbrev n_law_same : List Str := ["_law_got", "_law_due_so", "_law_mine", "_law_its"]
abbrev p_law_same : List Str := ["_law_got", "_law_due_so"]
theorem sc_law_same : FnScope n_law_same p_law_same (defScope s_law_same) := ⟨rfl, rfl, rfl, by decide +kernel, rfl, by decide +kernel, by decide +kernel⟩
theorem b_law_same : BindsOk "_law_same" s_law_same p_law_same := fun _ _ _ _ _ _ us hl => match us, hl with | [_, _], _ => rfl
theorem ok_law_same {P : Program} {w : World} {K : PySem.W.Frag} {mg : Str → Option Value} {base : Heap} (hK : K = TheK.K) (B : Bf K mg) (F : Fu K mg "_law_same" s_law_same) : ∀ n : Nat, Kn P w K mg base .s "_law_same" s_law_same n_law_same p_law_same [.val, .val] (f_law_same n) (1 + n)
  | 0 => kn_bad F rfl b_law_same
  | n + 1 => kn_of F sc_law_same rfl b_law_same (.inl ⟨rfl, rfl⟩) fun f cdv A outer s H E hr tk hp => by
    have k_law_same := ok_law_same (P := P) (w := w) (base := base) hK B F n
    have nd : n_law_same.Nodup := sc_law_same.nd
    have hc : (cxD P w K mg base n_law_same "_law_same" (defScope s_law_same) f cdv A outer s H E).calm = true := rfl
    have hu := room_u hr
    exact (ss_cons (sd_if (td_val (pd_isi2 (t := .list) (u := .tuple) (bn_any rfl B.isinstance boot_isinstance) (bn_any rfl B.list boot_list) (bn_any rfl B.tuple boot_tuple) (pd_var (i := 1) rfl (.inl rfl)))) (ss_cons (sd_if (WD.td (wd_or (td_cmp (ck_ne hu) (pd_isi (t := .list) hK (bn_any rfl B.isinstance boot_isinstance) (bn_any rfl B.list boot_list) (pd_var (i := 0) rfl (.inl rfl))) (PD.weak (pd_isi (t := .list) hK (bn_any rfl B.isinstance boot_isinstance) (bn_any rfl B.list boot_list) (pd_var (i := 1) rfl (.inl rfl)))) rfl) (wd_or1 (td_cmp (ck_ne hu) (pd_isi (t := .tuple) hK (bn_any rfl B.isinstance boot_isinstance) (bn_any rfl B.tuple boot_tuple) (pd_var (i := 0) rfl (.inl rfl))) (PD.weak (pd_isi (t := .tuple) hK (bn_any rfl B.isinstance boot_isinstance) (bn_any rfl B.tuple boot_tuple) (pd_var (i := 1) rfl (.inl rfl)))) rfl)))) (ss_one (sd_ret pd_bl)) ss_nil) (ss_one (sd_ret (pd_and (pd_cmp (ck_eq hu) (pd_len (bn_any rfl B.len boot_len) (PD.weak (pd_var (i := 0) rfl (.inl rfl)))) (PD.weak (pd_len (bn_any rfl B.len boot_len) (PD.weak (pd_var (i := 1) rfl (.inl rfl))))) rfl) (pd_one (pd_all hc (bn_any rfl B.all boot_all) (PD.weak (PD.str (pd_lc (own := [("_law_mine", 2), ("_law_its", 3)]) hc nd (by kernel_rfl) rfl (id_zip2 (bn_any rfl B.zip boot_zip) (pd_var (i := 0) rfl (.inl rfl)) (pd_var (i := 1) rfl (.inl rfl))) (fun s H C cl fp => (gd_tup (n := 2) hc (gsd_cons (gd_name (i := 2) nd rfl (.inl rfl)) (gsd_cons (gd_name (i := 3) nd rfl (.inl rfl)) gsd_nil)) (gs_lenS (gs_lenS gs_len0)))) (fun s H C cl fp => cd_nil) (fun s H C cl fp => (pd_call (k_law_same.fn hr (Nat.le_refl _)) tkNone rfl (ga_val (pd_var (i := 2) rfl (.inl rfl)) (ga_val (pd_var (i := 3) rfl (.inl rfl)) ga_nil))))))))))))) ss_nil) (ss_cons (sd_if (WD.td (wd_or (td_isN (PD.weak (pd_var (i := 1) rfl (.inl rfl)))) (wd_or1 (td_val (pd_isi2 (t := .bool) (u := .str) (bn_any rfl B.isinstance boot_isinstance) (bn_any rfl B.bool boot_bool) (bn_any rfl B.str boot_str) (pd_var (i := 1) rfl (.inl rfl))))))) (ss_one (sd_ret (pd_and (pd_cmp (ck_eq hu) (pd_var (i := 0) rfl (.inl rfl)) (PD.weak (pd_var (i := 1) rfl (.inl rfl))) rfl) (pd_and (pd_cmp (ck_eq hu) (pd_isi (t := .bool) hK (bn_any rfl B.isinstance boot_isinstance) (bn_any rfl B.bool boot_bool) (pd_var (i := 0) rfl (.inl rfl))) (PD.weak (pd_isi (t := .bool) hK (bn_any rfl B.isinstance boot_isinstance) (bn_any rfl B.bool boot_bool) (pd_var (i := 1) rfl (.inl rfl)))) rfl) (pd_one (pd_cmp (ck_eq hu) (pd_isN (PD.weak (pd_var (i := 0) rfl (.inl rfl)))) (PD.weak (pd_isN (PD.weak (pd_var (i := 1) rfl (.inl rfl))))) rfl)))))) ss_nil) (ss_one (sd_ret (pd_and (pd_isi (t := .int) hK (bn_any rfl B.isinstance boot_isinstance) (bn_any rfl B.int boot_int) (pd_var (i := 0) rfl (.inl rfl))) (pd_and (pd_not (pd_isi (t := .bool) hK (bn_any rfl B.isinstance boot_isinstance) (bn_any rfl B.bool boot_bool) (pd_var (i := 0) rfl (.inl rfl)))) (pd_one (pd_cmp (ck_eq hu) (pd_var (i := 0) rfl (.inl rfl)) (PD.weak (pd_var (i := 1) rfl (.inl rfl))) rfl))))))))
abbrev n_lies_within : List Str := ["one", "other"]
abbrev p_lies_within : List Str := ["one", "other"]
theorem sc_lies_within : FnScope n_lies_within p_lies_within (defScope s_lies_within) := ⟨rfl, rfl, rfl, by decide +kernel, rfl, by decide +kernel, by decide +kernel⟩
theorem b_lies_within : BindsOk "lies_within" s_lies_within p_lies_within := fun _ _ _ _ _ _ us hl => match us, hl with | [_, _], _ => rfl
theorem kb_lies_within_0_other_one : KBindsOk "lies_within" s_lies_within p_lies_within 0 ["other", "one"] [1, 0] := fun _ _ _ _ _ _ us ws h1 h2 => match us, ws, h1, h2 with | [], [_, _], _, _ => rfl
theorem ok_lies_within {P : Program} {w : World} {K : PySem.W.Frag} {mg : Str → Option Value} {base : Heap} (hK : K = TheK.K) (B : Bf K mg) (F : Fu K mg "lies_within" s_lies_within) : Kn P w K mg base .s "lies_within" s_lies_within n_lies_within p_lies_within [.val, .val] f_lies_within 1 := kn_of F sc_lies_within rfl b_lies_within (.inl ⟨rfl, rfl⟩) fun f cdv A outer s H E hr tk hp => by
  have nd : n_lies_within.Nodup := sc_lies_within.nd
  have hc : (cxD P w K mg base n_lies_within "lies_within" (defScope s_lies_within) f cdv A outer s H E).calm = true := rfl
  have hu := room_u hr
  exact (ss_one (sd_ret (pd_and (pd_cmp (ck_le hu) (pd_ix hu (pd_var (i := 1) rfl (.inl rfl)) pd_int) (PD.weak (pd_ix hu (pd_var (i := 0) rfl (.inl rfl)) pd_int)) rfl) (pd_one (pd_cmp (ck_le hu) (pd_ix hu (pd_var (i := 0) rfl (.inl rfl)) pd_int) (PD.weak (pd_ix hu (pd_var (i := 1) rfl (.inl rfl)) pd_int)) rfl)))))
abbrev n_law_spans : List Str := ["_law_size_so", "_law_found", "_law_near_so", "_law_far_so"]
abbrev p_law_spans : List Str := ["_law_size_so"]
theorem sc_law_spans : FnScope n_law_spans p_law_spans (defScope s_law_spans) := ⟨rfl, rfl, rfl, by decide +kernel, rfl, by decide +kernel, by decide +kernel⟩
theorem b_law_spans : BindsOk "_law_spans" s_law_spans p_law_spans := fun _ _ _ _ _ _ us hl => match us, hl with | [_], _ => rfl
theorem ok_law_spans {P : Program} {w : World} {K : PySem.W.Frag} {mg : Str → Option Value} {base : Heap} (hK : K = TheK.K) (B : Bf K mg) (F : Fu K mg "_law_spans" s_law_spans) : Kn P w K mg base .s "_law_spans" s_law_spans n_law_spans p_law_spans [.val] f_law_spans 1 := kn_of F sc_law_spans rfl b_law_spans (.inl ⟨rfl, rfl⟩) fun f cdv A outer s H E hr tk hp => by
  have nd : n_law_spans.Nodup := sc_law_spans.nd
  have hc : (cxD P w K mg base n_law_spans "_law_spans" (defScope s_law_spans) f cdv A outer s H E).calm = true := rfl
  have hu := room_u hr
  exact (ss_cons (sd_asgN (i := 1) nd rfl (.inl rfl) (PD.str (pd_lst ad_nil))) (ss_cons (sd_for hp hc (id_range1 (bn_any rfl B.range boot_range) (pd_var (i := 0) rfl (.inl rfl))) (gd_name (i := 2) nd rfl (.inr rfl)) (ss_fg (vs := [2]) (ss_one (sd_asgN (i := 1) nd rfl (.inl rfl) (pd_add (pd_var (i := 1) rfl (.inl rfl)) (PD.str (pd_lc (own := [("_law_far_so", 3)]) hc nd (by kernel_rfl) rfl (id_range2 (bn_any rfl B.range boot_range) (pd_var (i := 2) rfl (.inr (.inl rfl))) (pd_var (i := 0) rfl (.inl rfl))) (fun s H C cl fp => (gd_name (i := 3) nd rfl (.inl rfl))) (fun s H C cl fp => cd_nil) (fun s H C cl fp => (pd_tup (ad_cons (pd_var (i := 2) rfl (.inr (.inl rfl))) (ad_cons (pd_var (i := 3) rfl (.inl rfl)) ad_nil))))))))))) (ss_one (sd_ret (pd_var (i := 1) rfl (.inl rfl))))))
abbrev n_all_stretches : List Str := ["hours", "first", "last"]
abbrev p_all_stretches : List Str := ["hours"]
theorem sc_all_stretches : FnScope n_all_stretches p_all_stretches (defScope s_all_stretches) := ⟨rfl, rfl, rfl, by decide +kernel, rfl, by decide +kernel, by decide +kernel⟩
theorem b_all_stretches : BindsOk "all_stretches" s_all_stretches p_all_stretches := fun _ _ _ _ _ _ us hl => match us, hl with | [_], _ => rfl
theorem kb_all_stretches_0_hours : KBindsOk "all_stretches" s_all_stretches p_all_stretches 0 ["hours"] [0] := fun _ _ _ _ _ _ us ws h1 h2 => match us, ws, h1, h2 with | [], [_], _, _ => rfl
def c_all_stretches_1 : DE := (eLc2 [1, 2] [2] (iRng1 (eVar 0)) (gN 1) tYes (iRng2 (eVar 1) (eVar 0)) (gN 2) tYes (eTup (aCons (eVar 1) (aCons (eVar 2) aNil))))
def m_all_stretches : DS := (sRet c_all_stretches_1)
def f_all_stretches : DF := mkR 3 [.val] m_all_stretches
theorem ok_all_stretches {P : Program} {w : World} {K : PySem.W.Frag} {mg : Str → Option Value} {base : Heap} (hK : K = TheK.K) (B : Bf K mg) (F : Fu K mg "all_stretches" s_all_stretches) : Kn P w K mg base .f "all_stretches" s_all_stretches n_all_stretches p_all_stretches [.val] f_all_stretches 1 := kn_of F sc_all_stretches rfl b_all_stretches (.inr rfl) fun f cdv A outer s H E hr tk hp => by
  have nd : n_all_stretches.Nodup := sc_all_stretches.nd
  have hc : (cxD P w K mg base n_all_stretches "all_stretches" (defScope s_all_stretches) f cdv A outer s H E).calm = true := rfl
  have hu := room_u hr
  exact (ss_one (sd_retF (pd_lc2 (own := [("first", 1), ("last", 2)]) (vs1 := [2]) hc nd (by kernel_rfl) rfl rfl rfl (id_range1 (bn_any rfl B.range boot_range) (pd_var (i := 0) rfl (.inr (.inl rfl)))) (fun s H C cl fp => (gd_name (i := 1) nd rfl (.inl rfl))) (fun s H C cl fp => cd_nil) (fun s H C cl fp => (id_range2 (bn_any rfl B.range boot_range) (pd_var (i := 1) rfl (.inl rfl)) (pd_var (i := 0) rfl (.inr (.inl rfl))))) (fun s H C cl fp => (gd_name (i := 2) nd rfl (.inl rfl))) (fun s H C cl fp => cd_nil) (fun s H C cl fp => (pd_tup (ad_cons (pd_var (i := 1) rfl (.inl rfl)) (ad_cons (pd_var (i := 2) rfl (.inl rfl)) ad_nil)))))))
abbrev n_law_sizes_right : List Str := ["_law_size_so", "_law_spans_so", "_law_told", "_law_fine", "_law_own"]
abbrev p_law_sizes_right : List Str := ["_law_size_so"]
theorem sc_law_sizes_right : FnScope n_law_sizes_right p_law_sizes_right (defScope s_law_sizes_right) := ⟨rfl, rfl, rfl, by decide +kernel, rfl, by decide +kernel, by decide +kernel⟩
theorem b_law_sizes_right : BindsOk "_law_sizes_right" s_law_sizes_right p_law_sizes_right := fun _ _ _ _ _ _ us hl => match us, hl with | [_], _ => rfl
def c_law_sizes_right_1 : DE := (eLc [4] (iSeq (eVar 1)) (gN 4) tYes (eCall f_is_stretch [.e (eVar 0), .e (eVar 4)]))
def m_law_sizes_right : DS := (sSeq (sAsgN 1 (eCall f_law_spans [.e (eVar 0)])) (sNst 2 (eCall f_all_stretches [.e (eVar 0)]) (aCons (eCallK f_all_stretches [0] (aCons (eVar 0) aNil)) aNil) (tNot (tV (eCall (f_law_same 30) [.e (eVar 2), .e (e2 dMul (eLst (aCons (eVar 1) aNil)) (eC (.int 2)))]))) (sRet (eC (.bl false))) (eC (.str "more")) (sSeq (sAsgN 3 c_law_sizes_right_1) (sRet (eCall (f_law_same 30) [.e (eLst (aCons (eCall f_all_stretches [.e (eVar 0)]) (aCons (eVar 3) aNil))), .e (eLst (aCons (eVar 1) (aCons (e2 dMul (eLst (aCons (eC (.bl true)) aNil)) (e1 dLen (eVar 1))) aNil)))])))))
def f_law_sizes_right : DF := mkF 5 [.val] m_law_sizes_right
theorem ok_law_sizes_right {P : Program} {w : World} {K : PySem.W.Frag} {mg : Str → Option Value} {base : Heap} (hK : K = TheK.K) (B : Bf K mg) (F : Fu K mg "_law_sizes_right" s_law_sizes_right) (k_law_spans : Kn P w K mg base .s "_law_spans" s_law_spans n_law_spans p_law_spans [.val] f_law_spans 1) (k_law_same : Kn P w K mg base .s "_law_same" s_law_same n_law_same p_law_same [.val, .val] (f_law_same 30) 31) (k_all_stretches : Kn P w K mg base .f "all_stretches" s_all_stretches n_all_stretches p_all_stretches [.val] f_all_stretches 1) (k_is_stretch : Kn P w K mg base .s "is_stretch" s_is_stretch n_is_stretch p_is_stretch [.val, .val] f_is_stretch 2) : Kn P w K mg base .s "_law_sizes_right" s_law_sizes_right n_law_sizes_right p_law_sizes_right [.val] f_law_sizes_right 32 := kn_of F sc_law_sizes_right rfl b_law_sizes_right (.inl ⟨rfl, rfl⟩) fun f cdv A outer s H E hr tk hp => by
  have nd : n_law_sizes_right.Nodup := sc_law_sizes_right.nd
  have hc : (cxD P w K mg base n_law_sizes_right "_law_sizes_right" (defScope s_law_sizes_right) f cdv A outer s H E).calm = true := rfl
  have hu := room_u hr
  exact (ss_cons (sd_asgN (i := 1) nd rfl (.inl rfl) (pd_call (k_law_spans.fn hr) tk rfl (ga_val (pd_var (i := 0) rfl (.inr (.inl rfl))) ga_nil))) (ss_nst (i := 2) nd rfl (.inl rfl) (.inl rfl) (pd_call (k_all_stretches.fn hr) tk rfl (ga_val (pd_var (i := 0) rfl (.inr (.inl rfl))) ga_nil)) (ad_cons (PD.str (pd_callK0 (k_all_stretches.fnK hr kb_all_stretches_0_hours) tk rfl (kd_cons (pd_var (i := 0) rfl (.inr (.inl rfl))) kd_nil) (fun e ds e2 h => have l := (aLenS (fun _ _ _ h => aLen0 h)) e ds e2 h; ⟨l, permL l rfl⟩))) ad_nil) (td_not (td_val (pd_call (k_law_same.fn hr) tk rfl (ga_val (pd_var (i := 2) rfl (.inl rfl)) (ga_val (pd_mul (PD.str (pd_lst (ad_cons (pd_var (i := 1) rfl (.inl rfl)) ad_nil))) pd_int) ga_nil))))) (ss_one (sd_ret pd_bl)) pd_str (ss_cons (sd_lc (i := 3) (own := [("_law_own", 4)]) hc nd rfl rfl rfl rfl (by kernel_rfl) (by kernel_rfl) rfl (id_seq (pd_var (i := 1) rfl (.inl rfl))) (fun s H C cl fp => (gd_name (i := 4) nd rfl (.inl rfl))) (fun s H C cl fp => cd_nil) (fun s H C cl fp => (pd_call (k_is_stretch.fn hr) tkNone rfl (ga_val (pd_var (i := 0) rfl (.inr (.inl rfl))) (ga_val (pd_var (i := 4) rfl (.inl rfl)) ga_nil))))) (ss_one (sd_ret (pd_call (k_law_same.fn hr) tk rfl (ga_val (PD.str (pd_lst (ad_cons (PD.str (pd_call (k_all_stretches.fn hr) tk rfl (ga_val (pd_var (i := 0) rfl (.inr (.inl rfl))) ga_nil))) (ad_cons (pd_var (i := 3) rfl (.inl rfl)) ad_nil)))) (ga_val (PD.str (pd_lst (ad_cons (pd_var (i := 1) rfl (.inl rfl)) (ad_cons (pd_mul (PD.str (pd_lst (ad_cons pd_bl ad_nil))) (pd_len (bn_any rfl B.len boot_len) (PD.weak (pd_var (i := 1) rfl (.inl rfl))))) ad_nil)))) ga_nil))))))))
abbrev n_law_by_hand_right : List Str := ["_law_fine", "_law_odd", "_law_got", "_law_due_so", "_law_own"]
abbrev p_law_by_hand_right : List Str := []
theorem sc_law_by_hand_right : FnScope n_law_by_hand_right p_law_by_hand_right (defScope s_law_by_hand_right) := ⟨rfl, rfl, rfl, by decide +kernel, rfl, by decide +kernel, by decide +kernel⟩
theorem b_law_by_hand_right : BindsOk "_law_by_hand_right" s_law_by_hand_right p_law_by_hand_right := fun _ _ _ _ _ _ us hl => match us, hl with | [], _ => rfl
def c_law_by_hand_right_1 : DE := (eLc [4] (iSeq (e2 dAdd (eVar 0) (eVar 1))) (gN 4) tYes (eCall f_is_stretch [.e (eC (.int 4)), .e (eVar 4)]))
def c_law_by_hand_right_2 : DE := (eLc [4] (iRng2 (eC (.int 1)) (eC (.int 9))) (gN 4) tYes (eCall f_law_sizes_right [.e (eVar 4)]))
def m_law_by_hand_right : DS := (sSeq (sAsgN 0 (eLst (aCons (eTup (aCons (eC (.int 0)) (aCons (eC (.int 0)) aNil))) (aCons (eTup (aCons (eC (.int 0)) (aCons (eC (.int 3)) aNil))) (aCons (eTup (aCons (eC (.int 2)) (aCons (eC (.int 3)) aNil))) (aCons (eTup (aCons (eC (.int 1)) (aCons (eC (.int 2)) aNil))) (aCons (eTup (aCons (eC (.int 3)) (aCons (eC (.int 3)) aNil))) aNil))))))) (sSeq (sAsgN 1 (eLst (aCons (eTup (aCons (eC (.int 1)) (aCons (eC (.int 0)) aNil))) (aCons (eTup (aCons (eC (.int 0)) (aCons (eC (.int 4)) aNil))) (aCons (eTup (aCons (e1 dNeg (eC (.int 1))) (aCons (eC (.int 2)) aNil))) (aCons (eTup (aCons (eC (.int 4)) (aCons (eC (.int 4)) aNil))) (aCons (eTup (aCons (eC (.int 0)) aNil)) (aCons (eTup (aCons (eC (.int 0)) (aCons (eC (.int 1)) (aCons (eC (.int 2)) aNil)))) (aCons (eLst (aCons (eC (.int 0)) (aCons (eC (.int 1)) aNil))) (aCons (eTup (aCons (eC (.int 0)) (aCons (eC (.bl true)) aNil))) (aCons (eTup (aCons (eC (.bl false)) (aCons (eC (.int 1)) aNil))) (aCons (eTup (aCons (eC (.int 0)) (aCons (eC .non) aNil))) (aCons (eTup (aCons (eC (.str "0")) (aCons (eC (.int 1)) aNil))) (aCons (eC .non) (aCons (eC (.int 7)) aNil))))))))))))))) (sSeq (sAsgN 1 (e2 dAdd (eVar 1) (eLst (aCons (eC (.str "01")) (aCons (eTup aNil) (aCons (eTup (aCons (eTup (aCons (eC (.int 0)) (aCons (eC (.int 1)) aNil))) aNil)) (aCons (eTup (aCons (eTup (aCons (eC (.int 0)) aNil)) (aCons (eC (.int 1)) aNil))) (aCons (eC (.bl true)) (aCons (eTup (aCons (eC (.int 3)) (aCons (eC (.int 2)) aNil))) (aCons (eTup (aCons (e1 dNeg (eC (.int 1))) (aCons (e1 dNeg (eC (.int 1))) aNil))) (aCons (e1 dNew (eC (.int 4))) aNil))))))))))) (sSeq (sAsgN 2 (eLst (aCons c_law_by_hand_right_1 (aCons (eCallK f_is_stretch [1, 0] (aCons (eTup (aCons (eC (.int 0)) (aCons (eC (.int 0)) aNil))) (aCons (eC (.int 1)) aNil))) (aCons (eCall f_is_stretch [.e (eC (.int 1)), .e (eTup (aCons (eC (.int 0)) (aCons (eC (.int 1)) aNil)))]) aNil))))) (sSeq (sAsgN 3 (eLst (aCons (e2 dAdd (e2 dMul (eLst (aCons (eC (.bl true)) aNil)) (e1 dLen (eVar 0))) (e2 dMul (eLst (aCons (eC (.bl false)) aNil)) (e1 dLen (eVar 1)))) (aCons (eC (.bl true)) (aCons (eC (.bl false)) aNil))))) (sSeq (sAsgN 2 (e2 dAdd (eVar 2) (eLst (aCons (eCall f_lies_within [.e (eTup (aCons (eC (.int 1)) (aCons (eC (.int 1)) aNil))), .e (eTup (aCons (eC (.int 0)) (aCons (eC (.int 1)) aNil)))]) (aCons (eCall f_lies_within [.e (eTup (aCons (eC (.int 0)) (aCons (eC (.int 1)) aNil))), .e (eTup (aCons (eC (.int 1)) (aCons (eC (.int 2)) aNil)))]) (aCons (eCall f_lies_within [.e (eTup (aCons (eC (.int 2)) (aCons (eC (.int 3)) aNil))), .e (eTup (aCons (eC (.int 2)) (aCons (eC (.int 3)) aNil)))]) (aCons (eCall f_lies_within [.e (eTup (aCons (eC (.int 0)) (aCons (eC (.int 3)) aNil))), .e (eTup (aCons (eC (.int 1)) (aCons (eC (.int 3)) aNil)))]) aNil))))))) (sSeq (sAsgN 3 (e2 dAdd (eVar 3) (eLst (aCons (eC (.bl true)) (aCons (eC (.bl false)) (aCons (eC (.bl true)) (aCons (eC (.bl false)) aNil))))))) (sSeq (sAsgN 2 (e2 dAdd (eVar 2) (eLst (aCons (eCallK f_lies_within [1, 0] (aCons (eLst (aCons (eC (.int 0)) (aCons (eC (.int 7)) aNil))) (aCons (eLst (aCons (eC (.int 3)) (aCons (eC (.int 4)) aNil))) aNil))) (aCons (eCall f_lies_within [.e (eTup (aCons (eC (.int 3)) (aCons (eC (.int 4)) aNil))), .e (eTup (aCons (eC (.int 0)) (aCons (eC (.int 3)) aNil)))]) (aCons (eCall f_lies_within [.e (eTup (aCons (eC (.int 3)) (aCons (eC (.int 4)) aNil))), .e (eTup (aCons (eC (.int 5)) (aCons (eC (.int 6)) aNil)))]) aNil)))))) (sSeq (sAsgN 3 (e2 dAdd (eVar 3) (eLst (aCons (eC (.bl true)) (aCons (eC (.bl false)) (aCons (eC (.bl false)) aNil)))))) (sRet (eAnd (eCall (f_law_same 30) [.e (eVar 2), .e (eVar 3)]) (e1 dAll c_law_by_hand_right_2))))))))))))
def f_law_by_hand_right : DF := mkF 5 [] m_law_by_hand_right
theorem ok_law_by_hand_right {P : Program} {w : World} {K : PySem.W.Frag} {mg : Str → Option Value} {base : Heap} (hK : K = TheK.K) (B : Bf K mg) (RK : RosK P w K mg base) (F : Fu K mg "_law_by_hand_right" s_law_by_hand_right) (k_is_stretch : Kn P w K mg base .s "is_stretch" s_is_stretch n_is_stretch p_is_stretch [.val, .val] f_is_stretch 2) (k_law_same : Kn P w K mg base .s "_law_same" s_law_same n_law_same p_law_same [.val, .val] (f_law_same 30) 31) (k_lies_within : Kn P w K mg base .s "lies_within" s_lies_within n_lies_within p_lies_within [.val, .val] f_lies_within 1) (k_law_sizes_right : Kn P w K mg base .s "_law_sizes_right" s_law_sizes_right n_law_sizes_right p_law_sizes_right [.val] f_law_sizes_right 32) : Kn P w K mg base .s "_law_by_hand_right" s_law_by_hand_right n_law_by_hand_right p_law_by_hand_right [] f_law_by_hand_right 33 := kn_of F sc_law_by_hand_right rfl b_law_by_hand_right (.inl ⟨rfl, rfl⟩) fun f cdv A outer s H E hr tk hp => by
  have nd : n_law_by_hand_right.Nodup := sc_law_by_hand_right.nd
  have hc : (cxD P w K mg base n_law_by_hand_right "_law_by_hand_right" (defScope s_law_by_hand_right) f cdv A outer s H E).calm = true := rfl
  have hu := room_u hr
  exact (ss_cons (sd_asgN (i := 0) nd rfl (.inl rfl) (PD.str (pd_lst (ad_cons (pd_tup (ad_cons pd_int (ad_cons pd_int ad_nil))) (ad_cons (pd_tup (ad_cons pd_int (ad_cons pd_int ad_nil))) (ad_cons (pd_tup (ad_cons pd_int (ad_cons pd_int ad_nil))) (ad_cons (pd_tup (ad_cons pd_int (ad_cons pd_int ad_nil))) (ad_cons (pd_tup (ad_cons pd_int (ad_cons pd_int ad_nil))) ad_nil)))))))) (ss_cons (sd_asgN (i := 1) nd rfl (.inl rfl) (PD.str (pd_lst (ad_cons (pd_tup (ad_cons pd_int (ad_cons pd_int ad_nil))) (ad_cons (pd_tup (ad_cons pd_int (ad_cons pd_int ad_nil))) (ad_cons (pd_tup (ad_cons (pd_neg pd_int) (ad_cons pd_int ad_nil))) (ad_cons (pd_tup (ad_cons pd_int (ad_cons pd_int ad_nil))) (ad_cons (pd_tup (ad_cons pd_int ad_nil)) (ad_cons (pd_tup (ad_cons pd_int (ad_cons pd_int (ad_cons pd_int ad_nil)))) (ad_cons (PD.str (pd_lst (ad_cons pd_int (ad_cons pd_int ad_nil)))) (ad_cons (pd_tup (ad_cons pd_int (ad_cons pd_bl ad_nil))) (ad_cons (pd_tup (ad_cons pd_bl (ad_cons pd_int ad_nil))) (ad_cons (pd_tup (ad_cons pd_int (ad_cons pd_non ad_nil))) (ad_cons (pd_tup (ad_cons pd_str (ad_cons pd_int ad_nil))) (ad_cons pd_non (ad_cons pd_int ad_nil)))))))))))))))) (ss_cons (sd_asgN (i := 1) nd rfl (.inl rfl) (pd_add (pd_var (i := 1) rfl (.inl rfl)) (PD.str (pd_lst (ad_cons pd_str (ad_cons (pd_tup ad_nil) (ad_cons (pd_tup (ad_cons (pd_tup (ad_cons pd_int (ad_cons pd_int ad_nil))) ad_nil)) (ad_cons (pd_tup (ad_cons (pd_tup (ad_cons pd_int ad_nil)) (ad_cons pd_int ad_nil))) (ad_cons pd_bl (ad_cons (pd_tup (ad_cons pd_int (ad_cons pd_int ad_nil))) (ad_cons (pd_tup (ad_cons (pd_neg pd_int) (ad_cons (pd_neg pd_int) ad_nil))) (ad_cons (pd_new hK RK hr rfl pd_int) ad_nil)))))))))))) (ss_cons (sd_asgN (i := 2) nd rfl (.inl rfl) (PD.str (pd_lst (ad_cons (PD.str (pd_lc (own := [("_law_own", 4)]) hc nd (by kernel_rfl) rfl (id_seq (pd_add (pd_var (i := 0) rfl (.inl rfl)) (pd_var (i := 1) rfl (.inl rfl)))) (fun s H C cl fp => (gd_name (i := 4) nd rfl (.inl rfl))) (fun s H C cl fp => cd_nil) (fun s H C cl fp => (pd_call (k_is_stretch.fn hr) tkNone rfl (ga_val pd_int (ga_val (pd_var (i := 4) rfl (.inl rfl)) ga_nil)))))) (ad_cons (pd_callK0 (k_is_stretch.fnK hr kb_is_stretch_0_thing_hours) tk rfl (kd_cons (pd_tup (ad_cons pd_int (ad_cons pd_int ad_nil))) (kd_cons pd_int kd_nil)) (fun e ds e2 h => have l := (aLenS (aLenS (fun _ _ _ h => aLen0 h))) e ds e2 h; ⟨l, permL l rfl⟩)) (ad_cons (pd_call (k_is_stretch.fn hr) tk rfl (ga_val pd_int (ga_val (pd_tup (ad_cons pd_int (ad_cons pd_int ad_nil))) ga_nil))) ad_nil)))))) (ss_cons (sd_asgN (i := 3) nd rfl (.inl rfl) (PD.str (pd_lst (ad_cons (pd_add (pd_mul (PD.str (pd_lst (ad_cons pd_bl ad_nil))) (pd_len (bn_any rfl B.len boot_len) (PD.weak (pd_var (i := 0) rfl (.inl rfl))))) (pd_mul (PD.str (pd_lst (ad_cons pd_bl ad_nil))) (pd_len (bn_any rfl B.len boot_len) (PD.weak (pd_var (i := 1) rfl (.inl rfl)))))) (ad_cons pd_bl (ad_cons pd_bl ad_nil)))))) (ss_cons (sd_asgN (i := 2) nd rfl (.inl rfl) (pd_add (pd_var (i := 2) rfl (.inl rfl)) (PD.str (pd_lst (ad_cons (pd_call (k_lies_within.fn hr) tk rfl (ga_val (pd_tup (ad_cons pd_int (ad_cons pd_int ad_nil))) (ga_val (pd_tup (ad_cons pd_int (ad_cons pd_int ad_nil))) ga_nil))) (ad_cons (pd_call (k_lies_within.fn hr) tk rfl (ga_val (pd_tup (ad_cons pd_int (ad_cons pd_int ad_nil))) (ga_val (pd_tup (ad_cons pd_int (ad_cons pd_int ad_nil))) ga_nil))) (ad_cons (pd_call (k_lies_within.fn hr) tk rfl (ga_val (pd_tup (ad_cons pd_int (ad_cons pd_int ad_nil))) (ga_val (pd_tup (ad_cons pd_int (ad_cons pd_int ad_nil))) ga_nil))) (ad_cons (pd_call (k_lies_within.fn hr) tk rfl (ga_val (pd_tup (ad_cons pd_int (ad_cons pd_int ad_nil))) (ga_val (pd_tup (ad_cons pd_int (ad_cons pd_int ad_nil))) ga_nil))) ad_nil)))))))) (ss_cons (sd_asgN (i := 3) nd rfl (.inl rfl) (pd_add (pd_var (i := 3) rfl (.inl rfl)) (PD.str (pd_lst (ad_cons pd_bl (ad_cons pd_bl (ad_cons pd_bl (ad_cons pd_bl ad_nil)))))))) (ss_cons (sd_asgN (i := 2) nd rfl (.inl rfl) (pd_add (pd_var (i := 2) rfl (.inl rfl)) (PD.str (pd_lst (ad_cons (pd_callK0 (k_lies_within.fnK hr kb_lies_within_0_other_one) tk rfl (kd_cons (PD.str (pd_lst (ad_cons pd_int (ad_cons pd_int ad_nil)))) (kd_cons (PD.str (pd_lst (ad_cons pd_int (ad_cons pd_int ad_nil)))) kd_nil)) (fun e ds e2 h => have l := (aLenS (aLenS (fun _ _ _ h => aLen0 h))) e ds e2 h; ⟨l, permL l rfl⟩)) (ad_cons (pd_call (k_lies_within.fn hr) tk rfl (ga_val (pd_tup (ad_cons pd_int (ad_cons pd_int ad_nil))) (ga_val (pd_tup (ad_cons pd_int (ad_cons pd_int ad_nil))) ga_nil))) (ad_cons (pd_call (k_lies_within.fn hr) tk rfl (ga_val (pd_tup (ad_cons pd_int (ad_cons pd_int ad_nil))) (ga_val (pd_tup (ad_cons pd_int (ad_cons pd_int ad_nil))) ga_nil))) ad_nil))))))) (ss_cons (sd_asgN (i := 3) nd rfl (.inl rfl) (pd_add (pd_var (i := 3) rfl (.inl rfl)) (PD.str (pd_lst (ad_cons pd_bl (ad_cons pd_bl (ad_cons pd_bl ad_nil))))))) (ss_one (sd_ret (pd_and (pd_call (k_law_same.fn hr) tk rfl (ga_val (pd_var (i := 2) rfl (.inl rfl)) (ga_val (pd_var (i := 3) rfl (.inl rfl)) ga_nil))) (pd_one (pd_all hc (bn_any rfl B.all boot_all) (PD.weak (PD.str (pd_lc (own := [("_law_own", 4)]) hc nd (by kernel_rfl) rfl (id_range2 (bn_any rfl B.range boot_range) pd_int pd_int) (fun s H C cl fp => (gd_name (i := 4) nd rfl (.inl rfl))) (fun s H C cl fp => cd_nil) (fun s H C cl fp => (pd_call (k_law_sizes_right.fn hr) tkNone rfl (ga_val (pd_var (i := 4) rfl (.inl rfl)) ga_nil))))))))))))))))))))
abbrev n_law_take : List Str := ["_law_box_here", "_law_below_so", "_law_drawn_so", "_law_once", "_law_far_so", "_law_twice_so"]
abbrev p_law_take : List Str := ["_law_box_here", "_law_below_so"]
theorem sc_law_take : FnScope n_law_take p_law_take (defScope s_law_take) := ⟨rfl, rfl, rfl, by decide +kernel, rfl, by decide +kernel, by decide +kernel⟩
theorem b_law_take : BindsOk "_law_take" s_law_take p_law_take := fun _ _ _ _ _ _ us hl => match us, hl with | [_, _], _ => rfl
theorem ok_law_take {P : Program} {w : World} {K : PySem.W.Frag} {mg : Str → Option Value} {base : Heap} (hK : K = TheK.K) (B : Bf K mg) (F : Fu K mg "_law_take" s_law_take) : Kn P w K mg base .s "_law_take" s_law_take n_law_take p_law_take [.bor, .val] f_law_take 1 := kn_of F sc_law_take rfl b_law_take (.inl ⟨rfl, rfl⟩) fun f cdv A outer s H E hr tk hp => by
  have nd : n_law_take.Nodup := sc_law_take.nd
  have hc : (cxD P w K mg base n_law_take "_law_take" (defScope s_law_take) f cdv A outer s H E).calm = true := rfl
  have hu := room_u hr
  exact (ss_cons (sd_if (td_cmp ck_gt (pd_ixL (i := 0) hu rfl (.inl rfl) pd_int) (PD.weak pd_int) rfl) (ss_cons (sd_asgN (i := 2) nd rfl (.inl rfl) (pd_mod (pd_toint (bn_any rfl B.int boot_int) (pd_ixL (i := 0) hu rfl (.inl rfl) pd_int)) (pd_var (i := 1) rfl (.inl rfl)))) (ss_cons (sd_setL (i := 0) rfl (.inl rfl) pd_int (pd_div (pd_ixL (i := 0) hu rfl (.inl rfl) pd_int) (pd_var (i := 1) rfl (.inl rfl)))) (ss_one (sd_ret (pd_var (i := 2) rfl (.inl rfl)))))) ss_nil) (ss_cons (sd_setL (i := 0) rfl (.inl rfl) pd_int (pd_add (pd_ixL (i := 0) hu rfl (.inl rfl) pd_int) pd_int)) (ss_cons (sd_asgN (i := 3) nd rfl (.inl rfl) (pd_mod (pd_toint (bn_any rfl B.int boot_int) (pd_mul (pd_add (pd_ixL (i := 0) hu rfl (.inl rfl) pd_int) (pd_mul pd_int (pd_ixL (i := 0) hu rfl (.inl rfl) pd_int))) (pd_add pd_int (pd_ixL (i := 0) hu rfl (.inl rfl) pd_int)))) pd_int)) (ss_cons (sd_asgN (i := 4) nd rfl (.inl rfl) (pd_add (pd_mod (pd_toint (bn_any rfl B.int boot_int) (pd_var (i := 3) rfl (.inl rfl))) pd_int) pd_int)) (ss_cons (sd_asgN (i := 5) nd rfl (.inl rfl) (pd_mod (pd_toint (bn_any rfl B.int boot_int) (pd_mul (pd_add (pd_add (pd_var (i := 3) rfl (.inl rfl)) (pd_ixL (i := 0) hu rfl (.inl rfl) pd_int)) (pd_div (pd_ixL (i := 0) hu rfl (.inl rfl) pd_int) pd_int)) (pd_var (i := 4) rfl (.inl rfl)))) pd_int)) (ss_one (sd_ret (pd_mod (pd_toint (bn_any rfl B.int boot_int) (pd_div (pd_mod (pd_toint (bn_any rfl B.int boot_int) (pd_add (pd_mul (pd_var (i := 5) rfl (.inl rfl)) pd_int) (pd_var (i := 3) rfl (.inl rfl)))) pd_int) pd_int)) (pd_var (i := 1) rfl (.inl rfl))))))))))
abbrev n_law_of : List Str := ["_law_box_here", "_law_pool_so"]
abbrev p_law_of : List Str := ["_law_box_here", "_law_pool_so"]
theorem sc_law_of : FnScope n_law_of p_law_of (defScope s_law_of) := ⟨rfl, rfl, rfl, by decide +kernel, rfl, by decide +kernel, by decide +kernel⟩
theorem b_law_of : BindsOk "_law_of" s_law_of p_law_of := fun _ _ _ _ _ _ us hl => match us, hl with | [_, _], _ => rfl
theorem ok_law_of {P : Program} {w : World} {K : PySem.W.Frag} {mg : Str → Option Value} {base : Heap} (hK : K = TheK.K) (B : Bf K mg) (F : Fu K mg "_law_of" s_law_of) (k_law_take : Kn P w K mg base .s "_law_take" s_law_take n_law_take p_law_take [.bor, .val] f_law_take 1) : Kn P w K mg base .s "_law_of" s_law_of n_law_of p_law_of [.bor, .ro] f_law_of 2 := kn_of F sc_law_of rfl b_law_of (.inl ⟨rfl, rfl⟩) fun f cdv A outer s H E hr tk hp => by
  have nd : n_law_of.Nodup := sc_law_of.nd
  have hc : (cxD P w K mg base n_law_of "_law_of" (defScope s_law_of) f cdv A outer s H E).calm = true := rfl
  have hu := room_u hr
  exact (ss_one (sd_ret (pd_ixL (i := 1) hu rfl (.inl rfl) (pd_call (k_law_take.fn hr) tk rfl (ga_lend (i := 0) rfl (.inl rfl) (ga_val (pd_len (bn_any rfl B.len boot_len) (pd_tmp (i := 1) rfl (.inl rfl))) ga_nil))))))
abbrev n_law_hours : List Str := ["_law_span_so"]
abbrev p_law_hours : List Str := ["_law_span_so"]
theorem sc_law_hours : FnScope n_law_hours p_law_hours (defScope s_law_hours) := ⟨rfl, rfl, rfl, by decide +kernel, rfl, by decide +kernel, by decide +kernel⟩
theorem b_law_hours : BindsOk "_law_hours" s_law_hours p_law_hours := fun _ _ _ _ _ _ us hl => match us, hl with | [_], _ => rfl
def m_law_hours : DS := (sRet (lRng2 (e2 dIx (eVar 0) (eC (.int 0))) (e2 dAdd (e2 dIx (eVar 0) (eC (.int 1))) (eC (.int 1)))))
def f_law_hours : DF := mkF 1 [.val] m_law_hours
theorem ok_law_hours {P : Program} {w : World} {K : PySem.W.Frag} {mg : Str → Option Value} {base : Heap} (hK : K = TheK.K) (B : Bf K mg) (F : Fu K mg "_law_hours" s_law_hours) : Kn P w K mg base .s "_law_hours" s_law_hours n_law_hours p_law_hours [.val] f_law_hours 1 := kn_of F sc_law_hours rfl b_law_hours (.inl ⟨rfl, rfl⟩) fun f cdv A outer s H E hr tk hp => by
  have nd : n_law_hours.Nodup := sc_law_hours.nd
  have hc : (cxD P w K mg base n_law_hours "_law_hours" (defScope s_law_hours) f cdv A outer s H E).calm = true := rfl
  have hu := room_u hr
  exact (ss_one (sd_ret (PD.str (pd_listR2 hc (bn_any rfl B.list boot_list) (bn_any rfl B.range boot_range) (pd_ix hu (pd_var (i := 0) rfl (.inl rfl)) pd_int) (pd_add (pd_ix hu (pd_var (i := 0) rfl (.inl rfl)) pd_int) pd_int)))))
abbrev n_law_right : List Str := ["_law_box_here", "_law_turn", "_law_size_so", "_law_one_so", "_law_two_so", "_law_due_so", "_law_own"]
abbrev p_law_right : List Str := ["_law_box_here"]
theorem sc_law_right : FnScope n_law_right p_law_right (defScope s_law_right) := ⟨rfl, rfl, rfl, by decide +kernel, rfl, by decide +kernel, by decide +kernel⟩
theorem b_law_right : BindsOk "_law_right" s_law_right p_law_right := fun _ _ _ _ _ _ us hl => match us, hl with | [_], _ => rfl
def c_law_right_1 : DE := (eLc [6] (iSeq (eCall f_law_hours [.e (eVar 3)])) (gN 6) (c2 dNotIn (eVar 6) (eCall f_law_hours [.e (eVar 4)])) (eVar 6))
def b_law_right_1 : DS := (sFg [1, 2, 3, 4, 5, 6] (sSeq (sAsgN 2 (e2 dAdd (eC (.int 1)) (eCall f_law_take [.lend 0, .e (eC (.int 8))]))) (sSeq (sAsg (eTup (aCons (eCall f_law_of [.lend 0, .e (eCall f_law_spans [.e (eVar 2)])]) (aCons (eCall f_law_of [.lend 0, .e (eCall f_law_spans [.e (eVar 2)])]) aNil))) (gT (gsCons (gN 3) (gsCons (gN 4) gsNil)))) (sSeq (sAsgN 5 (eB (c2 dEq c_law_right_1 (eLst aNil)))) (sSeq (sIf (tNot (tV (eCall (f_law_same 30) [.e (eLst (aCons (eCall f_lies_within [.e (eVar 3), .e (eVar 4)]) (aCons (eCall f_lies_within [.e (e1 dList (eVar 3)), .e (e1 dList (eVar 4))]) aNil))), .e (e2 dMul (eLst (aCons (eVar 5) aNil)) (eC (.int 2)))]))) (sRet (eC (.bl false))) sNil) (sSeq (sAsgN 6 (eTup (aCons (e2 dSub (eCall f_law_take [.lend 0, .e (e2 dAdd (eVar 2) (eC (.int 3)))]) (eC (.int 1))) (aCons (e2 dSub (eCall f_law_take [.lend 0, .e (e2 dAdd (eVar 2) (eC (.int 3)))]) (eC (.int 1))) aNil)))) (sIf (tNot (tV (eCall (f_law_same 30) [.e (eCall f_is_stretch [.e (eVar 2), .e (eVar 6)]), .e (eB (c2 dIn (eVar 6) (eCall f_law_spans [.e (eVar 2)])))]))) (sRet (eC (.bl false))) sNil)))))))
def l_law_right_1 : DS := (sFor (iRng1 (eC (.int 12))) (gN 1) b_law_right_1)
def m_law_right : DS := (sSeq l_law_right_1 (sRet (eC (.bl true))))
def f_law_right : DF := mkF 7 [.bor] m_law_right
theorem ok_law_right {P : Program} {w : World} {K : PySem.W.Frag} {mg : Str → Option Value} {base : Heap} (hK : K = TheK.K) (B : Bf K mg) (F : Fu K mg "_law_right" s_law_right) (k_law_take : Kn P w K mg base .s "_law_take" s_law_take n_law_take p_law_take [.bor, .val] f_law_take 1) (k_law_of : Kn P w K mg base .s "_law_of" s_law_of n_law_of p_law_of [.bor, .ro] f_law_of 2) (k_law_same : Kn P w K mg base .s "_law_same" s_law_same n_law_same p_law_same [.val, .val] (f_law_same 30) 31) (k_law_spans : Kn P w K mg base .s "_law_spans" s_law_spans n_law_spans p_law_spans [.val] f_law_spans 1) (k_is_stretch : Kn P w K mg base .s "is_stretch" s_is_stretch n_is_stretch p_is_stretch [.val, .val] f_is_stretch 2) (k_law_hours : Kn P w K mg base .s "_law_hours" s_law_hours n_law_hours p_law_hours [.val] f_law_hours 1) (k_lies_within : Kn P w K mg base .s "lies_within" s_lies_within n_lies_within p_lies_within [.val, .val] f_lies_within 1) : Kn P w K mg base .s "_law_right" s_law_right n_law_right p_law_right [.bor] f_law_right 32 := kn_of F sc_law_right rfl b_law_right (.inl ⟨rfl, rfl⟩) fun f cdv A outer s H E hr tk hp => by
  have nd : n_law_right.Nodup := sc_law_right.nd
  have hc : (cxD P w K mg base n_law_right "_law_right" (defScope s_law_right) f cdv A outer s H E).calm = true := rfl
  have hu := room_u hr
  exact (ss_cons (sd_for hp hc (id_range1 (bn_any rfl B.range boot_range) pd_int) (gd_name (i := 1) nd rfl (.inl rfl)) (ss_fg (vs := [1, 2, 3, 4, 5, 6]) (ss_cons (sd_asgN (i := 2) nd rfl (.inl rfl) (pd_add pd_int (pd_call (k_law_take.fn hr) tk rfl (ga_lend (i := 0) rfl (.inl rfl) (ga_val pd_int ga_nil))))) (ss_cons (sd_asgT (pd_tup (ad_cons (pd_call (k_law_of.fn hr) tk rfl (ga_lend (i := 0) rfl (.inl rfl) (ga_rov (pd_call (k_law_spans.fn hr) tk rfl (ga_val (pd_var (i := 2) rfl (.inl rfl)) ga_nil)) ga_nil))) (ad_cons (pd_call (k_law_of.fn hr) tk rfl (ga_lend (i := 0) rfl (.inl rfl) (ga_rov (pd_call (k_law_spans.fn hr) tk rfl (ga_val (pd_var (i := 2) rfl (.inl rfl)) ga_nil)) ga_nil))) ad_nil))) (gd_tup (n := 2) hc (gsd_cons (gd_name (i := 3) nd rfl (.inl rfl)) (gsd_cons (gd_name (i := 4) nd rfl (.inr rfl)) gsd_nil)) (gs_lenS (gs_lenS gs_len0)))) (ss_cons (sd_asgN (i := 5) nd rfl (.inl rfl) (pd_cmp (ck_eq hu) (PD.str (pd_lc (own := [("_law_own", 6)]) hc nd (by kernel_rfl) rfl (id_seq (pd_call (k_law_hours.fn hr) tk rfl (ga_val (pd_var (i := 3) rfl (.inl rfl)) ga_nil))) (fun s H C cl fp => (gd_name (i := 6) nd rfl (.inl rfl))) (fun s H C cl fp => (cd_one (td_in (ik_notIn hu) (pd_var (i := 6) rfl (.inl rfl)) (PD.weak (pd_call (k_law_hours.fn hr) tkNone rfl (ga_val (pd_var (i := 4) rfl (.inr (.inl rfl))) ga_nil))) rfl))) (fun s H C cl fp => (pd_var (i := 6) rfl (.inl rfl))))) (PD.weak (PD.str (pd_lst ad_nil))) rfl)) (ss_cons (sd_if (td_not (td_val (pd_call (k_law_same.fn hr) tk rfl (ga_val (PD.str (pd_lst (ad_cons (pd_call (k_lies_within.fn hr) tk rfl (ga_val (pd_var (i := 3) rfl (.inl rfl)) (ga_val (pd_var (i := 4) rfl (.inr (.inl rfl))) ga_nil))) (ad_cons (pd_call (k_lies_within.fn hr) tk rfl (ga_val (PD.str (pd_list (bn_any rfl B.list boot_list) (PD.weak (pd_var (i := 3) rfl (.inl rfl))))) (ga_val (PD.str (pd_list (bn_any rfl B.list boot_list) (PD.weak (pd_var (i := 4) rfl (.inr (.inl rfl)))))) ga_nil))) ad_nil)))) (ga_val (pd_mul (PD.str (pd_lst (ad_cons (pd_var (i := 5) rfl (.inl rfl)) ad_nil))) pd_int) ga_nil))))) (ss_one (sd_ret pd_bl)) ss_nil) (ss_cons (sd_asgN (i := 6) nd rfl (.inl rfl) (pd_tup (ad_cons (pd_sub (pd_call (k_law_take.fn hr) tk rfl (ga_lend (i := 0) rfl (.inl rfl) (ga_val (pd_add (pd_var (i := 2) rfl (.inl rfl)) pd_int) ga_nil))) pd_int) (ad_cons (pd_sub (pd_call (k_law_take.fn hr) tk rfl (ga_lend (i := 0) rfl (.inl rfl) (ga_val (pd_add (pd_var (i := 2) rfl (.inl rfl)) pd_int) ga_nil))) pd_int) ad_nil)))) (ss_one (sd_if (td_not (td_val (pd_call (k_law_same.fn hr) tk rfl (ga_val (pd_call (k_is_stretch.fn hr) tk rfl (ga_val (pd_var (i := 2) rfl (.inl rfl)) (ga_val (pd_var (i := 6) rfl (.inl rfl)) ga_nil))) (ga_val (pd_in (ik_in hu) (pd_var (i := 6) rfl (.inl rfl)) (PD.weak (pd_call (k_law_spans.fn hr) tk rfl (ga_val (pd_var (i := 2) rfl (.inl rfl)) ga_nil))) rfl) ga_nil))))) (ss_one (sd_ret pd_bl)) ss_nil))))))))) (ss_one (sd_ret pd_bl)))
abbrev n_law_box : List Str := ["_law_script", "_law_k", "_law_cell"]
abbrev p_law_box : List Str := ["_law_script", "_law_k"]
theorem sc_law_box : FnScope n_law_box p_law_box (defScope s_law_box) := ⟨rfl, rfl, rfl, by decide +kernel, rfl, by decide +kernel, by decide +kernel⟩
theorem b_law_box : BindsOk "_law_box" s_law_box p_law_box := fun _ _ _ _ _ _ us hl => match us, hl with | [_, _], _ => rfl
def m_law_box : DS := (sSeq (sAsgN 2 (eIf (c2 dLt (eVar 1) (e1 dLen (eVar 0))) (e2 dIx (eVar 0) (eVar 1)) (eC (.int 0)))) (sRet (eLst (aCons (e2 dMul (e1 dAbs (eVar 2)) (e1 dInt (eB (c2 dGe (e1 dAbs (eVar 2)) (e2 dPow (eC (.int 10)) (eC (.int 18))))))) (aCons (e2 dAdd (e2 dAdd (e2 dMod (e1 dInt (eVar 2)) (eC (.int 2305843009213693951))) (e2 dMul (eC (.int 39373)) (eVar 1))) (eC (.int 11930))) (aCons (eC (.int 0)) aNil))))))
def f_law_box : DF := mkR 3 [.val, .val] m_law_box
theorem ok_law_box {P : Program} {w : World} {K : PySem.W.Frag} {mg : Str → Option Value} {base : Heap} (hK : K = TheK.K) (B : Bf K mg) (F : Fu K mg "_law_box" s_law_box) : Kn P w K mg base .f "_law_box" s_law_box n_law_box p_law_box [.val, .val] f_law_box 1 := kn_of F sc_law_box rfl b_law_box (.inr rfl) fun f cdv A outer s H E hr tk hp => by
  have nd : n_law_box.Nodup := sc_law_box.nd
  have hc : (cxD P w K mg base n_law_box "_law_box" (defScope s_law_box) f cdv A outer s H E).calm = true := rfl
  have hu := room_u hr
  exact (ss_cons (sd_asgN (i := 2) nd rfl (.inl rfl) (pd_if (td_cmp (ck_lt hu) (pd_var (i := 1) rfl (.inl rfl)) (PD.weak (pd_len (bn_any rfl B.len boot_len) (PD.weak (pd_var (i := 0) rfl (.inl rfl))))) rfl) (pd_ix hu (pd_var (i := 0) rfl (.inl rfl)) (pd_var (i := 1) rfl (.inl rfl))) pd_int)) (ss_one (sd_retF (pd_lst (ad_cons (pd_mul (pd_abs (bn_any rfl B.abs boot_abs) (pd_var (i := 2) rfl (.inl rfl))) (pd_toint (bn_any rfl B.int boot_int) (pd_cmp ck_ge (pd_abs (bn_any rfl B.abs boot_abs) (pd_var (i := 2) rfl (.inl rfl))) (PD.weak (pd_pow pd_int pd_int)) rfl))) (ad_cons (pd_add (pd_add (pd_mod (pd_toint (bn_any rfl B.int boot_int) (pd_var (i := 2) rfl (.inl rfl))) pd_int) (pd_mul pd_int (pd_var (i := 1) rfl (.inl rfl)))) pd_int) (ad_cons pd_int ad_nil)))))))
abbrev n_law : List Str := ["_law_script", "_law_cells_here", "_law_k"]
abbrev p_law : List Str := ["_law_script"]
theorem sc_law : FnScope n_law p_law (defScope s_law) := ⟨rfl, rfl, rfl, by decide +kernel, rfl, by decide +kernel, by decide +kernel⟩
theorem b_law : BindsOk "law" s_law p_law := fun _ _ _ _ _ _ us hl => match us, hl with | [_], _ => rfl
def c_law_1 : DE := (eLc [2] (iRng1 (e1 dLen (eVar 1))) (gN 2) tYes (eCall f_law_right [.new (eCall f_law_box [.e (eVar 1), .e (eVar 2)])]))
def m_law : DS := (sSeq (sIf (tNot (tV (eCall f_law_by_hand_right []))) (sRet (eC (.bl false))) sNil) (sSeq (sAsgN 1 (eCall f_law_cells [.look 0, .e (eC (.int 3))])) (sRet (e1 dAll c_law_1))))
def f_law : DF := mkF 3 [.ro] m_law
theorem ok_law {P : Program} {w : World} {K : PySem.W.Frag} {mg : Str → Option Value} {base : Heap} (hK : K = TheK.K) (B : Bf K mg) (F : Fu K mg "law" s_law) (k_law_cells : Kn P w K mg base .s "_law_cells" s_law_cells n_law_cells p_law_cells [.ro, .val] f_law_cells 1) (k_law_by_hand_right : Kn P w K mg base .s "_law_by_hand_right" s_law_by_hand_right n_law_by_hand_right p_law_by_hand_right [] f_law_by_hand_right 33) (k_law_right : Kn P w K mg base .s "_law_right" s_law_right n_law_right p_law_right [.bor] f_law_right 32) (k_law_box : Kn P w K mg base .f "_law_box" s_law_box n_law_box p_law_box [.val, .val] f_law_box 1) : Kn P w K mg base .s "law" s_law n_law p_law [.ro] f_law 34 := kn_of F sc_law rfl b_law (.inl ⟨rfl, rfl⟩) fun f cdv A outer s H E hr tk hp => by
  have nd : n_law.Nodup := sc_law.nd
  have hc : (cxD P w K mg base n_law "law" (defScope s_law) f cdv A outer s H E).calm = true := rfl
  have hu := room_u hr
  exact (ss_cons (sd_if (td_not (td_val (pd_call0 (k_law_by_hand_right.fn hr) tk rfl))) (ss_one (sd_ret pd_bl)) ss_nil) (ss_cons (sd_asgN (i := 1) nd rfl (.inr rfl) (pd_call (k_law_cells.fn hr) tk rfl (ga_look (i := 0) rfl (.inl rfl) (ga_val pd_int ga_nil)))) (ss_one (sd_ret (pd_all hc (bn_any rfl B.all boot_all) (PD.weak (PD.str (pd_lc (own := [("_law_k", 2)]) hc nd (by kernel_rfl) rfl (id_range1 (bn_any rfl B.range boot_range) (pd_len (bn_any rfl B.len boot_len) (PD.weak (pd_var (i := 1) rfl (.inr (.inl rfl)))))) (fun s H C cl fp => (gd_name (i := 2) nd rfl (.inl rfl))) (fun s H C cl fp => cd_nil) (fun s H C cl fp => (pd_call (k_law_right.fn hr) tkNone rfl (ga_new (pd_call (k_law_box.fn hr) tkNone rfl (ga_val (pd_var (i := 1) rfl (.inr (.inl rfl))) (ga_val (pd_var (i := 2) rfl (.inl rfl)) ga_nil))) ga_nil)))))))))))
end LW
namespace AH
open LW PySem L2
variable [TheK]
theorem hours_ok10 {p : Int × Int} (h0 : 0 ≤ p.1) (h1 : p.1 ≤ p.2) (h : p.2 ≤ 100) : f_law_hours [encR p] = .ok (.lst (rng p.1 (p.2 + 1))) [] := by
  refine WF.eq ?_
  rw [f_law_hours, wf_mkF rfl]
  simp [startE, m_law_hours, er_ix0, er_ix1]
  omega
theorem plainL_ints (L : List Int) : D.plainL 39 (L.map D.int) = true := plainL_iff.mpr fun x hx => by
  obtain ⟨i, _, rfl⟩ := List.mem_map.mp hx
  rfl
theorem dNotIn_rng {i a b : Int} : dNotIn (.int i) (.lst (rng a b)) = .ok (!decide (a ≤ i ∧ i < b)) := by
  have h : ((rng a b).any fun y => y.eqv (.int i)) = decide (a ≤ i ∧ i < b) := by
    rw [rng_eq, Bool.eq_iff_iff, List.any_eq_true, decide_eq_true_eq]
    constructor
    · rintro ⟨x, hx, e⟩
      obtain ⟨j, hj, rfl⟩ := List.mem_map.mp hx
      have := mem_intsR.mp hj
      simp [D.eqv] at e
      omega
    · intro h
      exact ⟨.int i, List.mem_map.mpr ⟨i, mem_intsR.mpr h, rfl⟩, by simp [D.eqv]⟩
  have pl : D.plainL 39 (rng a b) = true := by rw [rng_eq]; exact plainL_ints _
  unfold dNotIn dIn
  simp [pl, h, D.plain]
theorem dEq_nilI {L : List Int} (h : L.length ≤ 1000) : dEq (.lst (L.map D.int)) (.lst []) = .ok L.isEmpty := by
  rw [dEq_nilL (n := 1) (by simp; omega) (by omega)]
  simp
theorem str_pair {s a b : Int} : f_is_stretch [.int s, .tup [.int a, .int b]] = .ok (.bl (decide (0 ≤ a ∧ a ≤ b ∧ b < s))) [] := by
  have nm : ∀ i : Int, f_is_number [.int i] = .ok (.bl true) [] := fun i => num_ok (n := 0) (by simp)
  have lc : ∀ x, c_is_stretch_1 [.val (.int s), .val (.tup [.int a, .int b]), x] = .ok (.lst [.bl true, .bl true]) [.val (.int s), .val (.tup [.int a, .int b]), x] ∨ isOwn x = true := by
    intro x
    cases hx : isOwn x with
    | true => exact .inr rfl
    | false =>
      refine .inl ?_
      unfold c_is_stretch_1
      have := lc_map (T := Int) (vs := [2]) (g := gN 2) (it := iSeq (eVar 1)) (a := eCall f_is_number [.e (eVar 2)]) (L := [a, b]) (enc := D.int) (e := [.val (.int s), .val (.tup [.int a, .int b]), x]) (fun _ => .bl true) (Wn.eq (by simp)) (by simp [hx]) (by simp) fun y _ => by simp [wipeE, nm]
      exact this
  have lc := (lc .no).resolve_right (by decide)
  refine WF.eq ?_
  rw [f_is_stretch, wf_mkF rfl]
  have al : dAll (.lst [.bl true, .bl true]) = .ok (.bl true) := rfl
  simp only [startE, m_is_stretch, wn_seq]
  simp [wn_eq lc, al]
  by_cases h1 : 0 ≤ a <;> by_cases h2 : a ≤ b <;> by_cases h3 : b < s <;> simp [h1, h2, h3]
theorem wn_ofs {n : Nat} {s : Int} {xs : List D} {a : DE} {e : Env} {Q : D → Env → Prop} {E : Str → List D → Env → Prop} (h1 : 1 ≤ s) (h2 : s ≤ 8) (ha : a (.bor xs :: e) = .ok (.int s) (.bor xs :: e)) (hb : Bx (n + 1) xs) (q : ∀ p ys, p ∈ spansL s → Bx n ys → Q (encR p) (.bor ys :: e)) : Wn (eCall f_law_of [.lend 0, .e (eCall f_law_spans [.e a])]) (.bor xs :: e) Q E := by
  refine wn_ofw (L := spansL s) ?_ hb (spansL_ne h1) (by have := spans8 (s := s) (by omega) h2; omega) q
  refine Wn.eq ?_
  simp [wn_eq ha, spans_ok (s := s) (by omega) (by omega)]
theorem due_ok10 {bx : List D} {x s : Int} {p q : Int × Int} (hp : p ∈ spansL s) (hq : q ∈ spansL s) (hs : s ≤ 8) : Wn (eB (c2 dEq c_law_right_1 (eLst aNil))) [.bor bx, .val (.int x), .val (.int s), .val (encR p), .val (encR q), .no, .no] (fun d e => d = .bl (decide (q.1 ≤ p.1) && decide (p.2 ≤ q.2)) ∧ e = [.bor bx, .val (.int x), .val (.int s), .val (encR p), .val (encR q), .no, .no]) NoE := by
  have h1 := mem_spansL.mp hp
  have h2 := mem_spansL.mp hq
  have o1 := hours_ok10 (p := p) h1.1 h1.2.1 (by omega)
  have o2 := hours_ok10 (p := q) h2.1 h2.2.1 (by omega)
  have lc : c_law_right_1 [.bor bx, .val (.int x), .val (.int s), .val (encR p), .val (encR q), .no, .no] = .ok (.lst (((intsR p.1 (p.2 + 1)).filter fun i => !decide (q.1 ≤ i ∧ i < q.2 + 1)).map D.int)) [.bor bx, .val (.int x), .val (.int s), .val (encR p), .val (encR q), .no, .no] := by
    unfold c_law_right_1
    refine lc_filter (T := Int) (L := intsR p.1 (p.2 + 1)) (enc := D.int) (fun i => !decide (q.1 ≤ i ∧ i < q.2 + 1)) D.int (Wn.eq ?_) rfl (by rw [intsR_len]; omega) fun i hi => ?_
    · simp [o1, rng_eq]
    · simp [wipeE, o2, dNotIn_rng]
  simp only [wn_eB, wn_c2, wn_eq lc, wn_eLst, wn_aNil]
  have hl : ((intsR p.1 (p.2 + 1)).filter fun i => !decide (q.1 ≤ i ∧ i < q.2 + 1)).length ≤ 1000 := by
    refine Nat.le_trans (List.length_filter_le _ _) ?_
    rw [intsR_len]
    omega
  obtain ⟨M, hM⟩ : ∃ M, (intsR p.1 (p.2 + 1)).filter (fun i => !decide (q.1 ≤ i ∧ i < q.2 + 1)) = M := ⟨_, rfl⟩
  rw [hM] at hl ⊢
  simp [dEq_nilI hl]
  rw [Bool.eq_iff_iff, List.isEmpty_iff, ← hM, List.filter_eq_nil_iff]
  simp only [Bool.and_eq_true, decide_eq_true_eq, mem_intsR]
  constructor
  · intro z
    have z1 := z p.1 (by omega)
    have z2 := z p.2 (by omega)
    simp at z1 z2
    omega
  · intro z i hi
    simp
    omega
theorem turn_ok10 {n : Nat} {bx : List D} {x : Int} (hb : Bx (n + 10) bx) :
    Wn b_law_right_1 [.bor bx, .val (.int x), .no, .no, .no, .no, .no] (fun o e => o = .nx ∧ ∃ by_, e = [.bor by_, .no, .no, .no, .no, .no, .no] ∧ Bx n by_) NoE := by
  unfold b_law_right_1
  rw [wn_sFg, wn_seq]
  simp only [wn_sAsgN, wn_e2, wn_c]
  refine wn_take (n := n + 9) (b := 8) rfl hb (by omega) (by omega) fun v b1 v0 v1 hb1 => ?_
  simp only [dAdd_int, wr_ok, x_slS, x_sl0, x_isFix1, true_and, x_putS, x_put0, wo_nx]
  obtain ⟨s, hs⟩ : ∃ s : Int, 1 + v = s := ⟨_, rfl⟩
  rw [hs]
  have s1 : 1 ≤ s := by omega
  have s8 : s ≤ 8 := by omega
  rw [wn_seq]
  simp only [wn_sAsg, wn_eTup, wn_aCons]
  refine wn_ofs (n := n + 8) s1 s8 (by simp) hb1 fun p b2 hp hb2 => ?_
  refine wn_ofs (n := n + 7) s1 s8 (by simp) hb2 fun q b3 hq hb3 => ?_
  simp
  rw [wn_seq, wn_sAsgN]
  refine (due_ok10 hp hq s8).imp fun d e hd => ?_
  obtain ⟨rfl, rfl⟩ := hd
  simp
  have wi := fun k => within_ok (k := k) (j := k) (a := p.1) (b := p.2) (c := q.1) (d := q.2)
  have w1 := wi true
  have w2 := wi false
  rw [sq_true, sq_true] at w1
  rw [sq_false, sq_false] at w2
  have rp : ∀ d : D, rep [d] 2 = [d, d] := fun _ => rfl
  obtain ⟨t, ht⟩ : ∃ t : Bool, (decide (q.1 ≤ p.1) && decide (p.2 ≤ q.2)) = t := ⟨_, rfl⟩
  rw [ht] at w1 w2 ⊢
  have sm := same_eq (n := 1) (x := .lst [.bl t, .bl t]) (y := .lst [.bl t, .bl t]) rfl (by simp)
  rw [wn_seq]
  simp [encR, w1, w2, dMul, rp, lenOk, sm]
  rw [wn_seq]
  simp only [wn_sAsgN, wn_eTup, wn_aCons, wn_e2]
  refine wn_take (n := n + 6) (b := s + 3) (Wn.eq (by simp)) hb3 (by omega) (by omega) fun a b4 a0 a1 hb4 => ?_
  simp
  refine wn_take (n := n + 5) (b := s + 3) (Wn.eq (by simp)) hb4 (by omega) (by omega) fun c b5 c0 c1 hb5 => ?_
  have sp := spans_ok (s := s) (by omega) (by omega)
  have sb : ∀ t : Bool, f_law_same 30 [.bl t, .bl t] = .ok (.bl true) [] := fun t => same_eq (n := 0) rfl (by simp)
  have eq : decide (0 ≤ a - 1 ∧ a - 1 ≤ c - 1 ∧ c - 1 < s) = decide ((a - 1, c - 1) ∈ spansL s) := by
    rw [decide_eq_decide, mem_spansL]
  have st := str_pair (s := s) (a := a - 1) (b := c - 1)
  rw [eq] at st
  simp [st, sp, dIn_win2, sb]
  exact hb5.le (by omega)
theorem right_ok10 : Right f_law_right := right_turns (n := 5) (c := 10) (m := 12) (by decide) (by decide) rfl fun k x bx _ _ hb => turn_ok10 hb
theorem by_hand10 : f_law_by_hand_right [] = .ok (.bl true) [] := by kernel_rfl
theorem law_true (ns : List Int) (hn : ns.length ≤ 63) : f_law [.lst (ns.map D.int)] = .ok (.bl true) [] :=
  law_end (K := 11930) (by decide) (by decide) (fh := f_law_by_hand_right) (fr := f_law_right) by_hand10 right_ok10 ns hn
end AH
namespace LW
open PySem PySem.Spec PyProof.Rows L2 AH
def d_law_cells : He.DefD := ⟨("_law_cells", none), "_law_cells", "_law_cells", defArgs s_law_cells, defBody s_law_cells, defScope s_law_cells, [], []⟩
def d_is_number : He.DefD := ⟨("is_number", none), "is_number", "is_number", defArgs s_is_number, defBody s_is_number, defScope s_is_number, [], []⟩
def d_is_stretch : He.DefD := ⟨("is_stretch", none), "is_stretch", "is_stretch", defArgs s_is_stretch, defBody s_is_stretch, defScope s_is_stretch, [], []⟩
def d_law_same : He.DefD := ⟨("_law_same", none), "_law_same", "_law_same", defArgs s_law_same, defBody s_law_same, defScope s_law_same, [], []⟩
def d_lies_within : He.DefD := ⟨("lies_within", none), "lies_within", "lies_within", defArgs s_lies_within, defBody s_lies_within, defScope s_lies_within, [], []⟩
def d_law_spans : He.DefD := ⟨("_law_spans", none), "_law_spans", "_law_spans", defArgs s_law_spans, defBody s_law_spans, defScope s_law_spans, [], []⟩
def d_all_stretches : He.DefD := ⟨("all_stretches", none), "all_stretches", "all_stretches", defArgs s_all_stretches, defBody s_all_stretches, defScope s_all_stretches, [], []⟩
def d_law_sizes_right : He.DefD := ⟨("_law_sizes_right", none), "_law_sizes_right", "_law_sizes_right", defArgs s_law_sizes_right, defBody s_law_sizes_right, defScope s_law_sizes_right, [], []⟩
def d_law_by_hand_right : He.DefD := ⟨("_law_by_hand_right", none), "_law_by_hand_right", "_law_by_hand_right", defArgs s_law_by_hand_right, defBody s_law_by_hand_right, defScope s_law_by_hand_right, [], []⟩
def d_law_take : He.DefD := ⟨("_law_take", none), "_law_take", "_law_take", defArgs s_law_take, defBody s_law_take, defScope s_law_take, [], []⟩
def d_law_of : He.DefD := ⟨("_law_of", none), "_law_of", "_law_of", defArgs s_law_of, defBody s_law_of, defScope s_law_of, [], []⟩
def d_law_hours : He.DefD := ⟨("_law_hours", none), "_law_hours", "_law_hours", defArgs s_law_hours, defBody s_law_hours, defScope s_law_hours, [], []⟩
def d_law_right : He.DefD := ⟨("_law_right", none), "_law_right", "_law_right", defArgs s_law_right, defBody s_law_right, defScope s_law_right, [], []⟩
def d_law_box : He.DefD := ⟨("_law_box", none), "_law_box", "_law_box", defArgs s_law_box, defBody s_law_box, defScope s_law_box, [], []⟩
def d_law : He.DefD := ⟨("law", none), "law", "law", defArgs s_law, defBody s_law, defScope s_law, [], []⟩
abbrev s_Ros : Stmt := clsAt (top 15) 1
def d_Ros : He.DefD := ⟨("Roster", some "__init__"), "__init__", "Roster.__init__", defArgs s_Ros, defBody s_Ros, defScope s_Ros, [], []⟩
def fx : List XiD := []
def fn : List He.DefD := [d_law_cells, d_is_number, d_is_stretch, d_law_same, d_lies_within, d_law_spans, d_all_stretches, d_law_sizes_right, d_law_by_hand_right, d_law_take, d_law_of, d_law_hours, d_law_right, d_law_box, d_law, d_Ros]
def fa : List He.Fa := [.glo "_law_cells", .glo "is_number", .glo "is_stretch", .glo "_law_same", .glo "lies_within", .glo "_law_spans", .glo "all_stretches", .glo "_law_sizes_right", .glo "_law_by_hand_right", .glo "_law_take", .glo "_law_of", .glo "_law_hours", .glo "_law_right", .glo "_law_box", .glo "law", .free "abs", .free "all", .free "bool", .free "enumerate", .free "int", .free "isinstance", .free "len", .free "list", .free "range", .free "str", .free "tuple", .free "zip", .int "PAIR" 2, .glo "Roster", .mkr "Roster"]
def xs : List Str := []
abbrev tkI (K : PySem.W.Frag) : TheK := ⟨K, xs⟩
def ck (K : PySem.W.Frag) : Bool := rosB K && (true)
abbrev lawR : PySem.W.OpenRow := PySem.W.OpenLaw.row PySem.Challenge.rw_anyhands_k10_stretches_of_hours
abbrev hk : PySem.W.Hook := hookY 4 ck fx fa fn
def ob (s : PySem.W.SharedT) : Bool × He.AlD × List XiV := obsY 4 ck fx fa fn (HandSHeadRun.getT s)
theorem ob_eq (s : PySem.W.SharedT) : ob s = hk.obs s.abs := obsY_eq (HandSHeadRun.getT_eq s)
def names0 : List PySem.Str := ["_wall", "NoStretch", "NothingDone", "is_number", "check_stretch", "made_lot", "PAIR", "is_stretch", "all_stretches", "lies_within", "Roster", "_law_box", "_law_take", "_law_cells", "_law_of", "_law_same", "_law_spans", "_law_hours", "_law_sizes_right", "_law_by_hand_right", "_law_right"]
def names : List PySem.Str := names0
theorem run (w : World) : HandSHeadRun.RunEq lawR (PySem.W.view lawR.prog [27]) hk ob 3000 names w := by
  intro os
  kernel_rfl
theorem facts {P : Program} {w : World} {K : PySem.W.Frag} {h : Heap} {mg : Str → Option Value} {f : Addr} (X : K.In h) (G : h.Ns mainGlobals mg) (hfa : mg ("law" : Str) = some (.ref f)) (c : He.SaysD fa fn K) (hck : ck K = true) (hfx : fx.map (xiW K) = fx.map XiD.val) (hT : (P.main.scope.names.lookup ("super" : Str)).isSome = false) (hFl : P.main.file = PySem.Challenge.pw_anyhands_k10_stretches_of_hours.main.file) :
    ∃ fd : FuncData, (∀ (s : Shared) (v : Value), BindsTo s fd ⟨[v], []⟩ [("_law_script", v)]) ∧ ∀ base : Heap, K.In base → base.Ns mainGlobals mg → FnOk P w K mg base (L2.CX P w) 34 f fd p_law (@spD (tkI K) .s K n_law [.ro] f_law) := by
  letI : TheK := tkI K
  have hK : K = TheK.K := rfl
  unfold ck at hck
  obtain ⟨ck0, hck⟩ := He.ba hck
  have F_law_cells : Fu K mg "_law_cells" s_law_cells := by
    obtain ⟨fd, F⟩ := c.def_ 0 (d := d_law_cells) rfl
    exact ⟨_, fd, F, He.glo_ok X G (c.fact 0 (f := .glo "_law_cells") rfl)⟩
  have F_is_number : Fu K mg "is_number" s_is_number := by
    obtain ⟨fd, F⟩ := c.def_ 1 (d := d_is_number) rfl
    exact ⟨_, fd, F, He.glo_ok X G (c.fact 1 (f := .glo "is_number") rfl)⟩
  have F_is_stretch : Fu K mg "is_stretch" s_is_stretch := by
    obtain ⟨fd, F⟩ := c.def_ 2 (d := d_is_stretch) rfl
    exact ⟨_, fd, F, He.glo_ok X G (c.fact 2 (f := .glo "is_stretch") rfl)⟩
  have F_law_same : Fu K mg "_law_same" s_law_same := by
    obtain ⟨fd, F⟩ := c.def_ 3 (d := d_law_same) rfl
    exact ⟨_, fd, F, He.glo_ok X G (c.fact 3 (f := .glo "_law_same") rfl)⟩
  have F_lies_within : Fu K mg "lies_within" s_lies_within := by
    obtain ⟨fd, F⟩ := c.def_ 4 (d := d_lies_within) rfl
    exact ⟨_, fd, F, He.glo_ok X G (c.fact 4 (f := .glo "lies_within") rfl)⟩
  have F_law_spans : Fu K mg "_law_spans" s_law_spans := by
    obtain ⟨fd, F⟩ := c.def_ 5 (d := d_law_spans) rfl
    exact ⟨_, fd, F, He.glo_ok X G (c.fact 5 (f := .glo "_law_spans") rfl)⟩
  have F_all_stretches : Fu K mg "all_stretches" s_all_stretches := by
    obtain ⟨fd, F⟩ := c.def_ 6 (d := d_all_stretches) rfl
    exact ⟨_, fd, F, He.glo_ok X G (c.fact 6 (f := .glo "all_stretches") rfl)⟩
  have F_law_sizes_right : Fu K mg "_law_sizes_right" s_law_sizes_right := by
    obtain ⟨fd, F⟩ := c.def_ 7 (d := d_law_sizes_right) rfl
    exact ⟨_, fd, F, He.glo_ok X G (c.fact 7 (f := .glo "_law_sizes_right") rfl)⟩
  have F_law_by_hand_right : Fu K mg "_law_by_hand_right" s_law_by_hand_right := by
    obtain ⟨fd, F⟩ := c.def_ 8 (d := d_law_by_hand_right) rfl
    exact ⟨_, fd, F, He.glo_ok X G (c.fact 8 (f := .glo "_law_by_hand_right") rfl)⟩
  have F_law_take : Fu K mg "_law_take" s_law_take := by
    obtain ⟨fd, F⟩ := c.def_ 9 (d := d_law_take) rfl
    exact ⟨_, fd, F, He.glo_ok X G (c.fact 9 (f := .glo "_law_take") rfl)⟩
  have F_law_of : Fu K mg "_law_of" s_law_of := by
    obtain ⟨fd, F⟩ := c.def_ 10 (d := d_law_of) rfl
    exact ⟨_, fd, F, He.glo_ok X G (c.fact 10 (f := .glo "_law_of") rfl)⟩
  have F_law_hours : Fu K mg "_law_hours" s_law_hours := by
    obtain ⟨fd, F⟩ := c.def_ 11 (d := d_law_hours) rfl
    exact ⟨_, fd, F, He.glo_ok X G (c.fact 11 (f := .glo "_law_hours") rfl)⟩
  have F_law_right : Fu K mg "_law_right" s_law_right := by
    obtain ⟨fd, F⟩ := c.def_ 12 (d := d_law_right) rfl
    exact ⟨_, fd, F, He.glo_ok X G (c.fact 12 (f := .glo "_law_right") rfl)⟩
  have F_law_box : Fu K mg "_law_box" s_law_box := by
    obtain ⟨fd, F⟩ := c.def_ 13 (d := d_law_box) rfl
    exact ⟨_, fd, F, He.glo_ok X G (c.fact 13 (f := .glo "_law_box") rfl)⟩
  have F_law : Fu K mg "law" s_law := by
    obtain ⟨fd, F⟩ := c.def_ 14 (d := d_law) rfl
    exact ⟨_, fd, F, He.glo_ok X G (c.fact 14 (f := .glo "law") rfl)⟩
  have B : Bf K mg := ⟨He.free_ok X G (c.fact 15 (f := .free "abs") rfl), He.free_ok X G (c.fact 16 (f := .free "all") rfl), He.free_ok X G (c.fact 17 (f := .free "bool") rfl), He.free_ok X G (c.fact 18 (f := .free "enumerate") rfl), He.free_ok X G (c.fact 19 (f := .free "int") rfl), He.free_ok X G (c.fact 20 (f := .free "isinstance") rfl), He.free_ok X G (c.fact 21 (f := .free "len") rfl), He.free_ok X G (c.fact 22 (f := .free "list") rfl), He.free_ok X G (c.fact 23 (f := .free "range") rfl), He.free_ok X G (c.fact 24 (f := .free "str") rfl), He.free_ok X G (c.fact 25 (f := .free "tuple") rfl), He.free_ok X G (c.fact 26 (f := .free "zip") rfl), He.int_ok X G (c.fact 27 (f := .int "PAIR" 2) rfl)⟩
  have RKo : ∀ base : Heap, RosK P w K mg base := fun base => by
    have RF := rosB_ok (K := K) ck0
    obtain ⟨fdR, FR⟩ := c.def_ 15 (d := d_Ros) rfl
    have FR : FunD K "__init__" "Roster.__init__" (defArgs s_Ros) (defBody s_Ros) (defScope s_Ros) [] [] (He.ma K (He.ga K "Roster") "__init__") fdR := FR
    refine ⟨⟨_, fdR, fn_init (d7 := ⟨0, 0, 0, 0⟩) FR ⟨rfl, rfl, rfl, by decide +kernel, rfl, by decide +kernel, by decide +kernel⟩ (.inl rfl) (.inl rfl) RF rfl, He.mkr_ok (c.fact 29 (f := .mkr "Roster") rfl), FR.bindsN (fun _ _ _ _ _ _ us hl => match us, hl with | [_, _], _ => rfl)⟩, He.glo_ok X G (c.fact 28 (f := .glo "Roster") rfl), RF.o⟩
  have all : ∀ base : Heap, Kn P w K mg base .s "law" s_law n_law p_law [.ro] f_law 34 := fun base => by
    have RK := RKo base
    have k_law_cells := ok_law_cells (P := P) (w := w) (base := base) hK B F_law_cells
    have k_is_number := ok_is_number (P := P) (w := w) (base := base) hK B F_is_number
    have k_is_stretch := ok_is_stretch (P := P) (w := w) (base := base) hK B F_is_stretch k_is_number
    have k_law_same := ok_law_same (P := P) (w := w) (base := base) hK B F_law_same 30
    have k_lies_within := ok_lies_within (P := P) (w := w) (base := base) hK B F_lies_within
    have k_law_spans := ok_law_spans (P := P) (w := w) (base := base) hK B F_law_spans
    have k_all_stretches := ok_all_stretches (P := P) (w := w) (base := base) hK B F_all_stretches
    have k_law_sizes_right := ok_law_sizes_right (P := P) (w := w) (base := base) hK B F_law_sizes_right k_law_spans k_law_same k_all_stretches k_is_stretch
    have k_law_by_hand_right := ok_law_by_hand_right (P := P) (w := w) (base := base) hK B RK F_law_by_hand_right k_is_stretch k_law_same k_lies_within k_law_sizes_right
    have k_law_take := ok_law_take (P := P) (w := w) (base := base) hK B F_law_take
    have k_law_of := ok_law_of (P := P) (w := w) (base := base) hK B F_law_of k_law_take
    have k_law_hours := ok_law_hours (P := P) (w := w) (base := base) hK B F_law_hours
    have k_law_right := ok_law_right (P := P) (w := w) (base := base) hK B F_law_right k_law_take k_law_of k_law_same k_law_spans k_is_stretch k_law_hours k_lies_within
    have k_law_box := ok_law_box (P := P) (w := w) (base := base) hK B F_law_box
    have k_law := ok_law (P := P) (w := w) (base := base) hK B F_law k_law_cells k_law_by_hand_right k_law_right k_law_box
    exact k_law
  obtain ⟨fd, FL⟩ := c.def_ 14 (d := d_law) rfl
  have e := hfa.symm.trans (He.glo_ok X G (c.fact 14 (f := .glo "law") rfl))
  cases e
  have b := FunD.bindsA (ps := p_law) FL b_law
  refine ⟨fd, fun s v => b s [v] rfl, fun base _ _ => ?_⟩
  obtain ⟨⟨f', fd', a1, a2, a3, a4⟩, _, _⟩ := all base
  cases hfa.symm.trans a2
  obtain rfl : fd = fd' := fund_eq FL a3
  exact a1
end LW
open PySem PySem.W PySem.Calls PyProof.Rows
theorem PySem.Challenge.cw_anyhands_k10_stretches_of_hours_holds : PySem.Challenge.rw_anyhands_k10_stretches_of_hours.Holds := by
  w_on; o_law
  refine HandSHeadRun.head_any (r := OpenLaw.row PySem.Challenge.rw_anyhands_k10_stretches_of_hours) (q := view (OpenLaw.row PySem.Challenge.rw_anyhands_k10_stretches_of_hours).prog [27]) (H := LW.hk) (ob := LW.ob) (M := 3000) (loose := LW.names) (d := HandSHeadRun.topDef (OpenLaw.row PySem.Challenge.rw_anyhands_k10_stretches_of_hours).prog 27) (kwd := []) LW.ob_eq
    (by kernel_rfl) (fun s => by kernel_rfl) LW.run (by kernel_rfl) (by kernel_rfl) (by kernel_rfl) (by rfl) (by first | assumption | decide +kernel) (by decide +kernel) ⟨rfl, rfl, rfl, rfl, rfl, by decide +kernel⟩ ?hw ?hc
  case hw => w_witness2
  case hc =>
    refine @AH.walk_ofW ⟨[], []⟩ PySem.Challenge.rw_anyhands_k10_stretches_of_hours 63 34 _ _ _ _ _ "_law_script" rfl (by decide) (by kernel_rfl) ⟨rfl, by decide, by decide⟩ ?F
    intro w mg fa h Y G hmg0
    obtain ⟨K, KX, c, hck, hfx⟩ := Y
    have hmg : mg ("law" : PySem.Str) = some (.ref fa) := by
      have e : (HandSHeadRun.topDef (OpenLaw.row PySem.Challenge.rw_anyhands_k10_stretches_of_hours).prog 27).name = ("law" : PySem.Str) := by kernel_rfl
      rw [← e]
      exact hmg0
    obtain ⟨fd, hb, hF⟩ := LW.facts (P := (PySem.Challenge.rw_anyhands_k10_stretches_of_hours).prog) (w := w) KX G hmg c hck hfx (by kernel_rfl) rfl
    exact ⟨K, fd, @AH.spD (LW.tkI K) .s K LW.n_law [.ro] LW.f_law, KX, hb, fun H a ns hl _ hS => @AH.law_sp (LW.tkI K) _ _ _ _ _ _ hS (by decide) (@AH.law_true (LW.tkI K) ns hl), hF⟩
