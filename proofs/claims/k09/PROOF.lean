import PyProof.Rows.All
import Wide.All
import OpenK.AllK
import Wide.FinOn
import HandS.ForMost
import HandS.TupLe
import HandS.HeadHook1
import HandS.Exc
import HandS.Wide
import HandS.TupAny
import HandS.TupMul
import HandS.Deep
import HandS.Flow
import HandS.Style
import HandS.Conv
import HandS.IsInst
import HandS.NoneIn
import HandS.Zip
import HandS.Walk
import HandS.ExcOwn
import HandS.Defaults
import KE.KRevSl
import HandS.More
import HandS.Words
import HandS.HeadEnd
import KE.KStateDown
import HandS.Head0
import HandS.Head1
import HandS.Head2
import HandS.HeadHook2
import HandS.WordsExc
import PySem.Challenge.RW_anyhands_k09_lots_or_not
set_option Elab.async false
set_option linter.all false
set_option maxRecDepth 100000
set_option maxHeartbeats 0
/-! A layer of data over the hand layer: values as trees, a small semantics of defs in plain Lean. -/
namespace AH
open PySem L2
/-- data -/
inductive D where
  | non | bl (b : Bool) | int (i : Int) | str (s : Str) | tup (xs : List D) | lst (xs : List D)
  | dic (kvs : List (List Key × D)) | exc (c : Str) (ns : List Str) (fs : List D) | obj (c : Str)
mutual
def D.beq : D → D → Bool
  | .non, .non => true
  | .bl a, .bl b => a == b
  | .int a, .int b => a == b
  | .str a, .str b => a == b
  | .tup a, .tup b => D.beqL a b
  | .lst a, .lst b => D.beqL a b
  | _, _ => false
def D.beqL : List D → List D → Bool
  | [], [] => true
  | a :: as, b :: bs => D.beq a b && D.beqL as bs
  | _, _ => false
end
/-! Python, == of plain data -/
mutual
def D.eqv : D → D → Bool
  | .non, .non => true
  | .bl a, .bl b => a == b
  | .bl a, .int b => (if a then 1 else 0) == b
  | .int a, .bl b => a == (if b then 1 else 0)
  | .int a, .int b => a == b
  | .str a, .str b => a == b
  | .tup a, .tup b => D.eqvL a b
  | .lst a, .lst b => D.eqvL a b
  | _, _ => false
def D.eqvL : List D → List D → Bool
  | [], [] => true
  | a :: as, b :: bs => D.eqv a b && D.eqvL as bs
  | _, _ => false
end
/-! plain data of at most so many levels: none, bools, ints, texts, lists, tuples -/
mutual
def D.plain : Nat → D → Bool
  | _, .non => true
  | _, .bl _ => true
  | _, .int _ => true
  | _, .str s => PySem.PyData.strOk s
  | n + 1, .tup xs => D.plainL n xs
  | n + 1, .lst xs => D.plainL n xs
  | _, _ => false
def D.plainL : Nat → List D → Bool
  | _, [] => true
  | n, x :: xs => D.plain n x && D.plainL n xs
end
/-- a slot of a def's frame -/
inductive Sl where
  | no | val (d : D) | ro (d : D) | own (xs : List D) | bor (xs : List D) | odc (kvs : List (List Key × D)) | ldc (kvs : List (List Key × D))
abbrev Env := List Sl
def sl : Env → Nat → Sl
  | [], _ => .no
  | x :: _, 0 => x
  | _ :: r, n + 1 => sl r n
def put : Env → Nat → Sl → Env
  | [], _, _ => []
  | _ :: r, 0, y => y :: r
  | x :: r, n + 1, y => x :: put r n y
/-- what comes of running: a value and the frame; an exception of a class with its fields; nothing known -/
inductive R (α : Type) where
  | ok (a : α) (e : Env) | ex (c : Str) (fs : List D) (e : Env) | bad
abbrev M (α : Type) := Env → R α
def M.bind {α β : Type} (m : M α) (f : α → M β) : M β := fun e => match m e with
  | .ok a e1 => f a e1
  | .ex c fs e1 => .ex c fs e1
  | .bad => .bad
def M.pure {α : Type} (a : α) : M α := fun e => .ok a e
/-- a plain outcome -/
inductive Rv (α : Type) where
  | ok (a : α) | bad
def M.of {α : Type} : Rv α → M α
  | .ok a => M.pure a
  | .bad => fun _ => .bad
abbrev DE := M D
abbrev DT := M Bool
abbrev DL := M (List D)
/-- what a statement comes to -/
inductive Out where
  | nx | rt (d : D) | bk | ct
abbrev DS := M Out
/-! ### names, constants -/
def eVar (i : Nat) : DE := fun e => match sl e i with
  | .val d => .ok d e
  | _ => .bad
/-- a name whose object may be the frame's own, just looked at -/
def eTmp (i : Nat) : DE := fun e => match sl e i with
  | .val d => .ok d e
  | .ro d => .ok d e
  | .own xs => .ok (.lst xs) e
  | .bor xs => .ok (.lst xs) e
  | .odc kvs => .ok (.dic kvs) e
  | .ldc kvs => .ok (.dic kvs) e
  | .no => .bad
def eC (d : D) : DE := M.pure d
/-! ### operators -/
def e2 (f : D → D → Rv D) (a b : DE) : DE := a.bind fun x => b.bind fun y => M.of (f x y)
def e1 (f : D → Rv D) (a : DE) : DE := a.bind fun x => M.of (f x)
def mulOk (i j : Int) : Bool := decide (i.natAbs.log2 + j.natAbs.log2 < 1000000) || (decide (i.natAbs < 2 ^ 64) || decide (j.natAbs < 2 ^ 64))
def divOk (j : Int) : Bool := decide (0 < j) && decide (j.natAbs.log2 < 9000)
def powOk (i j : Int) : Bool := decide (0 ≤ j) && decide (j ≤ 1000000) && decide (i.natAbs < 2 ^ 64)
def lenOk (n : Nat) : Bool := decide (n ≤ 100000)
def dAdd : D → D → Rv D
  | .int i, .int j => .ok (.int (i + j))
  | .lst a, .lst b => if lenOk (a.length + b.length) then .ok (.lst (a ++ b)) else .bad
  | .tup a, .tup b => if lenOk (a.length + b.length) then .ok (.tup (a ++ b)) else .bad
  | .str a, .str b => if lenOk (a.length + b.length) then .ok (.str (a ++ b)) else .bad
  | _, _ => .bad
def dSub : D → D → Rv D
  | .int i, .int j => .ok (.int (i - j))
  | _, _ => .bad
def rep {α : Type} (xs : List α) (k : Int) : List α := (List.replicate k.toNat xs).flatten
def dMul : D → D → Rv D
  | .int i, .int j => if mulOk i j then .ok (.int (i * j)) else .bad
  | .lst a, .int k => if lenOk k.natAbs && lenOk (a.length * k.toNat) then .ok (.lst (rep a k)) else .bad
  | .tup a, .int k => if (decide (1 ≤ k) && decide (k ≤ 1000)) && (decide (0 < a.length) && decide (a.length ≤ 1000)) then .ok (.tup (rep a k)) else .bad
  | _, _ => .bad
def dDiv : D → D → Rv D
  | .int i, .int j => if divOk j then .ok (.int (i / j)) else .bad
  | _, _ => .bad
def dMod : D → D → Rv D
  | .int i, .int j => if decide (0 < j) then .ok (.int (i % j)) else .bad
  | _, _ => .bad
def dPow : D → D → Rv D
  | .int i, .int j => if powOk i j then .ok (.int (i ^ j.toNat)) else .bad
  | _, _ => .bad
def dNeg : D → Rv D
  | .int i => .ok (.int (-i))
  | _ => .bad
/-! ### comparisons -/
def dEq (x y : D) : Rv Bool := if x.plain 40 && y.plain 40 then .ok (x.eqv y) else .bad
def dNe (x y : D) : Rv Bool := if x.plain 40 && y.plain 40 then .ok (!x.eqv y) else .bad
/-- tuples of ints -/
def intsL : List D → Option (List Int)
  | [] => some []
  | .int i :: r => (intsL r).map (i :: ·)
  | _ :: _ => none
def dLt : D → D → Rv Bool
  | .int i, .int j => .ok (decide (i < j))
  | .tup a, .tup b => (match intsL a, intsL b with
    | some ns, some ms => .ok (HT.lexLt ns ms)
    | _, _ => .bad)
  | _, _ => .bad
def dLe : D → D → Rv Bool
  | .int i, .int j => .ok (decide (i ≤ j))
  | .tup a, .tup b => (match intsL a, intsL b with
    | some ns, some ms => .ok (L2.lexLeI ns ms)
    | _, _ => .bad)
  | _, _ => .bad
def dGt : D → D → Rv Bool
  | .int i, .int j => .ok (decide (j < i))
  | _, _ => .bad
def dGe : D → D → Rv Bool
  | .int i, .int j => .ok (decide (j ≤ i))
  | _, _ => .bad
def dIsN (x : D) : Bool := match x with
  | .non => true
  | _ => false
def keyI : D → Option Key
  | .int i => some (.inl i)
  | .str s => some (.inr s)
  | _ => none
def keysL : List D → Option (List Key)
  | [] => some []
  | x :: r => (match keyI x, keysL r with
    | some k, some ks => some (k :: ks)
    | _, _ => none)
def keyD : D → Option (List Key)
  | .tup xs => keysL xs
  | _ => none
def dget (kvs : List (List Key × D)) (k : List Key) : Option D := (kvs.find? fun p => decide (p.1 = k)).map (·.2)
def dput (kvs : List (List Key × D)) (k : List Key) (v : D) : List (List Key × D) :=
  if (kvs.any fun p => decide (p.1 = k)) then kvs.map fun p => if p.1 = k then (p.1, v) else p else kvs ++ [(k, v)]
def dIn (x : D) : D → Rv Bool
  | .lst ys => if x.plain 40 && D.plainL 39 ys then .ok (ys.any fun y => y.eqv x) else .bad
  | .tup ys => if x.plain 40 && D.plainL 39 ys then .ok (ys.any fun y => y.eqv x) else .bad
  | .dic kvs => (match keyD x with
    | some k => .ok (dget kvs k).isSome
    | none => .bad)
  | _ => .bad
def c2 (f : D → D → Rv Bool) (a b : DE) : DT := a.bind fun x => b.bind fun y => M.of (f x y)
def eB (t : DT) : DE := t.bind fun b => M.pure (.bl b)
/-- a value that is a bool, as a test -/
def tV (a : DE) : DT := a.bind fun x => match x with
  | .bl b => M.pure b
  | _ => fun _ => .bad
def tNot (a : DT) : DT := a.bind fun b => M.pure (!b)
def tAnd (a b : DT) : DT := a.bind fun x => if x then b else M.pure false
def tOr (a b : DT) : DT := a.bind fun x => if x then M.pure true else b
def tIsN (a : DE) : DT := a.bind fun x => M.pure (dIsN x)
def tNotN (a : DE) : DT := a.bind fun x => M.pure (!dIsN x)
/-- a < b < c: the middle once -/
def c3 (f g : D → D → Rv Bool) (a b c : DE) : DT := a.bind fun x => b.bind fun y => (M.of (f x y)).bind fun k => if k then c.bind fun z => M.of (g y z) else M.pure false
def c4 (f g h : D → D → Rv Bool) (a b c d : DE) : DT := a.bind fun x => b.bind fun y => (M.of (f x y)).bind fun k => if k then c.bind fun z => (M.of (g y z)).bind fun l => if l then d.bind fun u => M.of (h z u) else M.pure false else M.pure false
def eIf (t : DT) (a b : DE) : DE := t.bind fun k => if k then a else b
/-- and, or of bools as values -/
def eAnd (a b : DE) : DE := (tV a).bind fun k => if k then b else M.pure (.bl false)
def eOr (a b : DE) : DE := (tV a).bind fun k => if k then M.pure (.bl true) else b
def eNot (a : DE) : DE := (tV a).bind fun k => M.pure (.bl (!k))
def truth : D → Rv Bool
  | .bl b => .ok b
  | .non => .ok false
  | .int i => .ok (i != 0)
  | .lst xs => .ok (!xs.isEmpty)
  | .tup xs => .ok (!xs.isEmpty)
  | _ => .bad
/-- x or y by truth -/
def eOrT (a b : DE) : DE := a.bind fun x => (M.of (truth x)).bind fun k => if k then M.pure x else b
/-- the left one a name whose object is looked at behind the right one -/
def e2L (f : D → D → Rv D) (i : Nat) (b : DE) : DE := (eTmp i).bind fun _ => b.bind fun y => (eTmp i).bind fun x => M.of (f x y)
def c2L (f : D → D → Rv Bool) (i : Nat) (b : DE) : DT := (eTmp i).bind fun _ => b.bind fun y => (eTmp i).bind fun x => M.of (f x y)
/-! ### displays, items, slices -/
def aNil : DL := M.pure []
def aCons (a : DE) (r : DL) : DL := a.bind fun x => r.bind fun xs => M.pure (x :: xs)
def eTup (a : DL) : DE := a.bind fun xs => if lenOk xs.length then M.pure (.tup xs) else fun _ => .bad
def eLst (a : DL) : DE := a.bind fun xs => if lenOk xs.length then M.pure (.lst xs) else fun _ => .bad
def dIx : D → D → Rv D
  | .lst xs, .int i => (match atI xs i with
    | some v => .ok v
    | none => .bad)
  | .tup xs, .int i => (match atI xs i with
    | some v => .ok v
    | none => .bad)
  | .dic kvs, k => (match keyD k with
    | some k => (match dget kvs k with
      | some v => .ok v
      | none => .bad)
    | none => .bad)
  | _, _ => .bad
def cut {α : Type} (xs : List α) (lo hi : Option Int) : List α := (xs.drop (HT.sIx xs.length 0 lo)).take (HT.sIx xs.length xs.length hi - HT.sIx xs.length 0 lo)
def dSl (x : D) (lo hi : Option Int) : Rv D := match x with
  | .lst xs => .ok (.lst (cut xs lo hi))
  | .tup xs => .ok (.tup (cut xs lo hi))
  | _ => .bad
abbrev DO := M (Option Int)
def oNone : DO := M.pure none
def oSome (a : DE) : DO := a.bind fun x => match x with
  | .int i => M.pure (some i)
  | _ => fun _ => .bad
def eSl (a : DE) (lo hi : DO) : DE := a.bind fun x => lo.bind fun l => hi.bind fun h => M.of (dSl x l h)
def eSlL (i : Nat) (lo hi : DO) : DE := (eTmp i).bind fun _ => lo.bind fun l => hi.bind fun h => (eTmp i).bind fun x => M.of (dSl x l h)
/-! ### built-in functions of one value, of two -/
def dLen : D → Rv D
  | .lst xs => .ok (.int xs.length)
  | .tup xs => .ok (.int xs.length)
  | _ => .bad
def dAbs : D → Rv D
  | .int i => .ok (.int (if i < 0 then -i else i))
  | _ => .bad
def dInt : D → Rv D
  | .int i => .ok (.int i)
  | .bl b => .ok (.int (if b then 1 else 0))
  | _ => .bad
def dMax2 : D → D → Rv D
  | .int i, .int j => .ok (.int (if j > i then j else i))
  | _, _ => .bad
def dMin2 : D → D → Rv D
  | .int i, .int j => .ok (.int (if j < i then j else i))
  | _, _ => .bad
def dSum : D → Rv D
  | .lst xs => (match intsL xs with
    | some ns => .ok (.int ns.sum)
    | none => .bad)
  | _ => .bad
def bools : List D → Option (List Bool)
  | [] => some []
  | .bl i :: r => (bools r).map (i :: ·)
  | _ :: _ => none
def dAll : D → Rv D
  | .lst xs => (match bools xs with
    | some bs => .ok (.bl (bs.all id))
    | none => .bad)
  | _ => .bad
def dAny : D → Rv D
  | .lst xs => (match bools xs with
    | some bs => .ok (.bl (bs.any id))
    | none => .bad)
  | _ => .bad
def leastOf : List Int → Int
  | [] => 0
  | [x] => x
  | x :: y :: r => if leastOf (y :: r) < x then leastOf (y :: r) else x
def greatestOf : List Int → Int
  | [] => 0
  | [x] => x
  | x :: y :: r => if greatestOf (y :: r) > x then greatestOf (y :: r) else x
def dMinL : D → Rv D
  | .lst xs => (match intsL xs with
    | some (n :: ns) => .ok (.int (leastOf (n :: ns)))
    | _ => .bad)
  | _ => .bad
def dMaxL : D → Rv D
  | .lst xs => (match intsL xs with
    | some (n :: ns) => .ok (.int (greatestOf (n :: ns)))
    | _ => .bad)
  | _ => .bad
def dTuple : D → Rv D
  | .lst xs => .ok (.tup xs)
  | .tup xs => .ok (.tup xs)
  | _ => .bad
def dList : D → Rv D
  | .lst xs => .ok (.lst xs)
  | .tup xs => .ok (.lst xs)
  | _ => .bad
/-! ### what is walked -/
abbrev DI := M (List D)
def rng (a b : Int) : List D := (List.range (b - a).toNat).map fun i => D.int (a + (i : Nat))
def rngOk (a b : Int) : Bool := decide (-(2 ^ 62) ≤ a) && decide (a < 2 ^ 62) && decide (-(2 ^ 62) ≤ b) && decide (b < 2 ^ 62)
def iSeq (a : DE) : DI := a.bind fun x => match x with
  | .lst xs => M.pure xs
  | .tup xs => M.pure xs
  | _ => fun _ => .bad
def iRng1 (a : DE) : DI := a.bind fun x => match x with
  | .int j => if rngOk 0 j then M.pure (rng 0 j) else fun _ => .bad
  | _ => fun _ => .bad
def iRng2 (a b : DE) : DI := a.bind fun x => b.bind fun y => match x, y with
  | .int i, .int j => if rngOk i j then M.pure (rng i j) else fun _ => .bad
  | _, _ => fun _ => .bad
def iEnum (a : DE) : DI := a.bind fun x => match x with
  | .lst xs => M.pure (xs.zipIdx.map fun p => .tup [.int (p.2 : Int), p.1])
  | .tup xs => M.pure (xs.zipIdx.map fun p => .tup [.int (p.2 : Int), p.1])
  | _ => fun _ => .bad
def pairs (xs ys : List D) : List D := (xs.zip ys).map fun p => .tup [p.1, p.2]
def iZip (a b : DE) : DI := a.bind fun x => b.bind fun y => match x, y with
  | .lst xs, .lst ys => M.pure (pairs xs ys)
  | .tup xs, .tup ys => M.pure (pairs xs ys)
  | _, _ => fun _ => .bad
/-! ### targets -/
abbrev DG := D → M Unit
def isOwn : Sl → Bool
  | .own _ => true
  | .bor _ => true
  | .odc _ => true
  | .ldc _ => true
  | _ => false
def gN (i : Nat) : DG := fun d e => if isOwn (sl e i) then .bad else .ok () (put e i (.val d))
abbrev DGs := List D → M Unit
def gsNil : DGs := fun xs => match xs with
  | [] => M.pure ()
  | _ => fun _ => .bad
def gsCons (g : DG) (r : DGs) : DGs := fun xs => match xs with
  | x :: xs => (g x).bind fun _ => r xs
  | [] => fun _ => .bad
def gT (r : DGs) : DG := fun d => match d with
  | .tup xs => r xs
  | .lst xs => r xs
  | _ => fun _ => .bad
/-! ### statements -/
def sNil : DS := M.pure .nx
def sSeq (a b : DS) : DS := a.bind fun o => match o with
  | .nx => b
  | o => M.pure o
def sAsg (a : DE) (g : DG) : DS := a.bind fun x => (g x).bind fun _ => M.pure .nx
def isFix : Sl → Bool
  | .bor _ => true
  | .ldc _ => true
  | _ => false
/-- a new list kept as the frame's own -/
def sOwn (i : Nat) (a : DE) : DS := a.bind fun x => match x with
  | .lst xs => fun e => if isFix (sl e i) || !decide (i < e.length) then .bad else .ok .nx (put e i (.own xs))
  | _ => fun _ => .bad
def sOwnD (i : Nat) (a : DE) : DS := a.bind fun x => match x with
  | .dic kvs => fun e => if isFix (sl e i) || !decide (i < e.length) then .bad else .ok .nx (put e i (.odc kvs))
  | _ => fun _ => .bad
/-- the frame's own list is let go: a value from now on -/
def sRelL (i : Nat) : DS := fun e => match sl e i with
  | .own xs => .ok .nx (put e i (.val (.lst xs)))
  | _ => .bad
def sRelD (i : Nat) : DS := fun e => match sl e i with
  | .odc kvs => .ok .nx (put e i (.val (.dic kvs)))
  | _ => .bad
def sIf (t : DT) (a b : DS) : DS := t.bind fun k => if k then a else b
def sRet (a : DE) : DS := a.bind fun x => M.pure (.rt x)
def sRetN : DS := M.pure (.rt .non)
def sExpr (a : DE) : DS := a.bind fun _ => M.pure .nx
def sBad : DS := fun _ => .bad
/-- the slot holds a list of the frame's own (lent or not), its items -/
def ownL (i : Nat) : M (List D) := fun e => match sl e i with
  | .own xs => .ok xs e
  | .bor xs => .ok xs e
  | _ => .bad
def putL (e : Env) (i : Nat) (ys : List D) : Env := put e i (match sl e i with
  | .own _ => .own ys
  | .bor _ => .bor ys
  | s => s)
def sApp (i : Nat) (a : DE) : DS := (ownL i).bind fun _ => a.bind fun x => (ownL i).bind fun xs => fun e =>
  if lenOk (xs.length + 1) then .ok .nx (putL e i (xs ++ [x])) else .bad
def sExt (i : Nat) (a : DE) : DS := (ownL i).bind fun _ => a.bind fun x => (ownL i).bind fun xs => match x with
  | .lst ys => fun e => if lenOk (xs.length + ys.length) then .ok .nx (putL e i (xs ++ ys)) else .bad
  | _ => fun _ => .bad
/-- xs[j] = v: the value first -/
def sSetL (i : Nat) (j : DE) (a : DE) : DS := a.bind fun x => (ownL i).bind fun _ => j.bind fun k => (ownL i).bind fun xs => match k with
  | .int k => (match ixN xs.length k with
    | some n => fun e => .ok .nx (putL e i (xs.set n x))
    | none => fun _ => .bad)
  | _ => fun _ => .bad
def ownD (i : Nat) : M (List (List Key × D)) := fun e => match sl e i with
  | .odc kvs => .ok kvs e
  | _ => .bad
def sSetD (i : Nat) (j : DE) (a : DE) : DS := a.bind fun x => (ownD i).bind fun _ => j.bind fun k => (ownD i).bind fun kvs => match keyD k with
  | some k => fun e => if lenOk (kvs.length + 1) then .ok .nx (put e i (.odc (dput kvs k x))) else .bad
  | none => fun _ => .bad
/-- x op= e -/
def sAug (f : D → D → Rv D) (i : Nat) (a : DE) : DS := (eVar i).bind fun x => a.bind fun y => (M.of (f x y)).bind fun z => fun e => if isFix (sl e i) then .bad else .ok .nx (put e i (.val z))
/-- xs[j] op= e -/
def sAugL (f : D → D → Rv D) (i : Nat) (j a : DE) : DS := (ownL i).bind fun _ => j.bind fun k => (ownL i).bind fun xs => (M.of (dIx (.lst xs) k)).bind fun x => a.bind fun y => (M.of (f x y)).bind fun z => (ownL i).bind fun xs => match k with
  | .int k => (match ixN xs.length k with
    | some n => fun e => .ok .nx (putL e i (xs.set n z))
    | none => fun _ => .bad)
  | _ => fun _ => .bad
/-- a loop's turns -/
def loop (g : DG) (b : DS) : List D → DS
  | [] => M.pure .nx
  | x :: xs => (g x).bind fun _ => b.bind fun o => match o with
    | .nx => loop g b xs
    | .ct => loop g b xs
    | .bk => M.pure .nx
    | .rt d => M.pure (.rt d)
def sFor (it : DI) (g : DG) (b : DS) : DS := it.bind fun xs => loop g b xs
def sBrk : DS := M.pure .bk
def sCnt : DS := M.pure .ct
/-! ### comprehensions -/
def wipeE (e : Env) : List Nat → Env
  | [] => e
  | v :: vs => put (wipeE e vs) v .no
/-- the slots vs as they were -/
def back (e0 e : Env) : List Nat → Env
  | [] => e
  | v :: vs => put (back e0 e vs) v (sl e0 v)
def noX {α : Type} (m : M α) : M α := fun e => match m e with
  | .ex _ _ _ => .bad
  | r => r
def compL (vs : List Nat) (e0 : Env) (g : DG) (t : DT) (a : DE) : List D → M (List D)
  | [] => M.pure []
  | x :: xs => fun e => ((g x).bind fun _ => t.bind fun k =>
      (if k then a.bind fun y => M.pure [y] else M.pure []).bind fun ys =>
      fun e1 => ((compL vs e0 g t a xs).bind fun zs => M.pure (ys ++ zs)) (wipeE e1 vs)) e
def eLc (vs : List Nat) (it : DI) (g : DG) (t : DT) (a : DE) : DE := it.bind fun xs => fun e =>
  if (vs.any fun v => isOwn (sl e v)) || !lenOk xs.length then .bad else
  match noX (compL vs e g t a xs) (wipeE e vs) with
  | .ok ys e1 => .ok (.lst ys) (back e e1 vs)
  | _ => .bad
def tYes : DT := M.pure true
/-! ### defs -/
inductive Md where
  | val | ro | bor
  deriving DecidableEq
/-- an argument: an expression; a name's own object that is lent (to be changed); .. that is looked at -/
inductive Arg where
  | e (a : DE) | lend (i : Nat) | look (i : Nat) | new (a : DE)
/-- a def: from the arguments' data to its answer and the lent lists' new items -/
inductive Rf where
  | ok (d : D) (bs : List (List D)) | ex (c : Str) (fs : List D) (bs : List (List D)) | bad
abbrev DF := List D → Rf
def startE : List Md → List D → Env
  | .val :: ms, d :: ds => .val d :: startE ms ds
  | .ro :: ms, d :: ds => .ro d :: startE ms ds
  | .bor :: ms, .lst xs :: ds => .bor xs :: startE ms ds
  | _, _ => []
def lentOf : List Md → Env → Option (List (List D))
  | .bor :: ms, .bor xs :: e => (lentOf ms e).map (xs :: ·)
  | .bor :: _, _ => none
  | _ :: ms, _ :: e => lentOf ms e
  | _ :: _, [] => none
  | [], _ => some []
def lstsOk : List Md → List D → Bool
  | .bor :: ms, .lst _ :: ds => lstsOk ms ds
  | .bor :: _, _ => false
  | _ :: ms, _ :: ds => lstsOk ms ds
  | [], [] => true
  | _, _ => false
/-- a def of n slots, its parameters' ways, its body -/
def mkF (n : Nat) (ms : List Md) (b : DS) : DF := fun ds =>
  if !lstsOk ms ds then .bad else
  match b (startE ms ds ++ List.replicate (n - ms.length) .no) with
  | .ok (.rt d) e => (match lentOf ms e with
    | some bs => .ok d bs
    | none => .bad)
  | .ok .nx e => (match lentOf ms e with
    | some bs => .ok .non bs
    | none => .bad)
  | .ok _ _ => .bad
  | .ex c fs e => (match lentOf ms e with
    | some bs => .ex c fs bs
    | none => .bad)
  | .bad => .bad
/-- the arguments from the left; a lent name is read behind all of them -/
def argsV : List Arg → M (List (D ⊕ Nat))
  | [] => M.pure []
  | .e a :: r => a.bind fun x => (argsV r).bind fun xs => M.pure (.inl x :: xs)
  | .lend i :: r => (eTmp i).bind fun _ => (argsV r).bind fun xs => M.pure (.inr i :: xs)
  | .look i :: r => (eTmp i).bind fun _ => (argsV r).bind fun xs => M.pure (.inr i :: xs)
  | .new a :: r => a.bind fun x => (argsV r).bind fun xs => M.pure (.inl x :: xs)
def slD : Sl → Option D
  | .own xs => some (.lst xs)
  | .bor xs => some (.lst xs)
  | .odc kvs => some (.dic kvs)
  | .ldc kvs => some (.dic kvs)
  | .ro d => some d
  | .val d => some d
  | .no => none
def argD (e : Env) : D ⊕ Nat → Option D
  | .inl d => some d
  | .inr i => slD (sl e i)
def argsD (e : Env) : List (D ⊕ Nat) → Option (List D)
  | [] => some []
  | x :: r => (match argD e x, argsD e r with
    | some d, some ds => some (d :: ds)
    | _, _ => none)
def lends : List Arg → List Nat
  | [] => []
  | .lend i :: r => i :: lends r
  | _ :: r => lends r
def looks : List Arg → List Nat
  | [] => []
  | .look i :: r => i :: looks r
  | _ :: r => looks r
/-- no object twice -/
def argsOk (as : List Arg) : Bool := decide (lends as).Nodup && (looks as).all fun i => !(lends as).contains i
def isL : Sl → Bool
  | .own _ => true
  | .bor _ => true
  | _ => false
def giveBack : List Arg → List (List D) → Env → Option Env
  | .lend i :: r, xs :: bs, e => giveBack r bs (putL e i xs)
  | .lend _ :: _, [], _ => none
  | .new _ :: r, _ :: bs, e => giveBack r bs e
  | .new _ :: _, [], _ => none
  | _ :: r, bs, e => giveBack r bs e
  | [], [], e => some e
  | [], _ :: _, _ => none
def eCall (f : DF) (as : List Arg) : DE := fun e => match argsV as e with
  | .ok vs e1 => if !(lends as).all (fun i => isL (sl e1 i)) then .bad else (match argsD e1 vs with
    | some ds => (match f ds with
      | .ok d bs => (match giveBack as bs e1 with
        | some e2 => .ok d e2
        | none => .bad)
      | .ex c fs bs => (match giveBack as bs e1 with
        | some e2 => .ex c fs e2
        | none => .bad)
      | .bad => .bad)
    | none => .bad)
  | .ex c fs e1 => .ex c fs e1
  | .bad => .bad
end AH
namespace AH
open PySem PySem.Spec PyProof.Rows L2
abbrev Pr := Addr → Prop
/-! ### data in the heap -/
mutual
inductive Rep (O : Pr) (H : Hp) : V → D → Prop
  | non : Rep O H .non .non
  | bl (b : Bool) : Rep O H (.bl b) (.bl b)
  | int (i : Int) : Rep O H (.int i) (.int i)
  | str (s : Str) : Rep O H (.str s) (.str s)
  | tup {a : Addr} {vs : List V} {xs : List D} : ¬ O a → H a = some (.tup vs) → RepL O H vs xs → Rep O H (.ref a) (.tup xs)
  | lst {a : Addr} {vs : List V} {xs : List D} : ¬ O a → H a = some (.lst vs) → RepL O H vs xs → Rep O H (.ref a) (.lst xs)
  | dic {a : Addr} {ks : List (List Key × V)} {kvs : List (List Key × D)} : ¬ O a → H a = some (.dT ks) → RepK O H ks kvs → Rep O H (.ref a) (.dic kvs)
inductive RepL (O : Pr) (H : Hp) : List V → List D → Prop
  | nil : RepL O H [] []
  | cons {v : V} {d : D} {vs : List V} {ds : List D} : Rep O H v d → RepL O H vs ds → RepL O H (v :: vs) (d :: ds)
inductive RepK (O : Pr) (H : Hp) : List (List Key × V) → List (List Key × D) → Prop
  | nil : RepK O H [] []
  | cons {k : List Key} {v : V} {d : D} {vs : List (List Key × V)} {ds : List (List Key × D)} : Rep O H v d → RepK O H vs ds → RepK O H ((k, v) :: vs) ((k, d) :: ds)
end
/-- what is not in W stays, and what is there is there -/
structure Ke (W : Pr) (H H' : Hp) : Prop where
  stay : ∀ a o, ¬ W a → H a = some o → H' a = some o
  there : ∀ a, H a ≠ none → H' a ≠ none
theorem Ke.refl {W : Pr} {H : Hp} : Ke W H H := ⟨fun _ _ _ h => h, fun _ h => h⟩
theorem Ke.trans {W : Pr} {H H1 H2 : Hp} (a : Ke W H H1) (b : Ke W H1 H2) : Ke W H H2 :=
  ⟨fun x o n h => b.stay x o n (a.stay x o n h), fun x h => b.there x (a.there x h)⟩
theorem Ke.new {W : Pr} {H : Hp} {p : Addr} {o : HO} (h : H p = none) : Ke W H (upd H p o) := by
  refine ⟨fun a u _ e => ?_, fun a e => ?_⟩
  · rw [upd_ne (ne_of_none e h)]; exact e
  · by_cases q : a = p
    · subst q; exact absurd h e
    · rw [upd_ne q]; exact e
theorem Ke.mut {W : Pr} {H : Hp} {p : Addr} {o : HO} (h : W p) : Ke W H (upd H p o) := by
  refine ⟨fun a u n e => ?_, fun a e => ?_⟩
  · have q : a ≠ p := fun z => n (z ▸ h)
    rw [upd_ne q]; exact e
  · by_cases q : a = p
    · subst q; rw [upd_same]; simp
    · rw [upd_ne q]; exact e
theorem Ke.imp {W W' : Pr} {H H' : Hp} (a : Ke W H H') (h : ∀ x, W x → H x ≠ none → W' x) : Ke W' H H' :=
  ⟨fun x o n e => a.stay x o (fun z => n (h x z (by rw [e]; simp))) e, a.there⟩
theorem al_of {H : Hp} {a : Addr} {u : HO} (r : H a = some u) : H a ≠ none := by rw [r]; simp
mutual
theorem Rep.ke {W W' : Pr} {H H' : Hp} (k : Ke W H H') (g : ∀ a, W' a → W a ∨ H a = none) : ∀ {v : V} {d : D}, Rep W H v d → Rep W' H' v d
  | _, _, .non => .non
  | _, _, .bl b => .bl b
  | _, _, .int i => .int i
  | _, _, .str s => .str s
  | _, _, .tup n r l => .tup (fun z => (g _ z).elim n (al_of r)) (k.stay _ _ n r) (RepL.ke k g l)
  | _, _, .lst n r l => .lst (fun z => (g _ z).elim n (al_of r)) (k.stay _ _ n r) (RepL.ke k g l)
  | _, _, .dic n r l => .dic (fun z => (g _ z).elim n (al_of r)) (k.stay _ _ n r) (RepK.ke k g l)
theorem RepL.ke {W W' : Pr} {H H' : Hp} (k : Ke W H H') (g : ∀ a, W' a → W a ∨ H a = none) : ∀ {vs : List V} {ds : List D}, RepL W H vs ds → RepL W' H' vs ds
  | _, _, .nil => .nil
  | _, _, .cons r l => .cons (Rep.ke k g r) (RepL.ke k g l)
theorem RepK.ke {W W' : Pr} {H H' : Hp} (k : Ke W H H') (g : ∀ a, W' a → W a ∨ H a = none) : ∀ {vs : List (List Key × V)} {ds : List (List Key × D)}, RepK W H vs ds → RepK W' H' vs ds
  | _, _, .nil => .nil
  | _, _, .cons r l => .cons (Rep.ke k g r) (RepK.ke k g l)
end
theorem Rep.mono {W : Pr} {H H' : Hp} {v : V} {d : D} (k : Ke W H H') (r : Rep W H v d) : Rep W H' v d := r.ke k fun _ z => .inl z
theorem RepL.mono {W : Pr} {H H' : Hp} {v : List V} {d : List D} (k : Ke W H H') (r : RepL W H v d) : RepL W H' v d := r.ke k fun _ z => .inl z
theorem RepK.mono {W : Pr} {H H' : Hp} {v : List (List Key × V)} {d : List (List Key × D)} (k : Ke W H H') (r : RepK W H v d) : RepK W H' v d := r.ke k fun _ z => .inl z
theorem Rep.sub {W W' : Pr} {H : Hp} {v : V} {d : D} (g : ∀ a, W' a → W a ∨ H a = none) (r : Rep W H v d) : Rep W' H v d := r.ke Ke.refl g
theorem RepL.sub {W W' : Pr} {H : Hp} {v : List V} {d : List D} (g : ∀ a, W' a → W a ∨ H a = none) (r : RepL W H v d) : RepL W' H v d := r.ke Ke.refl g
theorem RepK.sub {W W' : Pr} {H : Hp} {v : List (List Key × V)} {d : List (List Key × D)} (g : ∀ a, W' a → W a ∨ H a = none) (r : RepK W H v d) : RepK W' H v d := r.ke Ke.refl g
/-- the top object may be one that changes -/
inductive RepW (K : PySem.W.Frag) (O : Pr) (H : Hp) : V → D → Prop
  | of {v : V} {d : D} : Rep O H v d → RepW K O H v d
  | tup {a : Addr} {vs : List V} {xs : List D} : SqT K H a vs → RepL O H vs xs → RepW K O H (.ref a) (.tup xs)
  | lst {a : Addr} {vs : List V} {xs : List D} : SqL K H a vs → RepL O H vs xs → RepW K O H (.ref a) (.lst xs)
  | dic {a : Addr} {ks : List (List Key × V)} {kvs : List (List Key × D)} : Rd H a (.dT ks) → RepK O H ks kvs → RepW K O H (.ref a) (.dic kvs)
section
variable {K : PySem.W.Frag} {O : Pr} {H : Hp}
theorem RepW.lst' {v : V} {xs : List D} (r : RepW K O H v (.lst xs)) : ∃ a vs, v = .ref a ∧ SqL K H a vs ∧ RepL O H vs xs := by
  cases r with
  | of r => cases r with | lst n r l => exact ⟨_, _, rfl, .inl (.inl r), l⟩
  | lst s l => exact ⟨_, _, rfl, s, l⟩
theorem RepW.tup' {v : V} {xs : List D} (r : RepW K O H v (.tup xs)) : ∃ a vs, v = .ref a ∧ SqT K H a vs ∧ RepL O H vs xs := by
  cases r with
  | of r => cases r with | tup n r l => exact ⟨_, _, rfl, .inl (.inl r), l⟩
  | tup s l => exact ⟨_, _, rfl, s, l⟩
theorem RepW.dic' {v : V} {kvs : List (List Key × D)} (r : RepW K O H v (.dic kvs)) : ∃ a ks, v = .ref a ∧ Rd H a (.dT ks) ∧ RepK O H ks kvs := by
  cases r with
  | of r => cases r with | dic n r l => exact ⟨_, _, rfl, .inl r, l⟩
  | dic s l => exact ⟨_, _, rfl, s, l⟩
theorem RepW.int' {v : V} {i : Int} (r : RepW K O H v (.int i)) : v = .int i := by
  cases r with | of r => cases r; rfl
theorem RepW.bl' {v : V} {i : Bool} (r : RepW K O H v (.bl i)) : v = .bl i := by
  cases r with | of r => cases r; rfl
theorem RepW.str' {v : V} {i : Str} (r : RepW K O H v (.str i)) : v = .str i := by
  cases r with | of r => cases r; rfl
theorem RepW.non' {v : V} (r : RepW K O H v .non) : v = .non := by
  cases r with | of r => cases r; rfl
theorem RepL.len : ∀ {vs : List V} {xs : List D}, RepL O H vs xs → vs.length = xs.length
  | _, _, .nil => rfl
  | _, _, .cons _ l => by rw [List.length_cons, List.length_cons, RepL.len l]
theorem RepL.get : ∀ {vs : List V} {xs : List D} {i : Nat} {d : D}, RepL O H vs xs → xs[i]? = some d → ∃ v, vs[i]? = some v ∧ Rep O H v d
  | _, _, _, _, .nil, e => by simp at e
  | _, _, 0, _, .cons r _, e => by simp at e; subst e; exact ⟨_, rfl, r⟩
  | _, _, i + 1, d, .cons _ t, e => by
    obtain ⟨u, h1, h2⟩ := RepL.get (i := i) (d := d) t (by simpa using e)
    exact ⟨u, by simpa using h1, h2⟩
theorem RepL.get' : ∀ {vs : List V} {xs : List D} {i : Nat} {v : V}, RepL O H vs xs → vs[i]? = some v → ∃ d, xs[i]? = some d ∧ Rep O H v d
  | _, _, _, _, .nil, e => by simp at e
  | _, _, 0, _, .cons r _, e => by simp at e; subst e; exact ⟨_, rfl, r⟩
  | _, _, i + 1, d, .cons _ t, e => by
    obtain ⟨u, h1, h2⟩ := RepL.get' (i := i) (v := d) t (by simpa using e)
    exact ⟨u, by simpa using h1, h2⟩
theorem RepL.app : ∀ {vs : List V} {xs : List D} {ws : List V} {ys : List D}, RepL O H vs xs → RepL O H ws ys → RepL O H (vs ++ ws) (xs ++ ys)
  | _, _, _, _, .nil, s => s
  | _, _, _, _, .cons r l, s => .cons r (RepL.app l s)
theorem RepL.take : ∀ {vs : List V} {xs : List D} (n : Nat), RepL O H vs xs → RepL O H (vs.take n) (xs.take n)
  | _, _, 0, _ => .nil
  | _, _, _ + 1, .nil => .nil
  | _, _, n + 1, .cons r t => .cons r (RepL.take n t)
theorem RepL.drop : ∀ {vs : List V} {xs : List D} (n : Nat), RepL O H vs xs → RepL O H (vs.drop n) (xs.drop n)
  | _, _, 0, r => r
  | _, _, _ + 1, .nil => .nil
  | _, _, n + 1, .cons _ t => RepL.drop n t
theorem RepL.set {v : V} {d : D} (r : Rep O H v d) : ∀ {vs : List V} {xs : List D} (i : Nat), RepL O H vs xs → RepL O H (vs.set i v) (xs.set i d)
  | _, _, _, .nil => .nil
  | _, _, 0, .cons _ t => .cons r t
  | _, _, i + 1, .cons q t => .cons q (RepL.set r i t)
theorem RepL.rep {vs : List V} {xs : List D} (r : RepL O H vs xs) : ∀ k : Nat, RepL O H (List.replicate k vs).flatten (List.replicate k xs).flatten
  | 0 => .nil
  | k + 1 => by
    rw [List.replicate_succ, List.flatten_cons, List.replicate_succ, List.flatten_cons]
    exact r.app (RepL.rep r k)
theorem RepL.at {vs : List V} {xs : List D} {i : Int} {d : D} (r : RepL O H vs xs) (e : atI xs i = some d) : ∃ v, atI vs i = some v ∧ Rep O H v d := by
  unfold atI at e ⊢
  rw [r.len]
  cases h : ixN xs.length i with
  | none => rw [h] at e; cases e
  | some j =>
    rw [h] at e
    exact r.get (show xs[j]? = some d from e)
theorem RepL.ints : ∀ {vs : List V} {xs : List D} {ns : List Int}, RepL O H vs xs → intsL xs = some ns → vs = ns.map V.int
  | _, _, _, .nil, e => by cases e; rfl
  | _, _, ns, .cons r l, e => by
    cases r with
    | int i =>
      rename_i vs ds
      unfold intsL at e
      cases h : intsL ds with
      | none => rw [h] at e; cases e
      | some ms =>
        rw [h] at e
        cases e
        rw [List.map_cons, RepL.ints l h]
    | _ => cases e
theorem RepL.bools : ∀ {vs : List V} {xs : List D} {ns : List Bool}, RepL O H vs xs → AH.bools xs = some ns → vs = ns.map V.bl
  | _, _, _, .nil, e => by cases e; rfl
  | _, _, ns, .cons r l, e => by
    cases r with
    | bl i =>
      rename_i vs ds
      unfold AH.bools at e
      cases h : AH.bools ds with
      | none => rw [h] at e; cases e
      | some ms =>
        rw [h] at e
        cases e
        rw [List.map_cons, RepL.bools l h]
    | _ => cases e
end
/-! ### the frame of a def -/
structure Fm where
  P : Pr
  N : Pr
  H0 : Hp
  ba : Nat → Option Addr
def Fm.bo (F : Fm) : Pr := fun a => ∃ i, F.ba i = some a
def Fm.ad (F : Fm) (p : Addr) : Fm := { F with P := fun a => F.P a ∨ a = p, N := fun a => F.N a ∨ a = p }
def Ow (F : Fm) (O : Nat → Option Addr) : Pr := fun a => F.P a ∨ ∃ i, O i = some a
def Jo (O : Nat → Option Addr) : Pr := fun a => ∃ i, O i = some a
/-- what is just looked at: an object that does not change meanwhile; a list of ints of the module -/
inductive RoR (K : PySem.W.Frag) (F : Fm) (O : Nat → Option Addr) (H : Hp) : V → D → Prop
  | of {v : V} {d : D} : Rep (Ow F O) H v d → RoR K F O H v d
  | tup {a : Addr} {vs : List V} {xs : List D} : ¬ (Jo O a ∨ F.N a) → Rd H a (.tup vs) → RepL (Ow F O) H vs xs → RoR K F O H (.ref a) (.tup xs)
  | lst {a : Addr} {vs : List V} {xs : List D} : ¬ (Jo O a ∨ F.N a) → Rd H a (.lst vs) → RepL (Ow F O) H vs xs → RoR K F O H (.ref a) (.lst xs)
  | dic {a : Addr} {ks : List (List Key × V)} {kvs : List (List Key × D)} : ¬ (Jo O a ∨ F.N a) → Rd H a (.dT ks) → RepK (Ow F O) H ks kvs → RoR K F O H (.ref a) (.dic kvs)
  | kl {a : Addr} {ns : List Int} : SqL K (fun _ => none) a (ns.map V.int) → RoR K F O H (.ref a) (.lst (ns.map D.int))
theorem rd_al {H : Hp} {a : Addr} {u : HO} (r : Rd H a u) : H a ≠ none := by
  rcases r with r | ⟨o, r⟩ <;> (rw [r]; simp)
theorem rd_keep {H H' : Hp} {a : Addr} {u : HO} (k : ∀ o, H a = some o → H' a = some o) (r : Rd H a u) : Rd H' a u := by
  rcases r with r | ⟨o, r⟩
  · exact .inl (k _ r)
  · exact .inr ⟨o, k _ r⟩
theorem repL_ints {W : Pr} {H : Hp} : ∀ ns : List Int, RepL W H (ns.map V.int) (ns.map D.int)
  | [] => .nil
  | n :: ns => .cons (.int n) (repL_ints ns)
theorem RoR.w {K : PySem.W.Frag} {F : Fm} {O : Nat → Option Addr} {H : Hp} {v : V} {d : D} (r : RoR K F O H v d) : RepW K (Ow F O) H v d := by
  cases r with
  | of r => exact .of r
  | tup n h l => exact .tup (.inl h) l
  | lst n h l => exact .lst (.inl h) l
  | dic n h l => exact .dic h l
  | kl s =>
    refine .lst ?_ (repL_ints _)
    rcases s with s | s
    · exact absurd rfl (rd_al s)
    · exact .inr s
/-- .. through a step of the heap, of the owners -/
theorem RoR.go {K : PySem.W.Frag} {F F' : Fm} {O O' : Nat → Option Addr} {H H' : Hp} {v : V} {d : D} (k : Ke (Jo O) H H') (g : ∀ a, Ow F' O' a → Ow F O a ∨ H a = none) (gn : ∀ a, Jo O' a ∨ F'.N a → (Jo O a ∨ F.N a) ∨ H a = none) (r : RoR K F O H v d) : RoR K F' O' H' v d := by
  have ke : Ke (Ow F O) H H' := k.imp fun _ z _ => .inr z
  cases r with
  | of r => exact .of (r.ke ke g)
  | tup n h l => exact .tup (fun z => (gn _ z).elim n (rd_al h)) (rd_keep (fun o e => k.stay _ _ (fun z => n (.inl z)) e) h) (l.ke ke g)
  | lst n h l => exact .lst (fun z => (gn _ z).elim n (rd_al h)) (rd_keep (fun o e => k.stay _ _ (fun z => n (.inl z)) e) h) (l.ke ke g)
  | dic n h l => exact .dic (fun z => (gn _ z).elim n (rd_al h)) (rd_keep (fun o e => k.stay _ _ (fun z => n (.inl z)) e) h) (l.ke ke g)
  | kl s => exact .kl s
theorem Ke.ow {F : Fm} {O : Nat → Option Addr} {H H' : Hp} (k : Ke (Jo O) H H') : Ke (Ow F O) H H' := k.imp fun _ z _ => .inr z
theorem Rep.mj {F : Fm} {O : Nat → Option Addr} {H H' : Hp} {v : V} {d : D} (k : Ke (Jo O) H H') (r : Rep (Ow F O) H v d) : Rep (Ow F O) H' v d := r.mono k.ow
theorem RepL.mj {F : Fm} {O : Nat → Option Addr} {H H' : Hp} {v : List V} {d : List D} (k : Ke (Jo O) H H') (r : RepL (Ow F O) H v d) : RepL (Ow F O) H' v d := r.mono k.ow
theorem RepK.mj {F : Fm} {O : Nat → Option Addr} {H H' : Hp} {v : List (List Key × V)} {d : List (List Key × D)} (k : Ke (Jo O) H H') (r : RepK (Ow F O) H v d) : RepK (Ow F O) H' v d := r.mono k.ow
def SlR (K : PySem.W.Frag) (F : Fm) (O : Nat → Option Addr) (H : Hp) (i : Nat) (ov : Option V) : Sl → Prop
  | .no => O i = none
  | .val d => O i = none ∧ ∃ v, ov = some v ∧ Rep (Ow F O) H v d
  | .ro d => O i = none ∧ ∃ v, ov = some v ∧ RoR K F O H v d
  | .own xs => ∃ a vs, O i = some a ∧ (F.H0 a = none ∧ ¬ F.P a) ∧ ov = some (.ref a) ∧ H a = some (.lst vs) ∧ RepL (Ow F O) H vs xs
  | .bor xs => ∃ a vs, O i = some a ∧ F.ba i = some a ∧ ov = some (.ref a) ∧ H a = some (.lst vs) ∧ RepL (Ow F O) H vs xs
  | .odc kvs => ∃ a ks, O i = some a ∧ (F.H0 a = none ∧ ¬ F.P a) ∧ ov = some (.ref a) ∧ H a = some (.dT ks) ∧ RepK (Ow F O) H ks kvs
  | .ldc kvs => ∃ a ks o, O i = some a ∧ (F.H0 a = none ∧ ¬ F.P a) ∧ ov = some (.ref a) ∧ H a = some (.frz o (.dT ks)) ∧ RepK (Ow F O) H ks kvs
def get1 (σ : L2.St) (i : Nat) : Option V := (σ[i]?).join
structure SR (K : PySem.W.Frag) (F : Fm) (O : Nat → Option Addr) (env : Env) (σ : L2.St) (H : Hp) : Prop where
  slot : ∀ i, SlR K F O H i (get1 σ i) (sl env i)
  inj : ∀ i j a, O i = some a → O j = some a → i = j
  prot : ∀ a, Ow F O a → H a ≠ none
  keep : ∀ a o, F.H0 a = some o → ¬ F.bo a → H a = some o
  al : ∀ a, F.H0 a ≠ none → H a ≠ none
  len : env.length = σ.length
  nal : ∀ a, F.N a → H a ≠ none
/-- an exception of a class with its fields -/
def fieldsOf (c : Str) : List Str :=
  if c = "NoStretch" then ["first", "last"] else if c = "TooFew" then ["first", "last"] else if c = "NoHour" then ["hour"] else if c = "NoMove" then ["move"] else if c = "BadLine" then ["number"] else []
def XR (K : PySem.W.Frag) (W : Pr) (c : Str) (fs : List D) (cls : Value) (dd : Option Addr) (H : Hp) : Prop :=
  cls = .ref (He.ga K c) ∧ match dd with
    | none => fs = []
    | some d => ∃ vs, H d = some (.xd ((fieldsOf c).zip vs)) ∧ vs.length = (fieldsOf c).length ∧ RepL W H vs fs
/-! ### judgements -/
def Want {α : Type} (m : M α) (env : Env) (Q : α → Env → Prop) (E : Str → List D → Env → Prop) : Prop := match m env with
  | .ok a e => Q a e
  | .ex c fs e => E c fs e
  | .bad => False
theorem Want.bind {α β : Type} {m : M α} {f : α → M β} {env : Env} {Q : β → Env → Prop} {E : Str → List D → Env → Prop} (h : Want (m.bind f) env Q E) : Want m env (fun a e => Want (f a) e Q E) E := by
  unfold Want at h ⊢
  unfold M.bind at h
  cases hm : m env with
  | ok a e => rw [hm] at h; exact h
  | ex c fs e => rw [hm] at h; exact h
  | bad => rw [hm] at h; exact h
theorem Want.imp {α : Type} {m : M α} {env : Env} {Q Q' : α → Env → Prop} {E E' : Str → List D → Env → Prop} (h : Want m env Q E) (q : ∀ a e, Q a e → Q' a e) (x : ∀ c fs e, E c fs e → E' c fs e) : Want m env Q' E' := by
  unfold Want at h ⊢
  cases hm : m env with
  | ok a e => rw [hm] at h; exact q a e h
  | ex c fs e => rw [hm] at h; exact x c fs e h
  | bad => rw [hm] at h; exact h
theorem Want.of {α : Type} {r : Rv α} {env : Env} {Q : α → Env → Prop} {E : Str → List D → Env → Prop} (h : Want (M.of r) env Q E) : ∃ a, r = .ok a ∧ Q a env := by
  cases r with
  | ok a => exact ⟨a, rfl, h⟩
  | bad => exact h.elim
inductive Fl where
  | w | s | f | fd
def Po (fl : Fl) (K : PySem.W.Frag) (F : Fm) (O : Nat → Option Addr) (e1 : Env) (σ : L2.St) (H H' : Hp) (v : V) (d : D) : Prop := match fl with
  | .w => RepW K (Ow F O) H' v d
  | .s => Rep (Ow F O) H' v d
  | .f => ∃ p vs xs, v = .ref p ∧ d = .lst xs ∧ H p = none ∧ H' p = some (.lst vs) ∧ RepL (Ow (F.ad p) O) H' vs xs ∧ SR K (F.ad p) O e1 σ H'
  | .fd => ∃ p ks kvs, v = .ref p ∧ d = .dic kvs ∧ H p = none ∧ H' p = some (.dT ks) ∧ RepK (Ow (F.ad p) O) H' ks kvs ∧ SR K (F.ad p) O e1 σ H'
/-- what is wished of an exception -/
def XW (K : PySem.W.Frag) (F : Fm) (O : Nat → Option Addr) (σ : L2.St) (H : Hp) (Wx : WX) : Str → List D → Env → Prop := fun c fs e1 =>
  ∀ cls d H', SR K F O e1 σ H' → Ke (Jo O) H H' → XR K (Ow F O) c fs cls d H' → Wx cls d σ H'
theorem XW.later {K : PySem.W.Frag} {F : Fm} {O : Nat → Option Addr} {σ : L2.St} {H H1 : Hp} {Wx : WX} (k : Ke (Jo O) H H1) : ∀ c fs e, XW K F O σ H Wx c fs e → XW K F O σ H1 Wx c fs e :=
  fun _ _ _ h cls d H' S k1 x => h cls d H' S (k.trans k1) x
/-- an expression -/
def PD (fl : Fl) (X : Cx) (Wx : WX) (e : Expr) (m : DE) : Prop := ∃ t : TE, PE X e t ∧ ∀ (F : Fm) (O : Nat → Option Addr) (env : Env) (σ : L2.St) (H : Hp) (Q : VK), SR X.K F O env σ H →
  Want m env (fun d e1 => ∀ v H', SR X.K F O e1 σ H' → Ke (Jo O) H H' → Po fl X.K F O e1 σ H H' v d → Q v H') (XW X.K F O σ H Wx) → t σ H Q
/-- a test -/
def TD (X : Cx) (Wx : WX) (e : Expr) (m : DT) : Prop := ∃ t : TT, PT X e t ∧ ∀ (F : Fm) (O : Nat → Option Addr) (env : Env) (σ : L2.St) (H : Hp) (Q : Bool → Hp → Prop), SR X.K F O env σ H →
  Want m env (fun b e1 => ∀ H', SR X.K F O e1 σ H' → Ke (Jo O) H H' → Q b H') (XW X.K F O σ H Wx) → t σ H Q
def WD (X : Cx) (Wx : WX) (e : Expr) (m : DT) : Prop := ∃ t : TT, PW X e t ∧ ∀ (F : Fm) (O : Nat → Option Addr) (env : Env) (σ : L2.St) (H : Hp) (Q : Bool → Hp → Prop), SR X.K F O env σ H →
  Want m env (fun b e1 => ∀ H', SR X.K F O e1 σ H' → Ke (Jo O) H H' → Q b H') (XW X.K F O σ H Wx) → t σ H Q
/-- an argument list of values that stay -/
def AD (X : Cx) (Wx : WX) (es : List Expr) (m : DL) : Prop := ∃ t : TA, PA X es t ∧ ∀ (F : Fm) (O : Nat → Option Addr) (env : Env) (σ : L2.St) (H : Hp) (Q : List V → Hp → Prop), SR X.K F O env σ H →
  Want m env (fun ds e1 => ∀ vs H', SR X.K F O e1 σ H' → Ke (Jo O) H H' → RepL (Ow F O) H' vs ds → Q vs H') (XW X.K F O σ H Wx) → t σ H Q
theorem WD.td {X : Cx} {Wx : WX} {e : Expr} {m : DT} (h : WD X Wx e m) : TD X Wx e m := let ⟨t, p, q⟩ := h; ⟨t, p.pt, q⟩
section
variable {K : PySem.W.Frag} {F : Fm} {O : Nat → Option Addr} {env : Env} {σ : L2.St} {H H' : Hp}
theorem RepW.all {W : Pr} {v : V} {d : D} (k : ∀ a o, H a = some o → H' a = some o) (r : RepW K W H v d) : RepW K W H' v d := by
  have ke : Ke W H H' := ⟨fun a o _ e => k a o e, fun a e => by
    cases q : H a with
    | none => exact absurd q e
    | some o => rw [k a o q]; simp⟩
  cases r with
  | of r => exact .of (r.mono ke)
  | tup s l =>
    refine .tup ?_ (l.mono ke)
    rcases s with s | s
    · rcases s with s | ⟨o, s⟩
      · exact .inl (.inl (k _ _ s))
      · exact .inl (.inr ⟨o, k _ _ s⟩)
    · exact .inr s
  | lst s l =>
    refine .lst ?_ (l.mono ke)
    rcases s with s | s
    · rcases s with s | ⟨o, s⟩
      · exact .inl (.inl (k _ _ s))
      · exact .inl (.inr ⟨o, k _ _ s⟩)
    · exact .inr s
  | dic s l =>
    refine .dic ?_ (l.mono ke)
    rcases s with s | ⟨o, s⟩
    · exact .inl (k _ _ s)
    · exact .inr ⟨o, k _ _ s⟩
/-- .. and fewer, or new, objects are kept apart -/
theorem RepW.sub {W W' : Pr} {v : V} {d : D} (g : ∀ a, W' a → W a ∨ H a = none) (r : RepW K W H v d) : RepW K W' H v d := by
  cases r with
  | of r => exact .of (r.sub g)
  | tup s l => exact .tup s (l.sub g)
  | lst s l => exact .lst s (l.sub g)
  | dic s l => exact .dic s (l.sub g)
theorem ke_all {W : Pr} (k : ∀ a o, H a = some o → H' a = some o) : Ke W H H' := ⟨fun a o _ e => k a o e, fun a e => by
    cases q : H a with
    | none => exact absurd q e
    | some o => rw [k a o q]; simp⟩
theorem SlR.ext {i : Nat} {ov : Option V} (k : ∀ a o, H a = some o → H' a = some o) : ∀ {s : Sl}, SlR K F O H i ov s → SlR K F O H' i ov s := by
  have ke : Ke (Ow F O) H H' := ⟨fun a o _ e => k a o e, fun a e => by
    cases q : H a with
    | none => exact absurd q e
    | some o => rw [k a o q]; simp⟩
  intro s h
  cases s with
  | no => exact h
  | val d => obtain ⟨h, v, e, r⟩ := h; exact ⟨h, v, e, r.mono ke⟩
  | ro d => obtain ⟨h, v, e, r⟩ := h; exact ⟨h, v, e, r.go (ke_all k) (fun _ z => .inl z) fun _ z => .inl z⟩
  | own xs => obtain ⟨a, vs, h, h0, e, q, r⟩ := h; exact ⟨a, vs, h, h0, e, k _ _ q, r.mono ke⟩
  | bor xs => obtain ⟨a, vs, h, h0, e, q, r⟩ := h; exact ⟨a, vs, h, h0, e, k _ _ q, r.mono ke⟩
  | odc kvs => obtain ⟨a, vs, h, h0, e, q, r⟩ := h; exact ⟨a, vs, h, h0, e, k _ _ q, r.mono ke⟩
  | ldc kvs => obtain ⟨a, vs, o, h, h0, e, q, r⟩ := h; exact ⟨a, vs, o, h, h0, e, k _ _ q, r.mono ke⟩
/-- another set of objects that are kept apart -/
theorem SlR.sub {F' : Fm} {i : Nat} {ov : Option V} (hb : F'.ba = F.ba) (h0 : F'.H0 = F.H0) (gp : ∀ a, F'.P a → F.P a ∨ H a = none) (gn : ∀ a, F'.N a → F.N a ∨ H a = none) : ∀ {s : Sl}, SlR K F O H i ov s → SlR K F' O H i ov s := by
  have g : ∀ a, Ow F' O a → Ow F O a ∨ H a = none := fun a w => w.elim (fun w => (gp a w).elim (fun z => .inl (.inl z)) .inr) fun w => .inl (.inr w)
  have al : ∀ {a : Addr} {o : HO}, H a = some o → ¬ F.P a → ¬ F'.P a := fun {a o} e n w => (gp a w).elim n fun z => by rw [z] at e; cases e
  intro s h
  cases s with
  | no => exact h
  | val d => obtain ⟨h, v, e, r⟩ := h; exact ⟨h, v, e, r.sub g⟩
  | ro d => obtain ⟨h, v, e, r⟩ := h; exact ⟨h, v, e, r.go Ke.refl g fun a z => z.elim (fun z => .inl (.inl z)) fun z => (gn a z).elim (fun z => .inl (.inr z)) .inr⟩
  | own xs => obtain ⟨a, vs, h, hz, e, q, r⟩ := h; exact ⟨a, vs, h, ⟨by rw [h0]; exact hz.1, al q hz.2⟩, e, q, r.sub g⟩
  | bor xs => obtain ⟨a, vs, h, hz, e, q, r⟩ := h; exact ⟨a, vs, h, by rw [hb]; exact hz, e, q, r.sub g⟩
  | odc kvs => obtain ⟨a, vs, h, hz, e, q, r⟩ := h; exact ⟨a, vs, h, ⟨by rw [h0]; exact hz.1, al q hz.2⟩, e, q, r.sub g⟩
  | ldc kvs => obtain ⟨a, vs, o, h, hz, e, q, r⟩ := h; exact ⟨a, vs, o, h, ⟨by rw [h0]; exact hz.1, al q hz.2⟩, e, q, r.sub g⟩
/-- all that stood stands -/
theorem SR.ext (S : SR K F O env σ H) (k : ∀ a o, H a = some o → H' a = some o) : SR K F O env σ H' where
  slot := fun i => (S.slot i).ext k
  inj := S.inj
  prot := fun a w => by
    cases q : H a with
    | none => exact absurd q (S.prot a w)
    | some o => rw [k a o q]; simp
  keep := fun a o e n => k a o (S.keep a o e n)
  al := fun a e => by
    cases q : H a with
    | none => exact absurd q (S.al a e)
    | some o => rw [k a o q]; simp
  len := S.len
  nal := fun a e => by
    cases q : H a with
    | none => exact absurd q (S.nal a e)
    | some o => rw [k a o q]; simp
/-- a new object is kept apart -/
theorem SR.ad (S : SR K F O env σ H) {p : Addr} {o : HO} (h : H p = none) : SR K (F.ad p) O env σ (upd H p o) := by
  have S1 : SR K F O env σ (upd H p o) := S.ext fun a u e => by rw [upd_ne (ne_of_none e h)]; exact e
  refine ⟨fun i => ?_, S.inj, fun a w => ?_, S1.keep, S1.al, S.len, fun a w => w.elim (S1.nal a) fun z => by rw [z, upd_same]; simp⟩
  · refine SlR.ext (H := H) (fun a u e => by rw [upd_ne (ne_of_none e h)]; exact e) (SlR.sub (F := F) (F' := F.ad p) rfl rfl (fun a w => ?_) (fun a w => ?_) (S.slot i))
    · rcases w with w | rfl
      · exact .inl w
      · exact .inr h
    · rcases w with w | rfl
      · exact .inl w
      · exact .inr h
  · rcases w with (w | rfl) | w
    · exact S1.prot a (.inl w)
    · rw [upd_same]; simp
    · exact S1.prot a (.inr w)
theorem SR.unad {p : Addr} (S : SR K (F.ad p) O env σ H) : SR K F O env σ H := by
  refine ⟨fun i => SlR.sub (F := F.ad p) (F' := F) rfl rfl (fun a w => .inl (.inl w)) (fun a w => .inl (.inl w)) (S.slot i), S.inj, fun a w => S.prot a ?_, S.keep, S.al, S.len, fun a w => S.nal a (.inl w)⟩
  · exact w.elim (fun z => .inl (.inl z)) .inr
theorem SR.new' (S : SR K F O env σ H) {p : Addr} {o : HO} (h : H p = none) : SR K F O env σ (upd H p o) := S.ext fun a u e => by
  rw [upd_ne (ne_of_none e h)]; exact e
theorem SR.noW (S : SR K F O env σ H) {p : Addr} (h : H p = none) : ¬ Ow F O p := fun w => S.prot p w h
theorem ke_ext {W : Pr} (k : ∀ a o, H a = some o → H' a = some o) : Ke W H H' := ⟨fun a o _ e => k a o e, fun a e => by
    cases q : H a with
    | none => exact absurd q e
    | some o => rw [k a o q]; simp⟩
theorem new_ext {p : Addr} {o : HO} (h : H p = none) : ∀ a u, H a = some u → upd H p o a = some u := fun a u e => by
  rw [upd_ne (ne_of_none e h)]; exact e
end
/-- from new to staying to looked at -/
theorem Po.s_of_f {K : PySem.W.Frag} {F : Fm} {O : Nat → Option Addr} {e1 : Env} {σ : L2.St} {H H' : Hp} {v : V} {d : D} (n : ∀ p, H p = none → ¬ Ow F O p) (h : Po .f K F O e1 σ H H' v d) : Po .s K F O e1 σ H H' v d := by
  obtain ⟨p, vs, xs, rfl, rfl, hp, hp', l, _⟩ := h
  exact .lst (n p hp) hp' (l.sub fun a z => .inl (z.elim (fun z => .inl (.inl z)) .inr))
theorem Po.s_of_fd {K : PySem.W.Frag} {F : Fm} {O : Nat → Option Addr} {e1 : Env} {σ : L2.St} {H H' : Hp} {v : V} {d : D} (n : ∀ p, H p = none → ¬ Ow F O p) (h : Po .fd K F O e1 σ H H' v d) : Po .s K F O e1 σ H H' v d := by
  obtain ⟨p, vs, xs, rfl, rfl, hp, hp', l, _⟩ := h
  exact .dic (n p hp) hp' (l.sub fun a z => .inl (z.elim (fun z => .inl (.inl z)) .inr))
theorem PD.weak {X : Cx} {Wx : WX} {e : Expr} {m : DE} (h : PD .s X Wx e m) : PD .w X Wx e m := by
  obtain ⟨t, p, q⟩ := h
  exact ⟨t, p, fun F O env σ H Q S w => q F O env σ H Q S (w.imp (fun d e1 z v H' S' k r => z v H' S' k (.of r)) fun _ _ _ z => z)⟩
theorem PD.str {X : Cx} {Wx : WX} {e : Expr} {m : DE} (h : PD .f X Wx e m) : PD .s X Wx e m := by
  obtain ⟨t, p, q⟩ := h
  exact ⟨t, p, fun F O env σ H Q S w => q F O env σ H Q S (w.imp (fun d e1 z v H' S' k r => z v H' S' k (Po.s_of_f (K := X.K) (fun p hp => S.noW hp) r)) fun _ _ _ z => z)⟩
theorem PD.strD {X : Cx} {Wx : WX} {e : Expr} {m : DE} (h : PD .fd X Wx e m) : PD .s X Wx e m := by
  obtain ⟨t, p, q⟩ := h
  exact ⟨t, p, fun F O env σ H Q S w => q F O env σ H Q S (w.imp (fun d e1 z v H' S' k r => z v H' S' k (Po.s_of_fd (K := X.K) (fun p hp => S.noW hp) r)) fun _ _ _ z => z)⟩
end AH
namespace AH
open PySem PySem.Spec PyProof.Rows L2
section
variable {X : Cx} {Wx : WX} {e a b c : Expr} {ma mb mc : DE} {pos : Pos}
theorem get1_some {σ : L2.St} {i : Nat} {v : V} (h : get1 σ i = some v) : σ[i]? = some (some v) := by
  unfold get1 at h
  cases q : σ[i]? with
  | none => rw [q] at h; cases h
  | some o => rw [q] at h; cases o with
    | none => cases h
    | some u => cases h; rfl
theorem Po.back {fl : Fl} {K : PySem.W.Frag} {F : Fm} {O : Nat → Option Addr} {e1 : Env} {σ : L2.St} {H H1 H' : Hp} {v : V} {d : D} (k : Ke (Jo O) H H1) (h : Po fl K F O e1 σ H1 H' v d) : Po fl K F O e1 σ H H' v d := by
  have bk : ∀ p, H1 p = none → H p = none := fun p hp => by
    cases q : H p with
    | none => rfl
    | some o => exact absurd hp (k.there p (by rw [q]; simp))
  cases fl with
  | w => exact h
  | s => exact h
  | f => obtain ⟨p, vs, xs, e1, e2, hp, r⟩ := h; exact ⟨p, vs, xs, e1, e2, bk p hp, r⟩
  | fd => obtain ⟨p, vs, xs, e1, e2, hp, r⟩ := h; exact ⟨p, vs, xs, e1, e2, bk p hp, r⟩
/-! ### names, constants -/
theorem pd_var {i : Nat} {x : Str} (hN : X.N[i]? = some x) (hv : Vis X.env.scope x) (hd : (x == ("__debug__" : Str)) = false := by decide) (hcd : (x == ("__classdict__" : Str)) = false := by decide) : PD .s X Wx (.Name x pos) (eVar i) := by
  refine ⟨_, pe_var hN hv hd hcd, fun F O env σ H Q S w => ?_⟩
  have s := S.slot i
  unfold Want eVar at w
  cases h : sl env i with
  | val d =>
    rw [h] at w s
    obtain ⟨_, v, e, r⟩ := s
    exact ⟨v, get1_some e, w v H S Ke.refl r⟩
  | _ => rw [h] at w; exact w.elim
theorem tmp_rep {K : PySem.W.Frag} {F : Fm} {O : Nat → Option Addr} {env : Env} {σ : L2.St} {H : Hp} {i : Nat} {d : D} {e' : Env} (S : SR K F O env σ H) (h : eTmp i env = .ok d e') : e' = env ∧ ∃ v, get1 σ i = some v ∧ RepW K (Ow F O) H v d := by
  have s := S.slot i
  unfold eTmp at h
  cases q : sl env i with
  | no => rw [q] at h; cases h
  | val d =>
    rw [q] at h s; cases h
    obtain ⟨_, v, e, r⟩ := s
    exact ⟨rfl, v, e, .of r⟩
  | ro d =>
    rw [q] at h s; cases h
    obtain ⟨_, v, e, r⟩ := s
    exact ⟨rfl, v, e, r.w⟩
  | own xs =>
    rw [q] at h s; cases h
    obtain ⟨a, vs, e1, e0, e2, e3, r⟩ := s
    exact ⟨rfl, _, e2, .lst (.inl (.inl e3)) r⟩
  | bor xs =>
    rw [q] at h s; cases h
    obtain ⟨a, vs, e1, e0, e2, e3, r⟩ := s
    exact ⟨rfl, _, e2, .lst (.inl (.inl e3)) r⟩
  | odc kvs =>
    rw [q] at h s; cases h
    obtain ⟨a, vs, e1, e0, e2, e3, r⟩ := s
    exact ⟨rfl, _, e2, .dic (.inl e3) r⟩
  | ldc kvs =>
    rw [q] at h s; cases h
    obtain ⟨a, vs, o, e1, e0, e2, e3, r⟩ := s
    exact ⟨rfl, _, e2, .dic (.inr ⟨o, e3⟩) r⟩
theorem Want.tmp {K : PySem.W.Frag} {F : Fm} {O : Nat → Option Addr} {env : Env} {σ : L2.St} {H : Hp} {i : Nat} {Q : D → Env → Prop} {E : Str → List D → Env → Prop} (S : SR K F O env σ H) (h : Want (eTmp i) env Q E) : ∃ v d, get1 σ i = some v ∧ RepW K (Ow F O) H v d ∧ Q d env := by
  unfold Want at h
  cases q : eTmp i env with
  | ok d e' =>
    rw [q] at h
    obtain ⟨rfl, v, e, r⟩ := tmp_rep S q
    exact ⟨v, d, e, r, h⟩
  | ex c fs e' =>
    unfold eTmp at q
    split at q <;> cases q
  | bad => rw [q] at h; exact h.elim
theorem pd_tmp {i : Nat} {x : Str} (hN : X.N[i]? = some x) (hv : Vis X.env.scope x) (hd : (x == ("__debug__" : Str)) = false := by decide) (hcd : (x == ("__classdict__" : Str)) = false := by decide) : PD .w X Wx (.Name x pos) (eTmp i) := by
  refine ⟨_, pe_var hN hv hd hcd, fun F O env σ H Q S w => ?_⟩
  obtain ⟨v, d, e, r, w⟩ := w.tmp S
  exact ⟨v, get1_some e, w v H S Ke.refl r⟩
theorem pd_int {i j} : PD .s X Wx (.Constant (.int i) j pos) (eC (.int i)) := ⟨_, pe_int, fun F O env σ H Q S w => w _ H S Ke.refl (.int i)⟩
theorem pd_bl {i j} : PD .s X Wx (.Constant (.bool i) j pos) (eC (.bl i)) := ⟨_, pe_bl, fun F O env σ H Q S w => w _ H S Ke.refl (.bl i)⟩
theorem pd_non {j} : PD .s X Wx (.Constant .none j pos) (eC .non) := ⟨_, pe_non, fun F O env σ H Q S w => w _ H S Ke.refl .non⟩
theorem pd_str {i j} : PD .s X Wx (.Constant (.str i) j pos) (eC (.str i)) := ⟨_, pe_str, fun F O env σ H Q S w => w _ H S Ke.refl (.str i)⟩
/-- a module's constant -/
theorem pd_gint {x : Str} {i : Int} (hg : Gl X x) (hm : ∃ t, X.mg x = some (.int i t)) (hd : (x == ("__debug__" : Str)) = false := by decide) : PD .s X Wx (.Name x pos) (eC (.int i)) := by
  obtain ⟨t, hm⟩ := hm
  exact ⟨_, pe_glob (v := .int i) hg hm ⟨t, rfl⟩ hd, fun F O env σ H Q S w => w _ H S Ke.refl (.int i)⟩
theorem pd_gstr {x : Str} {i : Str} (hg : Gl X x) (hm : ∃ t, X.mg x = some (.str i t)) (hd : (x == ("__debug__" : Str)) = false := by decide) : PD .s X Wx (.Name x pos) (eC (.str i)) := by
  obtain ⟨t, hm⟩ := hm
  exact ⟨_, pe_glob (v := .str i) hg hm ⟨t, rfl⟩ hd, fun F O env σ H Q S w => w _ H S Ke.refl (.str i)⟩
/-! ### operations by values -/
/-- r does f -/
def Op2 (fl : Fl) (K : PySem.W.Frag) (r : R2) (f : D → D → Rv D) : Prop := ∀ (F : Fm) (O : Nat → Option Addr) (env : Env) (σ : L2.St) (H : Hp) (x y : V) (dx dy dz : D) (Q : VK), SR K F O env σ H →
  RepW K (Ow F O) H x dx → RepW K (Ow F O) H y dy → f dx dy = .ok dz → (∀ z H', SR K F O env σ H' → Ke (Jo O) H H' → Po fl K F O env σ H H' z dz → Q z H') → r x y H Q
def Op1 (fl : Fl) (K : PySem.W.Frag) (r : V → Hp → VK → Prop) (f : D → Rv D) : Prop := ∀ (F : Fm) (O : Nat → Option Addr) (env : Env) (σ : L2.St) (H : Hp) (x : V) (dx dz : D) (Q : VK), SR K F O env σ H →
  RepW K (Ow F O) H x dx → f dx = .ok dz → (∀ z H', SR K F O env σ H' → Ke (Jo O) H H' → Po fl K F O env σ H H' z dz → Q z H') → r x H Q
theorem Want.of' {α : Type} {r : Rv α} {env : Env} {Q : α → Env → Prop} {E : Str → List D → Env → Prop} (h : Want (M.of r) env Q E) : ∃ a, r = .ok a ∧ Q a env := h.of
theorem pd_e2 {fl : Fl} {f : D → D → Rv D} {r : R2} (hop : Op2 fl X.K r f) (ha : PD .s X Wx a ma) (hb : PD .w X Wx b mb) (pe : ∀ {ta tb : TE}, PE X a ta → PE X b tb → PE X e (tOp r ta tb)) : PD fl X Wx e (e2 f ma mb) := by
  obtain ⟨ta, pa, qa⟩ := ha
  obtain ⟨tb, pb, qb⟩ := hb
  refine ⟨_, pe pa pb, fun F O env σ H Q S w => ?_⟩
  refine qa F O env σ H _ S (w.bind.imp (fun dx e1 w1 x H1 S1 k1 p1 => ?_) fun _ _ _ z => z)
  refine qb F O e1 σ H1 _ S1 (w1.bind.imp (fun dy e2 w2 y H2 S2 k2 p2 => ?_) (XW.later k1))
  obtain ⟨dz, ef, q⟩ := w2.of
  exact hop F O e2 σ H2 x y dx dy dz Q S2 (.of (Rep.mj k2 p1)) p2 ef fun z H' S' k3 p3 => q z H' S' (k1.trans (k2.trans k3)) (p3.back (k1.trans k2))
theorem pd_e2L {fl : Fl} {f : D → D → Rv D} {r : R2} {i : Nat} {x : Str} {p : Pos} (hop : Op2 fl X.K r f) (hN : X.N[i]? = some x) (hv : Vis X.env.scope x) (hb : PD .w X Wx b mb)
    (pe : ∀ {ta tb : TE}, PE X (.Name x p) ta → PE X b tb → PE X e (tOp r ta tb)) (hd : (x == ("__debug__" : Str)) = false := by decide) (hcd : (x == ("__classdict__" : Str)) = false := by decide) : PD fl X Wx e (e2L f i mb) := by
  obtain ⟨tb, pb, qb⟩ := hb
  refine ⟨_, pe (pe_var hN hv hd hcd) pb, fun F O env σ H Q S w => ?_⟩
  obtain ⟨v, d, e, r, w⟩ := w.bind.tmp S
  refine ⟨v, get1_some e, ?_⟩
  refine qb F O env σ H _ S (w.bind.imp (fun dy e2 w2 y H2 S2 k2 p2 => ?_) fun _ _ _ z => z)
  obtain ⟨v', dx, ex, rx, w3⟩ := w2.bind.tmp S2
  obtain rfl : v' = v := Option.some.inj (ex.symm.trans e)
  obtain ⟨dz, ef, q⟩ := w3.of
  exact hop F O e2 σ H2 v' y dx dy dz Q S2 rx p2 ef fun z H' S' k3 p3 => q z H' S' (k2.trans k3) (p3.back k2)
theorem pd_e1 {fl : Fl} {f : D → Rv D} {r : V → Hp → VK → Prop} (hop : Op1 fl X.K r f) (ha : PD .w X Wx a ma) (pe : ∀ {ta : TE}, PE X a ta → PE X e (tUn r ta)) : PD fl X Wx e (e1 f ma) := by
  obtain ⟨ta, pa, qa⟩ := ha
  refine ⟨_, pe pa, fun F O env σ H Q S w => ?_⟩
  refine qa F O env σ H _ S (w.bind.imp (fun dx e1 w1 x H1 S1 k1 p1 => ?_) fun _ _ _ z => z)
  obtain ⟨dz, ef, q⟩ := w1.of
  exact hop F O e1 σ H1 x dx dz Q S1 p1 ef fun z H' S' k3 p3 => q z H' S' (k1.trans k3) (p3.back k1)
/-! ### the operators -/
theorem lenOk_of {n : Nat} (h : lenOk n = true) : n ≤ sizeLine := Nat.le_trans (of_decide_eq_true h) (by rw [sizeLine_eq]; decide)
theorem if_ok {c : Bool} {α : Type} {x y : α} (h : (if c = true then Rv.ok x else Rv.bad) = .ok y) : c = true ∧ x = y := by
  cases c with
  | true => rw [if_pos rfl] at h; cases h; exact ⟨rfl, rfl⟩
  | false => rw [if_neg Bool.false_ne_true] at h; cases h
/-- r does f, of values that stay -/
def Op2s (fl : Fl) (K : PySem.W.Frag) (r : R2) (f : D → D → Rv D) : Prop := ∀ (F : Fm) (O : Nat → Option Addr) (env : Env) (σ : L2.St) (H : Hp) (x y : V) (dx dy dz : D) (Q : VK), SR K F O env σ H →
  Rep (Ow F O) H x dx → Rep (Ow F O) H y dy → f dx dy = .ok dz → (∀ z H', SR K F O env σ H' → Ke (Jo O) H H' → Po fl K F O env σ H H' z dz → Q z H') → r x y H Q
theorem pd_e2s {fl : Fl} {f : D → D → Rv D} {r : R2} (hop : Op2s fl X.K r f) (ha : PD .s X Wx a ma) (hb : PD .s X Wx b mb) (pe : ∀ {ta tb : TE}, PE X a ta → PE X b tb → PE X e (tOp r ta tb)) : PD fl X Wx e (e2 f ma mb) := by
  obtain ⟨ta, pa, qa⟩ := ha
  obtain ⟨tb, pb, qb⟩ := hb
  refine ⟨_, pe pa pb, fun F O env σ H Q S w => ?_⟩
  refine qa F O env σ H _ S (w.bind.imp (fun dx e1 w1 x H1 S1 k1 p1 => ?_) fun _ _ _ z => z)
  refine qb F O e1 σ H1 _ S1 (w1.bind.imp (fun dy e2 w2 y H2 S2 k2 p2 => ?_) (XW.later k1))
  obtain ⟨dz, ef, q⟩ := w2.of
  exact hop F O e2 σ H2 x y dx dy dz Q S2 (Rep.mj k2 p1) p2 ef fun z H' S' k3 p3 => q z H' S' (k1.trans (k2.trans k3)) (p3.back (k1.trans k2))
section
variable {K : PySem.W.Frag} {F : Fm} {O : Nat → Option Addr} {env : Env} {σ : L2.St} {H : Hp}
/-- a new tuple, a new list -/
theorem new_tup {Q : VK} {vs : List V} {xs : List D} (S : SR K F O env σ H) (l : RepL (Ow F O) H vs xs) (q : ∀ z H', SR K F O env σ H' → Ke (Jo O) H H' → Rep (Ow F O) H' z (.tup xs) → Q z H') {p : Addr} (hp : H p = none) : Q (.ref p) (upd H p (.tup vs)) :=
  q _ _ (S.new' hp) (Ke.new hp) (.tup (S.noW hp) upd_same (l.mono (Ke.new hp)))
theorem RepL.grow1 {vs : List V} {xs : List D} {o : HO} {p : Addr} (l : RepL (Ow F O) H vs xs) (hp : H p = none) : RepL (Ow (F.ad p) O) (upd H p o) vs xs :=
  l.ke (Ke.new hp) fun a z => by
    rcases z with (z | z) | z
    · exact .inl (.inl z)
    · exact .inr (by rw [z]; exact hp)
    · exact .inl (.inr z)
theorem RepK.grow1 {vs : List (List Key × V)} {xs : List (List Key × D)} {o : HO} {p : Addr} (l : RepK (Ow F O) H vs xs) (hp : H p = none) : RepK (Ow (F.ad p) O) (upd H p o) vs xs :=
  l.ke (Ke.new hp) fun a z => by
    rcases z with (z | z) | z
    · exact .inl (.inl z)
    · exact .inr (by rw [z]; exact hp)
    · exact .inl (.inr z)
theorem new_lst {Q : VK} {vs : List V} {xs : List D} (S : SR K F O env σ H) (l : RepL (Ow F O) H vs xs) (q : ∀ z H', SR K F O env σ H' → Ke (Jo O) H H' → Po .f K F O env σ H H' z (.lst xs) → Q z H') {p : Addr} (hp : H p = none) : Q (.ref p) (upd H p (.lst vs)) :=
  q _ _ (S.new' hp) (Ke.new hp) ⟨p, vs, xs, rfl, rfl, hp, upd_same, l.grow1 hp, S.ad hp⟩
theorem new_dic {Q : VK} {vs : List (List Key × V)} {xs : List (List Key × D)} (S : SR K F O env σ H) (l : RepK (Ow F O) H vs xs) (q : ∀ z H', SR K F O env σ H' → Ke (Jo O) H H' → Po .fd K F O env σ H H' z (.dic xs) → Q z H') {p : Addr} (hp : H p = none) : Q (.ref p) (upd H p (.dT vs)) :=
  q _ _ (S.new' hp) (Ke.new hp) ⟨p, vs, xs, rfl, rfl, hp, upd_same, l.grow1 hp, S.ad hp⟩
end
def rStrCat : R2 := fun x y H Q => ∃ i j, x = .str i ∧ y = .str j ∧ i.length + j.length ≤ sizeLine ∧ Q (.str (i ++ j)) H
def rAddA (K : PySem.W.Frag) : R2 := fun x y H Q => rI0 (fun i j => .int (i + j)) x y H Q ∨ rCat x y H Q ∨ rCatA K x y H Q ∨ rStrCat x y H Q
theorem op_addA : OpR X (binaryOp .Add) (rAddA X.K) := op_add.or (op_cat.or (op_catA.or op_add_str))
theorem o_add : Op2s .s X.K (rAddA X.K) dAdd := by
  intro F O env σ H x y dx dy dz Q S rx ry ef q
  unfold dAdd at ef
  cases rx with
  | int i => cases ry with
    | int j => cases ef; exact .inl ⟨i, j, rfl, rfl, q _ H S Ke.refl (.int _)⟩
    | _ => cases ef
  | str i => cases ry with
    | str j => obtain ⟨h, rfl⟩ := if_ok ef; exact .inr (.inr (.inr ⟨i, j, rfl, rfl, lenOk_of h, q _ H S Ke.refl (.str _)⟩))
    | _ => cases ef
  | lst n1 h1 l1 => cases ry with
    | lst n2 h2 l2 =>
      obtain ⟨h, rfl⟩ := if_ok ef
      refine .inr (.inl ⟨_, _, _, _, rfl, rfl, h1, h2, ?_, fun p hp => ?_⟩)
      · rw [l1.len, l2.len]; exact lenOk_of h
      · exact new_lst S (l1.app l2) (fun z H' S' k r => q z H' S' k (Po.s_of_f (K := X.K) (fun p hp => S.noW hp) r)) hp
    | _ => cases ef
  | tup n1 h1 l1 => cases ry with
    | tup n2 h2 l2 =>
      obtain ⟨h, rfl⟩ := if_ok ef
      refine .inr (.inr (.inl ⟨_, _, _, _, rfl, rfl, .inl (.inl h1), .inl (.inl h2), ?_, fun e => ?_, fun _ e => ?_, fun _ _ p hp => ?_⟩))
      · rw [l1.len, l2.len]; exact lenOk_of h
      · subst e
        cases l1
        exact q _ H S Ke.refl (.tup n2 h2 l2)
      · subst e
        cases l2
        rename_i xs
        exact q _ H S Ke.refl (by rw [List.append_nil]; exact .tup n1 h1 l1)
      · exact new_tup S (l1.app l2) q hp
    | _ => cases ef
  | _ => cases ef
theorem pd_add (ha : PD .s X Wx a ma) (hb : PD .s X Wx b mb) : PD .s X Wx (.BinOp a .Add b pos) (e2 dAdd ma mb) := pd_e2s o_add ha hb fun p q => pe_op op_addA p q
/-- a sum of lists is a new list -/
def dAddL : D → D → Rv D
  | .lst a, .lst b => if lenOk (a.length + b.length) then .ok (.lst (a ++ b)) else .bad
  | _, _ => .bad
theorem o_addL : Op2s .f X.K (rAddA X.K) dAddL := by
  intro F O env σ H x y dx dy dz Q S rx ry ef q
  unfold dAddL at ef
  cases rx with
  | lst n1 h1 l1 => cases ry with
    | lst n2 h2 l2 =>
      obtain ⟨h, rfl⟩ := if_ok ef
      refine .inr (.inl ⟨_, _, _, _, rfl, rfl, h1, h2, ?_, fun p hp => ?_⟩)
      · rw [l1.len, l2.len]; exact lenOk_of h
      · exact new_lst S (l1.app l2) q hp
    | _ => cases ef
  | _ => cases ef
theorem pd_addL (ha : PD .s X Wx a ma) (hb : PD .s X Wx b mb) : PD .f X Wx (.BinOp a .Add b pos) (e2 dAddL ma mb) := pd_e2s o_addL ha hb fun p q => pe_op op_addA p q
theorem o_sub : Op2s .s X.K (rI0 fun i j => .int (i - j)) dSub := by
  intro F O env σ H x y dx dy dz Q S rx ry ef q
  unfold dSub at ef
  cases rx with
  | int i => cases ry with
    | int j => cases ef; exact ⟨i, j, rfl, rfl, q _ H S Ke.refl (.int _)⟩
    | _ => cases ef
  | _ => cases ef
theorem pd_sub (ha : PD .s X Wx a ma) (hb : PD .s X Wx b mb) : PD .s X Wx (.BinOp a .Sub b pos) (e2 dSub ma mb) := pd_e2s o_sub ha hb fun p q => pe_op op_sub p q
theorem tuple_mul1 (l : Addr) (items : Array Value) (n : Nat) (dd : Option Addr) (sl : Array (Option Value)) (u : Tok) :
    Meets (Builtin.«tuple.__mul__» ⟨[.ref l, .int 1 u], []⟩) (fun _ R s => s.heap.get? l = some { cls := .type "tuple", dict := dd, data := .seq items n, slots := sl } ∧ R (.ok (.ret (Value.ref l))) s) :=
  .of_wp fun prog w A R s h => by
    obtain ⟨hp, g, d, tk, os⟩ := s
    obtain ⟨hl, h⟩ := h
    have f1 := AutoSeq1.idx_int
    wp_walk using wpAny_loadPart' hl
    have c0 : (decide ((1 : Int) < -(2 ^ 63)) || decide ((1 : Int) ≥ 2 ^ 63)) = false := by decide
    have c1 : (items.isEmpty || (1 : Int) == 1) = true := by simp
    repeat (first
      | (refine wpAny_ite_false (decide_eq_false (by rw [c0]; exact Bool.false_ne_true)) ?_; wp_walk using wpAny_loadPart' hl)
      | (refine wpAny_ite_true (decide_eq_true (by rw [c1])) ?_; wp_walk using wpAny_loadPart' hl))
    exact ⟨_, rfl, h⟩
def rRepT1 (K : PySem.W.Frag) : R2 := fun x y H Q => ∃ l xs, x = .ref l ∧ y = .int 1 ∧ SqT K H l xs ∧ Q (.ref l) H
theorem op_repT1 : OpR X (binaryOp .Mult) (rRepT1 X.K) := by
  intro pins s σ H x y v u Q I rx ry h
  obtain ⟨l, xs, rfl, rfl, hT, q⟩ := h
  cases rx
  obtain ⟨t, rfl⟩ := ry
  obtain ⟨its, r, ⟨⟨cls, dd, data, sl⟩, ho, hc, n, hd⟩, hs⟩ := I.tuple hT
  simp only at hc hd
  subst hc hd
  refine wpAny_binaryOp_repeat_ref (T := "tuple") (U := "int") (by decide) ⟨_, ho, rfl⟩ (fun s' => typeIs_int s' 1 t) noFill_tuple_mul F.fills_int_mul F.slot_int_rmul repeat_tuple F.slot_int_index.lookup
    (call_meets F.slot_int_rmul (typeIs_int s 1 t) F.entry_int_rmul (F.args_int_rmul_2 _ _) (int_rmul_tuple 1 t l its.toArray n dd sl)
      ⟨ho, rfl, ⟨_, ho, rfl⟩, call_meets F.slot_tuple_mul ⟨_, ho, rfl⟩ F.entry_tuple_mul (F.args_tuple_mul_2 _ _) (tuple_mul1 l its.toArray n dd sl t) ⟨ho, ?_⟩⟩)
  exact ⟨.ref l, H, I, rfl, q⟩
def CMulX (i j : Int) : Prop := CMulW i j ∨ CMul i j
theorem op_mulX : OpR X (binaryOp .Mult) (rI CMulX fun i j => .int (i * j)) := opI fun _ _ _ _ _ _ _ hc q => mul_int q (hc.elim CMulW.ok CMul.ok)
theorem mulOk_of {i j : Int} (h : mulOk i j = true) : CMulX i j := by
  unfold mulOk at h
  rw [Bool.or_eq_true, Bool.or_eq_true] at h
  rcases h with h | h | h
  · exact .inl (of_decide_eq_true h : i.natAbs.log2 + j.natAbs.log2 < 1000000)
  · have := of_decide_eq_true h; exact .inr (.inl (by omega))
  · have := of_decide_eq_true h; exact .inr (.inr (by omega))
def rMulA (K : PySem.W.Frag) : R2 := fun x y H Q => rI CMulX (fun i j => .int (i * j)) x y H Q ∨ rRep x y H Q ∨ rRepT K x y H Q ∨ rRepT1 K x y H Q
theorem op_mulA : OpR X (binaryOp .Mult) (rMulA X.K)   := op_mulX.or (op_rep.or (op_repT.or op_repT1))
theorem o_mul : Op2s .s X.K (rMulA X.K) dMul := by
  intro F O env σ H x y dx dy dz Q S rx ry ef q
  unfold dMul at ef
  cases rx with
  | int i => cases ry with
    | int j => obtain ⟨h, rfl⟩ := if_ok ef; exact .inl ⟨i, j, rfl, rfl, mulOk_of h, q _ H S Ke.refl (.int _)⟩
    | _ => cases ef
  | lst n1 h1 l1 => cases ry with
    | int k =>
      obtain ⟨h, rfl⟩ := if_ok ef
      obtain ⟨h2, h3⟩ := Bool.and_eq_true_iff.mp h
      have h4 : k.natAbs ≤ 100000 := of_decide_eq_true h2
      refine .inr (.inl ⟨_, k, _, rfl, rfl, h1, by omega, by omega, ?_, fun p hp => ?_⟩)
      · rw [l1.len]; exact lenOk_of h3
      · exact new_lst S (l1.rep k.toNat) (fun z H' S' k r => q z H' S' k (Po.s_of_f (K := X.K) (fun p hp => S.noW hp) r)) hp
    | _ => cases ef
  | tup n1 h1 l1 => cases ry with
    | int k =>
      obtain ⟨h, rfl⟩ := if_ok ef
      obtain ⟨h2, h3⟩ := Bool.and_eq_true_iff.mp h
      obtain ⟨h4, h5⟩ := Bool.and_eq_true_iff.mp h2
      have h6 : 1 ≤ k := of_decide_eq_true h4
      have h7 : k ≤ 1000 := of_decide_eq_true h5
      rename_i a vs xs
      have h8 : 0 < xs.length ∧ xs.length ≤ 1000 := by
        obtain ⟨z1, z2⟩ := Bool.and_eq_true_iff.mp h3
        exact ⟨of_decide_eq_true z1, of_decide_eq_true z2⟩
      by_cases hk : k = 1
      · subst hk
        refine .inr (.inr (.inr ⟨_, _, rfl, rfl, .inl (.inl h1), q _ H S Ke.refl ?_⟩))
        have e : rep xs 1 = xs := by unfold rep; simp
        rw [e]
        exact .tup n1 h1 l1
      · refine .inr (.inr (.inl ⟨_, k, _, rfl, rfl, .inl (.inl h1), ?_, by omega, h7, ?_, fun p hp => ?_⟩))
        · intro z
          have := l1.len
          rw [z] at this
          simp at this
          omega
        · rw [l1.len]; exact h8.2
        · exact new_tup S (l1.rep k.toNat) q hp
    | _ => cases ef
  | _ => cases ef
theorem pd_mul (ha : PD .s X Wx a ma) (hb : PD .s X Wx b mb) : PD .s X Wx (.BinOp a .Mult b pos) (e2 dMul ma mb) := pd_e2s o_mul ha hb fun p q => pe_op op_mulA p q
def dMulL : D → D → Rv D
  | .lst a, .int k => if lenOk k.natAbs && lenOk (a.length * k.toNat) then .ok (.lst (rep a k)) else .bad
  | _, _ => .bad
theorem o_mulL : Op2s .f X.K (rMulA X.K) dMulL := by
  intro F O env σ H x y dx dy dz Q S rx ry ef q
  unfold dMulL at ef
  cases rx with
  | lst n1 h1 l1 => cases ry with
    | int k =>
      obtain ⟨h, rfl⟩ := if_ok ef
      obtain ⟨h2, h3⟩ := Bool.and_eq_true_iff.mp h
      have h4 : k.natAbs ≤ 100000 := of_decide_eq_true h2
      refine .inr (.inl ⟨_, k, _, rfl, rfl, h1, by omega, by omega, ?_, fun p hp => ?_⟩)
      · rw [l1.len]; exact lenOk_of h3
      · exact new_lst S (l1.rep k.toNat) q hp
    | _ => cases ef
  | _ => cases ef
theorem pd_mulL (ha : PD .s X Wx a ma) (hb : PD .s X Wx b mb) : PD .f X Wx (.BinOp a .Mult b pos) (e2 dMulL ma mb) := pd_e2s o_mulL ha hb fun p q => pe_op op_mulA p q
theorem o_int {C : Int → Int → Prop} {g : Int → Int → Int} {f : D → D → Rv D} (h : ∀ dx dy dz, f dx dy = .ok dz → ∃ i j, dx = .int i ∧ dy = .int j ∧ C i j ∧ dz = .int (g i j)) : Op2s .s X.K (rI C fun i j => .int (g i j)) f := by
  intro F O env σ H x y dx dy dz Q S rx ry ef q
  obtain ⟨i, j, rfl, rfl, hc, rfl⟩ := h dx dy dz ef
  cases rx
  cases ry
  exact ⟨i, j, rfl, rfl, hc, q _ H S Ke.refl (.int _)⟩
theorem o_div : Op2s .s X.K (rI CDivW fun i j => .int (i / j)) dDiv := o_int fun dx dy dz h => by
  unfold dDiv at h
  split at h
  · rename_i i j
    obtain ⟨h1, rfl⟩ := if_ok h
    obtain ⟨h2, h3⟩ := Bool.and_eq_true_iff.mp h1
    exact ⟨i, j, rfl, rfl, ⟨of_decide_eq_true h2, of_decide_eq_true h3⟩, rfl⟩
  · cases h
theorem pd_div (ha : PD .s X Wx a ma) (hb : PD .s X Wx b mb) : PD .s X Wx (.BinOp a .FloorDiv b pos) (e2 dDiv ma mb) := pd_e2s o_div ha hb fun p q => pe_op op_fdivW p q
theorem o_mod : Op2s .s X.K (rI (fun _ j => 0 < j) fun i j => .int (i % j)) dMod := o_int fun dx dy dz h => by
  unfold dMod at h
  split at h
  · rename_i i j
    obtain ⟨h1, rfl⟩ := if_ok h
    exact ⟨i, j, rfl, rfl, of_decide_eq_true h1, rfl⟩
  · cases h
theorem pd_mod (ha : PD .s X Wx a ma) (hb : PD .s X Wx b mb) : PD .s X Wx (.BinOp a .Mod b pos) (e2 dMod ma mb) := pd_e2s o_mod ha hb fun p q => pe_op op_mod p q
theorem o_pow : Op2s .s X.K (rI CPow fun i j => .int (i ^ j.toNat)) dPow := o_int fun dx dy dz h => by
  unfold dPow at h
  split at h
  · rename_i i j
    obtain ⟨h1, rfl⟩ := if_ok h
    obtain ⟨h2, h3⟩ := Bool.and_eq_true_iff.mp h1
    obtain ⟨h4, h5⟩ := Bool.and_eq_true_iff.mp h2
    exact ⟨i, j, rfl, rfl, ⟨of_decide_eq_true h4, of_decide_eq_true h5, of_decide_eq_true h3⟩, rfl⟩
  · cases h
theorem pd_pow (ha : PD .s X Wx a ma) (hb : PD .s X Wx b mb) : PD .s X Wx (.BinOp a .Pow b pos) (e2 dPow ma mb) := pd_e2s o_pow ha hb fun p q => pe_op op_pow p q
theorem o_neg : Op1 .s X.K (rU fun i => .int (-i)) dNeg := by
  intro F O env σ H x dx dz Q S rx ef q
  unfold dNeg at ef
  split at ef
  · rename_i i
    cases ef
    exact ⟨i, rx.int', q _ H S Ke.refl (.int _)⟩
  · cases ef
theorem pd_neg (ha : PD .s X Wx a ma) : PD .s X Wx (.UnaryOp .USub a pos) (e1 dNeg ma) := pd_e1 o_neg ha.weak fun p => pe_un un_neg p
end
end AH
namespace AH
open PySem PySem.Spec PyProof.Rows L2
/-! ### data as the library's -/
mutual
def D.toP : D → PyData
  | .non => .none
  | .bl b => .bool b
  | .int i => .int i
  | .str s => .str s
  | .tup xs => .tuple (D.toPs xs)
  | .lst xs => .list (D.toPs xs)
  | _ => .none
def D.toPs : List D → List PyData
  | [] => []
  | x :: xs => D.toP x :: D.toPs xs
end
mutual
theorem D.eqv_toP : ∀ {n m : Nat} {x y : D}, x.plain n = true → y.plain m = true → PyData.eqv x.toP y.toP = x.eqv y
  | n, m, .non, y, h, h' => by cases y <;> first | rfl | (cases m <;> cases h')
  | n, m, .bl _, y, h, h' => by cases y <;> first | rfl | (cases m <;> cases h')
  | n, m, .int _, y, h, h' => by cases y <;> first | rfl | (cases m <;> cases h')
  | n, m, .str _, y, h, h' => by cases y <;> first | rfl | (cases m <;> cases h')
  | 0, m, .tup xs, y, h, h' => by cases h
  | 0, m, .lst xs, y, h, h' => by cases h
  | n + 1, 0, .tup xs, y, h, h' => by cases y <;> first | rfl | cases h'
  | n + 1, 0, .lst xs, y, h, h' => by cases y <;> first | rfl | cases h'
  | n + 1, m + 1, .tup xs, y, h, h' => by
    cases y with
    | tup ys => exact D.eqvL_toP (n := n) (m := m) (xs := xs) (ys := ys) h h'
    | _ => first | rfl | cases h'
  | n + 1, m + 1, .lst xs, y, h, h' => by
    cases y with
    | lst ys => exact D.eqvL_toP (n := n) (m := m) (xs := xs) (ys := ys) h h'
    | _ => first | rfl | cases h'
  | n, m, .dic _, y, h, h' => by cases n <;> cases h
  | n, m, .exc _ _ _, y, h, h' => by cases n <;> cases h
  | n, m, .obj _, y, h, h' => by cases n <;> cases h
theorem D.eqvL_toP : ∀ {n m : Nat} {xs ys : List D}, D.plainL n xs = true → D.plainL m ys = true → PyData.eqvAll (D.toPs xs) (D.toPs ys) = D.eqvL xs ys
  | n, m, [], [], h, h' => rfl
  | n, m, [], y :: ys, h, h' => rfl
  | n, m, x :: xs, [], h, h' => rfl
  | n, m, x :: xs, y :: ys, h, h' => by
    have h1 : x.plain n = true ∧ D.plainL n xs = true := Bool.and_eq_true_iff.mp h
    have h2 : y.plain m = true ∧ D.plainL m ys = true := Bool.and_eq_true_iff.mp h'
    show (PyData.eqv x.toP y.toP && PyData.eqvAll (D.toPs xs) (D.toPs ys)) = (D.eqv x y && D.eqvL xs ys)
    rw [D.eqv_toP h1.1 h2.1, D.eqvL_toP h1.2 h2.2]
end
mutual
theorem D.can_toP : ∀ {n : Nat} {x : D}, x.plain n = true → x.toP.canLay0 = true ∧ x.toP.depth ≤ n
  | n, .non, h => ⟨rfl, Nat.zero_le _⟩
  | n, .bl _, h => ⟨rfl, Nat.zero_le _⟩
  | n, .int _, h => ⟨rfl, Nat.zero_le _⟩
  | n, .str s, h => ⟨by cases n <;> exact h, Nat.zero_le _⟩
  | 0, .tup xs, h => by cases h
  | 0, .lst xs, h => by cases h
  | n + 1, .tup xs, h => let ⟨a, b⟩ := D.canL_toP (n := n) (xs := xs) h; ⟨a, Nat.succ_le_succ b⟩
  | n + 1, .lst xs, h => let ⟨a, b⟩ := D.canL_toP (n := n) (xs := xs) h; ⟨a, Nat.succ_le_succ b⟩
  | n, .dic _, h => by cases n <;> cases h
  | n, .exc _ _ _, h => by cases n <;> cases h
  | n, .obj _, h => by cases n <;> cases h
theorem D.canL_toP : ∀ {n : Nat} {xs : List D}, D.plainL n xs = true → PyData.canLayAll0 (D.toPs xs) = true ∧ PyData.depthAll (D.toPs xs) ≤ n
  | n, [], h => ⟨rfl, Nat.zero_le _⟩
  | n, x :: xs, h => by
    have h1 : x.plain n = true ∧ D.plainL n xs = true := Bool.and_eq_true_iff.mp h
    obtain ⟨a, b⟩ := D.can_toP h1.1
    obtain ⟨c, d⟩ := D.canL_toP h1.2
    exact ⟨Bool.and_eq_true_iff.mpr ⟨a, c⟩, Nat.max_le.mpr ⟨b, d⟩⟩
end
theorem D.shaped {x : D} (h : x.plain 40 = true) : SeqAt.shaped x.toP = true := by
  obtain ⟨a, b⟩ := D.can_toP h
  unfold SeqAt.shaped
  rw [a]
  exact decide_eq_true (Nat.le_trans b (by decide))
mutual
theorem Rep.dp {K : PySem.W.Frag} {W : Pr} {H : Hp} : ∀ {n : Nat} {v : V} {x : D}, Rep W H v x → x.plain n = true → Dp K H v x.toP
  | n, _, _, .non, _ => .non
  | n, _, _, .bl b, _ => .bl b
  | n, _, _, .int b, _ => .int b
  | n, _, _, .str b, _ => .str b
  | n + 1, _, _, .tup _ h l, p => .tup (.inl (.inl h)) (RepL.dp (n := n) l p)
  | n + 1, _, _, .lst _ h l, p => .lst (.inl (.inl h)) (RepL.dp (n := n) l p)
  | 0, _, _, .tup _ h l, p => nomatch p
  | 0, _, _, .lst _ h l, p => nomatch p
  | 0, _, _, .dic _ h l, p => nomatch p
  | n + 1, _, _, .dic _ h l, p => nomatch p
theorem RepL.dp {K : PySem.W.Frag} {W : Pr} {H : Hp} : ∀ {n : Nat} {v : List V} {x : List D}, RepL W H v x → D.plainL n x = true → DpAll K H v (D.toPs x)
  | n, _, _, .nil, _ => .nil
  | n, _, _, .cons r l, p => .cons (Rep.dp r (Bool.and_eq_true_iff.mp p).1) (RepL.dp l (Bool.and_eq_true_iff.mp p).2)
end
theorem RepW.dp {K : PySem.W.Frag} {W : Pr} {H : Hp} {n : Nat} {v : V} {x : D} (r : RepW K W H v x) (p : x.plain n = true) : Dp K H v x.toP := by
  cases r with
  | of r => exact r.dp p
  | tup s l => cases n with
    | zero => cases p
    | succ n => exact .tup s (RepL.dp (n := n) l p)
  | lst s l => cases n with
    | zero => cases p
    | succ n => exact .lst s (RepL.dp (n := n) l p)
  | dic s l => cases n <;> cases p
theorem toPs_any (d : D) (n m : Nat) (hd : d.plain n = true) : ∀ ys : List D, D.plainL m ys = true → ((D.toPs ys).any fun z => PyData.eqv z d.toP) = ys.any fun y => y.eqv d
  | [], _ => rfl
  | y :: ys, h => by
    have h1 : y.plain m = true ∧ D.plainL m ys = true := Bool.and_eq_true_iff.mp h
    show (PyData.eqv y.toP d.toP || (D.toPs ys).any fun z => PyData.eqv z d.toP) = (y.eqv d || ys.any fun y => y.eqv d)
    rw [D.eqv_toP h1.1 hd, toPs_any d n m hd ys h1.2]
section
variable {X : Cx} {Wx : WX} {e a b c d : Expr} {ma mb mc md : DE} {pos : Pos}
/-! ### comparisons -/
def Oc (K : PySem.W.Frag) (r : R2) (f : D → D → Rv Bool) : Prop := ∀ (W : Pr) (H : Hp) (x y : V) (dx dy : D) (b : Bool) (Q : VK),
  RepW K W H x dx → RepW K W H y dy → f dx dy = .ok b → Q (.bl b) H → r x y H Q
theorem oc_eq : Oc X.K (rEqD X.K) dEq := by
  intro W H x y dx dy b Q rx ry ef q
  unfold dEq at ef
  obtain ⟨h, rfl⟩ := if_ok ef
  obtain ⟨h1, h2⟩ := Bool.and_eq_true_iff.mp h
  exact ⟨_, _, rx.dp h1, ry.dp h2, D.shaped h1, D.shaped h2, by rw [D.eqv_toP h1 h2]; exact q⟩
theorem oc_ne : Oc X.K (rNeD X.K) dNe := by
  intro W H x y dx dy b Q rx ry ef q
  unfold dNe at ef
  obtain ⟨h, rfl⟩ := if_ok ef
  obtain ⟨h1, h2⟩ := Bool.and_eq_true_iff.mp h
  exact ⟨_, _, rx.dp h1, ry.dp h2, D.shaped h1, D.shaped h2, by rw [D.eqv_toP h1 h2]; exact q⟩
def rLtA (K : PySem.W.Frag) : R2 := fun x y H Q => rI0 (fun i j => .bl (decide (i < j))) x y H Q ∨ rLtT K x y H Q
theorem op_ltA (hu : X.A.units + 65 < cLine) : OpR X (compareOp .Lt) (rLtA X.K) := op_lt.or (op_ltT (by omega))
theorem oc_lt : Oc X.K (rLtA X.K) dLt := by
  intro W H x y dx dy b Q rx ry ef q
  unfold dLt at ef
  split at ef
  · cases ef; exact .inl ⟨_, _, rx.int', ry.int', q⟩
  · rename_i as bs
    obtain ⟨a1, vs1, rfl, s1, l1⟩ := rx.tup'
    obtain ⟨a2, vs2, rfl, s2, l2⟩ := ry.tup'
    split at ef
    · rename_i ns ms h1 h2
      cases ef
      refine .inr ⟨a1, a2, ns, ms, rfl, rfl, ?_, ?_, q⟩
      · rw [← l1.ints h1]; exact s1
      · rw [← l2.ints h2]; exact s2
    · cases ef
  · cases ef
theorem oc_int {p : Int → Int → Bool} {f : D → D → Rv Bool} (h : ∀ dx dy b, f dx dy = .ok b → ∃ i j, dx = .int i ∧ dy = .int j ∧ b = p i j) : Oc X.K (rI0 fun i j => .bl (p i j)) f := by
  intro W H x y dx dy b Q rx ry ef q
  obtain ⟨i, j, rfl, rfl, rfl⟩ := h dx dy b ef
  exact ⟨i, j, rx.int', ry.int', q⟩
theorem lexAt_shift {e r : Nat → Bool} {z : Bool} : ∀ n i : Nat, Ob.lexAt e r z (i + 1) n = Ob.lexAt (fun j => e (j + 1)) (fun j => r (j + 1)) z i n
  | 0, _ => rfl
  | n + 1, i => by rw [Ob.lexAt_succ, Ob.lexAt_succ, lexAt_shift n (i + 1)]
theorem lexAt_le : ∀ ns ms : List Int, Ob.lexAt (fun j => decide (ns.getD j 0 = ms.getD j 0)) (fun j => decide (ns.getD j 0 ≤ ms.getD j 0)) (decide (ns.length ≤ ms.length)) 0 (min ns.length ms.length) = lexLeI ns ms
  | [], ms => by rw [show min ([] : List Int).length ms.length = 0 from Nat.zero_min _]; exact decide_eq_true (Nat.zero_le _)
  | x :: xs, [] => by rfl
  | x :: xs, y :: ys => by
    rw [show min (x :: xs).length (y :: ys).length = min xs.length ys.length + 1 by simp, Ob.lexAt_succ, lexAt_shift]
    have ih := lexAt_le xs ys
    unfold lexLeI
    have e1 : decide ((x :: xs).length ≤ (y :: ys).length) = decide (xs.length ≤ ys.length) := by simp
    rw [e1]
    by_cases h : x = y
    · rw [if_pos h, if_pos (by simpa using h)]; exact ih
    · rw [if_neg h, if_neg (by simpa using h)]; rfl
def rLeA (K : PySem.W.Frag) : R2 := fun x y H Q => rI0 (fun i j => .bl (decide (i ≤ j))) x y H Q ∨ rLeT K x y H Q
theorem op_leA (hu : X.A.units + 65 < cLine) : OpR X (compareOp .LtE) (rLeA X.K) := op_le.or (op_leT (by omega))
theorem oc_le : Oc X.K (rLeA X.K) dLe := by
  intro W H x y dx dy b Q rx ry ef q
  unfold dLe at ef
  split at ef
  · cases ef; exact .inl ⟨_, _, rx.int', ry.int', q⟩
  · rename_i as bs
    obtain ⟨a1, vs1, rfl, s1, l1⟩ := rx.tup'
    obtain ⟨a2, vs2, rfl, s2, l2⟩ := ry.tup'
    split at ef
    · rename_i ns ms h1 h2
      cases ef
      refine .inr ⟨a1, a2, ns, ms, rfl, rfl, ?_, ?_, ?_⟩
      · rw [← l1.ints h1]; exact s1
      · rw [← l2.ints h2]; exact s2
      · rw [lexAt_le]; exact q
    · cases ef
  · cases ef
theorem oc_gt : Oc X.K (rI0 fun i j => .bl (decide (j < i))) dGt := oc_int fun dx dy b h => by
  unfold dGt at h
  split at h
  · cases h; exact ⟨_, _, rfl, rfl, rfl⟩
  · cases h
theorem oc_ge : Oc X.K (rI0 fun i j => .bl (decide (j ≤ i))) dGe := oc_int fun dx dy b h => by
  unfold dGe at h
  split at h
  · cases h; exact ⟨_, _, rfl, rfl, rfl⟩
  · cases h
/-- a comparison's rule and its word -/
structure CmpK (X : Cx) (op : CmpOp) (f : D → D → Rv Bool) : Prop where
  ok : ∃ r : R2, OpR X (compareOp op) r ∧ Oc X.K r f
theorem ck_eq (hu : X.A.units + 65 < cLine) : CmpK X .Eq dEq := ⟨_, op_eqD (by omega), oc_eq⟩
theorem ck_ne (hu : X.A.units + 65 < cLine) : CmpK X .NotEq dNe := ⟨_, op_neD (by omega), oc_ne⟩
theorem ck_lt (hu : X.A.units + 65 < cLine) : CmpK X .Lt dLt := ⟨_, op_ltA hu, oc_lt⟩
theorem ck_le (hu : X.A.units + 65 < cLine) : CmpK X .LtE dLe := ⟨_, op_leA hu, oc_le⟩
theorem ck_gt : CmpK X .Gt dGt := ⟨_, op_gt, oc_gt⟩
theorem ck_ge : CmpK X .GtE dGe := ⟨_, op_ge, oc_ge⟩
theorem pd_cmp {op : CmpOp} {f : D → D → Rv Bool} (ck : CmpK X op f) (ha : PD .s X Wx a ma) (hb : PD .w X Wx b mb) (hm : behindInMarks op b = false) : PD .s X Wx (.Compare a [op] [b] pos) (eB (c2 f ma mb)) := by
  obtain ⟨⟨r, ho, oc⟩⟩ := ck
  obtain ⟨ta, pa, qa⟩ := ha
  obtain ⟨tb, pb, qb⟩ := hb
  refine ⟨_, pe_cmpR ho pa pb hm, fun F O env σ H Q S w => ?_⟩
  have w := w.bind
  refine qa F O env σ H _ S (w.bind.imp (fun dx e1 w1 x H1 S1 k1 p1 => ?_) fun _ _ _ z => z)
  refine qb F O e1 σ H1 _ S1 (w1.bind.imp (fun dy e2 w2 y H2 S2 k2 p2 => ?_) (XW.later k1))
  obtain ⟨dz, ef, q⟩ := w2.of
  exact oc _ H2 x y dx dy dz Q (.of (Rep.mj k2 p1)) p2 ef (q _ H2 S2 (k1.trans k2) (.bl _))
theorem td_cmp {op : CmpOp} {f : D → D → Rv Bool} (ck : CmpK X op f) (ha : PD .s X Wx a ma) (hb : PD .w X Wx b mb) (hm : behindInMarks op b = false) : TD X Wx (.Compare a [op] [b] pos) (c2 f ma mb) := by
  obtain ⟨⟨r, ho, oc⟩⟩ := ck
  obtain ⟨ta, pa, qa⟩ := ha
  obtain ⟨tb, pb, qb⟩ := hb
  refine ⟨_, pt_cmpR ho pa pb hm, fun F O env σ H Q S w => ?_⟩
  refine qa F O env σ H _ S (w.bind.imp (fun dx e1 w1 x H1 S1 k1 p1 => ?_) fun _ _ _ z => z)
  refine qb F O e1 σ H1 _ S1 (w1.bind.imp (fun dy e2 w2 y H2 S2 k2 p2 => ?_) (XW.later k1))
  obtain ⟨dz, ef, q⟩ := w2.of
  exact oc _ H2 x y dx dy dz _ (.of (Rep.mj k2 p1)) p2 ef ⟨dz, rfl, q H2 S2 (k1.trans k2)⟩
/-- .. with a name's own object at the left -/
theorem pd_cmpL {op : CmpOp} {f : D → D → Rv Bool} {i : Nat} {x : Str} {p : Pos} (ck : CmpK X op f) (hN : X.N[i]? = some x) (hv : Vis X.env.scope x) (hb : PD .w X Wx b mb) (hm : behindInMarks op b = false)
    (hd : (x == ("__debug__" : Str)) = false := by decide) (hcd : (x == ("__classdict__" : Str)) = false := by decide) : PD .s X Wx (.Compare (.Name x p) [op] [b] pos) (eB (c2L f i mb)) := by
  obtain ⟨⟨r, ho, oc⟩⟩ := ck
  obtain ⟨tb, pb, qb⟩ := hb
  refine ⟨_, pe_cmpR ho (pe_var hN hv hd hcd) pb hm, fun F O env σ H Q S w => ?_⟩
  have w := w.bind
  obtain ⟨v, d, e, r, w⟩ := w.bind.tmp S
  refine ⟨v, get1_some e, ?_⟩
  refine qb F O env σ H _ S (w.bind.imp (fun dy e2 w2 y H2 S2 k2 p2 => ?_) fun _ _ _ z => z)
  obtain ⟨v', dx, ex, rx, w3⟩ := w2.bind.tmp S2
  obtain rfl : v' = v := Option.some.inj (ex.symm.trans e)
  obtain ⟨dz, ef, q⟩ := w3.of
  exact oc _ H2 v' y dx dy dz Q rx p2 ef (q _ H2 S2 k2 (.bl _))
theorem td_cmpL {op : CmpOp} {f : D → D → Rv Bool} {i : Nat} {x : Str} {p : Pos} (ck : CmpK X op f) (hN : X.N[i]? = some x) (hv : Vis X.env.scope x) (hb : PD .w X Wx b mb) (hm : behindInMarks op b = false)
    (hd : (x == ("__debug__" : Str)) = false := by decide) (hcd : (x == ("__classdict__" : Str)) = false := by decide) : TD X Wx (.Compare (.Name x p) [op] [b] pos) (c2L f i mb) := by
  obtain ⟨⟨r, ho, oc⟩⟩ := ck
  obtain ⟨tb, pb, qb⟩ := hb
  refine ⟨_, pt_cmpR ho (pe_var hN hv hd hcd) pb hm, fun F O env σ H Q S w => ?_⟩
  obtain ⟨v, d, e, r, w⟩ := w.bind.tmp S
  refine ⟨v, get1_some e, ?_⟩
  refine qb F O env σ H _ S (w.bind.imp (fun dy e2 w2 y H2 S2 k2 p2 => ?_) fun _ _ _ z => z)
  obtain ⟨v', dx, ex, rx, w3⟩ := w2.bind.tmp S2
  obtain rfl : v' = v := Option.some.inj (ex.symm.trans e)
  obtain ⟨dz, ef, q⟩ := w3.of
  exact oc _ H2 v' y dx dy dz _ rx p2 ef ⟨dz, rfl, q H2 S2 k2⟩
/-- is None -/
theorem isN_dec {K : PySem.W.Frag} {W : Pr} {H : Hp} {v : V} {d : D} (r : RepW K W H v d) : decide (v = .non) = dIsN d := by
  cases r with
  | of r => cases r <;> first | rfl | exact decide_eq_false (fun z => nomatch z)
  | _ => exact decide_eq_false (fun z => nomatch z)
theorem pd_isN {j : Nat} {p : Pos} (ha : PD .w X Wx a ma) : PD .s X Wx (.Compare a [.Is] [.Constant .none j p] pos) (eB (tIsN ma)) := by
  obtain ⟨ta, pa, qa⟩ := ha
  refine ⟨_, pe_cmp (pc_isN pa), fun F O env σ H Q S w => ?_⟩
  refine qa F O env σ H _ S (w.bind.bind.imp (fun dx e1 w1 x H1 S1 k1 p1 => ?_) fun _ _ _ z => z)
  rw [isN_dec p1]
  exact w1 _ H1 S1 k1 (.bl _)
theorem td_isN {j : Nat} {p : Pos} (ha : PD .w X Wx a ma) : TD X Wx (.Compare a [.Is] [.Constant .none j p] pos) (tIsN ma) := by
  obtain ⟨ta, pa, qa⟩ := ha
  refine ⟨_, pt_cmp (pc_isN pa), fun F O env σ H Q S w => ?_⟩
  refine qa F O env σ H _ S (w.bind.imp (fun dx e1 w1 x H1 S1 k1 p1 => ?_) fun _ _ _ z => z)
  rw [isN_dec p1]
  exact ⟨_, rfl, w1 H1 S1 k1⟩
theorem pd_notN {j : Nat} {p : Pos} (ha : PD .w X Wx a ma) : PD .s X Wx (.Compare a [.IsNot] [.Constant .none j p] pos) (eB (tNotN ma)) := by
  obtain ⟨ta, pa, qa⟩ := ha
  refine ⟨_, pe_cmp (pc_notN pa), fun F O env σ H Q S w => ?_⟩
  refine qa F O env σ H _ S (w.bind.bind.imp (fun dx e1 w1 x H1 S1 k1 p1 => ?_) fun _ _ _ z => z)
  rw [isN_dec p1]
  exact w1 _ H1 S1 k1 (.bl _)
theorem td_notN {j : Nat} {p : Pos} (ha : PD .w X Wx a ma) : TD X Wx (.Compare a [.IsNot] [.Constant .none j p] pos) (tNotN ma) := by
  obtain ⟨ta, pa, qa⟩ := ha
  refine ⟨_, pt_cmp (pc_notN pa), fun F O env σ H Q S w => ?_⟩
  refine qa F O env σ H _ S (w.bind.imp (fun dx e1 w1 x H1 S1 k1 p1 => ?_) fun _ _ _ z => z)
  rw [isN_dec p1]
  exact ⟨_, rfl, w1 H1 S1 k1⟩
/-! ### chains -/
theorem pd_chain {op op' : CmpOp} {f g : D → D → Rv Bool} (ck : CmpK X op f) (ck' : CmpK X op' g) (ha : PD .s X Wx a ma) (hb : PD .s X Wx b mb) (hc : PD .w X Wx c mc)
    (hm : lastMarks [op, op'] [b, c] = false := by with_unfolding_all rfl) : PD .s X Wx (.Compare a [op, op'] [b, c] pos) (eB (c3 f g ma mb mc)) := by
  obtain ⟨⟨r, ho, oc⟩⟩ := ck
  obtain ⟨⟨r', ho', oc'⟩⟩ := ck'
  obtain ⟨ta, pa, qa⟩ := ha
  obtain ⟨tb, pb, qb⟩ := hb
  obtain ⟨tc, pc, qc⟩ := hc
  refine ⟨_, pe_chain ho ho' pa pb pc hm, fun F O env σ H Q S w => ?_⟩
  have w := w.bind
  refine qa F O env σ H _ S (w.bind.imp (fun dx e1 w1 x H1 S1 k1 p1 => ?_) fun _ _ _ z => z)
  refine qb F O e1 σ H1 _ S1 (w1.bind.imp (fun dy e2 w2 y H2 S2 k2 p2 => ?_) (XW.later k1))
  obtain ⟨k, ef, w3⟩ := w2.bind.of
  refine oc _ H2 x y dx dy k _ (.of (Rep.mj k2 p1)) (.of p2) ef ⟨k, rfl, ?_⟩
  cases k with
  | false => exact w3 _ H2 S2 (k1.trans k2) (.bl _)
  | true =>
    refine qc F O e2 σ H2 _ S2 (w3.bind.imp (fun dz e3 w4 z H3 S3 k3 p3 => ?_) (XW.later (k1.trans k2)))
    obtain ⟨l, eg, q⟩ := w4.of
    exact oc' _ H3 y z dy dz l Q (.of (Rep.mj k3 p2)) p3 eg (q _ H3 S3 (k1.trans (k2.trans k3)) (.bl _))
theorem td_chain {op op' : CmpOp} {f g : D → D → Rv Bool} (ck : CmpK X op f) (ck' : CmpK X op' g) (ha : PD .s X Wx a ma) (hb : PD .s X Wx b mb) (hc : PD .w X Wx c mc)
    (hm : lastMarks [op, op'] [b, c] = false := by with_unfolding_all rfl) : TD X Wx (.Compare a [op, op'] [b, c] pos) (c3 f g ma mb mc) := by
  obtain ⟨⟨r, ho, oc⟩⟩ := ck
  obtain ⟨⟨r', ho', oc'⟩⟩ := ck'
  obtain ⟨ta, pa, qa⟩ := ha
  obtain ⟨tb, pb, qb⟩ := hb
  obtain ⟨tc, pc, qc⟩ := hc
  refine ⟨_, pt_chain ho ho' pa pb pc hm, fun F O env σ H Q S w => ?_⟩
  refine qa F O env σ H _ S (w.bind.imp (fun dx e1 w1 x H1 S1 k1 p1 => ?_) fun _ _ _ z => z)
  refine qb F O e1 σ H1 _ S1 (w1.bind.imp (fun dy e2 w2 y H2 S2 k2 p2 => ?_) (XW.later k1))
  obtain ⟨k, ef, w3⟩ := w2.bind.of
  refine oc _ H2 x y dx dy k _ (.of (Rep.mj k2 p1)) (.of p2) ef ⟨k, rfl, ?_⟩
  cases k with
  | false => exact ⟨false, rfl, w3 H2 S2 (k1.trans k2)⟩
  | true =>
    refine qc F O e2 σ H2 _ S2 (w3.bind.imp (fun dz e3 w4 z H3 S3 k3 p3 => ?_) (XW.later (k1.trans k2)))
    obtain ⟨l, eg, q⟩ := w4.of
    exact oc' _ H3 y z dy dz l _ (.of (Rep.mj k3 p2)) p3 eg ⟨l, rfl, q H3 S3 (k1.trans (k2.trans k3))⟩
end
end AH
namespace AH
open PySem PySem.Spec PyProof.Rows L2
section
variable {X : Cx} {Wx : WX} {e a b c d : Expr} {ma mb mc md : DE} {pos : Pos}
/-! ### a < b < c < d -/
def tChain4 (r r' r'' : R2) (ta tb tc td : TE) : TE := fun σ H Q => ta σ H fun x H1 => tb σ H1 fun y H2 => r x y H2 fun z H3 => ∃ k, z = .bl k ∧
  (if k = true then tc σ H3 fun z H4 => r' y z H4 fun z2 H5 => ∃ k, z2 = .bl k ∧ (if k = true then td σ H5 fun u H6 => r'' z u H6 Q else Q (.bl false) H5) else Q (.bl false) H3)
theorem pe_chain4 {op op' op'' : CmpOp} {r r' r'' : R2} {ta tb tc td : TE} (ho : OpR X (compareOp op) r) (ho' : OpR X (compareOp op') r') (ho'' : OpR X (compareOp op'') r'') (ha : PE X a ta) (hb : PE X b tb) (hc : PE X c tc) (hd : PE X d td)
    (hm : lastMarks [op, op', op''] [b, c, d] = false := by with_unfolding_all rfl) : PE X (.Compare a [op, op', op''] [b, c, d] pos) (tChain4 r r' r'' ta tb tc td) := by
  refine ⟨fun pins s σ H Q I h => ?_⟩
  refine Compare_chain (thn (ha.run pins s σ H _ I h) fun v s1 ⟨x, H1, I1, r1, q1⟩ => chain_link (thn (hb.run pins s1 σ H1 _ I1 q1) fun u s2 ⟨y, H2, I2, r2, q2⟩ =>
    thn (ho pins s2 σ H2 x y v u _ I2 r1 r2 q2) fun d s3 ⟨z, H3, I3, r3, k, e, q3⟩ => ?_)) hm
  subst e
  cases r3
  refine wpAny_truthy_bool ?_
  cases k with
  | false => exact ite_ff ⟨.bl false, H3, I3, rfl, q3⟩
  | true =>
    refine ite_tt (chain_link (thn (hc.run pins s3 σ H3 _ I3 q3) fun u2 s4 ⟨y2, H4, I4, r4, q4⟩ => thn (ho' pins s4 σ H4 y y2 u u2 _ I4 r2 r4 q4) fun d2 s5 ⟨z2, H5, I5, r5, k2, e2, q5⟩ => ?_))
    subst e2
    cases r5
    refine wpAny_truthy_bool ?_
    cases k2 with
    | false => exact ite_ff ⟨.bl false, H5, I5, rfl, q5⟩
    | true => exact ite_tt (chain_last (thn (hd.run pins s5 σ H5 _ I5 q5) fun w' s6 ⟨z', H6, I6, r6, q6⟩ => ho'' pins s6 σ H6 y2 z' u2 w' Q I6 r4 r6 q6))
theorem pt_chain4 {op op' op'' : CmpOp} {r r' r'' : R2} {ta tb tc td : TE} (ho : OpR X (compareOp op) r) (ho' : OpR X (compareOp op') r') (ho'' : OpR X (compareOp op'') r'') (ha : PE X a ta) (hb : PE X b tb) (hc : PE X c tc) (hd : PE X d td)
    (hm : lastMarks [op, op', op''] [b, c, d] = false := by with_unfolding_all rfl) : PT X (.Compare a [op, op', op''] [b, c, d] pos) (tTest (tChain4 r r' r'' ta tb tc td)) := by
  refine ⟨fun pins s σ H Q I h => ?_⟩
  refine isTrue_chain (thn (ha.run pins s σ H _ I h) fun v s1 ⟨x, H1, I1, r1, q1⟩ => test_link (thn (hb.run pins s1 σ H1 _ I1 q1) fun u s2 ⟨y, H2, I2, r2, q2⟩ =>
    thn (ho pins s2 σ H2 x y v u _ I2 r1 r2 q2) fun d s3 ⟨z, H3, I3, r3, k, e, q3⟩ => ?_)) hm
  subst e
  cases r3
  refine wpAny_truthy_bool ?_
  cases k with
  | false =>
    obtain ⟨k', e', q'⟩ := q3
    cases e'
    exact ite_ff ⟨H3, I3, q'⟩
  | true =>
    refine ite_tt (test_link (thn (hc.run pins s3 σ H3 _ I3 q3) fun u2 s4 ⟨y2, H4, I4, r4, q4⟩ => thn (ho' pins s4 σ H4 y y2 u u2 _ I4 r2 r4 q4) fun d2 s5 ⟨z2, H5, I5, r5, k2, e2, q5⟩ => ?_))
    subst e2
    cases r5
    refine wpAny_truthy_bool ?_
    cases k2 with
    | false =>
      obtain ⟨k', e', q'⟩ := q5
      cases e'
      exact ite_ff ⟨H5, I5, q'⟩
    | true =>
      refine ite_tt (test_last (thn (hd.run pins s5 σ H5 _ I5 q5) fun w' s6 ⟨z', H6, I6, r6, q6⟩ => thn (ho'' pins s6 σ H6 y2 z' u2 w' _ I6 r4 r6 q6) fun d' s7 ⟨z7, H7, I7, r7, k7, e7, q7⟩ => ?_))
      subst e7
      cases r7
      exact wpAny_truthy_bool ⟨H7, I7, q7⟩
theorem td_chain4 {op op' op'' : CmpOp} {f g h : D → D → Rv Bool} (ck : CmpK X op f) (ck' : CmpK X op' g) (ck'' : CmpK X op'' h) (ha : PD .s X Wx a ma) (hb : PD .s X Wx b mb) (hc : PD .s X Wx c mc) (hd : PD .w X Wx d md)
    (hm : lastMarks [op, op', op''] [b, c, d] = false := by with_unfolding_all rfl) : TD X Wx (.Compare a [op, op', op''] [b, c, d] pos) (c4 f g h ma mb mc md) := by
  obtain ⟨⟨r, ho, oc⟩⟩ := ck
  obtain ⟨⟨r', ho', oc'⟩⟩ := ck'
  obtain ⟨⟨r'', ho'', oc''⟩⟩ := ck''
  obtain ⟨ta, pa, qa⟩ := ha
  obtain ⟨tb, pb, qb⟩ := hb
  obtain ⟨tc, pc, qc⟩ := hc
  obtain ⟨td, pd, qd⟩ := hd
  refine ⟨_, pt_chain4 ho ho' ho'' pa pb pc pd hm, fun F O env σ H Q S w => ?_⟩
  refine qa F O env σ H _ S (w.bind.imp (fun dx e1 w1 x H1 S1 k1 p1 => ?_) fun _ _ _ z => z)
  refine qb F O e1 σ H1 _ S1 (w1.bind.imp (fun dy e2 w2 y H2 S2 k2 p2 => ?_) (XW.later k1))
  obtain ⟨k, ef, w3⟩ := w2.bind.of
  refine oc _ H2 x y dx dy k _ (.of (Rep.mj k2 p1)) (.of p2) ef ⟨k, rfl, ?_⟩
  cases k with
  | false => exact ⟨false, rfl, w3 H2 S2 (k1.trans k2)⟩
  | true =>
    refine qc F O e2 σ H2 _ S2 (w3.bind.imp (fun dz e3 w4 z H3 S3 k3 p3 => ?_) (XW.later (k1.trans k2)))
    obtain ⟨l, eg, w5⟩ := w4.bind.of
    refine oc' _ H3 y z dy dz l _ (.of (Rep.mj k3 p2)) (.of p3) eg ⟨l, rfl, ?_⟩
    cases l with
    | false => exact ⟨false, rfl, w5 H3 S3 (k1.trans (k2.trans k3))⟩
    | true =>
      refine qd F O e3 σ H3 _ S3 (w5.bind.imp (fun du e4 w6 u H4 S4 k4 p4 => ?_) (XW.later (k1.trans (k2.trans k3))))
      obtain ⟨m, eh, q⟩ := w6.of
      exact oc'' _ H4 z u dz du m _ (.of (Rep.mj k4 p3)) p4 eh ⟨m, rfl, q H4 S4 (k1.trans (k2.trans (k3.trans k4)))⟩
theorem pd_chain4 {op op' op'' : CmpOp} {f g h : D → D → Rv Bool} (ck : CmpK X op f) (ck' : CmpK X op' g) (ck'' : CmpK X op'' h) (ha : PD .s X Wx a ma) (hb : PD .s X Wx b mb) (hc : PD .s X Wx c mc) (hd : PD .w X Wx d md)
    (hm : lastMarks [op, op', op''] [b, c, d] = false := by with_unfolding_all rfl) : PD .s X Wx (.Compare a [op, op', op''] [b, c, d] pos) (eB (c4 f g h ma mb mc md)) := by
  obtain ⟨⟨r, ho, oc⟩⟩ := ck
  obtain ⟨⟨r', ho', oc'⟩⟩ := ck'
  obtain ⟨⟨r'', ho'', oc''⟩⟩ := ck''
  obtain ⟨ta, pa, qa⟩ := ha
  obtain ⟨tb, pb, qb⟩ := hb
  obtain ⟨tc, pc, qc⟩ := hc
  obtain ⟨td, pd, qd⟩ := hd
  refine ⟨_, pe_chain4 ho ho' ho'' pa pb pc pd hm, fun F O env σ H Q S w => ?_⟩
  have w := w.bind
  refine qa F O env σ H _ S (w.bind.imp (fun dx e1 w1 x H1 S1 k1 p1 => ?_) fun _ _ _ z => z)
  refine qb F O e1 σ H1 _ S1 (w1.bind.imp (fun dy e2 w2 y H2 S2 k2 p2 => ?_) (XW.later k1))
  obtain ⟨k, ef, w3⟩ := w2.bind.of
  refine oc _ H2 x y dx dy k _ (.of (Rep.mj k2 p1)) (.of p2) ef ⟨k, rfl, ?_⟩
  cases k with
  | false => exact w3 _ H2 S2 (k1.trans k2) (.bl _)
  | true =>
    refine qc F O e2 σ H2 _ S2 (w3.bind.imp (fun dz e3 w4 z H3 S3 k3 p3 => ?_) (XW.later (k1.trans k2)))
    obtain ⟨l, eg, w5⟩ := w4.bind.of
    refine oc' _ H3 y z dy dz l _ (.of (Rep.mj k3 p2)) (.of p3) eg ⟨l, rfl, ?_⟩
    cases l with
    | false => exact w5 _ H3 S3 (k1.trans (k2.trans k3)) (.bl _)
    | true =>
      refine qd F O e3 σ H3 _ S3 (w5.bind.imp (fun du e4 w6 u H4 S4 k4 p4 => ?_) (XW.later (k1.trans (k2.trans k3))))
      obtain ⟨m, eh, q⟩ := w6.of
      exact oc'' _ H4 z u dz du m _ (.of (Rep.mj k4 p3)) p4 eh (q _ H4 S4 (k1.trans (k2.trans (k3.trans k4))) (.bl _))
/-! ### in -/
def rInT (K : PySem.W.Frag) : R2 := fun x y H Q => ∃ d ds, Dp K H x d ∧ Dp K H y (.tuple ds) ∧ SeqAt.shaped d = true ∧ SeqAt.shaped (.tuple ds) = true ∧ Q (.bl (ds.any fun z => PyData.eqv z d)) H
def rNotInT (K : PySem.W.Frag) : R2 := fun x y H Q => ∃ d ds, Dp K H x d ∧ Dp K H y (.tuple ds) ∧ SeqAt.shaped d = true ∧ SeqAt.shaped (.tuple ds) = true ∧ Q (.bl (!ds.any fun z => PyData.eqv z d)) H
theorem op_inT (hu : X.A.units + 65 < cLine) : OpR X (compareOp .In) (rInT X.K) := by
  intro pins s σ H x y v u Q I rx ry h
  obtain ⟨d, ds, hd, he, sd, se, q⟩ := h
  obtain ⟨as, r1⟩ := Dp.reads I d x v hd rx
  obtain ⟨bs, r2⟩ := Dp.reads I (.tuple ds) y u he ry
  exact SeqAt.in_tuple_reads r2 r1 (SeqAt.canLay_of_shaped se) (SeqAt.canLay_of_shaped sd) (room_in_shaped sd hu) ⟨.bl _, H, I, rfl, q⟩
theorem op_notInT (hu : X.A.units + 65 < cLine) : OpR X (compareOp .NotIn) (rNotInT X.K) := by
  intro pins s σ H x y v u Q I rx ry h
  obtain ⟨d, ds, hd, he, sd, se, q⟩ := h
  obtain ⟨as, r1⟩ := Dp.reads I d x v hd rx
  obtain ⟨bs, r2⟩ := Dp.reads I (.tuple ds) y u he ry
  exact SeqAt.notIn_tuple_reads r2 r1 (SeqAt.canLay_of_shaped se) (SeqAt.canLay_of_shaped sd) (room_in_shaped sd hu) ⟨.bl _, H, I, rfl, q⟩
def rInK : R2 := fun y x H Q => ∃ a o, x = .ref a ∧ DGet H a y o ∧ Q (.bl o.isSome) H
def rNotInK : R2 := fun y x H Q => ∃ a o, x = .ref a ∧ DGet H a y o ∧ Q (.bl (!o.isSome)) H
theorem op_inK (hu : X.A.units + 65 < cLine) : OpR X (compareOp .In) rInK := by
  intro pins s σ H x y v u Q I rx ry h
  obtain ⟨a, o, rfl, g, q⟩ := h
  cases ry
  exact d_in (by omega) I g rx fun s3 I3 => ⟨.bl o.isSome, H, I3, rfl, q⟩
theorem op_notInK (hu : X.A.units + 65 < cLine) : OpR X (compareOp .NotIn) rNotInK := by
  intro pins s σ H x y v u Q I rx ry h
  obtain ⟨a, o, rfl, g, q⟩ := h
  cases ry
  exact d_notIn (by omega) I g rx fun s3 I3 => ⟨.bl (!o.isSome), H, I3, rfl, q⟩
theorem keyI_rep {K : PySem.W.Frag} {W : Pr} {H : Hp} {v : V} {d : D} {k : Key} (r : Rep W H v d) (h : keyI d = some k) : v = kV k := by
  cases r <;> first | (cases h; rfl) | cases h
theorem keysL_rep {W : Pr} {H : Hp} : ∀ {vs : List V} {ds : List D} {ks : List Key}, RepL W H vs ds → keysL ds = some ks → vs = ks.map kV
  | _, _, _, .nil, h => by cases h; rfl
  | _, _, ks, .cons (d := d) (ds := ds) r l, h => by
    unfold keysL at h
    cases h1 : keyI d with
    | none => rw [h1] at h; cases h
    | some k =>
      cases h2 : keysL ds with
      | none => rw [h1, h2] at h; cases h
      | some ks' =>
        rw [h1, h2] at h
        cases h
        rw [List.map_cons, keysL_rep l h2, keyI_rep (K := []) r h1]
theorem keyD_rep {W : Pr} {H : Hp} {v : V} {d : D} {k : List Key} (r : Rep W H v d) (h : keyD d = some k) : ∃ b, v = .ref b ∧ H b = some (.tup (k.map kV)) := by
  cases r with
  | tup n h1 l => exact ⟨_, rfl, by rw [← keysL_rep l h]; exact h1⟩
  | _ => cases h
theorem RepK.val {W : Pr} {H : Hp} (k : List Key) : ∀ {ks : List (List Key × V)} {kvs : List (List Key × D)}, RepK W H ks kvs → (valV ks k = none ∧ dget kvs k = none) ∨ ∃ v d, valV ks k = some v ∧ dget kvs k = some d ∧ Rep W H v d
  | _, _, .nil => .inl ⟨rfl, rfl⟩
  | _, _, .cons (k := k') r l => by
    by_cases e : k' = k
    · refine .inr ⟨_, _, valV_pos e, ?_, r⟩
      unfold dget
      simp [List.find?_cons, e]
    · rcases RepK.val k l with ⟨h1, h2⟩ | ⟨v, d, h1, h2, h3⟩
      · refine .inl ⟨by rw [valV_neg e]; exact h1, ?_⟩
        unfold dget at h2 ⊢
        simp [List.find?_cons, e]
        simpa using h2
      · refine .inr ⟨v, d, by rw [valV_neg e]; exact h1, ?_, h3⟩
        unfold dget at h2 ⊢
        simp [List.find?_cons, e]
        simpa using h2
theorem dget_of {W : Pr} {H : Hp} {a b : Addr} {ks : List (List Key × V)} {kvs : List (List Key × D)} {k : List Key} (r : RepK W H ks kvs) (ha : Rd H a (.dT ks)) (hb : H b = some (.tup (k.map kV))) : DGet H a (.ref b) (valV ks k) := .inr ⟨ks, k, b, ha, rfl, hb, rfl⟩
def rInA (K : PySem.W.Frag) : R2 := fun x y H Q => rInD K x y H Q ∨ rInT K x y H Q ∨ rInK x y H Q
def rNotInA (K : PySem.W.Frag) : R2 := fun x y H Q => rNotInD K x y H Q ∨ rNotInT K x y H Q ∨ rNotInK x y H Q
def dNotIn (x y : D) : Rv Bool := match dIn x y with
  | .ok b => .ok (!b)
  | .bad => .bad
/-- what stands at the left stays -/
def Oi (K : PySem.W.Frag) (r : R2) (f : D → D → Rv Bool) : Prop := ∀ (W : Pr) (H : Hp) (x y : V) (dx dy : D) (b : Bool) (Q : VK),
  Rep W H x dx → RepW K W H y dy → f dx dy = .ok b → Q (.bl b) H → r x y H Q
theorem plain_succ {xs : List D} (h : D.plainL 39 xs = true) : (D.lst xs).plain 40 = true := h
theorem oi_in : Oi X.K (rInA X.K) dIn := by
  intro W H x y dx dy b Q rx ry ef q
  unfold dIn at ef
  split at ef
  · rename_i ys
    obtain ⟨h, rfl⟩ := if_ok ef
    obtain ⟨h1, h2⟩ := Bool.and_eq_true_iff.mp h
    exact .inl ⟨_, _, rx.dp h1, ry.dp (n := 40) h2, D.shaped h1, D.shaped (x := .lst ys) h2, by rw [toPs_any dx 40 39 h1 ys h2]; exact q⟩
  · rename_i ys
    obtain ⟨h, rfl⟩ := if_ok ef
    obtain ⟨h1, h2⟩ := Bool.and_eq_true_iff.mp h
    exact .inr (.inl ⟨_, _, rx.dp h1, ry.dp (n := 40) h2, D.shaped h1, D.shaped (x := .tup ys) h2, by rw [toPs_any dx 40 39 h1 ys h2]; exact q⟩)
  · rename_i kvs
    split at ef
    · rename_i k hk
      cases ef
      obtain ⟨a, ks, rfl, ha, l⟩ := ry.dic'
      obtain ⟨b, rfl, hb⟩ := keyD_rep rx hk
      refine .inr (.inr ⟨a, _, rfl, dget_of l ha hb, ?_⟩)
      rcases l.val k with ⟨h1, h2⟩ | ⟨v, d, h1, h2, _⟩
      · rw [h2] at q; rw [h1]; exact q
      · rw [h2] at q; rw [h1]; exact q
    · cases ef
  · cases ef
theorem oi_notIn : Oi X.K (rNotInA X.K) dNotIn := by
  intro W H x y dx dy b Q rx ry ef q
  unfold dNotIn at ef
  cases h : dIn dx dy with
  | bad => rw [h] at ef; cases ef
  | ok c =>
    rw [h] at ef
    cases ef
    rcases oi_in (X := X) W H x y dx dy c (fun z H' => z = .bl c ∧ H' = H) rx ry h ⟨rfl, rfl⟩ with h | h | h
    · obtain ⟨d, ds, h1, h2, h3, h4, e, _⟩ := h
      exact .inl ⟨d, ds, h1, h2, h3, h4, by cases e; exact q⟩
    · obtain ⟨d, ds, h1, h2, h3, h4, e, _⟩ := h
      exact .inr (.inl ⟨d, ds, h1, h2, h3, h4, by cases e; exact q⟩)
    · obtain ⟨a, o, h1, h2, e, _⟩ := h
      exact .inr (.inr ⟨a, o, h1, h2, by cases e; exact q⟩)
structure InK (X : Cx) (op : CmpOp) (f : D → D → Rv Bool) : Prop where
  ok : ∃ r : R2, OpR X (compareOp op) r ∧ Oi X.K r f
theorem ik_in (hu : X.A.units + 65 < cLine) : InK X .In dIn := ⟨_, (op_inD hu).or ((op_inT hu).or (op_inK hu)), oi_in⟩
theorem ik_notIn (hu : X.A.units + 65 < cLine) : InK X .NotIn dNotIn := ⟨_, (op_notInD hu).or ((op_notInT hu).or (op_notInK hu)), oi_notIn⟩
theorem pd_in {op : CmpOp} {f : D → D → Rv Bool} (ck : InK X op f) (ha : PD .s X Wx a ma) (hb : PD .w X Wx b mb) (hm : behindInMarks op b = false) : PD .s X Wx (.Compare a [op] [b] pos) (eB (c2 f ma mb)) := by
  obtain ⟨⟨r, ho, oc⟩⟩ := ck
  obtain ⟨ta, pa, qa⟩ := ha
  obtain ⟨tb, pb, qb⟩ := hb
  refine ⟨_, pe_cmpR ho pa pb hm, fun F O env σ H Q S w => ?_⟩
  have w := w.bind
  refine qa F O env σ H _ S (w.bind.imp (fun dx e1 w1 x H1 S1 k1 p1 => ?_) fun _ _ _ z => z)
  refine qb F O e1 σ H1 _ S1 (w1.bind.imp (fun dy e2 w2 y H2 S2 k2 p2 => ?_) (XW.later k1))
  obtain ⟨dz, ef, q⟩ := w2.of
  exact oc _ H2 x y dx dy dz Q (Rep.mj k2 p1) p2 ef (q _ H2 S2 (k1.trans k2) (.bl _))
theorem td_in {op : CmpOp} {f : D → D → Rv Bool} (ck : InK X op f) (ha : PD .s X Wx a ma) (hb : PD .w X Wx b mb) (hm : behindInMarks op b = false) : TD X Wx (.Compare a [op] [b] pos) (c2 f ma mb) := by
  obtain ⟨⟨r, ho, oc⟩⟩ := ck
  obtain ⟨ta, pa, qa⟩ := ha
  obtain ⟨tb, pb, qb⟩ := hb
  refine ⟨_, pt_cmpR ho pa pb hm, fun F O env σ H Q S w => ?_⟩
  refine qa F O env σ H _ S (w.bind.imp (fun dx e1 w1 x H1 S1 k1 p1 => ?_) fun _ _ _ z => z)
  refine qb F O e1 σ H1 _ S1 (w1.bind.imp (fun dy e2 w2 y H2 S2 k2 p2 => ?_) (XW.later k1))
  obtain ⟨dz, ef, q⟩ := w2.of
  exact oc _ H2 x y dx dy dz _ (Rep.mj k2 p1) p2 ef ⟨dz, rfl, q H2 S2 (k1.trans k2)⟩
/-! ### and, or, not, if -/
theorem td_val (ha : PD .s X Wx a ma) (he : ∀ whole, isTrue a X.env whole = (do let v ← whole; standAt a.pos; holding [v] (truthy v)) := by intro _; rfl) : TD X Wx a (tV ma) := by
  obtain ⟨ta, pa, qa⟩ := ha
  refine ⟨_, pt_val pa he, fun F O env σ H Q S w => ?_⟩
  refine qa F O env σ H _ S (w.bind.imp (fun dx e1 w1 x H1 S1 k1 p1 => ?_) fun _ _ _ z => z)
  cases p1 with
  | bl b => exact ⟨b, rfl, w1 H1 S1 k1⟩
  | _ => exact w1.elim
theorem td_not {m : DT} (h : TD X Wx a m) : TD X Wx (.UnaryOp .Not a pos) (AH.tNot m) := by
  obtain ⟨t, p, q⟩ := h
  exact ⟨_, pt_not p, fun F O env σ H Q S w => q F O env σ H _ S (w.bind.imp (fun b e1 w1 H1 S1 k1 => w1 H1 S1 k1) fun _ _ _ z => z)⟩
theorem wd_and1 {m : DT} (h : TD X Wx a m) : WD X Wx (.BoolOp .And [a] pos) m := let ⟨t, p, q⟩ := h; ⟨t, pw_and1 p, q⟩
theorem wd_or1 {m : DT} (h : TD X Wx a m) : WD X Wx (.BoolOp .Or [a] pos) m := let ⟨t, p, q⟩ := h; ⟨t, pw_or1 p, q⟩
theorem wd_and {m n : DT} {rest : List Expr} (h : TD X Wx a m) (h' : WD X Wx (.BoolOp .And (b :: rest) pos) n) : WD X Wx (.BoolOp .And (a :: b :: rest) pos) (AH.tAnd m n) := by
  obtain ⟨t, p, q⟩ := h
  obtain ⟨t', p', q'⟩ := h'
  refine ⟨_, pw_and p p', fun F O env σ H Q S w => q F O env σ H _ S (w.bind.imp (fun b e1 w1 H1 S1 k1 => ?_) fun _ _ _ z => z)⟩
  cases b with
  | true => exact q' F O e1 σ H1 _ S1 (Want.imp (m := n) w1 (fun b e2 w2 H2 S2 k2 => w2 H2 S2 (k1.trans k2)) (XW.later k1))
  | false => exact w1 H1 S1 k1
theorem wd_or {m n : DT} {rest : List Expr} (h : TD X Wx a m) (h' : WD X Wx (.BoolOp .Or (b :: rest) pos) n) : WD X Wx (.BoolOp .Or (a :: b :: rest) pos) (AH.tOr m n) := by
  obtain ⟨t, p, q⟩ := h
  obtain ⟨t', p', q'⟩ := h'
  refine ⟨_, pw_or p p', fun F O env σ H Q S w => q F O env σ H _ S (w.bind.imp (fun b e1 w1 H1 S1 k1 => ?_) fun _ _ _ z => z)⟩
  cases b with
  | false => exact q' F O e1 σ H1 _ S1 (Want.imp (m := n) w1 (fun b e2 w2 H2 S2 k2 => w2 H2 S2 (k1.trans k2)) (XW.later k1))
  | true => exact w1 H1 S1 k1
theorem pd_if {fl : Fl} {m : DT} (hc : TD X Wx c m) (ha : PD fl X Wx a ma) (hb : PD fl X Wx b mb) : PD fl X Wx (.IfExp c a b pos) (eIf m ma mb) := by
  obtain ⟨t, p, q⟩ := hc
  obtain ⟨ta, pa, qa⟩ := ha
  obtain ⟨tb, pb, qb⟩ := hb
  refine ⟨_, pe_ifExp p pa pb, fun F O env σ H Q S w => q F O env σ H _ S (w.bind.imp (fun b e1 w1 H1 S1 k1 => ?_) fun _ _ _ z => z)⟩
  cases b with
  | true => exact qa F O e1 σ H1 _ S1 (Want.imp (m := ma) w1 (fun d e2 w2 v H2 S2 k2 r => w2 v H2 S2 (k1.trans k2) (r.back k1)) (XW.later k1))
  | false => exact qb F O e1 σ H1 _ S1 (Want.imp (m := mb) w1 (fun d e2 w2 v H2 S2 k2 r => w2 v H2 S2 (k1.trans k2) (r.back k1)) (XW.later k1))
theorem pd_one {fl : Fl} {op : BoolOp} (h : PD fl X Wx a ma) : PD fl X Wx (.BoolOp op [a] pos) ma := let ⟨t, p, q⟩ := h; ⟨t, pe_one p, q⟩
theorem pd_and {rest : List Expr} (ha : PD .s X Wx a ma) (hb : PD .s X Wx (.BoolOp .And (b :: rest) pos) mb) : PD .s X Wx (.BoolOp .And (a :: b :: rest) pos) (eAnd ma mb) := by
  obtain ⟨ta, pa, qa⟩ := ha
  obtain ⟨tb, pb, qb⟩ := hb
  refine ⟨_, pe_and pa pb, fun F O env σ H Q S w => ?_⟩
  have w := w.bind
  refine qa F O env σ H _ S (w.bind.imp (fun dx e1 w1 x H1 S1 k1 p1 => ?_) fun _ _ _ z => z)
  cases p1 with
  | bl k =>
    refine ⟨k, rfl, ?_⟩
    cases k with
    | true => exact qb F O e1 σ H1 _ S1 (Want.imp (m := mb) w1 (fun d e2 w2 v H2 S2 k2 r => w2 v H2 S2 (k1.trans k2) r) (XW.later k1))
    | false => exact w1 _ H1 S1 k1 (.bl _)
  | _ => exact w1.elim
theorem pd_or {rest : List Expr} (ha : PD .s X Wx a ma) (hb : PD .s X Wx (.BoolOp .Or (b :: rest) pos) mb) : PD .s X Wx (.BoolOp .Or (a :: b :: rest) pos) (eOr ma mb) := by
  obtain ⟨ta, pa, qa⟩ := ha
  obtain ⟨tb, pb, qb⟩ := hb
  refine ⟨_, pe_or pa pb, fun F O env σ H Q S w => ?_⟩
  have w := w.bind
  refine qa F O env σ H _ S (w.bind.imp (fun dx e1 w1 x H1 S1 k1 p1 => ?_) fun _ _ _ z => z)
  cases p1 with
  | bl k =>
    refine ⟨k, rfl, ?_⟩
    cases k with
    | false => exact qb F O e1 σ H1 _ S1 (Want.imp (m := mb) w1 (fun d e2 w2 v H2 S2 k2 r => w2 v H2 S2 (k1.trans k2) r) (XW.later k1))
    | true => exact w1 _ H1 S1 k1 (.bl _)
  | _ => exact w1.elim
theorem pd_not (ha : PD .s X Wx a ma) : PD .s X Wx (.UnaryOp .Not a pos) (eNot ma) := by
  obtain ⟨ta, pa, qa⟩ := ha
  refine ⟨_, pe_not pa, fun F O env σ H Q S w => ?_⟩
  have w := w.bind
  refine qa F O env σ H _ S (w.bind.imp (fun dx e1 w1 x H1 S1 k1 p1 => ?_) fun _ _ _ z => z)
  cases p1 with
  | bl k => exact ⟨k, rfl, w1 _ H1 S1 k1 (.bl _)⟩
  | _ => exact w1.elim
theorem truth_tru {K : PySem.W.Frag} {W : Pr} {H : Hp} {v : V} {d : D} {k : Bool} (r : Rep W H v d) (h : truth d = .ok k) : TruV K v H k := by
  cases r with
  | non => cases h; exact rfl
  | bl b => cases h; exact rfl
  | int i => cases h; exact rfl
  | str s => cases h
  | dic n e l => cases h
  | lst n e l =>
    cases h
    refine .inl ⟨_, .inl (.inl e), ?_⟩
    cases l <;> rfl
  | tup n e l =>
    cases h
    refine .inr (.inl ⟨_, .inl (.inl e), ?_⟩)
    cases l <;> rfl
/-- x or y by truth, both new lists -/
theorem pd_orT {fl : Fl} (ha : PD fl X Wx a ma) (hb : PD fl X Wx b mb) (hfl : fl = .f ∨ fl = .s) : PD fl X Wx (.BoolOp .Or [a, b] pos) (eOrT ma mb) := by
  obtain ⟨ta, pa, qa⟩ := ha
  obtain ⟨tb, pb, qb⟩ := hb
  refine ⟨_, pe_orT pa (pe_one pb), fun F O env σ H Q S w => ?_⟩
  refine qa F O env σ H _ S (w.bind.imp (fun dx e1 w1 x H1 S1 k1 p1 => ?_) fun _ _ _ z => z)
  obtain ⟨k, ef, w2⟩ := w1.bind.of
  have rs : Rep (Ow F O) H1 x dx := by
    rcases hfl with rfl | rfl
    · exact Po.s_of_f (K := X.K) (fun p hp => S.noW hp) p1
    · exact p1
  refine ⟨k, truth_tru rs ef, ?_⟩
  cases k with
  | true => exact w2 _ H1 S1 k1 p1
  | false => exact qb F O e1 σ H1 _ S1 (Want.imp (m := mb) w2 (fun d e2 w2 v H2 S2 k2 r => w2 v H2 S2 (k1.trans k2) (r.back k1)) (XW.later k1))
/-! ### argument lists, displays -/
theorem ad_nil : AD X Wx [] aNil := ⟨_, pa_nil, fun F O env σ H Q S w => w [] H S Ke.refl .nil⟩
theorem ad_cons {es : List Expr} {m : DL} (ha : PD .s X Wx a ma) (hr : AD X Wx es m) (hs : starEach (a :: es) X.env = (false, eval a X.env) :: starEach es X.env := by rfl) : AD X Wx (a :: es) (aCons ma m) := by
  obtain ⟨ta, pa, qa⟩ := ha
  obtain ⟨tb, pb, qb⟩ := hr
  refine ⟨_, pa_cons pa pb hs, fun F O env σ H Q S w => ?_⟩
  refine qa F O env σ H _ S (w.bind.imp (fun dx e1 w1 x H1 S1 k1 p1 => ?_) fun _ _ _ z => z)
  exact qb F O e1 σ H1 _ S1 (w1.bind.imp (fun ds e2 w2 vs H2 S2 k2 p2 => w2 _ H2 S2 (k1.trans k2) (.cons (Rep.mj k2 p1) p2)) (XW.later k1))
theorem pd_tup {es : List Expr} {m : DL} {k : Nat} (h : AD X Wx es m) : PD .s X Wx (.Tuple es k pos) (eTup m) := by
  obtain ⟨t, p, q⟩ := h
  refine ⟨_, pe_tup p, fun F O env σ H Q S w => ?_⟩
  refine q F O env σ H _ S (w.bind.imp (fun ds e1 w1 vs H1 S1 k1 p1 => ?_) fun _ _ _ z => z)
  cases hz : lenOk ds.length with
  | false => rw [hz] at w1; exact w1.elim
  | true =>
    rw [hz] at w1
    refine ⟨by rw [p1.len]; exact lenOk_of hz, fun p hp => ?_⟩
    exact new_tup S1 p1 (fun z H' S' k2 r => w1 z H' S' (k1.trans k2) r) hp
theorem pd_lst {es : List Expr} {m : DL} (h : AD X Wx es m) : PD .f X Wx (.List es pos) (eLst m) := by
  obtain ⟨t, p, q⟩ := h
  refine ⟨_, pe_lst p, fun F O env σ H Q S w => ?_⟩
  refine q F O env σ H _ S (w.bind.imp (fun ds e1 w1 vs H1 S1 k1 p1 => ?_) fun _ _ _ z => z)
  cases hz : lenOk ds.length with
  | false => rw [hz] at w1; exact w1.elim
  | true =>
    rw [hz] at w1
    refine ⟨by rw [p1.len]; exact lenOk_of hz, fun p hp => ?_⟩
    exact new_lst S1 p1 (fun z H' S' k2 r => w1 z H' S' (k1.trans k2) (r.back k1)) hp
/-! ### items, slices -/
def rIxK : R2 := fun x y H Q => ∃ a v, x = .ref a ∧ DGet H a y (some v) ∧ Q v H
theorem ix_dict (hu : X.A.units + 65 < cLine) : IxR X rIxK := by
  intro value slice pins s σ H x y v u Q I rx ry h hs
  obtain ⟨a, z, rfl, g, q⟩ := h
  cases rx
  exact tail_any (dict_typeIs I g) PySem.F.slot_dict_getitem.lookup (d_getItem (by omega) I g ry fun w' s' I' r => ⟨z, H, I', r, q⟩) hs
def rIxA (K : PySem.W.Frag) : R2 := fun x y H Q => rIxL K x y H Q ∨ rIxT K x y H Q ∨ rIxK x y H Q
theorem ix_any (hu : X.A.units + 65 < cLine) : IxR X (rIxA X.K) := ix_list.or (ix_tup.or (ix_dict hu))
def Op2k (fl : Fl) (K : PySem.W.Frag) (r : R2) (f : D → D → Rv D) : Prop := ∀ (F : Fm) (O : Nat → Option Addr) (env : Env) (σ : L2.St) (H : Hp) (x y : V) (dx dy dz : D) (Q : VK), SR K F O env σ H →
  RepW K (Ow F O) H x dx → Rep (Ow F O) H y dy → f dx dy = .ok dz → (∀ z H', SR K F O env σ H' → Ke (Jo O) H H' → Po fl K F O env σ H H' z dz → Q z H') → r x y H Q
theorem o_ix : Op2k .s X.K (rIxA X.K) dIx := by
  intro F O env σ H x y dx dy dz Q S rx ry ef q
  unfold dIx at ef
  split at ef
  · obtain ⟨a, vs, rfl, s, l⟩ := rx.lst'
    split at ef
    · rename_i z hz
      cases ef
      obtain ⟨v, hv, r⟩ := l.at hz
      cases ry
      exact .inl ⟨a, vs, _, v, rfl, rfl, s, hv, q _ H S Ke.refl r⟩
    · cases ef
  · obtain ⟨a, vs, rfl, s, l⟩ := rx.tup'
    split at ef
    · rename_i z hz
      cases ef
      obtain ⟨v, hv, r⟩ := l.at hz
      cases ry
      exact .inr (.inl ⟨a, vs, _, v, rfl, rfl, s, hv, q _ H S Ke.refl r⟩)
    · cases ef
  · obtain ⟨a, ks, rfl, s, l⟩ := rx.dic'
    split at ef
    · rename_i k hk
      split at ef
      · rename_i z hz
        cases ef
        obtain ⟨b, rfl, hb⟩ := keyD_rep ry hk
        rcases l.val k with ⟨h1, h2⟩ | ⟨v, d, h1, h2, r⟩
        · rw [h2] at hz; cases hz
        · rw [h2] at hz
          cases hz
          exact .inr (.inr ⟨a, v, rfl, by rw [← h1]; exact dget_of l s hb, q _ H S Ke.refl r⟩)
      · cases ef
    · cases ef
  · cases ef
theorem pd_ix (hu : X.A.units + 65 < cLine) (ha : PD .s X Wx a ma) (hb : PD .s X Wx b mb) (hs : PlainIx b := by intro _ _; rfl) : PD .s X Wx (.Subscript a b pos) (e2 dIx ma mb) := by
  obtain ⟨ta, pa, qa⟩ := ha
  obtain ⟨tb, pb, qb⟩ := hb
  refine ⟨_, pe_ix (ix_any hu) pa pb hs, fun F O env σ H Q S w => ?_⟩
  refine qa F O env σ H _ S (w.bind.imp (fun dx e1 w1 x H1 S1 k1 p1 => ?_) fun _ _ _ z => z)
  refine qb F O e1 σ H1 _ S1 (w1.bind.imp (fun dy e2 w2 y H2 S2 k2 p2 => ?_) (XW.later k1))
  obtain ⟨dz, ef, q⟩ := w2.of
  exact o_ix F O e2 σ H2 x y dx dy dz Q S2 (.of (Rep.mj k2 p1)) p2 ef fun z H' S' k3 p3 => q z H' S' (k1.trans (k2.trans k3)) p3
theorem pd_ixL {i : Nat} {x : Str} {p : Pos} (hu : X.A.units + 65 < cLine) (hN : X.N[i]? = some x) (hv : Vis X.env.scope x) (hb : PD .s X Wx b mb) (hs : PlainIx b := by intro _ _; rfl)
    (hd : (x == ("__debug__" : Str)) = false := by decide) (hcd : (x == ("__classdict__" : Str)) = false := by decide) : PD .s X Wx (.Subscript (.Name x p) b pos) (e2L dIx i mb) := by
  obtain ⟨tb, pb, qb⟩ := hb
  refine ⟨_, pe_ix (ix_any hu) (pe_var hN hv hd hcd) pb hs, fun F O env σ H Q S w => ?_⟩
  obtain ⟨v, d, e, r, w⟩ := w.bind.tmp S
  refine ⟨v, get1_some e, ?_⟩
  refine qb F O env σ H _ S (w.bind.imp (fun dy e2 w2 y H2 S2 k2 p2 => ?_) fun _ _ _ z => z)
  obtain ⟨v', dx, ex, rx, w3⟩ := w2.bind.tmp S2
  obtain rfl : v' = v := Option.some.inj (ex.symm.trans e)
  obtain ⟨dz, ef, q⟩ := w3.of
  exact o_ix F O e2 σ H2 v' y dx dy dz Q S2 rx p2 ef fun z H' S' k3 p3 => q z H' S' (k2.trans k3) p3
/-- a part of a slice -/
def OD (X : Cx) (Wx : WX) (e : Option Expr) (m : DO) : Prop := ∃ t : TO, PO X e t ∧ ∀ (F : Fm) (O : Nat → Option Addr) (env : Env) (σ : L2.St) (H : Hp) (Q : Option Int → Hp → Prop), SR X.K F O env σ H →
  Want m env (fun d e1 => ∀ H', SR X.K F O e1 σ H' → Ke (Jo O) H H' → Q d H') (XW X.K F O σ H Wx) → t σ H Q
theorem od_none : OD X Wx none oNone := ⟨_, po_none, fun F O env σ H Q S w => w H S Ke.refl⟩
theorem od_some (ha : PD .s X Wx a ma) : OD X Wx (some a) (oSome ma) := by
  obtain ⟨ta, pa, qa⟩ := ha
  refine ⟨_, po_some pa, fun F O env σ H Q S w => ?_⟩
  refine qa F O env σ H _ S (w.bind.imp (fun dx e1 w1 x H1 S1 k1 p1 => ?_) fun _ _ _ z => z)
  cases p1 with
  | int i => exact ⟨i, rfl, w1 H1 S1 k1⟩
  | _ => exact w1.elim
def rSlAny (K : PySem.W.Frag) : V → Option Int → Option Int → Hp → VK → Prop := fun x lo hi H Q => rSlL K x lo hi H Q ∨ rSlA K x lo hi H Q
theorem RepL.cut {W : Pr} {H : Hp} {vs : List V} {xs : List D} (lo hi : Option Int) (l : RepL W H vs xs) : RepL W H (cutV vs lo hi) (AH.cut xs lo hi) := by
  unfold cutV AH.cut
  rw [l.len]
  exact (l.drop _).take _
theorem cut_whole {xs : List D} {lo hi : Option Int} (h : HT.sIx xs.length 0 lo = 0 ∧ HT.sIx xs.length xs.length hi = xs.length) : AH.cut xs lo hi = xs := by
  unfold AH.cut
  rw [h.1, h.2]
  simp
/-- a list's slice is new -/
def dSlL (x : D) (lo hi : Option Int) : Rv D := match x with
  | .lst xs => .ok (.lst (cut xs lo hi))
  | _ => .bad
def Osl (fl : Fl) (K : PySem.W.Frag) (f : D → Option Int → Option Int → Rv D) : Prop := ∀ (F : Fm) (O : Nat → Option Addr) (env : Env) (σ : L2.St) (H : Hp) (x : V) (dx dz : D) (lo hi : Option Int) (Q : VK), SR K F O env σ H →
  (Rep (Ow F O) H x dx ∨ ∃ xs, dx = .lst xs ∧ RepW K (Ow F O) H x dx) → f dx lo hi = .ok dz → (∀ z H', SR K F O env σ H' → Ke (Jo O) H H' → Po fl K F O env σ H H' z dz → Q z H') → rSlAny K x lo hi H Q
theorem o_slL : Osl .f X.K dSlL := by
  intro F O env σ H x dx dz lo hi Q S rx ef q
  unfold dSlL at ef
  split at ef
  · cases ef
    have rw' : RepW X.K (Ow F O) H x (.lst _) := rx.elim (fun r => .of r) fun ⟨_, _, r⟩ => r
    obtain ⟨a, vs, rfl, s, l⟩ := rw'.lst'
    exact .inl ⟨a, vs, rfl, s, fun p hp => new_lst S (l.cut lo hi) q hp⟩
  · cases ef
theorem o_sl : Osl .s X.K dSl := by
  intro F O env σ H x dx dz lo hi Q S rx ef q
  unfold dSl at ef
  split at ef
  · cases ef
    have rw' : RepW X.K (Ow F O) H x (.lst _) := rx.elim (fun r => .of r) fun ⟨_, _, r⟩ => r
    obtain ⟨a, vs, rfl, s, l⟩ := rw'.lst'
    exact .inl ⟨a, vs, rfl, s, fun p hp => new_lst S (l.cut lo hi) (fun z H' S' k r => q z H' S' k (Po.s_of_f (K := X.K) (fun p hp => S.noW hp) r)) hp⟩
  · cases ef
    rcases rx with rx | ⟨_, h, _⟩
    · cases rx with
      | tup n h l =>
        refine .inr ⟨_, _, rfl, .inl (.inl h), fun w => ?_, fun _ p hp => new_tup S (l.cut lo hi) q hp⟩
        rw [l.len] at w
        rw [cut_whole w] at q
        exact q _ H S Ke.refl (.tup n h l)
    · cases h
  · cases ef
theorem sl_any : L2.SlR X (rSlAny X.K) := L2.SlR.or sl_list sl_tupA
theorem pd_slice {fl : Fl} {f : D → Option Int → Option Int → Rv D} {lo hi : Option Expr} {ml mh : DO} {p2 : Pos} (hop : Osl fl X.K f) (ha : PD .s X Wx a ma) (hl : OD X Wx lo ml) (hh : OD X Wx hi mh) :
    PD fl X Wx (.Subscript a (.Slice lo hi none p2) pos) (ma.bind fun x => ml.bind fun l => mh.bind fun h => M.of (f x l h)) := by
  obtain ⟨ta, pa, qa⟩ := ha
  obtain ⟨tl, pl, ql⟩ := hl
  obtain ⟨th, ph, qh⟩ := hh
  refine ⟨_, pe_slice sl_any pa pl ph, fun F O env σ H Q S w => ?_⟩
  refine qa F O env σ H _ S (w.bind.imp (fun dx e1 w1 x H1 S1 k1 p1 => ?_) fun _ _ _ z => z)
  refine ql F O e1 σ H1 _ S1 (w1.bind.imp (fun lo e2 w2 H2 S2 k2 => ?_) (XW.later k1))
  refine qh F O e2 σ H2 _ S2 (w2.bind.imp (fun hi e3 w3 H3 S3 k3 => ?_) (XW.later (k1.trans k2)))
  obtain ⟨dz, ef, q⟩ := w3.of
  exact hop F O e3 σ H3 x dx dz lo hi Q S3 (.inl (Rep.mj (k2.trans k3) p1)) ef fun z H' S' k4 p4 => q z H' S' (k1.trans (k2.trans (k3.trans k4))) (p4.back (k1.trans (k2.trans k3)))
theorem pd_sl {lo hi : Option Expr} {ml mh : DO} {p2 : Pos} (ha : PD .s X Wx a ma) (hl : OD X Wx lo ml) (hh : OD X Wx hi mh) : PD .s X Wx (.Subscript a (.Slice lo hi none p2) pos) (eSl ma ml mh) := pd_slice o_sl ha hl hh
/-- a slice of a list that may be the frame's own: a new list -/
def eSlN (i : Nat) (lo hi : DO) : DE := (eTmp i).bind fun _ => lo.bind fun l => hi.bind fun h => (eTmp i).bind fun x => M.of (dSlL x l h)
theorem pd_slN {i : Nat} {x : Str} {p : Pos} {lo hi : Option Expr} {ml mh : DO} {p2 : Pos} (hN : X.N[i]? = some x) (hv : Vis X.env.scope x) (hl : OD X Wx lo ml) (hh : OD X Wx hi mh)
    (hd : (x == ("__debug__" : Str)) = false := by decide) (hcd : (x == ("__classdict__" : Str)) = false := by decide) : PD .f X Wx (.Subscript (.Name x p) (.Slice lo hi none p2) pos) (eSlN i ml mh) := by
  obtain ⟨tl, pl, ql⟩ := hl
  obtain ⟨th, ph, qh⟩ := hh
  refine ⟨_, pe_slice sl_any (pe_var hN hv hd hcd) pl ph, fun F O env σ H Q S w => ?_⟩
  obtain ⟨v, d, e, r, w⟩ := w.bind.tmp S
  refine ⟨v, get1_some e, ?_⟩
  refine ql F O env σ H _ S (w.bind.imp (fun lo e2 w2 H2 S2 k2 => ?_) fun _ _ _ z => z)
  refine qh F O e2 σ H2 _ S2 (w2.bind.imp (fun hi e3 w3 H3 S3 k3 => ?_) (XW.later k2))
  obtain ⟨v', dx, ex, rx, w4⟩ := w3.bind.tmp S3
  obtain rfl : v' = v := Option.some.inj (ex.symm.trans e)
  obtain ⟨dz, ef, q⟩ := w4.of
  refine o_slL F O e3 σ H3 v' dx dz lo hi Q S3 (.inr ?_) ef fun z H' S' k4 p4 => q z H' S' (k2.trans (k3.trans k4)) (p4.back (k2.trans k3))
  unfold dSlL at ef
  split at ef
  · exact ⟨_, rfl, rx⟩
  · cases ef
end
end AH
namespace AH
open PySem PySem.Spec PyProof.Rows L2
section
variable {X : Cx} {Wx : WX} {e a b c d : Expr} {ma mb mc md : DE} {pos p : Pos}
/-! ### built-in functions and types of one argument, of two -/
def Cb1 (fl : Fl) (K : PySem.W.Frag) (r : List V → Hp → VK → Prop) (f : D → Rv D) : Prop := ∀ (F : Fm) (O : Nat → Option Addr) (env : Env) (σ : L2.St) (H : Hp) (x : V) (dx dz : D) (Q : VK), SR K F O env σ H →
  RepW K (Ow F O) H x dx → f dx = .ok dz → (∀ z H', SR K F O env σ H' → Ke (Jo O) H H' → Po fl K F O env σ H H' z dz → Q z H') → r [x] H Q
def Cb2 (fl : Fl) (K : PySem.W.Frag) (r : List V → Hp → VK → Prop) (f : D → D → Rv D) : Prop := ∀ (F : Fm) (O : Nat → Option Addr) (env : Env) (σ : L2.St) (H : Hp) (x y : V) (dx dy dz : D) (Q : VK), SR K F O env σ H →
  Rep (Ow F O) H x dx → RepW K (Ow F O) H y dy → f dx dy = .ok dz → (∀ z H', SR K F O env σ H' → Ke (Jo O) H H' → Po fl K F O env σ H H' z dz → Q z H') → r [x, y] H Q
theorem pd_c1 {fl : Fl} {f : D → Rv D} {r : List V → Hp → VK → Prop} (hop : Cb1 fl X.K r f) (ha : PD .w X Wx a ma) (pe : ∀ {t : TA}, PA X [a] t → PE X e (tCB r t)) (hs : starEach [a] X.env = (false, eval a X.env) :: starEach [] X.env := by rfl) : PD fl X Wx e (e1 f ma) := by
  obtain ⟨ta, pa, qa⟩ := ha
  refine ⟨_, pe (pa_cons pa pa_nil hs), fun F O env σ H Q S w => ?_⟩
  refine qa F O env σ H _ S (w.bind.imp (fun dx e1 w1 x H1 S1 k1 p1 => ?_) fun _ _ _ z => z)
  obtain ⟨dz, ef, q⟩ := w1.of
  exact hop F O e1 σ H1 x dx dz Q S1 p1 ef fun z H' S' k3 p3 => q z H' S' (k1.trans k3) (p3.back k1)
theorem pd_c2 {fl : Fl} {f : D → D → Rv D} {r : List V → Hp → VK → Prop} (hop : Cb2 fl X.K r f) (ha : PD .s X Wx a ma) (hb : PD .w X Wx b mb) (pe : ∀ {t : TA}, PA X [a, b] t → PE X e (tCB r t))
    (hs : starEach [a, b] X.env = (false, eval a X.env) :: starEach [b] X.env := by rfl) (hs2 : starEach [b] X.env = (false, eval b X.env) :: starEach [] X.env := by rfl) : PD fl X Wx e (e2 f ma mb) := by
  obtain ⟨ta, pa, qa⟩ := ha
  obtain ⟨tb, pb, qb⟩ := hb
  refine ⟨_, pe (pa_cons pa (pa_cons pb pa_nil hs2) hs), fun F O env σ H Q S w => ?_⟩
  refine qa F O env σ H _ S (w.bind.imp (fun dx e1 w1 x H1 S1 k1 p1 => ?_) fun _ _ _ z => z)
  refine qb F O e1 σ H1 _ S1 (w1.bind.imp (fun dy e2 w2 y H2 S2 k2 p2 => ?_) (XW.later k1))
  obtain ⟨dz, ef, q⟩ := w2.of
  exact hop F O e2 σ H2 x y dx dy dz Q S2 (Rep.mj k2 p1) p2 ef fun z H' S' k3 p3 => q z H' S' (k1.trans (k2.trans k3)) (p3.back (k1.trans k2))
/-- the name x is still the built-in id, the type T -/
structure Bn (X : Cx) (x : Str) (u : Value) : Prop where
  gl : Gl X x
  mg : X.mg x = none
  bt : bootBuiltins x = some u
  nn : x ≠ "__name__"
  nd : (x == ("__debug__" : Str)) = false
variable {x : Str}
theorem pd_b1 {fl : Fl} {f : D → Rv D} {id : String} {r : List V → Hp → VK → Prop} (hc : CallR X (.builtin id) r) (hop : Cb1 fl X.K r f) (hb : Bn X x (.builtin id)) (ha : PD .w X Wx a ma)
    (hs : starEach [a] X.env = (false, eval a X.env) :: starEach [] X.env := by rfl) : PD fl X Wx (.Call (.Name x p) [a] [] pos) (e1 f ma) :=
  pd_c1 hop ha (fun q => pe_callB hc hb.gl hb.mg hb.bt q hb.nn hb.nd hs rfl) hs
theorem pd_t1 {fl : Fl} {f : D → Rv D} {id : String} {r : List V → Hp → VK → Prop} (hc : CallR X (.type id) r) (hop : Cb1 fl X.K r f) (hb : Bn X x (.type id)) (ha : PD .w X Wx a ma)
    (hs : starEach [a] X.env = (false, eval a X.env) :: starEach [] X.env := by rfl) : PD fl X Wx (.Call (.Name x p) [a] [] pos) (e1 f ma) :=
  pd_c1 hop ha (fun q => pe_callTy hc hb.gl hb.mg hb.bt q hb.nn hb.nd hs rfl) hs
theorem pd_b2 {fl : Fl} {f : D → D → Rv D} {id : String} {r : List V → Hp → VK → Prop} (hc : CallR X (.builtin id) r) (hop : Cb2 fl X.K r f) (hb : Bn X x (.builtin id)) (ha : PD .s X Wx a ma) (hb' : PD .w X Wx b mb)
    (hs : starEach [a, b] X.env = (false, eval a X.env) :: starEach [b] X.env := by rfl) (hs2 : starEach [b] X.env = (false, eval b X.env) :: starEach [] X.env := by rfl) (hpl : (backTo pos (starEach [b] X.env)).any (·.1) = false := by rfl) : PD fl X Wx (.Call (.Name x p) [a, b] [] pos) (e2 f ma mb) :=
  pd_c2 hop ha hb' (fun q => pe_callB hc hb.gl hb.mg hb.bt q hb.nn hb.nd hs hpl) hs hs2
theorem cb_len : Cb1 .s X.K (fun xs H Q => ∃ x n, xs = [x] ∧ LenV X.K x H n ∧ Q (.int n) H) dLen := by
  intro F O env σ H x dx dz Q S rx ef q
  unfold dLen at ef
  split at ef
  · cases ef
    obtain ⟨a, vs, rfl, s, l⟩ := rx.lst'
    exact ⟨_, vs.length, rfl, .inl ⟨vs, s, rfl⟩, by rw [l.len]; exact q _ H S Ke.refl (.int _)⟩
  · cases ef
    obtain ⟨a, vs, rfl, s, l⟩ := rx.tup'
    exact ⟨_, vs.length, rfl, .inr ⟨vs, s, rfl⟩, by rw [l.len]; exact q _ H S Ke.refl (.int _)⟩
  · cases ef
theorem pd_len (hb : Bn X "len" (.builtin "len")) (ha : PD .w X Wx a ma) (hs : starEach [a] X.env = (false, eval a X.env) :: starEach [] X.env := by rfl) : PD .s X Wx (.Call (.Name "len" p) [a] [] pos) (e1 dLen ma) := pd_b1 call_len cb_len hb ha hs
theorem cb_abs : Cb1 .s X.K (fun xs H Q => ∃ i, xs = [.int i] ∧ Q (.int (if i < 0 then -i else i)) H) dAbs := by
  intro F O env σ H x dx dz Q S rx ef q
  unfold dAbs at ef
  split at ef
  · cases ef; exact ⟨_, by rw [rx.int'], q _ H S Ke.refl (.int _)⟩
  · cases ef
theorem pd_abs (hb : Bn X "abs" (.builtin "abs")) (ha : PD .s X Wx a ma) (hs : starEach [a] X.env = (false, eval a X.env) :: starEach [] X.env := by rfl) : PD .s X Wx (.Call (.Name "abs" p) [a] [] pos) (e1 dAbs ma) := pd_b1 call_abs cb_abs hb ha.weak hs
theorem cb_int : Cb1 .s X.K (fun xs H Q => (∃ i, xs = [.int i] ∧ Q (.int i) H) ∨ ∃ k, xs = [.bl k] ∧ Q (.int (if k then 1 else 0)) H) dInt := by
  intro F O env σ H x dx dz Q S rx ef q
  unfold dInt at ef
  split at ef
  · cases ef; exact .inl ⟨_, by rw [rx.int'], q _ H S Ke.refl (.int _)⟩
  · cases ef; exact .inr ⟨_, by rw [rx.bl'], q _ H S Ke.refl (.int _)⟩
  · cases ef
theorem pd_toint (hb : Bn X "int" (.type "int")) (ha : PD .s X Wx a ma) (hs : starEach [a] X.env = (false, eval a X.env) :: starEach [] X.env := by rfl) : PD .s X Wx (.Call (.Name "int" p) [a] [] pos) (e1 dInt ma) := pd_t1 call_int1 cb_int hb ha.weak hs
theorem cb_max2 : Cb2 .s X.K (fun xs H Q => ∃ i j, xs = [.int i, .int j] ∧ Q (.int (if j > i then j else i)) H) dMax2 := by
  intro F O env σ H x y dx dy dz Q S rx ry ef q
  unfold dMax2 at ef
  split at ef
  · cases ef; cases rx; exact ⟨_, _, by rw [ry.int'], q _ H S Ke.refl (.int _)⟩
  · cases ef
theorem pd_max2 (hc : X.calm = true) (hb : Bn X "max" (.builtin "max")) (ha : PD .s X Wx a ma) (hb' : PD .s X Wx b mb) (hs : starEach [a, b] X.env = (false, eval a X.env) :: starEach [b] X.env := by rfl) (hs2 : starEach [b] X.env = (false, eval b X.env) :: starEach [] X.env := by rfl) (hpl : (backTo pos (starEach [b] X.env)).any (·.1) = false := by rfl) :
    PD .s X Wx (.Call (.Name "max" p) [a, b] [] pos) (e2 dMax2 ma mb) := pd_b2 (call_max2 hc) cb_max2 hb ha hb'.weak hs hs2 hpl
theorem cb_min2 : Cb2 .s X.K (fun xs H Q => ∃ i j, xs = [.int i, .int j] ∧ Q (.int (if j < i then j else i)) H) dMin2 := by
  intro F O env σ H x y dx dy dz Q S rx ry ef q
  unfold dMin2 at ef
  split at ef
  · cases ef; cases rx; exact ⟨_, _, by rw [ry.int'], q _ H S Ke.refl (.int _)⟩
  · cases ef
theorem pd_min2 (hc : X.calm = true) (hb : Bn X "min" (.builtin "min")) (ha : PD .s X Wx a ma) (hb' : PD .s X Wx b mb) (hs : starEach [a, b] X.env = (false, eval a X.env) :: starEach [b] X.env := by rfl) (hs2 : starEach [b] X.env = (false, eval b X.env) :: starEach [] X.env := by rfl) (hpl : (backTo pos (starEach [b] X.env)).any (·.1) = false := by rfl) :
    PD .s X Wx (.Call (.Name "min" p) [a, b] [] pos) (e2 dMin2 ma mb) := pd_b2 (call_min2 hc) cb_min2 hb ha hb'.weak hs hs2 hpl
theorem cb_sum : Cb1 .s X.K (rSum X.K) dSum := by
  intro F O env σ H x dx dz Q S rx ef q
  unfold dSum at ef
  split at ef
  · obtain ⟨a, vs, rfl, s, l⟩ := rx.lst'
    split at ef
    · rename_i ns h
      cases ef
      exact ⟨a, ns, rfl, by rw [← l.ints h]; exact s, q _ H S Ke.refl (.int _)⟩
    · cases ef
  · cases ef
theorem pd_sum (hc : X.calm = true) (hb : Bn X "sum" (.builtin "sum")) (ha : PD .w X Wx a ma) (hs : starEach [a] X.env = (false, eval a X.env) :: starEach [] X.env := by rfl) : PD .s X Wx (.Call (.Name "sum" p) [a] [] pos) (e1 dSum ma) := pd_b1 (cr_sum hc) cb_sum hb ha hs
theorem cb_all : Cb1 .s X.K (rAll X.K) dAll := by
  intro F O env σ H x dx dz Q S rx ef q
  unfold dAll at ef
  split at ef
  · obtain ⟨a, vs, rfl, s, l⟩ := rx.lst'
    split at ef
    · rename_i ns h
      cases ef
      exact ⟨a, ns, rfl, by rw [← l.bools h]; exact s, q _ H S Ke.refl (.bl _)⟩
    · cases ef
  · cases ef
theorem pd_all (hc : X.calm = true) (hb : Bn X "all" (.builtin "all")) (ha : PD .w X Wx a ma) (hs : starEach [a] X.env = (false, eval a X.env) :: starEach [] X.env := by rfl) : PD .s X Wx (.Call (.Name "all" p) [a] [] pos) (e1 dAll ma) := pd_b1 (cr_all hc) cb_all hb ha hs
theorem cb_any : Cb1 .s X.K (rAny X.K) dAny := by
  intro F O env σ H x dx dz Q S rx ef q
  unfold dAny at ef
  split at ef
  · obtain ⟨a, vs, rfl, s, l⟩ := rx.lst'
    split at ef
    · rename_i ns h
      cases ef
      exact ⟨a, ns, rfl, by rw [← l.bools h]; exact s, q _ H S Ke.refl (.bl _)⟩
    · cases ef
  · cases ef
theorem pd_any (hc : X.calm = true) (hb : Bn X "any" (.builtin "any")) (ha : PD .w X Wx a ma) (hs : starEach [a] X.env = (false, eval a X.env) :: starEach [] X.env := by rfl) : PD .s X Wx (.Call (.Name "any" p) [a] [] pos) (e1 dAny ma) := pd_b1 (cr_any hc) cb_any hb ha hs
theorem leastOf_spec : ∀ (n : Int) (ns : List Int), leastOf (n :: ns) ∈ n :: ns ∧ ∀ y, y ∈ n :: ns → leastOf (n :: ns) ≤ y
  | n, [] => ⟨List.mem_singleton.mpr rfl, fun y h => by rw [List.mem_singleton.mp h]; exact Int.le_refl _⟩
  | n, m :: r => by
    obtain ⟨h1, h2⟩ := leastOf_spec m r
    have e : leastOf (n :: m :: r) = if leastOf (m :: r) < n then leastOf (m :: r) else n := rfl
    rw [e]
    split
    · rename_i h
      refine ⟨List.mem_cons_of_mem _ h1, fun y hy => ?_⟩
      rcases List.mem_cons.mp hy with rfl | hy
      · omega
      · exact h2 y hy
    · rename_i h
      refine ⟨List.mem_cons_self, fun y hy => ?_⟩
      rcases List.mem_cons.mp hy with rfl | hy
      · exact Int.le_refl _
      · have := h2 y hy; omega
theorem greatestOf_spec : ∀ (n : Int) (ns : List Int), greatestOf (n :: ns) ∈ n :: ns ∧ ∀ y, y ∈ n :: ns → y ≤ greatestOf (n :: ns)
  | n, [] => ⟨List.mem_singleton.mpr rfl, fun y h => by rw [List.mem_singleton.mp h]; exact Int.le_refl _⟩
  | n, m :: r => by
    obtain ⟨h1, h2⟩ := greatestOf_spec m r
    have e : greatestOf (n :: m :: r) = if greatestOf (m :: r) > n then greatestOf (m :: r) else n := rfl
    rw [e]
    split
    · rename_i h
      refine ⟨List.mem_cons_of_mem _ h1, fun y hy => ?_⟩
      rcases List.mem_cons.mp hy with rfl | hy
      · omega
      · exact h2 y hy
    · rename_i h
      refine ⟨List.mem_cons_self, fun y hy => ?_⟩
      rcases List.mem_cons.mp hy with rfl | hy
      · exact Int.le_refl _
      · have := h2 y hy; omega
theorem cb_minL : Cb1 .s X.K (rMin X.K) dMinL := by
  intro F O env σ H x dx dz Q S rx ef q
  unfold dMinL at ef
  split at ef
  · obtain ⟨a, vs, rfl, s, l⟩ := rx.lst'
    split at ef
    · rename_i n ns h
      cases ef
      refine ⟨a, n :: ns, rfl, by rw [← l.ints h]; exact s, by simp, fun m h1 h2 => ?_⟩
      obtain ⟨h3, h4⟩ := leastOf_spec n ns
      have e : m = leastOf (n :: ns) := Int.le_antisymm (h2 _ h3) (h4 _ h1)
      rw [e]
      exact q _ H S Ke.refl (.int _)
    · cases ef
  · cases ef
theorem pd_minL (hc : X.calm = true) (hb : Bn X "min" (.builtin "min")) (ha : PD .w X Wx a ma) (hs : starEach [a] X.env = (false, eval a X.env) :: starEach [] X.env := by rfl) : PD .s X Wx (.Call (.Name "min" p) [a] [] pos) (e1 dMinL ma) := pd_b1 (cr_min hc) cb_minL hb ha hs
theorem cb_maxL : Cb1 .s X.K (rMax X.K) dMaxL := by
  intro F O env σ H x dx dz Q S rx ef q
  unfold dMaxL at ef
  split at ef
  · obtain ⟨a, vs, rfl, s, l⟩ := rx.lst'
    split at ef
    · rename_i n ns h
      cases ef
      refine ⟨a, n :: ns, rfl, by rw [← l.ints h]; exact s, by simp, fun m h1 h2 => ?_⟩
      obtain ⟨h3, h4⟩ := greatestOf_spec n ns
      have e : m = greatestOf (n :: ns) := Int.le_antisymm (h4 _ h1) (h2 _ h3)
      rw [e]
      exact q _ H S Ke.refl (.int _)
    · cases ef
  · cases ef
theorem pd_maxL (hc : X.calm = true) (hb : Bn X "max" (.builtin "max")) (ha : PD .w X Wx a ma) (hs : starEach [a] X.env = (false, eval a X.env) :: starEach [] X.env := by rfl) : PD .s X Wx (.Call (.Name "max" p) [a] [] pos) (e1 dMaxL ma) := pd_b1 (cr_max hc) cb_maxL hb ha hs
/-- tuple(x): of a list that may be the frame's own, of a tuple that stays -/
def dTupleL (d : D) : Rv D := match d with
  | .lst xs => .ok (.tup xs)
  | _ => .bad
theorem cb_tuple : Cb1 .s X.K (fun xs H Q => ∃ p ys, xs = [.ref p] ∧ ((SqL X.K H p ys ∧ ∀ l, H l = none → Q (.ref l) (upd H l (.tup ys))) ∨ (SqT X.K H p ys ∧ Q (.ref p) H))) dTupleL := by
  intro F O env σ H x dx dz Q S rx ef q
  unfold dTupleL at ef
  split at ef
  · cases ef
    obtain ⟨a, vs, rfl, s, l⟩ := rx.lst'
    exact ⟨a, vs, rfl, .inl ⟨s, fun p hp => new_tup S l q hp⟩⟩
  · cases ef
theorem pd_tuple (hb : Bn X "tuple" (.type "tuple")) (ha : PD .s X Wx a ma) (hs : starEach [a] X.env = (false, eval a X.env) :: starEach [] X.env := by rfl) : PD .s X Wx (.Call (.Name "tuple" p) [a] [] pos) (e1 dTuple ma) := by
  obtain ⟨ta, pa, qa⟩ := ha
  refine ⟨_, pe_callTy call_tuple_of hb.gl hb.mg hb.bt (pa_cons pa pa_nil hs) hb.nn hb.nd hs rfl, fun F O env σ H Q S w => ?_⟩
  refine qa F O env σ H _ S (w.bind.imp (fun dx e1 w1 x H1 S1 k1 p1 => ?_) fun _ _ _ z => z)
  obtain ⟨dz, ef, q⟩ := w1.of
  cases p1 with
  | lst n h l =>
    cases ef
    exact ⟨_, _, rfl, .inl ⟨.inl (.inl h), fun p hp => new_tup S1 l (fun z H' S' k2 r => q z H' S' (k1.trans k2) r) hp⟩⟩
  | tup n h l =>
    cases ef
    exact ⟨_, _, rfl, .inr ⟨.inl (.inl h), q _ H1 S1 k1 (.tup n h l)⟩⟩
  | _ => cases ef
theorem pd_tupleL (hb : Bn X "tuple" (.type "tuple")) (ha : PD .w X Wx a ma) (hs : starEach [a] X.env = (false, eval a X.env) :: starEach [] X.env := by rfl) : PD .s X Wx (.Call (.Name "tuple" p) [a] [] pos) (e1 dTupleL ma) := pd_t1 call_tuple_of cb_tuple hb ha hs
theorem cb_list : Cb1 .f X.K (fun xs H Q => ∃ p ys, xs = [.ref p] ∧ (SqL X.K H p ys ∨ SqT X.K H p ys) ∧ ∀ l, H l = none → Q (.ref l) (upd H l (.lst ys))) dList := by
  intro F O env σ H x dx dz Q S rx ef q
  unfold dList at ef
  split at ef
  · cases ef
    obtain ⟨a, vs, rfl, s, l⟩ := rx.lst'
    exact ⟨a, vs, rfl, .inl s, fun p hp => new_lst S l q hp⟩
  · cases ef
    obtain ⟨a, vs, rfl, s, l⟩ := rx.tup'
    exact ⟨a, vs, rfl, .inr s, fun p hp => new_lst S l q hp⟩
  · cases ef
theorem pd_list (hb : Bn X "list" (.type "list")) (ha : PD .w X Wx a ma) (hs : starEach [a] X.env = (false, eval a X.env) :: starEach [] X.env := by rfl) : PD .f X Wx (.Call (.Name "list" p) [a] [] pos) (e1 dList ma) := pd_t1 call_list_of cb_list hb ha hs
/-! ### isinstance -/
inductive Ty where
  | int | bool | str | list | tuple | dict
  deriving DecidableEq
def Ty.nm : Ty → String
  | .int => "int" | .bool => "bool" | .str => "str" | .list => "list" | .tuple => "tuple" | .dict => "dict"
def isi (t : Ty) (d : D) : Bool := match t, d with
  | .int, .int _ => true
  | .int, .bl _ => true
  | .bool, .bl _ => true
  | .str, .str _ => true
  | .list, .lst _ => true
  | .tuple, .tup _ => true
  | .dict, .dic _ => true
  | _, _ => false
def tyD : D → String
  | .non => "NoneType" | .bl _ => "bool" | .int _ => "int" | .str _ => "str" | .lst _ => "list" | .tup _ => "tuple" | .dic _ => "dict" | _ => ""
def isPy : D → Bool
  | .exc _ _ _ => false
  | .obj _ => false
  | _ => true
theorem kit_isi : ∀ (t : Ty) (d : D), isPy d = true → kitB (tyD d) t.nm = some (isi t d)
  | .int, .non, _ => (by decide +kernel : kitB "NoneType" "int" = some false)
  | .int, .bl _, _ => (by decide +kernel : kitB "bool" "int" = some true)
  | .int, .int _, _ => (by decide +kernel : kitB "int" "int" = some true)
  | .int, .str _, _ => (by decide +kernel : kitB "str" "int" = some false)
  | .int, .lst _, _ => (by decide +kernel : kitB "list" "int" = some false)
  | .int, .tup _, _ => (by decide +kernel : kitB "tuple" "int" = some false)
  | .int, .dic _, _ => (by decide +kernel : kitB "dict" "int" = some false)
  | .int, .exc _ _ _, h => by cases h
  | .int, .obj _, h => by cases h
  | .bool, .non, _ => (by decide +kernel : kitB "NoneType" "bool" = some false)
  | .bool, .bl _, _ => (by decide +kernel : kitB "bool" "bool" = some true)
  | .bool, .int _, _ => (by decide +kernel : kitB "int" "bool" = some false)
  | .bool, .str _, _ => (by decide +kernel : kitB "str" "bool" = some false)
  | .bool, .lst _, _ => (by decide +kernel : kitB "list" "bool" = some false)
  | .bool, .tup _, _ => (by decide +kernel : kitB "tuple" "bool" = some false)
  | .bool, .dic _, _ => (by decide +kernel : kitB "dict" "bool" = some false)
  | .bool, .exc _ _ _, h => by cases h
  | .bool, .obj _, h => by cases h
  | .str, .non, _ => (by decide +kernel : kitB "NoneType" "str" = some false)
  | .str, .bl _, _ => (by decide +kernel : kitB "bool" "str" = some false)
  | .str, .int _, _ => (by decide +kernel : kitB "int" "str" = some false)
  | .str, .str _, _ => (by decide +kernel : kitB "str" "str" = some true)
  | .str, .lst _, _ => (by decide +kernel : kitB "list" "str" = some false)
  | .str, .tup _, _ => (by decide +kernel : kitB "tuple" "str" = some false)
  | .str, .dic _, _ => (by decide +kernel : kitB "dict" "str" = some false)
  | .str, .exc _ _ _, h => by cases h
  | .str, .obj _, h => by cases h
  | .list, .non, _ => (by decide +kernel : kitB "NoneType" "list" = some false)
  | .list, .bl _, _ => (by decide +kernel : kitB "bool" "list" = some false)
  | .list, .int _, _ => (by decide +kernel : kitB "int" "list" = some false)
  | .list, .str _, _ => (by decide +kernel : kitB "str" "list" = some false)
  | .list, .lst _, _ => (by decide +kernel : kitB "list" "list" = some true)
  | .list, .tup _, _ => (by decide +kernel : kitB "tuple" "list" = some false)
  | .list, .dic _, _ => (by decide +kernel : kitB "dict" "list" = some false)
  | .list, .exc _ _ _, h => by cases h
  | .list, .obj _, h => by cases h
  | .tuple, .non, _ => (by decide +kernel : kitB "NoneType" "tuple" = some false)
  | .tuple, .bl _, _ => (by decide +kernel : kitB "bool" "tuple" = some false)
  | .tuple, .int _, _ => (by decide +kernel : kitB "int" "tuple" = some false)
  | .tuple, .str _, _ => (by decide +kernel : kitB "str" "tuple" = some false)
  | .tuple, .lst _, _ => (by decide +kernel : kitB "list" "tuple" = some false)
  | .tuple, .tup _, _ => (by decide +kernel : kitB "tuple" "tuple" = some true)
  | .tuple, .dic _, _ => (by decide +kernel : kitB "dict" "tuple" = some false)
  | .tuple, .exc _ _ _, h => by cases h
  | .tuple, .obj _, h => by cases h
  | .dict, .non, _ => (by decide +kernel : kitB "NoneType" "dict" = some false)
  | .dict, .bl _, _ => (by decide +kernel : kitB "bool" "dict" = some false)
  | .dict, .int _, _ => (by decide +kernel : kitB "int" "dict" = some false)
  | .dict, .str _, _ => (by decide +kernel : kitB "str" "dict" = some false)
  | .dict, .lst _, _ => (by decide +kernel : kitB "list" "dict" = some false)
  | .dict, .tup _, _ => (by decide +kernel : kitB "tuple" "dict" = some false)
  | .dict, .dic _, _ => (by decide +kernel : kitB "dict" "dict" = some true)
  | .dict, .exc _ _ _, h => by cases h
  | .dict, .obj _, h => by cases h
theorem Rep.ty {K : PySem.W.Frag} {W : Pr} {H : Hp} {v : V} {d : D} (r : Rep W H v d) : TyX K H v (.type (tyD d)) ∧ isPy d = true := by
  cases r with
  | non => exact ⟨.base .non, rfl⟩
  | bl b => exact ⟨.base (.bl b), rfl⟩
  | int b => exact ⟨.base (.int b), rfl⟩
  | str b => exact ⟨.base (.str b), rfl⟩
  | tup n h l => exact ⟨.base (.tup h), rfl⟩
  | lst n h l => exact ⟨.base (.lst h), rfl⟩
  | dic n h l => exact ⟨.base (.dT h), rfl⟩
def eIsi (t : Ty) (a : DE) : DE := a.bind fun x => M.pure (.bl (isi t x))
def eIsi2 (t u : Ty) (a : DE) : DE := a.bind fun x => M.pure (.bl (isi t x || isi u x))
theorem pe_ty {x : Str} {n : String} (hb : Bn X x (.type n)) : PE X (.Name x p) (tC (.ty n)) := pe_bltn (v := .ty n) hb.gl hb.mg hb.bt rfl hb.nn hb.nd
theorem pd_isi {y : Str} {t : Ty} {p2 : Pos} (hb : Bn X "isinstance" (.builtin "isinstance")) (hy : Bn X y (.type t.nm)) (ha : PD .s X Wx a ma)
    (hs : starEach [a, .Name y p2] X.env = (false, eval a X.env) :: starEach [.Name y p2] X.env := by rfl) : PD .s X Wx (.Call (.Name "isinstance" p) [a, .Name y p2] [] pos) (eIsi t ma) := by
  obtain ⟨ta, pa, qa⟩ := ha
  refine ⟨_, pe_callB call_isi hb.gl hb.mg hb.bt (pa_cons pa (pa_cons (pe_ty hy) pa_nil) hs) hb.nn hb.nd hs rfl, fun F O env σ H Q S w => ?_⟩
  refine qa F O env σ H _ S (w.bind.imp (fun dx e1 w1 x H1 S1 k1 p1 => ?_) fun _ _ _ z => z)
  obtain ⟨ty, ip⟩ := Rep.ty (K := X.K) p1
  exact ⟨x, .ty t.nm, _, _, _, rfl, .ty _, ty, kit_ty (kit_isi t dx ip), w1 _ H1 S1 k1 (.bl _)⟩
theorem pd_isi2 {y z : Str} {t u : Ty} {p2 p3 p4 : Pos} {k : Nat} (hb : Bn X "isinstance" (.builtin "isinstance")) (hy : Bn X y (.type t.nm)) (hz : Bn X z (.type u.nm)) (ha : PD .s X Wx a ma)
    (hs : starEach [a, .Tuple [.Name y p2, .Name z p3] k p4] X.env = (false, eval a X.env) :: starEach [.Tuple [.Name y p2, .Name z p3] k p4] X.env := by rfl) :
    PD .s X Wx (.Call (.Name "isinstance" p) [a, .Tuple [.Name y p2, .Name z p3] k p4] [] pos) (eIsi2 t u ma) := by
  obtain ⟨ta, pa, qa⟩ := ha
  refine ⟨_, pe_callB call_isiT hb.gl hb.mg hb.bt (pa_cons pa (pa_cons (pe_tup (pa_cons (pe_ty hy) (pa_cons (pe_ty hz) pa_nil))) pa_nil) hs) hb.nn hb.nd hs rfl, fun F O env σ H Q S w => ?_⟩
  refine qa F O env σ H _ S (w.bind.imp (fun dx e1 w1 x H1 S1 k1 p1 => ?_) fun _ _ _ z => z)
  refine ⟨by show 2 ≤ sizeLine; rw [sizeLine_eq]; decide, fun tp htp => ?_⟩
  have r2 : Rep (Ow F O) (upd H1 tp (.tup [.ty t.nm, .ty u.nm])) x dx := Rep.mj (Ke.new htp) p1
  obtain ⟨ty, ip⟩ := Rep.ty (K := X.K) r2
  refine ⟨x, tp, _, _, [.type t.nm, .type u.nm], _, rfl, upd_same, .cons (.ty _) (.cons (.ty _) .nil), ty, ?_, w1 _ _ (S1.new' htp) (k1.trans (Ke.new htp)) (.bl _)⟩
  refine kitAny_cons (kit_ty (kit_isi t dx ip)) (fun h => kitAny_cons (kit_ty (kit_isi u dx ip)) (fun h2 => ?_) fun h2 => ?_) fun h => ?_
  · rw [h, h2]; exact kitAny_nil
  · rw [h2]; simp
  · rw [h]; simp
end
end AH
namespace AH
open PySem PySem.Spec PyProof.Rows L2
/-! ### slots stored -/
theorem sl_put_ne : ∀ (e : Env) (i j : Nat) (s : Sl), j ≠ i → sl (put e i s) j = sl e j
  | [], _, _, _, _ => rfl
  | _ :: r, 0, 0, _, h => absurd rfl h
  | _ :: r, 0, j + 1, _, _ => rfl
  | _ :: r, i + 1, 0, _, _ => rfl
  | _ :: r, i + 1, j + 1, s, h => sl_put_ne r i j s (fun e => h (by rw [e]))
theorem sl_put_same : ∀ (e : Env) (i : Nat) (s : Sl), i < e.length → sl (put e i s) i = s
  | [], _, _, h => absurd h (Nat.not_lt_zero _)
  | _ :: _, 0, _, _ => rfl
  | _ :: r, i + 1, s, h => sl_put_same r i s (Nat.lt_of_succ_lt_succ h)
theorem sl_out : ∀ (e : Env) (i : Nat), e.length ≤ i → sl e i = .no
  | [], _, _ => rfl
  | _ :: _, 0, h => absurd h (Nat.not_succ_le_zero _)
  | _ :: r, i + 1, h => sl_out r i (Nat.le_of_succ_le_succ h)
theorem put_len : ∀ (e : Env) (i : Nat) (s : Sl), (put e i s).length = e.length
  | [], _, _ => rfl
  | _ :: _, 0, _ => rfl
  | _ :: r, i + 1, s => by show (put r i s).length + 1 = r.length + 1; rw [put_len r i s]
theorem put_out : ∀ (e : Env) (i : Nat) (s : Sl), e.length ≤ i → put e i s = e
  | [], _, _, _ => rfl
  | _ :: _, 0, _, h => absurd h (Nat.not_succ_le_zero _)
  | x :: r, i + 1, s, h => by show x :: put r i s = x :: r; rw [put_out r i s (Nat.le_of_succ_le_succ h)]
theorem get1_ne {σ : L2.St} {i j : Nat} {o : Option V} (h : j ≠ i) : get1 (σ.set i o) j = get1 σ j := by
  unfold get1; rw [List.getElem?_set_ne (Ne.symm h)]
theorem get1_same {σ : L2.St} {i : Nat} {o : Option V} (h : i < σ.length) : get1 (σ.set i o) i = o := by
  unfold get1; rw [List.getElem?_set_self h]; rfl
theorem get1_out {σ : L2.St} {i : Nat} (h : σ.length ≤ i) : get1 σ i = none := by
  unfold get1; rw [List.getElem?_eq_none h]; rfl
def setO (O : Nat → Option Addr) (i : Nat) (x : Option Addr) : Nat → Option Addr := fun j => if j = i then x else O j
theorem setO_same {O : Nat → Option Addr} {i : Nat} {x : Option Addr} : setO O i x i = x := if_pos rfl
theorem setO_ne {O : Nat → Option Addr} {i j : Nat} {x : Option Addr} (h : j ≠ i) : setO O i x j = O j := if_neg h
section
variable {K : PySem.W.Frag} {F : Fm} {O : Nat → Option Addr} {env : Env} {σ : L2.St} {H H' : Hp} {i : Nat} {v : V} {d : D} {p : Addr}
/-- a slot seen with other owners -/
theorem SlR.own {F' : Fm} {O' : Nat → Option Addr} {ov : Option V} (hb : F'.ba = F.ba) (h0 : F'.H0 = F.H0) (ho : O' i = O i) (gp : ∀ a, F'.P a → F.P a) (g : ∀ a, Ow F' O' a → Ow F O a ∨ H a = none) (gn : ∀ a, Jo O' a ∨ F'.N a → (Jo O a ∨ F.N a) ∨ H a = none) : ∀ {s : Sl}, SlR K F O H i ov s → SlR K F' O' H i ov s := by
  intro s h
  cases s with
  | no => exact ho.trans h
  | val d => obtain ⟨h, v, e, r⟩ := h; exact ⟨ho.trans h, v, e, r.sub g⟩
  | ro d => obtain ⟨h, v, e, r⟩ := h; exact ⟨ho.trans h, v, e, r.go Ke.refl g gn⟩
  | own xs => obtain ⟨a, vs, h, hz, e, q, r⟩ := h; exact ⟨a, vs, ho.trans h, ⟨by rw [h0]; exact hz.1, fun z => hz.2 (gp a z)⟩, e, q, r.sub g⟩
  | bor xs => obtain ⟨a, vs, h, hz, e, q, r⟩ := h; exact ⟨a, vs, ho.trans h, by rw [hb]; exact hz, e, q, r.sub g⟩
  | odc kvs => obtain ⟨a, vs, h, hz, e, q, r⟩ := h; exact ⟨a, vs, ho.trans h, ⟨by rw [h0]; exact hz.1, fun z => hz.2 (gp a z)⟩, e, q, r.sub g⟩
  | ldc kvs => obtain ⟨a, vs, o, h, hz, e, q, r⟩ := h; exact ⟨a, vs, o, ho.trans h, ⟨by rw [h0]; exact hz.1, fun z => hz.2 (gp a z)⟩, e, q, r.sub g⟩
theorem ow_setN {a : Addr} (w : Ow F (setO O i none) a) : Ow F O a := by
  rcases w with w | ⟨j, w⟩
  · exact .inl w
  · by_cases hj : j = i
    · subst hj; rw [setO_same] at w; cases w
    · rw [setO_ne hj] at w; exact .inr ⟨j, w⟩
theorem jo_setN {a : Addr} (w : Jo (setO O i none) a) : Jo O a := by
  obtain ⟨j, w⟩ := w
  by_cases hj : j = i
  · subst hj; rw [setO_same] at w; cases w
  · rw [setO_ne hj] at w; exact ⟨j, w⟩
theorem inj_setN (S : SR K F O env σ H) : ∀ k j a, setO O i none k = some a → setO O i none j = some a → k = j := fun k j a h1 h2 => by
  by_cases hk : k = i
  · rw [hk, setO_same] at h1; cases h1
  · by_cases hj : j = i
    · rw [hj, setO_same] at h2; cases h2
    · rw [setO_ne hk] at h1; rw [setO_ne hj] at h2; exact S.inj k j a h1 h2
/-- a value stored; what the slot owned is let go -/
theorem SR.setVal (S : SR K F O env σ H) (r : Rep (Ow F O) H v d) : SR K F (setO O i none) (put env i (.val d)) (σ.set i (some v)) H where
  slot := fun j => by
    by_cases hj : j = i
    · subst hj
      by_cases hl : j < env.length
      · rw [sl_put_same _ _ _ hl, get1_same (by rw [← S.len]; exact hl)]
        exact ⟨setO_same, v, rfl, r.sub fun a w => .inl (ow_setN w)⟩
      · rw [put_out _ _ _ (by omega), sl_out _ _ (by omega)]
        exact setO_same
    · rw [sl_put_ne _ _ _ _ hj, get1_ne hj]
      exact SlR.own (F := F) rfl rfl (setO_ne hj) (fun _ z => z) (fun a w => .inl (ow_setN w)) (fun a w => .inl (w.elim (fun w => .inl (jo_setN w)) .inr)) (S.slot j)
  inj := inj_setN S
  prot := fun a w => S.prot a (ow_setN w)
  keep := S.keep
  al := S.al
  len := by rw [put_len, List.length_set]; exact S.len
  nal := S.nal
theorem setO_id (h : O i = none) : setO O i none = O := by
  funext j
  by_cases hj : j = i
  · rw [hj, setO_same, h]
  · rw [setO_ne hj]
theorem SR.notOwn (S : SR K F O env σ H) (h : isOwn (sl env i) = false) : O i = none := by
  have s := S.slot i
  cases q : sl env i with
  | no => rw [q] at s; exact s
  | val d => rw [q] at s; exact s.1
  | ro d => rw [q] at s; exact s.1
  | _ => rw [q] at h; cases h
theorem SR.set (S : SR K F O env σ H) (h : isOwn (sl env i) = false) (r : Rep (Ow F O) H v d) : SR K F O (put env i (.val d)) (σ.set i (some v)) H := by
  have q := S.setVal (i := i) r
  rw [setO_id (S.notOwn h)] at q
  exact q
theorem ow_setS {a : Addr} (w : Ow F (setO O i (some p)) a) : Ow (F.ad p) O a := by
  rcases w with w | ⟨j, w⟩
  · exact .inl (.inl w)
  · by_cases hj : j = i
    · subst hj; rw [setO_same] at w; cases w; exact .inl (.inr rfl)
    · rw [setO_ne hj] at w; exact .inr ⟨j, w⟩
theorem jo_setS {a : Addr} (w : Jo (setO O i (some p)) a) : Jo O a ∨ a = p := by
  obtain ⟨j, w⟩ := w
  by_cases hj : j = i
  · subst hj; rw [setO_same] at w; cases w; exact .inr rfl
  · rw [setO_ne hj] at w; exact .inl ⟨j, w⟩
/-- a new object becomes the slot's own -/
theorem SR.setNew (S : SR K (F.ad p) O env σ H) {s : Sl} (np : ¬ Jo O p) (hl : i < env.length) (hs : SlR K F (setO O i (some p)) H i (some (.ref p)) s) : SR K F (setO O i (some p)) (put env i s) (σ.set i (some (.ref p))) H where
  slot := fun j => by
    by_cases hj : j = i
    · subst hj
      rw [sl_put_same _ _ _ hl, get1_same (by rw [← S.len]; exact hl)]
      exact hs
    · rw [sl_put_ne _ _ _ _ hj, get1_ne hj]
      refine SlR.own (F := F.ad p) (F' := F) rfl rfl (setO_ne hj) (fun _ z => .inl z) (fun a w => .inl (ow_setS w)) (fun a w => .inl ?_) (S.slot j)
      rcases w with w | w
      · rcases jo_setS w with w | rfl
        · exact .inl w
        · exact .inr (.inr rfl)
      · exact .inr (.inl w)
  inj := fun k j a h1 h2 => by
    by_cases hk : k = i
    · subst hk
      rw [setO_same] at h1
      cases h1
      by_cases hj : j = k
      · exact hj.symm
      · rw [setO_ne hj] at h2; exact absurd ⟨j, h2⟩ np
    · rw [setO_ne hk] at h1
      by_cases hj : j = i
      · subst hj
        rw [setO_same] at h2
        cases h2
        exact absurd ⟨k, h1⟩ np
      · rw [setO_ne hj] at h2; exact S.inj k j a h1 h2
  prot := fun a w => S.prot a (ow_setS w)
  keep := S.keep
  al := S.al
  len := by rw [put_len, List.length_set]; exact S.len
  nal := fun a w => S.nal a (.inl w)
/-- the slot's own object is changed -/
theorem SR.mut {a : Addr} {o' : HO} {s' : Sl} (S : SR K F O env σ H) (hO : O i = some a) (hb : F.bo a ∨ F.H0 a = none) (hs : SlR K F O (upd H a o') i (get1 σ i) s') : SR K F O (put env i s') σ (upd H a o') := by
  have ja : Jo O a := ⟨i, hO⟩
  have k : Ke (Jo O) H (upd H a o') := Ke.mut ja
  refine ⟨fun j => ?_, S.inj, fun b w => k.there b (S.prot b w), fun b o e n => ?_, fun b e => k.there b (S.al b e), by rw [put_len]; exact S.len, fun b w => k.there b (S.nal b w)⟩
  · by_cases hj : j = i
    · subst hj
      by_cases hl : j < env.length
      · rw [sl_put_same _ _ _ hl]; exact hs
      · have q := S.slot j
        rw [sl_out _ _ (by omega)] at q
        have q2 : O j = none := q
        rw [hO] at q2
        cases q2
    · rw [sl_put_ne _ _ _ _ hj]
      have q := S.slot j
      have na : ∀ b, O j = some b → b ≠ a := fun b e z => hj (S.inj j i a (by rw [e, z]) hO)
      cases z : sl env j with
      | no => rw [z] at q; exact q
      | val d => rw [z] at q; obtain ⟨h, v, e, r⟩ := q; exact ⟨h, v, e, r.mj k⟩
      | ro d => rw [z] at q; obtain ⟨h, v, e, r⟩ := q; exact ⟨h, v, e, r.go k (fun _ z => .inl z) fun _ z => .inl z⟩
      | own xs => rw [z] at q; obtain ⟨b, vs, h, hz, e, q, r⟩ := q; exact ⟨b, vs, h, hz, e, by rw [upd_ne (na b h)]; exact q, r.mj k⟩
      | bor xs => rw [z] at q; obtain ⟨b, vs, h, hz, e, q, r⟩ := q; exact ⟨b, vs, h, hz, e, by rw [upd_ne (na b h)]; exact q, r.mj k⟩
      | odc kvs => rw [z] at q; obtain ⟨b, vs, h, hz, e, q, r⟩ := q; exact ⟨b, vs, h, hz, e, by rw [upd_ne (na b h)]; exact q, r.mj k⟩
      | ldc kvs => rw [z] at q; obtain ⟨b, vs, o, h, hz, e, q, r⟩ := q; exact ⟨b, vs, o, h, hz, e, by rw [upd_ne (na b h)]; exact q, r.mj k⟩
  · have nb : b ≠ a := fun z => by
      subst z
      rcases hb with hb | hb
      · exact n hb
      · rw [hb] at e; cases e
    rw [upd_ne nb]
    exact S.keep b o e n
/-- an own list, lent or not: what stands there -/
theorem SR.ownAt (S : SR K F O env σ H) {xs : List D} (h : sl env i = .own xs ∨ sl env i = .bor xs) : ∃ a vs, O i = some a ∧ (F.bo a ∨ F.H0 a = none) ∧ get1 σ i = some (.ref a) ∧ H a = some (.lst vs) ∧ RepL (Ow F O) H vs xs ∧
    ∀ (H' : Hp) (vs' : List V) (ys : List D), H' a = some (.lst vs') → RepL (Ow F O) H' vs' ys → SlR K F O H' i (get1 σ i) (match sl env i with | .own _ => .own ys | .bor _ => .bor ys | s => s) := by
  have s := S.slot i
  rcases h with h | h
  · rw [h] at s ⊢
    obtain ⟨a, vs, h1, h0, h2, h3, r⟩ := s
    exact ⟨a, vs, h1, .inr h0.1, h2, h3, r, fun H' vs' ys e r' => ⟨a, vs', h1, h0, h2, e, r'⟩⟩
  · rw [h] at s ⊢
    obtain ⟨a, vs, h1, h0, h2, h3, r⟩ := s
    exact ⟨a, vs, h1, .inl ⟨i, h0⟩, h2, h3, r, fun H' vs' ys e r' => ⟨a, vs', h1, h0, h2, e, r'⟩⟩
/-- the own object is let go -/
theorem SR.rel (S : SR K F O env σ H) {xs : List D} (h : sl env i = .own xs) : SR K F (setO O i none) (put env i (.val (.lst xs))) σ H := by
  have s := S.slot i
  rw [h] at s
  obtain ⟨a, vs, h1, h0, h2, h3, r⟩ := s
  have hl : i < env.length := Nat.lt_of_not_le fun z => by rw [sl_out _ _ z] at h; cases h
  refine ⟨fun j => ?_, inj_setN S, fun a w => S.prot a (ow_setN w), S.keep, S.al, by rw [put_len]; exact S.len, S.nal⟩
  by_cases hj : j = i
  · subst hj
    rw [sl_put_same _ _ _ hl]
    refine ⟨setO_same, _, h2, ?_⟩
    by_cases hw : Ow F (setO O j none) a
    · rcases hw with hw | ⟨k, hw⟩
      · exact absurd hw h0.2
      · by_cases hk : k = j
        · rw [hk, setO_same] at hw; cases hw
        · rw [setO_ne hk] at hw
          exact absurd (S.inj k j a hw h1) hk
    · exact .lst hw h3 (r.sub fun a w => .inl (ow_setN w))
  · rw [sl_put_ne _ _ _ _ hj]
    exact SlR.own (F := F) rfl rfl (setO_ne hj) (fun _ z => z) (fun a w => .inl (ow_setN w)) (fun a w => .inl (w.elim (fun w => .inl (jo_setN w)) .inr)) (S.slot j)
end
end AH
namespace AH
open PySem PySem.Spec PyProof.Rows L2
/-! ### targets -/
def Wp (js : List Nat) (σ σ' : L2.St) : Prop := ∀ vs : List Nat, (∀ j ∈ js, j ∈ vs) → wipe σ' vs = wipe σ vs
theorem wipe_get {σ : L2.St} {i : Nat} : ∀ {vs : List Nat}, (wipe σ vs)[i]? = if i ∈ vs then (σ[i]?).map (fun _ => none) else σ[i]?
  | [] => by simp [wipe]
  | v :: vs => by
    unfold wipe
    by_cases h : v = i
    · subst h
      by_cases hl : v < (wipe σ vs).length
      · rw [List.getElem?_set_self hl]
        rw [wipe_length] at hl
        simp [hl]
      · rw [List.getElem?_eq_none (by rw [List.length_set]; omega)]
        rw [wipe_length] at hl
        rw [List.getElem?_eq_none (l := σ) (by omega)]
        simp
    · rw [List.getElem?_set_ne h, wipe_get]
      have e : (i ∈ v :: vs) ↔ i ∈ vs := by
        rw [List.mem_cons]
        exact ⟨fun z => z.elim (fun z => absurd z.symm h) id, .inr⟩
      simp only [e]
theorem wipe_set {σ : L2.St} {i : Nat} {o : Option V} {vs : List Nat} (h : i ∈ vs) : wipe (σ.set i o) vs = wipe σ vs := by
  apply List.ext_getElem?
  intro j
  rw [wipe_get, wipe_get]
  by_cases hj : j = i
  · subst hj
    rw [if_pos h, if_pos h]
    by_cases hl : j < σ.length
    · rw [List.getElem?_set_self hl]
      simp [hl]
    · rw [List.getElem?_eq_none (by rw [List.length_set]; omega), List.getElem?_eq_none (by omega)]
  · rw [List.getElem?_set_ne (Ne.symm hj)]
def NoEx {α : Type} (m : M α) : Prop := ∀ e c fs e', m e ≠ .ex c fs e'
def GD (X : Cx) (tg : Expr) (js : List Nat) (g : DG) : Prop := (∀ d, NoEx (g d)) ∧ ∃ t : TG, PG X tg t ∧ ∀ (F : Fm) (O : Nat → Option Addr) (env : Env) (σ : L2.St) (H : Hp) (v : V) (d : D) (Q : L2.St → Hp → Prop), SR X.K F O env σ H → Rep (Ow F O) H v d →
  Want (g d) env (fun _ e1 => ∀ σ', SR X.K F O e1 σ' H → Wp js σ σ' → Q σ' H) (fun _ _ _ => True) → t v σ H Q
def GsD (X : Cx) (tgs : List Expr) (js : List Nat) (g : DGs) : Prop := (∀ d, NoEx (g d)) ∧ ∃ t : TGs, PGs X tgs t ∧ ∀ (F : Fm) (O : Nat → Option Addr) (env : Env) (σ : L2.St) (H : Hp) (vs : List V) (ds : List D) (Q : L2.St → Hp → Prop), SR X.K F O env σ H → RepL (Ow F O) H vs ds →
  Want (g ds) env (fun _ e1 => ∀ σ', SR X.K F O e1 σ' H → Wp js σ σ' → Q σ' H) (fun _ _ _ => True) → t vs σ H Q
section
variable {X : Cx} {Wx : WX} {e a b c d tg : Expr} {ma mb mc md : DE} {pos p : Pos}
theorem gd_name {i : Nat} {x : Str} (hN : X.N.Nodup) (hi : X.N[i]? = some x) (hx : Loc X.env.scope x) (hf : X.fn x = true ∨ X.env.scope.names.lookup x = some .local := by first | exact .inl rfl | exact .inr rfl | assumption) : GD X (.Name x pos) [i] (gN i) := by
  refine ⟨fun d e c fs e' h => ?_, _, pg_name hN hi hx hf, fun F O env σ H v d Q S r w => ?_⟩
  · unfold gN at h
    split at h <;> cases h
  unfold Want gN at w
  cases h : isOwn (sl env i) with
  | true => rw [h] at w; exact w.elim
  | false =>
    rw [h] at w
    exact w _ (S.set h r) fun vs hv => wipe_set (hv i (List.mem_singleton.mpr rfl))
theorem gsd_nil : GsD X [] [] gsNil := by
  refine ⟨fun d e c fs e' h => (by cases d <;> cases h), _, pgs_nil, fun F O env σ H vs ds Q S r w => ?_⟩
  cases r with
  | nil => exact ⟨rfl, w σ S fun _ _ => rfl⟩
  | cons _ _ => exact w.elim
theorem gsd_cons {es : List Expr} {js ks : List Nat} {g : DG} {gs : DGs} (h : GD X a js g) (hs : GsD X es ks gs) (he : (assignEach (a :: es) X.env).map (·.2) = assign a X.env :: (assignEach es X.env).map (·.2) := by rfl) : GsD X (a :: es) (js ++ ks) (gsCons g gs) := by
  obtain ⟨nx, t, p, q⟩ := h
  obtain ⟨nx', t', p', q'⟩ := hs
  refine ⟨fun d e c fs e' h => ?_, _, pgs_cons p p' he, fun F O env σ H vs ds Q S r w => ?_⟩
  · cases d with
    | nil => cases h
    | cons d ds =>
      have h : ((g d).bind fun _ => gs ds) e = .ex c fs e' := h
      unfold M.bind at h
      cases hg : g d e with
      | ok u e1 => rw [hg] at h; exact nx' ds e1 c fs e' h
      | ex c2 fs2 e1 => exact nx d e c2 fs2 e1 hg
      | bad => rw [hg] at h; cases h
  cases r with
  | nil => exact w.elim
  | cons r l =>
    refine ⟨_, _, rfl, q F O env σ H _ _ _ S r (w.bind.imp (fun _ e1 w1 σ' S' wp => ?_) fun _ _ _ z => z)⟩
    exact q' F O e1 σ' H _ _ _ S' l (Want.imp (m := gs _) w1 (fun _ e2 w2 σ2 S2 wp2 => w2 σ2 S2 fun us hu => (wp2 us fun j hj => hu j (List.mem_append_right _ hj)).trans (wp us fun j hj => hu j (List.mem_append_left _ hj))) fun _ _ _ z => z)
theorem gd_tup {es : List Expr} {k : Nat} {js : List Nat} {gs : DGs} {n : Nat} (hc : X.calm = true) (h : GsD X es js gs) (hlen : ∀ ds env o e, gs ds env = .ok o e → ds.length = n)
    (hn : (assignEach es X.env).length = n := by rfl) (hst : (assignEach es X.env).findIdx? (·.1) = none := by rfl) : GD X (.Tuple es k pos) js (gT gs) := by
  obtain ⟨nx, t, p, q⟩ := h
  have pe : PG X (.Tuple es k pos) (fun v σ H Q => gTup X.K n t v σ H Q ∨ gUnl X.K n t v σ H Q) := by
    refine ⟨fun pins s σ H v u Q I r hw => ?_⟩
    rcases hw with hw | hw
    · exact (pg_tup hc p hn hst).run pins s σ H v u Q I r hw
    · exact (pg_unl hc p hn hst).run pins s σ H v u Q I r hw
  refine ⟨fun d e c fs e' h => ?_, _, pe, fun F O env σ H v d Q S r w => ?_⟩
  · cases d with
    | tup xs => exact nx xs e c fs e' h
    | lst xs => exact nx xs e c fs e' h
    | _ => cases h
  have len : ∀ ds, Want (gs ds) env (fun _ e1 => ∀ σ', SR X.K F O e1 σ' H → Wp js σ σ' → Q σ' H) (fun _ _ _ => True) → ds.length = n := fun ds w => by
    unfold Want at w
    cases hm : gs ds env with
    | ok o e => exact hlen ds env o e hm
    | ex c fs e => exact absurd hm (nx ds env c fs e)
    | bad => rw [hm] at w; exact w.elim
  cases r with
  | tup n1 h1 l =>
    refine .inl ⟨_, _, rfl, .inl (.inl h1), ?_, q F O env σ H _ _ _ S l w⟩
    rw [l.len]; exact len _ w
  | lst n1 h1 l =>
    refine .inr ⟨_, _, rfl, .inl (.inl h1), ?_, q F O env σ H _ _ _ S l w⟩
    rw [l.len]; exact len _ w
  | _ => exact w.elim
theorem gs_len0 : ∀ ds env o e, gsNil ds env = .ok o e → ds.length = 0 := fun ds env o e h => by
  cases ds with
  | nil => rfl
  | cons _ _ => cases h
theorem gs_lenS {g : DG} {gs : DGs} {n : Nat} (h : ∀ ds env o e, gs ds env = .ok o e → ds.length = n) : ∀ ds env o e, gsCons g gs ds env = .ok o e → ds.length = n + 1 := fun ds env o e q => by
  cases ds with
  | nil => cases q
  | cons d ds =>
    show ds.length + 1 = n + 1
    have q : ((g d).bind fun _ => gs ds) env = .ok o e := q
    unfold M.bind at q
    cases hg : g d env with
    | ok u e1 => rw [hg] at q; rw [h ds e1 o e q]
    | ex c fs e1 => rw [hg] at q; cases q
    | bad => rw [hg] at q; cases q
/-! ### what is walked -/
structure Wk (F : Fm) (O : Nat → Option Addr) (H1 : Hp) (J : It) (xs : List D) : Prop where
  go : ∀ i H, Ke (Ow F O) H1 H → i < xs.length → J.go i H
  stop : ∀ H, Ke (Ow F O) H1 H → J.stop xs.length H
  yld : ∀ i H x H' d (W' : Pr), Ke (Ow F O) H1 H → (∀ a, W' a → Ow F O a ∨ H1 a = none) → (∀ a, W' a → H a ≠ none) → xs[i]? = some d → J.yld i H x H' → (∀ a o, H a = some o → H' a = some o) ∧ Rep W' H' x d
def ID (X : Cx) (Wx : WX) (tg iter : Expr) (m : DI) : Prop := ∃ wi : TI, PI X tg iter wi ∧ ∀ (F : Fm) (O : Nat → Option Addr) (env : Env) (σ : L2.St) (H : Hp) (R : It → Hp → Prop), SR X.K F O env σ H →
  Want m env (fun xs e1 => ∀ J H1, SR X.K F O e1 σ H1 → Ke (Jo O) H H1 → Wk F O H1 J xs → R J H1) (XW X.K F O σ H Wx) → wi σ H R
section
variable {K : PySem.W.Frag} {F : Fm} {O : Nat → Option Addr} {H1 : Hp} {xs ys : List D} {vs ws : List V} {J : It}
theorem ow_step {O' : Nat → Option Addr} (g : ∀ a, Jo O' a → Jo O a ∨ H1 a = none) : ∀ a, Ow F O' a → Ow F O a ∨ H1 a = none := fun a w => w.elim (fun w => .inl (.inl w)) fun w => (g a w).elim (fun z => .inl (.inr z)) .inr
/-- items that stay where they are -/
theorem wk_at (l : RepL (Ow F O) H1 vs xs) (w : Walk J vs.length (fun H => Ke (Ow F O) H1 H) (YAt vs)) : Wk F O H1 J xs where
  go := fun i H k hi => w.goes i H (by rw [l.len]; exact hi) k
  stop := fun H k => by rw [← l.len]; exact w.stops H k
  yld := fun i H x H' d O' k g al hd y => by
    have hi : i < vs.length := by
      rw [l.len]
      exact (List.getElem?_eq_some_iff.mp hd).1
    obtain ⟨rfl, hx⟩ := w.yields i H x H' hi k y
    obtain ⟨v, hv, r⟩ := l.get hd
    rw [hx] at hv
    cases hv
    exact ⟨fun _ _ e => e, r.ke k g⟩
/-- new pairs of such -/
theorem wk_pair {zs : List D} {n : Nat} {f h : Nat → Option V} (w : Walk J n (fun H => Ke (Ow F O) H1 H) (YPair f h)) (hn : zs.length = n)
    (hz : ∀ i d x y, zs[i]? = some d → f i = some x → h i = some y → ∃ dx dy, d = .tup [dx, dy] ∧ Rep (Ow F O) H1 x dx ∧ Rep (Ow F O) H1 y dy) : Wk F O H1 J zs where
  go := fun i H k hi => w.goes i H (by omega) k
  stop := fun H k => by rw [hn]; exact w.stops H k
  yld := fun i H v H' d O' k g al hd yy => by
    have hi : i < n := by
      rw [← hn]
      exact (List.getElem?_eq_some_iff.mp hd).1
    obtain ⟨T, x, y, rfl, hT, rfl, hx, hy⟩ := w.yields i H v H' hi k yy
    obtain ⟨dx, dy, rfl, rx, ry⟩ := hz i d x y hd hx hy
    have st : ∀ a o, H a = some o → upd H T (.tup [x, y]) a = some o := new_ext hT
    refine ⟨st, .tup (fun z => al T z hT) upd_same (.cons ?_ (.cons ?_ .nil))⟩
    · exact (rx.ke k g).ke (ke_ext st) fun a z => .inl z
    · exact (ry.ke k g).ke (ke_ext st) fun a z => .inl z
end
/-- a list or a tuple -/
def iAny (K : PySem.W.Frag) (tl : TE) : TI := fun σ H R => tl σ H fun x H1 => ∃ a, x = .ref a ∧ ((∃ xs, SqL K H1 a xs ∧ R (Itl K a) H1) ∨ ∃ xs, SqT K H1 a xs ∧ R (Itt K a) H1)
theorem pi_any {l : Expr} {tl : TE} (hl : PE X l tl) : PI X tg l (iAny X.K tl) := by
  refine ⟨fun pins s σ H R I h => ?_⟩
  refine thn (hl.run pins s σ H _ I h) fun v s1 ⟨x, H1, I1, r1, q1⟩ => ?_
  obtain ⟨a, e, q⟩ := q1
  subst e
  cases r1
  rcases q with ⟨xs, hq, q⟩ | ⟨xs, hq, q⟩
  · obtain ⟨its, rv, p, hz⟩ := I1.list hq
    refine wpAny_pyIter_list p.isList ?_
    refine ⟨s1.heap.objs.size, [s1.heap.objs.size], _, _, H1, rfl, I1.kept (t' := s1.toks) fun b o e => Heap.get?_push_of_some _ e, turn_list a _, ⟨_, Heap.get?_push_size _ rfl, rfl, rfl⟩, fun b hb => ?_, q⟩
    have e : b = s1.heap.objs.size := by simpa using hb
    subst e
    exact I1.fpOk (Nat.le_refl _) (I1.hok.fresh (Nat.le_refl _))
  · obtain ⟨its, rv, p, hz⟩ := I1.tuple hq
    refine wpAny_pyIter_tuple (show s1.heap.IsTuple a its.toArray from p) ?_
    refine ⟨s1.heap.objs.size, [s1.heap.objs.size], _, _, H1, rfl, I1.kept (t' := s1.toks) fun b o e => Heap.get?_push_of_some _ e, turn_tuple a _, ⟨_, Heap.get?_push_size _ rfl, rfl, rfl⟩, fun b hb => ?_, q⟩
    have e : b = s1.heap.objs.size := by simpa using hb
    subst e
    exact I1.fpOk (Nat.le_refl _) (I1.hok.fresh (Nat.le_refl _))
theorem id_seq (ha : PD .s X Wx a ma) : ID X Wx tg a (iSeq ma) := by
  obtain ⟨ta, pa, qa⟩ := ha
  refine ⟨_, pi_any pa, fun F O env σ H R S w => ?_⟩
  refine qa F O env σ H _ S (w.bind.imp (fun dx e1 w1 x H1 S1 k1 p1 => ?_) fun _ _ _ z => z)
  cases p1 with
  | lst n h l =>
    have st : ∀ H, Ke (Ow F O) H1 H → SqL X.K H _ _ := fun H k => .inl (.inl (k.stay _ _ n h))
    exact ⟨_, rfl, .inl ⟨_, .inl (.inl h), w1 _ H1 S1 k1 (wk_at l (walk_list.mono (fun H k => st H k) fun _ _ _ _ _ _ y => y))⟩⟩
  | tup n h l =>
    have st : ∀ H, Ke (Ow F O) H1 H → SqT X.K H _ _ := fun H k => .inl (.inl (k.stay _ _ n h))
    exact ⟨_, rfl, .inr ⟨_, .inl (.inl h), w1 _ H1 S1 k1 (wk_at l (walk_tup.mono (fun H k => st H k) fun _ _ _ _ _ _ y => y))⟩⟩
  | _ => exact w1.elim
theorem wk_range {F : Fm} {O : Nat → Option Addr} {H1 : Hp} (i j : Int) : Wk F O H1 (Itr i (j - i).toNat) (rng i j) where
  go := fun k H _ hk => by unfold rng at hk; rw [List.length_map, List.length_range] at hk; exact hk
  stop := fun H _ => by
    show (j - i).toNat ≤ (rng i j).length
    unfold rng; rw [List.length_map, List.length_range]; exact Nat.le_refl _
  yld := fun k H x H' d O' _ _ _ hd y => by
    obtain ⟨rfl, rfl⟩ := y
    refine ⟨fun _ _ e => e, ?_⟩
    unfold rng at hd
    rw [List.getElem?_map] at hd
    cases hr : (List.range (j - i).toNat)[k]? with
    | none => rw [hr] at hd; cases hd
    | some n =>
      rw [hr] at hd
      cases hd
      have e : n = k := by
        have := List.getElem?_range (n := (j - i).toNat) (i := k) ((List.getElem?_eq_some_iff.mp hr).1 |> fun z => by rw [List.length_range] at z; exact z)
        rw [this] at hr
        cases hr
        rfl
      rw [e]
      exact .int _
theorem id_range1 (hb : Bn X "range" (.type "range")) (ha : PD .s X Wx a ma) (hs : starEach [a] X.env = [(false, eval a X.env)] := by rfl) : ID X Wx tg (.Call (.Name "range" p) [a] [] pos) (AH.iRng1 ma) := by
  obtain ⟨ta, pa, qa⟩ := ha
  refine ⟨_, pi_range1 hb.gl hb.mg (pa_cons pa pa_nil hs) hs, fun F O env σ H R S w => ?_⟩
  refine qa F O env σ H _ S (w.bind.imp (fun dx e1 w1 x H1 S1 k1 p1 => ?_) fun _ _ _ z => z)
  cases p1 with
  | int j =>
    cases hr : rngOk 0 j with
    | false =>
      have w2 : Want (if rngOk 0 j = true then M.pure (rng 0 j) else fun _ => AH.R.bad) e1 _ _ := w1
      rw [hr] at w2
      exact w2.elim
    | true =>
      have w2 : Want (if rngOk 0 j = true then M.pure (rng 0 j) else fun _ => AH.R.bad) e1 (fun xs e1 => ∀ J H1, SR X.K F O e1 σ H1 → Ke (Jo O) H H1 → Wk F O H1 J xs → R J H1) (XW X.K F O σ H Wx) := w1
      rw [hr] at w2
      obtain ⟨h1, h2⟩ := Bool.and_eq_true_iff.mp hr
      obtain ⟨h3, h4⟩ := Bool.and_eq_true_iff.mp h1
      have q := w2 (Itr 0 (j - 0).toNat) H1 S1 k1 (wk_range 0 j)
      rw [Int.sub_zero] at q
      exact ⟨j, rfl, of_decide_eq_true h4, of_decide_eq_true h2, q⟩
  | _ => exact w1.elim
theorem id_range2 (hb : Bn X "range" (.type "range")) (ha : PD .s X Wx a ma) (hb' : PD .s X Wx b mb) (hs : starEach [a, b] X.env = [(false, eval a X.env), (false, eval b X.env)] := by rfl) (hs2 : starEach [b] X.env = [(false, eval b X.env)] := by rfl) :
    ID X Wx tg (.Call (.Name "range" p) [a, b] [] pos) (AH.iRng2 ma mb) := by
  obtain ⟨ta, pa, qa⟩ := ha
  obtain ⟨tb, pb, qb⟩ := hb'
  refine ⟨_, pi_range2 hb.gl hb.mg (pa_cons pa (pa_cons pb pa_nil hs2) (by rw [hs, hs2])) hs hs2, fun F O env σ H R S w => ?_⟩
  refine qa F O env σ H _ S (w.bind.imp (fun dx e1 w1 x H1 S1 k1 p1 => ?_) fun _ _ _ z => z)
  refine qb F O e1 σ H1 _ S1 (w1.bind.imp (fun dy e2 w2 y H2 S2 k2 p2 => ?_) (XW.later k1))
  cases p1 with
  | int i => cases p2 with
    | int j =>
      have w3 : Want (if rngOk i j = true then M.pure (rng i j) else fun _ => AH.R.bad) e2 (fun xs e1 => ∀ J H1, SR X.K F O e1 σ H1 → Ke (Jo O) H H1 → Wk F O H1 J xs → R J H1) (XW X.K F O σ H Wx) := w2
      cases hr : rngOk i j with
      | false => rw [hr] at w3; exact w3.elim
      | true =>
        rw [hr] at w3
        obtain ⟨h1, h2⟩ := Bool.and_eq_true_iff.mp hr
        obtain ⟨h3, h4⟩ := Bool.and_eq_true_iff.mp h1
        obtain ⟨h5, h6⟩ := Bool.and_eq_true_iff.mp h3
        exact ⟨i, j, rfl, ⟨of_decide_eq_true h5, of_decide_eq_true h6, of_decide_eq_true h4, of_decide_eq_true h2⟩, w3 _ H2 S2 (k1.trans k2) (wk_range i j)⟩
    | _ => exact w2.elim
  | _ => exact w2.elim
theorem pairs_get {xs ys : List D} {i : Nat} {d : D} (h : (pairs xs ys)[i]? = some d) : ∃ x y, xs[i]? = some x ∧ ys[i]? = some y ∧ d = .tup [x, y] := by
  unfold pairs at h
  rw [List.getElem?_map] at h
  cases hz : (xs.zip ys)[i]? with
  | none => rw [hz] at h; cases h
  | some q =>
    rw [hz] at h
    cases h
    obtain ⟨h1, h2⟩ := List.getElem?_zip_eq_some.mp hz
    exact ⟨_, _, h1, h2, rfl⟩
theorem walk_zipT {K : PySem.W.Frag} {a b : Addr} {xs ys : List V} {n : Nat} (hn : n = min xs.length ys.length) : Walk (RZ.ItzT K a b) n (fun H => SqT K H a xs ∧ SqT K H b ys) (YPair (fun i => xs[i]?) (fun i => ys[i]?)) := by
  subst hn
  refine ⟨fun i _ hi q => ?_, fun _ q => ⟨xs, ys, q.1, q.2, by omega⟩, fun i H v H' _ q y => ?_⟩
  · have h1 : i < xs.length := by omega
    have h2 : i < ys.length := by omega
    exact ⟨xs, ys, xs[i], ys[i], q.1, q.2, by simp [h1], by simp [h2]⟩
  · obtain ⟨T, x, z, h1, h2, h3, h4, h5⟩ := y
    exact ⟨T, x, z, h1, h2, h3, h4 xs q.1, h5 ys q.2⟩
theorem id_zip {elts : List Expr} {kk : Nat} {tpos : Pos} (hb : Bn X "zip" (.type "zip")) (ha : PD .s X Wx a ma) (hb' : PD .s X Wx b mb)
    (hs : starEach [a, b] X.env = (false, eval a X.env) :: starEach [b] X.env := by rfl) (hs2 : starEach [b] X.env = (false, eval b X.env) :: starEach [] X.env := by rfl) (hpl : (backTo pos (starEach [b] X.env)).any (·.1) = false := by rfl) :
    ID X Wx (.Tuple elts kk tpos) (.Call (.Name "zip" p) [a, b] [] pos) (AH.iZip ma mb) := by
  obtain ⟨ta, pa, qa⟩ := ha
  obtain ⟨tb, pb, qb⟩ := hb'
  refine ⟨_, RZ.pi_zipA hb.gl hb.mg (pa_cons pa (pa_cons pb pa_nil hs2) hs) hs hpl, fun F O env σ H R S w => ?_⟩
  refine qa F O env σ H _ S (w.bind.imp (fun dx e1 w1 x H1 S1 k1 p1 => ?_) fun _ _ _ z => z)
  refine qb F O e1 σ H1 _ S1 (w1.bind.imp (fun dy e2 w2 y H2 S2 k2 p2 => ?_) (XW.later k1))
  have p1' := Rep.mj k2 p1
  have fin : ∀ {xs ys : List D} {vs ws : List V}, RepL (Ow F O) H2 vs xs → RepL (Ow F O) H2 ws ys → ∀ i d x y, (pairs xs ys)[i]? = some d → vs[i]? = some x → ws[i]? = some y → ∃ dx dy, d = D.tup [dx, dy] ∧ Rep (Ow F O) H2 x dx ∧ Rep (Ow F O) H2 y dy := fun l1 l2 i d x y hd hx hy => by
    obtain ⟨dx, dy, h1, h2, rfl⟩ := pairs_get hd
    obtain ⟨v, hv, r1⟩ := l1.get h1
    obtain ⟨u, hu, r2⟩ := l2.get h2
    rw [hx] at hv; cases hv
    rw [hy] at hu; cases hu
    exact ⟨dx, dy, rfl, r1, r2⟩
  have plen : ∀ (xs ys : List D) {vs ws : List V}, RepL (Ow F O) H2 vs xs → RepL (Ow F O) H2 ws ys → (pairs xs ys).length = min vs.length ws.length := fun xs ys vs ws l1 l2 => by
    unfold pairs; rw [List.length_map, List.length_zip, l1.len, l2.len]
  cases p1' with
  | lst n1 h1 l1 => cases p2 with
    | lst n2 h2 l2 =>
      refine ⟨_, _, _, _, rfl, .inl ⟨.inl (.inl h1), .inl (.inl h2), w2 _ H2 S2 (k1.trans k2) (wk_pair ((walk_zip rfl).mono (fun H k => ⟨.inl (.inl (k.stay _ _ n1 h1)), .inl (.inl (k.stay _ _ n2 h2))⟩) fun _ _ _ _ _ _ y => y) (plen _ _ l1 l2) (fin l1 l2))⟩⟩
    | _ => exact w2.elim
  | tup n1 h1 l1 => cases p2 with
    | tup n2 h2 l2 =>
      refine ⟨_, _, _, _, rfl, .inr ⟨.inl (.inl h1), .inl (.inl h2), w2 _ H2 S2 (k1.trans k2) (wk_pair ((walk_zipT rfl).mono (fun H k => ⟨.inl (.inl (k.stay _ _ n1 h1)), .inl (.inl (k.stay _ _ n2 h2))⟩) fun _ _ _ _ _ _ y => y) (plen _ _ l1 l2) (fin l1 l2))⟩⟩
    | _ => exact w2.elim
  | _ => exact w2.elim
end
end AH
namespace AH
open PySem PySem.Spec PyProof.Rows L2
/-! ### statements -/
structure KeS (O : Nat → Option Addr) (H : Hp) (O' : Nat → Option Addr) (H' : Hp) : Prop where
  ke : Ke (Jo O) H H'
  ow : ∀ a, Jo O' a → Jo O a ∨ H a = none
theorem KeS.refl {O : Nat → Option Addr} {H : Hp} : KeS O H O H := ⟨Ke.refl, fun _ z => .inl z⟩
theorem KeS.of {O : Nat → Option Addr} {H H' : Hp} (k : Ke (Jo O) H H') : KeS O H O H' := ⟨k, fun _ z => .inl z⟩
theorem KeS.trans {O O1 O2 : Nat → Option Addr} {H H1 H2 : Hp} (a : KeS O H O1 H1) (b : KeS O1 H1 O2 H2) : KeS O H O2 H2 where
  ke := ⟨fun x o n e => b.ke.stay x o (fun z => (a.ow x z).elim n fun q => by rw [q] at e; cases e) (a.ke.stay x o n e), fun x e => b.ke.there x (a.ke.there x e)⟩
  ow := fun x z => by
    rcases b.ow x z with z | z
    · exact a.ow x z
    · refine .inr ?_
      cases q : H x with
      | none => rfl
      | some o => exact absurd z (a.ke.there x (by rw [q]; simp))
/-- what stands in the lent lists keeps apart from Z -/
def BoR (Z : Pr) (F : Fm) (e1 : Env) (H : Hp) : Prop := ∀ i xs, sl e1 i = .bor xs → ∃ a vs, F.ba i = some a ∧ H a = some (.lst vs) ∧ RepL Z H vs xs
/-- what a def hands back -/
def Ro (fl : Fl) (K : PySem.W.Frag) (F : Fm) (O : Nat → Option Addr) (e1 : Env) (σ : L2.St) (H : Hp) (v : V) (d : D) : Prop := match fl with
  | .f => ∃ p vs xs, v = .ref p ∧ d = .lst xs ∧ F.H0 p = none ∧ H p = some (.lst vs) ∧ RepL (fun a => F.P a ∨ a = p) H vs xs ∧ BoR (fun a => F.P a ∨ a = p) F e1 H
  | .fd => ∃ p ks kvs, v = .ref p ∧ d = .dic kvs ∧ F.H0 p = none ∧ H p = some (.dT ks) ∧ RepK (fun a => F.P a ∨ a = p) H ks kvs ∧ BoR (fun a => F.P a ∨ a = p) F e1 H
  | _ => Rep F.P H v d
def EndR (fl : Fl) (K : PySem.W.Frag) (F : Fm) (O : Nat → Option Addr) (e1 : Env) (σ : L2.St) (H : Hp) (D : Ends) : Out → Prop
  | .nx => D.nx σ H
  | .bk => D.bk σ H
  | .ct => D.ct σ H
  | .rt d => ∀ v, Ro fl K F O e1 σ H v d → D.rt v H
def XWs (K : PySem.W.Frag) (F : Fm) (O : Nat → Option Addr) (H : Hp) (Wx : WX) : Str → List D → Env → Prop := fun c fs e1 =>
  ∀ O' σ' cls d H', SR K F O' e1 σ' H' → KeS O H O' H' → XR K (Ow F O') c fs cls d H' → Wx cls d σ' H'
theorem XWs.later {K : PySem.W.Frag} {F : Fm} {O O1 : Nat → Option Addr} {H H1 : Hp} {Wx : WX} (k : KeS O H O1 H1) : ∀ c fs e, XWs K F O H Wx c fs e → XWs K F O1 H1 Wx c fs e :=
  fun _ _ _ h O' σ' cls d H' S k1 x => h O' σ' cls d H' S (k.trans k1) x
theorem XWs.xw {K : PySem.W.Frag} {F : Fm} {O : Nat → Option Addr} {σ : L2.St} {H : Hp} {Wx : WX} : ∀ c fs e, XWs K F O H Wx c fs e → XW K F O σ H Wx c fs e :=
  fun _ _ _ h cls d H' S k1 x => h O σ cls d H' S (.of k1) x
def Post (fl : Fl) (K : PySem.W.Frag) (F : Fm) (O : Nat → Option Addr) (H : Hp) (D : Ends) : Out → Env → Prop := fun o e1 => ∀ O' σ' H', SR K F O' e1 σ' H' → KeS O H O' H' → EndR fl K F O' e1 σ' H' D o
def SD (fl : Fl) (X : Cx) (Wx : WX) (st : Stmt) (m : DS) : Prop := ∃ t : TS, PS X st t ∧ ∀ (F : Fm) (O : Nat → Option Addr) (env : Env) (σ : L2.St) (H : Hp) (D : Ends), SR X.K F O env σ H →
  Want m env (Post fl X.K F O H D) (XWs X.K F O H Wx) → t D σ H
def SsD (fl : Fl) (X : Cx) (Wx : WX) (st : List Stmt) (m : DS) : Prop := ∃ t : TS, PSs X st t ∧ ∀ (F : Fm) (O : Nat → Option Addr) (env : Env) (σ : L2.St) (H : Hp) (D : Ends), SR X.K F O env σ H →
  Want m env (Post fl X.K F O H D) (XWs X.K F O H Wx) → t D σ H
theorem Post.later {fl : Fl} {K : PySem.W.Frag} {F : Fm} {O O1 : Nat → Option Addr} {H H1 : Hp} {D : Ends} (k : KeS O H O1 H1) : ∀ o e, Post fl K F O H D o e → Post fl K F O1 H1 D o e :=
  fun _ _ h O' σ' H' S k1 => h O' σ' H' S (k.trans k1)
theorem Want.gd {α : Type} {m : M α} {c : Bool} {a : α} {e e' : Env} {Q : α → Env → Prop} {E : Str → List D → Env → Prop} (h : Want m e Q E) (eq : m e = if c = true then .bad else .ok a e') : c = false ∧ Q a e' := by
  unfold Want at h
  rw [eq] at h
  cases c with
  | true => exact h.elim
  | false => exact ⟨rfl, h⟩
section
variable {fl : Fl} {X : Cx} {Wx : WX} {e a b c d tg : Expr} {ma mb mc md : DE} {pos p : Pos} {st : Stmt} {rest : List Stmt} {m n : DS}
theorem ss_nil : SsD fl X Wx [] sNil := ⟨_, pss_nil, fun F O env σ H D S w => w O σ H S .refl⟩
theorem ss_cons (h : SD fl X Wx st m) (hr : SsD fl X Wx rest n) : SsD fl X Wx (st :: rest) (sSeq m n) := by
  obtain ⟨t, p, q⟩ := h
  obtain ⟨t', p', q'⟩ := hr
  refine ⟨_, pss_cons p p', fun F O env σ H D S w => ?_⟩
  refine q F O env σ H _ S (w.bind.imp (fun o e1 w1 O1 σ1 H1 S1 k1 => ?_) fun _ _ _ z => z)
  cases o with
  | nx => exact q' F O1 e1 σ1 H1 D S1 (Want.imp (m := n) w1 (Post.later k1) (XWs.later k1))
  | bk => exact w1 O1 σ1 H1 S1 k1
  | ct => exact w1 O1 σ1 H1 S1 k1
  | rt d => exact w1 O1 σ1 H1 S1 k1
theorem ss_one (h : SD fl X Wx st m) : SsD fl X Wx [st] m := let ⟨t, p, q⟩ := h; ⟨t, pss_one p, q⟩
theorem sd_pass : SD fl X Wx (.Pass pos) sNil := ⟨_, ps_pass, fun F O env σ H D S w => w O σ H S .refl⟩
theorem sd_brk : SD fl X Wx (.Break pos) sBrk := ⟨_, ps_break, fun F O env σ H D S w => w O σ H S .refl⟩
theorem sd_cnt : SD fl X Wx (.Continue pos) sCnt := ⟨_, ps_continue, fun F O env σ H D S w => w O σ H S .refl⟩
/-- a statement that is never come to -/
theorem sd_bad : SD fl X Wx st sBad := ⟨_, ps_never, fun F O env σ H D S w => w⟩
/-- name = a value -/
def sAsgN (i : Nat) (a : DE) : DS := a.bind fun x => fun e => if isFix (sl e i) then .bad else .ok .nx (put e i (.val x))
theorem sd_asgN {i : Nat} {x : Str} (hN : X.N.Nodup) (hi : X.N[i]? = some x) (hx : Loc X.env.scope x) (ha : PD .s X Wx a ma) (hs : swapsWith a (some (.Name x p)) pos.line X.env = pure false := by rfl)
    (hf : X.fn x = true ∨ X.env.scope.names.lookup x = some .local := by first | exact .inl rfl | exact .inr rfl | assumption) : SD fl X Wx (.Assign [.Name x p] a pos) (sAsgN i ma) := by
  obtain ⟨ta, pa, qa⟩ := ha
  refine ⟨_, ps_set hN hi hx pa hs hf, fun F O env σ H D S w => ?_⟩
  refine qa F O env σ H _ S (w.bind.imp (fun dx e1 w1 x H1 S1 k1 p1 => ?_) XWs.xw)
  obtain ⟨_, w2⟩ := w1.gd rfl
  exact w2 _ _ H1 (S1.setVal p1) ⟨k1, fun a z => .inl (jo_setN z)⟩
/-- name = a new list, kept as the frame's own -/
theorem keS_new {O : Nat → Option Addr} {H H' : Hp} {i : Nat} {q : Addr} (k : Ke (Jo O) H H') (hq : H q = none) : KeS O H (setO O i (some q)) H' :=
  ⟨k, fun a z => (jo_setS z).elim .inl fun e => .inr (by rw [e]; exact hq)⟩
theorem SR.own1 {K : PySem.W.Frag} {F : Fm} {O : Nat → Option Addr} {e1 : Env} {σ : L2.St} {H H' : Hp} {v : V} {xs : List D} {i : Nat} (al : ∀ a, F.H0 a ≠ none → H a ≠ none) (ow : ∀ a, Ow F O a → H a ≠ none) (r : Po .f K F O e1 σ H H' v (.lst xs)) (hl : i < e1.length) :
    ∃ q, v = .ref q ∧ H q = none ∧ SR K F (setO O i (some q)) (put e1 i (.own xs)) (σ.set i (some v)) H' := by
  obtain ⟨q, vs, xs', rfl, e, hq, hq', l, S⟩ := r
  cases e
  have np : ¬ Jo O q := fun z => ow q (.inr z) hq
  refine ⟨q, rfl, hq, S.setNew np hl ⟨q, vs, setO_same, ⟨?_, fun z => ow q (.inl z) hq⟩, rfl, hq', l.sub fun a w => .inl (ow_setS w)⟩⟩
  cases z : F.H0 q with
  | none => rfl
  | some o => exact absurd hq (al q (by rw [z]; simp))
theorem SR.own1d {K : PySem.W.Frag} {F : Fm} {O : Nat → Option Addr} {e1 : Env} {σ : L2.St} {H H' : Hp} {v : V} {xs : List (List Key × D)} {i : Nat} (al : ∀ a, F.H0 a ≠ none → H a ≠ none) (ow : ∀ a, Ow F O a → H a ≠ none) (r : Po .fd K F O e1 σ H H' v (.dic xs)) (hl : i < e1.length) :
    ∃ q, v = .ref q ∧ H q = none ∧ SR K F (setO O i (some q)) (put e1 i (.odc xs)) (σ.set i (some v)) H' := by
  obtain ⟨q, vs, xs', rfl, e, hq, hq', l, S⟩ := r
  cases e
  have np : ¬ Jo O q := fun z => ow q (.inr z) hq
  refine ⟨q, rfl, hq, S.setNew np hl ⟨q, vs, setO_same, ⟨?_, fun z => ow q (.inl z) hq⟩, rfl, hq', l.sub fun a w => .inl (ow_setS w)⟩⟩
  cases z : F.H0 q with
  | none => rfl
  | some o => exact absurd hq (al q (by rw [z]; simp))
theorem sd_own {i : Nat} {x : Str} (hN : X.N.Nodup) (hi : X.N[i]? = some x) (hx : Loc X.env.scope x) (ha : PD .f X Wx a ma) (hs : swapsWith a (some (.Name x p)) pos.line X.env = pure false := by rfl)
    (hf : X.fn x = true ∨ X.env.scope.names.lookup x = some .local := by first | exact .inl rfl | exact .inr rfl | assumption) : SD fl X Wx (.Assign [.Name x p] a pos) (sOwn i ma) := by
  obtain ⟨ta, pa, qa⟩ := ha
  refine ⟨_, ps_set hN hi hx pa hs hf, fun F O env σ H D S w => ?_⟩
  refine qa F O env σ H _ S (w.bind.imp (fun dx e1 w1 x H1 S1 k1 p1 => ?_) XWs.xw)
  obtain ⟨q, vs, xs, rfl, rfl, hq, r⟩ := id p1
  obtain ⟨h, w2⟩ := w1.gd rfl
  obtain ⟨h1, h2⟩ := Bool.or_eq_false_iff.mp h
  have hl : i < e1.length := by simpa using h2
  obtain ⟨q', e, hq', S2⟩ := SR.own1 (i := i) S.al S.prot p1 hl
  cases e
  exact w2 _ _ H1 S2 (keS_new k1 hq)
theorem sd_ownD {i : Nat} {x : Str} (hN : X.N.Nodup) (hi : X.N[i]? = some x) (hx : Loc X.env.scope x) (ha : PD .fd X Wx a ma) (hs : swapsWith a (some (.Name x p)) pos.line X.env = pure false := by rfl)
    (hf : X.fn x = true ∨ X.env.scope.names.lookup x = some .local := by first | exact .inl rfl | exact .inr rfl | assumption) : SD fl X Wx (.Assign [.Name x p] a pos) (sOwnD i ma) := by
  obtain ⟨ta, pa, qa⟩ := ha
  refine ⟨_, ps_set hN hi hx pa hs hf, fun F O env σ H D S w => ?_⟩
  refine qa F O env σ H _ S (w.bind.imp (fun dx e1 w1 x H1 S1 k1 p1 => ?_) XWs.xw)
  obtain ⟨q, vs, xs, rfl, rfl, hq, r⟩ := id p1
  obtain ⟨h, w2⟩ := w1.gd rfl
  obtain ⟨h1, h2⟩ := Bool.or_eq_false_iff.mp h
  have hl : i < e1.length := by simpa using h2
  obtain ⟨q', e, hq', S2⟩ := SR.own1d (i := i) S.al S.prot p1 hl
  cases e
  exact w2 _ _ H1 S2 (keS_new k1 hq)
/-- the own list is let go, ahead of a block -/
theorem ss_rel {i : Nat} {sts : List Stmt} (h : SsD fl X Wx sts n) : SsD fl X Wx sts (sSeq (sRelL i) n) := by
  obtain ⟨t, p, q⟩ := h
  refine ⟨t, p, fun F O env σ H D S w => ?_⟩
  have w := w.bind
  unfold Want sRelL at w
  cases hs : sl env i with
  | own xs =>
    rw [hs] at w
    have k : KeS O H (setO O i none) H := ⟨Ke.refl, fun a z => .inl (jo_setN z)⟩
    exact q F _ _ σ H D (S.rel hs) (Want.imp (m := n) w (Post.later k) (XWs.later k))
  | _ => rw [hs] at w; exact w.elim
/-- (a, b, ..) = a value -/
theorem sd_asgT {js : List Nat} {g : DG} (ha : PD .s X Wx a ma) (hg : GD X tg js g) (hs : swapsWithSole [tg] a pos.line X.env = pure false := by rfl) (hw : swappedStores [tg] a X.env = pure none := by rfl)
    (h1 : (assignEach [tg] X.env).map (·.2) = [assign tg X.env] := by rfl) : SD fl X Wx (.Assign [tg] a pos) (sAsg ma g) := by
  obtain ⟨ta, pa, qa⟩ := ha
  obtain ⟨nx, t, pt, qt⟩ := hg
  refine ⟨_, ps_asg pa pt hs hw h1, fun F O env σ H D S w => ?_⟩
  refine qa F O env σ H _ S (w.bind.imp (fun dx e1 w1 x H1 S1 k1 p1 => ?_) XWs.xw)
  refine qt F O e1 σ H1 x dx _ S1 p1 ?_
  have w2 := w1.bind
  unfold Want at w2 ⊢
  cases hm : g dx e1 with
  | ok u e2 => rw [hm] at w2; exact fun σ' S' _ => w2 O σ' H1 S' (.of k1)
  | ex c fs e2 => exact absurd hm (nx dx e1 c fs e2)
  | bad => rw [hm] at w2; exact w2
end
end AH
namespace AH
open PySem PySem.Spec PyProof.Rows L2
def dAddI : D → D → Rv D
  | .int i, .int j => .ok (.int (i + j))
  | _, _ => .bad
section
variable {fl : Fl} {X : Cx} {Wx : WX} {e a b c d tg : Expr} {ma mb mc md : DE} {pos p : Pos} {st : Stmt} {rest : List Stmt} {m n : DS}
theorem sd_if {t : DT} {sa sb : List Stmt} (hc : TD X Wx c t) (ha : SsD fl X Wx sa m) (hb : SsD fl X Wx sb n) : SD fl X Wx (.If c sa sb pos) (sIf t m n) := by
  obtain ⟨tc, pc, qc⟩ := hc
  obtain ⟨ta, pa, qa⟩ := ha
  obtain ⟨tb, pb, qb⟩ := hb
  refine ⟨_, ps_if pc pa pb, fun F O env σ H D S w => ?_⟩
  refine qc F O env σ H _ S (w.bind.imp (fun k e1 w1 H1 S1 k1 => ?_) XWs.xw)
  cases k with
  | true => exact qa F O e1 σ H1 D S1 (Want.imp (m := m) w1 (Post.later (.of k1)) (XWs.later (.of k1)))
  | false => exact qb F O e1 σ H1 D S1 (Want.imp (m := n) w1 (Post.later (.of k1)) (XWs.later (.of k1)))
theorem sd_ret (ha : PD .s X Wx a ma) : SD .s X Wx (.Return (some a) pos) (sRet ma) := by
  obtain ⟨ta, pa, qa⟩ := ha
  refine ⟨_, ps_ret pa, fun F O env σ H D S w => ?_⟩
  exact qa F O env σ H _ S (w.bind.imp (fun dx e1 w1 x H1 S1 k1 p1 => w1 O σ H1 S1 (.of k1) x (Rep.sub (fun a z => .inl (.inl z)) p1)) XWs.xw)
theorem al_none {F : Fm} {H : Hp} {p : Addr} (al : ∀ a, F.H0 a ≠ none → H a ≠ none) (h : H p = none) : F.H0 p = none := by
  cases z : F.H0 p with
  | none => rfl
  | some o => exact absurd h (al p (by rw [z]; simp))
theorem SR.boR {K : PySem.W.Frag} {F F' : Fm} {O : Nat → Option Addr} {env : Env} {σ : L2.St} {H : Hp} (S : SR K F' O env σ H) (hb : F'.ba = F.ba) {Z : Pr} (g : ∀ a, Z a → Ow F' O a) : BoR Z F env H := fun j ys hj => by
  have s := S.slot j
  rw [hj] at s
  obtain ⟨b, us, g1, g2, g3, g4, g5⟩ := s
  exact ⟨b, us, by rw [← hb]; exact g2, g4, g5.sub fun a z => .inl (g a z)⟩
theorem sd_retF (ha : PD .f X Wx a ma) : SD .f X Wx (.Return (some a) pos) (sRet ma) := by
  obtain ⟨ta, pa, qa⟩ := ha
  refine ⟨_, ps_ret pa, fun F O env σ H D S w => ?_⟩
  refine qa F O env σ H _ S (w.bind.imp (fun dx e1 w1 x H1 S1 k1 p1 => w1 O σ H1 S1 (.of k1) x ?_) XWs.xw)
  obtain ⟨q, vs, xs, rfl, rfl, hq, hq', l, S2⟩ := p1
  exact ⟨q, vs, xs, rfl, rfl, al_none S.al hq, hq', l.sub fun a z => .inl (.inl z), S2.boR rfl fun a z => .inl z⟩
theorem sd_retFd (ha : PD .fd X Wx a ma) : SD .fd X Wx (.Return (some a) pos) (sRet ma) := by
  obtain ⟨ta, pa, qa⟩ := ha
  refine ⟨_, ps_ret pa, fun F O env σ H D S w => ?_⟩
  refine qa F O env σ H _ S (w.bind.imp (fun dx e1 w1 x H1 S1 k1 p1 => w1 O σ H1 S1 (.of k1) x ?_) XWs.xw)
  obtain ⟨q, vs, xs, rfl, rfl, hq, hq', l, S2⟩ := p1
  exact ⟨q, vs, xs, rfl, rfl, al_none S.al hq, hq', l.sub fun a z => .inl (.inl z), S2.boR rfl fun a z => .inl z⟩
/-- the frame's own list handed back -/
def sRetO (i : Nat) : DS := fun e => match sl e i with
  | .own xs => .ok (.rt (.lst xs)) e
  | _ => .bad
theorem sd_retO {i : Nat} {x : Str} (hN : X.N[i]? = some x) (hv : Vis X.env.scope x) (hd : (x == ("__debug__" : Str)) = false := by decide) (hcd : (x == ("__classdict__" : Str)) = false := by decide) : SD .f X Wx (.Return (some (.Name x p)) pos) (sRetO i) := by
  refine ⟨_, ps_ret (pe_var hN hv hd hcd), fun F O env σ H D S w => ?_⟩
  unfold Want sRetO at w
  cases q : sl env i with
  | own xs =>
    rw [q] at w
    have s := S.slot i
    rw [q] at s
    obtain ⟨a, vs, h1, h0, h2, h3, r⟩ := s
    have sub : ∀ b, F.P b ∨ b = a → Ow F O b ∨ H b = none := fun b z => .inl (z.elim .inl fun e => .inr ⟨i, by rw [e]; exact h1⟩)
    refine ⟨.ref a, get1_some h2, w O σ H S .refl _ ⟨a, vs, xs, rfl, rfl, h0.1, h3, r.sub sub, fun j ys hj => ?_⟩⟩
    have s := S.slot j
    rw [hj] at s
    obtain ⟨b, us, g1, g2, g3, g4, g5⟩ := s
    exact ⟨b, us, g2, g4, g5.sub sub⟩
  | _ => rw [q] at w; exact w.elim
theorem sd_expr (ha : PD .s X Wx a ma) (hs : swapsWith a none pos.line X.env = pure false := by rfl) : SD fl X Wx (.Expr a pos) (sExpr ma) := by
  obtain ⟨ta, pa, qa⟩ := ha
  refine ⟨_, ps_expr pa hs, fun F O env σ H D S w => ?_⟩
  exact qa F O env σ H _ S (w.bind.imp (fun dx e1 w1 x H1 S1 k1 p1 => w1 O σ H1 S1 (.of k1)) XWs.xw)
theorem sd_retN : SD .s X Wx (.Return none pos) sRetN := ⟨_, ps_retN, fun F O env σ H D S w => w O σ H S .refl .non .non⟩
/-! ### lists changed -/
theorem Want.ownL {K : PySem.W.Frag} {F : Fm} {O : Nat → Option Addr} {env : Env} {σ : L2.St} {H : Hp} {i : Nat} {Q : List D → Env → Prop} {E : Str → List D → Env → Prop} (S : SR K F O env σ H) (h : Want (AH.ownL i) env Q E) :
    ∃ xs a vs, O i = some a ∧ (F.bo a ∨ F.H0 a = none) ∧ get1 σ i = some (.ref a) ∧ H a = some (.lst vs) ∧ RepL (Ow F O) H vs xs ∧ Q xs env ∧
      ∀ (vs' : List V) (ys : List D), RepL (Ow F O) H vs' ys → SR K F O (putL env i ys) σ (upd H a (.lst vs')) := by
  have go : ∀ xs, (sl env i = .own xs ∨ sl env i = .bor xs) → Q xs env → ∃ xs a vs, O i = some a ∧ (F.bo a ∨ F.H0 a = none) ∧ get1 σ i = some (.ref a) ∧ H a = some (.lst vs) ∧ RepL (Ow F O) H vs xs ∧ Q xs env ∧
      ∀ (vs' : List V) (ys : List D), RepL (Ow F O) H vs' ys → SR K F O (putL env i ys) σ (upd H a (.lst vs')) := fun xs hs hq => by
    obtain ⟨a, vs, h1, h2, h3, h4, r, f⟩ := S.ownAt hs
    refine ⟨xs, a, vs, h1, h2, h3, h4, r, hq, fun vs' ys r' => ?_⟩
    exact S.mut h1 h2 (f _ vs' ys upd_same (r'.mj (Ke.mut ⟨i, h1⟩)))
  unfold Want AH.ownL at h
  cases q : sl env i with
  | own xs => rw [q] at h; exact go xs (.inl q) h
  | bor xs => rw [q] at h; exact go xs (.inr q) h
  | _ => rw [q] at h; exact h.elim
theorem ke_mutJ {O : Nat → Option Addr} {H : Hp} {i : Nat} {a : Addr} {o : HO} (h : O i = some a) : Ke (Jo O) H (upd H a o) := Ke.mut ⟨i, h⟩
theorem sd_app {i : Nat} {x : Str} {p1 p2 p3 : Pos} (hN : X.N[i]? = some x) (hv : Vis X.env.scope x) (ha : PD .s X Wx a ma)
    (hfew : ((backTo p3 (starEach [a] X.env)).all (fun x => !x.1) && (backToKw p3 (keywordEach [] X.env)).all (fun x => x.1.isSome)
      && decide (([a] : List Expr).length + ([] : List Keyword).length + (if ([] : List Keyword).isEmpty then 0 else 1) < 30)) = true := by rfl)
    (hline : (p2.endLine == p3.line) = true := by rfl) (hs : starEach [a] X.env = (false, eval a X.env) :: starEach [] X.env := by rfl)
    (hd : (x == ("__debug__" : Str)) = false := by decide) (hcd : (x == ("__classdict__" : Str)) = false := by decide) :
    SD fl X Wx (.Expr (.Call (.Attribute (.Name x p1) "append" p2) [a] [] p3) pos) (sApp i ma) := by
  obtain ⟨ta, pa, qa⟩ := ha
  refine ⟨_, ps_expr (pe_bm PySem.F.plainAttrs_list PySem.F.slot_list_append PySem.F.type_list_append mt_append (pe_var hN hv hd hcd) (pa_cons pa pa_nil hs) rfl hfew hline hs rfl), fun F O env σ H D S w => ?_⟩
  obtain ⟨xs0, q, vs0, hO, hb, hg, hq, l0, w, _⟩ := w.bind.ownL S
  refine ⟨.ref q, get1_some hg, .inl ⟨rfl, vs0, .inl (.inl hq)⟩, ?_⟩
  refine qa F O env σ H _ S (w.bind.imp (fun dx e1 w1 x H1 S1 k1 p1 => ?_) XWs.xw)
  obtain ⟨xs, q', vs, hO', hb', hg', hq', l, w2, f⟩ := w1.bind.ownL S1
  obtain rfl : q' = q := Option.some.inj (hO'.symm.trans hO)
  unfold Want at w2
  cases hz : lenOk (xs.length + 1) with
  | false => simp only [hz] at w2; exact w2.elim
  | true =>
    simp only [hz, if_true] at w2
    have hz' : xs.length + 1 ≤ 100000 := of_decide_eq_true hz
    refine ⟨q', vs, x, rfl, rfl, hq', by rw [l.len, sizeLine_eq]; omega, ?_⟩
    exact w2 O σ _ (f (vs ++ [x]) (xs ++ [dx]) (l.app (.cons p1 .nil))) (.of (k1.trans (ke_mutJ hO)))
theorem sd_ext {i : Nat} {x : Str} {p1 p2 p3 : Pos} (hN : X.N[i]? = some x) (hv : Vis X.env.scope x) (ha : PD .s X Wx a ma)
    (hfew : ((backTo p3 (starEach [a] X.env)).all (fun x => !x.1) && (backToKw p3 (keywordEach [] X.env)).all (fun x => x.1.isSome)
      && decide (([a] : List Expr).length + ([] : List Keyword).length + (if ([] : List Keyword).isEmpty then 0 else 1) < 30)) = true := by rfl)
    (hline : (p2.endLine == p3.line) = true := by rfl) (hs : starEach [a] X.env = (false, eval a X.env) :: starEach [] X.env := by rfl)
    (hd : (x == ("__debug__" : Str)) = false := by decide) (hcd : (x == ("__classdict__" : Str)) = false := by decide) :
    SD fl X Wx (.Expr (.Call (.Attribute (.Name x p1) "extend" p2) [a] [] p3) pos) (sExt i ma) := by
  obtain ⟨ta, pa, qa⟩ := ha
  refine ⟨_, ps_expr (pe_bm PySem.F.plainAttrs_list PySem.F.slot_list_extend PySem.F.type_list_extend mt_extend (pe_var hN hv hd hcd) (pa_cons pa pa_nil hs) rfl hfew hline hs rfl), fun F O env σ H D S w => ?_⟩
  obtain ⟨xs0, q, vs0, hO, hb, hg, hq, l0, w, _⟩ := w.bind.ownL S
  refine ⟨.ref q, get1_some hg, .inl ⟨rfl, vs0, .inl (.inl hq)⟩, ?_⟩
  refine qa F O env σ H _ S (w.bind.imp (fun dx e1 w1 x H1 S1 k1 p1 => ?_) XWs.xw)
  obtain ⟨xs, q', vs, hO', hb', hg', hq', l, w2, f⟩ := w1.bind.ownL S1
  obtain rfl : q' = q := Option.some.inj (hO'.symm.trans hO)
  cases p1 with
  | lst n1 h1 l1 =>
    rename_i ys
    unfold Want at w2
    cases hz : lenOk (xs.length + ys.length) with
    | false => simp only [hz] at w2; exact w2.elim
    | true =>
      simp only [hz, if_true] at w2
      have hz' : xs.length + ys.length ≤ 100000 := of_decide_eq_true hz
      refine ⟨q', _, vs, _, rfl, rfl, hq', h1, by rw [l.len, l1.len, sizeLine_eq]; omega, ?_⟩
      exact w2 O σ _ (f (vs ++ _) (xs ++ ys) (l.app l1)) (.of (k1.trans (ke_mutJ hO)))
  | _ => exact w2.elim
theorem sd_setL {i : Nat} {x : Str} {p1 p2 : Pos} (hN : X.N[i]? = some x) (hv : Vis X.env.scope x) (hb : PD .s X Wx b mb) (ha : PD .s X Wx a ma) (hs : swapsWithSole [.Subscript (.Name x p1) b p2] a pos.line X.env = pure false := by rfl)
    (hw : swappedStores [.Subscript (.Name x p1) b p2] a X.env = pure none := by rfl)
    (has : ∀ v, assign (.Subscript (.Name x p1) b p2) X.env v = (do
      let ov ← holding [v] (eval (.Name x p1) X.env)
      let iv ← holding [v, ov] (eval b X.env)
      standAt p2
      holding [v, ov, iv] (setItem ov iv v)
      release [v, ov, iv] []) := by intro _; rfl)
    (hd : (x == ("__debug__" : Str)) = false := by decide) (hcd : (x == ("__classdict__" : Str)) = false := by decide) :
    SD fl X Wx (.Assign [.Subscript (.Name x p1) b p2] a pos) (sSetL i mb ma) := by
  obtain ⟨ta, pa, qa⟩ := ha
  obtain ⟨tb, pb, qb⟩ := hb
  refine ⟨_, ps_asg pa (pg_sub (pe_var hN hv hd hcd) pb set_list has) hs hw rfl, fun F O env σ H D S w => ?_⟩
  refine qa F O env σ H _ S (w.bind.imp (fun dx e1 w1 x H1 S1 k1 p1 => ?_) XWs.xw)
  obtain ⟨xs0, q, vs0, hO, hb, hg, hq, l0, w2, _⟩ := w1.bind.ownL S1
  refine ⟨.ref q, get1_some hg, ?_⟩
  refine qb F O e1 σ H1 _ S1 (w2.bind.imp (fun dk e2 w3 k H2 S2 k2 p2 => ?_) fun c fs e z => XW.later k1 c fs e (XWs.xw c fs e z))
  obtain ⟨xs, q', vs, hO', hb', hg', hq', l, w4, f⟩ := w3.bind.ownL S2
  obtain rfl : q' = q := Option.some.inj (hO'.symm.trans hO)
  cases p2 with
  | int k =>
    cases hj : ixN xs.length k with
    | none =>
      have w5 : Want (match ixN xs.length k with | some n => fun e => .ok .nx (putL e i (xs.set n dx)) | none => fun _ => R.bad) e2 (Post fl X.K F O H D) (XWs X.K F O H Wx) := w4
      rw [hj] at w5
      exact w5.elim
    | some j =>
      have w5 : Want (match ixN xs.length k with | some n => fun e => .ok .nx (putL e i (xs.set n dx)) | none => fun _ => R.bad) e2 (Post fl X.K F O H D) (XWs X.K F O H Wx) := w4
      rw [hj] at w5
      refine ⟨q', vs, k, j, rfl, rfl, hq', by rw [l.len]; exact hj, ?_⟩
      exact w5 O σ _ (f (vs.set j x) (xs.set j dx) (l.set (Rep.mj k2 p1) j)) (.of (k1.trans (k2.trans (ke_mutJ hO))))
  | _ => exact w4.elim
/-! ### dicts changed -/
theorem RepK.any {W : Pr} {H : Hp} (k : List Key) : ∀ {ks : List (List Key × V)} {kvs : List (List Key × D)}, RepK W H ks kvs → (ks.any fun kv => decide (kv.1 = k)) = kvs.any fun kv => decide (kv.1 = k)
  | _, _, .nil => rfl
  | _, _, .cons r l => by rw [List.any_cons, List.any_cons, RepK.any k l]
theorem RepK.snoc {W : Pr} {H : Hp} {v : V} {d : D} (k : List Key) (r : Rep W H v d) : ∀ {ks : List (List Key × V)} {kvs : List (List Key × D)}, RepK W H ks kvs → RepK W H (ks ++ [(k, v)]) (kvs ++ [(k, d)])
  | _, _, .nil => .cons r .nil
  | _, _, .cons r' l => .cons r' (RepK.snoc k r l)
theorem RepK.repl {W : Pr} {H : Hp} {v : V} {d : D} (k : List Key) (r : Rep W H v d) : ∀ {ks : List (List Key × V)} {kvs : List (List Key × D)}, RepK W H ks kvs → RepK W H (ks.map fun kv => if kv.1 = k then (kv.1, v) else kv) (kvs.map fun kv => if kv.1 = k then (kv.1, d) else kv)
  | _, _, .nil => .nil
  | _, _, .cons (k := k') r' l => by
    rw [List.map_cons, List.map_cons]
    by_cases h : k' = k
    · rw [if_pos h, if_pos h]; exact .cons r (RepK.repl k r l)
    · rw [if_neg h, if_neg h]; exact .cons r' (RepK.repl k r l)
theorem RepK.put {W : Pr} {H : Hp} {v : V} {d : D} (k : List Key) (r : Rep W H v d) {ks : List (List Key × V)} {kvs : List (List Key × D)} (l : RepK W H ks kvs) : RepK W H (putK ks k v) (dput kvs k d) := by
  unfold putK dput
  rw [l.any k]
  split
  · exact l.repl k r
  · exact l.snoc k r
theorem RepK.len {W : Pr} {H : Hp} : ∀ {ks : List (List Key × V)} {kvs : List (List Key × D)}, RepK W H ks kvs → ks.length = kvs.length
  | _, _, .nil => rfl
  | _, _, .cons r l => by rw [List.length_cons, List.length_cons, RepK.len l]
theorem Want.ownD {K : PySem.W.Frag} {F : Fm} {O : Nat → Option Addr} {env : Env} {σ : L2.St} {H : Hp} {i : Nat} {Q : List (List Key × D) → Env → Prop} {E : Str → List D → Env → Prop} (S : SR K F O env σ H) (h : Want (AH.ownD i) env Q E) :
    ∃ kvs a ks, O i = some a ∧ get1 σ i = some (.ref a) ∧ H a = some (.dT ks) ∧ RepK (Ow F O) H ks kvs ∧ Q kvs env ∧
      ∀ (vs' : List (List Key × V)) (ys : List (List Key × D)), RepK (Ow F O) H vs' ys → SR K F O (put env i (.odc ys)) σ (upd H a (.dT vs')) := by
  unfold Want AH.ownD at h
  have s := S.slot i
  cases q : sl env i with
  | odc kvs =>
    rw [q] at h s
    obtain ⟨a, ks, h1, h0, h2, h3, r⟩ := s
    exact ⟨kvs, a, ks, h1, h2, h3, r, h, fun vs' ys r' => S.mut h1 (.inr h0.1) ⟨a, vs', h1, h0, h2, upd_same, r'.mj (Ke.mut ⟨i, h1⟩)⟩⟩
  | _ => rw [q] at h; exact h.elim
theorem sd_setD {i : Nat} {x : Str} {p1 p2 : Pos} (hu : X.A.units + 65 < cLine) (hN : X.N[i]? = some x) (hv : Vis X.env.scope x) (hb : PD .s X Wx b mb) (ha : PD .s X Wx a ma) (hs : swapsWith a (some (.Subscript (.Name x p1) b p2)) pos.line X.env = pure false := by rfl)
    (hd : (x == ("__debug__" : Str)) = false := by decide) (hcd : (x == ("__classdict__" : Str)) = false := by decide) :
    SD fl X Wx (.Assign [.Subscript (.Name x p1) b p2] a pos) (sSetD i mb ma) := by
  obtain ⟨ta, pa, qa⟩ := ha
  obtain ⟨tb, pb, qb⟩ := hb
  refine ⟨_, ps_dput (by omega) (pe_var hN hv hd hcd) pb pa hs, fun F O env σ H D S w => ?_⟩
  refine qa F O env σ H _ S (w.bind.imp (fun dx e1 w1 x H1 S1 k1 p1 => ?_) XWs.xw)
  obtain ⟨xs0, q, vs0, hO, hg, hq, l0, w2, _⟩ := w1.bind.ownD S1
  refine ⟨.ref q, get1_some hg, ?_⟩
  refine qb F O e1 σ H1 _ S1 (w2.bind.imp (fun dk e2 w3 k H2 S2 k2 p2 => ?_) fun c fs e z => XW.later k1 c fs e (XWs.xw c fs e z))
  obtain ⟨kvs, q', ks, hO', hg', hq', l, w4, f⟩ := w3.bind.ownD S2
  obtain rfl : q' = q := Option.some.inj (hO'.symm.trans hO)
  cases hk : keyD dk with
  | none => rw [hk] at w4; exact w4.elim
  | some kk =>
    rw [hk] at w4
    obtain ⟨b, rfl, hb⟩ := keyD_rep p2 hk
    obtain ⟨hz, w5⟩ := Want.gd (c := !lenOk (kvs.length + 1)) w4 (by cases lenOk (kvs.length + 1) <;> rfl)
    have hz' : kvs.length + 1 ≤ 100000 := of_decide_eq_true (by simpa [lenOk] using hz)
    refine ⟨q', _, rfl, DPut.t hq' hb (by rw [l.len, sizeLine_eq]; omega), ?_⟩
    exact w5 O σ _ (f _ _ (l.put kk (Rep.mj k2 p1))) (.of (k1.trans (k2.trans (ke_mutJ hO))))
/-! ### x op= e -/
theorem sd_aug {f : D → D → Rv D} {g : Int → Int → Int} {op : Operator} {i : Nat} {x : Str} (hN : X.N.Nodup) (hi : X.N[i]? = some x) (hx : Loc X.env.scope x) (ho : PIp X op (ipI g)) (hfg : ∀ dx dy dz, f dx dy = .ok dz → ∃ i j, dx = .int i ∧ dy = .int j ∧ dz = .int (g i j)) (ha : PD .s X Wx a ma)
    (hf : X.fn x = true ∨ X.env.scope.names.lookup x = some .local := by first | exact .inl rfl | exact .inr rfl | assumption) : SD fl X Wx (.AugAssign (.Name x p) op a pos) (sAug f i ma) := by
  obtain ⟨ta, pa, qa⟩ := ha
  refine ⟨_, ps_aug hN hi hx pa ho hf, fun F O env σ H D S w => ?_⟩
  have w := w.bind
  unfold Want eVar at w
  have s := S.slot i
  cases h : sl env i with
  | val dv =>
    rw [h] at w s
    obtain ⟨_, v, e, r⟩ := s
    refine ⟨v, get1_some e, qa F O env σ H _ S ((Want.bind (m := ma) w).imp (fun dy e1 w1 y H1 S1 k1 p1 => ?_) XWs.xw)⟩
    obtain ⟨dz, ef, w2⟩ := w1.bind.of
    obtain ⟨i1, j1, rfl, rfl, rfl⟩ := hfg _ _ _ ef
    cases r
    cases p1
    obtain ⟨_, w3⟩ := w2.gd rfl
    exact ⟨i1, j1, rfl, rfl, w3 _ _ H1 (S1.setVal (.int _)) ⟨k1, fun a z => .inl (jo_setN z)⟩⟩
  | _ => rw [h] at w; exact w.elim
theorem add_ints : ∀ dx dy dz, dAddI dx dy = .ok dz → ∃ i j, dx = .int i ∧ dy = .int j ∧ dz = .int (i + j) := fun dx dy dz h => by
  unfold dAddI at h
  split at h
  · cases h; exact ⟨_, _, rfl, rfl, rfl⟩
  · cases h
theorem sub_ints : ∀ dx dy dz, dSub dx dy = .ok dz → ∃ i j, dx = .int i ∧ dy = .int j ∧ dz = .int (i - j) := fun dx dy dz h => by
  unfold dSub at h
  split at h
  · cases h; exact ⟨_, _, rfl, rfl, rfl⟩
  · cases h
end
end AH
namespace AH
open PySem PySem.Spec PyProof.Rows L2
section
variable {fl : Fl} {X : Cx} {Wx : WX} {e a b c d tg iter : Expr} {ma mb mc md : DE} {pos p : Pos} {st : Stmt} {rest : List Stmt} {m n : DS}
/-! ### for -/
theorem sd_for {js : List Nat} {mi : DI} {g : DG} {body : List Stmt} (hp : PassesOwn (model X.prog X.w) X.A X.env X.xe) (hc : X.calm = true) (hi : ID X Wx tg iter mi) (hg : GD X tg js g) (hb : SsD fl X Wx body m)
    (hs : ∀ x, foldedSetIterable iter X.env x = pure x := by intro _; rfl) : SD fl X Wx (.For tg iter body [] pos) (sFor mi g m) := by
  obtain ⟨wi, pi, qi⟩ := hi
  obtain ⟨nx, tg', pg, qg⟩ := hg
  obtain ⟨tb, pb, qb⟩ := hb
  refine ⟨_, ps_for hp hc pi pg pb hs, fun F O env σ H D S w => ?_⟩
  refine qi F O env σ H _ S (w.bind.imp (fun xs e1 w1 J H1 S1 k1 wk => ?_) XWs.xw)
  refine ⟨fun i k σ' H' => k = xs.length - i ∧ i ≤ xs.length ∧ ∃ O' e', SR X.K F O' e' σ' H' ∧ KeS O H1 O' H' ∧ Want (loop g m (xs.drop i)) e' (Post fl X.K F O' H' D) (XWs X.K F O' H' Wx), ⟨xs.length, by simp, Nat.zero_le _, O, e1, S1, .refl, w1.imp (Post.later (.of k1)) (XWs.later (.of k1))⟩, ?_⟩
  rintro i k σ2 H2 ⟨rfl, hi, O2, e2, S2, k2, w2⟩
  by_cases hlt : i < xs.length
  · have hd : xs.drop i = xs[i] :: xs.drop (i + 1) := (List.drop_eq_getElem_cons hlt)
    refine .inr ⟨wk.go i H2 k2.ke.ow hlt, fun σ' H' => i + 1 ≤ xs.length ∧ ∃ O' e', SR X.K F O' e' σ' H' ∧ KeS O H1 O' H' ∧ Want (loop g m (xs.drop (i + 1))) e' (Post fl X.K F O' H' D) (XWs X.K F O' H' Wx), fun σ' H' h => ⟨xs.length - (i + 1), by omega, rfl, h.1, h.2⟩, fun x H3 y => ?_⟩
    rw [hd] at w2
    obtain ⟨ext, r⟩ := wk.yld i H2 x H3 xs[i] (Ow F O2) k2.ke.ow (ow_step k2.ow) (S2.prot) (by simp [hlt]) y
    have S3 : SR X.K F O2 e2 σ2 H3 := S2.ext ext
    have k3 : KeS O2 H2 O2 H3 := .of (ke_ext ext)
    refine qg F O2 e2 σ2 H3 x xs[i] _ S3 r ?_
    have w3 := Want.bind (m := g xs[i]) w2
    refine w3.imp (fun _ e4 w4 σ4 S4 _ => ?_) fun _ _ _ _ => trivial
    refine qb F O2 e4 σ4 H3 _ S4 ((Want.bind (m := m) w4).imp (fun o e5 w5 O5 σ5 H5 S5 k5 => ?_) (XWs.later k3))
    have kk : KeS O H1 O5 H5 := k2.trans (k3.trans k5)
    have again : Want (loop g m (xs.drop (i + 1))) e5 (Post fl X.K F O2 H2 D) (XWs X.K F O2 H2 Wx) → i + 1 ≤ xs.length ∧ ∃ O' e', SR X.K F O' e' σ5 H5 ∧ KeS O H1 O' H5 ∧ Want (loop g m (xs.drop (i + 1))) e' (Post fl X.K F O' H5 D) (XWs X.K F O' H5 Wx) := fun w6 =>
      ⟨hlt, O5, e5, S5, kk, w6.imp (Post.later (k3.trans k5)) (XWs.later (k3.trans k5))⟩
    cases o with
    | nx => exact again w5
    | ct => exact again w5
    | bk => exact w5 O5 σ5 H5 S5 (k3.trans k5)
    | rt d => exact w5 O5 σ5 H5 S5 (k3.trans k5)
  · have e : i = xs.length := by omega
    subst e
    refine .inl ⟨wk.stop H2 k2.ke.ow, ?_⟩
    rw [List.drop_length] at w2
    exact w2 O2 σ2 H2 S2 .refl
/-! ### comprehensions -/
/-- the reading that an expression's word gives -/
def tD (fl : Fl) (K : PySem.W.Frag) (Wx : WX) (m : DE) : TE := fun σ H Q => ∃ F O env, SR K F O env σ H ∧ Want m env (fun d e1 => ∀ v H', SR K F O e1 σ H' → Ke (Jo O) H H' → Po fl K F O e1 σ H H' v d → Q v H') (XW K F O σ H Wx)
theorem PD.pe {fl : Fl} (h : PD fl X Wx a ma) : PE X a (tD fl X.K Wx ma) := by
  obtain ⟨t, p, q⟩ := h
  exact ⟨fun pins s σ H Q I ⟨F, O, env, S, w⟩ => p.run pins s σ H Q I (q F O env σ H Q S w)⟩
def tT (K : PySem.W.Frag) (Wx : WX) (m : DT) : TT := fun σ H Q => ∃ F O env, SR K F O env σ H ∧ Want m env (fun b e1 => ∀ H', SR K F O e1 σ H' → Ke (Jo O) H H' → Q b H') (XW K F O σ H Wx)
/-- the tests of a comprehension -/
def CD (X : Cx) (Wx : WX) (ifs : List Expr) (m : DT) : Prop := PTs X ifs (tT X.K Wx m)
theorem cd_nil : CD X Wx [] AH.tYes := ⟨fun pins s σ H Q I ⟨F, O, env, S, w⟩ => pts_nil.run pins s σ H Q I (w H S Ke.refl)⟩
theorem cd_one {t : DT} (h : TD X Wx c t) : CD X Wx [c] t := by
  obtain ⟨tt, p, q⟩ := h
  exact ⟨fun pins s σ H Q I ⟨F, O, env, S, w⟩ => (pts_one p).run pins s σ H Q I (q F O env σ H Q S w)⟩
def tG (K : PySem.W.Frag) (js : List Nat) (g : DG) : TG := fun v σ H Q => ∃ F O env d, SR K F O env σ H ∧ Rep (Ow F O) H v d ∧ Want (g d) env (fun _ e1 => ∀ σ', SR K F O e1 σ' H → Wp js σ σ' → Q σ' H) (fun _ _ _ => True)
theorem GD.pg {js : List Nat} {g : DG} (h : GD X tg js g) : PG X tg (tG X.K js g) := by
  obtain ⟨nx, t, p, q⟩ := h
  exact ⟨fun pins s σ H v u Q I r ⟨F, O, env, d, S, rr, w⟩ => p.run pins s σ H v u Q I r (q F O env σ H v d Q S rr w)⟩
def tI (K : PySem.W.Frag) (Wx : WX) (m : DI) : TI := fun σ H R => ∃ F O env, SR K F O env σ H ∧ Want m env (fun xs e1 => ∀ J H1, SR K F O e1 σ H1 → Ke (Jo O) H H1 → Wk F O H1 J xs → R J H1) (XW K F O σ H Wx)
theorem ID.pi {m : DI} (h : ID X Wx tg iter m) : PI X tg iter (tI X.K Wx m) := by
  obtain ⟨t, p, q⟩ := h
  exact ⟨fun pins s σ H R I ⟨F, O, env, S, w⟩ => p.run pins s σ H R I (q F O env σ H R S w)⟩
def W0 : WX := fun _ _ _ _ => False
section
variable {K : PySem.W.Frag} {F : Fm} {O : Nat → Option Addr} {env e0 e1 : Env} {σ : L2.St} {H H1 H' : Hp} {D : Addr}
theorem put_len' (e : Env) : ∀ vs : List Nat, (wipeE e vs).length = e.length
  | [] => rfl
  | v :: vs => by unfold wipeE; rw [put_len, put_len' e vs]
theorem sl_wipe : ∀ {vs : List Nat} {j : Nat}, sl (wipeE env vs) j = if j ∈ vs then .no else sl env j
  | [], j => by simp [wipeE]
  | v :: vs, j => by
    unfold wipeE
    by_cases h : j = v
    · subst h
      rw [if_pos List.mem_cons_self]
      by_cases hl : j < (wipeE env vs).length
      · exact sl_put_same _ _ _ hl
      · rw [put_out _ _ _ (by omega)]; exact sl_out _ _ (by omega)
    · rw [sl_put_ne _ _ _ _ h, sl_wipe]
      have e : (j ∈ v :: vs) ↔ j ∈ vs := by
        rw [List.mem_cons]
        exact ⟨fun z => z.elim (fun z => absurd z h) id, .inr⟩
      simp only [e]
theorem get1_wipe {vs : List Nat} {j : Nat} : get1 (wipe σ vs) j = if j ∈ vs then none else get1 σ j := by
  unfold get1
  rw [wipe_get]
  split
  · cases σ[j]? <;> rfl
  · rfl
theorem back_len (e0 e : Env) : ∀ vs : List Nat, (back e0 e vs).length = e.length
  | [] => rfl
  | v :: vs => by unfold back; rw [put_len, back_len e0 e vs]
theorem sl_back (h : e0.length = e1.length) : ∀ {vs : List Nat} {j : Nat}, sl (back e0 e1 vs) j = if j ∈ vs then sl e0 j else sl e1 j
  | [], j => by simp [back]
  | v :: vs, j => by
    unfold back
    by_cases hj : j = v
    · subst hj
      rw [if_pos List.mem_cons_self]
      by_cases hl : j < (back e0 e1 vs).length
      · exact sl_put_same _ _ _ hl
      · rw [put_out _ _ _ (by omega)]
        rw [back_len] at hl
        rw [sl_out _ _ (by rw [back_len]; omega), sl_out _ _ (by omega)]
    · rw [sl_put_ne _ _ _ _ hj, sl_back h]
      have e : (j ∈ v :: vs) ↔ j ∈ vs := by
        rw [List.mem_cons]
        exact ⟨fun z => z.elim (fun z => absurd z hj) id, .inr⟩
      simp only [e]
theorem SR.wipe (S : SR K F O env σ H) (vs : List Nat) (h : ∀ v ∈ vs, O v = none) : SR K F O (wipeE env vs) (L2.wipe σ vs) H where
  slot := fun j => by
    rw [sl_wipe, get1_wipe]
    split
    · rename_i hj; exact h j hj
    · exact S.slot j
  inj := S.inj
  prot := S.prot
  keep := S.keep
  al := S.al
  len := by rw [put_len', wipe_length]; exact S.len
  nal := S.nal
/-- behind a comprehension: the frame's own slots as they were -/
theorem SR.back (S : SR K F O e0 σ H1) {F' : Fm} (hb : F'.ba = F.ba) (h0 : F'.H0 = F.H0) (gp : ∀ a, F'.P a → F.P a ∨ H1 a = none) (gn : ∀ a, F'.N a → F.N a ∨ H1 a = none) {vs : List Nat} (S' : SR K F' O e1 (L2.wipe σ vs) H') (k : Ke (Jo O) H1 H') (h : ∀ v ∈ vs, isOwn (sl e0 v) = false) : SR K F' O (AH.back e0 e1 vs) σ H' := by
  have le : e0.length = e1.length := by
    have := S'.len
    rw [wipe_length] at this
    rw [S.len, this]
  have g : ∀ a, Ow F' O a → Ow F O a ∨ H1 a = none := fun a w => w.elim (fun w => (gp a w).elim (fun z => .inl (.inl z)) .inr) fun w => .inl (.inr w)
  refine ⟨fun j => ?_, S'.inj, S'.prot, S'.keep, S'.al, by rw [back_len, ← le]; exact S.len, S'.nal⟩
  rw [sl_back le]
  split
  · rename_i hj
    have s := S.slot j
    have ho := h j hj
    cases z : sl e0 j with
    | no => rw [z] at s; exact s
    | val d => rw [z] at s; obtain ⟨h1, v, e, r⟩ := s; exact ⟨h1, v, e, r.ke k.ow g⟩
    | ro d => rw [z] at s; obtain ⟨h1, v, e, r⟩ := s; exact ⟨h1, v, e, r.go k g fun a z => z.elim (fun z => .inl (.inl z)) fun z => (gn a z).elim (fun z => .inl (.inr z)) .inr⟩
    | _ => rw [z] at ho; cases ho
  · rename_i hj
    have s := S'.slot j
    rw [get1_wipe, if_neg hj] at s
    exact s
/-- the new list that is being filled: all else keeps apart -/
theorem SR.updP {o : HO} (S : SR K (F.ad D) O env σ H) (nj : ¬ Jo O D) (h0 : F.H0 D = none) : SR K (F.ad D) O env σ (upd H D o) := by
  have al : ∀ a, H a ≠ none → upd H D o a ≠ none := fun a h => by
    by_cases e : a = D
    · rw [e, upd_same]; simp
    · rw [upd_ne e]; exact h
  have ke : Ke (Ow (F.ad D) O) H (upd H D o) := ⟨fun a u n e => by rw [upd_ne fun z => n (.inl (.inr z))]; exact e, al⟩
  refine ⟨fun i => ?_, S.inj, fun a w => al a (S.prot a w), fun a u e n => ?_, fun a e => al a (S.al a e), S.len, fun a e => al a (S.nal a e)⟩
  · have s := S.slot i
    cases z : sl env i with
    | no => rw [z] at s; exact s
    | val d => rw [z] at s; obtain ⟨h1, v, e, r⟩ := s; exact ⟨h1, v, e, r.mono ke⟩
    | ro d =>
      rw [z] at s
      obtain ⟨h1, v, e, r⟩ := s
      refine ⟨h1, v, e, ?_⟩
      cases r with
      | of r => exact .of (r.mono ke)
      | tup n h l => exact .tup n (rd_keep (fun o e => by rw [upd_ne fun z => n (.inr (.inr z))]; exact e) h) (l.mono ke)
      | lst n h l => exact .lst n (rd_keep (fun o e => by rw [upd_ne fun z => n (.inr (.inr z))]; exact e) h) (l.mono ke)
      | dic n h l => exact .dic n (rd_keep (fun o e => by rw [upd_ne fun z => n (.inr (.inr z))]; exact e) h) (l.mono ke)
      | kl s => exact .kl s
    | own xs => rw [z] at s; obtain ⟨a, vs, h, hz, e, q, r⟩ := s; exact ⟨a, vs, h, hz, e, by rw [upd_ne fun z => hz.2 (.inr z)]; exact q, r.mono ke⟩
    | bor xs => rw [z] at s; obtain ⟨a, vs, h, hz, e, q, r⟩ := s; exact ⟨a, vs, h, hz, e, by rw [upd_ne fun z => nj ⟨i, by rw [← z]; exact h⟩]; exact q, r.mono ke⟩
    | odc kvs => rw [z] at s; obtain ⟨a, vs, h, hz, e, q, r⟩ := s; exact ⟨a, vs, h, hz, e, by rw [upd_ne fun z => hz.2 (.inr z)]; exact q, r.mono ke⟩
    | ldc kvs => rw [z] at s; obtain ⟨a, vs, o, h, hz, e, q, r⟩ := s; exact ⟨a, vs, o, h, hz, e, by rw [upd_ne fun z => hz.2 (.inr z)]; exact q, r.mono ke⟩
  · have e : F.H0 a = some u := e
    have nD : a ≠ D := fun z => by rw [z, h0] at e; cases e
    rw [upd_ne nD]
    exact S.keep a u e n
end
end
end AH
namespace AH
open PySem PySem.Spec PyProof.Rows L2
section
variable {fl : Fl} {X : Cx} {Wx : WX} {e a b c d tg iter elt : Expr} {ma mb mc md : DE} {pos p : Pos} {st : Stmt} {rest : List Stmt} {m n : DS}
theorem Want.noX {α : Type} {m : M α} {env : Env} {Q : α → Env → Prop} {E : Str → List D → Env → Prop} (h : Want (AH.noX m) env Q E) : Want m env Q fun _ _ _ => False := by
  unfold Want AH.noX at h
  unfold Want
  cases hm : m env with
  | ok a e => rw [hm] at h; exact h
  | ex c fs e => rw [hm] at h; exact h
  | bad => rw [hm] at h; exact h
/-- the new list of a comprehension gets one item more -/
theorem SR.snoc {K : PySem.W.Frag} {F : Fm} {O : Nat → Option Addr} {env : Env} {σ : L2.St} {H : Hp} {D : Addr} {o : HO} {acc : List V} {y : V} {ys : List AH.D} {d : AH.D} (S : SR K (F.ad D) O env σ H) (nj : ¬ Jo O D) (h0 : F.H0 D = none) (l : RepL (Ow (F.ad D) O) H acc ys) (r : Rep (Ow (F.ad D) O) H y d) :
    SR K (F.ad D) O env σ (upd H D o) ∧ RepL (Ow (F.ad D) O) (upd H D o) (acc ++ [y]) (ys ++ [d]) := by
  refine ⟨S.updP nj h0, ?_⟩
  have ke : Ke (Ow (F.ad D) O) H (upd H D o) := Ke.mut (.inl (.inr rfl))
  exact (l.mono ke).app (.cons (r.mono ke) .nil)
theorem lc_sound {K : PySem.W.Frag} {vs js : List Nat} {it : DI} {g : DG} {t : DT} {el : DE} (hj : ∀ j ∈ js, j ∈ vs) {F : Fm} {O : Nat → Option Addr} {env : Env} {σ : L2.St} {H : Hp} {Q : VK} (S : SR K F O env σ H)
    (w : Want (eLc vs it g t el) env (fun d e1 => ∀ v H', SR K F O e1 σ H' → Ke (Jo O) H H' → Po .f K F O e1 σ H H' v d → Q v H') (XW K F O σ H Wx)) :
    tLc (tI K Wx it) (tG K js g) (tT K W0 t) (tD .s K W0 el) vs σ H Q := by
  refine ⟨F, O, env, S, w.bind.imp (fun xs e0 w1 J H1 S1 k1 wk D hD => ?_) fun _ _ _ z => z⟩
  have nj : ¬ Jo O D := fun z => S1.prot D (.inr z) hD
  have h0 : F.H0 D = none := al_none S1.al hD
  have w2 : ((vs.any fun v => isOwn (sl e0 v)) = false ∧ lenOk xs.length = true) ∧ Want (compL vs e0 g t el xs) (wipeE e0 vs) (fun ys e1 => ∀ v H', SR K F O (back e0 e1 vs) σ H' → Ke (Jo O) H H' → Po .f K F O (back e0 e1 vs) σ H H' v (.lst ys) → Q v H') (fun _ _ _ => False) := by
    unfold Want at w1
    cases hb : (vs.any fun v => isOwn (sl e0 v)) || !lenOk xs.length with
    | true => simp only [hb] at w1; exact w1.elim
    | false =>
      simp only [hb] at w1
      refine ⟨?_, ?_⟩
      · cases h1 : (vs.any fun v => isOwn (sl e0 v)) with
        | true => rw [h1] at hb; cases hb
        | false => rw [h1] at hb; cases h2 : lenOk xs.length with
          | true => exact ⟨rfl, rfl⟩
          | false => rw [h2] at hb; cases hb
      · refine Want.noX (E := fun _ _ _ => False) ?_
        unfold Want
        cases hm : noX (compL vs e0 g t el xs) (wipeE e0 vs) with
        | ok ys e1 => rw [hm] at w1; exact w1
        | ex c fs e1 => rw [hm] at w1; exact w1
        | bad => rw [hm] at w1; exact w1
  obtain ⟨⟨hno, hlen⟩, w2⟩ := w2
  have hno' : ∀ v ∈ vs, isOwn (sl e0 v) = false := fun v hv => by
    have := List.any_eq_false.mp hno v hv
    simpa using this
  have hOn : ∀ v ∈ vs, O v = none := fun v hv => S1.notOwn (hno' v hv)
  have Sw : SR K F O (wipeE e0 vs) (L2.wipe σ vs) H1 := S1.wipe vs hOn
  refine ⟨fun i k H' => k = xs.length - i ∧ i ≤ xs.length ∧ ∃ e' acc ys, SR K (F.ad D) O e' (L2.wipe σ vs) H' ∧ Ke (Jo O) H1 H' ∧ H' D = some (.lst acc) ∧ RepL (Ow (F.ad D) O) H' acc ys ∧ ys.length ≤ i ∧
    Want (compL vs e0 g t el (xs.drop i)) e' (fun zs e1 => ∀ v H', SR K F O (back e0 e1 vs) σ H' → Ke (Jo O) H H' → Po .f K F O (back e0 e1 vs) σ H H' v (.lst (ys ++ zs)) → Q v H') (fun _ _ _ => False), ⟨xs.length, by simp, Nat.zero_le _, _, [], [], Sw.ad hD, Ke.new hD, upd_same, .nil, Nat.le_refl _, w2⟩, ?_⟩
  rintro i k H2 ⟨rfl, hi, e', acc, ys, S2, k2, hD2, l2, hy, w3⟩
  by_cases hlt : i < xs.length
  · have hd : xs.drop i = xs[i] :: xs.drop (i + 1) := (List.drop_eq_getElem_cons hlt)
    rw [hd] at w3
    refine .inr ⟨wk.go i H2 k2.ow hlt, fun H' => i + 1 ≤ xs.length ∧ ∃ e' acc ys, SR K (F.ad D) O e' (L2.wipe σ vs) H' ∧ Ke (Jo O) H1 H' ∧ H' D = some (.lst acc) ∧ RepL (Ow (F.ad D) O) H' acc ys ∧ ys.length ≤ i + 1 ∧
      Want (compL vs e0 g t el (xs.drop (i + 1))) e' (fun zs e1 => ∀ v H', SR K F O (back e0 e1 vs) σ H' → Ke (Jo O) H H' → Po .f K F O (back e0 e1 vs) σ H H' v (.lst (ys ++ zs)) → Q v H') (fun _ _ _ => False), fun H' h => ⟨xs.length - (i + 1), by omega, rfl, h.1, h.2⟩, fun x H3 y => ?_⟩
    obtain ⟨ext, r⟩ := wk.yld i H2 x H3 xs[i] (Ow (F.ad D) O) k2.ow (fun a z => by
      rcases z with (z | rfl) | z
      · exact .inl (.inl z)
      · exact .inr hD
      · exact .inl (.inr z)) S2.prot (by simp [hlt]) y
    have S3 : SR K (F.ad D) O e' (L2.wipe σ vs) H3 := S2.ext ext
    have w4 := Want.bind (m := g xs[i]) w3
    refine ⟨F.ad D, O, e', xs[i], S3, r, w4.imp (fun _ e4 w5 σ4 S4 wp => ?_) fun _ _ _ z => z.elim⟩
    refine ⟨(wp vs hj).trans (by
      apply List.ext_getElem?
      intro j
      rw [wipe_get, wipe_get]
      split
      · cases σ[j]? <;> rfl
      · rfl), F.ad D, O, e4, S4, (Want.bind w5).imp (fun bb e5 w6 H5 S5 k5 => ?_) fun _ _ _ z => z.elim⟩
    have k25 : Ke (Jo O) H1 H5 := k2.trans ((ke_ext ext).trans k5)
    have hD5 : H5 D = some (.lst acc) := k5.stay _ _ nj (ext _ _ hD2)
    have l5 : RepL (Ow (F.ad D) O) H5 acc ys := (l2.ke (ke_ext ext) (fun _ z => .inl z)).mj k5
    cases bb with
    | false =>
      simp only [Bool.false_eq_true, if_false]
      refine ⟨hlt, wipeE e5 vs, acc, ys, ?_, k25, hD5, l5, by omega, ?_⟩
      · have := S5.wipe vs hOn
        rw [show L2.wipe σ4 vs = L2.wipe σ vs from (wp vs hj).trans (by
          apply List.ext_getElem?
          intro j
          rw [wipe_get, wipe_get]
          split
          · cases σ[j]? <;> rfl
          · rfl)] at this
        exact this
      · have w7 := Want.bind (m := compL vs e0 g t el (xs.drop (i + 1))) (show Want ((compL vs e0 g t el (xs.drop (i + 1))).bind fun zs => M.pure ([] ++ zs)) (wipeE e5 vs) _ _ from w6)
        exact w7
    | true =>
      simp only [if_true]
      refine ⟨F.ad D, O, e5, S5, (Want.bind (Want.bind w6)).imp (fun dd e6 w7 v H6 S6 k6 r6 => ?_) fun _ _ _ z => z.elim⟩
      refine ⟨acc, k6.stay _ _ nj hD5, ?_, hlt, wipeE e6 vs, acc ++ [v], ys ++ [dd], ?_⟩
      · rw [l5.len]
        have h1 : decide (xs.length ≤ 100000) = true := hlen
        have := of_decide_eq_true h1
        have h2 : sizeLine > 100000 := by decide
        omega
      obtain ⟨S7, l7⟩ := SR.snoc (o := .lst (acc ++ [v])) S6 nj h0 (l5.mj k6) r6
      have k26 := k25.trans k6
      refine ⟨?_, ⟨fun a o n e => by rw [upd_ne (ne_of_none e hD)]; exact k26.stay a o n e, fun a e => ?_⟩, upd_same, l7, ?_, ?_⟩
      · have := S7.wipe vs hOn
        rw [show L2.wipe σ4 vs = L2.wipe σ vs from (wp vs hj).trans (by
          apply List.ext_getElem?
          intro j
          rw [wipe_get, wipe_get]
          split
          · cases σ[j]? <;> rfl
          · rfl)] at this
        exact this
      · by_cases z : a = D
        · rw [z, upd_same]; simp
        · rw [upd_ne z]; exact k26.there a e
      · rw [List.length_append]; simp; omega
      · have w8 := Want.bind (m := compL vs e0 g t el (xs.drop (i + 1))) (show Want ((compL vs e0 g t el (xs.drop (i + 1))).bind fun zs => M.pure ([dd] ++ zs)) (wipeE e6 vs) _ _ from w7)
        refine w8.imp (fun zs e1 z v H' S k p => ?_) fun _ _ _ z => z
        refine z v H' S k ?_
        rw [List.append_assoc] at p
        exact p
  · have e : i = xs.length := by omega
    subst e
    refine .inl ⟨wk.stop H2 k2.ow, ?_⟩
    rw [List.drop_length] at w3
    have w4 := w3 (.ref D) H2
    rw [List.append_nil] at w4
    have Sb : SR K (F.ad D) O (back e0 e' vs) σ H2 := SR.back (F' := F.ad D) S1 rfl rfl (fun a z => z.elim .inl fun z => .inr (z ▸ hD)) (fun a z => z.elim .inl fun z => .inr (z ▸ hD)) S2 k2 hno'
    exact w4 Sb.unad (k1.trans k2) ⟨D, acc, ys, rfl, rfl, by
      cases q : H D with
      | none => rfl
      | some o => exact absurd hD (k1.there D (by rw [q]; simp)), hD2, l2, Sb⟩
theorem wipe_wipe {σ : L2.St} {vs1 vs : List Nat} (h : ∀ v ∈ vs1, v ∈ vs) : L2.wipe (L2.wipe σ vs1) vs = L2.wipe σ vs := by
  apply List.ext_getElem?
  intro j
  rw [wipe_get, wipe_get, wipe_get]
  by_cases h1 : j ∈ vs
  · rw [if_pos h1, if_pos h1]
    split
    · cases σ[j]? <;> rfl
    · rfl
  · rw [if_neg h1, if_neg h1, if_neg fun z => h1 (h j z)]
/-! two sources -/
def len2Ok (n : Nat) : Bool := decide (n ≤ 4000)
def compL2 (vs vs1 : List Nat) (g : DG) (t : DT) (it1 : DI) (g1 : DG) (t1 : DT) (a : DE) : List D → M (List D)
  | [] => M.pure []
  | x :: xs => (g x).bind fun _ => t.bind fun k =>
      (if k then it1.bind fun ys => fun e => if (vs1.any fun v => isOwn (sl e v)) || !len2Ok ys.length then .bad else compL vs1 e g1 t1 a ys (wipeE e vs1) else M.pure []).bind fun ys =>
      fun e1 => ((compL2 vs vs1 g t it1 g1 t1 a xs).bind fun zs => M.pure (ys ++ zs)) (wipeE e1 vs)
def eLc2 (vs vs1 : List Nat) (it : DI) (g : DG) (t : DT) (it1 : DI) (g1 : DG) (t1 : DT) (a : DE) : DE := it.bind fun xs => fun e =>
  if (vs.any fun v => isOwn (sl e v)) || !len2Ok xs.length then .bad else
  match noX (compL2 vs vs1 g t it1 g1 t1 a xs) (wipeE e vs) with
  | .ok ys e1 => .ok (.lst ys) (back e e1 vs)
  | _ => .bad
theorem or_f {a b : Bool} (h : (a || !b) = false) : a = false ∧ b = true := by cases a <;> cases b <;> simp_all
theorem no_own {vs : List Nat} {e0 : Env} (hno : (vs.any fun v => isOwn (sl e0 v)) = false) : ∀ v ∈ vs, isOwn (sl e0 v) = false := fun v hv => by
  have := List.any_eq_false.mp hno v hv
  simpa using this
theorem ke_upd {O : Nat → Option Addr} {H1 H6 : Hp} {D : Addr} {o : HO} (hD : H1 D = none) (k26 : Ke (Jo O) H1 H6) : Ke (Jo O) H1 (upd H6 D o) := by
  refine ⟨fun a o n e => by rw [upd_ne (ne_of_none e hD)]; exact k26.stay a o n e, fun a e => ?_⟩
  by_cases z : a = D
  · rw [z, upd_same]; simp
  · rw [upd_ne z]; exact k26.there a e
theorem lc2_sound {K : PySem.W.Frag} {vs vs1 js js1 : List Nat} {it it1 : DI} {g g1 : DG} {t t1 : DT} {el : DE} (hj : ∀ j ∈ js, j ∈ vs) (hj1 : ∀ j ∈ js1, j ∈ vs1) (hv : ∀ j ∈ vs1, j ∈ vs) {F : Fm} {O : Nat → Option Addr} {env : Env} {σ : L2.St} {H : Hp} {Q : VK} (S : SR K F O env σ H)
    (w : Want (eLc2 vs vs1 it g t it1 g1 t1 el) env (fun d e1 => ∀ v H', SR K F O e1 σ H' → Ke (Jo O) H H' → Po .f K F O e1 σ H H' v d → Q v H') (XW K F O σ H Wx)) :
    tLc2 (tI K Wx it) (tG K js g) (tT K W0 t) (tI K W0 it1) (tG K js1 g1) (tT K W0 t1) (tD .s K W0 el) vs vs1 σ H Q := by
  refine ⟨F, O, env, S, w.bind.imp (fun xs e0 w1 J H1 S1 k1 wk D hD => ?_) fun _ _ _ z => z⟩
  have nj : ¬ Jo O D := fun z => S1.prot D (.inr z) hD
  have h0 : F.H0 D = none := al_none S1.al hD
  have w2 : ((vs.any fun v => isOwn (sl e0 v)) = false ∧ len2Ok xs.length = true) ∧ Want (compL2 vs vs1 g t it1 g1 t1 el xs) (wipeE e0 vs) (fun ys e1 => ∀ v H', SR K F O (back e0 e1 vs) σ H' → Ke (Jo O) H H' → Po .f K F O (back e0 e1 vs) σ H H' v (.lst ys) → Q v H') (fun _ _ _ => False) := by
    unfold Want at w1
    cases hb : (vs.any fun v => isOwn (sl e0 v)) || !len2Ok xs.length with
    | true => simp only [hb] at w1; exact w1.elim
    | false =>
      simp only [hb] at w1
      refine ⟨or_f hb, ?_⟩
      · refine Want.noX (E := fun _ _ _ => False) ?_
        unfold Want
        cases hm : noX (compL2 vs vs1 g t it1 g1 t1 el xs) (wipeE e0 vs) with
        | ok ys e1 => rw [hm] at w1; exact w1
        | ex c fs e1 => rw [hm] at w1; exact w1
        | bad => rw [hm] at w1; exact w1
  obtain ⟨⟨hno, hlen⟩, w2⟩ := w2
  have hlen : xs.length ≤ 4000 := of_decide_eq_true hlen
  have hno' := no_own hno
  have hOn : ∀ v ∈ vs, O v = none := fun v hv => S1.notOwn (hno' v hv)
  have hOn1 : ∀ v ∈ vs1, O v = none := fun v hh => hOn v (hv v hh)
  have Sw : SR K F O (wipeE e0 vs) (L2.wipe σ vs) H1 := S1.wipe vs hOn
  refine ⟨fun i k H' => k = xs.length - i ∧ i ≤ xs.length ∧ ∃ e' acc ys, SR K (F.ad D) O e' (L2.wipe σ vs) H' ∧ Ke (Jo O) H1 H' ∧ H' D = some (.lst acc) ∧ RepL (Ow (F.ad D) O) H' acc ys ∧ ys.length ≤ i * 4000 ∧
    Want (compL2 vs vs1 g t it1 g1 t1 el (xs.drop i)) e' (fun zs e1 => ∀ v H', SR K F O (back e0 e1 vs) σ H' → Ke (Jo O) H H' → Po .f K F O (back e0 e1 vs) σ H H' v (.lst (ys ++ zs)) → Q v H') (fun _ _ _ => False), ⟨xs.length, by simp, Nat.zero_le _, _, [], [], Sw.ad hD, Ke.new hD, upd_same, .nil, Nat.le_refl _, w2⟩, ?_⟩
  rintro i k H2 ⟨rfl, hi, e', acc, ys, S2, k2, hD2, l2, hy, w3⟩
  by_cases hlt : i < xs.length
  · have hd : xs.drop i = xs[i] :: xs.drop (i + 1) := (List.drop_eq_getElem_cons hlt)
    rw [hd] at w3
    refine .inr ⟨wk.go i H2 k2.ow hlt, fun H' => i + 1 ≤ xs.length ∧ ∃ e' acc ys, SR K (F.ad D) O e' (L2.wipe σ vs) H' ∧ Ke (Jo O) H1 H' ∧ H' D = some (.lst acc) ∧ RepL (Ow (F.ad D) O) H' acc ys ∧ ys.length ≤ (i + 1) * 4000 ∧
      Want (compL2 vs vs1 g t it1 g1 t1 el (xs.drop (i + 1))) e' (fun zs e1 => ∀ v H', SR K F O (back e0 e1 vs) σ H' → Ke (Jo O) H H' → Po .f K F O (back e0 e1 vs) σ H H' v (.lst (ys ++ zs)) → Q v H') (fun _ _ _ => False), fun H' h => ⟨xs.length - (i + 1), by omega, rfl, h.1, h.2⟩, fun x H3 y => ?_⟩
    have gW : ∀ {H4 : Hp}, H4 D = some (.lst acc) ∨ True → ∀ a, Ow (F.ad D) O a → Ow F O a ∨ H1 a = none := fun _ a z => by
      rcases z with (z | rfl) | z
      · exact .inl (.inl z)
      · exact .inr hD
      · exact .inl (.inr z)
    obtain ⟨ext, r⟩ := wk.yld i H2 x H3 xs[i] (Ow (F.ad D) O) k2.ow (gW (H4 := H2) (.inr trivial)) S2.prot (by simp [hlt]) y
    have S3 : SR K (F.ad D) O e' (L2.wipe σ vs) H3 := S2.ext ext
    have w4 := Want.bind (m := g xs[i]) w3
    refine ⟨F.ad D, O, e', xs[i], S3, r, w4.imp (fun _ e4 w5 σ4 S4 wp => ?_) fun _ _ _ z => z.elim⟩
    have ew : L2.wipe σ4 vs = L2.wipe σ vs := (wp vs hj).trans (wipe_wipe fun _ z => z)
    refine ⟨ew, F.ad D, O, e4, S4, (Want.bind w5).imp (fun bb e5 w6 H5 S5 k5 => ?_) fun _ _ _ z => z.elim⟩
    have k25 : Ke (Jo O) H1 H5 := k2.trans ((ke_ext ext).trans k5)
    have hD5 : H5 D = some (.lst acc) := k5.stay _ _ nj (ext _ _ hD2)
    have l5 : RepL (Ow (F.ad D) O) H5 acc ys := (l2.ke (ke_ext ext) (fun _ z => .inl z)).mj k5
    cases bb with
    | false =>
      simp only [Bool.false_eq_true, if_false]
      refine ⟨hlt, wipeE e5 vs, acc, ys, ?_, k25, hD5, l5, by omega, ?_⟩
      · have := S5.wipe vs hOn
        rw [ew] at this
        exact this
      · have w7 := Want.bind (m := compL2 vs vs1 g t it1 g1 t1 el (xs.drop (i + 1))) (show Want ((compL2 vs vs1 g t it1 g1 t1 el (xs.drop (i + 1))).bind fun zs => M.pure ([] ++ zs)) (wipeE e5 vs) _ _ from w6)
        exact w7
    | true =>
      simp only [if_true]
      refine ⟨F.ad D, O, e5, S5, (Want.bind (Want.bind w6)).imp (fun us e6 w7 J1 H6 S6 k6 wk1 => ?_) fun _ _ _ z => z.elim⟩
      have w8 : ((vs1.any fun v => isOwn (sl e6 v)) = false ∧ len2Ok us.length = true) ∧ Want (compL vs1 e6 g1 t1 el us) (wipeE e6 vs1) (fun ys1 e1 => Want (fun e1 => ((compL2 vs vs1 g t it1 g1 t1 el (xs.drop (i + 1))).bind fun zs => M.pure (ys1 ++ zs)) (wipeE e1 vs)) e1 (fun zs e1 => ∀ v H', SR K F O (back e0 e1 vs) σ H' → Ke (Jo O) H H' → Po .f K F O (back e0 e1 vs) σ H H' v (.lst (ys ++ zs)) → Q v H') (fun _ _ _ => False)) (fun _ _ _ => False) := by
        unfold Want at w7
        cases hb : (vs1.any fun v => isOwn (sl e6 v)) || !len2Ok us.length with
        | true => simp only [hb] at w7; exact w7.elim
        | false =>
          simp only [hb] at w7
          exact ⟨or_f hb, w7⟩
      obtain ⟨⟨hno1, hlen1⟩, w8⟩ := w8
      have hlen1 : us.length ≤ 4000 := of_decide_eq_true hlen1
      have Sw1 : SR K (F.ad D) O (wipeE e6 vs1) (L2.wipe σ4 vs1) H6 := S6.wipe vs1 hOn1
      refine ⟨fun j k H' => k = us.length - j ∧ j ≤ us.length ∧ ∃ e' acc1 ys1, SR K (F.ad D) O e' (L2.wipe σ4 vs1) H' ∧ Ke (Jo O) H1 H' ∧ Ke (Ow (F.ad D) O) H6 H' ∧ H' D = some (.lst acc1) ∧ RepL (Ow (F.ad D) O) H' acc1 (ys ++ ys1) ∧ ys1.length ≤ j ∧
        Want (compL vs1 e6 g1 t1 el (us.drop j)) e' (fun ys2 e1 => Want (fun e1 => ((compL2 vs vs1 g t it1 g1 t1 el (xs.drop (i + 1))).bind fun zs => M.pure ((ys1 ++ ys2) ++ zs)) (wipeE e1 vs)) e1 (fun zs e1 => ∀ v H', SR K F O (back e0 e1 vs) σ H' → Ke (Jo O) H H' → Po .f K F O (back e0 e1 vs) σ H H' v (.lst (ys ++ zs)) → Q v H') (fun _ _ _ => False)) (fun _ _ _ => False), ⟨us.length, by simp, Nat.zero_le _, _, acc, [], Sw1, k25.trans k6, Ke.refl, k6.stay _ _ nj hD5, by rw [List.append_nil]; exact l5.mj k6, Nat.le_refl _, w8⟩, ?_⟩
      rintro j kk H7 ⟨rfl, hjj, e7, acc1, ys1, S7, k7, kd7, hD7, l7, hy1, w9⟩
      by_cases hlt1 : j < us.length
      · have hd1 : us.drop j = us[j] :: us.drop (j + 1) := (List.drop_eq_getElem_cons hlt1)
        rw [hd1] at w9
        refine .inr ⟨wk1.go j H7 kd7 hlt1, fun H' => j + 1 ≤ us.length ∧ ∃ e' acc1 ys1, SR K (F.ad D) O e' (L2.wipe σ4 vs1) H' ∧ Ke (Jo O) H1 H' ∧ Ke (Ow (F.ad D) O) H6 H' ∧ H' D = some (.lst acc1) ∧ RepL (Ow (F.ad D) O) H' acc1 (ys ++ ys1) ∧ ys1.length ≤ j + 1 ∧
          Want (compL vs1 e6 g1 t1 el (us.drop (j + 1))) e' (fun ys2 e1 => Want (fun e1 => ((compL2 vs vs1 g t it1 g1 t1 el (xs.drop (i + 1))).bind fun zs => M.pure ((ys1 ++ ys2) ++ zs)) (wipeE e1 vs)) e1 (fun zs e1 => ∀ v H', SR K F O (back e0 e1 vs) σ H' → Ke (Jo O) H H' → Po .f K F O (back e0 e1 vs) σ H H' v (.lst (ys ++ zs)) → Q v H') (fun _ _ _ => False)) (fun _ _ _ => False), fun H' h => ⟨us.length - (j + 1), by omega, rfl, h.1, h.2⟩, fun x1 H8 y1 => ?_⟩
        obtain ⟨ext1, r1⟩ := wk1.yld j H7 x1 H8 us[j] (Ow (F.ad D) O) kd7 (fun a z => .inl z) S7.prot (by simp [hlt1]) y1
        refine ⟨F.ad D, O, e7, us[j], S7.ext ext1, r1, (Want.bind (m := g1 us[j]) w9).imp (fun _ e9 w10 σ9 S9 wp1 => ?_) fun _ _ _ z => z.elim⟩
        have ew1 : L2.wipe σ9 vs1 = L2.wipe σ4 vs1 := (wp1 vs1 hj1).trans (wipe_wipe fun _ z => z)
        refine ⟨ew1, F.ad D, O, e9, S9, (Want.bind w10).imp (fun b1 e10 w11 H10 S10 k10 => ?_) fun _ _ _ z => z.elim⟩
        have k1a : Ke (Jo O) H1 H10 := k7.trans ((ke_ext ext1).trans k10)
        have kda : Ke (Ow (F.ad D) O) H6 H10 := kd7.trans ((ke_ext ext1).trans k10.ow)
        have hDa : H10 D = some (.lst acc1) := k10.stay _ _ nj (ext1 _ _ hD7)
        have la : RepL (Ow (F.ad D) O) H10 acc1 (ys ++ ys1) := (l7.ke (ke_ext ext1) (fun _ z => .inl z)).mj k10
        cases b1 with
        | false =>
          simp only [Bool.false_eq_true, if_false]
          refine ⟨hlt1, wipeE e10 vs1, acc1, ys1, ?_, k1a, kda, hDa, la, by omega, ?_⟩
          · have := S10.wipe vs1 hOn1
            rw [ew1] at this
            exact this
          · have w13 := Want.bind (m := compL vs1 e6 g1 t1 el (us.drop (j + 1))) (show Want ((compL vs1 e6 g1 t1 el (us.drop (j + 1))).bind fun zs => M.pure ([] ++ zs)) (wipeE e10 vs1) _ _ from w11)
            exact w13
        | true =>
          simp only [if_true]
          refine ⟨F.ad D, O, e10, S10, (Want.bind (Want.bind w11)).imp (fun dd e11 w12 v H11 S11 k11 r11 => ?_) fun _ _ _ z => z.elim⟩
          refine ⟨acc1, k11.stay _ _ nj hDa, ?_, hlt1, wipeE e11 vs1, acc1 ++ [v], ys1 ++ [dd], ?_⟩
          · rw [la.len, List.length_append]
            have h2 : sizeLine = 16777216 := by decide
            omega
          obtain ⟨S12, l12⟩ := SR.snoc (o := .lst (acc1 ++ [v])) S11 nj h0 (la.mj k11) r11
          refine ⟨?_, ke_upd hD (k1a.trans k11), (kda.trans k11.ow).trans (Ke.mut (.inl (.inr rfl))), upd_same, ?_, ?_, ?_⟩
          · have := S12.wipe vs1 hOn1
            rw [ew1] at this
            exact this
          · rw [List.append_assoc] at l12
            exact l12
          · rw [List.length_append]; simp; omega
          · have w13 := Want.bind (m := compL vs1 e6 g1 t1 el (us.drop (j + 1))) (show Want ((compL vs1 e6 g1 t1 el (us.drop (j + 1))).bind fun zs => M.pure ([dd] ++ zs)) (wipeE e11 vs1) _ _ from w12)
            refine w13.imp (fun zs e1 z => ?_) fun _ _ _ z => z
            rw [List.append_assoc]
            exact z
      · have e : j = us.length := by omega
        subst e
        refine .inl ⟨wk1.stop H7 kd7, hlt, wipeE e7 vs, acc1, ys ++ ys1, ?_, k7, hD7, l7, ?_, ?_⟩
        · have := S7.wipe vs hOn
          rw [wipe_wipe hv, ew] at this
          exact this
        · rw [List.length_append]; omega
        · rw [List.drop_length] at w9
          have w10 : Want ((compL2 vs vs1 g t it1 g1 t1 el (xs.drop (i + 1))).bind fun zs => M.pure ((ys1 ++ []) ++ zs)) (wipeE e7 vs) _ _ := w9
          rw [List.append_nil] at w10
          refine (Want.bind w10).imp (fun zs e1 z v H' S k p => z v H' S k ?_) fun _ _ _ z => z
          rw [List.append_assoc] at p
          exact p
  · have e : i = xs.length := by omega
    subst e
    refine .inl ⟨wk.stop H2 k2.ow, ?_⟩
    rw [List.drop_length] at w3
    have w4 := w3 (.ref D) H2
    rw [List.append_nil] at w4
    have Sb : SR K (F.ad D) O (back e0 e' vs) σ H2 := SR.back (F' := F.ad D) S1 rfl rfl (fun a z => z.elim .inl fun z => .inr (z ▸ hD)) (fun a z => z.elim .inl fun z => .inr (z ▸ hD)) S2 k2 hno'
    exact w4 Sb.unad (k1.trans k2) ⟨D, acc, ys, rfl, rfl, by
      cases q : H D with
      | none => rfl
      | some o => exact absurd hD (k1.there D (by rw [q]; simp)), hD2, l2, Sb⟩
/-! the rules -/
theorem CD.pt {ifs : List Expr} {t : DT} (h : CD X Wx ifs t) : PTs X ifs (tT X.K Wx t) := h
def BlkD (X : Cx) (P : Cx → Prop) (scope : Scope) : Prop := ∀ (s : Shared) (H : Hp) (C : Addr) (cl : List (Str × Addr)) (fp : List Addr), P (X.blk s H scope (compEnvC scope cl C X.env) fp)
theorem pd_lc {ifs : List Expr} {scope : Scope} {own : List (Str × Nat)} {js : List Nat} {it : DI} {g : DG} {t : DT} (hc : X.calm = true) (hN : X.N.Nodup) (hb : blkC X.N X.env.scope scope own = true) (hj : (js.all fun j => (own.map (·.2)).contains j) = true)
    (hi : ID X Wx tg iter it) (hg : BlkD X (fun X => GD X tg js g) scope) (ht : BlkD X (fun X => CD X W0 ifs t) scope) (he : BlkD X (fun X => PD .s X W0 elt ma) scope) (hs : ∀ x, foldedSetIterable iter X.env x = pure x := by intro _; rfl) :
    PD .f X Wx (.ListComp elt [⟨tg, iter, ifs, 0⟩] scope pos) (eLc (own.map (·.2)) it g t ma) :=
  ⟨_, pe_lc hc hN hi.pi (blkOk_by hb) (fun s H C cl fp => (hg s H C cl fp).pg) (fun s H C cl fp => (ht s H C cl fp).pt) (fun s H C cl fp => (he s H C cl fp).pe) hs,
    fun F O env σ H Q S w => lc_sound (fun j h => by simpa using List.all_eq_true.mp hj j h) S w⟩
theorem pd_lc2 {tg1 iter1 : Expr} {ifs ifs1 : List Expr} {scope : Scope} {own : List (Str × Nat)} {vs1 js js1 : List Nat} {it it1 : DI} {g g1 : DG} {t t1 : DT} (hc : X.calm = true) (hN : X.N.Nodup) (hb : blkC X.N X.env.scope scope own = true) (hj : (js.all fun j => (own.map (·.2)).contains j) = true) (hj1 : (js1.all fun j => vs1.contains j) = true) (hv : (vs1.all fun j => (own.map (·.2)).contains j) = true)
    (hi : ID X Wx tg iter it) (hg : BlkD X (fun X => GD X tg js g) scope) (ht : BlkD X (fun X => CD X W0 ifs t) scope) (hi1 : BlkD X (fun X => ID X W0 tg1 iter1 it1) scope) (hg1 : BlkD X (fun X => GD X tg1 js1 g1) scope) (ht1 : BlkD X (fun X => CD X W0 ifs1 t1) scope) (he : BlkD X (fun X => PD .s X W0 elt ma) scope)
    (hs : ∀ x, foldedSetIterable iter X.env x = pure x := by intro _; rfl) (hs1 : ∀ env x, foldedSetIterable iter1 env x = pure x := by intro _ _; rfl) :
    PD .f X Wx (.ListComp elt [⟨tg, iter, ifs, 0⟩, ⟨tg1, iter1, ifs1, 0⟩] scope pos) (eLc2 (own.map (·.2)) vs1 it g t it1 g1 t1 ma) :=
  have hv' : ∀ j ∈ vs1, j ∈ own.map (·.2) := fun j h => by simpa using List.all_eq_true.mp hv j h
  ⟨_, pe_lc2 hc hN hi.pi (blkOk_by hb) hv' (fun s H C cl fp => (hg s H C cl fp).pg) (fun s H C cl fp => (ht s H C cl fp).pt) (fun s H C cl fp => (hi1 s H C cl fp).pi) (fun s H C cl fp => (hg1 s H C cl fp).pg) (fun s H C cl fp => (ht1 s H C cl fp).pt) (fun s H C cl fp => (he s H C cl fp).pe) hs hs1,
    fun F O env σ H Q S w => lc2_sound (fun j h => by simpa using List.all_eq_true.mp hj j h) (fun j h => by simpa using List.all_eq_true.mp hj1 j h) hv' S w⟩
/-! name = [..] on one line, the name a local -/
theorem asgN_of {i : Nat} {t : TE} (hp : PS X st (tAsg t (gName i))) (qa : ∀ (F : Fm) (O : Nat → Option Addr) (env : Env) (σ : L2.St) (H : Hp) (Q : VK), SR X.K F O env σ H →
    Want ma env (fun d e1 => ∀ v H', SR X.K F O e1 σ H' → Ke (Jo O) H H' → Po .s X.K F O e1 σ H H' v d → Q v H') (XW X.K F O σ H Wx) → t σ H Q) : SD fl X Wx st (sAsgN i ma) := by
  refine ⟨_, hp, fun F O env σ H D S w => ?_⟩
  refine qa F O env σ H _ S (w.bind.imp (fun dx e1 w1 x H1 S1 k1 p1 => ?_) XWs.xw)
  obtain ⟨_, w2⟩ := w1.gd rfl
  exact w2 _ _ H1 (S1.setVal p1) ⟨k1, fun a z => .inl (jo_setN z)⟩
theorem own_of {i : Nat} {t : TE} (hp : PS X st (tAsg t (gName i))) (qa : ∀ (F : Fm) (O : Nat → Option Addr) (env : Env) (σ : L2.St) (H : Hp) (Q : VK), SR X.K F O env σ H →
    Want ma env (fun d e1 => ∀ v H', SR X.K F O e1 σ H' → Ke (Jo O) H H' → Po .f X.K F O e1 σ H H' v d → Q v H') (XW X.K F O σ H Wx) → t σ H Q) : SD fl X Wx st (sOwn i ma) := by
  refine ⟨_, hp, fun F O env σ H D S w => ?_⟩
  refine qa F O env σ H _ S (w.bind.imp (fun dx e1 w1 x H1 S1 k1 p1 => ?_) XWs.xw)
  obtain ⟨q, vs, xs, rfl, rfl, hq, r⟩ := id p1
  obtain ⟨h, w2⟩ := w1.gd rfl
  obtain ⟨h1, h2⟩ := Bool.or_eq_false_iff.mp h
  have hl : i < e1.length := by simpa using h2
  obtain ⟨q', e, hq', S2⟩ := SR.own1 (i := i) S.al S.prot p1 hl
  cases e
  exact w2 _ _ H1 S2 (keS_new k1 hq)
theorem sOf_f {t : TE} {K : PySem.W.Frag} (q : ∀ (F : Fm) (O : Nat → Option Addr) (env : Env) (σ : L2.St) (H : Hp) (Q : VK), SR K F O env σ H →
    Want ma env (fun d e1 => ∀ v H', SR K F O e1 σ H' → Ke (Jo O) H H' → Po .f K F O e1 σ H H' v d → Q v H') (XW K F O σ H Wx) → t σ H Q) : ∀ (F : Fm) (O : Nat → Option Addr) (env : Env) (σ : L2.St) (H : Hp) (Q : VK), SR K F O env σ H →
    Want ma env (fun d e1 => ∀ v H', SR K F O e1 σ H' → Ke (Jo O) H H' → Po .s K F O e1 σ H H' v d → Q v H') (XW K F O σ H Wx) → t σ H Q :=
  fun F O env σ H Q S w => q F O env σ H Q S (w.imp (fun d e1 z v H' S' k r => z v H' S' k (Po.s_of_f (K := K) (fun p hp => S.noW hp) r)) fun _ _ _ z => z)
section
variable {i : Nat} {y : Str} {py spos : Pos} {ifs : List Expr} {scope : Scope} {own : List (Str × Nat)} {js : List Nat} {it : DI} {g : DG} {t : DT}
theorem ps_lc1 (hc : X.calm = true) (hN : X.N.Nodup) (hy : X.N[i]? = some y) (hyl : X.env.scope.names.lookup y = some .local) (hk : X.env.scope.kind = .function) (hl : (py.line == pos.line) = true) (ha : (scope.names.any fun (n, k) => n == y && (k == .local || k == .cell)) = false)
    (hb : blkC X.N X.env.scope scope own = true) (hi : ID X Wx tg iter it) (hg : BlkD X (fun X => GD X tg js g) scope) (ht : BlkD X (fun X => CD X W0 ifs t) scope) (he : BlkD X (fun X => PD .s X W0 elt ma) scope) (hs : ∀ x, foldedSetIterable iter X.env x = pure x) :
    PS X (.Assign [.Name y py] (.ListComp elt [⟨tg, iter, ifs, 0⟩] scope pos) spos) (tAsg (tLc (tI X.K Wx it) (tG X.K js g) (tT X.K W0 t) (tD .s X.K W0 ma) (own.map (·.2))) (gName i)) :=
  ps_setLc (spos := spos) hc hN hy hyl (sw_true (l := spos.line) hk hyl hl ha) hi.pi (blkOk_by hb) (fun s H C cl fp => (hg s H C cl fp).pg) (fun s H C cl fp => (ht s H C cl fp).pt) (fun s H C cl fp => (he s H C cl fp).pe) hs
/-- name = [..], a value from now on -/
theorem sd_lc (hc : X.calm = true) (hN : X.N.Nodup) (hy : X.N[i]? = some y) (hyl : X.env.scope.names.lookup y = some .local) (hk : X.env.scope.kind = .function) (hl : (py.line == pos.line) = true) (ha : (scope.names.any fun (n, k) => n == y && (k == .local || k == .cell)) = false)
    (hb : blkC X.N X.env.scope scope own = true) (hj : (js.all fun j => (own.map (·.2)).contains j) = true) (hi : ID X Wx tg iter it) (hg : BlkD X (fun X => GD X tg js g) scope) (ht : BlkD X (fun X => CD X W0 ifs t) scope) (he : BlkD X (fun X => PD .s X W0 elt ma) scope) (hs : ∀ x, foldedSetIterable iter X.env x = pure x := by intro _; rfl) :
    SD fl X Wx (.Assign [.Name y py] (.ListComp elt [⟨tg, iter, ifs, 0⟩] scope pos) spos) (sAsgN i (eLc (own.map (·.2)) it g t ma)) :=
  asgN_of (ps_lc1 hc hN hy hyl hk hl ha hb hi hg ht he hs) (sOf_f fun F O env σ H Q S w => lc_sound (fun j h => by simpa using List.all_eq_true.mp hj j h) S w)
theorem sd_lcO (hc : X.calm = true) (hN : X.N.Nodup) (hy : X.N[i]? = some y) (hyl : X.env.scope.names.lookup y = some .local) (hk : X.env.scope.kind = .function) (hl : (py.line == pos.line) = true) (ha : (scope.names.any fun (n, k) => n == y && (k == .local || k == .cell)) = false)
    (hb : blkC X.N X.env.scope scope own = true) (hj : (js.all fun j => (own.map (·.2)).contains j) = true) (hi : ID X Wx tg iter it) (hg : BlkD X (fun X => GD X tg js g) scope) (ht : BlkD X (fun X => CD X W0 ifs t) scope) (he : BlkD X (fun X => PD .s X W0 elt ma) scope) (hs : ∀ x, foldedSetIterable iter X.env x = pure x := by intro _; rfl) :
    SD fl X Wx (.Assign [.Name y py] (.ListComp elt [⟨tg, iter, ifs, 0⟩] scope pos) spos) (sOwn i (eLc (own.map (·.2)) it g t ma)) :=
  own_of (ps_lc1 hc hN hy hyl hk hl ha hb hi hg ht he hs) (fun F O env σ H Q S w => lc_sound (fun j h => by simpa using List.all_eq_true.mp hj j h) S w)
variable {tg1 iter1 : Expr} {ifs1 : List Expr} {vs1 js1 : List Nat} {it1 : DI} {g1 : DG} {t1 : DT}
theorem sd_lc2 (hc : X.calm = true) (hN : X.N.Nodup) (hy : X.N[i]? = some y) (hyl : X.env.scope.names.lookup y = some .local) (hk : X.env.scope.kind = .function) (hl : (py.line == pos.line) = true) (ha : (scope.names.any fun (n, k) => n == y && (k == .local || k == .cell)) = false)
    (hb : blkC X.N X.env.scope scope own = true) (hj : (js.all fun j => (own.map (·.2)).contains j) = true) (hj1 : (js1.all fun j => vs1.contains j) = true) (hv : (vs1.all fun j => (own.map (·.2)).contains j) = true) (hi : ID X Wx tg iter it) (hg : BlkD X (fun X => GD X tg js g) scope) (ht : BlkD X (fun X => CD X W0 ifs t) scope)
    (hi1 : BlkD X (fun X => ID X W0 tg1 iter1 it1) scope) (hg1 : BlkD X (fun X => GD X tg1 js1 g1) scope) (ht1 : BlkD X (fun X => CD X W0 ifs1 t1) scope) (he : BlkD X (fun X => PD .s X W0 elt ma) scope) (hs : ∀ x, foldedSetIterable iter X.env x = pure x := by intro _; rfl) (hs1 : ∀ env x, foldedSetIterable iter1 env x = pure x := by intro _ _; rfl) :
    SD fl X Wx (.Assign [.Name y py] (.ListComp elt [⟨tg, iter, ifs, 0⟩, ⟨tg1, iter1, ifs1, 0⟩] scope pos) spos) (sAsgN i (eLc2 (own.map (·.2)) vs1 it g t it1 g1 t1 ma)) :=
  have hv' : ∀ j ∈ vs1, j ∈ own.map (·.2) := fun j h => by simpa using List.all_eq_true.mp hv j h
  asgN_of (ps_setLc2 (spos := spos) hc hN hy hyl (sw_true (l := spos.line) hk hyl hl ha) hi.pi (blkOk_by hb) hv' (fun s H C cl fp => (hg s H C cl fp).pg) (fun s H C cl fp => (ht s H C cl fp).pt) (fun s H C cl fp => (hi1 s H C cl fp).pi) (fun s H C cl fp => (hg1 s H C cl fp).pg) (fun s H C cl fp => (ht1 s H C cl fp).pt) (fun s H C cl fp => (he s H C cl fp).pe) hs hs1)
    (sOf_f fun F O env σ H Q S w => lc2_sound (fun j h => by simpa using List.all_eq_true.mp hj j h) (fun j h => by simpa using List.all_eq_true.mp hj1 j h) hv' S w)
end
end
end AH
namespace AH
open PySem PySem.Spec PyProof.Rows L2
/-! ### what a def promises -/
/-- the lent lists' items, by the parameters -/
def BoL (Z : Pr) (ba : Nat → Option Addr) (H : Hp) : Nat → List Md → List (List D) → Prop
  | _, [], [] => True
  | i, .bor :: ms, xs :: bs => (∃ a vs, ba i = some a ∧ H a = some (.lst vs) ∧ RepL Z H vs xs) ∧ BoL Z ba H (i + 1) ms bs
  | _, .bor :: _, [] => False
  | i, _ :: ms, bs => BoL Z ba H (i + 1) ms bs
  | _, [], _ :: _ => False
/-- the heap behind a call -/
structure KeB (F : Fm) (H H' : Hp) : Prop where
  keep : ∀ a o, H a = some o → ¬ F.bo a → H' a = some o
  there : ∀ a, H a ≠ none → H' a ≠ none
def RoF (fl : Fl) (F : Fm) (ms : List Md) (bs : List (List D)) (H H' : Hp) (v : V) (d : D) : Prop := match fl with
  | .f => ∃ p vs xs, v = .ref p ∧ d = .lst xs ∧ H p = none ∧ H' p = some (.lst vs) ∧ RepL (fun a => F.P a ∨ a = p) H' vs xs ∧ BoL (fun a => F.P a ∨ a = p) F.ba H' 0 ms bs
  | .fd => ∃ p ks kvs, v = .ref p ∧ d = .dic kvs ∧ H p = none ∧ H' p = some (.dT ks) ∧ RepK (fun a => F.P a ∨ a = p) H' ks kvs ∧ BoL (fun a => F.P a ∨ a = p) F.ba H' 0 ms bs
  | _ => Rep F.P H' v d ∧ BoL F.P F.ba H' 0 ms bs
def spD (fl : Fl) (K : PySem.W.Frag) (N : List Str) (ms : List Md) (f : DF) : Sp := fun vs H Q E => vs.length = ms.length ∧ ∃ (ds : List D) (F : Fm) (O : Nat → Option Addr),
  SR K F O (startE ms ds ++ List.replicate (N.length - ms.length) .no) (start N vs) H ∧ F.H0 = H ∧ lstsOk ms ds = true ∧ match f ds with
    | .ok d bs => ∀ v H', KeB F H H' → RoF fl F ms bs H H' v d → Q v H'
    | .ex c fs bs => ∀ cls dd H', KeB F H H' → BoL F.P F.ba H' 0 ms bs → XR K F.P c fs cls dd H' → E cls dd H'
    | .bad => False
theorem boL_of {Z : Pr} {F : Fm} {H : Hp} {e : Env} (B : BoR Z F e H) : ∀ {ms : List Md} {i : Nat} {e' : Env} {bs : List (List D)}, (∀ j, sl e' j = sl e (i + j)) → lentOf ms e' = some bs → BoL Z F.ba H i ms bs
  | [], i, e', bs, _, h => by cases h; trivial
  | .bor :: ms, i, [], bs, _, h => by cases h
  | .bor :: ms, i, s :: e', bs, he, h => by
    cases s with
    | bor xs =>
      unfold lentOf at h
      cases q : lentOf ms e' with
      | none => rw [q] at h; cases h
      | some bs' =>
        rw [q] at h
        cases h
        have e0 : sl e i = .bor xs := (he 0).symm
        obtain ⟨a, vs, h1, h2, h3⟩ := B i xs e0
        exact ⟨⟨a, vs, h1, h2, h3⟩, boL_of B (fun j => by have := he (j + 1); rw [show i + (j + 1) = i + 1 + j by omega] at this; exact this) q⟩
    | _ => cases h
  | .val :: ms, i, [], bs, _, h => by cases h
  | .ro :: ms, i, [], bs, _, h => by cases h
  | .val :: ms, i, s :: e', bs, he, h => by
    have h : lentOf ms e' = some bs := by cases s <;> exact h
    exact boL_of (ms := ms) (i := i + 1) B (fun j => by have := he (j + 1); rw [show i + (j + 1) = i + 1 + j by omega] at this; exact this) h
  | .ro :: ms, i, s :: e', bs, he, h => by
    have h : lentOf ms e' = some bs := by cases s <;> exact h
    exact boL_of (ms := ms) (i := i + 1) B (fun j => by have := he (j + 1); rw [show i + (j + 1) = i + 1 + j by omega] at this; exact this) h
theorem boL_of0 {Z : Pr} {F : Fm} {H : Hp} {e : Env} {ms : List Md} {bs : List (List D)} (B : BoR Z F e H) (h : lentOf ms e = some bs) : BoL Z F.ba H 0 ms bs := boL_of B (i := 0) (fun j => by rw [Nat.zero_add]) h
/-- a def that must end by return -/
def mkR (n : Nat) (ms : List Md) (b : DS) : DF := fun ds =>
  if !lstsOk ms ds then .bad else
  match b (startE ms ds ++ List.replicate (n - ms.length) .no) with
  | .ok (.rt d) e => (match lentOf ms e with
    | some bs => .ok d bs
    | none => .bad)
  | .ok _ _ => .bad
  | .ex c fs e => (match lentOf ms e with
    | some bs => .ex c fs bs
    | none => .bad)
  | .bad => .bad
section
variable {P : Program} {w : World} {K : PySem.W.Frag} {mg : Str → Option Value} {base : Heap} {x qual : Str} {params : Arguments} {body : List Stmt} {scope : Scope} {dvs : List V} {kws : List (Str × V)} {f : Addr} {fd : FuncData} {N ps : List Str} {k : Nat} {ms : List Md} {fl : Fl}
abbrev cxD (P : Program) (w : World) (K : PySem.W.Frag) (mg : Str → Option Value) (base : Heap) (N : List Str) (qual : Str) (scope : Scope) (f : Addr) (cd : Value) (A : Around) (outer : List PySem.Env) (s : Shared) (H : Hp) (E : XK) : Cx := cxOf (L2.CX P w) P w K mg base N qual scope f cd A outer s H E
/-- of a body at every entry -/
def BodyD (P : Program) (w : World) (K : PySem.W.Frag) (mg : Str → Option Value) (base : Heap) (N : List Str) (qual : Str) (scope : Scope) (f : Addr) (k : Nat) (fl : Fl) (body : List Stmt) (m : DS) : Prop :=
  ∀ (X : Cx) (Wx : WX), X.prog = P → X.w = w → X.K = K → X.mg = mg → X.base = base → X.N = N → X.env.scope = scope → X.calm = true → Room k X.A → Takes X Wx → PassesOwn (model X.prog X.w) X.A X.env X.xe → (∀ y, X.fn y = true) → SsD fl X Wx body m
theorem fl_end {F : Fm} {O : Nat → Option Addr} {e : Env} {σ : L2.St} {H H' : Hp} {v : V} {d : D} {bs : List (List D)} (S : SR K F O e σ H') (h0 : F.H0 = H) (hb : lentOf ms e = some bs) (r : Ro fl K F O e σ H' v d) : RoF fl F ms bs H H' v d := by
  have bo : BoL F.P F.ba H' 0 ms bs := boL_of0 (S.boR rfl fun a z => .inl z) hb
  subst h0
  cases fl with
  | f => obtain ⟨p, vs, xs, h1, h2, h3, h4, h5, h6⟩ := r; exact ⟨p, vs, xs, h1, h2, h3, h4, h5, boL_of0 h6 hb⟩
  | fd => obtain ⟨p, vs, xs, h1, h2, h3, h4, h5, h6⟩ := r; exact ⟨p, vs, xs, h1, h2, h3, h4, h5, boL_of0 h6 hb⟩
  | w => exact ⟨r, bo⟩
  | s => exact ⟨r, bo⟩
theorem keB_of {F : Fm} {O : Nat → Option Addr} {e : Env} {σ : L2.St} {H H' : Hp} (S : SR K F O e σ H') (h0 : F.H0 = H) : KeB F H H' := by
  subst h0
  exact ⟨fun a o e n => S.keep a o e n, S.al⟩
theorem body_wish {F : Fm} {O : Nat → Option Addr} {ds : List D} {H : Hp} {Q : VK} {E : XK} {m : DS} {fd' : DF} (h0 : F.H0 = H) (hl : lstsOk ms ds = true)
    (hf : (fl = .s ∧ fd' = mkF N.length ms m) ∨ fd' = mkR N.length ms m)
    (h : match fd' ds with
    | .ok d bs => ∀ v H', KeB F H H' → RoF fl F ms bs H H' v d → Q v H'
    | .ex c fs bs => ∀ cls dd H', KeB F H H' → BoL F.P F.ba H' 0 ms bs → XR K F.P c fs cls dd H' → E cls dd H'
    | .bad => False) :
    Want m (startE ms ds ++ List.replicate (N.length - ms.length) .no) (Post fl K F O H { nx := fun _ H' => Q .non H', rt := Q }) (XWs K F O H (fun cls d _ H => E cls d H)) := by
  have gx : ∀ {c : Str} {fs : List D} {e : Env}, m (startE ms ds ++ List.replicate (N.length - ms.length) .no) = .ex c fs e → (match lentOf ms e with
      | some bs => Rf.ex c fs bs
      | none => .bad) = fd' ds → XWs K F O H (fun cls d _ H => E cls d H) c fs e := fun {c fs e} hm he => by
    cases hb : lentOf ms e with
    | none => rw [hb] at he; rw [← he] at h; exact h.elim
    | some bs =>
      rw [hb] at he
      rw [← he] at h
      exact fun O' σ' cls d H' S k x => h cls d H' (keB_of S h0) (boL_of0 (S.boR rfl fun a z => .inl z) hb) (by
        obtain ⟨x1, x2⟩ := x
        refine ⟨x1, ?_⟩
        cases d with
        | none => exact x2
        | some d => obtain ⟨vs, y1, y2, y3⟩ := x2; exact ⟨vs, y1, y2, y3.sub fun a z => .inl (.inl z)⟩)
  have gr : ∀ {d : D} {e : Env}, (match lentOf ms e with
      | some bs => Rf.ok d bs
      | none => .bad) = fd' ds → Post fl K F O H { nx := fun _ H' => Q .non H', rt := Q } (.rt d) e := fun {d e} he => by
    cases hb : lentOf ms e with
    | none => rw [hb] at he; rw [← he] at h; exact h.elim
    | some bs =>
      rw [hb] at he
      rw [← he] at h
      exact fun O' σ' H' S k v r => h v H' (keB_of S h0) (fl_end S h0 hb r)
  unfold Want
  rcases hf with ⟨rfl, rfl⟩ | rfl
  · cases hm : m (startE ms ds ++ List.replicate (N.length - ms.length) .no) with
    | bad => unfold mkF at h; simp only [hl, hm] at h; exact h
    | ex c fs e => exact gx hm (by unfold mkF; simp only [hl, hm]; rfl)
    | ok o e => cases o with
      | rt d => exact gr (by unfold mkF; simp only [hl, hm]; rfl)
      | nx =>
        have he : (match lentOf ms e with
          | some bs => Rf.ok .non bs
          | none => .bad) = mkF N.length ms m ds := by unfold mkF; simp only [hl, hm]; rfl
        exact fun O' σ' H' S k => gr he O' σ' H' S k .non .non
      | bk => unfold mkF at h; simp only [hl, hm] at h; exact h.elim
      | ct => unfold mkF at h; simp only [hl, hm] at h; exact h.elim
  · cases hm : m (startE ms ds ++ List.replicate (N.length - ms.length) .no) with
    | bad => unfold mkR at h; simp only [hl, hm] at h; exact h
    | ex c fs e => exact gx hm (by unfold mkR; simp only [hl, hm]; rfl)
    | ok o e => cases o with
      | rt d => exact gr (by unfold mkR; simp only [hl, hm]; rfl)
      | nx => unfold mkR at h; simp only [hl, hm] at h; exact h.elim
      | bk => unfold mkR at h; simp only [hl, hm] at h; exact h.elim
      | ct => unfold mkR at h; simp only [hl, hm] at h; exact h.elim
/-- THE RULE -/
theorem fn_D {m : DS} {fd' : DF} (F : FunD K x qual params body scope dvs kws f fd) (S : FnScope N ps scope) (hps : ps.length = ms.length) (hf : (fl = .s ∧ fd' = mkF N.length ms m) ∨ fd' = mkR N.length ms m) (hb : BodyD P w K mg base N qual scope f k fl body m) :
    FnOk P w K mg base (L2.CX P w) (k + 1) f fd ps (spD fl K N ms fd') := by
  refine F.ok S (fun vs H Q E h => by rw [hps]; exact h.1) (fun cdv A outer s H vs Q E hr h => ?_)
  obtain ⟨hl, ds, F, O, SS, h0, hls, h⟩ := h
  obtain ⟨t, pt, qt⟩ := hb (cxD P w K mg base N qual scope f cdv A outer s H E) (fun cls d _ H => E cls d H) rfl rfl rfl rfl rfl rfl rfl rfl hr (takes_of (E₁ := fun e' s'' => L2.CX P w outer H s E e' s'') rfl rfl rfl rfl) (passes_of (K := fun e s'' => L2.CX P w outer H s E e s'') (E₁ := fun e' s'' => L2.CX P w outer H s E e' s'') rfl) (fun _ => rfl)
  exact ⟨t, pt, qt F O _ (start N vs) H _ SS (body_wish (O := O) h0 hls hf h)⟩
/-- nothing is promised -/
theorem fn_bad {k : Nat} (hps : ps.length = ms.length) : FnOk P w K mg base (L2.CX P w) k f fd ps (spD fl K N ms fun _ => .bad) :=
  ⟨fun vs H Q E h => by rw [hps]; exact h.1, fun A outer s H args us vs Q E hr he hb hv h => by
    obtain ⟨_, _, _, _, _, _, _, h⟩ := h
    exact h.elim⟩
end
end AH
namespace AH
open PySem PySem.Spec PyProof.Rows L2
/-! ### arguments -/
/-- more is kept apart: new objects -/
structure FX (F F1 : Fm) (H : Hp) : Prop where
  ba : F1.ba = F.ba
  h0 : F1.H0 = F.H0
  p : ∀ a, F.P a → F1.P a
  n : ∀ a, F.N a → F1.N a
  pn : ∀ a, F1.P a → F.P a ∨ H a = none
  nn : ∀ a, F1.N a → F.N a ∨ H a = none
theorem FX.refl {F : Fm} {H : Hp} : FX F F H := ⟨rfl, rfl, fun _ z => z, fun _ z => z, fun _ z => .inl z, fun _ z => .inl z⟩
theorem FX.ad {F : Fm} {H : Hp} {p : Addr} (h : H p = none) : FX F (F.ad p) H := ⟨rfl, rfl, fun _ z => .inl z, fun _ z => .inl z, fun a z => z.elim .inl fun z => .inr (z ▸ h), fun a z => z.elim .inl fun z => .inr (z ▸ h)⟩
theorem none_back {H H1 : Hp} {a : Addr} (k : ∀ a, H a ≠ none → H1 a ≠ none) (h : H1 a = none) : H a = none := by
  cases q : H a with
  | none => rfl
  | some o => exact absurd h (k a (by rw [q]; simp))
theorem FX.trans {F F1 F2 : Fm} {H H1 : Hp} (x : FX F F1 H) (y : FX F1 F2 H1) (k : ∀ a, H a ≠ none → H1 a ≠ none) : FX F F2 H :=
  ⟨y.ba.trans x.ba, y.h0.trans x.h0, fun a z => y.p a (x.p a z), fun a z => y.n a (x.n a z), fun a z => (y.pn a z).elim (x.pn a) fun z => .inr (none_back k z), fun a z => (y.nn a z).elim (x.nn a) fun z => .inr (none_back k z)⟩
theorem FX.ow {F F1 : Fm} {H : Hp} {O : Nat → Option Addr} (x : FX F F1 H) : ∀ a, Ow F O a → Ow F1 O a := fun a z => z.elim (fun z => .inl (x.p a z)) .inr
theorem SR.down {K : PySem.W.Frag} {F F1 : Fm} {O : Nat → Option Addr} {env : Env} {σ : L2.St} {H H0 : Hp} (S : SR K F1 O env σ H) (x : FX F F1 H0) : SR K F O env σ H := by
  refine ⟨fun i => SlR.sub (F := F1) (F' := F) x.ba.symm x.h0.symm (fun a z => .inl (x.p a z)) (fun a z => .inl (x.n a z)) (S.slot i), S.inj, fun a z => S.prot a (x.ow a z), fun a o e n => S.keep a o (by rw [x.h0]; exact e) (by
    rintro ⟨i, z⟩
    exact n ⟨i, by rw [← x.ba]; exact z⟩), fun a z => S.al a (by rw [x.h0]; exact z), S.len, fun a z => S.nal a (x.n a z)⟩
/-- a new object of the later heap -/
theorem SR.adAt {K : PySem.W.Frag} {F : Fm} {O : Nat → Option Addr} {env : Env} {σ : L2.St} {H H' : Hp} {p : Addr} (S : SR K F O env σ H) (k : ∀ a o, H a = some o → H' a = some o) (h : H p = none) (h' : H' p ≠ none) : SR K (F.ad p) O env σ H' := by
  have S1 := S.ext k
  refine ⟨fun i => SlR.ext k (SlR.sub (F := F) (F' := F.ad p) rfl rfl (fun a z => z.elim .inl fun z => .inr (z ▸ h)) (fun a z => z.elim .inl fun z => .inr (z ▸ h)) (S.slot i)), S.inj, fun a z => ?_, S1.keep, S1.al, S.len, fun a z => z.elim (S1.nal a) fun z => by rw [z]; exact h'⟩
  rcases z with (z | rfl) | z
  · exact S1.prot a (.inl z)
  · exact h'
  · exact S1.prot a (.inr z)
/-- an object kept apart that no slot owns is changed -/
theorem SR.updQ {K : PySem.W.Frag} {F : Fm} {O : Nat → Option Addr} {env : Env} {σ : L2.St} {H : Hp} {p : Addr} {o : HO} (S : SR K F O env σ H) (hP : F.P p) (hN : F.N p) (nj : ¬ Jo O p) (h0 : F.H0 p = none) : SR K F O env σ (upd H p o) := by
  have e : F = (F.ad p) := by
    obtain ⟨P, N, H0, ba⟩ := F
    show Fm.mk P N H0 ba = Fm.mk (fun a => P a ∨ a = p) (fun a => N a ∨ a = p) H0 ba
    have e1 : P = fun a => P a ∨ a = p := funext fun a => propext ⟨.inl, fun z => z.elim id fun z => by rw [z]; exact hP⟩
    have e2 : N = fun a => N a ∨ a = p := funext fun a => propext ⟨.inl, fun z => z.elim id fun z => by rw [z]; exact hN⟩
    rw [← e1, ← e2]
  have S' : SR K (F.ad p) O env σ H := by rw [← e]; exact S
  rw [e]
  exact S'.updP nj h0
/-- the arguments' values, the new lists among them -/
inductive AR (F : Fm) (O : Nat → Option Addr) (σ : L2.St) (H : Hp) : List Md → List Arg → List (D ⊕ Nat) → List V → List Addr → Prop
  | nil : AR F O σ H [] [] [] [] []
  | val {ms : List Md} {as : List Arg} {xs : List (D ⊕ Nat)} {vs : List V} {ps : List Addr} {a : DE} {v : V} {d : D} : Rep (Ow F O) H v d → AR F O σ H ms as xs vs ps → AR F O σ H (.val :: ms) (.e a :: as) (.inl d :: xs) (v :: vs) ps
  | rov {ms : List Md} {as : List Arg} {xs : List (D ⊕ Nat)} {vs : List V} {ps : List Addr} {a : DE} {v : V} {d : D} : Rep (Ow F O) H v d → AR F O σ H ms as xs vs ps → AR F O σ H (.ro :: ms) (.e a :: as) (.inl d :: xs) (v :: vs) ps
  | look {ms : List Md} {as : List Arg} {xs : List (D ⊕ Nat)} {vs : List V} {ps : List Addr} {i : Nat} {v : V} : get1 σ i = some v → AR F O σ H ms as xs vs ps → AR F O σ H (.ro :: ms) (.look i :: as) (.inr i :: xs) (v :: vs) ps
  | lend {ms : List Md} {as : List Arg} {xs : List (D ⊕ Nat)} {vs : List V} {ps : List Addr} {i : Nat} {v : V} : get1 σ i = some v → AR F O σ H ms as xs vs ps → AR F O σ H (.bor :: ms) (.lend i :: as) (.inr i :: xs) (v :: vs) ps
  | new {ms : List Md} {as : List Arg} {xs : List (D ⊕ Nat)} {vs : List V} {ps : List Addr} {a : DE} {p : Addr} {us : List V} {ys : List D} : F.P p → F.N p → ¬ Jo O p → F.H0 p = none → p ∉ ps → H p = some (.lst us) → RepL (Ow F O) H us ys → AR F O σ H ms as xs vs ps → AR F O σ H (.bor :: ms) (.new a :: as) (.inl (.lst ys) :: xs) (.ref p :: vs) (p :: ps)
def ArgsD (X : Cx) (Wx : WX) (es : List Expr) (ms : List Md) (as : List Arg) : Prop := ∃ t : TA, PA X es t ∧ ∀ (F : Fm) (O : Nat → Option Addr) (env : Env) (σ : L2.St) (H : Hp) (Q : List V → Hp → Prop), SR X.K F O env σ H →
  Want (argsV as) env (fun xs e1 => ∀ vs F1 H1 ps, FX F F1 H → SR X.K F1 O e1 σ H1 → Ke (Jo O) H H1 → AR F1 O σ H1 ms as xs vs ps → (∀ q ∈ ps, H q = none) → Q vs H1) (XW X.K F O σ H Wx) → t σ H Q
theorem XR.sub {K : PySem.W.Frag} {W W' : Pr} {c : Str} {fs : List D} {cls : Value} {dd : Option Addr} {H : Hp} (h : ∀ a, W' a → W a) (x : XR K W c fs cls dd H) : XR K W' c fs cls dd H := by
  obtain ⟨x1, x2⟩ := x
  refine ⟨x1, ?_⟩
  cases dd with
  | none => exact x2
  | some d => obtain ⟨vs, y1, y2, y3⟩ := x2; exact ⟨vs, y1, y2, y3.sub fun a z => .inl (h a z)⟩
theorem XW.fx {K : PySem.W.Frag} {F F1 : Fm} {O : Nat → Option Addr} {σ : L2.St} {H H1 : Hp} {Wx : WX} (x : FX F F1 H) (k : Ke (Jo O) H H1) : ∀ c fs e, XW K F O σ H Wx c fs e → XW K F1 O σ H1 Wx c fs e :=
  fun _ _ _ h cls d H' S k1 r => h cls d H' (S.down x) (k.trans k1) (r.sub x.ow)
section
variable {X : Cx} {Wx : WX} {e : Expr} {es : List Expr} {ms : List Md} {as : List Arg} {ma : DE} {p : Pos}
theorem ga_nil : ArgsD X Wx [] [] [] := ⟨_, pa_nil, fun F O env σ H Q S w => w [] F H [] .refl S .refl .nil (fun _ h => by cases h)⟩
theorem ga_val (ha : PD .s X Wx e ma) (hr : ArgsD X Wx es ms as) (hs : starEach (e :: es) X.env = (false, eval e X.env) :: starEach es X.env := by rfl) : ArgsD X Wx (e :: es) (.val :: ms) (.e ma :: as) := by
  obtain ⟨ta, pa, qa⟩ := ha
  obtain ⟨tr, pr, qr⟩ := hr
  refine ⟨_, pa_cons pa pr hs, fun F O env σ H Q S w => qa F O env σ H _ S ((Want.bind (m := ma) w).imp (fun d e1 w1 v H1 S1 k1 r1 => ?_) fun _ _ _ z => z)⟩
  refine qr F O e1 σ H1 _ S1 ((Want.bind w1).imp (fun xs e2 w2 vs F1 H2 ps x S2 k2 ar hq => ?_) (XW.later k1))
  exact w2 (v :: vs) F1 H2 ps (FX.refl.trans x k1.there) S2 (k1.trans k2) (.val (r1.ke k2.ow fun a z => z.elim (fun z => (x.pn a z).elim (fun z => .inl (.inl z)) .inr) fun z => .inl (.inr z)) ar) fun q h => none_back k1.there (hq q h)
theorem ga_rov (ha : PD .s X Wx e ma) (hr : ArgsD X Wx es ms as) (hs : starEach (e :: es) X.env = (false, eval e X.env) :: starEach es X.env := by rfl) : ArgsD X Wx (e :: es) (.ro :: ms) (.e ma :: as) := by
  obtain ⟨ta, pa, qa⟩ := ha
  obtain ⟨tr, pr, qr⟩ := hr
  refine ⟨_, pa_cons pa pr hs, fun F O env σ H Q S w => qa F O env σ H _ S ((Want.bind (m := ma) w).imp (fun d e1 w1 v H1 S1 k1 r1 => ?_) fun _ _ _ z => z)⟩
  refine qr F O e1 σ H1 _ S1 ((Want.bind w1).imp (fun xs e2 w2 vs F1 H2 ps x S2 k2 ar hq => ?_) (XW.later k1))
  exact w2 (v :: vs) F1 H2 ps (FX.refl.trans x k1.there) S2 (k1.trans k2) (.rov (r1.ke k2.ow fun a z => z.elim (fun z => (x.pn a z).elim (fun z => .inl (.inl z)) .inr) fun z => .inl (.inr z)) ar) fun q h => none_back k1.there (hq q h)
theorem ga_look {i : Nat} {x : Str} (hN : X.N[i]? = some x) (hv : Vis X.env.scope x) (hr : ArgsD X Wx es ms as) (hs : starEach (.Name x p :: es) X.env = (false, eval (.Name x p) X.env) :: starEach es X.env := by rfl)
    (hd : (x == ("__debug__" : Str)) = false := by decide) (hcd : (x == ("__classdict__" : Str)) = false := by decide) : ArgsD X Wx (.Name x p :: es) (.ro :: ms) (.look i :: as) := by
  obtain ⟨tr, pr, qr⟩ := hr
  refine ⟨_, pa_cons (pe_var hN hv hd hcd) pr hs, fun F O env σ H Q S w => ?_⟩
  obtain ⟨v, d, e, r, w⟩ := (Want.bind w).tmp S
  refine ⟨v, get1_some e, qr F O env σ H _ S ((Want.bind w).imp (fun xs e2 w2 vs F1 H2 ps x S2 k2 ar hq => ?_) fun _ _ _ z => z)⟩
  exact w2 (v :: vs) F1 H2 ps x S2 k2 (.look e ar) hq
theorem ga_lend {i : Nat} {x : Str} (hN : X.N[i]? = some x) (hv : Vis X.env.scope x) (hr : ArgsD X Wx es ms as) (hs : starEach (.Name x p :: es) X.env = (false, eval (.Name x p) X.env) :: starEach es X.env := by rfl)
    (hd : (x == ("__debug__" : Str)) = false := by decide) (hcd : (x == ("__classdict__" : Str)) = false := by decide) : ArgsD X Wx (.Name x p :: es) (.bor :: ms) (.lend i :: as) := by
  obtain ⟨tr, pr, qr⟩ := hr
  refine ⟨_, pa_cons (pe_var hN hv hd hcd) pr hs, fun F O env σ H Q S w => ?_⟩
  obtain ⟨v, d, e, r, w⟩ := (Want.bind w).tmp S
  refine ⟨v, get1_some e, qr F O env σ H _ S ((Want.bind w).imp (fun xs e2 w2 vs F1 H2 ps x S2 k2 ar hq => ?_) fun _ _ _ z => z)⟩
  exact w2 (v :: vs) F1 H2 ps x S2 k2 (.lend e ar) hq
theorem ga_new (ha : PD .f X Wx e ma) (hr : ArgsD X Wx es ms as) (hs : starEach (e :: es) X.env = (false, eval e X.env) :: starEach es X.env := by rfl) : ArgsD X Wx (e :: es) (.bor :: ms) (.new ma :: as) := by
  obtain ⟨ta, pa, qa⟩ := ha
  obtain ⟨tr, pr, qr⟩ := hr
  refine ⟨_, pa_cons pa pr hs, fun F O env σ H Q S w => qa F O env σ H _ S ((Want.bind (m := ma) w).imp (fun d e1 w1 v H1 S1 k1 r1 => ?_) fun _ _ _ z => z)⟩
  obtain ⟨p, us, ys, rfl, rfl, hp, hp', l, S1'⟩ := r1
  have x1 : FX F (F.ad p) H := FX.ad hp
  refine qr (F.ad p) O e1 σ H1 _ S1' ((Want.bind w1).imp (fun xs e2 w2 vs F1 H2 ps x S2 k2 ar hq => ?_) (XW.fx x1 k1))
  have nj : ¬ Jo O p := fun z => S.prot p (.inr z) hp
  exact w2 (.ref p :: vs) F1 H2 (p :: ps) (x1.trans x k1.there) S2 (k1.trans k2)
    (.new (x.p p (.inr rfl)) (x.n p (.inr rfl)) nj (by rw [x.h0]; exact al_none S.al hp) (fun z => by have := hq p z; rw [hp'] at this; cases this) (k2.stay _ _ nj hp') (l.ke k2.ow fun a z => z.elim (fun z => (x.pn a z).elim (fun z => .inl (.inl z)) .inr) fun z => .inl (.inr z)) ar)
    fun q h => by
      rcases List.mem_cons.mp h with rfl | h
      · exact hp
      · exact none_back k1.there (hq q h)
end
/-! ### the callee's frame -/
def ba0 : Md → V → Option Addr
  | .bor, .ref a => some a
  | _, _ => none
def baL : List Md → List V → Nat → Option Addr
  | m :: _, v :: _, 0 => ba0 m v
  | _ :: ms, _ :: vs, j + 1 => baL ms vs j
  | _, _, _ => none
section
variable {K : PySem.W.Frag} {F : Fm} {O : Nat → Option Addr} {σ : L2.St} {H : Hp} {e1 : Env}
theorem AR.len {ms : List Md} {as : List Arg} {xs : List (D ⊕ Nat)} {vs : List V} {ps : List Addr} (ar : AR F O σ H ms as xs vs ps) : vs.length = ms.length := by
  induction ar with
  | nil => rfl
  | val _ _ ih => simp [ih]
  | rov _ _ ih => simp [ih]
  | look _ _ ih => simp [ih]
  | lend _ _ ih => simp [ih]
  | new _ _ _ _ _ _ _ _ ih => simp [ih]
/-- an own list's value -/
theorem SR.ownV (S : SR K F O e1 σ H) {i : Nat} {v : V} (h : isL (sl e1 i) = true) (e : get1 σ i = some v) : ∃ a vs xs, v = .ref a ∧ O i = some a ∧ H a = some (.lst vs) ∧ RepL (Ow F O) H vs xs ∧ argD e1 (.inr i) = some (.lst xs) := by
  have s := S.slot i
  cases q : sl e1 i with
  | own xs => rw [q] at s; obtain ⟨a, vs, h1, h0, h2, h3, r⟩ := s; rw [h2] at e; cases e; exact ⟨a, vs, xs, rfl, h1, h3, r, by show slD (sl e1 i) = _; rw [q]; rfl⟩
  | bor xs => rw [q] at s; obtain ⟨a, vs, h1, h0, h2, h3, r⟩ := s; rw [h2] at e; cases e; exact ⟨a, vs, xs, rfl, h1, h3, r, by show slD (sl e1 i) = _; rw [q]; rfl⟩
  | _ => rw [q] at h; cases h
/-- whom a lent list belongs to -/
theorem ba_who (S : SR K F O e1 σ H) {ms : List Md} {as : List Arg} {xs : List (D ⊕ Nat)} {vs : List V} {ps : List Addr} (ar : AR F O σ H ms as xs vs ps) :
    (∀ i ∈ lends as, isL (sl e1 i) = true) → ∀ j a, baL ms vs j = some a → (∃ i ∈ lends as, O i = some a) ∨ a ∈ ps := by
  induction ar with
  | nil => intro _ j a h; cases j <;> cases h
  | val r ar ih => intro hl j a h; cases j with
    | zero => cases h
    | succ j => exact ih hl j a h
  | rov r ar ih => intro hl j a h; cases j with
    | zero => cases h
    | succ j => exact ih hl j a h
  | look r ar ih => intro hl j a h; cases j with
    | zero => cases h
    | succ j => exact ih hl j a h
  | @lend ms as xs vs ps i v r ar ih => intro hl j a h; cases j with
    | zero =>
      obtain ⟨b, us, ys, rfl, hO, _⟩ := S.ownV (hl i List.mem_cons_self) r
      cases h
      exact .inl ⟨i, List.mem_cons_self, hO⟩
    | succ j =>
      rcases ih (fun i hi => hl i (List.mem_cons_of_mem _ hi)) j a h with ⟨i, hi, z⟩ | z
      · exact .inl ⟨i, List.mem_cons_of_mem _ hi, z⟩
      · exact .inr z
  | new h1 h2 h3 h4 h5 h6 h7 ar ih => intro hl j a h; cases j with
    | zero => cases h; exact .inr List.mem_cons_self
    | succ j =>
      rcases ih hl j a h with z | z
      · exact .inl z
      · exact .inr (List.mem_cons_of_mem _ z)
theorem AR.ps {ms : List Md} {as : List Arg} {xs : List (D ⊕ Nat)} {vs : List V} {ps : List Addr} (ar : AR F O σ H ms as xs vs ps) : ∀ p ∈ ps, F.P p ∧ F.N p ∧ ¬ Jo O p := by
  induction ar with
  | nil => intro p h; cases h
  | val r ar ih => exact ih
  | rov r ar ih => exact ih
  | look r ar ih => exact ih
  | lend r ar ih => exact ih
  | new h1 h2 h3 h4 h5 h6 h7 ar ih =>
    intro p h
    rcases List.mem_cons.mp h with rfl | h
    · exact ⟨h1, h2, h3⟩
    · exact ih p h
theorem ba_inj (S : SR K F O e1 σ H) {ms : List Md} {as : List Arg} {xs : List (D ⊕ Nat)} {vs : List V} {ps : List Addr} (ar : AR F O σ H ms as xs vs ps) :
    (∀ i ∈ lends as, isL (sl e1 i) = true) → (lends as).Nodup → ∀ k j a, baL ms vs k = some a → baL ms vs j = some a → k = j := by
  induction ar with
  | nil => intro _ _ k j a h; cases k <;> cases h
  | val r ar ih => intro hl hn k j a h1 h2; cases k with
    | zero => cases h1
    | succ k => cases j with
      | zero => cases h2
      | succ j => rw [ih hl hn k j a h1 h2]
  | rov r ar ih => intro hl hn k j a h1 h2; cases k with
    | zero => cases h1
    | succ k => cases j with
      | zero => cases h2
      | succ j => rw [ih hl hn k j a h1 h2]
  | look r ar ih => intro hl hn k j a h1 h2; cases k with
    | zero => cases h1
    | succ k => cases j with
      | zero => cases h2
      | succ j => rw [ih hl hn k j a h1 h2]
  | @lend ms as xs vs ps i v r ar ih =>
    intro hl hn k j a h1 h2
    have hl' : ∀ i ∈ lends as, isL (sl e1 i) = true := fun i hi => hl i (List.mem_cons_of_mem _ hi)
    obtain ⟨hni, hn'⟩ := List.nodup_cons.mp hn
    obtain ⟨b, us, ys, rfl, hO, _⟩ := S.ownV (hl i List.mem_cons_self) r
    have no : ∀ j, baL ms vs j = some b → False := fun j h => by
      rcases ba_who S ar hl' j b h with ⟨i', hi', z⟩ | z
      · exact hni (S.inj i' i b z hO ▸ hi')
      · exact (ar.ps b z).2.2 ⟨i, hO⟩
    cases k with
    | zero => cases j with
      | zero => rfl
      | succ j => cases h1; exact (no j h2).elim
    | succ k => cases j with
      | zero => cases h2; exact (no k h1).elim
      | succ j => rw [ih hl' hn' k j a h1 h2]
  | @new ms as xs vs ps a0 p us ys g1 g2 g3 g4 g5 g6 g7 ar ih =>
    intro hl hn k j a h1 h2
    have no : ∀ j, baL ms vs j = some p → False := fun j h => by
      rcases ba_who S ar hl j p h with ⟨i', hi', z⟩ | z
      · exact g3 ⟨i', z⟩
      · exact g5 z
    cases k with
    | zero => cases j with
      | zero => rfl
      | succ j => cases h1; exact (no j h2).elim
    | succ k => cases j with
      | zero => cases h2; exact (no k h1).elim
      | succ j => rw [ih hl hn k j a h1 h2]
/-- looked at by the callee -/
theorem SR.lookV (S : SR K F O e1 σ H) {i : Nat} {v : V} {d : D} (e : get1 σ i = some v) (hd : argD e1 (.inr i) = some d) {Fc : Fm} {Oc : Nat → Option Addr} (hP : ∀ a, Ow Fc Oc a → Ow F O a) (hN : ∀ a, Jo Oc a ∨ Fc.N a → Jo O a ∨ F.N a) (hi : ∀ a, O i = some a → ¬ (Jo Oc a ∨ Fc.N a)) : RoR K Fc Oc H v d := by
  have s := S.slot i
  have hd : slD (sl e1 i) = some d := hd
  cases q : sl e1 i with
  | no => rw [q] at hd; cases hd
  | val d => rw [q] at hd s; cases hd; obtain ⟨h1, v', h2, r⟩ := s; rw [h2] at e; cases e; exact .of (r.sub fun a z => .inl (hP a z))
  | ro d => rw [q] at hd s; cases hd; obtain ⟨h1, v', h2, r⟩ := s; rw [h2] at e; cases e; exact r.go Ke.refl (fun a z => .inl (hP a z)) fun a z => .inl (hN a z)
  | own xs => rw [q] at hd s; cases hd; obtain ⟨a, vs, h1, h0, h2, h3, r⟩ := s; rw [h2] at e; cases e; exact .lst (hi a h1) (.inl h3) (r.sub fun a z => .inl (hP a z))
  | bor xs => rw [q] at hd s; cases hd; obtain ⟨a, vs, h1, h0, h2, h3, r⟩ := s; rw [h2] at e; cases e; exact .lst (hi a h1) (.inl h3) (r.sub fun a z => .inl (hP a z))
  | odc kvs => rw [q] at hd s; cases hd; obtain ⟨a, vs, h1, h0, h2, h3, r⟩ := s; rw [h2] at e; cases e; exact .dic (hi a h1) (.inl h3) (r.sub fun a z => .inl (hP a z))
  | ldc kvs => rw [q] at hd s; cases hd; obtain ⟨a, vs, o, h1, h0, h2, h3, r⟩ := s; rw [h2] at e; cases e; exact .dic (hi a h1) (.inr ⟨o, h3⟩) (r.sub fun a z => .inl (hP a z))
theorem call_slots (S : SR K F O e1 σ H) {Fc : Fm} {Oc : Nat → Option Addr} (hP : ∀ a, Ow Fc Oc a → Ow F O a) (hN : ∀ a, Jo Oc a ∨ Fc.N a → Jo O a ∨ F.N a) {ms : List Md} {as : List Arg} {xs : List (D ⊕ Nat)} {vs : List V} {ps : List Addr} (ar : AR F O σ H ms as xs vs ps) :
    ∀ {ds : List D} (i : Nat), (∀ i ∈ lends as, isL (sl e1 i) = true) → (∀ i ∈ looks as, ∀ a, O i = some a → ¬ (Jo Oc a ∨ Fc.N a)) → argsD e1 xs = some ds → (∀ j, Oc (i + j) = baL ms vs j) → (∀ j, Fc.ba (i + j) = baL ms vs j) →
      lstsOk ms ds = true ∧ (startE ms ds).length = ms.length ∧ ∀ j, j < ms.length → SlR K Fc Oc H (i + j) (vs[j]?) (sl (startE ms ds) j) := by
  have cut : ∀ {x : D ⊕ Nat} {xs : List (D ⊕ Nat)} {ds : List D}, argsD e1 (x :: xs) = some ds → ∃ d ds', argD e1 x = some d ∧ argsD e1 xs = some ds' ∧ ds = d :: ds' := fun {x xs ds} h => by
    unfold argsD at h
    cases q1 : argD e1 x with
    | none => rw [q1] at h; cases h
    | some d => cases q2 : argsD e1 xs with
      | none => rw [q1, q2] at h; cases h
      | some ds' => rw [q1, q2] at h; cases h; exact ⟨d, ds', rfl, rfl, rfl⟩
  have nx : ∀ {f : Nat → Option Addr} {i : Nat} {m : Md} {ms : List Md} {v : V} {vs : List V}, (∀ j, f (i + j) = baL (m :: ms) (v :: vs) j) → ∀ j, f (i + 1 + j) = baL ms vs j := fun h j => by
    have := h (j + 1)
    rw [show ∀ i, i + (j + 1) = i + 1 + j from fun i => by omega] at this
    exact this
  induction ar with
  | nil => intro ds i _ _ h _ _; cases h; exact ⟨rfl, rfl, fun j hj => absurd hj (Nat.not_lt_zero _)⟩
  | val r ar ih =>
    intro ds i hl hk h hO hB
    obtain ⟨d', ds', h1, h2, rfl⟩ := cut h
    cases h1
    obtain ⟨g1, g2, g3⟩ := ih (i + 1) hl hk h2 (nx hO) (nx hB)
    refine ⟨g1, by simp [startE, g2], fun j hj => ?_⟩
    cases j with
    | zero => exact ⟨hO 0, _, rfl, r.sub fun a z => .inl (hP a z)⟩
    | succ j => rw [show i + (j + 1) = i + 1 + j by omega]; exact g3 j (Nat.lt_of_succ_lt_succ hj)
  | rov r ar ih =>
    intro ds i hl hk h hO hB
    obtain ⟨d', ds', h1, h2, rfl⟩ := cut h
    cases h1
    obtain ⟨g1, g2, g3⟩ := ih (i + 1) hl hk h2 (nx hO) (nx hB)
    refine ⟨g1, by simp [startE, g2], fun j hj => ?_⟩
    cases j with
    | zero => exact ⟨hO 0, _, rfl, .of (r.sub fun a z => .inl (hP a z))⟩
    | succ j => rw [show i + (j + 1) = i + 1 + j by omega]; exact g3 j (Nat.lt_of_succ_lt_succ hj)
  | @look ms as xs vs ps i0 v r ar ih =>
    intro ds i hl hk h hO hB
    obtain ⟨d', ds', h1, h2, rfl⟩ := cut h
    obtain ⟨g1, g2, g3⟩ := ih (i + 1) hl (fun i hi => hk i (List.mem_cons_of_mem _ hi)) h2 (nx hO) (nx hB)
    refine ⟨g1, by simp [startE, g2], fun j hj => ?_⟩
    cases j with
    | zero => exact ⟨hO 0, _, rfl, S.lookV r h1 hP hN (hk i0 List.mem_cons_self)⟩
    | succ j => rw [show i + (j + 1) = i + 1 + j by omega]; exact g3 j (Nat.lt_of_succ_lt_succ hj)
  | @lend ms as xs vs ps i0 v r ar ih =>
    intro ds i hl hk h hO hB
    obtain ⟨d', ds', h1, h2, rfl⟩ := cut h
    obtain ⟨g1, g2, g3⟩ := ih (i + 1) (fun i hi => hl i (List.mem_cons_of_mem _ hi)) hk h2 (nx hO) (nx hB)
    obtain ⟨a, us, ys, rfl, hO', hH, l, e⟩ := S.ownV (hl i0 List.mem_cons_self) r
    rw [e] at h1
    cases h1
    refine ⟨g1, by simp [startE, g2], fun j hj => ?_⟩
    cases j with
    | zero => exact ⟨a, us, hO 0, hB 0, rfl, hH, l.sub fun a z => .inl (hP a z)⟩
    | succ j => rw [show i + (j + 1) = i + 1 + j by omega]; exact g3 j (Nat.lt_of_succ_lt_succ hj)
  | @new ms as xs vs ps a0 p us ys q1 q2 q3 q4 q5 q6 q7 ar ih =>
    intro ds i hl hk h hO hB
    obtain ⟨d', ds', h1, h2, rfl⟩ := cut h
    cases h1
    obtain ⟨g1, g2, g3⟩ := ih (i + 1) hl hk h2 (nx hO) (nx hB)
    refine ⟨g1, by simp [startE, g2], fun j hj => ?_⟩
    cases j with
    | zero => exact ⟨p, us, hO 0, hB 0, rfl, q6, q7.sub fun a z => .inl (hP a z)⟩
    | succ j => rw [show i + (j + 1) = i + 1 + j by omega]; exact g3 j (Nat.lt_of_succ_lt_succ hj)
end
end AH
namespace AH
open PySem PySem.Spec PyProof.Rows L2
theorem sl_app : ∀ (e e' : Env) (j : Nat), j < e.length → sl (e ++ e') j = sl e j
  | [], _, _, h => absurd h (Nat.not_lt_zero _)
  | _ :: _, _, 0, _ => rfl
  | _ :: e, e', j + 1, h => sl_app e e' j (Nat.lt_of_succ_lt_succ h)
theorem sl_rep_no : ∀ n j : Nat, sl (List.replicate n .no) j = .no
  | 0, _ => rfl
  | _ + 1, 0 => rfl
  | n + 1, j + 1 => sl_rep_no n j
theorem sl_app_no : ∀ (e : Env) (n j : Nat), e.length ≤ j → sl (e ++ List.replicate n .no) j = .no
  | [], n, j, _ => sl_rep_no n j
  | _ :: _, _, 0, h => absurd h (Nat.not_succ_le_zero _)
  | _ :: e, n, j + 1, h => sl_app_no e n j (Nat.le_of_succ_le_succ h)
theorem baL_out : ∀ (ms : List Md) (vs : List V) (j : Nat), ms.length ≤ j → baL ms vs j = none
  | [], _, j, _ => by cases j <;> rfl
  | _ :: _, [], j, _ => by cases j <;> rfl
  | _ :: _, _ :: _, 0, h => absurd h (Nat.not_succ_le_zero _)
  | _ :: ms, _ :: vs, j + 1, h => baL_out ms vs j (Nat.le_of_succ_le_succ h)
section
variable {K : PySem.W.Frag} {F : Fm} {O : Nat → Option Addr} {σ : L2.St} {H H1 H' : Hp} {e0 e1 : Env}
theorem putL_sl (e : Env) (i j : Nat) (xs : List D) (h : isL (sl e j) = true) : isL (sl (putL e i xs) j) = true := by
  unfold putL
  by_cases hj : j = i
  · subst hj
    have hl : j < e.length := Nat.lt_of_not_le fun z => by rw [sl_out _ _ z] at h; cases h
    rw [sl_put_same _ _ _ hl]
    cases q : sl e j with
    | own ys => rfl
    | bor ys => rfl
    | _ => rw [q] at h; cases h
  · rw [sl_put_ne _ _ _ _ hj]; exact h
theorem isL_or {s : Sl} (h : isL s = true) : ∃ xs, s = .own xs ∨ s = .bor xs := by
  cases s with
  | own xs => exact ⟨xs, .inl rfl⟩
  | bor xs => exact ⟨xs, .inr rfl⟩
  | _ => cases h
/-- the lent lists come back -/
theorem give_back {Z : Pr} {ba : Nat → Option Addr} (hZ : ∀ a, Ow F O a → Z a) {F1 : Fm} {H1 : Hp} (fx : ∀ a, F1.P a → F.P a) (fn : ∀ a, F1.N a → F.N a) (f0 : F1.H0 = F.H0) {ms : List Md} {as : List Arg} {xs : List (D ⊕ Nat)} {vs : List V} {ps : List Addr} (ar : AR F1 O σ H1 ms as xs vs ps) :
    ∀ {bs : List (List D)} {e e2 : Env} {Hm : Hp} (i : Nat), (∀ i ∈ lends as, isL (sl e i) = true) → giveBack as bs e = some e2 → BoL Z ba H' i ms bs → (∀ j, ba (i + j) = baL ms vs j) → SR K F O e σ Hm → (∀ a, (∀ j, baL ms vs j ≠ some a) → Hm a = H' a) → (∀ a, H' a ≠ none → Hm a ≠ none) → (∀ j a, baL ms vs j = some a → Z a) → SR K F O e2 σ H' := by
  have nx : ∀ {f : Nat → Option Addr} {i : Nat} {m : Md} {ms : List Md} {v : V} {vs : List V}, (∀ j, f (i + j) = baL (m :: ms) (v :: vs) j) → ∀ j, f (i + 1 + j) = baL ms vs j := fun h j => by
    have := h (j + 1)
    rw [show ∀ i, i + (j + 1) = i + 1 + j from fun i => by omega] at this
    exact this
  have skip : ∀ {m : Md} {ms : List Md} {v : V} {vs : List V} {a : Addr}, ba0 m v = none → (∀ j, baL ms vs j ≠ some a) → ∀ j, baL (m :: ms) (v :: vs) j ≠ some a := fun h0 h j => by
    cases j with
    | zero => show ba0 _ _ ≠ _; rw [h0]; simp
    | succ j => exact h j
  induction ar with
  | nil =>
    intro bs e e2 Hm i hl hg hb hB S hm _ _
    cases bs with
    | nil =>
      cases hg
      have : Hm = H' := funext fun a => hm a fun j => by cases j <;> simp [baL]
      rw [← this]
      exact S
    | cons b bs => cases hg
  | val r ar ih => intro bs e e2 Hm i hl hg hb hB S hm ht hz; exact ih (i + 1) hl hg hb (nx hB) S (fun a h => hm a (skip rfl h)) ht fun j => hz (j + 1)
  | rov r ar ih => intro bs e e2 Hm i hl hg hb hB S hm ht hz; exact ih (i + 1) hl hg hb (nx hB) S (fun a h => hm a (skip rfl h)) ht fun j => hz (j + 1)
  | look r ar ih => intro bs e e2 Hm i hl hg hb hB S hm ht hz; exact ih (i + 1) hl hg hb (nx hB) S (fun a h => hm a (skip rfl h)) ht fun j => hz (j + 1)
  | @lend ms as xs vs ps i0 v r ar ih =>
    intro bs e e2 Hm i hl hg hb hB S hm ht hz
    cases bs with
    | nil => cases hg
    | cons b bs =>
      obtain ⟨⟨a, us, hba, hH, l⟩, hb⟩ := hb
      obtain ⟨ys, hy⟩ := isL_or (hl i0 List.mem_cons_self)
      obtain ⟨a', vs', hO, hbo, hgt, hHm, l', fin⟩ := S.ownAt hy
      rw [r] at hgt
      cases hgt
      have ea : a = a' := by
        have h0 : ba i = some a' := hB 0
        rw [h0] at hba
        cases hba
        rfl
      subst ea
      have za : Z a := hZ a (.inr ⟨i0, hO⟩)
      have th : ∀ x, H' x ≠ none → upd Hm a (.lst us) x ≠ none := fun x hx => by
        by_cases hxa : x = a
        · rw [hxa, upd_same]; simp
        · rw [upd_ne hxa]; exact ht x hx
      refine ih (Hm := upd Hm a (.lst us)) (i + 1) (fun j hj => putL_sl e i0 j b (hl j (List.mem_cons_of_mem _ hj))) hg hb (nx hB) ?_ (fun x hx => ?_) th (fun j => hz (j + 1))
      · refine S.mut hO hbo (fin _ us b upd_same ?_)
        refine l.ke ⟨fun x o nz hx => ?_, th⟩ fun x z => .inl (hZ x z)
        rw [upd_ne (fun z : x = a => nz (by rw [z]; exact za)), hm x fun j hj => nz (hz j x hj)]
        exact hx
      · by_cases hxa : x = a
        · rw [hxa, upd_same, hH]
        · rw [upd_ne hxa]
          refine hm x fun j => ?_
          cases j with
          | zero => intro z; cases z; exact hxa rfl
          | succ j => exact hx j
  | @new ms as xs vs ps a0 p us0 ys q1 q2 q3 q4 q5 q6 q7 ar ih =>
    intro bs e e2 Hm i hl hg hb hB S hm ht hz
    cases bs with
    | nil => cases hg
    | cons b bs =>
      obtain ⟨⟨a, us, hba, hH, l⟩, hb⟩ := hb
      have ea : a = p := by
        have h0 : ba i = some p := hB 0
        rw [h0] at hba
        cases hba
        rfl
      subst ea
      refine ih (Hm := upd Hm a (.lst us)) (i + 1) hl hg hb (nx hB) (S.updQ (fx a q1) (fn a q2) q3 (by rw [← f0]; exact q4)) (fun x hx => ?_) (fun x hx => ?_) (fun j => hz (j + 1))
      · by_cases hxa : x = a
        · rw [hxa, upd_same, hH]
        · rw [upd_ne hxa]
          refine hm x fun j => ?_
          cases j with
          | zero => intro z; cases z; exact hxa rfl
          | succ j => exact hx j
      · by_cases hxa : x = a
        · rw [hxa, upd_same]; simp
        · rw [upd_ne hxa]; exact ht x hx
/-- THE RULE of calls, behind the arguments -/
theorem call_wish {fl : Fl} {N : List Str} {f : DF} {ms : List Md} {as : List Arg} {xs : List (D ⊕ Nat)} {vs : List V} {ps : List Addr} {F1 : Fm} {Q : VK} {Wx : WX} (hfl : fl ≠ .w) (hN : ms.length ≤ N.length) (ok : argsOk as = true) (S0 : SR K F O e0 σ H) (x : FX F F1 H) (S : SR K F1 O e1 σ H1) (k : Ke (Jo O) H H1) (ar : AR F1 O σ H1 ms as xs vs ps) (hps : ∀ q ∈ ps, H q = none)
    (w : Want (fun e1 => if !(lends as).all (fun i => isL (sl e1 i)) then R.bad else (match argsD e1 xs with
    | some ds => (match f ds with
      | .ok d bs => (match giveBack as bs e1 with
        | some e2 => .ok d e2
        | none => .bad)
      | .ex c fs bs => (match giveBack as bs e1 with
        | some e2 => .ex c fs e2
        | none => .bad)
      | .bad => .bad)
    | none => .bad)) e1 (fun d e1 => ∀ v H', SR K F O e1 σ H' → Ke (Jo O) H H' → Po fl K F O e1 σ H H' v d → Q v H') (XW K F O σ H Wx)) :
    spD fl K N ms f vs H1 Q (WE Wx σ) := by
  unfold Want at w
  cases hl : (lends as).all (fun i => isL (sl e1 i)) with
  | false => simp only [hl] at w; exact w.elim
  | true =>
  simp only [hl] at w
  have hl' : ∀ i ∈ lends as, isL (sl e1 i) = true := List.all_eq_true.mp hl
  cases hd : argsD e1 xs with
  | none => simp only [hd] at w; exact w.elim
  | some ds =>
  simp only [hd] at w
  obtain ⟨ok1, ok2⟩ := Bool.and_eq_true_iff.mp ok
  have nd : (lends as).Nodup := of_decide_eq_true ok1
  have hlk : ∀ i ∈ looks as, i ∉ lends as := fun i hi hi' => by
    have := List.all_eq_true.mp ok2 i hi
    simp [hi'] at this
  have who := ba_who S ar hl'
  have lal : ∀ j a, baL ms vs j = some a → Ow F1 O a := fun j a h => by
    rcases who j a h with ⟨i, _, z⟩ | z
    · exact .inr ⟨i, z⟩
    · exact .inl (ar.ps a z).1
  have lan : ∀ j a, baL ms vs j = some a → Jo O a ∨ F1.N a := fun j a h => by
    rcases who j a h with ⟨i, _, z⟩ | z
    · exact .inl ⟨i, z⟩
    · exact .inr (ar.ps a z).2.1
  let Fc : Fm := ⟨Ow F1 O, fun _ => False, H1, baL ms vs⟩
  have hP : ∀ a, Ow Fc (baL ms vs) a → Ow F1 O a := fun a z => z.elim id fun ⟨j, z⟩ => lal j a z
  have hNN : ∀ a, Jo (baL ms vs) a ∨ Fc.N a → Jo O a ∨ F1.N a := fun a z => z.elim (fun ⟨j, z⟩ => lan j a z) False.elim
  obtain ⟨g1, g2, g3⟩ := call_slots (Fc := Fc) (Oc := baL ms vs) S hP hNN ar 0 hl' (fun i hi a hO z => by
    rcases z with ⟨j, z⟩ | z
    · rcases who j a z with ⟨i', hi', z'⟩ | z'
      · exact hlk i hi (S.inj i i' a hO z' ▸ hi')
      · exact (ar.ps a z').2.2 ⟨i, hO⟩
    · exact z) hd (fun j => by rw [Nat.zero_add]) (fun j => by show baL ms vs (0 + j) = _; rw [Nat.zero_add])
  have vl : vs.length = ms.length := ar.len
  have SS : SR K Fc (baL ms vs) (startE ms ds ++ List.replicate (N.length - ms.length) .no) (start N vs) H1 := by
    refine ⟨fun j => ?_, ba_inj S ar hl' nd, fun a z => S.prot a (hP a z), fun a o e _ => e, fun a z => z, ?_, fun a z => z.elim⟩
    · by_cases hj : j < ms.length
      · have e1 : sl (startE ms ds ++ List.replicate (N.length - ms.length) .no) j = sl (startE ms ds) j := sl_app _ _ _ (by rw [g2]; exact hj)
        have e2 : get1 (start N vs) j = vs[j]? := by
          unfold get1 L2.start
          rw [List.getElem?_append_left (by rw [List.length_map, vl]; exact hj), List.getElem?_map]
          cases vs[j]? <;> rfl
        rw [e1, e2]
        have := g3 j hj
        rw [Nat.zero_add] at this
        exact this
      · have e1 : sl (startE ms ds ++ List.replicate (N.length - ms.length) .no) j = .no := sl_app_no _ _ _ (by rw [g2]; omega)
        rw [e1]
        exact baL_out _ _ _ (by omega)
    · unfold L2.start
      rw [List.length_append, g2, List.length_replicate, List.length_append, List.length_map, List.length_replicate, vl]
  -- behind it
  have bo : ∀ {a : Addr}, ¬ Fc.bo a → ∀ j, baL ms vs j ≠ some a := fun n j z => n ⟨j, z⟩
  have keep : ∀ {H' : Hp}, KeB Fc H1 H' → Ke (Jo O) H H' := fun {H'} kb => by
    refine ⟨fun a o n e => kb.keep a o (k.stay a o n e) ?_, fun a z => kb.there a (k.there a z)⟩
    rintro ⟨j, z⟩
    rcases who j a z with ⟨i, _, z⟩ | z
    · exact n ⟨i, z⟩
    · rw [hps a z] at e; cases e
  have back : ∀ {F2 : Fm} {Z : Pr} {H' : Hp} {bs : List (List D)} {e2 : Env}, giveBack as bs e1 = some e2 → KeB Fc H1 H' → BoL Z (baL ms vs) H' 0 ms bs → (∀ a, Ow F2 O a → Z a) → (∀ a, Ow F1 O a → Z a) → (∀ a, F1.P a → F2.P a) → (∀ a, F1.N a → F2.N a) → F1.H0 = F2.H0 →
      (∀ Hm : Hp, (∀ a o, H1 a = some o → Hm a = some o) → (∀ a, H' a ≠ none → Hm a ≠ none) → SR K F2 O e1 σ Hm) → SR K F2 O e2 σ H' := fun {F2 Z H' bs e2} hg kb hb hZ hZ1 h1 h2 h3 hS => by
    classical
    let Hm : Hp := fun a => if ∃ j, baL ms vs j = some a then H1 a else H' a
    have m1 : ∀ a, (∃ j, baL ms vs j = some a) → Hm a = H1 a := fun a h => if_pos h
    have m2 : ∀ a, (¬ ∃ j, baL ms vs j = some a) → Hm a = H' a := fun a h => if_neg h
    have t : ∀ a, H' a ≠ none → Hm a ≠ none := fun a z => by
      by_cases h : ∃ j, baL ms vs j = some a
      · rw [m1 a h]
        obtain ⟨j, h⟩ := h
        exact S.prot a (lal j a h)
      · rw [m2 a h]; exact z
    have st : ∀ a o, H1 a = some o → Hm a = some o := fun a o z => by
      by_cases h : ∃ j, baL ms vs j = some a
      · rw [m1 a h]; exact z
      · rw [m2 a h]; exact kb.keep a o z h
    exact give_back (Z := Z) (ba := baL ms vs) hZ h1 h2 h3 ar (Hm := Hm) 0 hl' hg hb (fun j => by rw [Nat.zero_add]) (hS Hm st t) (fun a h => m2 a fun ⟨j, z⟩ => h j z) t fun j a z => hZ1 a (lal j a z)
  refine ⟨vl, ds, Fc, baL ms vs, SS, rfl, g1, ?_⟩
  cases hf : f ds with
  | bad => simp only [hf] at w; exact w.elim
  | ex c fs bs =>
    simp only [hf] at w
    cases hg : giveBack as bs e1 with
    | none => simp only [hg] at w; exact w.elim
    | some e2 =>
      simp only [hg] at w
      intro cls dd H' kb hb xr
      have S2 : SR K F1 O e2 σ H' := back hg kb hb (fun _ z => z) (fun _ z => z) (fun _ z => z) (fun _ z => z) rfl fun Hm st _ => S.ext st
      exact w cls dd H' (S2.down x) (keep kb) (xr.sub fun a z => x.ow a z)
  | ok d bs =>
    simp only [hf] at w
    cases hg : giveBack as bs e1 with
    | none => simp only [hg] at w; exact w.elim
    | some e2 =>
      simp only [hg] at w
      intro v H' kb r
      have ss : Rep Fc.P H' v d → BoL Fc.P (baL ms vs) H' 0 ms bs → SR K F O e2 σ H' ∧ Rep (Ow F O) H' v d := fun r1 r2 => by
        have S2 : SR K F1 O e2 σ H' := back hg kb r2 (fun _ z => z) (fun _ z => z) (fun _ z => z) (fun _ z => z) rfl fun Hm st _ => S.ext st
        exact ⟨S2.down x, r1.sub fun a z => .inl (x.ow a z)⟩
      cases fl with
      | w => exact absurd rfl hfl
      | s =>
        obtain ⟨r1, r2⟩ := r
        obtain ⟨S2, r3⟩ := ss r1 r2
        exact w v H' S2 (keep kb) r3
      | f =>
        obtain ⟨p, us, ys, rfl, rfl, hp, hp', l, hb⟩ := r
        have S2 : SR K (F1.ad p) O e2 σ H' := back (F2 := F1.ad p) hg kb hb (fun a z => by
          rcases z with (z | z) | z
          · exact .inl (.inl z)
          · exact .inr z
          · exact .inl (.inr z)) (fun a z => .inl z) (fun a z => .inl z) (fun a z => .inl z) rfl fun Hm st t => S.adAt st hp (t p (by rw [hp']; simp))
        have S3 : SR K (F.ad p) O e2 σ H' := S2.down (H0 := H) ⟨x.ba, x.h0, fun a z => z.elim (fun z => .inl (x.p a z)) .inr, fun a z => z.elim (fun z => .inl (x.n a z)) .inr, fun a z => z.elim (fun z => (x.pn a z).elim (fun z => .inl (.inl z)) .inr) fun z => .inl (.inr z), fun a z => z.elim (fun z => (x.nn a z).elim (fun z => .inl (.inl z)) .inr) fun z => .inl (.inr z)⟩
        refine w _ H' S3.unad (keep kb) ⟨p, us, ys, rfl, rfl, none_back k.there hp, hp', l.sub fun a z => .inl ?_, S3⟩
        rcases z with (z | z) | z
        · exact .inl (x.ow a (.inl z))
        · exact .inr z
        · exact .inl (.inr z)
      | fd =>
        obtain ⟨p, us, ys, rfl, rfl, hp, hp', l, hb⟩ := r
        have S2 : SR K (F1.ad p) O e2 σ H' := back (F2 := F1.ad p) hg kb hb (fun a z => by
          rcases z with (z | z) | z
          · exact .inl (.inl z)
          · exact .inr z
          · exact .inl (.inr z)) (fun a z => .inl z) (fun a z => .inl z) (fun a z => .inl z) rfl fun Hm st t => S.adAt st hp (t p (by rw [hp']; simp))
        have S3 : SR K (F.ad p) O e2 σ H' := S2.down (H0 := H) ⟨x.ba, x.h0, fun a z => z.elim (fun z => .inl (x.p a z)) .inr, fun a z => z.elim (fun z => .inl (x.n a z)) .inr, fun a z => z.elim (fun z => (x.pn a z).elim (fun z => .inl (.inl z)) .inr) fun z => .inl (.inr z), fun a z => z.elim (fun z => (x.nn a z).elim (fun z => .inl (.inl z)) .inr) fun z => .inl (.inr z)⟩
        refine w _ H' S3.unad (keep kb) ⟨p, us, ys, rfl, rfl, none_back k.there hp, hp', l.sub fun a z => .inl ?_, S3⟩
        rcases z with (z | z) | z
        · exact .inl (x.ow a (.inl z))
        · exact .inr z
        · exact .inl (.inr z)
end
/-! ### calls -/
section
variable {X : Cx} {Wx : WX} {e : Expr} {es : List Expr} {ms : List Md} {as : List Arg} {p pos : Pos} {fl : Fl} {k : Nat} {f : Addr} {fd : FuncData} {ps N : List Str} {g : DF} {x : Str}
/-- a def that is called by its name: its promise, the room, its name -/
structure Fn (X : Cx) (fl : Fl) (x : Str) (N ps : List Str) (ms : List Md) (g : DF) : Prop where
  ex : ∃ (k : Nat) (f : Addr) (fd : FuncData), FnOk X.prog X.w X.K X.mg X.base (L2.CX X.prog X.w) k f fd ps (spD fl X.K N ms g) ∧ Room k X.A ∧ X.mg x = some (.ref f) ∧ PySem.W.keepIn X.K (.ref f) = true ∧ Binds X.K fd ps []
  nw : fl ≠ .w
  le : ms.length ≤ N.length
theorem pd_call (F : Fn X fl x N ps ms g) (tk : Takes X Wx) (hg : Gl X x) (ha : ArgsD X Wx (e :: es) ms as) (ok : argsOk as = true := by rfl) (hdb : (x == ("__debug__" : Str)) = false := by decide)
    (he : starEach (e :: es) X.env = (false, eval e X.env) :: starEach es X.env := by rfl) (hpl : (backTo pos (starEach es X.env)).any (·.1) = false := by rfl) : PD fl X Wx (.Call (.Name x p) (e :: es) [] pos) (eCall g as) := by
  obtain ⟨k, f, fd, Fk, hr, hm, hk, hb⟩ := F.ex
  obtain ⟨t, pt, qt⟩ := ha
  refine ⟨_, pe_callS Fk hr hg hm hk hb (passAt tk) pt hdb he hpl, fun F' O env σ H Q S w => ?_⟩
  refine qt F' O env σ H _ S ?_
  unfold Want eCall at w
  unfold Want
  cases hv : argsV as env with
  | bad => rw [hv] at w; exact w
  | ex c fs e1 => rw [hv] at w; exact w
  | ok xs e1 =>
    rw [hv] at w
    intro vs F1 H1 ps' x1 S1 k1 ar hps
    exact call_wish F.nw F.le ok S x1 S1 k1 ar hps w
theorem pd_call0 (F : Fn X fl x N ps [] g) (tk : Takes X Wx) (hg : Gl X x) (hdb : (x == ("__debug__" : Str)) = false := by decide) : PD fl X Wx (.Call (.Name x p) [] [] pos) (eCall g []) := by
  obtain ⟨k, f, fd, Fk, hr, hm, hk, hb⟩ := F.ex
  refine ⟨fun σ H Q => spD fl X.K N [] g [] H Q (WE Wx σ), ⟨fun pins s σ H Q I h => ?_⟩, fun F' O env σ H Q S w => ?_⟩
  · refine wpAny_Call_Name_kw (ld_glob I hg hm ?_ hdb)
    exact PySem.W.callWith_K0 I.kIn hk (run_fnS (us := []) (E := WE Wx) Fk hr hb (passAt tk σ) I .nil h)
  · exact call_wish (xs := []) (ps := []) (as := []) F.nw F.le rfl S .refl S .refl .nil (fun _ h => by cases h) w
end
end AH
namespace AH
open PySem PySem.Spec PyProof.Rows L2
/-! ### calls with keywords -/
def perm {α : Type} (ix : List Nat) (l : List α) : List α := ix.filterMap fun i => l[i]?
def eCallK (f : DF) (ix : List Nat) (a : DL) : DE := a.bind fun ds => fun e => match f (perm ix ds) with
  | .ok d [] => .ok d e
  | .ex c fs [] => .ex c fs e
  | _ => .bad
def aApp (a b : DL) : DL := a.bind fun xs => b.bind fun ys => M.pure (xs ++ ys)
theorem RepL.perm {W : Pr} {H : Hp} {vs : List V} {ds : List D} (l : RepL W H vs ds) : ∀ ix : List Nat, RepL W H (AH.perm ix vs) (AH.perm ix ds)
  | [] => .nil
  | i :: ix => by
    unfold AH.perm
    rw [List.filterMap_cons, List.filterMap_cons]
    have ll := l.len
    cases h : ds[i]? with
    | none =>
      have : vs[i]? = none := by
        rw [List.getElem?_eq_none_iff] at h ⊢
        omega
      rw [this]
      exact RepL.perm l ix
    | some d =>
      obtain ⟨v, hv, r⟩ := l.get h
      rw [hv]
      exact .cons r (RepL.perm l ix)
theorem perm_vals {vs : List V} {us : List Value} (r : Vals vs us) : ∀ ix : List Nat, Vals (perm ix vs) (perm ix us)
  | [] => .nil
  | i :: ix => by
    unfold perm
    rw [List.filterMap_cons, List.filterMap_cons]
    have ll := r.length
    cases h : us[i]? with
    | none =>
      have : vs[i]? = none := by
        rw [List.getElem?_eq_none_iff] at h ⊢
        omega
      rw [this]
      exact perm_vals r ix
    | some u =>
      have hi := (List.getElem?_eq_some_iff.mp h).1
      have hv : vs[i]? = some vs[i] := by rw [List.getElem?_eq_getElem]
      rw [hv]
      refine .cons ?_ (perm_vals r ix)
      have : ∀ {vs : List V} {us : List Value}, Vals vs us → ∀ (i : Nat) (v : V) (u : Value), vs[i]? = some v → us[i]? = some u → RelV v u := by
        intro vs us r
        induction r with
        | nil => intro i v u h; simp at h
        | cons a _ ih => intro i v u h1 h2; cases i with
          | zero => simp at h1 h2; subst h1; subst h2; exact a
          | succ i => exact ih i v u (by simpa using h1) (by simpa using h2)
      exact this r i _ _ hv h
/-- keyword arguments -/
def KD (X : Cx) (Wx : WX) (kws : List Keyword) (m : DL) : Prop := ∃ t : TA, PK X kws t ∧ ∀ (F : Fm) (O : Nat → Option Addr) (env : Env) (σ : L2.St) (H : Hp) (Q : List V → Hp → Prop), SR X.K F O env σ H →
  Want m env (fun ds e1 => ∀ vs H', SR X.K F O e1 σ H' → Ke (Jo O) H H' → RepL (Ow F O) H' vs ds → Q vs H') (XW X.K F O σ H Wx) → t σ H Q
/-- such a def with keywords: n written values, the names ks, where each parameter's value stands -/
structure FnK (X : Cx) (fl : Fl) (x : Str) (N ps : List Str) (ms : List Md) (g : DF) (n : Nat) (ks : List Str) (ix : List Nat) : Prop where
  ex : ∃ (k : Nat) (f : Addr) (fd : FuncData), FnOk X.prog X.w X.K X.mg X.base (L2.CX X.prog X.w) k f fd ps (spD fl X.K N ms g) ∧ Room k X.A ∧ X.mg x = some (.ref f) ∧ PySem.W.keepIn X.K (.ref f) = true ∧
    ∀ (s : Shared) (us ws : List Value), X.K.In s.heap → us.length = n → ws.length = ks.length → BindsTo s fd ⟨us, ks.zip ws⟩ (ps.zip (perm ix (us ++ ws)))
  nw : fl ≠ .w
  le : ms.length ≤ N.length
  nb : (ms.all fun m => m != .bor) = true
section
variable {X : Cx} {Wx : WX} {e : Expr} {es : List Expr} {ms : List Md} {p pos kpos : Pos} {fl : Fl} {ps N ks : List Str} {g : DF} {x : Str} {kws : List Keyword} {ma : DE} {mb mk : DL} {n : Nat} {ix : List Nat} {nm : Option Str}
theorem kd_nil : KD X Wx [] aNil := ⟨_, pk_nil, fun F O env σ H Q S w => w [] H S .refl .nil⟩
theorem kd_cons (ha : PD .s X Wx e ma) (hr : KD X Wx kws mk) : KD X Wx (⟨nm, e, kpos⟩ :: kws) (aCons ma mk) := by
  obtain ⟨ta, pa, qa⟩ := ha
  obtain ⟨tr, pr, qr⟩ := hr
  refine ⟨_, pk_cons pa pr, fun F O env σ H Q S w => qa F O env σ H _ S ((Want.bind (m := ma) w).imp (fun d e1 w1 v H1 S1 k1 r1 => ?_) fun _ _ _ z => z)⟩
  exact qr F O e1 σ H1 _ S1 ((Want.bind w1).imp (fun xs e2 w2 vs H2 S2 k2 l => w2 (v :: vs) H2 S2 (k1.trans k2) (.cons (Rep.mj k2 r1) l)) (XW.later k1))
theorem ar_of {F : Fm} {O : Nat → Option Addr} {σ : L2.St} {H : Hp} : ∀ {ms : List Md} {vs : List V} {ds : List D}, (ms.all fun m => m != .bor) = true → ms.length = ds.length → RepL (Ow F O) H vs ds → AR F O σ H ms (ds.map fun d => Arg.e (eC d)) (ds.map .inl) vs []
  | [], _, _, _, hl, .nil => .nil
  | _ :: _, _, _, _, hl, .nil => by cases hl
  | [], _, _, _, hl, .cons _ _ => by cases hl
  | .val :: ms, _, _, h, hl, .cons r l => .val r (ar_of (by simpa using h) (by simpa using hl) l)
  | .ro :: ms, _, _, h, hl, .cons r l => .rov r (ar_of (by simpa using h) (by simpa using hl) l)
  | .bor :: ms, _, _, h, hl, .cons r l => by simp at h
theorem lends_e : ∀ ds : List D, lends (ds.map fun d => Arg.e (eC d)) = []
  | [] => rfl
  | _ :: ds => lends_e ds
theorem looks_e : ∀ ds : List D, looks (ds.map fun d => Arg.e (eC d)) = []
  | [] => rfl
  | _ :: ds => looks_e ds
theorem argsD_e (e : Env) : ∀ ds : List D, argsD e (ds.map .inl) = some ds
  | [] => rfl
  | d :: ds => by show (match some d, argsD e (ds.map .inl) with | some d, some ds => some (d :: ds) | _, _ => none) = _; rw [argsD_e e ds]
theorem giveBack_e (e : Env) : ∀ ds : List D, giveBack (ds.map fun d => Arg.e (eC d)) [] e = some e
  | [] => rfl
  | _ :: ds => giveBack_e e ds
theorem kw_wish {F : Fm} {O : Nat → Option Addr} {σ : L2.St} {H H1 : Hp} {e0 e1 : Env} {K : PySem.W.Frag} {vs : List V} {ds : List D} {Q : VK} (hfl : fl ≠ .w) (hN : ms.length ≤ N.length) (hb : (ms.all fun m => m != .bor) = true) (S0 : SR K F O e0 σ H) (S : SR K F O e1 σ H1) (k : Ke (Jo O) H H1) (l : RepL (Ow F O) H1 vs ds) (hl : ms.length = ds.length)
    (w : Want (fun e => match g ds with
      | .ok d [] => R.ok d e
      | .ex c fs [] => .ex c fs e
      | _ => .bad) e1 (fun d e1 => ∀ v H', SR K F O e1 σ H' → Ke (Jo O) H H' → Po fl K F O e1 σ H H' v d → Q v H') (XW K F O σ H Wx)) : spD fl K N ms g vs H1 Q (WE Wx σ) := by
  refine call_wish (as := ds.map fun d => Arg.e (eC d)) (xs := ds.map .inl) (ps := []) (e0 := e0) hfl hN ?_ S0 .refl S k (ar_of hb hl l) (fun _ h => by cases h) ?_
  · unfold argsOk
    rw [lends_e, looks_e]
    rfl
  · unfold Want at w ⊢
    simp only [lends_e, argsD_e, List.all_nil, Bool.not_true, Bool.false_eq_true, if_false]
    cases hf : g ds with
    | bad => simp only [hf] at w
    | ok d bs => cases bs with
      | nil => simp only [hf] at w; simp only [giveBack_e]; exact w
      | cons b bs => simp only [hf] at w
    | ex c fs bs => cases bs with
      | nil => simp only [hf] at w; simp only [giveBack_e]; exact w
      | cons b bs => simp only [hf] at w
theorem run_fnNS {CX : CXT} {k : Nat} {f : Addr} {fd : FuncData} {sp : Sp} {E : XK} {pins : List (Addr × Obj)} {σ : L2.St} {H : Hp} {s : Shared} {Q : VK} {us : List Value} {vs : List V} {kw : List (Str × Value)} (F : FnOk X.prog X.w X.K X.mg X.base CX k f fd ps sp) (hr : Room k X.A) {zs : List Value} (hb : BindsTo s fd ⟨us, kw⟩ (ps.zip zs)) (hx : PassesAt CX X σ E)
    (I : Inv X pins σ H s) (r : Vals vs zs) (h : sp vs H Q E) : wpAny (model X.prog X.w) X.A (call (.ref f) us kw) (EP X pins σ Q) X.xe s := by
  refine wpAny_call (codeAny_mono (F.run X.A X.stack s H ⟨us, kw⟩ zs vs Q E hr I.env0 hb r h) fun r s' hq => ?_)
  cases r with
  | error e => exact hx pins H s e s' I hq
  | ok fl =>
    cases fl with
    | ret u => exact I.after hq
    | next => exact False.elim hq
    | brk => exact False.elim hq
    | cont => exact False.elim hq
theorem perm_len {α β : Type} (ix : List Nat) {l : List α} {l' : List β} (h : l.length = l'.length) : (perm ix l).length = (perm ix l').length := by
  induction ix with
  | nil => rfl
  | cons i ix ih =>
    unfold perm
    rw [List.filterMap_cons, List.filterMap_cons]
    cases q : l[i]? with
    | none =>
      have : l'[i]? = none := by rw [List.getElem?_eq_none_iff] at q ⊢; omega
      rw [this]; exact ih
    | some a =>
      have hi := (List.getElem?_eq_some_iff.mp q).1
      have : l'[i]? = some l'[i] := by rw [List.getElem?_eq_getElem]
      rw [this]
      exact congrArg Nat.succ ih
/-- f(k = v, ..) -/
theorem pd_callK0 (F : FnK X fl x N ps ms g 0 ks ix) (tk : Takes X Wx) (hg : Gl X x) (hk : KD X Wx kws mk) (hml : ∀ e ds e', mk e = .ok ds e' → ds.length = ks.length ∧ ms.length = (perm ix ds).length) (hall : (backToKw pos (keywordEach kws X.env)).all (·.1.isSome) = true := by rfl) (hks : (backToKw pos (keywordEach kws X.env)).filterMap (·.1) = ks := by rfl)
    (hdb : (x == ("__debug__" : Str)) = false := by decide) (hpl : ((backTo pos (starEach [] X.env)).any (·.1) || (backToKw pos (keywordEach kws X.env)).any (·.1.isNone)) = false := by rfl) : PD fl X Wx (.Call (.Name x p) [] kws pos) (eCallK g ix mk) := by
  obtain ⟨k, f, fd, Fk, hr, hm, hkp, hb⟩ := F.ex
  obtain ⟨t, pt, qt⟩ := hk
  refine ⟨fun σ H Q => t σ H fun zs H2 => zs.length = ks.length ∧ spD fl X.K N ms g (perm ix zs) H2 Q (WE Wx σ), ⟨fun pins s σ H Q I h => ?_⟩, fun F' O env σ H Q S w => ?_⟩
  · refine wpAny_Call_Name_kw (ld_glob I hg hm ?_ hdb)
    refine PySem.W.callWith_KW0 (h₀ := X.base) I.ok.mod.kin hkp hall (thn (pt.run pos pins s σ H _ I h) fun ws s2 ⟨zs, H2, I2, rz, l2, q2⟩ => ⟨I2.kIn, ?_⟩) hpl
    rw [hks]
    have b := hb s2 [] ws I2.kIn rfl (rz.length.symm.trans l2)
    rw [List.nil_append] at b
    exact run_fnNS Fk hr b (passAt tk σ) I2 (perm_vals rz ix) q2
  · refine qt F' O env σ H _ S ?_
    have w1 := Want.bind w
    unfold Want at w1 ⊢
    cases hv : mk env with
    | bad => rw [hv] at w1; exact w1
    | ex c fs e1 => rw [hv] at w1; exact w1
    | ok ds e1 =>
      rw [hv] at w1
      intro vs H1 S1 k1 l
      obtain ⟨h1, h2⟩ := hml env ds e1 hv
      exact ⟨l.len.trans h1, kw_wish F.nw F.le F.nb S S1 k1 (l.perm ix) h2 w1⟩
/-- f(e, .., k = v, ..) -/
theorem pd_callK (F : FnK X fl x N ps ms g n ks ix) (tk : Takes X Wx) (hg : Gl X x) (ha : AD X Wx (e :: es) mb) (hk : KD X Wx kws mk) (hml : ∀ e ds e', mb e = .ok ds e' → ds.length = n) (hml2 : ∀ e ds e', mk e = .ok ds e' → ds.length = ks.length) (hmp : ms.length = (perm ix (List.range (n + ks.length))).length) (hall : (backToKw pos (keywordEach kws X.env)).all (·.1.isSome) = true := by rfl) (hks : (backToKw pos (keywordEach kws X.env)).filterMap (·.1) = ks := by rfl)
    (hdb : (x == ("__debug__" : Str)) = false := by decide) (he : starEach (e :: es) X.env = (false, eval e X.env) :: starEach es X.env := by rfl) (hpl : ((backTo pos (starEach (e :: es) X.env)).any (·.1) || (backToKw pos (keywordEach kws X.env)).any (·.1.isNone)) = false := by rfl) : PD fl X Wx (.Call (.Name x p) (e :: es) kws pos) (eCallK g ix (aApp mb mk)) := by
  obtain ⟨k, f, fd, Fk, hr, hm, hkp, hb⟩ := F.ex
  obtain ⟨t, pt, qt⟩ := hk
  obtain ⟨ta, pta, qta⟩ := ha
  refine ⟨fun σ H Q => ta σ H fun vs H1 => t σ H1 fun zs H2 => vs.length = n ∧ zs.length = ks.length ∧ spD fl X.K N ms g (perm ix (vs ++ zs)) H2 Q (WE Wx σ), ⟨fun pins s σ H Q I h => ?_⟩, fun F' O env σ H Q S w => ?_⟩
  · refine wpAny_Call_Name_kw (ld_glob I hg hm ?_ hdb)
    refine PySem.W.callWith_KW (h₀ := X.base) I.ok.mod.kin hkp hall (thn (pta.run pos pins s σ H _ I h) fun us s1 ⟨vs, H1, I1, r, q⟩ => ?_) hpl he
    refine thn (pt.run pos pins s1 σ H1 _ I1 q) fun ws s2 ⟨zs, H2, I2, rz, l1, l2, q2⟩ => ⟨I2.kIn, ?_⟩
    rw [hks]
    exact run_fnNS Fk hr (hb s2 us ws I2.kIn (r.length.symm.trans l1) (rz.length.symm.trans l2)) (passAt tk σ) I2 (perm_vals (r.append rz) ix) q2
  · refine qta F' O env σ H _ S ?_
    have w1 := Want.bind (Want.bind w)
    have hwf := w1
    unfold Want at w1 ⊢
    cases hv : mb env with
    | bad => rw [hv] at w1; exact w1
    | ex c fs e1 => rw [hv] at w1; exact w1
    | ok ds e1 =>
      rw [hv] at w1
      intro vs H1 S1 k1 l
      refine qt F' O e1 σ H1 _ S1 ?_
      have w2 := Want.bind w1
      unfold Want at w2 ⊢
      cases hv2 : mk e1 with
      | bad => rw [hv2] at w2; exact w2
      | ex c fs e2 => rw [hv2] at w2; exact XW.later k1 _ _ _ w2
      | ok ds2 e2 =>
        rw [hv2] at w2
        intro vs2 H2 S2 k2 l2
        have h1 := hml env ds e1 hv
        have h2 := hml2 e1 ds2 e2 hv2
        refine ⟨l.len.trans h1, l2.len.trans h2, kw_wish F.nw F.le F.nb S S2 (k1.trans k2) (((l.mj k2).app l2).perm ix) ?_ w2⟩
        rw [hmp]
        exact perm_len ix (by rw [List.length_range, List.length_append, h1, h2])
end
end AH
namespace AH
open PySem PySem.Spec PyProof.Rows L2
/-! ### a, b = x, y -/
def allL : List (D ⊕ Nat) → Option (List D)
  | [] => some []
  | .inl d :: r => (allL r).map (d :: ·)
  | .inr _ :: _ => none
def parPut : List (Nat × Bool) → List D → Env → R Out
  | (i, false) :: r, x :: xs, e => if isFix (sl e i) then .bad else parPut r xs (put e i (.val x))
  | (i, true) :: r, .lst ys :: xs, e => if isFix (sl e i) || !decide (i < e.length) then .bad else parPut r xs (put e i (.own ys))
  | [], [], e => .ok .nx e
  | _, _, _ => .bad
def sPar (ts : List (Nat × Bool)) (as : List Arg) : DS := (argsV as).bind fun xs => match allL xs with
  | some ds => parPut ts ds
  | none => fun _ => .bad
def isNew : Arg → Bool
  | .new _ => true
  | _ => false
def setL (σ : L2.St) : List Nat → List V → L2.St
  | i :: r, v :: vs => setL (σ.set i (some v)) r vs
  | _, _ => σ
/-- the values to be stored: new lists, others -/
inductive PR (F : Fm) (O : Nat → Option Addr) (H : Hp) : List Bool → List V → List D → List Addr → Prop
  | nil : PR F O H [] [] [] []
  | val {bs : List Bool} {vs : List V} {ds : List D} {ps : List Addr} {v : V} {d : D} : Rep (Ow F O) H v d → PR F O H bs vs ds ps → PR F O H (false :: bs) (v :: vs) (d :: ds) ps
  | new {bs : List Bool} {vs : List V} {ds : List D} {ps : List Addr} {p : Addr} {us : List V} {ys : List D} : F.P p → F.N p → ¬ Jo O p → F.H0 p = none → p ∉ ps → H p = some (.lst us) → RepL (Ow F O) H us ys → PR F O H bs vs ds ps → PR F O H (true :: bs) (.ref p :: vs) (.lst ys :: ds) (p :: ps)
theorem pr_of {F : Fm} {O : Nat → Option Addr} {σ : L2.St} {H : Hp} {ms : List Md} {as : List Arg} {xs : List (D ⊕ Nat)} {vs : List V} {ps : List Addr} (ar : AR F O σ H ms as xs vs ps) : ∀ {ds : List D}, allL xs = some ds → PR F O H (as.map isNew) vs ds ps := by
  have cut : ∀ {d : D} {xs : List (D ⊕ Nat)} {ds : List D}, allL (.inl d :: xs) = some ds → ∃ ds', allL xs = some ds' ∧ ds = d :: ds' := fun {d xs ds} h => by
    unfold allL at h
    cases q : allL xs with
    | none => rw [q] at h; cases h
    | some ds' => rw [q] at h; cases h; exact ⟨ds', rfl, rfl⟩
  induction ar with
  | nil => intro ds h; cases h; exact .nil
  | val r ar ih => intro ds h; obtain ⟨ds', h1, rfl⟩ := cut h; exact .val r (ih h1)
  | rov r ar ih => intro ds h; obtain ⟨ds', h1, rfl⟩ := cut h; exact .val r (ih h1)
  | look r ar ih => intro ds h; cases h
  | lend r ar ih => intro ds h; cases h
  | new h1 h2 h3 h4 h5 h6 h7 ar ih => intro ds h; obtain ⟨ds', g1, rfl⟩ := cut h; exact .new h1 h2 h3 h4 h5 h6 h7 (ih g1)
/-- other owners, others kept apart -/
theorem PR.go {F F' : Fm} {O O' : Nat → Option Addr} {H : Hp} {bs : List Bool} {vs : List V} {ds : List D} {ps : List Addr} (r : PR F O H bs vs ds ps) (g : ∀ a, Ow F' O' a → Ow F O a) (h0 : F'.H0 = F.H0) : (∀ p ∈ ps, F.P p → F'.P p) → (∀ p ∈ ps, F.N p → F'.N p) → (∀ p ∈ ps, ¬ Jo O p → ¬ Jo O' p) → PR F' O' H bs vs ds ps := by
  induction r with
  | nil => intro _ _ _; exact .nil
  | val r l ih => intro a b c; exact .val (r.sub fun a z => .inl (g a z)) (ih a b c)
  | new h1 h2 h3 h4 h5 h6 h7 l ih =>
    intro a b c
    exact .new (a _ List.mem_cons_self h1) (b _ List.mem_cons_self h2) (c _ List.mem_cons_self h3) (by rw [h0]; exact h4) h5 h6 (h7.sub fun a z => .inl (g a z)) (ih (fun p hp => a p (List.mem_cons_of_mem _ hp)) (fun p hp => b p (List.mem_cons_of_mem _ hp)) fun p hp => c p (List.mem_cons_of_mem _ hp))
def Fm.rm (F : Fm) (p : Addr) : Fm := { F with P := fun a => F.P a ∧ a ≠ p, N := fun a => F.N a ∧ a ≠ p }
theorem rm_ad {F : Fm} {p : Addr} (h1 : F.P p) (h2 : F.N p) : (F.rm p).ad p = F := by
  obtain ⟨P, N, H0, ba⟩ := F
  show Fm.mk (fun a => (P a ∧ a ≠ p) ∨ a = p) (fun a => (N a ∧ a ≠ p) ∨ a = p) H0 ba = Fm.mk P N H0 ba
  have e1 : (fun a => (P a ∧ a ≠ p) ∨ a = p) = P := funext fun a => propext ⟨fun z => z.elim (·.1) fun z => by rw [z]; exact h1, fun z => by
    by_cases h : a = p
    · exact .inr h
    · exact .inl ⟨z, h⟩⟩
  have e2 : (fun a => (N a ∧ a ≠ p) ∨ a = p) = N := funext fun a => propext ⟨fun z => z.elim (·.1) fun z => by rw [z]; exact h2, fun z => by
    by_cases h : a = p
    · exact .inr h
    · exact .inl ⟨z, h⟩⟩
  rw [e1, e2]
theorem par_put {K : PySem.W.Frag} {H : Hp} : ∀ {ts : List (Nat × Bool)} {F1 : Fm} {O : Nat → Option Addr} {e e2 : Env} {σ : L2.St} {vs : List V} {ds : List D} {ps : List Addr} {o : Out}, SR K F1 O e σ H → PR F1 O H (ts.map (·.2)) vs ds ps → parPut ts ds e = .ok o e2 →
    o = .nx ∧ ∃ O' F2, SR K F2 O' e2 (setL σ (ts.map (·.1)) vs) H ∧ (F2.ba = F1.ba ∧ F2.H0 = F1.H0 ∧ (∀ a, F1.P a → a ∉ ps → F2.P a) ∧ (∀ a, F1.N a → a ∉ ps → F2.N a)) ∧ ∀ a, Jo O' a → Jo O a ∨ a ∈ ps
  | [], F1, O, e, e2, σ, vs, ds, ps, o, S, r, h => by
    cases r
    cases h
    exact ⟨rfl, O, F1, S, ⟨rfl, rfl, fun _ z _ => z, fun _ z _ => z⟩, fun _ z => .inl z⟩
  | (i, false) :: ts, F1, O, e, e2, σ, vs, ds, ps, o, S, r, h => by
    cases r with
    | @val _ vs' ds' _ v d r l =>
      unfold parPut at h
      cases hf : isFix (sl e i) with
      | true => simp [hf] at h
      | false =>
        simp only [hf] at h
        obtain ⟨ho, O', F2, S2, f, j⟩ := par_put (ts := ts) (S.setVal (i := i) r) (l.go (fun a z => ow_setN z) rfl (fun _ _ z => z) (fun _ _ z => z) fun _ _ n z => n (jo_setN z)) h
        exact ⟨ho, O', F2, S2, f, fun a z => (j a z).elim (fun z => .inl (jo_setN z)) .inr⟩
  | (i, true) :: ts, F1, O, e, e2, σ, vs, ds, ps, o, S, r, h => by
    cases r with
    | @new _ vs' ds' ps' p us ys h1 h2 h3 h4 h5 h6 h7 l =>
      unfold parPut at h
      cases hf : isFix (sl e i) || !decide (i < e.length) with
      | true => simp [hf] at h
      | false =>
        simp only [hf] at h
        obtain ⟨_, hlen⟩ := Bool.or_eq_false_iff.mp hf
        have hl : i < e.length := by simpa using hlen
        have eF := rm_ad h1 h2
        have S' : SR K ((F1.rm p).ad p) O e σ H := by rw [eF]; exact S
        have g : ∀ a, Ow (F1.rm p) (setO O i (some p)) a → Ow F1 O a := fun a z => by
          have := ow_setS z
          rw [eF] at this
          exact this
        have S1 := S'.setNew (i := i) (s := .own ys) h3 hl ⟨p, us, setO_same, ⟨h4, fun z => z.2 rfl⟩, rfl, h6, h7.sub fun a z => .inl (g a z)⟩
        obtain ⟨ho, O', F2, S2, ⟨f1, f2, f3, f4⟩, j⟩ := par_put (ts := ts) S1 (l.go (F' := F1.rm p) (O' := setO O i (some p)) g rfl (fun q hq z => ⟨z, fun e => h5 (e ▸ hq)⟩) (fun q hq z => ⟨z, fun e => h5 (e ▸ hq)⟩) fun q hq n z => (jo_setS z).elim n fun e => h5 (e ▸ hq)) h
        refine ⟨ho, O', F2, S2, ⟨f1, f2, fun a z n => f3 a ⟨z, fun e => n (by rw [e]; exact List.mem_cons_self)⟩ fun q => n (List.mem_cons_of_mem _ q), fun a z n => f4 a ⟨z, fun e => n (by rw [e]; exact List.mem_cons_self)⟩ fun q => n (List.mem_cons_of_mem _ q)⟩, fun a z => ?_⟩
        rcases j a z with z | z
        · rcases jo_setS z with z | z
          · exact .inl z
          · exact .inr (by rw [z]; exact List.mem_cons_self)
        · exact .inr (List.mem_cons_of_mem _ z)
section
variable {fl : Fl} {X : Cx} {Wx : WX} {e a b c d tg iter elt : Expr} {ma mb mc md : DE} {pos p : Pos} {st : Stmt} {rest : List Stmt} {m n : DS}
theorem par_of {es : List Expr} {ms : List Md} {as : List Arg} {ts : List (Nat × Bool)} (ha : ArgsD X Wx es ms as) (hk : as.map isNew = ts.map (·.2)) (hp : ∀ ta : TA, PA X es ta → PS X st (fun D σ H => ta σ H fun vs H1 => vs.length = ts.length ∧ D.nx (setL σ (ts.map (·.1)) vs) H1)) (hl : es.length = ts.length) (hml : ms.length = ts.length) : SD fl X Wx st (sPar ts as) := by
  obtain ⟨ta, pa, qa⟩ := ha
  refine ⟨_, hp ta pa, fun F O env σ H D S w => ?_⟩
  refine qa F O env σ H _ S ((Want.bind w).imp (fun xs e1 w1 vs F1 H1 ps x S1 k1 ar hq => ?_) XWs.xw)
  refine ⟨ar.len.trans hml, ?_⟩
  cases hx : allL xs with
  | none => rw [hx] at w1; exact w1.elim
  | some ds =>
    rw [hx] at w1
    have r := pr_of ar hx
    rw [hk] at r
    unfold Want at w1
    cases hpp : parPut ts ds e1 with
    | bad => simp only [hpp] at w1
    | ex c fs e2 =>
      exfalso
      have : ∀ (ts : List (Nat × Bool)) (ds : List AH.D) (e : Env) c fs e2, parPut ts ds e ≠ .ex c fs e2 := by
        intro ts
        induction ts with
        | nil => intro ds e c fs e2 h; cases ds <;> cases h
        | cons t ts ih =>
          intro ds e c fs e2 h
          obtain ⟨i, b⟩ := t
          cases b with
          | false => cases ds with
            | nil => cases h
            | cons d ds =>
              unfold parPut at h
              split at h
              · cases h
              · exact ih _ _ _ _ _ h
          | true => cases ds with
            | nil => cases h
            | cons d ds => cases d with
              | lst ys =>
                unfold parPut at h
                split at h
                · cases h
                · exact ih _ _ _ _ _ h
              | _ => cases h
      exact this _ _ _ _ _ _ hpp
    | ok o e2 =>
      simp only [hpp] at w1
      obtain ⟨rfl, O', F2, S2, ⟨f1, f2, f3, f4⟩, j⟩ := par_put S1 r hpp
      have ext : FX F F2 (fun _ => none) := ⟨f1.trans x.ba, f2.trans x.h0, fun a z => f3 a (x.p a z) fun q => S.prot a (.inl z) (hq a q), fun a z => f4 a (x.n a z) fun q => ?_, fun _ _ => .inr rfl, fun _ _ => .inr rfl⟩
      · exact w1 O' _ H1 (S2.down ext) ⟨k1, fun a z => (j a z).elim .inl fun z => .inr (hq a z)⟩
      · exact S.nal a z (hq a q)
theorem sd_par2 {i j : Nat} {bi bj : Bool} {x y : Str} {as : List Arg} {ms : List Md} {px py pt : Pos} {kt k2 pt2} (hc : X.calm = true) (hN : X.N.Nodup) (hi : X.N[i]? = some x) (hj : X.N[j]? = some y) (hij : i ≠ j) (hx : X.env.scope.names.lookup x = some .local) (hy : X.env.scope.names.lookup y = some .local)
    (ha : ArgsD X Wx [a, b] ms as) (hk : as.map isNew = [bi, bj]) (hml : ms.length = 2) (hw : swappedStores [.Tuple [.Name x px, .Name y py] kt pt] (.Tuple [a, b] k2 pt2) X.env = pure (some [x, y]) := by rfl) (hs : swapsWithSole [.Tuple [.Name x px, .Name y py] kt pt] (.Tuple [a, b] k2 pt2) pos.line X.env = pure false := by rfl) :
    SD fl X Wx (.Assign [.Tuple [.Name x px, .Name y py] kt pt] (.Tuple [a, b] k2 pt2) pos) (sPar [(i, bi), (j, bj)] as) :=
  par_of ha hk (fun ta pa => ⟨fun pins s σ H D I h => (ps_par hc hN hi hj hij hx hy pa hw hs).run pins s σ H D I (by
    have e : (fun (vs : List V) (H1 : Hp) => vs.length = 2 ∧ D.nx (setL σ [i, j] vs) H1) = fun vs H1 => ∃ v w, vs = [v, w] ∧ D.nx ((σ.set i (some v)).set j (some w)) H1 := by
      funext vs H1
      apply propext
      constructor
      · rintro ⟨hl, h⟩
        match vs, hl, h with
        | [v, w], _, h => exact ⟨v, w, rfl, h⟩
      · rintro ⟨v, w, rfl, h⟩
        exact ⟨rfl, h⟩
    have h : ta σ H (fun (vs : List V) (H1 : Hp) => vs.length = 2 ∧ D.nx (setL σ [i, j] vs) H1) := h
    rw [e] at h
    exact h)⟩) rfl hml
theorem sd_par3 {i j l : Nat} {bi bj bl : Bool} {x y z : Str} {as : List Arg} {ms : List Md} {px py pz pt : Pos} {kt k2 pt2} (hc : X.calm = true) (hN : X.N.Nodup) (hi : X.N[i]? = some x) (hj : X.N[j]? = some y) (hl : X.N[l]? = some z) (hij : i ≠ j) (hil : i ≠ l) (hjl : j ≠ l) (hx : X.env.scope.names.lookup x = some .local) (hy : X.env.scope.names.lookup y = some .local) (hz : X.env.scope.names.lookup z = some .local)
    (ha : ArgsD X Wx [a, b, c] ms as) (hk : as.map isNew = [bi, bj, bl]) (hml : ms.length = 3) (hw : swappedStores [.Tuple [.Name x px, .Name y py, .Name z pz] kt pt] (.Tuple [a, b, c] k2 pt2) X.env = pure (some [x, y, z]) := by rfl) (hs : swapsWithSole [.Tuple [.Name x px, .Name y py, .Name z pz] kt pt] (.Tuple [a, b, c] k2 pt2) pos.line X.env = pure false := by rfl) :
    SD fl X Wx (.Assign [.Tuple [.Name x px, .Name y py, .Name z pz] kt pt] (.Tuple [a, b, c] k2 pt2) pos) (sPar [(i, bi), (j, bj), (l, bl)] as) :=
  par_of ha hk (fun ta pa => ⟨fun pins s σ H D I h => (ps_par3 hc hN hi hj hl hij hil hjl hx hy hz pa hw hs).run pins s σ H D I (by
    have e : (fun (vs : List V) (H1 : Hp) => vs.length = 3 ∧ D.nx (setL σ [i, j, l] vs) H1) = fun vs H1 => ∃ u v w, vs = [u, v, w] ∧ D.nx (((σ.set i (some u)).set j (some v)).set l (some w)) H1 := by
      funext vs H1
      apply propext
      constructor
      · rintro ⟨hl, h⟩
        match vs, hl, h with
        | [u, v, w], _, h => exact ⟨u, v, w, rfl, h⟩
      · rintro ⟨u, v, w, rfl, h⟩
        exact ⟨rfl, h⟩
    have h : ta σ H (fun (vs : List V) (H1 : Hp) => vs.length = 3 ∧ D.nx (setL σ [i, j, l] vs) H1) := h
    rw [e] at h
    exact h)⟩) rfl hml
/-! ### enumerate -/
def iEnumL (a : DE) : DI := a.bind fun x => match x with
  | .lst xs => M.pure ((rng 0 xs.length).zip xs |>.map fun p => D.tup [p.1, p.2])
  | _ => fun _ => .bad
theorem rng0_get {n i : Nat} (h : i < n) : (rng 0 (n : Int))[i]? = some (.int i) := by
  unfold rng
  rw [List.getElem?_map, List.getElem?_range (by omega)]
  show some (D.int (0 + (i : Int))) = some (D.int i)
  rw [Int.zero_add]
theorem rng0_len {n : Nat} : (rng 0 (n : Int)).length = n := by
  unfold rng
  rw [List.length_map, List.length_range]
  omega
theorem id_enum {elts : List Expr} {kk : Nat} {tpos : Pos} (hb : Bn X "enumerate" (.type "enumerate")) (ha : PD .s X Wx a ma) (hs : starEach [a] X.env = [(false, eval a X.env)] := by rfl) (hs2 : starEach [a] X.env = (false, eval a X.env) :: starEach [] X.env := by rfl) :
    ID X Wx (.Tuple elts kk tpos) (.Call (.Name "enumerate" p) [a] [] pos) (iEnumL ma) := by
  obtain ⟨ta, pa, qa⟩ := ha
  refine ⟨_, pi_enum hb.gl hb.mg (pa_cons pa pa_nil hs2) hs, fun F O env σ H R S w => ?_⟩
  refine qa F O env σ H _ S (w.bind.imp (fun dx e1 w1 x H1 S1 k1 p1 => ?_) fun _ _ _ z => z)
  cases p1 with
  | lst n1 h1 l1 =>
    rename_i aa vs xs
    refine ⟨_, _, rfl, .inl (.inl h1), w1 _ H1 S1 k1 (wk_pair (walk_enum.mono (fun H k => .inl (.inl (k.stay _ _ n1 h1))) fun _ _ _ _ _ _ y => y) ?_ fun i d x y hd hx hy => ?_)⟩
    · rw [List.length_map, List.length_zip, rng0_len, l1.len]; omega
    · rw [List.getElem?_map] at hd
      cases hz : ((rng 0 (xs.length : Int)).zip xs)[i]? with
      | none => rw [hz] at hd; cases hd
      | some q =>
        rw [hz] at hd
        cases hd
        obtain ⟨q1, q2⟩ := List.getElem?_zip_eq_some.mp hz
        have hi : i < xs.length := (List.getElem?_eq_some_iff.mp q2).1
        rw [rng0_get hi] at q1
        obtain ⟨v, hv, r⟩ := l1.get q2
        rw [hy] at hv
        cases hv
        cases hx
        exact ⟨_, _, rfl, by rw [← Option.some.inj q1]; exact .int _, r⟩
  | _ => exact w1.elim
end
end AH
namespace HT
open PySem PySem.Spec PyProof.Rows
section
variable {prog : Program} {w : World} {A : Around} {E : Value → Shared → Prop} {s : Shared}
theorem sliceApplied_rev {sl : Addr} {vl vu vs : Value} {n : Nat} {Q : Int × Int × Nat → Shared → Prop} (hs : s.heap.IsSliceOf sl vl vu vs) (pl : IsPart vl none) (pu : IsPart vu none) (ps : IsPart vs (some (-1)))
    (h : Q ((n : Int) - 1, -1, n) s) : wpAny (model prog w) A (Builtin.Slice.sliceApplied (.ref sl) (pure (n : Int))) Q E s := by
  obtain ⟨os, hos, hcs, hds⟩ := id hs
  unfold Builtin.Slice.sliceApplied Builtin.Slice.sliceFields
  refine wpAny_bind (wpAny_bind (wpAny_field hos hds (x := vl) rfl (wpAny_bind (wpAny_field hos hds (x := vu) rfl (wpAny_bind (wpAny_field hos hds (x := vs) rfl (wpAny_pure ?_)))))))
  refine wpAny_bind (slicePart_ ps ?_)
  show wpAny _ _ (if ((-1 : Int) == 0) = true then _ else _) _ _ s
  rw [if_neg (by decide)]
  refine wpAny_bind (slicePart_ pl (wpAny_bind (slicePart_ pu (wpAny_bind (wpAny_pure ?_)))))
  show wpAny _ _ (pure ((n : Int) - 1, (-1 : Int), Builtin.Slice.slicePlaces ((n : Int) - 1) (-1) (-1))) _ _ s
  have e : Builtin.Slice.slicePlaces ((n : Int) - 1) (-1) (-1) = n := by
    unfold Builtin.Slice.slicePlaces
    rw [if_neg (by decide)]
    by_cases hn : n = 0
    · subst hn; decide
    · rw [if_pos (by omega)]
      have : ((n : Int) - 1 - -1 - 1) / (- -1) + 1 = n := by
        rw [show (- -1 : Int) = 1 by decide, Int.ediv_one]; omega
      rw [this]; rfl
  rw [e]
  exact wpAny_pure h
theorem getItem_tuple_rev {t sl : Addr} {items : Array Value} {vl vu vs : Value} {Q : Value → Shared → Prop} (ht : IsTup s.heap t items) (hs : s.heap.IsSliceOf sl vl vu vs) (pl : IsPart vl none) (pu : IsPart vu none) (ps : IsPart vs (some (-1)))
    (h : Q (.ref s.heap.objs.size) { s with heap := s.heap.push { cls := .type "tuple", data := .seq items.toList.reverse.toArray } })
    (hsz : items.size ≤ sizeLine) : wpAny (model prog w) A (getItem (.ref t) (.ref sl)) Q E s := by
  have htake : sizeOk (.seq items.toList.reverse.toArray) := by
    show items.toList.reverse.toArray.size ≤ sizeLine
    rw [List.size_toArray, List.length_reverse, Array.length_toList]
    exact hsz
  obtain ⟨os, hos, hcs, hds⟩ := id hs
  have hTs : s.TypeIs (.ref sl) "slice" := ⟨os, hos, hcs⟩
  unfold getItem
  try with_reducible refine wpAny_holding ?_
  first | refine wpAny_bind (wpAny_pure ?_) | skip
  refine wpAny_bind (wpAny_sequenceKey ht.typeIs (by decide) ?_)
  refine wpAny_bind (wpAny_callSpecial?_slot (name := Str.ofString "__getitem__") ht.typeIs PyProof.Rows.slot_tuple_getitem
    (wpAny_call_entry PyProof.Rows.slot_tuple_getitem ht.typeIs entry_tuple_getitem ?_ (args_tuple_getitem _ _)))
  show wpAny _ _ (Builtin.Tuple.tupleItemsOf (.ref t) >>= _) _ _ s
  refine wpAny_bind (tupleItemsOf_ ht ?_)
  refine wpAny_bind (wpAny_typeOf hTs ?_)
  rw [if_pos (by decide)]
  refine wpAny_bind (sliceApplied_rev hs pl pu ps ?_)
  have hno : ¬ (((((items.size : Int) - 1) == 0) && (-1 : Int) == 1 && items.size == items.size) = true) := by
    simp
  show wpAny _ _ (if ((((items.size : Int) - 1) == 0) && (-1 : Int) == 1 && items.size == items.size) = true then _ else _) _ _ s
  have pick : ((List.range items.size).filterMap fun (k : Nat) => items[(((items.size : Int) - 1) + (k : Int) * -1).toNat]?).toArray = items.toList.reverse.toArray := by
    have e : ((List.range items.size).filterMap fun (k : Nat) => items[(((items.size : Int) - 1) + (k : Int) * -1).toNat]?) = ((List.range items.size).map fun k => items.size - 1 - k).filterMap (items[·]?) := by
      rw [List.filterMap_map]
      have cg : ∀ (l : List Nat) (f g : Nat → Option Value), (∀ k ∈ l, f k = g k) → l.filterMap f = l.filterMap g := fun l f g h => by
        induction l with
        | nil => rfl
        | cons x l ih => rw [List.filterMap_cons, List.filterMap_cons, h x List.mem_cons_self, ih fun k hk => h k (List.mem_cons_of_mem _ hk)]
      refine cg _ _ _ fun k hk => ?_
      have := List.mem_range.mp hk
      show items[(((items.size : Int) - 1) + (k : Int) * -1).toNat]? = items[items.size - 1 - k]?
      have e : (((items.size : Int) - 1) + (k : Int) * -1).toNat = items.size - 1 - k := by omega
      rw [e]
    rw [e, PySem.W.krv_range, List.filterMap_reverse, PySem.W.krv_all]
  rw [if_neg hno, pick]
  first
    | exact wpAny_bind (m := Builtin.Tuple.tupleExact _) (wpAny_newObj_type (wpAny_pure ⟨_, rfl, wpAny_pure h⟩) htake)
    | exact wpAny_bind (m := Builtin.Tuple.tupleExact _) (wpAny_newObj_type (wpAny_bind (wpAny_pure (wpAny_pure ⟨_, rfl, wpAny_pure h⟩))) htake)
    | exact wpAny_bind (wpAny_bind (m := Builtin.Tuple.tupleExact _) (wpAny_newObj_type (wpAny_pure (wpAny_pure ⟨_, rfl, wpAny_pure h⟩)) htake))
    | exact wpAny_bind (wpAny_bind (m := Builtin.Tuple.tupleExact _) (wpAny_newObj_type (wpAny_pure ⟨_, rfl, wpAny_pure h⟩) htake))
end
end HT
namespace AH
open PySem PySem.Spec PyProof.Rows L2
section
variable {fl : Fl} {X : Cx} {Wx : WX} {e a b c d tg iter elt : Expr} {ma mb mc md : DE} {pos p : Pos} {st : Stmt} {rest : List Stmt} {m n : DS}
/-- xs[::-1] of a list or a tuple -/
def tRev (K : PySem.W.Frag) (te : TE) : TE := fun σ H Q => te σ H fun x H1 => ∃ a xs, x = .ref a ∧ ((SqL K H1 a xs ∧ ∀ p, H1 p = none → Q (.ref p) (upd H1 p (.lst xs.reverse))) ∨ (SqT K H1 a xs ∧ ∀ p, H1 p = none → Q (.ref p) (upd H1 p (.tup xs.reverse))))
theorem pe_rev {e : Expr} {te : TE} {k : Nat} {p1 p2 p3 pos : Pos} (he : PE X e te) : PE X (.Subscript e (.Slice none none (some (.UnaryOp .USub (.Constant (.int 1) k p1) p2)) p3) pos) (tRev X.K te) := by
  refine ⟨fun pins s σ H Q I h => ?_⟩
  refine Subscript_ (thn (he.run pins s σ H _ I h) fun v s1 ⟨x, H1, I1, r1, q1⟩ => ?_)
  obtain ⟨a, xs, ex, hx⟩ := q1
  subst ex
  cases r1
  have hst : PO X (some (.UnaryOp .USub (.Constant (.int 1) k p1) p2)) (tPart (tUn (rU fun i => .int (-i)) (tC (.int 1)))) := po_some (pe_un un_neg pe_int)
  refine wpAny_Slice (thn (po_none.run pins s1 σ H1 (fun o H2 => o = none ∧ H2 = H1) I1 ⟨rfl, rfl⟩) fun vl s2 ⟨l, H2, I2, pl, el, e2⟩ => ?_)
  subst el e2
  refine thn (po_none.run pins s2 σ H2 (fun o H3 => o = none ∧ H3 = H2) I2 ⟨rfl, rfl⟩) fun vu s3 ⟨u, H3, I3, pu, eu, e3⟩ => ?_
  subst eu e3
  refine thn (hst.run pins s3 σ H3 (fun o H4 => o = some (-1) ∧ H4 = H3) I3 ⟨1, rfl, -1, rfl, rfl, rfl⟩) fun vs s4 ⟨o, H4, I4, ps, eo, e4⟩ => ?_
  subst eo e4
  have I5 : Inv X pins σ H4 { s4 with heap := s4.heap.push { cls := .type "slice", data := .fields #[vl, vu, vs] } } := I4.kept (t' := s4.toks) fun b ob q => Heap.get?_push_of_some _ q
  show wpAny (model X.prog X.w) X.A (subscriptTail e (.Slice none none (some (.UnaryOp .USub (.Constant (.int 1) k p1) p2)) p3) (.ref a) (.ref s4.heap.objs.size)) (EP X pins σ Q) X.xe { s4 with heap := s4.heap.push { cls := .type "slice", data := .fields #[vl, vu, vs] } }
  rcases hx with ⟨hx, q⟩ | ⟨hx, q⟩
  · obtain ⟨its, r, ht, hz⟩ := I5.list hx
    have hlen := r.length
    refine tail_any (ops := [.ref a, .ref s4.heap.objs.size]) ht.isList.typeIs (PySem.slot_list_getitem.lookup) ?_ (by with_unfolding_all rfl)
    refine wpAny_getItem_list_slice ht.isList (Heap.IsSliceOf.new _ vl vu vs) pl pu ps (by decide) ?_ (by rw [List.size_toArray]; omega)
    rw [PySem.W.krv_pick]
    refine ⟨.ref _, _, I5.laid (t' := s4.toks) (o := .lst xs.reverse) (fun b ob q => Heap.get?_push_of_some _ q) (Nat.le_refl _) ?_, rfl, q _ (I5.hok.fresh (Nat.le_refl _))⟩
    exact ⟨by rw [List.length_reverse]; exact hz, _, 0, r.reverse, Heap.get?_push_size _ rfl⟩
  · obtain ⟨its, r, ht, hz⟩ := I5.tuple hx
    have hlen := r.length
    refine tail_any (ops := [.ref a, .ref s4.heap.objs.size]) ht.typeIs (PyProof.Rows.slot_tuple_getitem.lookup) ?_ (by with_unfolding_all rfl)
    refine HT.getItem_tuple_rev ht (Heap.IsSliceOf.new _ vl vu vs) pl pu ps ?_ (by rw [List.size_toArray]; omega)
    refine ⟨.ref _, _, I5.laid (t' := s4.toks) (o := .tup xs.reverse) (fun b ob q => Heap.get?_push_of_some _ q) (Nat.le_refl _) ?_, rfl, q _ (I5.hok.fresh (Nat.le_refl _))⟩
    exact ⟨by rw [List.length_reverse]; exact hz, _, r.reverse, IsTup.new _ _⟩
def dRev : D → Rv D
  | .lst xs => .ok (.lst xs.reverse)
  | .tup xs => .ok (.tup xs.reverse)
  | _ => .bad
theorem RepL.rev {W : Pr} {H : Hp} : ∀ {vs : List V} {xs : List D}, RepL W H vs xs → RepL W H vs.reverse xs.reverse
  | _, _, .nil => .nil
  | _, _, .cons r l => by
    rw [List.reverse_cons, List.reverse_cons]
    exact (RepL.rev l).app (.cons r .nil)
theorem pd_rev {k : Nat} {p1 p2 p3 : Pos} (ha : PD .s X Wx a ma) : PD .s X Wx (.Subscript a (.Slice none none (some (.UnaryOp .USub (.Constant (.int 1) k p1) p2)) p3) pos) (e1 dRev ma) := by
  obtain ⟨ta, pa, qa⟩ := ha
  refine ⟨_, pe_rev pa, fun F O env σ H Q S w => ?_⟩
  refine qa F O env σ H _ S (w.bind.imp (fun dx e1 w1 x H1 S1 k1 p1 => ?_) fun _ _ _ z => z)
  obtain ⟨dz, ef, q⟩ := w1.of
  cases p1 with
  | lst n1 h1 l1 =>
    cases ef
    exact ⟨_, _, rfl, .inl ⟨.inl (.inl h1), fun p hp => q _ _ (S1.new' hp) (k1.trans (Ke.new hp)) (.lst (S1.noW hp) upd_same (l1.rev.mono (Ke.new hp)))⟩⟩
  | tup n1 h1 l1 =>
    cases ef
    exact ⟨_, _, rfl, .inr ⟨.inl (.inl h1), fun p hp => q _ _ (S1.new' hp) (k1.trans (Ke.new hp)) (.tup (S1.noW hp) upd_same (l1.rev.mono (Ke.new hp)))⟩⟩
  | _ => cases ef
end
end AH
namespace AH
open PySem PySem.Spec PyProof.Rows L2
/-! ### a module's defs -/
/-- a def of the text by its name -/
def Fu (K : PySem.W.Frag) (mg : Str → Option Value) (x : Str) (st : Stmt) : Prop := ∃ (f : Addr) (fd : FuncData), FunD K x x (defArgs st) (defBody st) (defScope st) [] [] f fd ∧ mg x = some (.ref f)
/-- .. and what it is known to do -/
structure Kn (P : Program) (w : World) (K : PySem.W.Frag) (mg : Str → Option Value) (base : Heap) (fl : Fl) (x : Str) (st : Stmt) (N ps : List Str) (ms : List Md) (g : DF) (k : Nat) : Prop where
  ex : ∃ (f : Addr) (fd : FuncData), FnOk P w K mg base (L2.CX P w) k f fd ps (spD fl K N ms g) ∧ mg x = some (.ref f) ∧ FunD K x x (defArgs st) (defBody st) (defScope st) [] [] f fd ∧ Binds K fd ps []
  nw : fl ≠ .w
  le : ms.length ≤ N.length
def BindsOk (x : Str) (st : Stmt) (ps : List Str) : Prop := ∀ (kV doc pm : Value) (an : Option Addr) (cdv ct : Value) (us : List Value), us.length = ps.length → bindArgs (PySem.W.fnOf x x (defArgs st) (defBody st) (defScope st) .none kV doc pm an cdv ct) ⟨us, []⟩ = pure (ps.zip us)
def KBindsOk (x : Str) (st : Stmt) (ps : List Str) (n : Nat) (ks : List Str) (ix : List Nat) : Prop := ∀ (kV doc pm : Value) (an : Option Addr) (cdv ct : Value) (us ws : List Value), us.length = n → ws.length = ks.length → bindArgs (PySem.W.fnOf x x (defArgs st) (defBody st) (defScope st) .none kV doc pm an cdv ct) ⟨us, ks.zip ws⟩ = pure (ps.zip (perm ix (us ++ ws)))
section
variable {P : Program} {w : World} {K : PySem.W.Frag} {mg : Str → Option Value} {base : Heap} {fl : Fl} {x : Str} {st : Stmt} {N ps : List Str} {ms : List Md} {g : DF} {k : Nat} {m : DS}
/-- THE RULE for a def of the text -/
theorem kn_of (F : Fu K mg x st) (S : FnScope N ps (defScope st)) (hps : ps.length = ms.length) (hb : BindsOk x st ps) (hf : (fl = .s ∧ g = mkF N.length ms m) ∨ g = mkR N.length ms m)
    (hbody : ∀ (f : Addr) (cdv : Value) (A : Around) (outer : List PySem.Env) (s : Shared) (H : Hp) (E : XK), Room k (cxD P w K mg base N x (defScope st) f cdv A outer s H E).A → Takes (cxD P w K mg base N x (defScope st) f cdv A outer s H E) (fun cls d _ H => E cls d H) →
      PassesOwn (model P w) (cxD P w K mg base N x (defScope st) f cdv A outer s H E).A (cxD P w K mg base N x (defScope st) f cdv A outer s H E).env (cxD P w K mg base N x (defScope st) f cdv A outer s H E).xe →
      SsD fl (cxD P w K mg base N x (defScope st) f cdv A outer s H E) (fun cls d _ H => E cls d H) (defBody st) m) (hfl : fl ≠ .w := by simp) (hle : ms.length ≤ N.length := by simp) : Kn P w K mg base fl x st N ps ms g (k + 1) := by
  obtain ⟨f, fd, F, hm⟩ := F
  refine ⟨⟨f, fd, ?_, hm, F, F.bindsN hb⟩, hfl, hle⟩
  refine F.ok S (fun vs H Q E h => by rw [hps]; exact h.1) (fun cdv A outer s H vs Q E hr h => ?_)
  obtain ⟨hl, ds, F', O, SS, h0, hls, h⟩ := h
  obtain ⟨t, pt, qt⟩ := hbody f cdv A outer s H E hr (takes_of (E₁ := fun e' s'' => L2.CX P w outer H s E e' s'') rfl rfl rfl rfl) (passes_of (K := fun e s'' => L2.CX P w outer H s E e s'') (E₁ := fun e' s'' => L2.CX P w outer H s E e' s'') rfl)
  exact ⟨t, pt, qt F' O _ (L2.start N vs) H _ SS (body_wish (O := O) h0 hls hf h)⟩
theorem kn_bad (F : Fu K mg x st) (hps : ps.length = ms.length) (hb : BindsOk x st ps) (hfl : fl ≠ .w := by simp) (hle : ms.length ≤ N.length := by simp) : Kn P w K mg base fl x st N ps ms (fun _ => .bad) k := by
  obtain ⟨f, fd, F, hm⟩ := F
  exact ⟨⟨f, fd, fn_bad hps, hm, F, F.bindsN hb⟩, hfl, hle⟩
theorem Kn.fn {X : Cx} (F : Kn X.prog X.w X.K X.mg X.base fl x st N ps ms g k) {j : Nat} (hr : Room j X.A) (h : k ≤ j := by decide) : Fn X fl x N ps ms g := by
  obtain ⟨⟨f, fd, a, b, c, d⟩, e1, e2⟩ := F
  exact ⟨⟨k, f, fd, a, hr.mono h, b, c.kp, d⟩, e1, e2⟩
theorem Kn.fnK {X : Cx} {n : Nat} {ks : List Str} {ix : List Nat} (F : Kn X.prog X.w X.K X.mg X.base fl x st N ps ms g k) {j : Nat} (hr : Room j X.A) (hk : KBindsOk x st ps n ks ix) (nb : (ms.all fun m => m != .bor) = true := by decide) (h : k ≤ j := by decide) : FnK X fl x N ps ms g n ks ix := by
  obtain ⟨⟨f, fd, a, b, c, d⟩, e1, e2⟩ := F
  refine ⟨⟨k, f, fd, a, hr.mono h, b, c.kp, fun s us ws _ l1 l2 => ?_⟩, e1, e2, nb⟩
  obtain ⟨oc, od, dV, kV, doc, pm, an, cdv, ct, osl, rfl, lk, hcd, hD, hK⟩ := c.ex
  rcases hD with ⟨_, rfl⟩ | ⟨e, _⟩
  · exact .of_eq (hk kV doc pm an cdv ct us ws l1 l2)
  · exact absurd rfl e
end
theorem tkNone {X : Cx} : Takes X W0 := fun u s' ⟨_, _, _, _, _, _, _, _, _, _, _, _, _, _, _, _, w⟩ => w.elim
theorem room_u {k : Nat} {A : Around} (r : Room k A) : A.units + 65 < cLine := by have := r.un; omega
section
variable {X : Cx}
theorem bn_len (g : Gl X "len") (m : X.mg "len" = none) : Bn X "len" (.builtin "len") := ⟨g, m, boot_len, by decide, by decide⟩
theorem bn_any {x : Str} {u : Value} (g : Gl X x) (m : X.mg x = none) (b : bootBuiltins x = some u) (h1 : x ≠ "__name__" := by decide) (h2 : (x == ("__debug__" : Str)) = false := by decide) : Bn X x u := ⟨g, m, b, h1, h2⟩
end
end AH
namespace AH
open PySem PySem.Spec PyProof.Rows L2
/-! lengths of argument lists -/
theorem aLen0 {e : Env} {ds : List D} {e' : Env} (h : aNil e = .ok ds e') : ds.length = 0 := by cases h; rfl
theorem aLenS {a : DE} {r : DL} {n : Nat} (hr : ∀ (e : Env) ds e', r e = .ok ds e' → ds.length = n) (e : Env) (ds : List D) (e' : Env) (h : aCons a r e = .ok ds e') : ds.length = n + 1 := by
  unfold aCons M.bind at h
  cases q : a e with
  | ok x e1 =>
    rw [q] at h
    cases q2 : r e1 with
    | ok xs e2 =>
      simp only [q2] at h
      cases h
      rw [List.length_cons, hr _ _ _ q2]
    | ex c fs e2 => simp only [q2] at h; cases h
    | bad => simp only [q2] at h; cases h
  | ex c fs e1 => rw [q] at h; cases h
  | bad => rw [q] at h; cases h
theorem permL {ix : List Nat} {n : Nat} {ds : List D} (h : ds.length = n) {k : Nat} (hp : (perm ix (List.range n)).length = k) : k = (perm ix ds).length := by
  rw [← hp]
  exact perm_len ix (by rw [List.length_range, h])
end AH
namespace AH
open PySem PySem.Spec PyProof.Rows L2
theorem fund_eq {K : PySem.W.Frag} {x qual : Str} {params : Arguments} {body : List Stmt} {scope : Scope} {dvs dvs' : List V} {kws kws' : List (Str × V)} {f : Addr} {fd fd' : FuncData} (a : FunD K x qual params body scope dvs kws f fd) (b : FunD K x qual params body scope dvs' kws' f fd') : fd = fd' := by
  obtain ⟨oc, od, dV, kV, doc, pm, an, cdv, ct, osl, e1, lk, _⟩ := a.ex
  obtain ⟨oc', od', dV', kV', doc', pm', an', cdv', ct', osl', e2, lk', _⟩ := b.ex
  rw [lk] at lk'
  injection lk' with z
  injection z with z1 z2 z3 z4
  injection z3
/-- the end of a law, whatever its defs may let out -/
theorem walk_ofW {l : PySem.W.OpenLaw} {n k : Nat} {q : Program} {loose : List Str} {XP : (Str → Option Value) → Heap → Prop} {YP : World → Heap → Prop} {d : DefRec} {x : Str}
    (hn : l.most = some n) (hn2 : n ≤ sizeLine) (hdf : d.params.defaults = []) (hr : Room k callerA)
    (F : ∀ (w : World) (mg : Str → Option Value) (fa : Addr) (h : Heap), YP w h → h.Ns mainGlobals mg → mg d.name = some (.ref fa) →
      ∃ (K : PySem.W.Frag) (fd : FuncData) (sp : Sp), K.In h ∧ (∀ (s : Shared) (u : Value), BindsTo s fd ⟨[u], []⟩ [(x, u)]) ∧ (∀ (H : Hp) (a : Addr) (ns : List Int), ns.length ≤ n → Only H → SqL K H a (ns.map V.int) → sp [.ref a] H (fun v _ => v = .bl true) fun _ _ _ => False) ∧
        ∀ base : Heap, K.In base → base.Ns mainGlobals mg → FnOk l.prog w K mg base (L2.CX l.prog w) k fa fd [x] sp) : PySem.W.WalkO q loose XP YP l.row.toRowW d [] (fun f vs => PySem.call f vs) := by
  refine Att.attach_call hn hdf fun w s₀ s₁ mg mb fa o pm cd doc a vs ns G Y ho hd hcd hmg hobj hints hlen hg => ?_
  obtain ⟨K, fd, sp, KX, hb, hsp, hF⟩ := F w mg fa _ Y G.T.g hmg
  refine law_call KX G.T.g G.T.b G.T.builtins G.T.nolimit hg hobj hints (Nat.le_trans hlen hn2) hr hF hb (fun H hO hS => hsp H a ns hlen hO hS) fun H e s' c => ?_
  obtain ⟨_, _, _, _, _, _, _, _, _, _, _, _, z⟩ := c
  exact z
end AH
namespace AH
open PySem L2
/-! ### what a run comes to -/
def Run {α : Type} (m : M α) (e : Env) (Q : α → Env → Prop) : Prop := match m e with
  | .ok a e1 => Q a e1
  | _ => False
theorem run_ok {α : Type} {m : M α} {e : Env} {Q : α → Env → Prop} {a : α} {e1 : Env} (h : m e = .ok a e1) (q : Q a e1) : Run m e Q := by
  unfold Run; rw [h]; exact q
theorem Run.of {α : Type} {m : M α} {e : Env} {Q : α → Env → Prop} (h : Run m e Q) : ∃ a e1, m e = .ok a e1 ∧ Q a e1 := by
  unfold Run at h
  cases q : m e with
  | ok a e1 => rw [q] at h; exact ⟨a, e1, rfl, h⟩
  | ex c fs e1 => rw [q] at h; exact h.elim
  | bad => rw [q] at h; exact h.elim
theorem Run.imp {α : Type} {m : M α} {e : Env} {Q Q' : α → Env → Prop} (h : Run m e Q) (q : ∀ a e1, Q a e1 → Q' a e1) : Run m e Q' := by
  obtain ⟨a, e1, h1, h2⟩ := h.of
  exact run_ok h1 (q a e1 h2)
theorem run_bind {α β : Type} {m : M α} {f : α → M β} {e : Env} {Q : β → Env → Prop} (h : Run m e fun a e1 => Run (f a) e1 Q) : Run (m.bind f) e Q := by
  obtain ⟨a, e1, h1, h2⟩ := h.of
  unfold Run M.bind
  rw [h1]
  exact h2
theorem bind_ok {α β : Type} {m : M α} {f : α → M β} {e e1 : Env} {a : α} (h : m e = .ok a e1) : (m.bind f) e = f a e1 := by
  unfold M.bind; rw [h]
theorem run_seq {a b : DS} {e : Env} {Q : Out → Env → Prop} (h : Run a e fun o e1 => (o = .nx ∧ Run b e1 Q) ∨ (o ≠ .nx ∧ Q o e1)) : Run (sSeq a b) e Q := by
  refine run_bind (h.imp fun o e1 h => ?_)
  rcases h with ⟨rfl, h⟩ | ⟨h, q⟩
  · exact h
  · cases o with
    | nx => exact absurd rfl h
    | _ => exact q
theorem seq_nx {a b : DS} {e e1 : Env} (h : a e = .ok .nx e1) : sSeq a b e = b e1 := by
  unfold sSeq M.bind; rw [h]
theorem seq_rt {a b : DS} {e e1 : Env} {d : D} (h : a e = .ok (.rt d) e1) : sSeq a b e = .ok (.rt d) e1 := by
  unfold sSeq M.bind; rw [h]; rfl
theorem if_ok1 {t : DT} {a b : DS} {e e1 : Env} {k : Bool} (h : t e = .ok k e1) : sIf t a b e = if k then a e1 else b e1 := by
  unfold sIf M.bind; rw [h]; cases k <;> rfl
/-! ### the words, run -/
section
variable {α β : Type} {e : Env} {i j : Nat} {a b c d : DE} {t u : DT} {x y : D} {xs ys : List D} {m n : DS} {g : DG}
@[simp] theorem x_bind {m : M α} {f : α → M β} : M.bind m f e = (match m e with | .ok a e1 => f a e1 | .ex c fs e1 => .ex c fs e1 | .bad => .bad) := rfl
@[simp] theorem x_pure {a : α} : M.pure a e = .ok a e := rfl
@[simp] theorem x_of1 {a : α} : M.of (.ok a) e = .ok a e := rfl
@[simp] theorem x_of2 : (M.of (.bad : Rv α)) e = .bad := rfl
@[simp] theorem x_var : eVar i e = (match sl e i with | .val d => .ok d e | _ => .bad) := rfl
@[simp] theorem x_tmp : eTmp i e = (match sl e i with | .val d => .ok d e | .ro d => .ok d e | .own xs => .ok (.lst xs) e | .bor xs => .ok (.lst xs) e | .odc kvs => .ok (.dic kvs) e | .ldc kvs => .ok (.dic kvs) e | .no => .bad) := rfl
@[simp] theorem x_c : eC x e = .ok x e := rfl
@[simp] theorem x_sl0 {s : Sl} : sl (s :: e) 0 = s := rfl
@[simp] theorem x_slS {s : Sl} : sl (s :: e) (i + 1) = sl e i := rfl
@[simp] theorem x_put0 {s s' : Sl} : put (s :: e) 0 s' = s' :: e := rfl
@[simp] theorem x_putS {s s' : Sl} : put (s :: e) (i + 1) s' = s :: put e i s' := rfl
@[simp] theorem x_e2 {f : D → D → Rv D} : e2 f a b e = M.bind a (fun x => M.bind b fun y => M.of (f x y)) e := rfl
@[simp] theorem x_e1 {f : D → Rv D} : e1 f a e = M.bind a (fun x => M.of (f x)) e := rfl
@[simp] theorem x_e2L {f : D → D → Rv D} : e2L f i b e = M.bind (eTmp i) (fun _ => M.bind b fun y => M.bind (eTmp i) fun x => M.of (f x y)) e := rfl
@[simp] theorem x_c2 {f : D → D → Rv Bool} : c2 f a b e = M.bind a (fun x => M.bind b fun y => M.of (f x y)) e := rfl
@[simp] theorem x_c2L {f : D → D → Rv Bool} : c2L f i b e = M.bind (eTmp i) (fun _ => M.bind b fun y => M.bind (eTmp i) fun x => M.of (f x y)) e := rfl
@[simp] theorem x_eB : eB t e = M.bind t (fun b => M.pure (.bl b)) e := rfl
@[simp] theorem x_tV : tV a e = M.bind a (fun x => match x with | .bl b => M.pure b | _ => fun _ => .bad) e := rfl
@[simp] theorem x_tNot : tNot t e = M.bind t (fun b => M.pure (!b)) e := rfl
@[simp] theorem x_tAnd : AH.tAnd t u e = M.bind t (fun x => if x then u else M.pure false) e := rfl
@[simp] theorem x_tOr : AH.tOr t u e = M.bind t (fun x => if x then M.pure true else u) e := rfl
@[simp] theorem x_tIsN : tIsN a e = M.bind a (fun x => M.pure (dIsN x)) e := rfl
@[simp] theorem x_tNotN : tNotN a e = M.bind a (fun x => M.pure (!dIsN x)) e := rfl
@[simp] theorem x_c3 {f g : D → D → Rv Bool} : c3 f g a b c e = M.bind a (fun x => M.bind b fun y => (M.of (f x y)).bind fun k => if k then M.bind c fun z => M.of (g y z) else M.pure false) e := rfl
@[simp] theorem x_eIf : eIf t a b e = M.bind t (fun k => if k then a else b) e := rfl
@[simp] theorem x_eAnd : eAnd a b e = M.bind (tV a) (fun k => if k then b else M.pure (.bl false)) e := rfl
@[simp] theorem x_eOr : eOr a b e = M.bind (tV a) (fun k => if k then M.pure (.bl true) else b) e := rfl
@[simp] theorem x_eNot : eNot a e = M.bind (tV a) (fun k => M.pure (.bl (!k))) e := rfl
@[simp] theorem x_eOrT : eOrT a b e = M.bind a (fun x => (M.of (truth x)).bind fun k => if k then M.pure x else b) e := rfl
@[simp] theorem x_aNil : aNil e = .ok [] e := rfl
@[simp] theorem x_aCons {r : DL} : aCons a r e = M.bind a (fun x => M.bind r fun xs => M.pure (x :: xs)) e := rfl
@[simp] theorem x_eTup {r : DL} : eTup r e = M.bind r (fun xs => if lenOk xs.length then M.pure (.tup xs) else fun _ => .bad) e := rfl
@[simp] theorem x_eLst {r : DL} : eLst r e = M.bind r (fun xs => if lenOk xs.length then M.pure (.lst xs) else fun _ => .bad) e := rfl
@[simp] theorem x_oNone : oNone e = .ok none e := rfl
@[simp] theorem x_oSome : oSome a e = M.bind a (fun x => match x with | .int i => M.pure (some i) | _ => fun _ => .bad) e := rfl
@[simp] theorem x_eSl {lo hi : DO} : eSl a lo hi e = M.bind a (fun x => M.bind lo fun l => M.bind hi fun h => M.of (dSl x l h)) e := rfl
@[simp] theorem x_eSlN {lo hi : DO} : eSlN i lo hi e = M.bind (eTmp i) (fun _ => M.bind lo fun l => M.bind hi fun h => M.bind (eTmp i) fun x => M.of (dSlL x l h)) e := rfl
@[simp] theorem x_isi {t : Ty} : eIsi t a e = M.bind a (fun x => M.pure (.bl (isi t x))) e := rfl
@[simp] theorem x_isi2 {t u : Ty} : eIsi2 t u a e = M.bind a (fun x => M.pure (.bl (isi t x || isi u x))) e := rfl
@[simp] theorem x_iSeq : iSeq a e = M.bind a (fun x => match x with | .lst xs => M.pure xs | .tup xs => M.pure xs | _ => fun _ => .bad) e := rfl
@[simp] theorem x_iZip : AH.iZip a b e = M.bind a (fun x => M.bind b fun y => match x, y with | .lst xs, .lst ys => M.pure (pairs xs ys) | .tup xs, .tup ys => M.pure (pairs xs ys) | _, _ => fun _ => .bad) e := rfl
@[simp] theorem x_gN : gN i x e = if isOwn (sl e i) then .bad else .ok () (put e i (.val x)) := rfl
@[simp] theorem x_gsNil : gsNil [] e = .ok () e := rfl
@[simp] theorem x_gsCons {r : DGs} : gsCons g r (x :: xs) e = M.bind (g x) (fun _ => r xs) e := rfl
@[simp] theorem x_gT1 {r : DGs} : gT r (.tup xs) e = r xs e := rfl
@[simp] theorem x_gT2 {r : DGs} : gT r (.lst xs) e = r xs e := rfl
@[simp] theorem x_sNil : sNil e = .ok .nx e := rfl
@[simp] theorem x_sSeq : sSeq m n e = (match m e with | .ok .nx e1 => n e1 | .ok o e1 => .ok o e1 | .ex c fs e1 => .ex c fs e1 | .bad => .bad) := by
  unfold sSeq M.bind
  cases m e with
  | ok o e1 => cases o <;> rfl
  | _ => rfl
@[simp] theorem x_sAsg : sAsg a g e = M.bind a (fun x => M.bind (g x) fun _ => M.pure .nx) e := rfl
@[simp] theorem x_sAsgN : sAsgN i a e = M.bind a (fun x => fun e => if isFix (sl e i) then .bad else .ok .nx (put e i (.val x))) e := rfl
@[simp] theorem x_sOwn : sOwn i a e = M.bind a (fun x => match x with | .lst xs => fun e => if isFix (sl e i) || !decide (i < e.length) then .bad else .ok .nx (put e i (.own xs)) | _ => fun _ => .bad) e := rfl
@[simp] theorem x_sRelL : sRelL i e = (match sl e i with | .own xs => .ok .nx (put e i (.val (.lst xs))) | _ => .bad) := rfl
@[simp] theorem x_sIf : sIf t m n e = M.bind t (fun k => if k then m else n) e := rfl
@[simp] theorem x_sRet : sRet a e = M.bind a (fun x => M.pure (.rt x)) e := rfl
@[simp] theorem x_sRetN : sRetN e = .ok (.rt .non) e := rfl
@[simp] theorem x_sRetO : sRetO i e = (match sl e i with | .own xs => .ok (.rt (.lst xs)) e | _ => .bad) := rfl
@[simp] theorem x_sExpr : sExpr a e = M.bind a (fun _ => M.pure .nx) e := rfl
@[simp] theorem x_ownL : ownL i e = (match sl e i with | .own xs => .ok xs e | .bor xs => .ok xs e | _ => .bad) := rfl
@[simp] theorem x_sApp : sApp i a e = M.bind (ownL i) (fun _ => M.bind a fun x => M.bind (ownL i) fun xs => fun e => if lenOk (xs.length + 1) then .ok .nx (putL e i (xs ++ [x])) else .bad) e := rfl
@[simp] theorem x_sSetL : sSetL i a b e = M.bind b (fun x => M.bind (ownL i) fun _ => M.bind a fun k => M.bind (ownL i) fun xs => match k with | .int k => (match ixN xs.length k with | some n => fun e => .ok .nx (putL e i (xs.set n x)) | none => fun _ => .bad) | _ => fun _ => .bad) e := rfl
@[simp] theorem x_sFor {it : DI} : sFor it g m e = M.bind it (fun xs => loop g m xs) e := rfl
@[simp] theorem x_putL : putL e i ys = put e i (match sl e i with | .own _ => .own ys | .bor _ => .bor ys | s => s) := rfl
@[simp] theorem x_isFix1 : isFix .no = false := rfl
@[simp] theorem x_isFix2 : isFix (.val x) = false := rfl
@[simp] theorem x_isFix3 : isFix (.own xs) = false := rfl
@[simp] theorem x_isFix4 : isFix (.ro x) = false := rfl
@[simp] theorem x_isOwn1 : isOwn .no = false := rfl
@[simp] theorem x_isOwn2 : isOwn (.val x) = false := rfl
@[simp] theorem x_isOwn3 : isOwn (.ro x) = false := rfl
@[simp] theorem x_yes : tYes e = .ok true e := rfl
@[simp] theorem x_isN1 : dIsN .non = true := rfl
@[simp] theorem x_ix0 : atI (x :: xs) 0 = some x := by
  unfold atI ixN; simp
@[simp] theorem x_ix1 : atI (x :: y :: xs) 1 = some y := by
  have h : ixN (x :: y :: xs).length 1 = some 1 := by unfold ixN; rw [if_pos (by decide), if_pos (by simp; omega)]; rfl
  unfold atI; rw [h]; rfl
@[simp] theorem x_ix2 {z : D} : atI (x :: y :: z :: xs) 2 = some z := by
  have h : ixN (x :: y :: z :: xs).length 2 = some 2 := by unfold ixN; rw [if_pos (by decide), if_pos (by simp; omega)]; rfl
  unfold atI; rw [h]; rfl
end
theorem rng1_ok {a : DE} {e e1 : Env} {j : Int} (ha : a e = .ok (.int j) e1) (h : rngOk 0 j = true) : AH.iRng1 a e = .ok (rng 0 j) e1 := by
  unfold AH.iRng1
  rw [bind_ok ha]
  show (if rngOk 0 j = true then M.pure (rng 0 j) else fun _ => .bad) e1 = _
  rw [if_pos h]
  rfl
theorem rng2_ok {a b : DE} {e e1 e2 : Env} {i j : Int} (ha : a e = .ok (.int i) e1) (hb : b e1 = .ok (.int j) e2) (h : rngOk i j = true) : AH.iRng2 a b e = .ok (rng i j) e2 := by
  unfold AH.iRng2
  rw [bind_ok ha, bind_ok hb]
  show (if rngOk i j = true then M.pure (rng i j) else fun _ => .bad) e2 = _
  rw [if_pos h]
  rfl
/-- a loop that goes on to its end -/
theorem run_loop {g : DG} {b : DS} (I : List D → Env → Prop) : ∀ {xs : List D} {e : Env}, I xs e → (∀ x r e, x ∈ xs → I (x :: r) e → Run (g x) e fun _ e1 => Run b e1 fun o e2 => (o = .nx ∨ o = .ct) ∧ I r e2) → Run (loop g b xs) e fun o e2 => o = .nx ∧ I [] e2
  | [], e, h, _ => run_ok (a := .nx) (e1 := e) rfl ⟨rfl, h⟩
  | x :: xs, e, h, st => by
    refine run_bind ((st x xs e List.mem_cons_self h).imp fun _ e1 h1 => run_bind (h1.imp fun o e2 h2 => ?_))
    obtain ⟨ho, hI⟩ := h2
    have ih := run_loop I hI fun y r e hy => st y r e (List.mem_cons_of_mem _ hy)
    rcases ho with rfl | rfl <;> exact ih
/-! ### comprehensions that change nothing -/
theorem back_wipe (e : Env) : ∀ vs : List Nat, back e (wipeE e vs) vs = e := fun vs => by
  apply List.ext_getElem?
  intro j
  have sl_eq : ∀ (a b : Env), a.length = b.length → (∀ j, sl a j = sl b j) → a = b := by
    intro a
    induction a with
    | nil => intro b h _; cases b with
      | nil => rfl
      | cons _ _ => cases h
    | cons x a ih => intro b h hs; cases b with
      | nil => cases h
      | cons y b =>
        have e0 : x = y := hs 0
        rw [e0, ih b (by simpa using h) fun j => hs (j + 1)]
  have l1 : (wipeE e vs).length = e.length := put_len' e vs
  rw [sl_eq (back e (wipeE e vs) vs) e (by rw [back_len, l1]) fun j => by
    rw [sl_back l1.symm, sl_wipe]
    split <;> rfl]
theorem compL_pure {vs : List Nat} {e0 ew : Env} {g : DG} {t : DT} {a : DE} (f : D → Option D) : ∀ {xs : List D}, (∀ x ∈ xs, ∃ e1, g x ew = .ok () e1 ∧ wipeE e1 vs = ew ∧ ((t e1 = .ok false e1 ∧ f x = none) ∨ ∃ y, t e1 = .ok true e1 ∧ a e1 = .ok y e1 ∧ f x = some y)) → compL vs e0 g t a xs ew = .ok (xs.filterMap f) ew
  | [], _ => rfl
  | x :: xs, h => by
    obtain ⟨e1, h1, h2, h3⟩ := h x List.mem_cons_self
    have ih := compL_pure (e0 := e0) f fun y hy => h y (List.mem_cons_of_mem _ hy)
    unfold compL
    rw [bind_ok h1, List.filterMap_cons]
    rcases h3 with ⟨h3, h4⟩ | ⟨y, h3, h4, h5⟩
    · rw [bind_ok h3, h4]
      show ((compL vs e0 g t a xs).bind fun zs => M.pure ([] ++ zs)) (wipeE e1 vs) = _
      rw [h2, bind_ok ih]
      rfl
    · rw [bind_ok h3, h5]
      show (((a.bind fun y => M.pure [y])).bind fun ys => fun e1 => ((compL vs e0 g t a xs).bind fun zs => M.pure (ys ++ zs)) (wipeE e1 vs)) e1 = _
      rw [bind_ok (show (a.bind fun y => M.pure [y]) e1 = .ok [y] e1 by rw [bind_ok h4]; rfl), h2, bind_ok ih]
      rfl
theorem eLc_pure {vs : List Nat} {it : DI} {g : DG} {t : DT} {a : DE} {e : Env} {xs : List D} (f : D → Option D) (hi : it e = .ok xs e) (hv : (vs.any fun v => isOwn (sl e v)) = false) (hl : xs.length ≤ 100000)
    (h : ∀ x ∈ xs, ∃ e1, g x (wipeE e vs) = .ok () e1 ∧ wipeE e1 vs = wipeE e vs ∧ ((t e1 = .ok false e1 ∧ f x = none) ∨ ∃ y, t e1 = .ok true e1 ∧ a e1 = .ok y e1 ∧ f x = some y)) : eLc vs it g t a e = .ok (.lst (xs.filterMap f)) e := by
  unfold eLc
  rw [bind_ok hi]
  have hl' : lenOk xs.length = true := decide_eq_true hl
  simp only [hv, hl', Bool.not_true, Bool.or_self]
  unfold noX
  rw [compL_pure (e0 := e) f h]
  show R.ok (D.lst (xs.filterMap f)) (back e (wipeE e vs) vs) = _
  rw [back_wipe]
/-- .. without a test -/
theorem eLc_map {vs : List Nat} {it : DI} {g : DG} {a : DE} {e : Env} {xs : List D} (f : D → D) (hi : it e = .ok xs e) (hv : (vs.any fun v => isOwn (sl e v)) = false) (hl : xs.length ≤ 100000)
    (h : ∀ x ∈ xs, ∃ e1, g x (wipeE e vs) = .ok () e1 ∧ wipeE e1 vs = wipeE e vs ∧ a e1 = .ok (f x) e1) : eLc vs it g tYes a e = .ok (.lst (xs.map f)) e := by
  rw [eLc_pure (fun x => some (f x)) hi hv hl fun x hx => ?_]
  · rw [List.filterMap_eq_map']
  · obtain ⟨e1, h1, h2, h3⟩ := h x hx
    exact ⟨e1, h1, h2, .inr ⟨f x, rfl, h3, rfl⟩⟩
/-! ### calls with plain arguments -/
theorem call_ok {f : DF} {as : List Arg} {e e1 e2 : Env} {xs : List (D ⊕ Nat)} {ds : List D} {d : D} {bs : List (List D)} (h1 : argsV as e = .ok xs e1) (h2 : (lends as).all (fun i => isL (sl e1 i)) = true) (h3 : argsD e1 xs = some ds) (h4 : f ds = .ok d bs) (h5 : giveBack as bs e1 = some e2) : eCall f as e = .ok d e2 := by
  unfold eCall
  simp only [h1, h2, h3, h4, h5, Bool.not_true, Bool.false_eq_true, if_false]
theorem args_e {a : DE} {as : List Arg} {e e1 e2 : Env} {x : D} {xs : List (D ⊕ Nat)} (h : a e = .ok x e1) (hr : argsV as e1 = .ok xs e2) : argsV (.e a :: as) e = .ok (.inl x :: xs) e2 := by
  unfold argsV; rw [bind_ok h, bind_ok hr]; rfl
theorem args_new {a : DE} {as : List Arg} {e e1 e2 : Env} {x : D} {xs : List (D ⊕ Nat)} (h : a e = .ok x e1) (hr : argsV as e1 = .ok xs e2) : argsV (.new a :: as) e = .ok (.inl x :: xs) e2 := by
  unfold argsV; rw [bind_ok h, bind_ok hr]; rfl
theorem args_lend {i : Nat} {as : List Arg} {e e2 : Env} {x : D} {xs : List (D ⊕ Nat)} (h : eTmp i e = .ok x e) (hr : argsV as e = .ok xs e2) : argsV (.lend i :: as) e = .ok (.inr i :: xs) e2 := by
  unfold argsV; rw [bind_ok h, bind_ok hr]; rfl
theorem args_look {i : Nat} {as : List Arg} {e e2 : Env} {x : D} {xs : List (D ⊕ Nat)} (h : eTmp i e = .ok x e) (hr : argsV as e = .ok xs e2) : argsV (.look i :: as) e = .ok (.inr i :: xs) e2 := by
  unfold argsV; rw [bind_ok h, bind_ok hr]; rfl
theorem call1 {f : DF} {a : DE} {e e1 : Env} {x r : D} (ha : a e = .ok x e1) (hf : f [x] = .ok r []) : eCall f [.e a] e = .ok r e1 := call_ok (args_e ha rfl) rfl rfl hf rfl
theorem call2 {f : DF} {a b : DE} {e e1 e2 : Env} {x y r : D} (ha : a e = .ok x e1) (hb : b e1 = .ok y e2) (hf : f [x, y] = .ok r []) : eCall f [.e a, .e b] e = .ok r e2 := call_ok (args_e ha (args_e hb rfl)) rfl rfl hf rfl
theorem call3 {f : DF} {a b c : DE} {e e1 e2 e3 : Env} {x y z r : D} (ha : a e = .ok x e1) (hb : b e1 = .ok y e2) (hc : c e2 = .ok z e3) (hf : f [x, y, z] = .ok r []) : eCall f [.e a, .e b, .e c] e = .ok r e3 := call_ok (args_e ha (args_e hb (args_e hc rfl))) rfl rfl hf rfl
theorem mkF_rt {n : Nat} {ms : List Md} {b : DS} {ds : List D} {d : D} {e : Env} {bs : List (List D)} (h1 : lstsOk ms ds = true) (h2 : b (startE ms ds ++ List.replicate (n - ms.length) .no) = .ok (.rt d) e) (h3 : lentOf ms e = some bs) : mkF n ms b ds = .ok d bs := by
  unfold mkF
  simp only [h1, h2, h3, Bool.not_true, Bool.false_eq_true, if_false]
theorem mkR_rt {n : Nat} {ms : List Md} {b : DS} {ds : List D} {d : D} {e : Env} {bs : List (List D)} (h1 : lstsOk ms ds = true) (h2 : b (startE ms ds ++ List.replicate (n - ms.length) .no) = .ok (.rt d) e) (h3 : lentOf ms e = some bs) : mkR n ms b ds = .ok d bs := by
  unfold mkR
  simp only [h1, h2, h3, Bool.not_true, Bool.false_eq_true, if_false]
theorem for_ok {it : DI} {g : DG} {b : DS} {e e1 e2 : Env} {xs : List D} {o : Out} (h1 : it e = .ok xs e1) (h2 : loop g b xs e1 = .ok o e2) : sFor it g b e = .ok o e2 := by
  unfold sFor
  rw [bind_ok h1]
  exact h2
theorem ret_ok {a : DE} {e e1 : Env} {x : D} (h : a e = .ok x e1) : sRet a e = .ok (.rt x) e1 := by
  unfold sRet
  rw [bind_ok h]
  rfl
theorem asg_ok {i : Nat} {a : DE} {e e1 : Env} {x : D} (h : a e = .ok x e1) (hf : isFix (sl e1 i) = false) : sAsgN i a e = .ok .nx (put e1 i (.val x)) := by
  unfold sAsgN
  rw [bind_ok h]
  simp [hf]
theorem eB_ok {t : DT} {e e1 : Env} {k : Bool} (h : t e = .ok k e1) : eB t e = .ok (.bl k) e1 := by
  unfold eB
  rw [bind_ok h]
  rfl
theorem c2_ok {f : D → D → Rv Bool} {a b : DE} {e e1 e2 : Env} {x y : D} {k : Bool} (ha : a e = .ok x e1) (hb : b e1 = .ok y e2) (hf : f x y = .ok k) : c2 f a b e = .ok k e2 := by
  unfold c2
  rw [bind_ok ha, bind_ok hb, hf]
  rfl
theorem e2_ok {f : D → D → Rv D} {a b : DE} {e e1 e2 : Env} {x y z : D} (ha : a e = .ok x e1) (hb : b e1 = .ok y e2) (hf : f x y = .ok z) : AH.e2 f a b e = .ok z e2 := by
  unfold AH.e2
  rw [bind_ok ha, bind_ok hb, hf]
  rfl
theorem e1_ok {f : D → Rv D} {a : DE} {e e1 : Env} {x z : D} (ha : a e = .ok x e1) (hf : f x = .ok z) : AH.e1 f a e = .ok z e1 := by
  unfold AH.e1
  rw [bind_ok ha, hf]
  rfl
theorem aCons_ok {a : DE} {r : DL} {e e1 e2 : Env} {x : D} {xs : List D} (ha : a e = .ok x e1) (hr : r e1 = .ok xs e2) : aCons a r e = .ok (x :: xs) e2 := by
  unfold aCons
  rw [bind_ok ha, bind_ok hr]
  rfl
theorem lst_ok {r : DL} {e e1 : Env} {xs : List D} (h : r e = .ok xs e1) (hl : xs.length ≤ 100000) : eLst r e = .ok (.lst xs) e1 := by
  unfold eLst
  rw [bind_ok h]
  simp [lenOk, hl]
theorem tup_ok {r : DL} {e e1 : Env} {xs : List D} (h : r e = .ok xs e1) (hl : xs.length ≤ 100000) : eTup r e = .ok (.tup xs) e1 := by
  unfold eTup
  rw [bind_ok h]
  simp [lenOk, hl]
theorem tV_ok {a : DE} {e e1 : Env} {k : Bool} (h : a e = .ok (.bl k) e1) : tV a e = .ok k e1 := by
  unfold tV
  rw [bind_ok h]
  rfl
theorem tNot_ok {t : DT} {e e1 : Env} {k : Bool} (h : t e = .ok k e1) : tNot t e = .ok (!k) e1 := by
  unfold tNot
  rw [bind_ok h]
  rfl
theorem eIf_ok {t : DT} {a b : DE} {e e1 : Env} {k : Bool} (h : t e = .ok k e1) : eIf t a b e = if k then a e1 else b e1 := by
  unfold eIf
  rw [bind_ok h]
  cases k <;> rfl
/-- the end: the law's promise -/
theorem law_sp {K : PySem.W.Frag} {H : Hp} {a : Addr} {ns : List Int} {N : List Str} {g : DF} (hS : SqL K H a (ns.map V.int)) (hN : 1 ≤ N.length) (hg : g [.lst (ns.map D.int)] = .ok (.bl true) []) :
    spD .s K N [.ro] g [.ref a] H (fun v _ => v = .bl true) fun _ _ _ => False := by
  refine ⟨rfl, [.lst (ns.map D.int)], ⟨fun _ => False, fun _ => False, H, fun _ => none⟩, fun _ => none, ?_, rfl, rfl, ?_⟩
  · refine ⟨fun j => ?_, fun i j a h => by (cases h), fun a z => z.elim False.elim fun ⟨_, z⟩ => by (cases z), fun a o e _ => e, fun a z => z, ?_, fun a z => z.elim⟩
    · cases j with
      | zero =>
        refine ⟨rfl, .ref a, rfl, ?_⟩
        rcases hS with s | s
        · exact .lst (fun z => z.elim (fun ⟨_, z⟩ => by (cases z)) False.elim) s (repL_ints ns)
        · exact .kl (.inr s)
      | succ j =>
        have e1 : sl (startE [.ro] [.lst (ns.map D.int)] ++ List.replicate (N.length - [Md.ro].length) .no) (j + 1) = .no := sl_app_no _ _ _ (by simp [startE])
        rw [e1]
        rfl
    · unfold L2.start
      simp [startE]
  · rw [hg]
    intro v H' _ r
    have r1 : Rep (fun _ => False) H' v (.bl true) := r.1
    cases r1
    rfl
end AH
namespace AH
open PySem L2
/-! ### the helpers that the laws share -/
def h_take : DS := (sSeq (sIf (c2 dGt (e2L dIx 0 (eC (.int 0))) (eC (.int 0))) (sSeq (sAsgN 2 (e2 dMod (e1 dInt (e2L dIx 0 (eC (.int 0)))) (eVar 1))) (sSeq (sSetL 0 (eC (.int 0)) (e2 dDiv (e2L dIx 0 (eC (.int 0))) (eVar 1))) (sRet (eVar 2)))) sNil) (sSeq (sSetL 0 (eC (.int 2)) (e2 dAdd (e2L dIx 0 (eC (.int 2))) (eC (.int 1)))) (sSeq (sAsgN 3 (e2 dMod (e1 dInt (e2 dMul (e2 dAdd (e2L dIx 0 (eC (.int 1))) (e2 dMul (eC (.int 48271)) (e2L dIx 0 (eC (.int 2))))) (e2 dAdd (eC (.int 39373)) (e2L dIx 0 (eC (.int 2)))))) (eC (.int 2147483647)))) (sSeq (sAsgN 4 (e2 dAdd (e2 dMod (e1 dInt (eVar 3)) (eC (.int 40009))) (eC (.int 7)))) (sSeq (sAsgN 5 (e2 dMod (e1 dInt (e2 dMul (e2 dAdd (e2 dAdd (eVar 3) (e2L dIx 0 (eC (.int 2)))) (e2 dDiv (e2L dIx 0 (eC (.int 1))) (eC (.int 1000003)))) (eVar 4))) (eC (.int 2147483629)))) (sRet (e2 dMod (e1 dInt (e2 dDiv (e2 dMod (e1 dInt (e2 dAdd (e2 dMul (eVar 5) (eC (.int 48271))) (eVar 3))) (eC (.int 2147483587))) (eC (.int 64)))) (eVar 1))))))))
def Box (k : Nat) (xs : List D) : Prop := ∃ n m c : Int, xs = [.int n, .int m, .int c] ∧ 0 ≤ n ∧ 0 ≤ m ∧ m < 2 ^ 62 ∧ 0 ≤ c ∧ c ≤ k
theorem mulOk_r {i j : Int} (h : j.natAbs < 2 ^ 64) : mulOk i j = true := by
  unfold mulOk; rw [decide_eq_true h, Bool.or_true, Bool.or_true]
theorem mulOk_l {i j : Int} (h : i.natAbs < 2 ^ 64) : mulOk i j = true := by
  unfold mulOk; rw [decide_eq_true h, Bool.true_or, Bool.or_true]
theorem take_ok {k : Nat} {xs : List D} {b : Int} (hb : Box k xs) (hk : k < 2 ^ 60) (h1 : 0 < b) (h2 : b.natAbs.log2 < 9000) : ∃ r xs', mkF 6 [.bor, .val] h_take [.lst xs, .int b] = .ok (.int r) [xs'] ∧ 0 ≤ r ∧ r < b ∧ Box (k + 1) xs' := by
  obtain ⟨n, m, c, rfl, hn, hm, hm2, hc, hck⟩ := hb
  have d2 : divOk b = true := by unfold divOk; rw [decide_eq_true h1, decide_eq_true h2]; rfl
  by_cases h0 : 0 < n
  · refine ⟨n % b, [.int (n / b), .int m, .int c], ?_, Int.emod_nonneg _ (by omega), Int.emod_lt_of_pos _ h1, n / b, m, c, rfl, Int.ediv_nonneg hn (by omega), hm, hm2, hc, by omega⟩
    simp [mkF, h_take, lstsOk, startE, dIx, dMod, dDiv, dGt, dInt, ixN, h0, h1, d2, lentOf]
  · have m1 : ∀ i : Int, mulOk i (39373 + (c + 1)) = true := fun i => mulOk_r (by omega)
    have m2 : ∀ i : Int, mulOk 48271 i = true := fun i => mulOk_l (by decide)
    have m3 : ∀ i j : Int, mulOk i (j % 40009 + 7) = true := fun i j => mulOk_r (by omega)
    have m4 : ∀ i : Int, mulOk i 48271 = true := fun i => mulOk_r (by decide)
    have d3 : divOk 1000003 = true := by decide
    have d4 : divOk 64 = true := by decide
    have key : ∃ r, mkF 6 [.bor, .val] h_take [.lst [.int n, .int m, .int c], .int b] = .ok (.int (r % b)) [[.int n, .int m, .int (c + 1)]] := by
      refine ⟨((((m + 48271 * (c + 1)) * (39373 + (c + 1)) % 2147483647 + (c + 1) + m / 1000003) * ((m + 48271 * (c + 1)) * (39373 + (c + 1)) % 2147483647 % 40009 + 7)) % 2147483629 * 48271 + (m + 48271 * (c + 1)) * (39373 + (c + 1)) % 2147483647) % 2147483587 / 64, ?_⟩
      simp [mkF, h_take, lstsOk, startE, dIx, dMod, dDiv, dGt, dInt, dAdd, dMul, ixN, h0, h1, d2, d3, d4, m1, m2, m3, m4, lentOf]
    obtain ⟨r, key⟩ := key
    exact ⟨r % b, [.int n, .int m, .int (c + 1)], key, Int.emod_nonneg _ (by omega), Int.emod_lt_of_pos _ h1, n, m, c + 1, rfl, hn, hm, hm2, by omega, by omega⟩
end AH
namespace LW
open PySem PySem.Spec PyProof.Rows L2 AH
def top (i : Nat) : Stmt := PySem.Challenge.pw_anyhands_k09_lots_or_not.main.body.getD i (.Pass ⟨0, 0, 0, 0⟩)
abbrev s_law_cells : Stmt := top 10
abbrev s_law_same : Stmt := top 13
abbrev s_rises : Stmt := top 3
abbrev s_is_number : Stmt := top 1
abbrev s_are_numbers : Stmt := top 2
abbrev s_is_errand : Stmt := top 5
abbrev s_is_lot : Stmt := top 6
abbrev s_law_by_hand_right : Stmt := top 19
abbrev s_law_spans : Stmt := top 14
abbrev s_law_take : Stmt := top 9
abbrev s_law_lot : Stmt := top 15
abbrev s_law_of : Stmt := top 11
abbrev s_law_odd : Stmt := top 18
abbrev s_law_lists : Stmt := top 12
abbrev s_law_is_whole : Stmt := top 17
abbrev s_law_is_lot : Stmt := top 16
abbrev s_law_right : Stmt := top 20
abbrev s_law_box : Stmt := top 8
abbrev s_law : Stmt := top 21
/-- the built-in names are free -/
structure Bf (mg : Str → Option Value) : Prop where
  abs : mg "abs" = none
  all : mg "all" = none
  bool : mg "bool" = none
  enumerate : mg "enumerate" = none
  int : mg "int" = none
  isinstance : mg "isinstance" = none
  len : mg "len" = none
  list : mg "list" = none
  range : mg "range" = none
  str : mg "str" = none
  tuple : mg "tuple" = none
  zip : mg "zip" = none
abbrev n_law_cells : List Str := ["_law_script", "_law_most_so", "_law_cells_here", "_law_k", "_law_cell", "_law_at_so"]
abbrev p_law_cells : List Str := ["_law_script", "_law_most_so"]
theorem sc_law_cells : FnScope n_law_cells p_law_cells (defScope s_law_cells) := ⟨rfl, rfl, rfl, by decide +kernel, rfl, by decide +kernel, by decide +kernel⟩
theorem b_law_cells : BindsOk "_law_cells" s_law_cells p_law_cells := fun _ _ _ _ _ _ us hl => match us, hl with | [_, _], _ => rfl
def m_law_cells : DS := (sSeq (sOwn 2 (eOrT (e1 dList (eSlN 0 oNone (oSome (eVar 1)))) (eLst (aCons (eC (.int 0)) aNil)))) (sSeq (sFor (iEnumL (eSlN 0 (oSome (eVar 1)) (oSome (eC (.int 63))))) (gT (gsCons (gN 3) (gsCons (gN 4) gsNil))) (sSeq (sAsgN 5 (e2 dMod (e1 dInt (eVar 3)) (eVar 1))) (sSetL 2 (eVar 5) (e2 dAdd (e2L dIx 2 (eVar 5)) (e2 dMul (eVar 4) (e2 dAdd (eVar 3) (eC (.int 2)))))))) (sSeq (sRelL 2) (sRet (eVar 2)))))
def f_law_cells : DF := mkF 6 [.ro, .val] m_law_cells
theorem ok_law_cells {P : Program} {w : World} {K : PySem.W.Frag} {mg : Str → Option Value} {base : Heap} (B : Bf mg) (F : Fu K mg "_law_cells" s_law_cells) : Kn P w K mg base .s "_law_cells" s_law_cells n_law_cells p_law_cells [.ro, .val] f_law_cells 1 := kn_of F sc_law_cells rfl b_law_cells (.inl ⟨rfl, rfl⟩) fun f cdv A outer s H E hr tk hp => by
  have nd : n_law_cells.Nodup := sc_law_cells.nd
  have hc : (cxD P w K mg base n_law_cells "_law_cells" (defScope s_law_cells) f cdv A outer s H E).calm = true := rfl
  have hu := room_u hr
  exact (ss_cons (sd_own (i := 2) nd rfl (.inl rfl) (pd_orT (pd_list (bn_any rfl B.list boot_list) (PD.weak (PD.str (pd_slN (i := 0) rfl (.inl rfl) od_none (od_some (pd_var (i := 1) rfl (.inl rfl))))))) (pd_lst (ad_cons pd_int ad_nil)) (.inl rfl))) (ss_cons (sd_for hp hc (id_enum (bn_any rfl B.enumerate boot_enumerate) (PD.str (pd_slN (i := 0) rfl (.inl rfl) (od_some (pd_var (i := 1) rfl (.inl rfl))) (od_some pd_int)))) (gd_tup (n := 2) hc (gsd_cons (gd_name (i := 3) nd rfl (.inl rfl)) (gsd_cons (gd_name (i := 4) nd rfl (.inl rfl)) gsd_nil)) (gs_lenS (gs_lenS gs_len0))) (ss_cons (sd_asgN (i := 5) nd rfl (.inl rfl) (pd_mod (pd_toint (bn_any rfl B.int boot_int) (pd_var (i := 3) rfl (.inl rfl))) (pd_var (i := 1) rfl (.inl rfl)))) (ss_one (sd_setL (i := 2) rfl (.inl rfl) (pd_var (i := 5) rfl (.inl rfl)) (pd_add (pd_ixL (i := 2) hu rfl (.inl rfl) (pd_var (i := 5) rfl (.inl rfl))) (pd_mul (pd_var (i := 4) rfl (.inl rfl)) (pd_add (pd_var (i := 3) rfl (.inl rfl)) pd_int))))))) (ss_rel (i := 2) (ss_one (sd_ret (pd_var (i := 2) rfl (.inl rfl)))))))
abbrev n_law_same : List Str := ["_law_got", "_law_due_so", "_law_mine", "_law_its"]
abbrev p_law_same : List Str := ["_law_got", "_law_due_so"]
theorem sc_law_same : FnScope n_law_same p_law_same (defScope s_law_same) := ⟨rfl, rfl, rfl, by decide +kernel, rfl, by decide +kernel, by decide +kernel⟩
theorem b_law_same : BindsOk "_law_same" s_law_same p_law_same := fun _ _ _ _ _ _ us hl => match us, hl with | [_, _], _ => rfl
def m_law_same (n_f : DF) : DS := (sSeq (sIf (tV (eIsi2 .list .tuple (eVar 1))) (sSeq (sIf (tOr (c2 dNe (eIsi .list (eVar 0)) (eIsi .list (eVar 1))) (c2 dNe (eIsi .tuple (eVar 0)) (eIsi .tuple (eVar 1)))) (sRet (eC (.bl false))) sNil) (sRet (eAnd (eB (c2 dEq (e1 dLen (eVar 0)) (e1 dLen (eVar 1)))) (e1 dAll (eLc [2, 3] (iZip (eVar 0) (eVar 1)) (gT (gsCons (gN 2) (gsCons (gN 3) gsNil))) tYes (eCall n_f [.e (eVar 2), .e (eVar 3)])))))) sNil) (sSeq (sIf (tOr (tIsN (eVar 1)) (tV (eIsi2 .bool .str (eVar 1)))) (sRet (eAnd (eB (c2 dEq (eVar 0) (eVar 1))) (eAnd (eB (c2 dEq (eIsi .bool (eVar 0)) (eIsi .bool (eVar 1)))) (eB (c2 dEq (eB (tIsN (eVar 0))) (eB (tIsN (eVar 1)))))))) sNil) (sRet (eAnd (eIsi .int (eVar 0)) (eAnd (eNot (eIsi .bool (eVar 0))) (eB (c2 dEq (eVar 0) (eVar 1))))))))
def f_law_same : Nat → DF
  | 0 => fun _ => .bad
  | n + 1 => mkF 4 [.val, .val] (m_law_same (f_law_same n))
theorem ok_law_same {P : Program} {w : World} {K : PySem.W.Frag} {mg : Str → Option Value} {base : Heap} (B : Bf mg) (F : Fu K mg "_law_same" s_law_same) : ∀ n : Nat, Kn P w K mg base .s "_law_same" s_law_same n_law_same p_law_same [.val, .val] (f_law_same n) (1 + n)
  | 0 => kn_bad F rfl b_law_same
  | n + 1 => kn_of F sc_law_same rfl b_law_same (.inl ⟨rfl, rfl⟩) fun f cdv A outer s H E hr tk hp => by
    have k_law_same := ok_law_same (P := P) (w := w) (base := base) B F n
    have nd : n_law_same.Nodup := sc_law_same.nd
    have hc : (cxD P w K mg base n_law_same "_law_same" (defScope s_law_same) f cdv A outer s H E).calm = true := rfl
    have hu := room_u hr
    exact (ss_cons (sd_if (td_val (pd_isi2 (t := .list) (u := .tuple) (bn_any rfl B.isinstance boot_isinstance) (bn_any rfl B.list boot_list) (bn_any rfl B.tuple boot_tuple) (pd_var (i := 1) rfl (.inl rfl)))) (ss_cons (sd_if (WD.td (wd_or (td_cmp (ck_ne hu) (pd_isi (t := .list) (bn_any rfl B.isinstance boot_isinstance) (bn_any rfl B.list boot_list) (pd_var (i := 0) rfl (.inl rfl))) (PD.weak (pd_isi (t := .list) (bn_any rfl B.isinstance boot_isinstance) (bn_any rfl B.list boot_list) (pd_var (i := 1) rfl (.inl rfl)))) rfl) (wd_or1 (td_cmp (ck_ne hu) (pd_isi (t := .tuple) (bn_any rfl B.isinstance boot_isinstance) (bn_any rfl B.tuple boot_tuple) (pd_var (i := 0) rfl (.inl rfl))) (PD.weak (pd_isi (t := .tuple) (bn_any rfl B.isinstance boot_isinstance) (bn_any rfl B.tuple boot_tuple) (pd_var (i := 1) rfl (.inl rfl)))) rfl)))) (ss_one (sd_ret pd_bl)) ss_nil) (ss_one (sd_ret (pd_and (pd_cmp (ck_eq hu) (pd_len (bn_any rfl B.len boot_len) (PD.weak (pd_var (i := 0) rfl (.inl rfl)))) (PD.weak (pd_len (bn_any rfl B.len boot_len) (PD.weak (pd_var (i := 1) rfl (.inl rfl))))) rfl) (pd_one (pd_all hc (bn_any rfl B.all boot_all) (PD.weak (PD.str (pd_lc (own := [("_law_mine", 2), ("_law_its", 3)]) hc nd (by kernel_rfl) rfl (id_zip (bn_any rfl B.zip boot_zip) (pd_var (i := 0) rfl (.inl rfl)) (pd_var (i := 1) rfl (.inl rfl))) (fun s H C cl fp => (gd_tup (n := 2) hc (gsd_cons (gd_name (i := 2) nd rfl (.inl rfl)) (gsd_cons (gd_name (i := 3) nd rfl (.inl rfl)) gsd_nil)) (gs_lenS (gs_lenS gs_len0)))) (fun s H C cl fp => cd_nil) (fun s H C cl fp => (pd_call (k_law_same.fn hr (Nat.le_refl _)) tkNone rfl (ga_val (pd_var (i := 2) rfl (.inl rfl)) (ga_val (pd_var (i := 3) rfl (.inl rfl)) ga_nil))))))))))))) ss_nil) (ss_cons (sd_if (WD.td (wd_or (td_isN (PD.weak (pd_var (i := 1) rfl (.inl rfl)))) (wd_or1 (td_val (pd_isi2 (t := .bool) (u := .str) (bn_any rfl B.isinstance boot_isinstance) (bn_any rfl B.bool boot_bool) (bn_any rfl B.str boot_str) (pd_var (i := 1) rfl (.inl rfl))))))) (ss_one (sd_ret (pd_and (pd_cmp (ck_eq hu) (pd_var (i := 0) rfl (.inl rfl)) (PD.weak (pd_var (i := 1) rfl (.inl rfl))) rfl) (pd_and (pd_cmp (ck_eq hu) (pd_isi (t := .bool) (bn_any rfl B.isinstance boot_isinstance) (bn_any rfl B.bool boot_bool) (pd_var (i := 0) rfl (.inl rfl))) (PD.weak (pd_isi (t := .bool) (bn_any rfl B.isinstance boot_isinstance) (bn_any rfl B.bool boot_bool) (pd_var (i := 1) rfl (.inl rfl)))) rfl) (pd_one (pd_cmp (ck_eq hu) (pd_isN (PD.weak (pd_var (i := 0) rfl (.inl rfl)))) (PD.weak (pd_isN (PD.weak (pd_var (i := 1) rfl (.inl rfl))))) rfl)))))) ss_nil) (ss_one (sd_ret (pd_and (pd_isi (t := .int) (bn_any rfl B.isinstance boot_isinstance) (bn_any rfl B.int boot_int) (pd_var (i := 0) rfl (.inl rfl))) (pd_and (pd_not (pd_isi (t := .bool) (bn_any rfl B.isinstance boot_isinstance) (bn_any rfl B.bool boot_bool) (pd_var (i := 0) rfl (.inl rfl)))) (pd_one (pd_cmp (ck_eq hu) (pd_var (i := 0) rfl (.inl rfl)) (PD.weak (pd_var (i := 1) rfl (.inl rfl))) rfl))))))))
abbrev n_rises : List Str := ["things", "one", "other"]
abbrev p_rises : List Str := ["things"]
theorem sc_rises : FnScope n_rises p_rises (defScope s_rises) := ⟨rfl, rfl, rfl, by decide +kernel, rfl, by decide +kernel, by decide +kernel⟩
theorem b_rises : BindsOk "rises" s_rises p_rises := fun _ _ _ _ _ _ us hl => match us, hl with | [_], _ => rfl
def m_rises : DS := (sRet (e1 dAll (eLc [1, 2] (iZip (eVar 0) (eSl (eVar 0) (oSome (eC (.int 1))) oNone)) (gT (gsCons (gN 1) (gsCons (gN 2) gsNil))) tYes (eB (c2 dLt (eVar 1) (eVar 2))))))
def f_rises : DF := mkF 3 [.val] m_rises
theorem ok_rises {P : Program} {w : World} {K : PySem.W.Frag} {mg : Str → Option Value} {base : Heap} (B : Bf mg) (F : Fu K mg "rises" s_rises) : Kn P w K mg base .s "rises" s_rises n_rises p_rises [.val] f_rises 1 := kn_of F sc_rises rfl b_rises (.inl ⟨rfl, rfl⟩) fun f cdv A outer s H E hr tk hp => by
  have nd : n_rises.Nodup := sc_rises.nd
  have hc : (cxD P w K mg base n_rises "rises" (defScope s_rises) f cdv A outer s H E).calm = true := rfl
  have hu := room_u hr
  exact (ss_one (sd_ret (pd_all hc (bn_any rfl B.all boot_all) (PD.weak (PD.str (pd_lc (own := [("one", 1), ("other", 2)]) hc nd (by kernel_rfl) rfl (id_zip (bn_any rfl B.zip boot_zip) (pd_var (i := 0) rfl (.inl rfl)) (pd_sl (pd_var (i := 0) rfl (.inl rfl)) (od_some pd_int) od_none)) (fun s H C cl fp => (gd_tup (n := 2) hc (gsd_cons (gd_name (i := 1) nd rfl (.inl rfl)) (gsd_cons (gd_name (i := 2) nd rfl (.inl rfl)) gsd_nil)) (gs_lenS (gs_lenS gs_len0)))) (fun s H C cl fp => cd_nil) (fun s H C cl fp => (pd_cmp (ck_lt hu) (pd_var (i := 1) rfl (.inl rfl)) (PD.weak (pd_var (i := 2) rfl (.inl rfl))) rfl))))))))
abbrev n_is_number : List Str := ["thing"]
abbrev p_is_number : List Str := ["thing"]
theorem sc_is_number : FnScope n_is_number p_is_number (defScope s_is_number) := ⟨rfl, rfl, rfl, by decide +kernel, rfl, by decide +kernel, by decide +kernel⟩
theorem b_is_number : BindsOk "is_number" s_is_number p_is_number := fun _ _ _ _ _ _ us hl => match us, hl with | [_], _ => rfl
def m_is_number : DS := (sRet (eAnd (eIsi .int (eVar 0)) (eNot (eIsi .bool (eVar 0)))))
def f_is_number : DF := mkF 1 [.val] m_is_number
theorem ok_is_number {P : Program} {w : World} {K : PySem.W.Frag} {mg : Str → Option Value} {base : Heap} (B : Bf mg) (F : Fu K mg "is_number" s_is_number) : Kn P w K mg base .s "is_number" s_is_number n_is_number p_is_number [.val] f_is_number 1 := kn_of F sc_is_number rfl b_is_number (.inl ⟨rfl, rfl⟩) fun f cdv A outer s H E hr tk hp => by
  have nd : n_is_number.Nodup := sc_is_number.nd
  have hc : (cxD P w K mg base n_is_number "is_number" (defScope s_is_number) f cdv A outer s H E).calm = true := rfl
  have hu := room_u hr
  exact (ss_one (sd_ret (pd_and (pd_isi (t := .int) (bn_any rfl B.isinstance boot_isinstance) (bn_any rfl B.int boot_int) (pd_var (i := 0) rfl (.inl rfl))) (pd_one (pd_not (pd_isi (t := .bool) (bn_any rfl B.isinstance boot_isinstance) (bn_any rfl B.bool boot_bool) (pd_var (i := 0) rfl (.inl rfl))))))))
abbrev n_are_numbers : List Str := ["thing", "size", "least", "own"]
abbrev p_are_numbers : List Str := ["thing", "size", "least"]
theorem sc_are_numbers : FnScope n_are_numbers p_are_numbers (defScope s_are_numbers) := ⟨rfl, rfl, rfl, by decide +kernel, rfl, by decide +kernel, by decide +kernel⟩
theorem b_are_numbers : BindsOk "are_numbers" s_are_numbers p_are_numbers := fun _ _ _ _ _ _ us hl => match us, hl with | [_, _, _], _ => rfl
def m_are_numbers : DS := (sRet (eAnd (eIsi .tuple (eVar 0)) (eAnd (eB (c2 dEq (e1 dLen (eVar 0)) (eVar 1))) (e1 dAll (eLc [3] (iSeq (eVar 0)) (gN 3) tYes (eAnd (eCall f_is_number [.e (eVar 3)]) (eB (c2 dGe (eVar 3) (eVar 2)))))))))
def f_are_numbers : DF := mkF 4 [.val, .val, .val] m_are_numbers
theorem ok_are_numbers {P : Program} {w : World} {K : PySem.W.Frag} {mg : Str → Option Value} {base : Heap} (B : Bf mg) (F : Fu K mg "are_numbers" s_are_numbers) (k_is_number : Kn P w K mg base .s "is_number" s_is_number n_is_number p_is_number [.val] f_is_number 1) : Kn P w K mg base .s "are_numbers" s_are_numbers n_are_numbers p_are_numbers [.val, .val, .val] f_are_numbers 2 := kn_of F sc_are_numbers rfl b_are_numbers (.inl ⟨rfl, rfl⟩) fun f cdv A outer s H E hr tk hp => by
  have nd : n_are_numbers.Nodup := sc_are_numbers.nd
  have hc : (cxD P w K mg base n_are_numbers "are_numbers" (defScope s_are_numbers) f cdv A outer s H E).calm = true := rfl
  have hu := room_u hr
  exact (ss_one (sd_ret (pd_and (pd_isi (t := .tuple) (bn_any rfl B.isinstance boot_isinstance) (bn_any rfl B.tuple boot_tuple) (pd_var (i := 0) rfl (.inl rfl))) (pd_and (pd_cmp (ck_eq hu) (pd_len (bn_any rfl B.len boot_len) (PD.weak (pd_var (i := 0) rfl (.inl rfl)))) (PD.weak (pd_var (i := 1) rfl (.inl rfl))) rfl) (pd_one (pd_all hc (bn_any rfl B.all boot_all) (PD.weak (PD.str (pd_lc (own := [("own", 3)]) hc nd (by kernel_rfl) rfl (id_seq (pd_var (i := 0) rfl (.inl rfl))) (fun s H C cl fp => (gd_name (i := 3) nd rfl (.inl rfl))) (fun s H C cl fp => cd_nil) (fun s H C cl fp => (pd_and (pd_call (k_is_number.fn hr) tkNone rfl (ga_val (pd_var (i := 3) rfl (.inl rfl)) ga_nil)) (pd_one (pd_cmp ck_ge (pd_var (i := 3) rfl (.inl rfl)) (PD.weak (pd_var (i := 2) rfl (.inr (.inl rfl)))) rfl)))))))))))))
abbrev n_is_errand : List Str := ["hours", "thing", "window"]
abbrev p_is_errand : List Str := ["hours", "thing"]
theorem sc_is_errand : FnScope n_is_errand p_is_errand (defScope s_is_errand) := ⟨rfl, rfl, rfl, by decide +kernel, rfl, by decide +kernel, by decide +kernel⟩
theorem b_is_errand : BindsOk "is_errand" s_is_errand p_is_errand := fun _ _ _ _ _ _ us hl => match us, hl with | [_, _], _ => rfl
def m_is_errand : DS := (sSeq (sIf (tOr (tNot (tV (eIsi .tuple (eVar 1)))) (tOr (c2 dNe (e1 dLen (eVar 1)) (eC (.int 2))) (tOr (tNot (tV (eCall f_is_number [.e (e2 dIx (eVar 1) (eC (.int 1)))]))) (c2 dLt (e2 dIx (eVar 1) (eC (.int 1))) (eC (.int 1)))))) (sRet (eC (.bl false))) sNil) (sSeq (sAsgN 2 (e2 dIx (eVar 1) (eC (.int 0)))) (sRet (eAnd (eCall f_are_numbers [.e (eVar 2), .e (eC (.int 2)), .e (eC (.int 0))]) (eB (c3 dLe dLt (e2 dIx (eVar 2) (eC (.int 0))) (e2 dIx (eVar 2) (eC (.int 1))) (eVar 0)))))))
def f_is_errand : DF := mkF 3 [.val, .val] m_is_errand
theorem ok_is_errand {P : Program} {w : World} {K : PySem.W.Frag} {mg : Str → Option Value} {base : Heap} (B : Bf mg) (F : Fu K mg "is_errand" s_is_errand) (k_are_numbers : Kn P w K mg base .s "are_numbers" s_are_numbers n_are_numbers p_are_numbers [.val, .val, .val] f_are_numbers 2) (k_is_number : Kn P w K mg base .s "is_number" s_is_number n_is_number p_is_number [.val] f_is_number 1) : Kn P w K mg base .s "is_errand" s_is_errand n_is_errand p_is_errand [.val, .val] f_is_errand 3 := kn_of F sc_is_errand rfl b_is_errand (.inl ⟨rfl, rfl⟩) fun f cdv A outer s H E hr tk hp => by
  have nd : n_is_errand.Nodup := sc_is_errand.nd
  have hc : (cxD P w K mg base n_is_errand "is_errand" (defScope s_is_errand) f cdv A outer s H E).calm = true := rfl
  have hu := room_u hr
  exact (ss_cons (sd_if (WD.td (wd_or (td_not (td_val (pd_isi (t := .tuple) (bn_any rfl B.isinstance boot_isinstance) (bn_any rfl B.tuple boot_tuple) (pd_var (i := 1) rfl (.inl rfl))))) (wd_or (td_cmp (ck_ne hu) (pd_len (bn_any rfl B.len boot_len) (PD.weak (pd_var (i := 1) rfl (.inl rfl)))) (PD.weak pd_int) rfl) (wd_or (td_not (td_val (pd_call (k_is_number.fn hr) tk rfl (ga_val (pd_ix hu (pd_var (i := 1) rfl (.inl rfl)) pd_int) ga_nil)))) (wd_or1 (td_cmp (ck_lt hu) (pd_ix hu (pd_var (i := 1) rfl (.inl rfl)) pd_int) (PD.weak pd_int) rfl)))))) (ss_one (sd_ret pd_bl)) ss_nil) (ss_cons (sd_asgN (i := 2) nd rfl (.inl rfl) (pd_ix hu (pd_var (i := 1) rfl (.inl rfl)) pd_int)) (ss_one (sd_ret (pd_and (pd_call (k_are_numbers.fn hr) tk rfl (ga_val (pd_var (i := 2) rfl (.inl rfl)) (ga_val pd_int (ga_val pd_int ga_nil)))) (pd_one (pd_chain (ck_le hu) (ck_lt hu) (pd_ix hu (pd_var (i := 2) rfl (.inl rfl)) pd_int) (pd_ix hu (pd_var (i := 2) rfl (.inl rfl)) pd_int) (PD.weak (pd_var (i := 0) rfl (.inl rfl))))))))))
abbrev n_is_lot : List Str := ["thing", "own", "window", "work"]
abbrev p_is_lot : List Str := ["thing"]
theorem sc_is_lot : FnScope n_is_lot p_is_lot (defScope s_is_lot) := ⟨rfl, rfl, rfl, by decide +kernel, rfl, by decide +kernel, by decide +kernel⟩
theorem b_is_lot : BindsOk "is_lot" s_is_lot p_is_lot := fun _ _ _ _ _ _ us hl => match us, hl with | [_], _ => rfl
theorem kb_is_lot_0_thing : KBindsOk "is_lot" s_is_lot p_is_lot 0 ["thing"] [0] := fun _ _ _ _ _ _ us ws h1 h2 => match us, ws, h1, h2 with | [], [_], _, _ => rfl
def m_is_lot : DS := (sSeq (sIf (tOr (tNot (tV (eIsi .tuple (eVar 0)))) (tOr (c2 dNe (e1 dLen (eVar 0)) (eC (.int 2))) (tOr (tNot (tV (eCall f_is_number [.e (e2 dIx (eVar 0) (eC (.int 0)))]))) (c2 dLt (e2 dIx (eVar 0) (eC (.int 0))) (eC (.int 1)))))) (sRet (eC (.bl false))) sNil) (sSeq (sIf (tOr (tNot (tV (eIsi .tuple (e2 dIx (eVar 0) (eC (.int 1)))))) (tNot (tV (e1 dAll (eLc [1] (iSeq (e2 dIx (eVar 0) (eC (.int 1)))) (gN 1) tYes (eCall f_is_errand [.e (e2 dIx (eVar 0) (eC (.int 0))), .e (eVar 1)])))))) (sRet (eC (.bl false))) sNil) (sRet (eCall f_rises [.e (eLc [2, 3] (iSeq (e2 dIx (eVar 0) (eC (.int 1)))) (gT (gsCons (gN 2) (gsCons (gN 3) gsNil))) tYes (eVar 2))]))))
def f_is_lot : DF := mkF 4 [.val] m_is_lot
theorem ok_is_lot {P : Program} {w : World} {K : PySem.W.Frag} {mg : Str → Option Value} {base : Heap} (B : Bf mg) (F : Fu K mg "is_lot" s_is_lot) (k_rises : Kn P w K mg base .s "rises" s_rises n_rises p_rises [.val] f_rises 1) (k_is_number : Kn P w K mg base .s "is_number" s_is_number n_is_number p_is_number [.val] f_is_number 1) (k_is_errand : Kn P w K mg base .s "is_errand" s_is_errand n_is_errand p_is_errand [.val, .val] f_is_errand 3) : Kn P w K mg base .s "is_lot" s_is_lot n_is_lot p_is_lot [.val] f_is_lot 4 := kn_of F sc_is_lot rfl b_is_lot (.inl ⟨rfl, rfl⟩) fun f cdv A outer s H E hr tk hp => by
  have nd : n_is_lot.Nodup := sc_is_lot.nd
  have hc : (cxD P w K mg base n_is_lot "is_lot" (defScope s_is_lot) f cdv A outer s H E).calm = true := rfl
  have hu := room_u hr
  exact (ss_cons (sd_if (WD.td (wd_or (td_not (td_val (pd_isi (t := .tuple) (bn_any rfl B.isinstance boot_isinstance) (bn_any rfl B.tuple boot_tuple) (pd_var (i := 0) rfl (.inr (.inl rfl)))))) (wd_or (td_cmp (ck_ne hu) (pd_len (bn_any rfl B.len boot_len) (PD.weak (pd_var (i := 0) rfl (.inr (.inl rfl))))) (PD.weak pd_int) rfl) (wd_or (td_not (td_val (pd_call (k_is_number.fn hr) tk rfl (ga_val (pd_ix hu (pd_var (i := 0) rfl (.inr (.inl rfl))) pd_int) ga_nil)))) (wd_or1 (td_cmp (ck_lt hu) (pd_ix hu (pd_var (i := 0) rfl (.inr (.inl rfl))) pd_int) (PD.weak pd_int) rfl)))))) (ss_one (sd_ret pd_bl)) ss_nil) (ss_cons (sd_if (WD.td (wd_or (td_not (td_val (pd_isi (t := .tuple) (bn_any rfl B.isinstance boot_isinstance) (bn_any rfl B.tuple boot_tuple) (pd_ix hu (pd_var (i := 0) rfl (.inr (.inl rfl))) pd_int)))) (wd_or1 (td_not (td_val (pd_all hc (bn_any rfl B.all boot_all) (PD.weak (PD.str (pd_lc (own := [("own", 1)]) hc nd (by kernel_rfl) rfl (id_seq (pd_ix hu (pd_var (i := 0) rfl (.inr (.inl rfl))) pd_int)) (fun s H C cl fp => (gd_name (i := 1) nd rfl (.inl rfl))) (fun s H C cl fp => cd_nil) (fun s H C cl fp => (pd_call (k_is_errand.fn hr) tkNone rfl (ga_val (pd_ix hu (pd_var (i := 0) rfl (.inr (.inl rfl))) pd_int) (ga_val (pd_var (i := 1) rfl (.inl rfl)) ga_nil))))))))))))) (ss_one (sd_ret pd_bl)) ss_nil) (ss_one (sd_ret (pd_call (k_rises.fn hr) tk rfl (ga_val (PD.str (pd_lc (own := [("window", 2), ("work", 3)]) hc nd (by kernel_rfl) rfl (id_seq (pd_ix hu (pd_var (i := 0) rfl (.inr (.inl rfl))) pd_int)) (fun s H C cl fp => (gd_tup (n := 2) hc (gsd_cons (gd_name (i := 2) nd rfl (.inl rfl)) (gsd_cons (gd_name (i := 3) nd rfl (.inl rfl)) gsd_nil)) (gs_lenS (gs_lenS gs_len0)))) (fun s H C cl fp => cd_nil) (fun s H C cl fp => (pd_var (i := 2) rfl (.inl rfl))))) ga_nil))))))
abbrev n_law_by_hand_right : List Str := ["_law_some", "_law_odd_so", "_law_deep_so", "_law_turn", "_law_got", "_law_own"]
abbrev p_law_by_hand_right : List Str := []
theorem sc_law_by_hand_right : FnScope n_law_by_hand_right p_law_by_hand_right (defScope s_law_by_hand_right) := ⟨rfl, rfl, rfl, by decide +kernel, rfl, by decide +kernel, by decide +kernel⟩
theorem b_law_by_hand_right : BindsOk "_law_by_hand_right" s_law_by_hand_right p_law_by_hand_right := fun _ _ _ _ _ _ us hl => match us, hl with | [], _ => rfl
def m_law_by_hand_right : DS := (sSeq (sAsgN 0 (eLst (aCons (eTup (aCons (eC (.int 1)) (aCons (eTup aNil) aNil))) (aCons (eTup (aCons (eC (.int 3)) (aCons (eTup (aCons (eTup (aCons (eTup (aCons (eC (.int 0)) (aCons (eC (.int 2)) aNil))) (aCons (eC (.int 1)) aNil))) aNil)) aNil))) (aCons (eTup (aCons (eC (.int 4)) (aCons (eTup (aCons (eTup (aCons (eTup (aCons (eC (.int 0)) (aCons (eC (.int 1)) aNil))) (aCons (eC (.int 2)) aNil))) (aCons (eTup (aCons (eTup (aCons (eC (.int 0)) (aCons (eC (.int 3)) aNil))) (aCons (e2 dPow (eC (.int 10)) (eC (.int 50))) aNil))) (aCons (eTup (aCons (eTup (aCons (eC (.int 1)) (aCons (eC (.int 1)) aNil))) (aCons (eC (.int 1)) aNil))) aNil)))) aNil))) (aCons (eTup (aCons (eC (.int 12)) (aCons (eTup (aCons (eTup (aCons (eTup (aCons (eC (.int 9)) (aCons (eC (.int 11)) aNil))) (aCons (eC (.int 5)) aNil))) aNil)) aNil))) aNil)))))) (sSeq (sAsgN 1 (eLst (aCons (eTup (aCons (eC (.int 0)) (aCons (eTup aNil) aNil))) (aCons (eTup (aCons (e1 dNeg (eC (.int 2))) (aCons (eTup aNil) aNil))) (aCons (eTup (aCons (eC (.bl true)) (aCons (eTup aNil) aNil))) (aCons (eTup (aCons (eC .non) (aCons (eTup aNil) aNil))) (aCons (eTup (aCons (eC (.str "3")) (aCons (eTup aNil) aNil))) (aCons (eTup (aCons (eC (.int 2)) aNil)) (aCons (eTup (aCons (eC (.int 2)) (aCons (eTup aNil) (aCons (eTup aNil) aNil)))) (aCons (eLst (aCons (eC (.int 2)) (aCons (eTup aNil) aNil))) (aCons (eTup (aCons (eC (.int 2)) (aCons (eLst aNil) aNil))) (aCons (eTup (aCons (eC (.int 2)) (aCons (eC .non) aNil))) aNil)))))))))))) (sSeq (sAsgN 1 (e2 dAdd (eVar 1) (eLst (aCons (eC (.int 2)) (aCons (eC .non) (aCons (eC (.str "ab")) (aCons (eTup aNil) (aCons (eLst aNil) (aCons (eTup (aCons (eTup aNil) (aCons (eC (.int 2)) aNil))) (aCons (eTup (aCons (eC (.int 3)) (aCons (eTup (aCons (eTup (aCons (eTup (aCons (eC (.int 1)) (aCons (eC (.int 0)) aNil))) (aCons (eC (.int 1)) aNil))) aNil)) aNil))) (aCons (eTup (aCons (eC (.int 3)) (aCons (eTup (aCons (eTup (aCons (eTup (aCons (eC (.int 0)) (aCons (eC (.int 3)) aNil))) (aCons (eC (.int 1)) aNil))) aNil)) aNil))) (aCons (eTup (aCons (eC (.int 3)) (aCons (eTup (aCons (eTup (aCons (eTup (aCons (e1 dNeg (eC (.int 1))) (aCons (eC (.int 2)) aNil))) (aCons (eC (.int 1)) aNil))) aNil)) aNil))) aNil)))))))))))) (sSeq (sAsgN 1 (e2 dAdd (eVar 1) (eLst (aCons (eTup (aCons (eC (.int 3)) (aCons (eTup (aCons (eTup (aCons (eTup (aCons (eC (.int 0)) (aCons (eC (.int 1)) aNil))) (aCons (eC (.int 0)) aNil))) aNil)) aNil))) (aCons (eTup (aCons (eC (.int 3)) (aCons (eTup (aCons (eTup (aCons (eTup (aCons (eC (.int 0)) (aCons (eC (.int 1)) aNil))) (aCons (e1 dNeg (eC (.int 1))) aNil))) aNil)) aNil))) (aCons (eTup (aCons (eC (.int 3)) (aCons (eTup (aCons (eTup (aCons (eTup (aCons (eC (.int 0)) (aCons (eC (.int 1)) aNil))) (aCons (eC (.bl true)) aNil))) aNil)) aNil))) (aCons (eTup (aCons (eC (.int 3)) (aCons (eTup (aCons (eTup (aCons (eTup (aCons (eC (.int 0)) (aCons (eC (.int 1)) aNil))) (aCons (eC (.str "1")) aNil))) aNil)) aNil))) aNil))))))) (sSeq (sAsgN 1 (e2 dAdd (eVar 1) (eLst (aCons (eTup (aCons (eC (.int 3)) (aCons (eTup (aCons (eTup (aCons (eTup (aCons (eC (.int 0)) (aCons (eC (.int 1)) aNil))) aNil)) aNil)) aNil))) (aCons (eTup (aCons (eC (.int 3)) (aCons (eTup (aCons (eTup (aCons (eC (.int 0)) (aCons (eC (.int 1)) aNil))) aNil)) aNil))) (aCons (eTup (aCons (eC (.int 3)) (aCons (eTup (aCons (eTup (aCons (eTup (aCons (eC (.int 0)) (aCons (eC (.int 1)) (aCons (eC (.int 2)) aNil)))) (aCons (eC (.int 1)) aNil))) aNil)) aNil))) (aCons (eTup (aCons (eC (.int 3)) (aCons (eTup (aCons (eTup (aCons (eC (.int 0)) (aCons (eC (.int 1)) aNil))) (aCons (eC (.int 1)) aNil))) aNil))) (aCons (eTup (aCons (eC (.int 3)) (aCons (eTup (aCons (eTup (aCons (eTup (aCons (eC (.int 0)) aNil)) (aCons (eC (.int 1)) aNil))) aNil)) aNil))) aNil)))))))) (sSeq (sAsgN 1 (e2 dAdd (eVar 1) (eLst (aCons (eTup (aCons (eC (.int 3)) (aCons (eTup (aCons (eTup (aCons (eTup (aCons (eC (.int 0)) (aCons (eC (.int 2)) aNil))) (aCons (eC (.int 1)) aNil))) (aCons (eTup (aCons (eTup (aCons (eC (.int 0)) (aCons (eC (.int 1)) aNil))) (aCons (eC (.int 1)) aNil))) aNil))) aNil))) (aCons (eTup (aCons (eC (.int 3)) (aCons (eTup (aCons (eTup (aCons (eTup (aCons (eC (.int 0)) (aCons (eC (.int 1)) aNil))) (aCons (eC (.int 1)) aNil))) (aCons (eTup (aCons (eTup (aCons (eC (.int 0)) (aCons (eC (.int 1)) aNil))) (aCons (eC (.int 2)) aNil))) aNil))) aNil))) (aCons (eTup (aCons (eC (.int 3)) (aCons (eTup (aCons (eLst (aCons (eTup (aCons (eC (.int 0)) (aCons (eC (.int 1)) aNil))) (aCons (eC (.int 1)) aNil))) aNil)) aNil))) aNil)))))) (sSeq (sAsgN 1 (e2 dAdd (eVar 1) (eLst (aCons (eTup (aCons (eC (.int 3)) (aCons (eTup (aCons (eTup (aCons (eLst (aCons (eC (.int 0)) (aCons (eC (.int 1)) aNil))) (aCons (eC (.int 1)) aNil))) aNil)) aNil))) (aCons (eTup (aCons (eC (.int 3)) (aCons (eTup (aCons (eTup (aCons (eTup (aCons (eC (.bl false)) (aCons (eC (.int 1)) aNil))) (aCons (eC (.int 1)) aNil))) aNil)) aNil))) (aCons (eTup (aCons (eC (.int 3)) (aCons (eTup (aCons (eTup (aCons (eTup (aCons (eC (.int 0)) (aCons (eC .non) aNil))) (aCons (eC (.int 1)) aNil))) aNil)) aNil))) (aCons (eTup (aCons (eC (.int 3)) (aCons (eTup (aCons (eC .non) aNil)) aNil))) (aCons (eTup (aCons (eC (.int 2)) (aCons (eC (.str "ab")) aNil))) aNil)))))))) (sSeq (sAsgN 2 (eTup (aCons (eC (.int 2)) (aCons (eTup aNil) aNil)))) (sSeq (sFor (iRng1 (eC (.int 8))) (gN 3) (sAsgN 2 (eTup (aCons (eVar 2) aNil)))) (sSeq (sAsgN 4 (eLc [5] (iSeq (e2 dAdd (eVar 0) (eVar 1))) (gN 5) tYes (eCall f_is_lot [.e (eVar 5)]))) (sSeq (sAsgN 4 (e2 dAdd (eVar 4) (eLst (aCons (eCall f_is_lot [.e (eVar 2)]) (aCons (eCallK f_is_lot [0] (aCons (e2 dIx (eVar 0) (eC (.int 1))) aNil)) (aCons (eCallK f_is_lot [0] (aCons (e2 dIx (eVar 1) (eC (.int 0))) aNil)) aNil)))))) (sRet (eCall (f_law_same 30) [.e (eVar 4), .e (e2 dAdd (e2 dAdd (e2 dMul (eLst (aCons (eC (.bl true)) aNil)) (e1 dLen (eVar 0))) (e2 dMul (eLst (aCons (eC (.bl false)) aNil)) (e1 dLen (eVar 1)))) (eLst (aCons (eC (.bl false)) (aCons (eC (.bl true)) (aCons (eC (.bl false)) aNil)))))])))))))))))))
def f_law_by_hand_right : DF := mkF 6 [] m_law_by_hand_right
theorem ok_law_by_hand_right {P : Program} {w : World} {K : PySem.W.Frag} {mg : Str → Option Value} {base : Heap} (B : Bf mg) (F : Fu K mg "_law_by_hand_right" s_law_by_hand_right) (k_law_same : Kn P w K mg base .s "_law_same" s_law_same n_law_same p_law_same [.val, .val] (f_law_same 30) 31) (k_is_lot : Kn P w K mg base .s "is_lot" s_is_lot n_is_lot p_is_lot [.val] f_is_lot 4) : Kn P w K mg base .s "_law_by_hand_right" s_law_by_hand_right n_law_by_hand_right p_law_by_hand_right [] f_law_by_hand_right 32 := kn_of F sc_law_by_hand_right rfl b_law_by_hand_right (.inl ⟨rfl, rfl⟩) fun f cdv A outer s H E hr tk hp => by
  have nd : n_law_by_hand_right.Nodup := sc_law_by_hand_right.nd
  have hc : (cxD P w K mg base n_law_by_hand_right "_law_by_hand_right" (defScope s_law_by_hand_right) f cdv A outer s H E).calm = true := rfl
  have hu := room_u hr
  exact (ss_cons (sd_asgN (i := 0) nd rfl (.inl rfl) (PD.str (pd_lst (ad_cons (pd_tup (ad_cons pd_int (ad_cons (pd_tup ad_nil) ad_nil))) (ad_cons (pd_tup (ad_cons pd_int (ad_cons (pd_tup (ad_cons (pd_tup (ad_cons (pd_tup (ad_cons pd_int (ad_cons pd_int ad_nil))) (ad_cons pd_int ad_nil))) ad_nil)) ad_nil))) (ad_cons (pd_tup (ad_cons pd_int (ad_cons (pd_tup (ad_cons (pd_tup (ad_cons (pd_tup (ad_cons pd_int (ad_cons pd_int ad_nil))) (ad_cons pd_int ad_nil))) (ad_cons (pd_tup (ad_cons (pd_tup (ad_cons pd_int (ad_cons pd_int ad_nil))) (ad_cons (pd_pow pd_int pd_int) ad_nil))) (ad_cons (pd_tup (ad_cons (pd_tup (ad_cons pd_int (ad_cons pd_int ad_nil))) (ad_cons pd_int ad_nil))) ad_nil)))) ad_nil))) (ad_cons (pd_tup (ad_cons pd_int (ad_cons (pd_tup (ad_cons (pd_tup (ad_cons (pd_tup (ad_cons pd_int (ad_cons pd_int ad_nil))) (ad_cons pd_int ad_nil))) ad_nil)) ad_nil))) ad_nil))))))) (ss_cons (sd_asgN (i := 1) nd rfl (.inl rfl) (PD.str (pd_lst (ad_cons (pd_tup (ad_cons pd_int (ad_cons (pd_tup ad_nil) ad_nil))) (ad_cons (pd_tup (ad_cons (pd_neg pd_int) (ad_cons (pd_tup ad_nil) ad_nil))) (ad_cons (pd_tup (ad_cons pd_bl (ad_cons (pd_tup ad_nil) ad_nil))) (ad_cons (pd_tup (ad_cons pd_non (ad_cons (pd_tup ad_nil) ad_nil))) (ad_cons (pd_tup (ad_cons pd_str (ad_cons (pd_tup ad_nil) ad_nil))) (ad_cons (pd_tup (ad_cons pd_int ad_nil)) (ad_cons (pd_tup (ad_cons pd_int (ad_cons (pd_tup ad_nil) (ad_cons (pd_tup ad_nil) ad_nil)))) (ad_cons (PD.str (pd_lst (ad_cons pd_int (ad_cons (pd_tup ad_nil) ad_nil)))) (ad_cons (pd_tup (ad_cons pd_int (ad_cons (PD.str (pd_lst ad_nil)) ad_nil))) (ad_cons (pd_tup (ad_cons pd_int (ad_cons pd_non ad_nil))) ad_nil))))))))))))) (ss_cons (sd_asgN (i := 1) nd rfl (.inl rfl) (pd_add (pd_var (i := 1) rfl (.inl rfl)) (PD.str (pd_lst (ad_cons pd_int (ad_cons pd_non (ad_cons pd_str (ad_cons (pd_tup ad_nil) (ad_cons (PD.str (pd_lst ad_nil)) (ad_cons (pd_tup (ad_cons (pd_tup ad_nil) (ad_cons pd_int ad_nil))) (ad_cons (pd_tup (ad_cons pd_int (ad_cons (pd_tup (ad_cons (pd_tup (ad_cons (pd_tup (ad_cons pd_int (ad_cons pd_int ad_nil))) (ad_cons pd_int ad_nil))) ad_nil)) ad_nil))) (ad_cons (pd_tup (ad_cons pd_int (ad_cons (pd_tup (ad_cons (pd_tup (ad_cons (pd_tup (ad_cons pd_int (ad_cons pd_int ad_nil))) (ad_cons pd_int ad_nil))) ad_nil)) ad_nil))) (ad_cons (pd_tup (ad_cons pd_int (ad_cons (pd_tup (ad_cons (pd_tup (ad_cons (pd_tup (ad_cons (pd_neg pd_int) (ad_cons pd_int ad_nil))) (ad_cons pd_int ad_nil))) ad_nil)) ad_nil))) ad_nil))))))))))))) (ss_cons (sd_asgN (i := 1) nd rfl (.inl rfl) (pd_add (pd_var (i := 1) rfl (.inl rfl)) (PD.str (pd_lst (ad_cons (pd_tup (ad_cons pd_int (ad_cons (pd_tup (ad_cons (pd_tup (ad_cons (pd_tup (ad_cons pd_int (ad_cons pd_int ad_nil))) (ad_cons pd_int ad_nil))) ad_nil)) ad_nil))) (ad_cons (pd_tup (ad_cons pd_int (ad_cons (pd_tup (ad_cons (pd_tup (ad_cons (pd_tup (ad_cons pd_int (ad_cons pd_int ad_nil))) (ad_cons (pd_neg pd_int) ad_nil))) ad_nil)) ad_nil))) (ad_cons (pd_tup (ad_cons pd_int (ad_cons (pd_tup (ad_cons (pd_tup (ad_cons (pd_tup (ad_cons pd_int (ad_cons pd_int ad_nil))) (ad_cons pd_bl ad_nil))) ad_nil)) ad_nil))) (ad_cons (pd_tup (ad_cons pd_int (ad_cons (pd_tup (ad_cons (pd_tup (ad_cons (pd_tup (ad_cons pd_int (ad_cons pd_int ad_nil))) (ad_cons pd_str ad_nil))) ad_nil)) ad_nil))) ad_nil)))))))) (ss_cons (sd_asgN (i := 1) nd rfl (.inl rfl) (pd_add (pd_var (i := 1) rfl (.inl rfl)) (PD.str (pd_lst (ad_cons (pd_tup (ad_cons pd_int (ad_cons (pd_tup (ad_cons (pd_tup (ad_cons (pd_tup (ad_cons pd_int (ad_cons pd_int ad_nil))) ad_nil)) ad_nil)) ad_nil))) (ad_cons (pd_tup (ad_cons pd_int (ad_cons (pd_tup (ad_cons (pd_tup (ad_cons pd_int (ad_cons pd_int ad_nil))) ad_nil)) ad_nil))) (ad_cons (pd_tup (ad_cons pd_int (ad_cons (pd_tup (ad_cons (pd_tup (ad_cons (pd_tup (ad_cons pd_int (ad_cons pd_int (ad_cons pd_int ad_nil)))) (ad_cons pd_int ad_nil))) ad_nil)) ad_nil))) (ad_cons (pd_tup (ad_cons pd_int (ad_cons (pd_tup (ad_cons (pd_tup (ad_cons pd_int (ad_cons pd_int ad_nil))) (ad_cons pd_int ad_nil))) ad_nil))) (ad_cons (pd_tup (ad_cons pd_int (ad_cons (pd_tup (ad_cons (pd_tup (ad_cons (pd_tup (ad_cons pd_int ad_nil)) (ad_cons pd_int ad_nil))) ad_nil)) ad_nil))) ad_nil))))))))) (ss_cons (sd_asgN (i := 1) nd rfl (.inl rfl) (pd_add (pd_var (i := 1) rfl (.inl rfl)) (PD.str (pd_lst (ad_cons (pd_tup (ad_cons pd_int (ad_cons (pd_tup (ad_cons (pd_tup (ad_cons (pd_tup (ad_cons pd_int (ad_cons pd_int ad_nil))) (ad_cons pd_int ad_nil))) (ad_cons (pd_tup (ad_cons (pd_tup (ad_cons pd_int (ad_cons pd_int ad_nil))) (ad_cons pd_int ad_nil))) ad_nil))) ad_nil))) (ad_cons (pd_tup (ad_cons pd_int (ad_cons (pd_tup (ad_cons (pd_tup (ad_cons (pd_tup (ad_cons pd_int (ad_cons pd_int ad_nil))) (ad_cons pd_int ad_nil))) (ad_cons (pd_tup (ad_cons (pd_tup (ad_cons pd_int (ad_cons pd_int ad_nil))) (ad_cons pd_int ad_nil))) ad_nil))) ad_nil))) (ad_cons (pd_tup (ad_cons pd_int (ad_cons (pd_tup (ad_cons (PD.str (pd_lst (ad_cons (pd_tup (ad_cons pd_int (ad_cons pd_int ad_nil))) (ad_cons pd_int ad_nil)))) ad_nil)) ad_nil))) ad_nil))))))) (ss_cons (sd_asgN (i := 1) nd rfl (.inl rfl) (pd_add (pd_var (i := 1) rfl (.inl rfl)) (PD.str (pd_lst (ad_cons (pd_tup (ad_cons pd_int (ad_cons (pd_tup (ad_cons (pd_tup (ad_cons (PD.str (pd_lst (ad_cons pd_int (ad_cons pd_int ad_nil)))) (ad_cons pd_int ad_nil))) ad_nil)) ad_nil))) (ad_cons (pd_tup (ad_cons pd_int (ad_cons (pd_tup (ad_cons (pd_tup (ad_cons (pd_tup (ad_cons pd_bl (ad_cons pd_int ad_nil))) (ad_cons pd_int ad_nil))) ad_nil)) ad_nil))) (ad_cons (pd_tup (ad_cons pd_int (ad_cons (pd_tup (ad_cons (pd_tup (ad_cons (pd_tup (ad_cons pd_int (ad_cons pd_non ad_nil))) (ad_cons pd_int ad_nil))) ad_nil)) ad_nil))) (ad_cons (pd_tup (ad_cons pd_int (ad_cons (pd_tup (ad_cons pd_non ad_nil)) ad_nil))) (ad_cons (pd_tup (ad_cons pd_int (ad_cons pd_str ad_nil))) ad_nil))))))))) (ss_cons (sd_asgN (i := 2) nd rfl (.inl rfl) (pd_tup (ad_cons pd_int (ad_cons (pd_tup ad_nil) ad_nil)))) (ss_cons (sd_for hp hc (id_range1 (bn_any rfl B.range boot_range) pd_int) (gd_name (i := 3) nd rfl (.inl rfl)) (ss_one (sd_asgN (i := 2) nd rfl (.inl rfl) (pd_tup (ad_cons (pd_var (i := 2) rfl (.inl rfl)) ad_nil))))) (ss_cons (sd_lc (i := 4) (own := [("_law_own", 5)]) hc nd rfl rfl rfl rfl (by kernel_rfl) (by kernel_rfl) rfl (id_seq (pd_add (pd_var (i := 0) rfl (.inl rfl)) (pd_var (i := 1) rfl (.inl rfl)))) (fun s H C cl fp => (gd_name (i := 5) nd rfl (.inl rfl))) (fun s H C cl fp => cd_nil) (fun s H C cl fp => (pd_call (k_is_lot.fn hr) tkNone rfl (ga_val (pd_var (i := 5) rfl (.inl rfl)) ga_nil)))) (ss_cons (sd_asgN (i := 4) nd rfl (.inl rfl) (pd_add (pd_var (i := 4) rfl (.inl rfl)) (PD.str (pd_lst (ad_cons (pd_call (k_is_lot.fn hr) tk rfl (ga_val (pd_var (i := 2) rfl (.inl rfl)) ga_nil)) (ad_cons (pd_callK0 (k_is_lot.fnK hr kb_is_lot_0_thing) tk rfl (kd_cons (pd_ix hu (pd_var (i := 0) rfl (.inl rfl)) pd_int) kd_nil) (fun e ds e2 h => have l := (aLenS (fun _ _ _ h => aLen0 h)) e ds e2 h; ⟨l, permL l rfl⟩)) (ad_cons (pd_callK0 (k_is_lot.fnK hr kb_is_lot_0_thing) tk rfl (kd_cons (pd_ix hu (pd_var (i := 1) rfl (.inl rfl)) pd_int) kd_nil) (fun e ds e2 h => have l := (aLenS (fun _ _ _ h => aLen0 h)) e ds e2 h; ⟨l, permL l rfl⟩)) ad_nil))))))) (ss_one (sd_ret (pd_call (k_law_same.fn hr) tk rfl (ga_val (pd_var (i := 4) rfl (.inl rfl)) (ga_val (pd_add (pd_add (pd_mul (PD.str (pd_lst (ad_cons pd_bl ad_nil))) (pd_len (bn_any rfl B.len boot_len) (PD.weak (pd_var (i := 0) rfl (.inl rfl))))) (pd_mul (PD.str (pd_lst (ad_cons pd_bl ad_nil))) (pd_len (bn_any rfl B.len boot_len) (PD.weak (pd_var (i := 1) rfl (.inl rfl)))))) (PD.str (pd_lst (ad_cons pd_bl (ad_cons pd_bl (ad_cons pd_bl ad_nil)))))) ga_nil))))))))))))))))
abbrev n_law_spans : List Str := ["_law_size_so", "_law_found", "_law_near_so", "_law_far_so"]
abbrev p_law_spans : List Str := ["_law_size_so"]
theorem sc_law_spans : FnScope n_law_spans p_law_spans (defScope s_law_spans) := ⟨rfl, rfl, rfl, by decide +kernel, rfl, by decide +kernel, by decide +kernel⟩
theorem b_law_spans : BindsOk "_law_spans" s_law_spans p_law_spans := fun _ _ _ _ _ _ us hl => match us, hl with | [_], _ => rfl
def m_law_spans : DS := (sSeq (sAsgN 1 (eLst aNil)) (sSeq (sFor (iRng1 (eVar 0)) (gN 2) (sAsgN 1 (e2 dAdd (eVar 1) (eLc [3] (iRng2 (eVar 2) (eVar 0)) (gN 3) tYes (eTup (aCons (eVar 2) (aCons (eVar 3) aNil))))))) (sRet (eVar 1))))
def f_law_spans : DF := mkF 4 [.val] m_law_spans
theorem ok_law_spans {P : Program} {w : World} {K : PySem.W.Frag} {mg : Str → Option Value} {base : Heap} (B : Bf mg) (F : Fu K mg "_law_spans" s_law_spans) : Kn P w K mg base .s "_law_spans" s_law_spans n_law_spans p_law_spans [.val] f_law_spans 1 := kn_of F sc_law_spans rfl b_law_spans (.inl ⟨rfl, rfl⟩) fun f cdv A outer s H E hr tk hp => by
  have nd : n_law_spans.Nodup := sc_law_spans.nd
  have hc : (cxD P w K mg base n_law_spans "_law_spans" (defScope s_law_spans) f cdv A outer s H E).calm = true := rfl
  have hu := room_u hr
  exact (ss_cons (sd_asgN (i := 1) nd rfl (.inl rfl) (PD.str (pd_lst ad_nil))) (ss_cons (sd_for hp hc (id_range1 (bn_any rfl B.range boot_range) (pd_var (i := 0) rfl (.inl rfl))) (gd_name (i := 2) nd rfl (.inr rfl)) (ss_one (sd_asgN (i := 1) nd rfl (.inl rfl) (pd_add (pd_var (i := 1) rfl (.inl rfl)) (PD.str (pd_lc (own := [("_law_far_so", 3)]) hc nd (by kernel_rfl) rfl (id_range2 (bn_any rfl B.range boot_range) (pd_var (i := 2) rfl (.inr (.inl rfl))) (pd_var (i := 0) rfl (.inl rfl))) (fun s H C cl fp => (gd_name (i := 3) nd rfl (.inl rfl))) (fun s H C cl fp => cd_nil) (fun s H C cl fp => (pd_tup (ad_cons (pd_var (i := 2) rfl (.inr (.inl rfl))) (ad_cons (pd_var (i := 3) rfl (.inl rfl)) ad_nil)))))))))) (ss_one (sd_ret (pd_var (i := 1) rfl (.inl rfl))))))
abbrev n_law_take : List Str := ["_law_box_here", "_law_below_so", "_law_drawn_so", "_law_once", "_law_far_so", "_law_twice_so"]
abbrev p_law_take : List Str := ["_law_box_here", "_law_below_so"]
theorem sc_law_take : FnScope n_law_take p_law_take (defScope s_law_take) := ⟨rfl, rfl, rfl, by decide +kernel, rfl, by decide +kernel, by decide +kernel⟩
theorem b_law_take : BindsOk "_law_take" s_law_take p_law_take := fun _ _ _ _ _ _ us hl => match us, hl with | [_, _], _ => rfl
def m_law_take : DS := (sSeq (sIf (c2 dGt (e2L dIx 0 (eC (.int 0))) (eC (.int 0))) (sSeq (sAsgN 2 (e2 dMod (e1 dInt (e2L dIx 0 (eC (.int 0)))) (eVar 1))) (sSeq (sSetL 0 (eC (.int 0)) (e2 dDiv (e2L dIx 0 (eC (.int 0))) (eVar 1))) (sRet (eVar 2)))) sNil) (sSeq (sSetL 0 (eC (.int 2)) (e2 dAdd (e2L dIx 0 (eC (.int 2))) (eC (.int 1)))) (sSeq (sAsgN 3 (e2 dMod (e1 dInt (e2 dMul (e2 dAdd (e2L dIx 0 (eC (.int 1))) (e2 dMul (eC (.int 48271)) (e2L dIx 0 (eC (.int 2))))) (e2 dAdd (eC (.int 39373)) (e2L dIx 0 (eC (.int 2)))))) (eC (.int 2147483647)))) (sSeq (sAsgN 4 (e2 dAdd (e2 dMod (e1 dInt (eVar 3)) (eC (.int 40009))) (eC (.int 7)))) (sSeq (sAsgN 5 (e2 dMod (e1 dInt (e2 dMul (e2 dAdd (e2 dAdd (eVar 3) (e2L dIx 0 (eC (.int 2)))) (e2 dDiv (e2L dIx 0 (eC (.int 1))) (eC (.int 1000003)))) (eVar 4))) (eC (.int 2147483629)))) (sRet (e2 dMod (e1 dInt (e2 dDiv (e2 dMod (e1 dInt (e2 dAdd (e2 dMul (eVar 5) (eC (.int 48271))) (eVar 3))) (eC (.int 2147483587))) (eC (.int 64)))) (eVar 1))))))))
def f_law_take : DF := mkF 6 [.bor, .val] m_law_take
theorem ok_law_take {P : Program} {w : World} {K : PySem.W.Frag} {mg : Str → Option Value} {base : Heap} (B : Bf mg) (F : Fu K mg "_law_take" s_law_take) : Kn P w K mg base .s "_law_take" s_law_take n_law_take p_law_take [.bor, .val] f_law_take 1 := kn_of F sc_law_take rfl b_law_take (.inl ⟨rfl, rfl⟩) fun f cdv A outer s H E hr tk hp => by
  have nd : n_law_take.Nodup := sc_law_take.nd
  have hc : (cxD P w K mg base n_law_take "_law_take" (defScope s_law_take) f cdv A outer s H E).calm = true := rfl
  have hu := room_u hr
  exact (ss_cons (sd_if (td_cmp ck_gt (pd_ixL (i := 0) hu rfl (.inl rfl) pd_int) (PD.weak pd_int) rfl) (ss_cons (sd_asgN (i := 2) nd rfl (.inl rfl) (pd_mod (pd_toint (bn_any rfl B.int boot_int) (pd_ixL (i := 0) hu rfl (.inl rfl) pd_int)) (pd_var (i := 1) rfl (.inl rfl)))) (ss_cons (sd_setL (i := 0) rfl (.inl rfl) pd_int (pd_div (pd_ixL (i := 0) hu rfl (.inl rfl) pd_int) (pd_var (i := 1) rfl (.inl rfl)))) (ss_one (sd_ret (pd_var (i := 2) rfl (.inl rfl)))))) ss_nil) (ss_cons (sd_setL (i := 0) rfl (.inl rfl) pd_int (pd_add (pd_ixL (i := 0) hu rfl (.inl rfl) pd_int) pd_int)) (ss_cons (sd_asgN (i := 3) nd rfl (.inl rfl) (pd_mod (pd_toint (bn_any rfl B.int boot_int) (pd_mul (pd_add (pd_ixL (i := 0) hu rfl (.inl rfl) pd_int) (pd_mul pd_int (pd_ixL (i := 0) hu rfl (.inl rfl) pd_int))) (pd_add pd_int (pd_ixL (i := 0) hu rfl (.inl rfl) pd_int)))) pd_int)) (ss_cons (sd_asgN (i := 4) nd rfl (.inl rfl) (pd_add (pd_mod (pd_toint (bn_any rfl B.int boot_int) (pd_var (i := 3) rfl (.inl rfl))) pd_int) pd_int)) (ss_cons (sd_asgN (i := 5) nd rfl (.inl rfl) (pd_mod (pd_toint (bn_any rfl B.int boot_int) (pd_mul (pd_add (pd_add (pd_var (i := 3) rfl (.inl rfl)) (pd_ixL (i := 0) hu rfl (.inl rfl) pd_int)) (pd_div (pd_ixL (i := 0) hu rfl (.inl rfl) pd_int) pd_int)) (pd_var (i := 4) rfl (.inl rfl)))) pd_int)) (ss_one (sd_ret (pd_mod (pd_toint (bn_any rfl B.int boot_int) (pd_div (pd_mod (pd_toint (bn_any rfl B.int boot_int) (pd_add (pd_mul (pd_var (i := 5) rfl (.inl rfl)) pd_int) (pd_var (i := 3) rfl (.inl rfl)))) pd_int) pd_int)) (pd_var (i := 1) rfl (.inl rfl))))))))))
abbrev n_law_lot : List Str := ["_law_box_here", "_law_size_so", "_law_top_so", "_law_sort_so", "_law_found", "_law_span_so", "_law_many_so"]
abbrev p_law_lot : List Str := ["_law_box_here", "_law_size_so", "_law_top_so"]
theorem sc_law_lot : FnScope n_law_lot p_law_lot (defScope s_law_lot) := ⟨rfl, rfl, rfl, by decide +kernel, rfl, by decide +kernel, by decide +kernel⟩
theorem b_law_lot : BindsOk "_law_lot" s_law_lot p_law_lot := fun _ _ _ _ _ _ us hl => match us, hl with | [_, _, _], _ => rfl
def m_law_lot : DS := (sSeq (sPar [(3, false), (4, true)] [.e (eCall f_law_take [.lend 0, .e (eC (.int 4))]), .new (eLst aNil)]) (sSeq (sFor (iSeq (eCall f_law_spans [.e (eVar 1)])) (gN 5) (sSeq (sAsgN 6 (eIf (tOr (c2 dLt (eVar 3) (eC (.int 1))) (c2 dEq (eCall f_law_take [.lend 0, .e (e2 dAdd (eC (.int 1)) (eVar 3))]) (eC (.int 0)))) (eCall f_law_take [.lend 0, .e (e2 dAdd (eVar 2) (eC (.int 1)))]) (eC (.int 0)))) (sIf (c2 dGt (eVar 6) (eC (.int 0))) (sApp 4 (eTup (aCons (eVar 5) (aCons (eVar 6) aNil)))) sNil))) (sSeq (sRelL 4) (sRet (eTup (aCons (eVar 1) (aCons (e1 dTuple (eVar 4)) aNil)))))))
def f_law_lot : DF := mkF 7 [.bor, .val, .val] m_law_lot
theorem ok_law_lot {P : Program} {w : World} {K : PySem.W.Frag} {mg : Str → Option Value} {base : Heap} (B : Bf mg) (F : Fu K mg "_law_lot" s_law_lot) (k_law_spans : Kn P w K mg base .s "_law_spans" s_law_spans n_law_spans p_law_spans [.val] f_law_spans 1) (k_law_take : Kn P w K mg base .s "_law_take" s_law_take n_law_take p_law_take [.bor, .val] f_law_take 1) : Kn P w K mg base .s "_law_lot" s_law_lot n_law_lot p_law_lot [.bor, .val, .val] f_law_lot 2 := kn_of F sc_law_lot rfl b_law_lot (.inl ⟨rfl, rfl⟩) fun f cdv A outer s H E hr tk hp => by
  have nd : n_law_lot.Nodup := sc_law_lot.nd
  have hc : (cxD P w K mg base n_law_lot "_law_lot" (defScope s_law_lot) f cdv A outer s H E).calm = true := rfl
  have hu := room_u hr
  exact (ss_cons (sd_par2 (i := 3) (j := 4) hc nd rfl rfl (by decide) rfl rfl (ga_val (pd_call (k_law_take.fn hr) tk rfl (ga_lend (i := 0) rfl (.inl rfl) (ga_val pd_int ga_nil))) (ga_new (pd_lst ad_nil) ga_nil)) rfl rfl) (ss_cons (sd_for hp hc (id_seq (pd_call (k_law_spans.fn hr) tk rfl (ga_val (pd_var (i := 1) rfl (.inl rfl)) ga_nil))) (gd_name (i := 5) nd rfl (.inl rfl)) (ss_cons (sd_asgN (i := 6) nd rfl (.inl rfl) (pd_if (WD.td (wd_or (td_cmp (ck_lt hu) (pd_var (i := 3) rfl (.inl rfl)) (PD.weak pd_int) rfl) (wd_or1 (td_cmp (ck_eq hu) (pd_call (k_law_take.fn hr) tk rfl (ga_lend (i := 0) rfl (.inl rfl) (ga_val (pd_add pd_int (pd_var (i := 3) rfl (.inl rfl))) ga_nil))) (PD.weak pd_int) rfl)))) (pd_call (k_law_take.fn hr) tk rfl (ga_lend (i := 0) rfl (.inl rfl) (ga_val (pd_add (pd_var (i := 2) rfl (.inl rfl)) pd_int) ga_nil))) pd_int)) (ss_one (sd_if (td_cmp ck_gt (pd_var (i := 6) rfl (.inl rfl)) (PD.weak pd_int) rfl) (ss_one (sd_app (i := 4) rfl (.inl rfl) (pd_tup (ad_cons (pd_var (i := 5) rfl (.inl rfl)) (ad_cons (pd_var (i := 6) rfl (.inl rfl)) ad_nil))))) ss_nil)))) (ss_rel (i := 4) (ss_one (sd_ret (pd_tup (ad_cons (pd_var (i := 1) rfl (.inl rfl)) (ad_cons (pd_tuple (bn_any rfl B.tuple boot_tuple) (pd_var (i := 4) rfl (.inl rfl))) ad_nil))))))))
abbrev n_law_of : List Str := ["_law_box_here", "_law_pool_so"]
abbrev p_law_of : List Str := ["_law_box_here", "_law_pool_so"]
theorem sc_law_of : FnScope n_law_of p_law_of (defScope s_law_of) := ⟨rfl, rfl, rfl, by decide +kernel, rfl, by decide +kernel, by decide +kernel⟩
theorem b_law_of : BindsOk "_law_of" s_law_of p_law_of := fun _ _ _ _ _ _ us hl => match us, hl with | [_, _], _ => rfl
def m_law_of : DS := (sRet (e2 dIx (eVar 1) (eCall f_law_take [.lend 0, .e (e1 dLen (eVar 1))])))
def f_law_of : DF := mkF 2 [.bor, .val] m_law_of
theorem ok_law_of {P : Program} {w : World} {K : PySem.W.Frag} {mg : Str → Option Value} {base : Heap} (B : Bf mg) (F : Fu K mg "_law_of" s_law_of) (k_law_take : Kn P w K mg base .s "_law_take" s_law_take n_law_take p_law_take [.bor, .val] f_law_take 1) : Kn P w K mg base .s "_law_of" s_law_of n_law_of p_law_of [.bor, .val] f_law_of 2 := kn_of F sc_law_of rfl b_law_of (.inl ⟨rfl, rfl⟩) fun f cdv A outer s H E hr tk hp => by
  have nd : n_law_of.Nodup := sc_law_of.nd
  have hc : (cxD P w K mg base n_law_of "_law_of" (defScope s_law_of) f cdv A outer s H E).calm = true := rfl
  have hu := room_u hr
  exact (ss_one (sd_ret (pd_ix hu (pd_var (i := 1) rfl (.inl rfl)) (pd_call (k_law_take.fn hr) tk rfl (ga_lend (i := 0) rfl (.inl rfl) (ga_val (pd_len (bn_any rfl B.len boot_len) (PD.weak (pd_var (i := 1) rfl (.inl rfl)))) ga_nil))))))
abbrev n_law_odd : List Str := ["_law_box_here", "_law_matter", "_law_k", "_law_some"]
abbrev p_law_odd : List Str := ["_law_box_here", "_law_matter"]
theorem sc_law_odd : FnScope n_law_odd p_law_odd (defScope s_law_odd) := ⟨rfl, rfl, rfl, by decide +kernel, rfl, by decide +kernel, by decide +kernel⟩
theorem b_law_odd : BindsOk "_law_odd" s_law_odd p_law_odd := fun _ _ _ _ _ _ us hl => match us, hl with | [_, _], _ => rfl
def m_law_odd (n_f : DF) : DS := (sSeq (sIf (tAnd (tV (eIsi .tuple (eVar 1))) (tAnd (c2 dNe (eVar 1) (eTup aNil)) (c2 dGt (eCall f_law_take [.lend 0, .e (eC (.int 6))]) (eC (.int 0))))) (sSeq (sAsgN 2 (eCall f_law_take [.lend 0, .e (e1 dLen (eVar 1))])) (sRet (e2 dAdd (e2 dAdd (eSl (eVar 1) oNone (oSome (eVar 2))) (eTup (aCons (eCall n_f [.lend 0, .e (e2 dIx (eVar 1) (eVar 2))]) aNil))) (eSl (eVar 1) (oSome (e2 dAdd (eVar 2) (eC (.int 1)))) oNone)))) sNil) (sSeq (sAsgN 3 (eLst (aCons (eC .non) (aCons (eC (.bl true)) (aCons (eC (.bl false)) (aCons (eC (.int 0)) (aCons (eC (.int 1)) (aCons (e1 dNeg (eC (.int 1))) (aCons (eC (.int 2)) (aCons (eC (.int 7)) (aCons (eC (.str "")) (aCons (eC (.str "1")) (aCons (eTup aNil) (aCons (eLst aNil) (aCons (eTup (aCons (eC (.int 0)) aNil)) (aCons (eTup (aCons (eC (.int 0)) (aCons (eC (.int 1)) aNil))) (aCons (eTup (aCons (eTup (aCons (eC (.int 0)) (aCons (eC (.int 1)) aNil))) (aCons (eC (.int 1)) aNil))) (aCons (e2 dPow (eC (.int 10)) (eC (.int 50))) aNil)))))))))))))))))) (sSeq (sIf (tV (eIsi .tuple (eVar 1))) (sAsgN 3 (e2 dAdd (eVar 3) (eLst (aCons (e1 dList (eVar 1)) (aCons (e1 dRev (eVar 1)) (aCons (eSl (eVar 1) (oSome (eC (.int 1))) oNone) (aCons (e2 dAdd (eVar 1) (eSl (eVar 1) (oSome (e1 dNeg (eC (.int 1)))) oNone)) (aCons (eTup (aCons (eVar 1) aNil)) (aCons (eSl (eVar 1) oNone (oSome (eC (.int 1)))) aNil))))))))) sNil) (sRet (eCall f_law_of [.lend 0, .e (eVar 3)])))))
def f_law_odd : Nat → DF
  | 0 => fun _ => .bad
  | n + 1 => mkF 4 [.bor, .val] (m_law_odd (f_law_odd n))
theorem ok_law_odd {P : Program} {w : World} {K : PySem.W.Frag} {mg : Str → Option Value} {base : Heap} (B : Bf mg) (F : Fu K mg "_law_odd" s_law_odd) (k_law_of : Kn P w K mg base .s "_law_of" s_law_of n_law_of p_law_of [.bor, .val] f_law_of 2) (k_law_take : Kn P w K mg base .s "_law_take" s_law_take n_law_take p_law_take [.bor, .val] f_law_take 1) : ∀ n : Nat, Kn P w K mg base .s "_law_odd" s_law_odd n_law_odd p_law_odd [.bor, .val] (f_law_odd n) (3 + n)
  | 0 => kn_bad F rfl b_law_odd
  | n + 1 => kn_of F sc_law_odd rfl b_law_odd (.inl ⟨rfl, rfl⟩) fun f cdv A outer s H E hr tk hp => by
    have k_law_odd := ok_law_odd (P := P) (w := w) (base := base) B F k_law_of k_law_take n
    have nd : n_law_odd.Nodup := sc_law_odd.nd
    have hc : (cxD P w K mg base n_law_odd "_law_odd" (defScope s_law_odd) f cdv A outer s H E).calm = true := rfl
    have hu := room_u hr
    exact (ss_cons (sd_if (WD.td (wd_and (td_val (pd_isi (t := .tuple) (bn_any rfl B.isinstance boot_isinstance) (bn_any rfl B.tuple boot_tuple) (pd_var (i := 1) rfl (.inl rfl)))) (wd_and (td_cmp (ck_ne hu) (pd_var (i := 1) rfl (.inl rfl)) (PD.weak (pd_tup ad_nil)) rfl) (wd_and1 (td_cmp ck_gt (pd_call (k_law_take.fn hr (show 1 ≤ 3 + n by omega)) tk rfl (ga_lend (i := 0) rfl (.inl rfl) (ga_val pd_int ga_nil))) (PD.weak pd_int) rfl))))) (ss_cons (sd_asgN (i := 2) nd rfl (.inl rfl) (pd_call (k_law_take.fn hr (show 1 ≤ 3 + n by omega)) tk rfl (ga_lend (i := 0) rfl (.inl rfl) (ga_val (pd_len (bn_any rfl B.len boot_len) (PD.weak (pd_var (i := 1) rfl (.inl rfl)))) ga_nil)))) (ss_one (sd_ret (pd_add (pd_add (pd_sl (pd_var (i := 1) rfl (.inl rfl)) od_none (od_some (pd_var (i := 2) rfl (.inl rfl)))) (pd_tup (ad_cons (pd_call (k_law_odd.fn hr (Nat.le_refl _)) tk rfl (ga_lend (i := 0) rfl (.inl rfl) (ga_val (pd_ix hu (pd_var (i := 1) rfl (.inl rfl)) (pd_var (i := 2) rfl (.inl rfl))) ga_nil))) ad_nil))) (pd_sl (pd_var (i := 1) rfl (.inl rfl)) (od_some (pd_add (pd_var (i := 2) rfl (.inl rfl)) pd_int)) od_none))))) ss_nil) (ss_cons (sd_asgN (i := 3) nd rfl (.inl rfl) (PD.str (pd_lst (ad_cons pd_non (ad_cons pd_bl (ad_cons pd_bl (ad_cons pd_int (ad_cons pd_int (ad_cons (pd_neg pd_int) (ad_cons pd_int (ad_cons pd_int (ad_cons pd_str (ad_cons pd_str (ad_cons (pd_tup ad_nil) (ad_cons (PD.str (pd_lst ad_nil)) (ad_cons (pd_tup (ad_cons pd_int ad_nil)) (ad_cons (pd_tup (ad_cons pd_int (ad_cons pd_int ad_nil))) (ad_cons (pd_tup (ad_cons (pd_tup (ad_cons pd_int (ad_cons pd_int ad_nil))) (ad_cons pd_int ad_nil))) (ad_cons (pd_pow pd_int pd_int) ad_nil))))))))))))))))))) (ss_cons (sd_if (td_val (pd_isi (t := .tuple) (bn_any rfl B.isinstance boot_isinstance) (bn_any rfl B.tuple boot_tuple) (pd_var (i := 1) rfl (.inl rfl)))) (ss_one (sd_asgN (i := 3) nd rfl (.inl rfl) (pd_add (pd_var (i := 3) rfl (.inl rfl)) (PD.str (pd_lst (ad_cons (PD.str (pd_list (bn_any rfl B.list boot_list) (PD.weak (pd_var (i := 1) rfl (.inl rfl))))) (ad_cons (pd_rev (pd_var (i := 1) rfl (.inl rfl))) (ad_cons (pd_sl (pd_var (i := 1) rfl (.inl rfl)) (od_some pd_int) od_none) (ad_cons (pd_add (pd_var (i := 1) rfl (.inl rfl)) (pd_sl (pd_var (i := 1) rfl (.inl rfl)) (od_some (pd_neg pd_int)) od_none)) (ad_cons (pd_tup (ad_cons (pd_var (i := 1) rfl (.inl rfl)) ad_nil)) (ad_cons (pd_sl (pd_var (i := 1) rfl (.inl rfl)) od_none (od_some pd_int)) ad_nil))))))))))) ss_nil) (ss_one (sd_ret (pd_call (k_law_of.fn hr (show 2 ≤ 3 + n by omega)) tk rfl (ga_lend (i := 0) rfl (.inl rfl) (ga_val (pd_var (i := 3) rfl (.inl rfl)) ga_nil))))))))
abbrev n_law_lists : List Str := ["_law_matter", "_law_bit"]
abbrev p_law_lists : List Str := ["_law_matter"]
theorem sc_law_lists : FnScope n_law_lists p_law_lists (defScope s_law_lists) := ⟨rfl, rfl, rfl, by decide +kernel, rfl, by decide +kernel, by decide +kernel⟩
theorem b_law_lists : BindsOk "_law_lists" s_law_lists p_law_lists := fun _ _ _ _ _ _ us hl => match us, hl with | [_], _ => rfl
def m_law_lists (n_f : DF) : DS := (sRet (eIf (tV (eIsi2 .list .tuple (eVar 0))) (eLc [1] (iSeq (eVar 0)) (gN 1) tYes (eCall n_f [.e (eVar 1)])) (eVar 0)))
def f_law_lists : Nat → DF
  | 0 => fun _ => .bad
  | n + 1 => mkF 2 [.val] (m_law_lists (f_law_lists n))
theorem ok_law_lists {P : Program} {w : World} {K : PySem.W.Frag} {mg : Str → Option Value} {base : Heap} (B : Bf mg) (F : Fu K mg "_law_lists" s_law_lists) : ∀ n : Nat, Kn P w K mg base .s "_law_lists" s_law_lists n_law_lists p_law_lists [.val] (f_law_lists n) (1 + n)
  | 0 => kn_bad F rfl b_law_lists
  | n + 1 => kn_of F sc_law_lists rfl b_law_lists (.inl ⟨rfl, rfl⟩) fun f cdv A outer s H E hr tk hp => by
    have k_law_lists := ok_law_lists (P := P) (w := w) (base := base) B F n
    have nd : n_law_lists.Nodup := sc_law_lists.nd
    have hc : (cxD P w K mg base n_law_lists "_law_lists" (defScope s_law_lists) f cdv A outer s H E).calm = true := rfl
    have hu := room_u hr
    exact (ss_one (sd_ret (pd_if (td_val (pd_isi2 (t := .list) (u := .tuple) (bn_any rfl B.isinstance boot_isinstance) (bn_any rfl B.list boot_list) (bn_any rfl B.tuple boot_tuple) (pd_var (i := 0) rfl (.inl rfl)))) (PD.str (pd_lc (own := [("_law_bit", 1)]) hc nd (by kernel_rfl) rfl (id_seq (pd_var (i := 0) rfl (.inl rfl))) (fun s H C cl fp => (gd_name (i := 1) nd rfl (.inl rfl))) (fun s H C cl fp => cd_nil) (fun s H C cl fp => (pd_call (k_law_lists.fn hr (Nat.le_refl _)) tkNone rfl (ga_val (pd_var (i := 1) rfl (.inl rfl)) ga_nil))))) (pd_var (i := 0) rfl (.inl rfl)))))
abbrev n_law_is_whole : List Str := ["_law_own"]
abbrev p_law_is_whole : List Str := ["_law_own"]
theorem sc_law_is_whole : FnScope n_law_is_whole p_law_is_whole (defScope s_law_is_whole) := ⟨rfl, rfl, rfl, by decide +kernel, rfl, by decide +kernel, by decide +kernel⟩
theorem b_law_is_whole : BindsOk "_law_is_whole" s_law_is_whole p_law_is_whole := fun _ _ _ _ _ _ us hl => match us, hl with | [_], _ => rfl
def m_law_is_whole : DS := (sRet (eAnd (eIsi .int (eVar 0)) (eNot (eIsi .bool (eVar 0)))))
def f_law_is_whole : DF := mkF 1 [.val] m_law_is_whole
theorem ok_law_is_whole {P : Program} {w : World} {K : PySem.W.Frag} {mg : Str → Option Value} {base : Heap} (B : Bf mg) (F : Fu K mg "_law_is_whole" s_law_is_whole) : Kn P w K mg base .s "_law_is_whole" s_law_is_whole n_law_is_whole p_law_is_whole [.val] f_law_is_whole 1 := kn_of F sc_law_is_whole rfl b_law_is_whole (.inl ⟨rfl, rfl⟩) fun f cdv A outer s H E hr tk hp => by
  have nd : n_law_is_whole.Nodup := sc_law_is_whole.nd
  have hc : (cxD P w K mg base n_law_is_whole "_law_is_whole" (defScope s_law_is_whole) f cdv A outer s H E).calm = true := rfl
  have hu := room_u hr
  exact (ss_one (sd_ret (pd_and (pd_isi (t := .int) (bn_any rfl B.isinstance boot_isinstance) (bn_any rfl B.int boot_int) (pd_var (i := 0) rfl (.inl rfl))) (pd_one (pd_not (pd_isi (t := .bool) (bn_any rfl B.isinstance boot_isinstance) (bn_any rfl B.bool boot_bool) (pd_var (i := 0) rfl (.inl rfl))))))))
abbrev n_law_is_lot : List Str := ["_law_matter", "_law_own", "_law_bit", "_law_k"]
abbrev p_law_is_lot : List Str := ["_law_matter"]
theorem sc_law_is_lot : FnScope n_law_is_lot p_law_is_lot (defScope s_law_is_lot) := ⟨rfl, rfl, rfl, by decide +kernel, rfl, by decide +kernel, by decide +kernel⟩
theorem b_law_is_lot : BindsOk "_law_is_lot" s_law_is_lot p_law_is_lot := fun _ _ _ _ _ _ us hl => match us, hl with | [_], _ => rfl
def m_law_is_lot : DS := (sSeq (sIf (tOr (tNot (tV (eIsi .tuple (eVar 0)))) (tOr (c2 dNe (e1 dLen (eVar 0)) (eC (.int 2))) (tOr (tNot (tV (eCall f_law_is_whole [.e (e2 dIx (eVar 0) (eC (.int 0)))]))) (c2 dLt (e2 dIx (eVar 0) (eC (.int 0))) (eC (.int 1)))))) (sRet (eC (.bl false))) sNil) (sSeq (sIf (tNot (tV (eIsi .tuple (e2 dIx (eVar 0) (eC (.int 1)))))) (sRet (eC (.bl false))) sNil) (sSeq (sFor (iSeq (e2 dIx (eVar 0) (eC (.int 1)))) (gN 1) (sSeq (sIf (tOr (tNot (tV (eIsi .tuple (eVar 1)))) (tOr (c2 dNe (e1 dLen (eVar 1)) (eC (.int 2))) (tOr (tNot (tV (eCall f_law_is_whole [.e (e2 dIx (eVar 1) (eC (.int 1)))]))) (c2 dLt (e2 dIx (eVar 1) (eC (.int 1))) (eC (.int 1)))))) (sRet (eC (.bl false))) sNil) (sSeq (sIf (tOr (tNot (tV (eIsi .tuple (e2 dIx (eVar 1) (eC (.int 0)))))) (tOr (c2 dNe (e1 dLen (e2 dIx (eVar 1) (eC (.int 0)))) (eC (.int 2))) (tNot (tV (e1 dAll (eLc [2] (iSeq (e2 dIx (eVar 1) (eC (.int 0)))) (gN 2) tYes (eCall f_law_is_whole [.e (eVar 2)]))))))) (sRet (eC (.bl false))) sNil) (sIf (tNot (c4 dLe dLe dLt (eC (.int 0)) (e2 dIx (e2 dIx (eVar 1) (eC (.int 0))) (eC (.int 0))) (e2 dIx (e2 dIx (eVar 1) (eC (.int 0))) (eC (.int 1))) (e2 dIx (eVar 0) (eC (.int 0))))) (sRet (eC (.bl false))) sNil)))) (sRet (eB (c2 dEq (eLc [3] (iRng2 (eC (.int 1)) (e1 dLen (e2 dIx (eVar 0) (eC (.int 1))))) (gN 3) (c2 dLe (e2 dIx (e2 dIx (e2 dIx (eVar 0) (eC (.int 1))) (eVar 3)) (eC (.int 0))) (e2 dIx (e2 dIx (e2 dIx (eVar 0) (eC (.int 1))) (e2 dSub (eVar 3) (eC (.int 1)))) (eC (.int 0)))) (eVar 3)) (eLst aNil)))))))
def f_law_is_lot : DF := mkF 4 [.val] m_law_is_lot
theorem ok_law_is_lot {P : Program} {w : World} {K : PySem.W.Frag} {mg : Str → Option Value} {base : Heap} (B : Bf mg) (F : Fu K mg "_law_is_lot" s_law_is_lot) (k_law_is_whole : Kn P w K mg base .s "_law_is_whole" s_law_is_whole n_law_is_whole p_law_is_whole [.val] f_law_is_whole 1) : Kn P w K mg base .s "_law_is_lot" s_law_is_lot n_law_is_lot p_law_is_lot [.val] f_law_is_lot 2 := kn_of F sc_law_is_lot rfl b_law_is_lot (.inl ⟨rfl, rfl⟩) fun f cdv A outer s H E hr tk hp => by
  have nd : n_law_is_lot.Nodup := sc_law_is_lot.nd
  have hc : (cxD P w K mg base n_law_is_lot "_law_is_lot" (defScope s_law_is_lot) f cdv A outer s H E).calm = true := rfl
  have hu := room_u hr
  exact (ss_cons (sd_if (WD.td (wd_or (td_not (td_val (pd_isi (t := .tuple) (bn_any rfl B.isinstance boot_isinstance) (bn_any rfl B.tuple boot_tuple) (pd_var (i := 0) rfl (.inr (.inl rfl)))))) (wd_or (td_cmp (ck_ne hu) (pd_len (bn_any rfl B.len boot_len) (PD.weak (pd_var (i := 0) rfl (.inr (.inl rfl))))) (PD.weak pd_int) rfl) (wd_or (td_not (td_val (pd_call (k_law_is_whole.fn hr) tk rfl (ga_val (pd_ix hu (pd_var (i := 0) rfl (.inr (.inl rfl))) pd_int) ga_nil)))) (wd_or1 (td_cmp (ck_lt hu) (pd_ix hu (pd_var (i := 0) rfl (.inr (.inl rfl))) pd_int) (PD.weak pd_int) rfl)))))) (ss_one (sd_ret pd_bl)) ss_nil) (ss_cons (sd_if (td_not (td_val (pd_isi (t := .tuple) (bn_any rfl B.isinstance boot_isinstance) (bn_any rfl B.tuple boot_tuple) (pd_ix hu (pd_var (i := 0) rfl (.inr (.inl rfl))) pd_int)))) (ss_one (sd_ret pd_bl)) ss_nil) (ss_cons (sd_for hp hc (id_seq (pd_ix hu (pd_var (i := 0) rfl (.inr (.inl rfl))) pd_int)) (gd_name (i := 1) nd rfl (.inl rfl)) (ss_cons (sd_if (WD.td (wd_or (td_not (td_val (pd_isi (t := .tuple) (bn_any rfl B.isinstance boot_isinstance) (bn_any rfl B.tuple boot_tuple) (pd_var (i := 1) rfl (.inl rfl))))) (wd_or (td_cmp (ck_ne hu) (pd_len (bn_any rfl B.len boot_len) (PD.weak (pd_var (i := 1) rfl (.inl rfl)))) (PD.weak pd_int) rfl) (wd_or (td_not (td_val (pd_call (k_law_is_whole.fn hr) tk rfl (ga_val (pd_ix hu (pd_var (i := 1) rfl (.inl rfl)) pd_int) ga_nil)))) (wd_or1 (td_cmp (ck_lt hu) (pd_ix hu (pd_var (i := 1) rfl (.inl rfl)) pd_int) (PD.weak pd_int) rfl)))))) (ss_one (sd_ret pd_bl)) ss_nil) (ss_cons (sd_if (WD.td (wd_or (td_not (td_val (pd_isi (t := .tuple) (bn_any rfl B.isinstance boot_isinstance) (bn_any rfl B.tuple boot_tuple) (pd_ix hu (pd_var (i := 1) rfl (.inl rfl)) pd_int)))) (wd_or (td_cmp (ck_ne hu) (pd_len (bn_any rfl B.len boot_len) (PD.weak (pd_ix hu (pd_var (i := 1) rfl (.inl rfl)) pd_int))) (PD.weak pd_int) rfl) (wd_or1 (td_not (td_val (pd_all hc (bn_any rfl B.all boot_all) (PD.weak (PD.str (pd_lc (own := [("_law_bit", 2)]) hc nd (by kernel_rfl) rfl (id_seq (pd_ix hu (pd_var (i := 1) rfl (.inl rfl)) pd_int)) (fun s H C cl fp => (gd_name (i := 2) nd rfl (.inl rfl))) (fun s H C cl fp => cd_nil) (fun s H C cl fp => (pd_call (k_law_is_whole.fn hr) tkNone rfl (ga_val (pd_var (i := 2) rfl (.inl rfl)) ga_nil))))))))))))) (ss_one (sd_ret pd_bl)) ss_nil) (ss_one (sd_if (td_not (td_chain4 (ck_le hu) (ck_le hu) (ck_lt hu) pd_int (pd_ix hu (pd_ix hu (pd_var (i := 1) rfl (.inl rfl)) pd_int) pd_int) (pd_ix hu (pd_ix hu (pd_var (i := 1) rfl (.inl rfl)) pd_int) pd_int) (PD.weak (pd_ix hu (pd_var (i := 0) rfl (.inr (.inl rfl))) pd_int)))) (ss_one (sd_ret pd_bl)) ss_nil))))) (ss_one (sd_ret (pd_cmp (ck_eq hu) (PD.str (pd_lc (own := [("_law_k", 3)]) hc nd (by kernel_rfl) rfl (id_range2 (bn_any rfl B.range boot_range) pd_int (pd_len (bn_any rfl B.len boot_len) (PD.weak (pd_ix hu (pd_var (i := 0) rfl (.inr (.inl rfl))) pd_int)))) (fun s H C cl fp => (gd_name (i := 3) nd rfl (.inl rfl))) (fun s H C cl fp => (cd_one (td_cmp (ck_le hu) (pd_ix hu (pd_ix hu (pd_ix hu (pd_var (i := 0) rfl (.inr (.inl rfl))) pd_int) (pd_var (i := 3) rfl (.inl rfl))) pd_int) (PD.weak (pd_ix hu (pd_ix hu (pd_ix hu (pd_var (i := 0) rfl (.inr (.inl rfl))) pd_int) (pd_sub (pd_var (i := 3) rfl (.inl rfl)) pd_int)) pd_int)) rfl))) (fun s H C cl fp => (pd_var (i := 3) rfl (.inl rfl))))) (PD.weak (PD.str (pd_lst ad_nil))) rfl))))))
abbrev n_law_right : List Str := ["_law_box_here", "_law_turn", "_law_lot_so", "_law_got", "_law_lap", "_law_odd_so"]
abbrev p_law_right : List Str := ["_law_box_here"]
theorem sc_law_right : FnScope n_law_right p_law_right (defScope s_law_right) := ⟨rfl, rfl, rfl, by decide +kernel, rfl, by decide +kernel, by decide +kernel⟩
theorem b_law_right : BindsOk "_law_right" s_law_right p_law_right := fun _ _ _ _ _ _ us hl => match us, hl with | [_], _ => rfl
def m_law_right : DS := (sSeq (sFor (iRng1 (eC (.int 8))) (gN 1) (sSeq (sAsgN 2 (eCall f_law_lot [.lend 0, .e (e2 dAdd (eC (.int 1)) (eCall f_law_take [.lend 0, .e (eC (.int 7))])), .e (eC (.int 30))])) (sSeq (sAsgN 3 (eLst (aCons (eCall f_is_lot [.e (eVar 2)]) (aCons (eCall f_is_lot [.e (eCall (f_law_lists 30) [.e (eVar 2)])]) (aCons (eCallK f_is_lot [0] (aCons (e1 dList (eVar 2)) aNil)) aNil))))) (sSeq (sIf (tNot (tV (eCall (f_law_same 30) [.e (eVar 3), .e (eLst (aCons (eC (.bl true)) (aCons (eC (.bl false)) (aCons (eC (.bl false)) aNil))))]))) (sRet (eC (.bl false))) sNil) (sFor (iRng1 (eC (.int 6))) (gN 4) (sSeq (sAsgN 5 (eCall (f_law_odd 30) [.lend 0, .e (eVar 2)])) (sSeq (sAsgN 5 (eIf (c2 dEq (eCall f_law_take [.lend 0, .e (eC (.int 3))]) (eC (.int 0))) (eCall (f_law_odd 30) [.lend 0, .e (eVar 5)]) (eVar 5))) (sIf (tNot (tV (eCall (f_law_same 30) [.e (eLst (aCons (eCall f_is_lot [.e (eVar 5)]) (aCons (eCallK f_is_lot [0] (aCons (eVar 5) aNil)) aNil))), .e (e2 dMul (eLst (aCons (eCall f_law_is_lot [.e (eVar 5)]) aNil)) (eC (.int 2)))]))) (sRet (eC (.bl false))) sNil)))))))) (sRet (eC (.bl true))))
def f_law_right : DF := mkF 6 [.bor] m_law_right
theorem ok_law_right {P : Program} {w : World} {K : PySem.W.Frag} {mg : Str → Option Value} {base : Heap} (B : Bf mg) (F : Fu K mg "_law_right" s_law_right) (k_law_lot : Kn P w K mg base .s "_law_lot" s_law_lot n_law_lot p_law_lot [.bor, .val, .val] f_law_lot 2) (k_is_lot : Kn P w K mg base .s "is_lot" s_is_lot n_is_lot p_is_lot [.val] f_is_lot 4) (k_law_same : Kn P w K mg base .s "_law_same" s_law_same n_law_same p_law_same [.val, .val] (f_law_same 30) 31) (k_law_odd : Kn P w K mg base .s "_law_odd" s_law_odd n_law_odd p_law_odd [.bor, .val] (f_law_odd 30) 33) (k_law_take : Kn P w K mg base .s "_law_take" s_law_take n_law_take p_law_take [.bor, .val] f_law_take 1) (k_law_lists : Kn P w K mg base .s "_law_lists" s_law_lists n_law_lists p_law_lists [.val] (f_law_lists 30) 31) (k_law_is_lot : Kn P w K mg base .s "_law_is_lot" s_law_is_lot n_law_is_lot p_law_is_lot [.val] f_law_is_lot 2) : Kn P w K mg base .s "_law_right" s_law_right n_law_right p_law_right [.bor] f_law_right 34 := kn_of F sc_law_right rfl b_law_right (.inl ⟨rfl, rfl⟩) fun f cdv A outer s H E hr tk hp => by
  have nd : n_law_right.Nodup := sc_law_right.nd
  have hc : (cxD P w K mg base n_law_right "_law_right" (defScope s_law_right) f cdv A outer s H E).calm = true := rfl
  have hu := room_u hr
  exact (ss_cons (sd_for hp hc (id_range1 (bn_any rfl B.range boot_range) pd_int) (gd_name (i := 1) nd rfl (.inl rfl)) (ss_cons (sd_asgN (i := 2) nd rfl (.inl rfl) (pd_call (k_law_lot.fn hr) tk rfl (ga_lend (i := 0) rfl (.inl rfl) (ga_val (pd_add pd_int (pd_call (k_law_take.fn hr) tk rfl (ga_lend (i := 0) rfl (.inl rfl) (ga_val pd_int ga_nil)))) (ga_val pd_int ga_nil))))) (ss_cons (sd_asgN (i := 3) nd rfl (.inl rfl) (PD.str (pd_lst (ad_cons (pd_call (k_is_lot.fn hr) tk rfl (ga_val (pd_var (i := 2) rfl (.inl rfl)) ga_nil)) (ad_cons (pd_call (k_is_lot.fn hr) tk rfl (ga_val (pd_call (k_law_lists.fn hr) tk rfl (ga_val (pd_var (i := 2) rfl (.inl rfl)) ga_nil)) ga_nil)) (ad_cons (pd_callK0 (k_is_lot.fnK hr kb_is_lot_0_thing) tk rfl (kd_cons (PD.str (pd_list (bn_any rfl B.list boot_list) (PD.weak (pd_var (i := 2) rfl (.inl rfl))))) kd_nil) (fun e ds e2 h => have l := (aLenS (fun _ _ _ h => aLen0 h)) e ds e2 h; ⟨l, permL l rfl⟩)) ad_nil)))))) (ss_cons (sd_if (td_not (td_val (pd_call (k_law_same.fn hr) tk rfl (ga_val (pd_var (i := 3) rfl (.inl rfl)) (ga_val (PD.str (pd_lst (ad_cons pd_bl (ad_cons pd_bl (ad_cons pd_bl ad_nil))))) ga_nil))))) (ss_one (sd_ret pd_bl)) ss_nil) (ss_one (sd_for hp hc (id_range1 (bn_any rfl B.range boot_range) pd_int) (gd_name (i := 4) nd rfl (.inl rfl)) (ss_cons (sd_asgN (i := 5) nd rfl (.inl rfl) (pd_call (k_law_odd.fn hr) tk rfl (ga_lend (i := 0) rfl (.inl rfl) (ga_val (pd_var (i := 2) rfl (.inl rfl)) ga_nil)))) (ss_cons (sd_asgN (i := 5) nd rfl (.inl rfl) (pd_if (td_cmp (ck_eq hu) (pd_call (k_law_take.fn hr) tk rfl (ga_lend (i := 0) rfl (.inl rfl) (ga_val pd_int ga_nil))) (PD.weak pd_int) rfl) (pd_call (k_law_odd.fn hr) tk rfl (ga_lend (i := 0) rfl (.inl rfl) (ga_val (pd_var (i := 5) rfl (.inl rfl)) ga_nil))) (pd_var (i := 5) rfl (.inl rfl)))) (ss_one (sd_if (td_not (td_val (pd_call (k_law_same.fn hr) tk rfl (ga_val (PD.str (pd_lst (ad_cons (pd_call (k_is_lot.fn hr) tk rfl (ga_val (pd_var (i := 5) rfl (.inl rfl)) ga_nil)) (ad_cons (pd_callK0 (k_is_lot.fnK hr kb_is_lot_0_thing) tk rfl (kd_cons (pd_var (i := 5) rfl (.inl rfl)) kd_nil) (fun e ds e2 h => have l := (aLenS (fun _ _ _ h => aLen0 h)) e ds e2 h; ⟨l, permL l rfl⟩)) ad_nil)))) (ga_val (pd_mul (PD.str (pd_lst (ad_cons (pd_call (k_law_is_lot.fn hr) tk rfl (ga_val (pd_var (i := 5) rfl (.inl rfl)) ga_nil)) ad_nil))) pd_int) ga_nil))))) (ss_one (sd_ret pd_bl)) ss_nil)))))))))) (ss_one (sd_ret pd_bl)))
abbrev n_law_box : List Str := ["_law_script", "_law_k", "_law_cell"]
abbrev p_law_box : List Str := ["_law_script", "_law_k"]
theorem sc_law_box : FnScope n_law_box p_law_box (defScope s_law_box) := ⟨rfl, rfl, rfl, by decide +kernel, rfl, by decide +kernel, by decide +kernel⟩
theorem b_law_box : BindsOk "_law_box" s_law_box p_law_box := fun _ _ _ _ _ _ us hl => match us, hl with | [_, _], _ => rfl
def m_law_box : DS := (sSeq (sAsgN 2 (eIf (c2 dLt (eVar 1) (e1 dLen (eVar 0))) (e2 dIx (eVar 0) (eVar 1)) (eC (.int 0)))) (sRet (eLst (aCons (e2 dMul (e1 dAbs (eVar 2)) (e1 dInt (eB (c2 dGe (e1 dAbs (eVar 2)) (e2 dPow (eC (.int 10)) (eC (.int 18))))))) (aCons (e2 dAdd (e2 dAdd (e2 dMod (e1 dInt (eVar 2)) (eC (.int 2305843009213693951))) (e2 dMul (eC (.int 39373)) (eVar 1))) (eC (.int 10917))) (aCons (eC (.int 0)) aNil))))))
def f_law_box : DF := mkR 3 [.val, .val] m_law_box
theorem ok_law_box {P : Program} {w : World} {K : PySem.W.Frag} {mg : Str → Option Value} {base : Heap} (B : Bf mg) (F : Fu K mg "_law_box" s_law_box) : Kn P w K mg base .f "_law_box" s_law_box n_law_box p_law_box [.val, .val] f_law_box 1 := kn_of F sc_law_box rfl b_law_box (.inr rfl) fun f cdv A outer s H E hr tk hp => by
  have nd : n_law_box.Nodup := sc_law_box.nd
  have hc : (cxD P w K mg base n_law_box "_law_box" (defScope s_law_box) f cdv A outer s H E).calm = true := rfl
  have hu := room_u hr
  exact (ss_cons (sd_asgN (i := 2) nd rfl (.inl rfl) (pd_if (td_cmp (ck_lt hu) (pd_var (i := 1) rfl (.inl rfl)) (PD.weak (pd_len (bn_any rfl B.len boot_len) (PD.weak (pd_var (i := 0) rfl (.inl rfl))))) rfl) (pd_ix hu (pd_var (i := 0) rfl (.inl rfl)) (pd_var (i := 1) rfl (.inl rfl))) pd_int)) (ss_one (sd_retF (pd_lst (ad_cons (pd_mul (pd_abs (bn_any rfl B.abs boot_abs) (pd_var (i := 2) rfl (.inl rfl))) (pd_toint (bn_any rfl B.int boot_int) (pd_cmp ck_ge (pd_abs (bn_any rfl B.abs boot_abs) (pd_var (i := 2) rfl (.inl rfl))) (PD.weak (pd_pow pd_int pd_int)) rfl))) (ad_cons (pd_add (pd_add (pd_mod (pd_toint (bn_any rfl B.int boot_int) (pd_var (i := 2) rfl (.inl rfl))) pd_int) (pd_mul pd_int (pd_var (i := 1) rfl (.inl rfl)))) pd_int) (ad_cons pd_int ad_nil)))))))
abbrev n_law : List Str := ["_law_script", "_law_cells_here", "_law_k"]
abbrev p_law : List Str := ["_law_script"]
theorem sc_law : FnScope n_law p_law (defScope s_law) := ⟨rfl, rfl, rfl, by decide +kernel, rfl, by decide +kernel, by decide +kernel⟩
theorem b_law : BindsOk "law" s_law p_law := fun _ _ _ _ _ _ us hl => match us, hl with | [_], _ => rfl
def m_law : DS := (sSeq (sIf (tNot (tV (eCall f_law_by_hand_right []))) (sRet (eC (.bl false))) sNil) (sSeq (sAsgN 1 (eCall f_law_cells [.look 0, .e (eC (.int 3))])) (sRet (e1 dAll (eLc [2] (iRng1 (e1 dLen (eVar 1))) (gN 2) tYes (eCall f_law_right [.new (eCall f_law_box [.e (eVar 1), .e (eVar 2)])]))))))
def f_law : DF := mkF 3 [.ro] m_law
theorem ok_law {P : Program} {w : World} {K : PySem.W.Frag} {mg : Str → Option Value} {base : Heap} (B : Bf mg) (F : Fu K mg "law" s_law) (k_law_cells : Kn P w K mg base .s "_law_cells" s_law_cells n_law_cells p_law_cells [.ro, .val] f_law_cells 1) (k_law_by_hand_right : Kn P w K mg base .s "_law_by_hand_right" s_law_by_hand_right n_law_by_hand_right p_law_by_hand_right [] f_law_by_hand_right 32) (k_law_right : Kn P w K mg base .s "_law_right" s_law_right n_law_right p_law_right [.bor] f_law_right 34) (k_law_box : Kn P w K mg base .f "_law_box" s_law_box n_law_box p_law_box [.val, .val] f_law_box 1) : Kn P w K mg base .s "law" s_law n_law p_law [.ro] f_law 35 := kn_of F sc_law rfl b_law (.inl ⟨rfl, rfl⟩) fun f cdv A outer s H E hr tk hp => by
  have nd : n_law.Nodup := sc_law.nd
  have hc : (cxD P w K mg base n_law "law" (defScope s_law) f cdv A outer s H E).calm = true := rfl
  have hu := room_u hr
  exact (ss_cons (sd_if (td_not (td_val (pd_call0 (k_law_by_hand_right.fn hr) tk rfl))) (ss_one (sd_ret pd_bl)) ss_nil) (ss_cons (sd_asgN (i := 1) nd rfl (.inr rfl) (pd_call (k_law_cells.fn hr) tk rfl (ga_look (i := 0) rfl (.inl rfl) (ga_val pd_int ga_nil)))) (ss_one (sd_ret (pd_all hc (bn_any rfl B.all boot_all) (PD.weak (PD.str (pd_lc (own := [("_law_k", 2)]) hc nd (by kernel_rfl) rfl (id_range1 (bn_any rfl B.range boot_range) (pd_len (bn_any rfl B.len boot_len) (PD.weak (pd_var (i := 1) rfl (.inr (.inl rfl)))))) (fun s H C cl fp => (gd_name (i := 2) nd rfl (.inl rfl))) (fun s H C cl fp => cd_nil) (fun s H C cl fp => (pd_call (k_law_right.fn hr) tkNone rfl (ga_new (pd_call (k_law_box.fn hr) tkNone rfl (ga_val (pd_var (i := 1) rfl (.inr (.inl rfl))) (ga_val (pd_var (i := 2) rfl (.inl rfl)) ga_nil))) ga_nil)))))))))))
end LW
namespace AH
open LW
theorem by_hand : f_law_by_hand_right [] = .ok (.bl true) [] := by kernel_rfl
/-! ### lots or not -/
def numB : D → Bool
  | .int _ => true
  | _ => false
theorem num_eq (d : D) : f_is_number [d] = .ok (.bl (numB d)) [] := by
  cases d <;> simp [f_is_number, m_is_number, mkF, lstsOk, startE, lentOf, isi, numB]
theorem whole_eq (d : D) : f_law_is_whole [d] = .ok (.bl (numB d)) [] := by
  cases d <;> simp [f_law_is_whole, m_law_is_whole, mkF, lstsOk, startE, lentOf, isi, numB]
def nnB : D → Bool
  | .int a => decide (0 ≤ a)
  | _ => false
def two (f : D → D → Bool) : List D → Bool
  | [x, y] => f x y
  | _ => false
def winB : D → Bool
  | .tup xs => two (fun x y => nnB x && nnB y) xs
  | _ => false
theorem two2 {f : D → D → Bool} {x y : D} : two f [x, y] = f x y := rfl
theorem two_no {f : D → D → Bool} {xs : List D} (h : ¬ xs.length = 2) : two f xs = false := by
  match xs, h with
  | [], _ => rfl
  | [_], _ => rfl
  | [_, _], h => exact absurd rfl h
  | _ :: _ :: _ :: _, _ => rfl
theorem dEq_int {i j : Int} : dEq (.int i) (.int j) = .ok (i == j) := by
  simp [dEq, D.plain, D.eqv]
theorem dNe_int {i j : Int} : dNe (.int i) (.int j) = .ok (!(i == j)) := by
  simp [dNe, D.plain, D.eqv]
theorem are_eq (d : D) : f_are_numbers [d, .int 2, .int 0] = .ok (.bl (winB d)) [] := by
  cases d with
  | tup xs =>
    have lc : ∀ e : Env, e = [.val (.tup xs), .val (.int 2), .val (.int 0), .no] → xs.length ≤ 100000 → eLc [3] (iSeq (eVar 0)) (gN 3) tYes (eAnd (eCall f_is_number [.e (eVar 3)]) (eB (c2 dGe (eVar 3) (eVar 2)))) e = .ok (.lst (xs.map fun x => .bl (nnB x))) e := fun e he hl => by
      subst he
      refine eLc_map _ rfl rfl hl fun x _ => ⟨[.val (.tup xs), .val (.int 2), .val (.int 0), .val x], rfl, rfl, ?_⟩
      have c := call1 (a := eVar 3) (e := [.val (.tup xs), .val (.int 2), .val (.int 0), .val x]) (x := x) rfl (num_eq x)
      cases x <;> simp [c, numB, nnB, dGe]
    by_cases hl : xs.length = 2
    · match xs, hl with
      | [x, y], _ =>
        have := lc _ rfl (by simp)
        simp [f_are_numbers, m_are_numbers, mkF, lstsOk, startE, lentOf, isi, dLen, dEq_int, this, dAll, bools, winB, two2]
    · have h1 : ¬ ((xs.length : Int) = 2) := by omega
      simp [f_are_numbers, m_are_numbers, mkF, lstsOk, startE, lentOf, isi, dLen, dEq_int, h1, winB, two_no hl]
  | _ => simp [f_are_numbers, m_are_numbers, mkF, lstsOk, startE, lentOf, isi, winB]
def ordB (h : Int) : D → D → Bool
  | .int a, .int b => decide (a ≤ b) && decide (b < h)
  | _, _ => false
def posB : D → Bool
  | .int k => decide (1 ≤ k)
  | _ => false
def wB (h : Int) : D → Bool
  | .tup xs => two (fun x y => (nnB x && nnB y) && ordB h x y) xs
  | _ => false
def errB (h : Int) : D → Bool
  | .tup xs => two (fun w k => posB k && wB h w) xs
  | _ => false
theorem errand_eq (h : Int) (d : D) : f_is_errand [.int h, d] = .ok (.bl (errB h d)) [] := by
  cases d with
  | tup xs =>
    by_cases hl : xs.length = 2
    · match xs, hl with
      | [w, k], _ =>
        have c1 : ∀ e : Env, e = [.val (.int h), .val (.tup [w, k]), .no] → eCall f_is_number [.e (e2 dIx (eVar 1) (eC (.int 1)))] e = .ok (.bl (numB k)) e := fun e he => by
          subst he
          exact call1 (x := k) (by simp [dIx]) (num_eq k)
        have c2 : ∀ e : Env, e = [.val (.int h), .val (.tup [w, k]), .val w] → eCall f_are_numbers [.e (eVar 2), .e (eC (.int 2)), .e (eC (.int 0))] e = .ok (.bl (winB w)) e := fun e he => by
          subst he
          exact call3 rfl rfl rfl (are_eq w)
        have c1 := c1 _ rfl
        have c2 := c2 _ rfl
        cases k with
        | int k =>
          by_cases hk : k < 1
          · have hk' : ¬ 1 ≤ k := by omega
            simp [f_is_errand, m_is_errand, mkF, lstsOk, startE, lentOf, isi, dLen, dNe_int, c1, numB, dIx, dLt, hk, errB, two2, posB, hk']
          · have hk' : 1 ≤ k := by omega
            cases w with
            | tup ws =>
              by_cases hw2 : ws.length = 2
              · match ws, hw2 with
                | [x, y], _ =>
                  cases x with
                  | int a => cases y with
                    | int b =>
                      by_cases ha : 0 ≤ a
                      · by_cases hb : 0 ≤ b
                        · by_cases hab : a ≤ b <;> simp [f_is_errand, m_is_errand, mkF, lstsOk, startE, lentOf, isi, dLen, dNe_int, c1, c2, numB, dIx, dLt, dLe, hk, errB, two2, posB, hk', winB, wB, nnB, ordB, ha, hb, hab]
                        · simp [f_is_errand, m_is_errand, mkF, lstsOk, startE, lentOf, isi, dLen, dNe_int, c1, c2, numB, dIx, dLt, dLe, hk, errB, two2, posB, hk', winB, wB, nnB, ordB, ha, hb]
                      · simp [f_is_errand, m_is_errand, mkF, lstsOk, startE, lentOf, isi, dLen, dNe_int, c1, c2, numB, dIx, dLt, dLe, hk, errB, two2, posB, hk', winB, wB, nnB, ordB, ha]
                    | _ => simp [f_is_errand, m_is_errand, mkF, lstsOk, startE, lentOf, isi, dLen, dNe_int, c1, c2, numB, dIx, dLt, dLe, hk, errB, two2, posB, hk', winB, wB, nnB, ordB]
                  | _ => simp [f_is_errand, m_is_errand, mkF, lstsOk, startE, lentOf, isi, dLen, dNe_int, c1, c2, numB, dIx, dLt, dLe, hk, errB, two2, posB, hk', winB, wB, nnB, ordB]
              · simp [f_is_errand, m_is_errand, mkF, lstsOk, startE, lentOf, isi, dLen, dNe_int, c1, c2, numB, dIx, dLt, dLe, hk, errB, two2, posB, hk', winB, wB, two_no hw2]
            | _ => simp [f_is_errand, m_is_errand, mkF, lstsOk, startE, lentOf, isi, dLen, dNe_int, c1, c2, numB, dIx, dLt, dLe, hk, errB, two2, posB, hk', winB, wB]
        | _ => simp [f_is_errand, m_is_errand, mkF, lstsOk, startE, lentOf, isi, dLen, dNe_int, c1, numB, dIx, errB, two2, posB]
    · have h1 : ¬ ((xs.length : Int) = 2) := by omega
      simp [f_is_errand, m_is_errand, mkF, lstsOk, startE, lentOf, isi, dLen, dNe_int, h1, errB, two_no hl]
  | _ => simp [f_is_errand, m_is_errand, mkF, lstsOk, startE, lentOf, isi, errB]
theorem all_eq {f : D → Bool} {xs : List D} : dAll (.lst (xs.map fun x => .bl (f x))) = .ok (.bl (xs.all f)) := by
  have h : ∀ xs : List D, bools (xs.map fun x => .bl (f x)) = some (xs.map f) := fun xs => by
    induction xs with
    | nil => rfl
    | cons x xs ih => simp [bools, ih]
  simp [dAll, h]
/-- the windows -/
def fstD : D → D
  | .tup (w :: _) => w
  | d => d
def ltW : D → D → Bool
  | .tup a, .tup b => (match intsL a, intsL b with
    | some ns, some ms => HT.lexLt ns ms
    | _, _ => false)
  | _, _ => false
def upB : List D → Bool
  | a :: b :: r => ltW a b && upB (b :: r)
  | _ => true
def isLot : D → Bool
  | .tup xs => two (fun h es => match h, es with
    | .int h, .tup es => decide (1 ≤ h) && (es.all (errB h) && upB (es.map fstD))
    | _, _ => false) xs
  | _ => false
def Win (d : D) : Prop := ∃ a b : Int, d = .tup [.int a, .int b]
theorem errB_of {h : Int} {d : D} (e : errB h d = true) : ∃ a b k : Int, d = .tup [.tup [.int a, .int b], .int k] ∧ 0 ≤ a ∧ a ≤ b ∧ b < h ∧ 1 ≤ k := by
  cases d with
  | tup xs =>
    by_cases hl : xs.length = 2
    · match xs, hl with
      | [w, k], _ =>
        simp only [errB, two2, Bool.and_eq_true] at e
        obtain ⟨e1, e2⟩ := e
        cases k with
        | int k =>
          cases w with
          | tup ws =>
            by_cases hw : ws.length = 2
            · match ws, hw with
              | [x, y], _ =>
                simp only [wB, two2, Bool.and_eq_true] at e2
                cases x with
                | int a => cases y with
                  | int b =>
                    simp only [nnB, ordB, posB, Bool.and_eq_true, decide_eq_true_eq] at e1 e2
                    exact ⟨a, b, k, rfl, e2.1.1, e2.2.1, e2.2.2, e1⟩
                  | _ => simp [nnB] at e2
                | _ => simp [nnB] at e2
            · simp [wB, two_no hw] at e2
          | _ => simp [wB] at e2
        | _ => simp [posB] at e1
    · simp [errB, two_no hl] at e
  | _ => simp [errB] at e
theorem up_pairs : ∀ ws : List D, (∀ w ∈ ws, Win w) → (pairs ws (ws.drop 1)).all (fun p => match p with | .tup [x, y] => ltW x y | _ => false) = upB ws
  | [], _ => rfl
  | [_], _ => rfl
  | a :: b :: r, h => by
    have ih := up_pairs (b :: r) fun w hw => h w (List.mem_cons_of_mem _ hw)
    show (ltW a b && (pairs (b :: r) ((b :: r).drop 1)).all _) = _
    rw [ih]
    rfl
theorem cut1 {xs : List D} : cut xs (some 1) none = xs.drop 1 := by
  unfold cut
  cases xs with
  | nil => rfl
  | cons x xs =>
    have h1 : HT.sIx (x :: xs).length 0 (some 1) = 1 := by unfold HT.sIx; simp
    have h2 : HT.sIx (x :: xs).length (x :: xs).length none = (x :: xs).length := rfl
    rw [h1, h2, List.take_of_length_le]
    simp
theorem rises_eq {ws : List D} (hw : ∀ w ∈ ws, Win w) (hl : ws.length ≤ 100000) : f_rises [.lst ws] = .ok (.bl (upB ws)) [] := by
  have hp : ∀ p ∈ pairs ws (ws.drop 1), ∃ x y, p = .tup [x, y] ∧ Win x ∧ Win y := fun p hp => by
    unfold pairs at hp
    obtain ⟨⟨x, y⟩, hq, rfl⟩ := List.mem_map.mp hp
    obtain ⟨h1, h2⟩ := List.of_mem_zip hq
    exact ⟨x, y, rfl, hw x h1, hw y (List.mem_of_mem_drop h2)⟩
  have lc : eLc [1, 2] (iZip (eVar 0) (eSl (eVar 0) (oSome (eC (.int 1))) oNone)) (gT (gsCons (gN 1) (gsCons (gN 2) gsNil))) tYes (eB (c2 dLt (eVar 1) (eVar 2))) [.val (.lst ws), .no, .no] = .ok (.lst ((pairs ws (ws.drop 1)).map fun p => .bl (match p with | .tup [x, y] => ltW x y | _ => false))) [.val (.lst ws), .no, .no] := by
    refine eLc_map _ (by simp [dSl, cut1]) rfl ?_ fun p h => ?_
    · unfold pairs; rw [List.length_map, List.length_zip]; omega
    · obtain ⟨x, y, rfl, ⟨a, b, rfl⟩, c, d, rfl⟩ := hp p h
      exact ⟨[.val (.lst ws), .val (.tup [.int a, .int b]), .val (.tup [.int c, .int d])], rfl, rfl, by simp [dLt, intsL, ltW]⟩
  have u := up_pairs ws hw
  rw [List.drop_one] at u
  simp [f_rises, m_rises, mkF, lstsOk, startE, lentOf, lc, all_eq, u]
theorem lot_eq {d : D} (hd : ∀ h es, d = .tup [h, .tup es] → es.length ≤ 100000) : f_is_lot [d] = .ok (.bl (isLot d)) [] := by
  cases d with
  | tup xs =>
    by_cases hl : xs.length = 2
    · match xs, hl with
      | [h, t], _ =>
        have c1 : eCall f_is_number [.e (e2 dIx (eVar 0) (eC (.int 0)))] [.val (.tup [h, t]), .no, .no, .no] = .ok (.bl (numB h)) [.val (.tup [h, t]), .no, .no, .no] := call1 (x := h) (by simp [dIx]) (num_eq h)
        cases h with
        | int h =>
          by_cases hh : h < 1
          · have hh' : ¬ 1 ≤ h := by omega
            simp [f_is_lot, m_is_lot, mkF, lstsOk, startE, lentOf, isi, dLen, dNe_int, c1, numB, dIx, dLt, hh, isLot, two2]
            cases t <;> simp [hh']
          · have hh' : 1 ≤ h := by omega
            cases t with
            | tup es =>
              have hes := hd _ es rfl
              have lc : eLc [1] (iSeq (e2 dIx (eVar 0) (eC (.int 1)))) (gN 1) tYes (eCall f_is_errand [.e (e2 dIx (eVar 0) (eC (.int 0))), .e (eVar 1)]) [.val (.tup [.int h, .tup es]), .no, .no, .no] = .ok (.lst (es.map fun x => .bl (errB h x))) [.val (.tup [.int h, .tup es]), .no, .no, .no] := by
                refine eLc_map _ (by simp [dIx]) rfl hes fun x _ => ⟨[.val (.tup [.int h, .tup es]), .val x, .no, .no], rfl, rfl, ?_⟩
                exact call2 (e1 := [.val (.tup [.int h, .tup es]), .val x, .no, .no]) (x := .int h) (y := x) (by simp [dIx]) rfl (errand_eq h x)
              cases he : es.all (errB h) with
              | false => simp [f_is_lot, m_is_lot, mkF, lstsOk, startE, lentOf, isi, dLen, dNe_int, c1, numB, dIx, dLt, hh, isLot, two2, lc, all_eq, he]
              | true =>
                have hwin : ∀ w ∈ es.map fstD, Win w := fun w hw => by
                  obtain ⟨x, hx, rfl⟩ := List.mem_map.mp hw
                  obtain ⟨a, b, k, rfl, _⟩ := errB_of (List.all_eq_true.mp he x hx)
                  exact ⟨a, b, rfl⟩
                have lc2 : eLc [2, 3] (iSeq (e2 dIx (eVar 0) (eC (.int 1)))) (gT (gsCons (gN 2) (gsCons (gN 3) gsNil))) tYes (eVar 2) [.val (.tup [.int h, .tup es]), .no, .no, .no] = .ok (.lst (es.map fstD)) [.val (.tup [.int h, .tup es]), .no, .no, .no] := by
                  refine eLc_map _ (by simp [dIx]) rfl hes fun x hx => ?_
                  obtain ⟨a, b, k, rfl, _⟩ := errB_of (List.all_eq_true.mp he x hx)
                  exact ⟨[.val (.tup [.int h, .tup es]), .no, .val (.tup [.int a, .int b]), .val (.int k)], rfl, rfl, rfl⟩
                have c2 := call1 (f := f_rises) lc2 (rises_eq hwin (by rw [List.length_map]; exact hes))
                simp [f_is_lot, m_is_lot, mkF, lstsOk, startE, lentOf, isi, dLen, dNe_int, c1, numB, dIx, dLt, hh, isLot, two2, lc, all_eq, he, c2, hh']
            | _ => simp [f_is_lot, m_is_lot, mkF, lstsOk, startE, lentOf, isi, dLen, dNe_int, c1, numB, dIx, dLt, hh, isLot, two2]
        | _ => simp [f_is_lot, m_is_lot, mkF, lstsOk, startE, lentOf, isi, dLen, dNe_int, c1, numB, dIx, isLot, two2]
    · have h1 : ¬ ((xs.length : Int) = 2) := by omega
      simp [f_is_lot, m_is_lot, mkF, lstsOk, startE, lentOf, isi, dLen, dNe_int, h1, isLot, two_no hl]
  | _ => simp [f_is_lot, m_is_lot, mkF, lstsOk, startE, lentOf, isi, isLot]
end AH
namespace AH
open LW
open L2 (atI ixN lexLeI)
/-! ### the law's own word for a lot -/
theorem loop_all {g : DG} {b : DS} {r : D} (p : D → Bool) (I : Env → Prop) : ∀ {xs : List D} {e : Env}, I e → (∀ x ∈ xs, ∀ e, I e → ∃ e1, g x e = .ok () e1 ∧ ∃ e2, b e1 = .ok (if p x then .nx else .rt r) e2 ∧ I e2) → ∃ e2, I e2 ∧ loop g b xs e = .ok (if xs.all p then .nx else .rt r) e2
  | [], e, h, _ => ⟨e, h, rfl⟩
  | x :: xs, e, h, st => by
    obtain ⟨e1, h1, e2, h2, h3⟩ := st x List.mem_cons_self e h
    unfold loop
    rw [bind_ok h1, bind_ok h2]
    cases hp : p x with
    | false => exact ⟨e2, h3, by simp [hp]⟩
    | true =>
      obtain ⟨e3, g1, g2⟩ := loop_all p I h3 fun y hy => st y (List.mem_cons_of_mem _ hy)
      refine ⟨e3, g1, ?_⟩
      simp only [hp, if_true, List.all_cons, Bool.true_and]
      exact g2
theorem atI_nat {xs : List D} {k : Nat} (h : k < xs.length) : atI xs (k : Int) = some xs[k] := by
  have : ixN xs.length (k : Int) = some k := by
    unfold ixN
    rw [if_pos (by omega), if_pos (by omega)]
    rfl
  unfold atI
  rw [this]
  exact List.getElem?_eq_getElem h
theorem le_lt {a b c d : Int} : lexLeI [c, d] [a, b] = !HT.lexLt [a, b] [c, d] := by
  simp only [lexLeI, HT.lexLt]
  by_cases h1 : c = a
  · subst h1
    by_cases h2 : d = b
    · subst h2; simp
    · simp [h2]
      by_cases h3 : d ≤ b
      · have h4 : ¬ b < d := by omega
        simp [h3, h4]
      · have h4 : b < d := by omega
        have h5 : ¬ b = d := by omega
        simp [h3, h4, h5]
  · have h1' : ¬ a = c := fun z => h1 z.symm
    simp [h1, h1']
    by_cases h3 : c ≤ a
    · have h4 : ¬ a < c := by omega
      simp [h3, h4]
    · have h4 : a < c := by omega
      simp [h3, h4]
theorem upB_iff : ∀ ws : List D, upB ws = true ↔ ∀ i (h : i + 1 < ws.length), ltW (ws[i]'(by omega)) (ws[i + 1]'h) = true
  | [] => by simp [upB]
  | [a] => by simp [upB]
  | a :: b :: r => by
    have ih := upB_iff (b :: r)
    constructor
    · intro h i hi
      unfold upB at h
      rw [Bool.and_eq_true] at h
      cases i with
      | zero => exact h.1
      | succ i => exact ih.mp h.2 i (by simpa using hi)
    · intro h
      unfold upB
      rw [Bool.and_eq_true]
      exact ⟨h 0 (by simp), ih.mpr fun i hi => h (i + 1) (by simpa using hi)⟩
theorem whole_all {xs : List D} (hl : xs.length = 2) {d : D} {s : Sl} (hs : isOwn s = false) {x k : D} : eLc [2] (iSeq (e2 dIx (eVar 1) (eC (.int 0)))) (gN 2) tYes (eCall f_law_is_whole [.e (eVar 2)]) [.val d, .val (.tup [.tup xs, k]), .no, s] = .ok (.lst (xs.map fun x => .bl (numB x))) [.val d, .val (.tup [.tup xs, k]), .no, s] := by
  refine eLc_map _ (by simp [dIx]) rfl (by omega) fun y _ => ⟨[.val d, .val (.tup [.tup xs, k]), .val y, s], rfl, rfl, ?_⟩
  exact call1 (x := y) rfl (whole_eq y)
/-- a turn of the law's loop -/
theorem turn_eq {h : Int} {d t : D} (x : D) (hd : d = .tup [.int h, t]) : (sSeq (sIf (tOr (tNot (tV (eIsi .tuple (eVar 1)))) (tOr (c2 dNe (e1 dLen (eVar 1)) (eC (.int 2))) (tOr (tNot (tV (eCall f_law_is_whole [.e (e2 dIx (eVar 1) (eC (.int 1)))]))) (c2 dLt (e2 dIx (eVar 1) (eC (.int 1))) (eC (.int 1)))))) (sRet (eC (.bl false))) sNil) (sSeq (sIf (tOr (tNot (tV (eIsi .tuple (e2 dIx (eVar 1) (eC (.int 0)))))) (tOr (c2 dNe (e1 dLen (e2 dIx (eVar 1) (eC (.int 0)))) (eC (.int 2))) (tNot (tV (e1 dAll (eLc [2] (iSeq (e2 dIx (eVar 1) (eC (.int 0)))) (gN 2) tYes (eCall f_law_is_whole [.e (eVar 2)]))))))) (sRet (eC (.bl false))) sNil) (sIf (tNot (c4 dLe dLe dLt (eC (.int 0)) (e2 dIx (e2 dIx (eVar 1) (eC (.int 0))) (eC (.int 0))) (e2 dIx (e2 dIx (eVar 1) (eC (.int 0))) (eC (.int 1))) (e2 dIx (eVar 0) (eC (.int 0))))) (sRet (eC (.bl false))) sNil))) [.val d, .val x, .no, .no] = .ok (if errB h x then .nx else .rt (.bl false)) [.val d, .val x, .no, .no] := by
  subst hd
  cases x with
  | tup xs =>
    by_cases hl : xs.length = 2
    · match xs, hl with
      | [w, k], _ =>
        have c1 : eCall f_law_is_whole [.e (e2 dIx (eVar 1) (eC (.int 1)))] [.val (.tup [.int h, t]), .val (.tup [w, k]), .no, .no] = .ok (.bl (numB k)) [.val (.tup [.int h, t]), .val (.tup [w, k]), .no, .no] := call1 (x := k) (by simp [dIx]) (whole_eq k)
        cases k with
        | int k =>
          by_cases hk : k < 1
          · have hk' : ¬ 1 ≤ k := by omega
            simp [isi, dLen, dNe_int, c1, numB, dIx, dLt, hk, errB, two2, posB, hk']
          · have hk' : 1 ≤ k := by omega
            cases w with
            | tup ws =>
              by_cases hw2 : ws.length = 2
              · have wa := whole_all (xs := ws) hw2 (d := .tup [.int h, t]) (s := .no) rfl (x := .non) (k := .int k)
                match ws, hw2, wa with
                | [x, y], _, wa =>
                  cases x with
                  | int a => cases y with
                    | int b =>
                      by_cases ha : 0 ≤ a
                      · by_cases hab : a ≤ b
                        · have hb : 0 ≤ b := by omega
                          by_cases hbh : b < h <;> simp [isi, dLen, dNe_int, c1, wa, numB, dIx, dLt, dLe, hk, errB, two2, posB, hk', wB, nnB, ordB, ha, hb, hab, hbh, dAll, bools, c4]
                        · simp [isi, dLen, dNe_int, c1, wa, numB, dIx, dLt, dLe, hk, errB, two2, posB, hk', wB, nnB, ordB, ha, hab, dAll, bools, c4]
                      · simp [isi, dLen, dNe_int, c1, wa, numB, dIx, dLt, dLe, hk, errB, two2, posB, hk', wB, nnB, ordB, ha, dAll, bools, c4]
                    | _ => simp [isi, dLen, dNe_int, c1, wa, numB, dIx, dLt, dLe, hk, errB, two2, posB, hk', wB, nnB, ordB, dAll, bools]
                  | _ => simp [isi, dLen, dNe_int, c1, wa, numB, dIx, dLt, dLe, hk, errB, two2, posB, hk', wB, nnB, ordB, dAll, bools]
              · have h1 : ¬ ((ws.length : Int) = 2) := by omega
                simp [isi, dLen, dNe_int, c1, numB, dIx, dLt, hk, errB, two2, posB, hk', wB, two_no hw2, h1]
            | _ => simp [isi, dLen, dNe_int, c1, numB, dIx, dLt, hk, errB, two2, posB, hk', wB]
        | _ => simp [isi, dLen, dNe_int, c1, numB, dIx, errB, two2, posB]
    · have h1 : ¬ ((xs.length : Int) = 2) := by omega
      simp [isi, dLen, dNe_int, h1, errB, two_no hl]
  | _ => simp [isi, errB]
theorem rng_mem {a b : Int} {x : D} (h : x ∈ rng a b) : ∃ i : Nat, (i : Int) < b - a ∧ x = .int (a + i) := by
  unfold rng at h
  obtain ⟨i, hi, rfl⟩ := List.mem_map.mp h
  have := List.mem_range.mp hi
  exact ⟨i, by omega, rfl⟩
theorem rng_len {a b : Int} : (rng a b).length = (b - a).toNat := by
  unfold rng; rw [List.length_map, List.length_range]
theorem filter_nil {f : D → Option D} {xs : List D} : (xs.filterMap f).isEmpty = xs.all fun x => (f x).isNone := by
  induction xs with
  | nil => rfl
  | cons x xs ih =>
    rw [List.filterMap_cons]
    cases h : f x with
    | none => simp [h, ih]
    | some y => simp [h]
theorem eq_nil {xs : List D} (h : D.plainL 39 xs = true) : dEq (.lst xs) (.lst []) = .ok xs.isEmpty := by
  cases xs <;> simp [dEq, D.plain, D.plainL, D.eqv, D.eqvL] at h ⊢
  exact h
def leW (x y : D) : Bool := match x, y with
  | .tup a, .tup b => (match intsL a, intsL b with
    | some ns, some ms => lexLeI ns ms
    | _, _ => false)
  | _, _ => false
def leF (es : List D) : D → Option D := fun x => match x with
  | .int k => (if leW (fstD (es.getD k.toNat .non)) (fstD (es.getD (k - 1).toNat .non)) then some x else none)
  | _ => none
theorem plain_rng {es : List D} : ∀ {xs : List D}, D.plainL 39 (xs.filterMap (leF es)) = true
  | [] => rfl
  | x :: xs => by
    rw [List.filterMap_cons]
    cases h : leF es x with
    | none => exact plain_rng
    | some y =>
      cases x with
      | int k =>
        unfold leF at h
        simp only at h
        split at h
        · cases h
          show (D.plain 39 (.int k) && D.plainL 39 (xs.filterMap (leF es))) = true
          rw [plain_rng]
          rfl
        · cases h
      | _ => cases h
theorem up_rng {es : List D} (hw : ∀ i (hi : i < es.length), ∃ a b k : Int, es[i] = .tup [.tup [.int a, .int b], .int k]) : ((rng 1 es.length).filterMap (leF es)).isEmpty = upB (es.map fstD) := by
  rw [filter_nil]
  have key : ∀ i, i + 1 < es.length → ((leF es (.int ((i + 1 : Nat) : Int))).isNone = true ↔ ltW (fstD (es.getD i .non)) (fstD (es.getD (i + 1) .non)) = true) := fun i h1 => by
    obtain ⟨a, b, k, ea⟩ := hw i (by omega)
    obtain ⟨a', b', k', eb⟩ := hw (i + 1) h1
    have e3 : ((i + 1 : Nat) : Int) - 1 = (i : Int) := by omega
    have g1 : es.getD (i + 1) .non = .tup [.tup [.int a', .int b'], .int k'] := by rw [List.getD_eq_getElem?_getD, List.getElem?_eq_getElem h1, eb]; rfl
    have g2 : es.getD i .non = .tup [.tup [.int a, .int b], .int k] := by rw [List.getD_eq_getElem?_getD, List.getElem?_eq_getElem (by omega), ea]; rfl
    unfold leF
    simp only [Int.toNat_natCast, e3, g1, g2, fstD, leW, ltW, intsL, Option.map, le_lt]
    cases HT.lexLt [a, b] [a', b'] <;> simp
  have conv : upB (es.map fstD) = true ↔ ∀ i, i + 1 < es.length → ltW (fstD (es.getD i .non)) (fstD (es.getD (i + 1) .non)) = true := by
    rw [upB_iff]
    constructor
    · intro h i hi
      have := h i (by rw [List.length_map]; exact hi)
      rw [List.getElem_map, List.getElem_map] at this
      rw [List.getD_eq_getElem?_getD, List.getElem?_eq_getElem (by omega), List.getD_eq_getElem?_getD, List.getElem?_eq_getElem hi]
      exact this
    · intro h i hi
      rw [List.length_map] at hi
      have := h i hi
      rw [List.getD_eq_getElem?_getD, List.getElem?_eq_getElem (by omega), List.getD_eq_getElem?_getD, List.getElem?_eq_getElem hi] at this
      rw [List.getElem_map, List.getElem_map]
      exact this
  have : ((rng 1 es.length).all fun x => (leF es x).isNone) = true ↔ upB (es.map fstD) = true := by
    rw [conv, List.all_eq_true]
    constructor
    · intro h i hi
      refine (key i hi).mp (h _ ?_)
      unfold rng
      refine List.mem_map.mpr ⟨i, List.mem_range.mpr (by omega), ?_⟩
      congr 1
      omega
    · intro h x hx
      obtain ⟨i, hi, rfl⟩ := rng_mem hx
      have ei : (1 + (i : Int)) = ((i + 1 : Nat) : Int) := by omega
      rw [ei]
      exact (key i (by omega)).mpr (h i (by omega))
  cases h1 : (rng 1 es.length).all fun x => (leF es x).isNone with
  | true => exact (this.mp h1).symm
  | false =>
    cases h2 : upB (es.map fstD) with
    | false => rfl
    | true => rw [this.mpr h2] at h1; cases h1
theorem lenOk0 : lenOk 0 = true := rfl
theorem rngOk_nat {i : Int} {n : Nat} (h0 : 0 ≤ i) (h1 : i ≤ 100000) (h : n ≤ 100000) : rngOk i n = true := by
  unfold rngOk
  rw [Bool.and_eq_true, Bool.and_eq_true, Bool.and_eq_true, decide_eq_true_eq, decide_eq_true_eq, decide_eq_true_eq, decide_eq_true_eq]
  have : (2 : Int) ^ 62 = 4611686018427387904 := by decide
  omega
end AH
namespace AH
open LW
open L2 (atI ixN lexLeI)
theorem le_test {h : Int} {es : List D} {s : Sl} {i : Nat} {a b k a' b' k' : Int} (h1 : i + 1 < es.length) (ea : es[i]'(by omega) = .tup [.tup [.int a, .int b], .int k]) (eb : es[i + 1] = .tup [.tup [.int a', .int b'], .int k']) :
    c2 dLe (e2 dIx (e2 dIx (e2 dIx (eVar 0) (eC (.int 1))) (eVar 3)) (eC (.int 0))) (e2 dIx (e2 dIx (e2 dIx (eVar 0) (eC (.int 1))) (e2 dSub (eVar 3) (eC (.int 1)))) (eC (.int 0))) [.val (.tup [.int h, .tup es]), s, .no, .val (.int ((i + 1 : Nat) : Int))] = .ok (lexLeI [a', b'] [a, b]) [.val (.tup [.int h, .tup es]), s, .no, .val (.int ((i + 1 : Nat) : Int))] := by
  have q1 := atI_nat h1
  have q2 := atI_nat (xs := es) (k := i) (by omega)
  have e3 : ((i + 1 : Nat) : Int) - 1 = (i : Int) := by omega
  rw [eb] at q1
  rw [ea] at q2
  simp only [x_c2, x_bind, x_e2, x_var, x_sl0, x_slS, x_c, dIx, x_ix1, x_of1, q1, dSub, e3, q2, x_ix0, dLe, intsL, Option.map]
theorem le_list {h : Int} {es : List D} {s : Sl} (hs : isOwn s = false) (hes : es.length ≤ 100000) (hw : ∀ i (hi : i < es.length), ∃ a b k : Int, es[i] = .tup [.tup [.int a, .int b], .int k]) :
    eLc [3] (iRng2 (eC (.int 1)) (e1 dLen (e2 dIx (eVar 0) (eC (.int 1))))) (gN 3) (c2 dLe (e2 dIx (e2 dIx (e2 dIx (eVar 0) (eC (.int 1))) (eVar 3)) (eC (.int 0))) (e2 dIx (e2 dIx (e2 dIx (eVar 0) (eC (.int 1))) (e2 dSub (eVar 3) (eC (.int 1)))) (eC (.int 0)))) (eVar 3) [.val (.tup [.int h, .tup es]), s, .no, .no] = .ok (.lst ((rng 1 es.length).filterMap (leF es))) [.val (.tup [.int h, .tup es]), s, .no, .no] := by
  have r1 := rngOk_nat (i := 1) (n := es.length) (by omega) (by omega) hes
  refine eLc_pure _ ?_ ?_ (by rw [rng_len]; omega) fun x hx => ?_
  · exact rng2_ok (e1 := [.val (.tup [.int h, .tup es]), s, .no, .no]) rfl (by simp [dIx, dLen]) r1
  · rfl
  obtain ⟨i, hi, rfl⟩ := rng_mem hx
  have h1 : i + 1 < es.length := by omega
  have ei : (1 + (i : Int)) = ((i + 1 : Nat) : Int) := by omega
  have e3 : ((i + 1 : Nat) : Int) - 1 = (i : Int) := by omega
  obtain ⟨a, b, k, ea⟩ := hw i (by omega)
  obtain ⟨a', b', k', eb⟩ := hw (i + 1) h1
  have g1 : es.getD (i + 1) .non = .tup [.tup [.int a', .int b'], .int k'] := by rw [List.getD_eq_getElem?_getD, List.getElem?_eq_getElem h1, eb]; rfl
  have g2 : es.getD i .non = .tup [.tup [.int a, .int b], .int k] := by rw [List.getD_eq_getElem?_getD, List.getElem?_eq_getElem (by omega), ea]; rfl
  refine ⟨[.val (.tup [.int h, .tup es]), s, .no, .val (.int (1 + i))], rfl, rfl, ?_⟩
  rw [ei]
  have t := le_test (h := h) (s := s) h1 ea eb
  cases hle : lexLeI [a', b'] [a, b] with
  | false =>
    rw [hle] at t
    refine .inl ⟨t, ?_⟩
    simp only [leF, Int.toNat_natCast, e3, g1, g2, fstD, leW, intsL, Option.map, hle]
    rfl
  | true =>
    rw [hle] at t
    refine .inr ⟨_, t, rfl, ?_⟩
    simp only [leF, Int.toNat_natCast, e3, g1, g2, fstD, leW, intsL, Option.map, hle]
    rfl
theorem law_loop {h : Int} {es : List D} : ∃ s, isOwn s = false ∧ loop (gN 1) (sSeq (sIf (tOr (tNot (tV (eIsi .tuple (eVar 1)))) (tOr (c2 dNe (e1 dLen (eVar 1)) (eC (.int 2))) (tOr (tNot (tV (eCall f_law_is_whole [.e (e2 dIx (eVar 1) (eC (.int 1)))]))) (c2 dLt (e2 dIx (eVar 1) (eC (.int 1))) (eC (.int 1)))))) (sRet (eC (.bl false))) sNil) (sSeq (sIf (tOr (tNot (tV (eIsi .tuple (e2 dIx (eVar 1) (eC (.int 0)))))) (tOr (c2 dNe (e1 dLen (e2 dIx (eVar 1) (eC (.int 0)))) (eC (.int 2))) (tNot (tV (e1 dAll (eLc [2] (iSeq (e2 dIx (eVar 1) (eC (.int 0)))) (gN 2) tYes (eCall f_law_is_whole [.e (eVar 2)]))))))) (sRet (eC (.bl false))) sNil) (sIf (tNot (c4 dLe dLe dLt (eC (.int 0)) (e2 dIx (e2 dIx (eVar 1) (eC (.int 0))) (eC (.int 0))) (e2 dIx (e2 dIx (eVar 1) (eC (.int 0))) (eC (.int 1))) (e2 dIx (eVar 0) (eC (.int 0))))) (sRet (eC (.bl false))) sNil))) es [.val (.tup [.int h, .tup es]), .no, .no, .no] = .ok (if es.all (errB h) then .nx else .rt (.bl false)) [.val (.tup [.int h, .tup es]), s, .no, .no] := by
  obtain ⟨e', ⟨s, hs, rfl⟩, lp⟩ := loop_all (g := gN 1) (r := .bl false) (errB h) (fun e => ∃ s, isOwn s = false ∧ e = [.val (.tup [.int h, .tup es]), s, .no, .no]) (xs := es) (e := [.val (.tup [.int h, .tup es]), .no, .no, .no]) ⟨.no, rfl, rfl⟩
    (fun x _ e ⟨s, hs, he⟩ => ⟨[.val (.tup [.int h, .tup es]), .val x, .no, .no], by subst he; simp [hs], _, turn_eq x rfl, .val x, rfl, rfl⟩)
  exact ⟨s, hs, lp⟩
theorem law_lot_eq {d : D} (hd : ∀ h es, d = .tup [h, .tup es] → es.length ≤ 100000) : f_law_is_lot [d] = .ok (.bl (isLot d)) [] := by
  cases d with
  | tup xs =>
    by_cases hl : xs.length = 2
    · match xs, hl with
      | [h, t], _ =>
        have c1 : eCall f_law_is_whole [.e (e2 dIx (eVar 0) (eC (.int 0)))] [.val (.tup [h, t]), .no, .no, .no] = .ok (.bl (numB h)) [.val (.tup [h, t]), .no, .no, .no] := call1 (x := h) (by simp [dIx]) (whole_eq h)
        cases h with
        | int h =>
          by_cases hh : h < 1
          · have hh' : ¬ 1 ≤ h := by omega
            simp [f_law_is_lot, m_law_is_lot, mkF, lstsOk, startE, lentOf, isi, dLen, dNe_int, c1, numB, dIx, dLt, hh, isLot, two2]
            cases t <;> simp [hh']
          · have hh' : 1 ≤ h := by omega
            cases t with
            | tup es =>
              have hes := hd _ es rfl
              obtain ⟨s, hs, lp⟩ := law_loop (h := h) (es := es)
              cases he : es.all (errB h) with
              | false =>
                rw [he] at lp
                simp [f_law_is_lot, m_law_is_lot, mkF, lstsOk, startE, lentOf, isi, dLen, dNe_int, c1, numB, dIx, dLt, hh, isLot, two2, he, lp]
              | true =>
                rw [he] at lp
                have hw : ∀ i (hi : i < es.length), ∃ a b k : Int, es[i] = .tup [.tup [.int a, .int b], .int k] := fun i hi => by
                  obtain ⟨a, b, k, e, _⟩ := errB_of (List.all_eq_true.mp he es[i] (List.getElem_mem hi))
                  exact ⟨a, b, k, e⟩
                have lc := le_list (h := h) hs hes hw
                have u := up_rng hw
                have pl := plain_rng (es := es) (xs := rng 1 es.length)
                have r : isLot (.tup [.int h, .tup es]) = upB (es.map fstD) := by
                  simp [isLot, two2, he, hh']
                rw [r]
                refine mkF_rt rfl (e := [.val (.tup [.int h, .tup es]), s, .no, .no]) (show m_law_is_lot [.val (.tup [.int h, .tup es]), .no, .no, .no] = _ from ?_) rfl
                unfold m_law_is_lot
                rw [seq_nx (e1 := [.val (.tup [.int h, .tup es]), .no, .no, .no]) (by simp [isi, dLen, dNe_int, c1, numB, dIx, dLt, hh]), seq_nx (e1 := [.val (.tup [.int h, .tup es]), .no, .no, .no]) (by simp [isi, dIx]),
                  seq_nx (for_ok (xs := es) (by simp [dIx]) lp)]
                refine ret_ok ?_
                exact eB_ok (c2_ok lc rfl (by rw [eq_nil pl, u]))
            | _ => simp [f_law_is_lot, m_law_is_lot, mkF, lstsOk, startE, lentOf, isi, dLen, dNe_int, c1, numB, dIx, dLt, hh, isLot, two2]
        | _ => simp [f_law_is_lot, m_law_is_lot, mkF, lstsOk, startE, lentOf, isi, dLen, dNe_int, c1, numB, dIx, isLot, two2]
    · have h1 : ¬ ((xs.length : Int) = 2) := by omega
      simp [f_law_is_lot, m_law_is_lot, mkF, lstsOk, startE, lentOf, isi, dLen, dNe_int, h1, isLot, two_no hl]
  | _ => simp [f_law_is_lot, m_law_is_lot, mkF, lstsOk, startE, lentOf, isi, isLot]
end AH
namespace AH
open LW
/-! ### draws within a def -/
theorem box_mono {k j : Nat} {xs : List D} (h : Box k xs) (hj : k ≤ j) : Box j xs := by
  obtain ⟨n, m, c, e, h1, h2, h3, h4, h5⟩ := h
  exact ⟨n, m, c, e, h1, h2, h3, h4, by omega⟩
theorem take_eq : f_law_take = mkF 6 [.bor, .val] h_take := rfl
/-- a draw below b: the box stands in slot 0 -/
theorem draw {k : Nat} {xs : List D} {e : Env} {r : Env} {a : DE} {b : Int} (hb : Box k xs) (hk : k < 2 ^ 60) (h1 : 0 < b) (h2 : b < 2 ^ 60) (ha : a (.bor xs :: r) = .ok (.int b) (.bor xs :: r)) :
    ∃ v xs', eCall f_law_take [.lend 0, .e a] (.bor xs :: r) = .ok (.int v) (.bor xs' :: r) ∧ 0 ≤ v ∧ v < b ∧ Box (k + 1) xs' := by
  have hl : b.natAbs.log2 < 9000 := by
    have : b.natAbs < 2 ^ 60 := by omega
    have := (Nat.log2_lt (n := b.natAbs) (k := 60) (by omega)).mpr this
    omega
  obtain ⟨v, xs', h, h3, h4, h5⟩ := take_ok hb hk h1 hl
  exact ⟨v, xs', call_ok (args_lend (x := .lst xs) rfl (args_e ha rfl)) rfl rfl h rfl, h3, h4, h5⟩
/-! ### the spans -/
def spL (s : Int) : List D := match f_law_spans [.int s] with
  | .ok (.lst xs) [] => xs
  | _ => []
def okSp (s : Int) (d : D) : Bool := match d with
  | .tup [.int a, .int b] => decide (0 ≤ a) && (decide (a ≤ b) && decide (b < s))
  | _ => false
def pairB : List D → Bool
  | [] => true
  | x :: r => r.all (fun y => ltW x y) && pairB r
theorem sp_facts (s : Int) (h1 : 1 ≤ s) (h2 : s ≤ 7) : f_law_spans [.int s] = .ok (.lst (spL s)) [] ∧ (spL s).all (okSp s) = true ∧ pairB (spL s) = true ∧ (spL s).length ≤ 28 := by
  have : s = 1 ∨ s = 2 ∨ s = 3 ∨ s = 4 ∨ s = 5 ∨ s = 6 ∨ s = 7 := by omega
  rcases this with rfl | rfl | rfl | rfl | rfl | rfl | rfl
  · exact ⟨by kernel_rfl, by kernel_rfl, by kernel_rfl, by decide +kernel⟩
  · exact ⟨by kernel_rfl, by kernel_rfl, by kernel_rfl, by decide +kernel⟩
  · exact ⟨by kernel_rfl, by kernel_rfl, by kernel_rfl, by decide +kernel⟩
  · exact ⟨by kernel_rfl, by kernel_rfl, by kernel_rfl, by decide +kernel⟩
  · exact ⟨by kernel_rfl, by kernel_rfl, by kernel_rfl, by decide +kernel⟩
  · exact ⟨by kernel_rfl, by kernel_rfl, by kernel_rfl, by decide +kernel⟩
  · exact ⟨by kernel_rfl, by kernel_rfl, by kernel_rfl, by decide +kernel⟩
theorem pairB_iff : ∀ {xs : List D}, pairB xs = true ↔ xs.Pairwise fun x y => ltW x y = true
  | [] => by simp [pairB]
  | x :: r => by
    unfold pairB
    rw [Bool.and_eq_true, List.all_eq_true, pairB_iff, List.pairwise_cons]
theorem up_of_pairwise : ∀ {xs : List D}, (xs.Pairwise fun x y => ltW x y = true) → upB xs = true
  | [], _ => rfl
  | [_], _ => rfl
  | x :: y :: r, h => by
    rw [List.pairwise_cons] at h
    unfold upB
    rw [h.1 y List.mem_cons_self, up_of_pairwise h.2]
    rfl
/-! ### a drawn lot -/
def lotBody : DS := (sSeq (sAsgN 6 (eIf (tOr (c2 dLt (eVar 3) (eC (.int 1))) (c2 dEq (eCall f_law_take [.lend 0, .e (e2 dAdd (eC (.int 1)) (eVar 3))]) (eC (.int 0)))) (eCall f_law_take [.lend 0, .e (e2 dAdd (eVar 2) (eC (.int 1)))]) (eC (.int 0)))) (sIf (c2 dGt (eVar 6) (eC (.int 0))) (sApp 4 (eTup (aCons (eVar 5) (aCons (eVar 6) aNil)))) sNil))
/-- what a turn does: nothing, or one errand more -/
theorem lot_turn {k : Nat} {xs fs : List D} {s t q : Int} {w : D} {o : Sl} (hb : Box k xs) (hk : k + 2 < 2 ^ 60) (ht : 0 ≤ t) (ht2 : t < 1000) (hq : 0 ≤ q) (hq2 : q < 1000) (hf : fs.length ≤ 1000) (ho : isFix o = false) :
    ∃ xs' v, Box (k + 2) xs' ∧ ((lotBody [.bor xs, .val (.int s), .val (.int t), .val (.int q), .own fs, .val w, o] = .ok .nx [.bor xs', .val (.int s), .val (.int t), .val (.int q), .own fs, .val w, .val v]) ∨
      (∃ n : Int, 1 ≤ n ∧ lotBody [.bor xs, .val (.int s), .val (.int t), .val (.int q), .own fs, .val w, o] = .ok .nx [.bor xs', .val (.int s), .val (.int t), .val (.int q), .own (fs ++ [.tup [w, .int n]]), .val w, .val v])) := by
  have fin : ∀ {xs' : List D} {v : Int}, Box (k + 2) xs' → 0 ≤ v → (eIf (tOr (c2 dLt (eVar 3) (eC (.int 1))) (c2 dEq (eCall f_law_take [.lend 0, .e (e2 dAdd (eC (.int 1)) (eVar 3))]) (eC (.int 0)))) (eCall f_law_take [.lend 0, .e (e2 dAdd (eVar 2) (eC (.int 1)))]) (eC (.int 0))) [.bor xs, .val (.int s), .val (.int t), .val (.int q), .own fs, .val w, o] = .ok (.int v) [.bor xs', .val (.int s), .val (.int t), .val (.int q), .own fs, .val w, o] →
      ∃ xs' v, Box (k + 2) xs' ∧ ((lotBody [.bor xs, .val (.int s), .val (.int t), .val (.int q), .own fs, .val w, o] = .ok .nx [.bor xs', .val (.int s), .val (.int t), .val (.int q), .own fs, .val w, .val v]) ∨
      (∃ n : Int, 1 ≤ n ∧ lotBody [.bor xs, .val (.int s), .val (.int t), .val (.int q), .own fs, .val w, o] = .ok .nx [.bor xs', .val (.int s), .val (.int t), .val (.int q), .own (fs ++ [.tup [w, .int n]]), .val w, .val v])) := fun {xs' v} hb' hv h => by
    refine ⟨xs', .int v, hb', ?_⟩
    have a1 := asg_ok (i := 6) h ho
    by_cases h0 : 0 < v
    · have hl : fs.length + 1 ≤ 100000 := by omega
      refine .inr ⟨v, by omega, ?_⟩
      unfold lotBody
      rw [seq_nx a1]
      simp [dGt, h0, lenOk]
      omega
    · refine .inl ?_
      unfold lotBody
      rw [seq_nx a1]
      simp [dGt, h0]
  by_cases hq1 : q < 1
  · obtain ⟨v, xs', c, h3, h4, h5⟩ := draw (e := []) (r := [.val (.int s), .val (.int t), .val (.int q), .own fs, .val w, o]) (a := e2 dAdd (eVar 2) (eC (.int 1))) (b := t + 1) hb (by omega) (by omega) (by omega) rfl
    refine fin (box_mono h5 (by omega)) h3 ?_
    rw [eIf_ok (k := true) (e1 := [.bor xs, .val (.int s), .val (.int t), .val (.int q), .own fs, .val w, o]) (by simp [dLt, hq1])]
    exact c
  · obtain ⟨v, xs', c, h3, h4, h5⟩ := draw (e := []) (r := [.val (.int s), .val (.int t), .val (.int q), .own fs, .val w, o]) (a := e2 dAdd (eC (.int 1)) (eVar 3)) (b := 1 + q) hb (by omega) (by omega) (by omega) rfl
    by_cases hv : v = 0
    · obtain ⟨v2, xs2, c2', h32, h42, h52⟩ := draw (e := []) (r := [.val (.int s), .val (.int t), .val (.int q), .own fs, .val w, o]) (a := e2 dAdd (eVar 2) (eC (.int 1))) (b := t + 1) h5 (by omega) (by omega) (by omega) rfl
      refine fin (box_mono h52 (by omega)) h32 ?_
      rw [eIf_ok (k := true) (e1 := [.bor xs', .val (.int s), .val (.int t), .val (.int q), .own fs, .val w, o]) (by simp [dLt, hq1, c, dEq_int, hv])]
      exact c2'
    · refine fin (box_mono h5 (by omega)) (by omega) (v := 0) ?_
      rw [eIf_ok (k := false) (e1 := [.bor xs', .val (.int s), .val (.int t), .val (.int q), .own fs, .val w, o]) (by simp [dLt, hq1, c, dEq_int, hv])]
      rfl
/-- the lot's word: its errands lie among the spans, in their order -/
def Errs (s : Int) (fs : List D) : Prop := ∀ f ∈ fs, ∃ (w : D) (n : Int), f = .tup [w, .int n] ∧ 1 ≤ n
theorem lot_loop {s t q : Int} (ht : 0 ≤ t) (ht2 : t < 1000) (hq : 0 ≤ q) (hq2 : q < 1000) (ws : List D) (hws : ws.length ≤ 28) : ∀ (r : List D) {k : Nat} {xs fs : List D} {o1 o2 : Sl}, Box k xs → k + 2 * r.length < 2 ^ 60 → isOwn o1 = false → isFix o2 = false → Errs s fs → ((fs.map fstD) ++ r).Sublist ws →
    ∃ xs' fs' o1' o2', loop (gN 5) lotBody r [.bor xs, .val (.int s), .val (.int t), .val (.int q), .own fs, o1, o2] = .ok .nx [.bor xs', .val (.int s), .val (.int t), .val (.int q), .own fs', o1', o2'] ∧ Box (k + 2 * r.length) xs' ∧ Errs s fs' ∧ (fs'.map fstD).Sublist ws
  | [], k, xs, fs, o1, o2, hb, _, _, _, he, hs => ⟨xs, fs, o1, o2, rfl, hb, he, by rw [List.append_nil] at hs; exact hs⟩
  | w :: r, k, xs, fs, o1, o2, hb, hk, h1, h2, he, hs => by
    have hlen : fs.length ≤ 1000 := by
      have := hs.length_le
      rw [List.length_append, List.length_map] at this
      omega
    rw [List.length_cons] at hk
    obtain ⟨xs1, v, hb1, h⟩ := lot_turn (s := s) (t := t) (q := q) (w := w) (o := o2) (fs := fs) hb (by omega) ht ht2 hq hq2 hlen h2
    have hg : gN 5 w [.bor xs, .val (.int s), .val (.int t), .val (.int q), .own fs, o1, o2] = .ok () [.bor xs, .val (.int s), .val (.int t), .val (.int q), .own fs, .val w, o2] := by simp [h1]
    rcases h with h | ⟨n, hn, h⟩
    · obtain ⟨xs', fs', o1', o2', g1, g2, g3, g4⟩ := lot_loop ht ht2 hq hq2 ws hws r (k := k + 2) (fs := fs) (o1 := .val w) (o2 := .val v) hb1 (by omega) rfl rfl he
        (((List.Sublist.refl _).append (List.sublist_cons_self w r)).trans hs)
      refine ⟨xs', fs', o1', o2', ?_, box_mono g2 (by rw [List.length_cons]; omega), g3, g4⟩
      unfold loop
      rw [bind_ok hg, bind_ok h]
      exact g1
    · obtain ⟨xs', fs', o1', o2', g1, g2, g3, g4⟩ := lot_loop ht ht2 hq hq2 ws hws r (k := k + 2) (fs := fs ++ [.tup [w, .int n]]) (o1 := .val w) (o2 := .val v) hb1 (by omega) rfl rfl
        (fun f hf => by
          rcases List.mem_append.mp hf with hf | hf
          · exact he f hf
          · exact ⟨w, n, List.mem_singleton.mp hf, hn⟩)
        (by rw [List.map_append, List.append_assoc]; exact hs)
      refine ⟨xs', fs', o1', o2', ?_, box_mono g2 (by rw [List.length_cons]; omega), g3, g4⟩
      unfold loop
      rw [bind_ok hg, bind_ok h]
      exact g1
theorem lot_ok {k : Nat} {xs : List D} {s : Int} (hb : Box k xs) (hk : k < 2 ^ 50) (h1 : 1 ≤ s) (h2 : s ≤ 7) : ∃ es xs', f_law_lot [.lst xs, .int s, .int 30] = .ok (.tup [.int s, .tup es]) [xs'] ∧ Box (k + 100) xs' ∧ es.all (errB s) = true ∧ upB (es.map fstD) = true ∧ es.length ≤ 28 := by
  obtain ⟨f1, f2, f3, f4⟩ := sp_facts s h1 h2
  obtain ⟨q, xs1, c, h3, h4, h5⟩ := draw (e := []) (r := [.val (.int s), .val (.int 30), .no, .no, .no, .no]) (a := eC (.int 4)) (b := 4) hb (by omega) (by omega) (by omega) rfl
  obtain ⟨xs', fs, o1, o2, g1, g2, g3, g4⟩ := lot_loop (s := s) (t := 30) (q := q) (by omega) (by omega) h3 (by omega) (spL s) f4 (spL s) (k := k + 1) (fs := []) (o1 := .no) (o2 := .no) h5 (by omega) rfl rfl (fun f h => by cases h) (List.Sublist.refl _)
  have hl : fs.length ≤ 28 := by
    have := g4.length_le
    rw [List.length_map] at this
    omega
  refine ⟨fs, xs', ?_, box_mono g2 (by omega), ?_, up_of_pairwise (List.Pairwise.sublist g4 (pairB_iff.mp f3)), hl⟩
  · refine mkF_rt rfl (e := [.bor xs', .val (.int s), .val (.int 30), .val (.int q), .val (.lst fs), o1, o2]) (show m_law_lot [.bor xs, .val (.int s), .val (.int 30), .no, .no, .no, .no] = _ from ?_) rfl
    unfold m_law_lot
    unfold lotBody at g1
    rw [seq_nx (e1 := [.bor xs1, .val (.int s), .val (.int 30), .val (.int q), .own [], .no, .no]) ?_, seq_nx (e1 := [.bor xs', .val (.int s), .val (.int 30), .val (.int q), .own fs, o1, o2]) (for_ok (xs := spL s) (e1 := [.bor xs1, .val (.int s), .val (.int 30), .val (.int q), .own [], .no, .no]) ?_ g1),
      seq_nx (a := sRelL 4) (e := [.bor xs', .val (.int s), .val (.int 30), .val (.int q), .own fs, o1, o2]) (e1 := [.bor xs', .val (.int s), .val (.int 30), .val (.int q), .val (.lst fs), o1, o2]) rfl]
    · exact ret_ok (tup_ok (aCons_ok rfl (aCons_ok (x := .tup fs) rfl rfl)) (by simp))
    · have := call1 (f := f_law_spans) (a := eVar 1) (e := [.bor xs1, .val (.int s), .val (.int 30), .val (.int q), .own [], .no, .no]) (x := .int s) rfl f1
      simp [this]
    · unfold sPar
      rw [bind_ok (args_e c (args_new (a := eLst aNil) (as := []) (x := .lst []) (e1 := [.bor xs1, .val (.int s), .val (.int 30), .no, .no, .no, .no]) rfl rfl))]
      rfl
  · rw [List.all_eq_true]
    intro f hf
    obtain ⟨w, n, rfl, hn⟩ := g3 f hf
    have hw : w ∈ spL s := g4.subset (List.mem_map.mpr ⟨_, hf, rfl⟩)
    have hs := List.all_eq_true.mp f2 w hw
    unfold okSp at hs
    split at hs
    · rename_i a b
      rw [Bool.and_eq_true, Bool.and_eq_true, decide_eq_true_eq, decide_eq_true_eq, decide_eq_true_eq] at hs
      have hb0 : 0 ≤ b := by omega
      simp [errB, two2, posB, wB, nnB, ordB, hn, hs, hb0]
    · cases hs
end AH
namespace AH
open LW
open L2 (atI ixN)
/-! ### data of bounded depth and lengths -/
mutual
def D.fit : Nat → Nat → D → Bool
  | _, _, .non => true
  | _, _, .bl _ => true
  | _, _, .int _ => true
  | _, _, .str s => PySem.PyData.strOk s
  | t + 1, n, .tup xs => decide (xs.length ≤ n) && D.fitL t n xs
  | t + 1, n, .lst xs => decide (xs.length ≤ n) && D.fitL t n xs
  | _, _, _ => false
def D.fitL : Nat → Nat → List D → Bool
  | _, _, [] => true
  | t, n, x :: xs => D.fit t n x && D.fitL t n xs
end
theorem fitL_iff {t n : Nat} : ∀ {xs : List D}, D.fitL t n xs = true ↔ ∀ x ∈ xs, D.fit t n x = true
  | [] => by simp [D.fitL]
  | x :: xs => by
    rw [D.fitL, Bool.and_eq_true, fitL_iff]
    constructor
    · intro h y hy
      rcases List.mem_cons.mp hy with rfl | hy
      · exact h.1
      · exact h.2 y hy
    · intro h
      exact ⟨h x List.mem_cons_self, fun y hy => h y (List.mem_cons_of_mem _ hy)⟩
theorem fit_tup {t n : Nat} {xs : List D} : D.fit (t + 1) n (.tup xs) = true ↔ xs.length ≤ n ∧ ∀ x ∈ xs, D.fit t n x = true := by
  rw [D.fit, Bool.and_eq_true, decide_eq_true_eq, fitL_iff]
theorem fit_lst {t n : Nat} {xs : List D} : D.fit (t + 1) n (.lst xs) = true ↔ xs.length ≤ n ∧ ∀ x ∈ xs, D.fit t n x = true := by
  rw [D.fit, Bool.and_eq_true, decide_eq_true_eq, fitL_iff]
theorem fit_mono {n m : Nat} (hm : n ≤ m) : ∀ {t u : Nat} {d : D}, t ≤ u → D.fit t n d = true → D.fit u m d = true
  | t, u, .non, _, _ => by cases u <;> rfl
  | t, u, .bl _, _, _ => by cases u <;> rfl
  | t, u, .int _, _, _ => by cases u <;> rfl
  | t, u, .str s, _, h => by
    have h : PySem.PyData.strOk s = true := by cases t <;> exact h
    cases u <;> exact h
  | 0, u, .tup xs, _, h => by cases h
  | t + 1, 0, .tup xs, hu, _ => by omega
  | t + 1, u + 1, .tup xs, hu, h => by
    rw [fit_tup] at h ⊢
    exact ⟨by omega, fun x hx => fit_mono hm (by omega) (h.2 x hx)⟩
  | 0, u, .lst xs, _, h => by cases h
  | t + 1, 0, .lst xs, hu, _ => by omega
  | t + 1, u + 1, .lst xs, hu, h => by
    rw [fit_lst] at h ⊢
    exact ⟨by omega, fun x hx => fit_mono hm (by omega) (h.2 x hx)⟩
  | t, u, .dic _, _, h => by cases t <;> cases h
  | t, u, .exc _ _ _, _, h => by cases t <;> cases h
  | t, u, .obj _, _, h => by cases t <;> cases h
mutual
theorem fit_plain {n : Nat} : ∀ {t u : Nat} {d : D}, t ≤ u → D.fit t n d = true → D.plain u d = true
  | t, u, .non, _, _ => by cases u <;> rfl
  | t, u, .bl _, _, _ => by cases u <;> rfl
  | t, u, .int _, _, _ => by cases u <;> rfl
  | t, u, .str s, _, h => by
    have h : PySem.PyData.strOk s = true := by cases t <;> exact h
    cases u <;> exact h
  | 0, u, .tup xs, _, h => by cases h
  | t + 1, 0, .tup xs, hu, _ => by omega
  | t + 1, u + 1, .tup xs, hu, h => by
    rw [D.fit, Bool.and_eq_true] at h
    exact fitL_plain (by omega) h.2
  | 0, u, .lst xs, _, h => by cases h
  | t + 1, 0, .lst xs, hu, _ => by omega
  | t + 1, u + 1, .lst xs, hu, h => by
    rw [D.fit, Bool.and_eq_true] at h
    exact fitL_plain (by omega) h.2
  | t, u, .dic _, _, h => by cases t <;> cases h
  | t, u, .exc _ _ _, _, h => by cases t <;> cases h
  | t, u, .obj _, _, h => by cases t <;> cases h
theorem fitL_plain {n : Nat} : ∀ {t u : Nat} {xs : List D}, t ≤ u → D.fitL t n xs = true → D.plainL u xs = true
  | _, _, [], _, _ => by simp [D.plainL]
  | t, u, x :: xs, hu, h => by
    rw [D.fitL, Bool.and_eq_true] at h
    rw [D.plainL, fit_plain hu h.1, fitL_plain hu h.2]
    rfl
end
/-! ### lists in place of tuples -/
theorem lists_ok {n : Nat} (hn : n ≤ 100000) : ∀ (t u : Nat) (d : D), t < u → D.fit t n d = true → ∃ r, f_law_lists u [d] = .ok r [] ∧ (∀ xs, d = .tup xs → ∃ ys, r = .lst ys)
  | t, 0, d, h, _ => by omega
  | t, u + 1, d, h, hf => by
    have plainc : (∀ xs, d ≠ .tup xs) → (∀ xs, d ≠ .lst xs) → f_law_lists (u + 1) [d] = .ok d [] := fun h1 h2 => by
      cases d with
      | tup xs => exact absurd rfl (h1 xs)
      | lst xs => exact absurd rfl (h2 xs)
      | _ => simp [f_law_lists, m_law_lists, mkF, lstsOk, startE, lentOf, isi]
    have seqc : ∀ xs, (d = .tup xs ∨ d = .lst xs) → ∃ ys, f_law_lists (u + 1) [d] = .ok (.lst ys) [] := fun xs hx => by
      have ⟨t', ht', hl, hi⟩ : ∃ t', t = t' + 1 ∧ xs.length ≤ n ∧ ∀ x ∈ xs, D.fit t' n x = true := by
        rcases hx with rfl | rfl
        · cases t with
          | zero => cases hf
          | succ t' => rw [fit_tup] at hf; exact ⟨t', rfl, hf⟩
        · cases t with
          | zero => cases hf
          | succ t' => rw [fit_lst] at hf; exact ⟨t', rfl, hf⟩
      have lc : eLc [1] (iSeq (eVar 0)) (gN 1) tYes (eCall (f_law_lists u) [.e (eVar 1)]) [.val d, .no] = .ok (.lst (xs.map fun x => match f_law_lists u [x] with | .ok r [] => r | _ => .non)) [.val d, .no] := by
        refine eLc_map _ (by rcases hx with rfl | rfl <;> rfl) rfl (by omega) fun x hxx => ⟨[.val d, .val x], rfl, rfl, ?_⟩
        obtain ⟨r, hr, _⟩ := lists_ok hn t' u x (by omega) (hi x hxx)
        rw [hr]
        exact call1 (x := x) rfl hr
      refine ⟨_, mkF_rt rfl (e := [.val d, .no]) (show m_law_lists (f_law_lists u) [.val d, .no] = _ from ret_ok ((eIf_ok (k := true) (e1 := [.val d, .no]) (tV_ok ?_)).trans lc)) rfl⟩
      rcases hx with rfl | rfl <;> rfl
    cases d with
    | tup xs =>
      obtain ⟨ys, h1⟩ := seqc xs (.inl rfl)
      exact ⟨_, h1, fun _ _ => ⟨ys, rfl⟩⟩
    | lst xs =>
      obtain ⟨ys, h1⟩ := seqc xs (.inr rfl)
      exact ⟨_, h1, fun _ e => by cases e⟩
    | _ => exact ⟨_, plainc (fun _ e => by cases e) (fun _ e => by cases e), fun _ e => by cases e⟩
end AH
namespace AH
open LW
open L2 (atI ixN)
theorem of_ok {k : Nat} {xs pool : List D} (hb : Box k xs) (hk : k < 2 ^ 60) (hp : pool ≠ []) (hl : pool.length ≤ 100000) : ∃ d xs', f_law_of [.lst xs, .lst pool] = .ok d [xs'] ∧ d ∈ pool ∧ Box (k + 1) xs' := by
  have hpos : 0 < pool.length := List.length_pos_iff.mpr hp
  obtain ⟨v, xs', c, h3, h4, h5⟩ := draw (e := []) (r := [.val (.lst pool)]) (a := e1 dLen (eVar 1)) (b := pool.length) hb hk (by omega) (by omega) rfl
  obtain ⟨i, rfl⟩ : ∃ i : Nat, v = (i : Int) := ⟨v.toNat, by omega⟩
  have hi : i < pool.length := by omega
  refine ⟨pool[i], xs', ?_, List.getElem_mem hi, h5⟩
  refine mkF_rt rfl (e := [.bor xs', .val (.lst pool)]) (show m_law_of [.bor xs, .val (.lst pool)] = _ from ret_ok (e2_ok (x := .lst pool) (e1 := [.bor xs, .val (.lst pool)]) rfl c ?_)) rfl
  simp [dIx, atI_nat hi]
theorem ne_nil {xs : List D} (h : D.plain 40 (.tup xs) = true) : dNe (.tup xs) (.tup []) = .ok (!xs.isEmpty) := by
  have h2 : D.plain 40 (.tup []) = true := rfl
  unfold dNe
  rw [h, h2]
  cases xs <;> rfl
theorem cut_to {xs : List D} {i : Nat} (h : i ≤ xs.length) : cut xs none (some (i : Int)) = xs.take i := by
  have h1 : HT.sIx xs.length 0 none = 0 := rfl
  have h2 : HT.sIx xs.length xs.length (some (i : Int)) = i := by rw [HT.sIx_nat]; omega
  unfold cut
  rw [h1, h2]
  rfl
theorem cut_from {xs : List D} {i : Nat} (h : i ≤ xs.length) : cut xs (some (i : Int)) none = xs.drop i := by
  have h1 : HT.sIx xs.length 0 (some (i : Int)) = i := by rw [HT.sIx_nat]; omega
  have h2 : HT.sIx xs.length xs.length none = xs.length := rfl
  unfold cut
  rw [h1, h2, List.take_of_length_le]
  rw [List.length_drop]
  exact Nat.le_refl _
theorem cut_mem {xs : List D} {lo hi : Option Int} {x : D} (h : x ∈ cut xs lo hi) : x ∈ xs := List.mem_of_mem_drop (List.mem_of_mem_take h)
theorem cut_len {xs : List D} {lo hi : Option Int} : (cut xs lo hi).length ≤ xs.length := by
  unfold cut
  rw [List.length_take, List.length_drop]
  omega
/-! ### the odd things -/
def oddC : List D := [.non, .bl true, .bl false, .int 0, .int 1, .int (-1), .int 2, .int 7, .str "", .str "1", .tup [], .lst [], .tup [.int 0], .tup [.int 0, .int 1], .tup [.tup [.int 0, .int 1], .int 1], .int (10 ^ 50)]
def oddE : DE := (eLst (aCons (eC .non) (aCons (eC (.bl true)) (aCons (eC (.bl false)) (aCons (eC (.int 0)) (aCons (eC (.int 1)) (aCons (e1 dNeg (eC (.int 1))) (aCons (eC (.int 2)) (aCons (eC (.int 7)) (aCons (eC (.str "")) (aCons (eC (.str "1")) (aCons (eTup aNil) (aCons (eLst aNil) (aCons (eTup (aCons (eC (.int 0)) aNil)) (aCons (eTup (aCons (eC (.int 0)) (aCons (eC (.int 1)) aNil))) (aCons (eTup (aCons (eTup (aCons (eC (.int 0)) (aCons (eC (.int 1)) aNil))) (aCons (eC (.int 1)) aNil))) (aCons (e2 dPow (eC (.int 10)) (eC (.int 50))) aNil)))))))))))))))))
theorem oddE_ok (e : Env) : oddE e = .ok (.lst oddC) e := by kernel_rfl
theorem oddC_fit : oddC.all (D.fit 3 2) = true := by kernel_rfl
def oddM (xs : List D) : List D := [.lst xs, .tup xs.reverse, .tup (cut xs (some 1) none), .tup (xs ++ cut xs (some (-1)) none), .tup [.tup xs], .tup (cut xs none (some 1))]
def oddA : DE := (eLst (aCons (e1 dList (eVar 1)) (aCons (e1 dRev (eVar 1)) (aCons (eSl (eVar 1) (oSome (eC (.int 1))) oNone) (aCons (e2 dAdd (eVar 1) (eSl (eVar 1) (oSome (e1 dNeg (eC (.int 1)))) oNone)) (aCons (eTup (aCons (eVar 1) aNil)) (aCons (eSl (eVar 1) oNone (oSome (eC (.int 1)))) aNil)))))))
theorem oddA_ok {bx ds xs : List D} {s2 : Sl} (hl : xs.length ≤ 1000) : oddA [.bor bx, .val (.tup xs), s2, .val (.lst ds)] = .ok (.lst (oddM xs)) [.bor bx, .val (.tup xs), s2, .val (.lst ds)] := by
  have h1 : xs.length + (cut xs (some (-1)) none).length ≤ 100000 := by
    have := cut_len (xs := xs) (lo := some (-1)) (hi := none)
    omega
  refine lst_ok (aCons_ok rfl (aCons_ok rfl (aCons_ok rfl (aCons_ok (e2_ok (x := .tup xs) (y := .tup (cut xs (some (-1)) none)) (e1 := [.bor bx, .val (.tup xs), s2, .val (.lst ds)]) rfl rfl ?_) (aCons_ok rfl (aCons_ok rfl rfl)))))) (by simp [oddM])
  show (if lenOk (xs.length + (cut xs (some (-1)) none).length) = true then Rv.ok (D.tup (xs ++ cut xs (some (-1)) none)) else .bad) = _
  rw [show lenOk (xs.length + (cut xs (some (-1)) none).length) = true from decide_eq_true h1]
  rfl
def oddRest : DS := (sSeq (sAsgN 3 oddE) (sSeq (sIf (tV (eIsi .tuple (eVar 1))) (sAsgN 3 (e2 dAdd (eVar 3) oddA)) sNil) (sRet (eCall f_law_of [.lend 0, .e (eVar 3)]))))
theorem odd_rest {k t n : Nat} {bx : List D} {d : D} {s2 : Sl} (hb : Box k bx) (hk : k < 2 ^ 60) (hf : D.fit t n d = true) (hn : 2 ≤ n) (hn2 : n ≤ 1000) : ∃ r bx' s3, oddRest [.bor bx, .val d, s2, .no] = .ok (.rt r) [.bor bx', .val d, s2, .val s3] ∧ D.fit (t + 4) (n + 1) r = true ∧ Box (k + 1) bx' := by
  have small : ∀ x ∈ oddC, D.fit (t + 4) (n + 1) x = true := fun x hx => fit_mono (by omega) (by omega) (List.all_eq_true.mp oddC_fit x hx)
  have fin : ∀ pool : List D, pool ≠ [] → pool.length ≤ 1000 → (∀ x ∈ pool, D.fit (t + 4) (n + 1) x = true) → sSeq (sAsgN 3 oddE) (sIf (tV (eIsi .tuple (eVar 1))) (sAsgN 3 (e2 dAdd (eVar 3) oddA)) sNil) [.bor bx, .val d, s2, .no] = .ok .nx [.bor bx, .val d, s2, .val (.lst pool)] →
      ∃ r bx' s3, oddRest [.bor bx, .val d, s2, .no] = .ok (.rt r) [.bor bx', .val d, s2, .val s3] ∧ D.fit (t + 4) (n + 1) r = true ∧ Box (k + 1) bx' := fun pool h1 h2 h3 h4 => by
    obtain ⟨r, bx', g1, g2, g3⟩ := of_ok hb hk h1 (by omega)
    refine ⟨r, bx', .lst pool, ?_, h3 r g2, g3⟩
    have a1 : sAsgN 3 oddE [.bor bx, .val d, s2, .no] = .ok .nx [.bor bx, .val d, s2, .val (.lst oddC)] := asg_ok (i := 3) (oddE_ok [.bor bx, .val d, s2, .no]) rfl
    unfold oddRest
    rw [seq_nx a1] at h4 ⊢
    rw [seq_nx h4]
    exact ret_ok (call_ok (args_lend (x := .lst bx) rfl (args_e (x := .lst pool) rfl rfl)) rfl rfl g1 rfl)
  have a1 : sAsgN 3 oddE [.bor bx, .val d, s2, .no] = .ok .nx [.bor bx, .val d, s2, .val (.lst oddC)] := asg_ok (i := 3) (oddE_ok [.bor bx, .val d, s2, .no]) rfl
  cases d with
  | tup xs =>
    cases t with
    | zero => cases hf
    | succ t =>
    rw [fit_tup] at hf
    obtain ⟨hl, hx⟩ := hf
    refine fin (oddC ++ oddM xs) (by simp [oddC]) (by simp [oddC, oddM]) (fun x hm => ?_) ?_
    · rcases List.mem_append.mp hm with hm | hm
      · exact small x hm
      · have up : ∀ y ∈ xs, D.fit (t + 4) (n + 1) y = true := fun y hy => fit_mono (by omega) (by omega) (hx y hy)
        have c1 := cut_len (xs := xs) (lo := some 1) (hi := none)
        have c2 := cut_len (xs := xs) (lo := none) (hi := some 1)
        have c3 : (cut xs (some (-1)) none).length ≤ 1 := by
          unfold cut
          rw [List.length_take, List.length_drop]
          have h1 : HT.sIx xs.length xs.length none = xs.length := rfl
          have h2 : xs.length - HT.sIx xs.length 0 (some (-1)) ≤ 1 := by unfold HT.sIx; simp; omega
          omega
        simp only [oddM, List.mem_cons, List.not_mem_nil, or_false] at hm
        rcases hm with rfl | rfl | rfl | rfl | rfl | rfl
        · rw [show t + 1 + 4 = (t + 4) + 1 by omega, fit_lst]; exact ⟨by omega, up⟩
        · rw [show t + 1 + 4 = (t + 4) + 1 by omega, fit_tup]; exact ⟨by rw [List.length_reverse]; omega, fun y hy => up y (List.mem_reverse.mp hy)⟩
        · rw [show t + 1 + 4 = (t + 4) + 1 by omega, fit_tup]; exact ⟨by omega, fun y hy => up y (cut_mem hy)⟩
        · rw [show t + 1 + 4 = (t + 4) + 1 by omega, fit_tup]; exact ⟨by rw [List.length_append]; omega, fun y hy => (List.mem_append.mp hy).elim (up y) fun hy => up y (cut_mem hy)⟩
        · rw [show t + 1 + 4 = (t + 4) + 1 by omega, fit_tup]
          refine ⟨by simp, fun y hy => ?_⟩
          rw [List.mem_singleton.mp hy, show t + 4 = (t + 3) + 1 by omega, fit_tup]
          exact ⟨by omega, fun z hz => fit_mono (by omega) (by omega) (hx z hz)⟩
        · rw [show t + 1 + 4 = (t + 4) + 1 by omega, fit_tup]; exact ⟨by omega, fun y hy => up y (cut_mem hy)⟩
    · rw [seq_nx a1, if_ok1 (t := tV (eIsi .tuple (eVar 1))) (e := [.bor bx, .val (.tup xs), s2, .val (.lst oddC)]) (k := true) (e1 := [.bor bx, .val (.tup xs), s2, .val (.lst oddC)]) rfl]
      exact asg_ok (i := 3) (e2_ok (x := .lst oddC) (y := .lst (oddM xs)) (e1 := [.bor bx, .val (.tup xs), s2, .val (.lst oddC)]) (e2 := [.bor bx, .val (.tup xs), s2, .val (.lst oddC)]) rfl (oddA_ok (by omega)) rfl) rfl
  | _ => exact fin oddC (by simp [oddC]) (by simp [oddC]) small (by rw [seq_nx a1, if_ok1 (t := tV (eIsi .tuple (eVar 1))) (e := [.bor bx, .val _, s2, .val (.lst oddC)]) (k := false) (e1 := [.bor bx, .val _, s2, .val (.lst oddC)]) rfl]; rfl)
end AH
namespace AH
open LW
open L2 (atI ixN)
def oddT : DT := tAnd (tV (eIsi .tuple (eVar 1))) (tAnd (c2 dNe (eVar 1) (eTup aNil)) (c2 dGt (eCall f_law_take [.lend 0, .e (eC (.int 6))]) (eC (.int 0))))
def oddIn (f : DF) : DS := (sSeq (sAsgN 2 (eCall f_law_take [.lend 0, .e (e1 dLen (eVar 1))])) (sRet (e2 dAdd (e2 dAdd (eSl (eVar 1) oNone (oSome (eVar 2))) (eTup (aCons (eCall f [.lend 0, .e (e2 dIx (eVar 1) (eVar 2))]) aNil))) (eSl (eVar 1) (oSome (e2 dAdd (eVar 2) (eC (.int 1)))) oNone))))
theorem odd_eq (u : Nat) : f_law_odd (u + 1) = mkF 4 [.bor, .val] (sSeq (sIf oddT (oddIn (f_law_odd u)) sNil) oddRest) := rfl
theorem add_tup {xs ys : List D} (h : xs.length + ys.length ≤ 100000) : dAdd (.tup xs) (.tup ys) = .ok (.tup (xs ++ ys)) := by
  show (if lenOk (xs.length + ys.length) = true then Rv.ok (D.tup (xs ++ ys)) else .bad) = _
  rw [show lenOk (xs.length + ys.length) = true from decide_eq_true h]
  rfl
theorem odd_ok {n : Nat} (hn : 2 ≤ n) (hn2 : n ≤ 999) : ∀ (u t : Nat) {k : Nat} {bx : List D} {d : D}, t < u → t ≤ 36 → Box k bx → k + 3 * u < 2 ^ 60 → D.fit t n d = true → ∃ r bx', f_law_odd u [.lst bx, d] = .ok r [bx'] ∧ D.fit (t + 4) (n + 1) r = true ∧ Box (k + 3 * u) bx'
  | 0, t, _, _, _, h, _, _, _, _ => by omega
  | u + 1, t, k, bx, d, h, ht, hb, hk, hf => by
    have rest : ∀ {k' : Nat} {bx1 : List D}, Box k' bx1 → k' + 1 ≤ k + 3 * (u + 1) → sIf oddT (oddIn (f_law_odd u)) sNil [.bor bx, .val d, .no, .no] = .ok .nx [.bor bx1, .val d, .no, .no] → ∃ r bx', f_law_odd (u + 1) [.lst bx, d] = .ok r [bx'] ∧ D.fit (t + 4) (n + 1) r = true ∧ Box (k + 3 * (u + 1)) bx' := fun {k' bx1} hb1 hk1 hs => by
      obtain ⟨r, bx', s3, g1, g2, g3⟩ := odd_rest (s2 := .no) hb1 (by omega) hf hn (by omega)
      refine ⟨r, bx', ?_, g2, box_mono g3 hk1⟩
      rw [odd_eq]
      exact mkF_rt rfl (e := [.bor bx', .val d, .no, .val s3]) (show sSeq (sIf oddT (oddIn (f_law_odd u)) sNil) oddRest [.bor bx, .val d, .no, .no] = _ from (seq_nx hs).trans g1) rfl
    cases d with
    | tup xs =>
      cases t with
      | zero => cases hf
      | succ t =>
      have hpl : D.plain 40 (.tup xs) = true := fit_plain (by omega) hf
      have hf' := hf
      rw [fit_tup] at hf'
      obtain ⟨hl, hx⟩ := hf'
      cases xs with
      | nil =>
        refine rest hb (by omega) ?_
        rw [if_ok1 (t := oddT) (k := false) (e := [.bor bx, .val (.tup []), .no, .no]) (e1 := [.bor bx, .val (.tup []), .no, .no]) (by simp [oddT, isi, ne_nil hpl, lenOk0])]
        rfl
      | cons y ys =>
        obtain ⟨v, bx1, c1, v0, v1, hb1⟩ := draw (e := []) (r := [.val (.tup (y :: ys)), .no, .no]) (a := eC (.int 6)) (b := 6) hb (by omega) (by omega) (by omega) rfl
        have ht1 : oddT [.bor bx, .val (.tup (y :: ys)), .no, .no] = .ok (decide (0 < v)) [.bor bx1, .val (.tup (y :: ys)), .no, .no] := by
          simp [oddT, isi, ne_nil hpl, lenOk0, c1, dGt]
        by_cases hv : 0 < v
        · rw [decide_eq_true hv] at ht1
          obtain ⟨w, bx2, c2', w0, w1, hb2⟩ := draw (e := []) (r := [.val (.tup (y :: ys)), .no, .no]) (a := e1 dLen (eVar 1)) (b := (y :: ys).length) hb1 (by omega) (by simp) (by omega) rfl
          obtain ⟨i, rfl⟩ : ∃ i : Nat, w = (i : Int) := ⟨w.toNat, by omega⟩
          have hi : i < (y :: ys).length := by omega
          obtain ⟨r, bx3, c3', r1, hb3⟩ := odd_ok hn hn2 u t (k := k + 2) (d := (y :: ys)[i]) (by omega) (by omega) hb2 (by omega) (hx _ (List.getElem_mem hi))
          have a1 : sAsgN 2 (eCall f_law_take [.lend 0, .e (e1 dLen (eVar 1))]) [.bor bx1, .val (.tup (y :: ys)), .no, .no] = .ok .nx [.bor bx2, .val (.tup (y :: ys)), .val (.int i), .no] := asg_ok c2' rfl
          have c4 : eCall (f_law_odd u) [.lend 0, .e (e2 dIx (eVar 1) (eVar 2))] [.bor bx2, .val (.tup (y :: ys)), .val (.int i), .no] = .ok r [.bor bx3, .val (.tup (y :: ys)), .val (.int i), .no] :=
            call_ok (args_lend (x := .lst bx2) rfl (args_e (x := (y :: ys)[i]) (e1 := [.bor bx2, .val (.tup (y :: ys)), .val (.int i), .no]) (e2_ok (x := .tup (y :: ys)) (y := .int i) rfl rfl (by unfold dIx; simp only [atI_nat hi])) rfl)) rfl rfl c3' rfl
          have e1' : ((i : Int) + 1) = ((i + 1 : Nat) : Int) := by omega
          refine ⟨.tup ((y :: ys).take i ++ [r] ++ (y :: ys).drop (i + 1)), bx3, ?_, ?_, box_mono hb3 (by omega)⟩
          · rw [odd_eq]
            refine mkF_rt rfl (e := [.bor bx3, .val (.tup (y :: ys)), .val (.int i), .no]) (show sSeq (sIf oddT (oddIn (f_law_odd u)) sNil) oddRest [.bor bx, .val (.tup (y :: ys)), .no, .no] = _ from seq_rt ?_) rfl
            rw [if_ok1 ht1]
            show oddIn (f_law_odd u) [.bor bx1, .val (.tup (y :: ys)), .no, .no] = _
            refine (seq_nx a1).trans (ret_ok (e2_ok (e2_ok (x := .tup ((y :: ys).take i)) (e1 := [.bor bx2, .val (.tup (y :: ys)), .val (.int i), .no]) ?_ (tup_ok (aCons_ok c4 rfl) (by simp)) (add_tup ?_)) (y := .tup ((y :: ys).drop (i + 1))) ?_ (add_tup ?_)))
            · simp [dSl, cut_to (Nat.le_of_lt hi)]
            · rw [List.length_take, List.length_singleton]; omega
            · have q : eSl (eVar 1) (oSome (e2 dAdd (eVar 2) (eC (.int 1)))) oNone [.bor bx3, .val (.tup (y :: ys)), .val (.int i), .no] = .ok (.tup (cut (y :: ys) (some ((i : Int) + 1)) none)) [.bor bx3, .val (.tup (y :: ys)), .val (.int i), .no] := rfl
              rw [q, e1', cut_from (xs := y :: ys) (i := i + 1) hi]
            · rw [List.length_append, List.length_take, List.length_drop, List.length_singleton]; omega
          · rw [show t + 1 + 4 = (t + 4) + 1 by omega, fit_tup]
            refine ⟨by rw [List.length_append, List.length_append, List.length_take, List.length_drop, List.length_singleton]; omega, fun z hz => ?_⟩
            rcases List.mem_append.mp hz with hz | hz
            · rcases List.mem_append.mp hz with hz | hz
              · exact fit_mono (by omega) (by omega) (hx z (List.mem_of_mem_take hz))
              · rw [List.mem_singleton.mp hz]; exact r1
            · exact fit_mono (by omega) (by omega) (hx z (List.mem_of_mem_drop hz))
        · rw [decide_eq_false hv] at ht1
          refine rest hb1 (by omega) ?_
          rw [if_ok1 ht1]
          rfl
    | _ => exact rest hb (by omega) ((if_ok1 (t := oddT) (k := false) (by simp [oddT, isi])).trans rfl)
end AH
namespace AH
open LW
open L2 (atI ixN)
theorem fit_len {t n : Nat} (hn : n ≤ 100000) {d : D} (h : D.fit t n d = true) : ∀ a es, d = .tup [a, .tup es] → es.length ≤ 100000 := by
  rintro a es rfl
  cases t with
  | zero => cases h
  | succ t =>
    rw [fit_tup] at h
    have h2 := h.2 (.tup es) (by simp)
    cases t with
    | zero => cases h2
    | succ t => rw [fit_tup] at h2; omega
theorem same1 : f_law_same 30 [.lst [.bl true, .bl false, .bl false], .lst [.bl true, .bl false, .bl false]] = .ok (.bl true) [] := by kernel_rfl
theorem same2 (b : Bool) : f_law_same 30 [.lst [.bl b, .bl b], .lst [.bl b, .bl b]] = .ok (.bl true) [] := by
  cases b
  · kernel_rfl
  · kernel_rfl
theorem lot_not_list (xs : List D) : f_is_lot [.lst xs] = .ok (.bl false) [] := by
  have := lot_eq (d := .lst xs) (by intro a es h; cases h)
  rw [this]
  rfl
theorem callK1 {f : DF} {a : DE} {e e1 : Env} {x r : D} (ha : a e = .ok x e1) (hf : f [x] = .ok r []) : eCallK f [0] (aCons a aNil) e = .ok r e1 := by
  unfold eCallK
  rw [bind_ok (aCons_ok (r := aNil) (xs := []) (e2 := e1) ha rfl)]
  show (match f (perm [0] [x]) with | .ok d [] => R.ok d e1 | .ex c fs [] => .ex c fs e1 | _ => .bad) = _
  rw [show perm [0] [x] = [x] from rfl, hf]
/-! ### the inner loop -/
def inBody : DS := (sSeq (sAsgN 5 (eCall (f_law_odd 30) [.lend 0, .e (eVar 2)])) (sSeq (sAsgN 5 (eIf (c2 dEq (eCall f_law_take [.lend 0, .e (eC (.int 3))]) (eC (.int 0))) (eCall (f_law_odd 30) [.lend 0, .e (eVar 5)]) (eVar 5))) (sIf (tNot (tV (eCall (f_law_same 30) [.e (eLst (aCons (eCall f_is_lot [.e (eVar 5)]) (aCons (eCallK f_is_lot [0] (aCons (eVar 5) aNil)) aNil))), .e (e2 dMul (eLst (aCons (eCall f_law_is_lot [.e (eVar 5)]) aNil)) (eC (.int 2)))]))) (sRet (eC (.bl false))) sNil)))
theorem in_turn {k : Nat} {bx : List D} {lot : D} {s1 s3 s4 s5 : Sl} (hb : Box k bx) (hk : k + 300 < 2 ^ 60) (hl : D.fit 4 28 lot = true) (h5 : isFix s5 = false) :
    ∃ bx' d, inBody [.bor bx, s1, .val lot, s3, s4, s5] = .ok .nx [.bor bx', s1, .val lot, s3, s4, .val d] ∧ Box (k + 200) bx' := by
  obtain ⟨d1, b1, c1, f1, hb1⟩ := odd_ok (n := 28) (by omega) (by omega) 30 4 (d := lot) (by omega) (by omega) hb (by omega) hl
  have a1 : sAsgN 5 (eCall (f_law_odd 30) [.lend 0, .e (eVar 2)]) [.bor bx, s1, .val lot, s3, s4, s5] = .ok .nx [.bor b1, s1, .val lot, s3, s4, .val d1] :=
    asg_ok (i := 5) (e1 := [.bor b1, s1, .val lot, s3, s4, s5]) (call_ok (args_lend (x := .lst bx) rfl (args_e (x := lot) (e1 := [.bor bx, s1, .val lot, s3, s4, s5]) rfl rfl)) rfl rfl c1 rfl) h5
  obtain ⟨v, b2, c2', v0, v1, hb2⟩ := draw (e := []) (r := [s1, .val lot, s3, s4, .val d1]) (a := eC (.int 3)) (b := 3) hb1 (by omega) (by omega) (by omega) rfl
  have t : c2 dEq (eCall f_law_take [.lend 0, .e (eC (.int 3))]) (eC (.int 0)) [.bor b1, s1, .val lot, s3, s4, .val d1] = .ok (v == 0) [.bor b2, s1, .val lot, s3, s4, .val d1] := c2_ok c2' rfl dEq_int
  have two : ∃ d b3, eIf (c2 dEq (eCall f_law_take [.lend 0, .e (eC (.int 3))]) (eC (.int 0))) (eCall (f_law_odd 30) [.lend 0, .e (eVar 5)]) (eVar 5) [.bor b1, s1, .val lot, s3, s4, .val d1] = .ok d [.bor b3, s1, .val lot, s3, s4, .val d1] ∧ D.fit 12 30 d = true ∧ Box (k + 200) b3 := by
    rw [eIf_ok t]
    cases hv : v == 0 with
    | true =>
      obtain ⟨d2, b3, c3', f2, hb3⟩ := odd_ok (n := 29) (by omega) (by omega) 30 8 (d := d1) (by omega) (by omega) hb2 (by omega) f1
      have q : eCall (f_law_odd 30) [.lend 0, .e (eVar 5)] [.bor b2, s1, .val lot, s3, s4, .val d1] = .ok d2 [.bor b3, s1, .val lot, s3, s4, .val d1] := call_ok (args_lend (x := .lst b2) rfl (args_e (x := d1) (e1 := [.bor b2, s1, .val lot, s3, s4, .val d1]) rfl rfl)) rfl rfl c3' rfl
      exact ⟨d2, b3, q, f2, box_mono hb3 (by omega)⟩
    | false => exact ⟨d1, b2, rfl, fit_mono (by omega) (by omega) f1, box_mono hb2 (by omega)⟩
  obtain ⟨d, b3, a2, f2, hb3⟩ := two
  refine ⟨b3, d, ?_, hb3⟩
  have a2' := asg_ok (i := 5) a2 rfl
  have l1 := lot_eq (fit_len (by omega) f2)
  have l2 := law_lot_eq (fit_len (by omega) f2)
  have g : ∀ e : Env, e = [.bor b3, s1, .val lot, s3, s4, .val d] → tNot (tV (eCall (f_law_same 30) [.e (eLst (aCons (eCall f_is_lot [.e (eVar 5)]) (aCons (eCallK f_is_lot [0] (aCons (eVar 5) aNil)) aNil))), .e (e2 dMul (eLst (aCons (eCall f_law_is_lot [.e (eVar 5)]) aNil)) (eC (.int 2)))])) e = .ok false e := fun e he => by
    subst he
    refine tNot_ok (k := true) (tV_ok (call2 (x := .lst [.bl (isLot d), .bl (isLot d)]) (y := .lst [.bl (isLot d), .bl (isLot d)]) (e1 := [.bor b3, s1, .val lot, s3, s4, .val d]) ?_ ?_ (same2 _)))
    · exact lst_ok (aCons_ok (call1 (x := d) rfl l1) (aCons_ok (callK1 (x := d) rfl l1) rfl)) (by simp)
    · exact e2_ok (x := .lst [.bl (isLot d)]) (y := .int 2) (lst_ok (aCons_ok (call1 (x := d) rfl l2) rfl) (by simp)) rfl rfl
  unfold inBody
  rw [seq_nx a1, seq_nx a2']
  show sIf _ _ _ [.bor b3, s1, .val lot, s3, s4, .val d] = _
  rw [if_ok1 (g _ rfl)]
  rfl
theorem in_loop {lot : D} {s1 s3 : Sl} (hl : D.fit 4 28 lot = true) : ∀ (r : List D) {k : Nat} {bx : List D} {s4 s5 : Sl}, Box k bx → k + 200 * r.length + 300 < 2 ^ 60 → isOwn s4 = false → isFix s5 = false →
    ∃ bx' s4' s5', loop (gN 4) inBody r [.bor bx, s1, .val lot, s3, s4, s5] = .ok .nx [.bor bx', s1, .val lot, s3, s4', s5'] ∧ Box (k + 200 * r.length) bx' ∧ isOwn s4' = false ∧ isFix s5' = false
  | [], k, bx, s4, s5, hb, _, h4, h5 => ⟨bx, s4, s5, rfl, hb, h4, h5⟩
  | x :: r, k, bx, s4, s5, hb, hk, h4, h5 => by
    rw [List.length_cons] at hk
    have hg : gN 4 x [.bor bx, s1, .val lot, s3, s4, s5] = .ok () [.bor bx, s1, .val lot, s3, .val x, s5] := by simp [h4]
    obtain ⟨b1, d, g1, hb1⟩ := in_turn (s1 := s1) (s3 := s3) (s4 := .val x) hb (by omega) hl h5
    obtain ⟨b2, s4', s5', g2, hb2, q4, q5⟩ := in_loop hl r (s4 := .val x) (s5 := .val d) hb1 (by omega) rfl rfl
    refine ⟨b2, s4', s5', ?_, box_mono hb2 (by rw [List.length_cons]; omega), q4, q5⟩
    unfold loop
    rw [bind_ok hg, bind_ok g1]
    exact g2
end AH
namespace AH
open LW
open L2 (atI ixN)
theorem lot_fit {s : Int} {es : List D} (h : es.all (errB s) = true) (hl : es.length ≤ 28) : D.fit 4 28 (.tup [.int s, .tup es]) = true := by
  rw [fit_tup]
  refine ⟨by simp, fun x hx => ?_⟩
  simp only [List.mem_cons, List.not_mem_nil, or_false] at hx
  rcases hx with rfl | rfl
  · rfl
  · rw [fit_tup]
    refine ⟨hl, fun y hy => ?_⟩
    obtain ⟨a, b, k, rfl, _⟩ := errB_of (List.all_eq_true.mp h y hy)
    rfl
def outBody : DS := (sSeq (sAsgN 2 (eCall f_law_lot [.lend 0, .e (e2 dAdd (eC (.int 1)) (eCall f_law_take [.lend 0, .e (eC (.int 7))])), .e (eC (.int 30))])) (sSeq (sAsgN 3 (eLst (aCons (eCall f_is_lot [.e (eVar 2)]) (aCons (eCall f_is_lot [.e (eCall (f_law_lists 30) [.e (eVar 2)])]) (aCons (eCallK f_is_lot [0] (aCons (e1 dList (eVar 2)) aNil)) aNil))))) (sSeq (sIf (tNot (tV (eCall (f_law_same 30) [.e (eVar 3), .e (eLst (aCons (eC (.bl true)) (aCons (eC (.bl false)) (aCons (eC (.bl false)) aNil))))]))) (sRet (eC (.bl false))) sNil) (sFor (iRng1 (eC (.int 6))) (gN 4) inBody))))
theorem out_turn {k : Nat} {bx : List D} {s1 s2 s3 s4 s5 : Sl} (hb : Box k bx) (hk : k + 3000 < 2 ^ 50) (h2 : isFix s2 = false) (h3 : isFix s3 = false) (h4 : isOwn s4 = false) (h5 : isFix s5 = false) :
    ∃ bx' s2' s3' s4' s5', outBody [.bor bx, s1, s2, s3, s4, s5] = .ok .nx [.bor bx', s1, s2', s3', s4', s5'] ∧ Box (k + 1400) bx' ∧ isFix s2' = false ∧ isFix s3' = false ∧ isOwn s4' = false ∧ isFix s5' = false := by
  obtain ⟨v, b1, c1, v0, v1, hb1⟩ := draw (e := []) (r := [s1, s2, s3, s4, s5]) (a := eC (.int 7)) (b := 7) hb (by omega) (by omega) (by omega) rfl
  obtain ⟨es, b2, c2', hb2, e1', e2', e3'⟩ := lot_ok (s := 1 + v) hb1 (by omega) (by omega) (by omega)
  have a1 : sAsgN 2 (eCall f_law_lot [.lend 0, .e (e2 dAdd (eC (.int 1)) (eCall f_law_take [.lend 0, .e (eC (.int 7))])), .e (eC (.int 30))]) [.bor bx, s1, s2, s3, s4, s5] = .ok .nx [.bor b2, s1, .val (.tup [.int (1 + v), .tup es]), s3, s4, s5] :=
    asg_ok (i := 2) (e1 := [.bor b2, s1, s2, s3, s4, s5]) (call_ok (args_lend (x := .lst bx) rfl (args_e (x := .int (1 + v)) (e1 := [.bor b1, s1, s2, s3, s4, s5]) (e2_ok (x := .int 1) (y := .int v) (e1 := [.bor bx, s1, s2, s3, s4, s5]) rfl c1 rfl) (args_e (a := eC (.int 30)) (as := []) (x := .int 30) (e1 := [.bor b1, s1, s2, s3, s4, s5]) (xs := []) rfl rfl))) rfl rfl c2' rfl) h2
  have ff := lot_fit e1' e3'
  have hl : isLot (.tup [.int (1 + v), .tup es]) = true := by
    have : decide (1 ≤ 1 + v) = true := decide_eq_true (by omega)
    simp only [isLot, two2, this, e1', e2', Bool.and_self]
  have l1 := lot_eq (fit_len (by omega) ff)
  rw [hl] at l1
  obtain ⟨r, l2, l3⟩ := lists_ok (n := 28) (by omega) 4 30 _ (by omega) ff
  obtain ⟨ys, rfl⟩ := l3 _ rfl
  have a2 : sAsgN 3 (eLst (aCons (eCall f_is_lot [.e (eVar 2)]) (aCons (eCall f_is_lot [.e (eCall (f_law_lists 30) [.e (eVar 2)])]) (aCons (eCallK f_is_lot [0] (aCons (e1 dList (eVar 2)) aNil)) aNil)))) [.bor b2, s1, .val (.tup [.int (1 + v), .tup es]), s3, s4, s5] = .ok .nx [.bor b2, s1, .val (.tup [.int (1 + v), .tup es]), .val (.lst [.bl true, .bl false, .bl false]), s4, s5] :=
    asg_ok (i := 3) (e1 := [.bor b2, s1, .val (.tup [.int (1 + v), .tup es]), s3, s4, s5]) (lst_ok (aCons_ok (call1 (e1 := [.bor b2, s1, .val (.tup [.int (1 + v), .tup es]), s3, s4, s5]) rfl l1) (aCons_ok (call1 (call1 (e1 := [.bor b2, s1, .val (.tup [.int (1 + v), .tup es]), s3, s4, s5]) rfl l2) (lot_not_list ys)) (aCons_ok (r := aNil) (xs := []) (callK1 (x := .lst [.int (1 + v), .tup es]) (e1 := [.bor b2, s1, .val (.tup [.int (1 + v), .tup es]), s3, s4, s5]) rfl (lot_not_list _)) rfl))) (by simp)) h3
  have t : tNot (tV (eCall (f_law_same 30) [.e (eVar 3), .e (eLst (aCons (eC (.bl true)) (aCons (eC (.bl false)) (aCons (eC (.bl false)) aNil))))])) [.bor b2, s1, .val (.tup [.int (1 + v), .tup es]), .val (.lst [.bl true, .bl false, .bl false]), s4, s5] = .ok false [.bor b2, s1, .val (.tup [.int (1 + v), .tup es]), .val (.lst [.bl true, .bl false, .bl false]), s4, s5] :=
    tNot_ok (k := true) (tV_ok (call2 (x := .lst [.bl true, .bl false, .bl false]) (y := .lst [.bl true, .bl false, .bl false]) (e1 := [.bor b2, s1, .val (.tup [.int (1 + v), .tup es]), .val (.lst [.bl true, .bl false, .bl false]), s4, s5]) rfl rfl same1))
  have r6 : iRng1 (eC (.int 6)) [.bor b2, s1, .val (.tup [.int (1 + v), .tup es]), .val (.lst [.bl true, .bl false, .bl false]), s4, s5] = .ok (rng 0 6) [.bor b2, s1, .val (.tup [.int (1 + v), .tup es]), .val (.lst [.bl true, .bl false, .bl false]), s4, s5] := rng1_ok rfl (by decide)
  obtain ⟨b3, s4', s5', lp, hb3, q4, q5⟩ := in_loop (s1 := s1) (s3 := .val (.lst [.bl true, .bl false, .bl false])) ff (rng 0 6) (s4 := s4) (s5 := s5) hb2 (by rw [rng_len]; omega) h4 h5
  refine ⟨b3, .val (.tup [.int (1 + v), .tup es]), .val (.lst [.bl true, .bl false, .bl false]), s4', s5', ?_, box_mono hb3 (by rw [rng_len]; omega), rfl, rfl, q4, q5⟩
  unfold outBody
  rw [seq_nx a1, seq_nx a2, seq_nx (e1 := [.bor b2, s1, .val (.tup [.int (1 + v), .tup es]), .val (.lst [.bl true, .bl false, .bl false]), s4, s5]) (by rw [if_ok1 t]; rfl)]
  exact for_ok r6 lp
theorem out_loop : ∀ (r : List D) {k : Nat} {bx : List D} {s1 s2 s3 s4 s5 : Sl}, Box k bx → k + 1400 * r.length + 5000 < 2 ^ 50 → isOwn s1 = false → isFix s2 = false → isFix s3 = false → isOwn s4 = false → isFix s5 = false →
    ∃ bx' e', loop (gN 1) outBody r [.bor bx, s1, s2, s3, s4, s5] = .ok .nx (.bor bx' :: e')
  | [], k, bx, s1, s2, s3, s4, s5, hb, _, _, _, _, _, _ => ⟨bx, _, rfl⟩
  | x :: r, k, bx, s1, s2, s3, s4, s5, hb, hk, h1, h2, h3, h4, h5 => by
    rw [List.length_cons] at hk
    have hg : gN 1 x [.bor bx, s1, s2, s3, s4, s5] = .ok () [.bor bx, .val x, s2, s3, s4, s5] := by simp [h1]
    obtain ⟨b1, t2, t3, t4, t5, g1, hb1, q2, q3, q4, q5⟩ := out_turn (s1 := .val x) hb (by omega) h2 h3 h4 h5
    obtain ⟨b2, e', g2⟩ := out_loop r (s1 := .val x) hb1 (by omega) rfl q2 q3 q4 q5
    refine ⟨b2, e', ?_⟩
    unfold loop
    rw [bind_ok hg, bind_ok g1]
    exact g2
theorem right_ok {bx : List D} (hb : Box 0 bx) : ∃ bx', f_law_right [.lst bx] = .ok (.bl true) [bx'] := by
  obtain ⟨bx', e', lp⟩ := out_loop (rng 0 8) (s1 := .no) (s2 := .no) (s3 := .no) (s4 := .no) (s5 := .no) hb (by rw [rng_len]; omega) rfl rfl rfl rfl rfl
  have r8 : iRng1 (eC (.int 8)) [.bor bx, .no, .no, .no, .no, .no] = .ok (rng 0 8) [.bor bx, .no, .no, .no, .no, .no] := rng1_ok rfl (by decide)
  refine ⟨bx', mkF_rt rfl (e := .bor bx' :: e') (show m_law_right [.bor bx, .no, .no, .no, .no, .no] = _ from ?_) ?_⟩
  · unfold m_law_right
    unfold outBody inBody at lp
    exact (seq_nx (for_ok r8 lp)).trans rfl
  · rfl
end AH
namespace AH
open LW
open L2 (atI ixN)
theorem pow18 : dPow (.int 10) (.int 18) = .ok (.int 1000000000000000000) := by kernel_rfl
theorem box_ok {cs : List D} {c : Int} {i : Nat} (hi : i < cs.length) (hc : cs[i] = .int c) (hl : cs.length ≤ 3) : ∃ bx, f_law_box [.lst cs, .int i] = .ok (.lst bx) [] ∧ Box 0 bx := by
  have a1 : sAsgN 2 (eIf (c2 dLt (eVar 1) (e1 dLen (eVar 0))) (e2 dIx (eVar 0) (eVar 1)) (eC (.int 0))) [.val (.lst cs), .val (.int i), .no] = .ok .nx [.val (.lst cs), .val (.int i), .val (.int c)] := by
    refine asg_ok (i := 2) (e1 := [.val (.lst cs), .val (.int i), .no]) ((eIf_ok (k := true) (e1 := [.val (.lst cs), .val (.int i), .no]) ?_).trans ?_) rfl
    · refine c2_ok (x := .int i) (y := .int cs.length) (e1 := [.val (.lst cs), .val (.int i), .no]) rfl rfl ?_
      show Rv.ok (decide ((i : Int) < cs.length)) = _
      rw [decide_eq_true (by omega)]
    · refine e2_ok (x := .lst cs) (y := .int i) (e1 := [.val (.lst cs), .val (.int i), .no]) rfl rfl ?_
      unfold dIx
      simp only [atI_nat hi, hc]
  obtain ⟨a, ha, ha0⟩ : ∃ a : Int, (if c < 0 then -c else c) = a ∧ 0 ≤ a := ⟨_, rfl, by split <;> omega⟩
  have hm : ∀ x : Int, ∀ b : Bool, mulOk x (if b = true then 1 else 0) = true := fun x b => mulOk_r (by cases b <;> decide)
  have h39 : mulOk 39373 (i : Int) = true := mulOk_l (by decide)
  have s1 : e1 dAbs (eVar 2) [.val (.lst cs), .val (.int i), .val (.int c)] = .ok (.int a) [.val (.lst cs), .val (.int i), .val (.int c)] := by
    rw [← ha]; rfl
  have s2 : e1 dInt (eB (c2 dGe (e1 dAbs (eVar 2)) (e2 dPow (eC (.int 10)) (eC (.int 18))))) [.val (.lst cs), .val (.int i), .val (.int c)] = .ok (.int (if decide ((1000000000000000000 : Int) ≤ a) = true then 1 else 0)) [.val (.lst cs), .val (.int i), .val (.int c)] :=
    e1_ok (eB_ok (c2_ok s1 (e2_ok (x := .int 10) (y := .int 18) (e1 := [.val (.lst cs), .val (.int i), .val (.int c)]) rfl rfl pow18) (k := decide ((1000000000000000000 : Int) ≤ a)) rfl)) rfl
  refine ⟨[.int (a * (if decide ((1000000000000000000 : Int) ≤ a) = true then 1 else 0)), .int (c % 2305843009213693951 + 39373 * (i : Int) + 10917), .int 0], ?_, _, _, _, rfl, ?_, ?_, ?_, by omega, by omega⟩
  · refine mkR_rt rfl (e := [.val (.lst cs), .val (.int i), .val (.int c)]) (show m_law_box [.val (.lst cs), .val (.int i), .no] = _ from ?_) rfl
    unfold m_law_box
    rw [seq_nx a1]
    refine ret_ok (lst_ok (aCons_ok (e1 := [.val (.lst cs), .val (.int i), .val (.int c)]) (e2_ok s1 s2 ?_) (aCons_ok (e1 := [.val (.lst cs), .val (.int i), .val (.int c)]) ?_ (aCons_ok (r := aNil) (xs := []) rfl rfl))) (by simp))
    · show (if mulOk _ _ = true then Rv.ok (D.int _) else .bad) = _
      rw [hm]; rfl
    · simp [dInt, dMod, dMul, dAdd, h39]
  · split <;> omega
  · have := Int.emod_nonneg c (b := 2305843009213693951) (by decide)
    omega
  · have := Int.emod_lt_of_pos c (b := 2305843009213693951) (by decide)
    have h62 : (2 : Int) ^ 62 = 4611686018427387904 := by decide
    omega
end AH
namespace AH
open LW
open L2 (atI ixN)
/-! ### the script's cells -/
def ceB : DS := (sSeq (sAsgN 5 (e2 dMod (e1 dInt (eVar 3)) (eVar 1))) (sSetL 2 (eVar 5) (e2 dAdd (e2L dIx 2 (eVar 5)) (e2 dMul (eVar 4) (e2 dAdd (eVar 3) (eC (.int 2)))))))
theorem ce_turn {S : D} {a b c x : Int} {k : Nat} {s5 : Sl} (hk : k < 2 ^ 60) (h5 : isFix s5 = false) : ∃ a' b' c' : Int, ∃ s, ceB [.ro S, .val (.int 3), .own [.int a, .int b, .int c], .val (.int k), .val (.int x), s5] = .ok .nx [.ro S, .val (.int 3), .own [.int a', .int b', .int c'], .val (.int k), .val (.int x), .val s] := by
  have a1 : sAsgN 5 (e2 dMod (e1 dInt (eVar 3)) (eVar 1)) [.ro S, .val (.int 3), .own [.int a, .int b, .int c], .val (.int k), .val (.int x), s5] = .ok .nx [.ro S, .val (.int 3), .own [.int a, .int b, .int c], .val (.int k), .val (.int x), .val (.int ((k : Int) % 3))] :=
    asg_ok (i := 5) (e1 := [.ro S, .val (.int 3), .own [.int a, .int b, .int c], .val (.int k), .val (.int x), s5]) (e2_ok (x := .int k) (y := .int 3) rfl rfl rfl) h5
  have hm : mulOk x ((k : Int) + 2) = true := mulOk_r (by omega)
  have h3 : (k : Int) % 3 = 0 ∨ (k : Int) % 3 = 1 ∨ (k : Int) % 3 = 2 := by omega
  unfold ceB
  rw [seq_nx a1]
  rcases h3 with h | h | h <;> rw [h]
  · exact ⟨a + x * ((k : Int) + 2), b, c, .int 0, by simp [dIx, dAdd, dMul, hm, ixN]⟩
  · exact ⟨a, b + x * ((k : Int) + 2), c, .int 1, by simp [dIx, dAdd, dMul, hm, ixN]⟩
  · exact ⟨a, b, c + x * ((k : Int) + 2), .int 2, by simp [dIx, dAdd, dMul, hm, ixN]⟩
theorem ce_loop {S : D} : ∀ (r : List D) {a b c : Int} {s3 s4 s5 : Sl}, (∀ p ∈ r, ∃ (k : Nat) (x : Int), k < 2 ^ 60 ∧ p = .tup [.int k, .int x]) → isOwn s3 = false → isOwn s4 = false → isFix s5 = false →
    ∃ a' b' c' : Int, ∃ s3' s4' s5', loop (gT (gsCons (gN 3) (gsCons (gN 4) gsNil))) ceB r [.ro S, .val (.int 3), .own [.int a, .int b, .int c], s3, s4, s5] = .ok .nx [.ro S, .val (.int 3), .own [.int a', .int b', .int c'], s3', s4', s5']
  | [], a, b, c, s3, s4, s5, _, _, _, _ => ⟨a, b, c, s3, s4, s5, rfl⟩
  | p :: r, a, b, c, s3, s4, s5, h, h3, h4, h5 => by
    obtain ⟨k, x, hk, rfl⟩ := h p List.mem_cons_self
    have hg : gT (gsCons (gN 3) (gsCons (gN 4) gsNil)) (.tup [.int k, .int x]) [.ro S, .val (.int 3), .own [.int a, .int b, .int c], s3, s4, s5] = .ok () [.ro S, .val (.int 3), .own [.int a, .int b, .int c], .val (.int k), .val (.int x), s5] := by simp [h3, h4]
    obtain ⟨a1, b1, c1, s, g1⟩ := ce_turn (S := S) (a := a) (b := b) (c := c) (x := x) hk h5
    obtain ⟨a2, b2, c2, t3, t4, t5, g2⟩ := ce_loop (S := S) r (a := a1) (b := b1) (c := c1) (s3 := .val (.int k)) (s4 := .val (.int x)) (s5 := .val s) (fun p hp => h p (List.mem_cons_of_mem _ hp)) rfl rfl rfl
    refine ⟨a2, b2, c2, t3, t4, t5, ?_⟩
    unfold loop
    rw [bind_ok hg, bind_ok g1]
    exact g2
end AH
namespace AH
open LW
open L2 (atI ixN)
theorem cells_eq : m_law_cells = sSeq (sOwn 2 (eOrT (e1 dList (eSlN 0 oNone (oSome (eVar 1)))) (eLst (aCons (eC (.int 0)) aNil)))) (sSeq (sFor (iEnumL (eSlN 0 (oSome (eVar 1)) (oSome (eC (.int 63))))) (gT (gsCons (gN 3) (gsCons (gN 4) gsNil))) ceB) (sSeq (sRelL 2) (sRet (eVar 2)))) := rfl
theorem enum_mem {xs : List D} {p : D} (h : p ∈ ((rng 0 (xs.length : Int)).zip xs).map fun p => D.tup [p.1, p.2]) : ∃ (k : Nat) (x : D), k < xs.length ∧ x ∈ xs ∧ p = .tup [.int k, x] := by
  obtain ⟨⟨a, b⟩, hq, rfl⟩ := List.mem_map.mp h
  obtain ⟨h1, h2⟩ := List.of_mem_zip hq
  obtain ⟨i, hi, rfl⟩ := rng_mem h1
  exact ⟨i, b, by omega, h2, by rw [Int.zero_add]⟩
/-- the cells: one to three ints -/
theorem cells_ok (ns : List Int) (hn : ns.length ≤ 63) : ∃ cs : List Int, 1 ≤ cs.length ∧ cs.length ≤ 3 ∧ f_law_cells [.lst (ns.map D.int), .int 3] = .ok (.lst (cs.map D.int)) [] := by
  have fin : ∀ (S : List D) (cs cs' : List Int) (t3 t4 t5 : Sl), S = ns.map D.int → sOwn 2 (eOrT (e1 dList (eSlN 0 oNone (oSome (eVar 1)))) (eLst (aCons (eC (.int 0)) aNil))) [.ro (.lst S), .val (.int 3), .no, .no, .no, .no] = .ok .nx [.ro (.lst S), .val (.int 3), .own (cs.map D.int), .no, .no, .no] →
      loop (gT (gsCons (gN 3) (gsCons (gN 4) gsNil))) ceB (((rng 0 ((cut S (some 3) (some 63)).length : Int)).zip (cut S (some 3) (some 63))).map fun p => D.tup [p.1, p.2]) [.ro (.lst S), .val (.int 3), .own (cs.map D.int), .no, .no, .no] = .ok .nx [.ro (.lst S), .val (.int 3), .own (cs'.map D.int), t3, t4, t5] →
      f_law_cells [.lst (ns.map D.int), .int 3] = .ok (.lst (cs'.map D.int)) [] := fun S cs cs' t3 t4 t5 hS h1 h2 => by
    rw [← hS]
    refine mkF_rt rfl (e := [.ro (.lst S), .val (.int 3), .val (.lst (cs'.map D.int)), t3, t4, t5]) (show m_law_cells [.ro (.lst S), .val (.int 3), .no, .no, .no, .no] = _ from ?_) rfl
    rw [cells_eq]
    exact (seq_nx h1).trans ((seq_nx (for_ok (e1 := [.ro (.lst S), .val (.int 3), .own (cs.map D.int), .no, .no, .no]) rfl h2)).trans rfl)
  match ns, hn, fin with
  | [], _, fin => exact ⟨[0], by simp, by simp, fin [] [0] [0] .no .no .no rfl rfl rfl⟩
  | [a], _, fin => exact ⟨[a], by simp, by simp, fin [.int a] [a] [a] .no .no .no rfl rfl rfl⟩
  | [a, b], _, fin => exact ⟨[a, b], by simp, by simp, fin [.int a, .int b] [a, b] [a, b] .no .no .no rfl rfl rfl⟩
  | a :: b :: c :: r, hn, fin =>
    obtain ⟨a', b', c', t3, t4, t5, lp⟩ := ce_loop (S := .lst ((a :: b :: c :: r).map D.int)) (((rng 0 ((cut ((a :: b :: c :: r).map D.int) (some 3) (some 63)).length : Int)).zip (cut ((a :: b :: c :: r).map D.int) (some 3) (some 63))).map fun p => D.tup [p.1, p.2]) (a := a) (b := b) (c := c) (s3 := .no) (s4 := .no) (s5 := .no) (fun p hp => by
      obtain ⟨k, x, hk, hx, rfl⟩ := enum_mem hp
      obtain ⟨y, _, rfl⟩ := List.mem_map.mp (cut_mem hx)
      have := cut_len (xs := (a :: b :: c :: r).map D.int) (lo := some 3) (hi := some 63)
      rw [List.length_map] at this
      exact ⟨k, y, by omega, rfl⟩) rfl rfl rfl
    refine ⟨[a', b', c'], by simp, by simp, fin _ [a, b, c] [a', b', c'] t3 t4 t5 rfl ?_ lp⟩
    have hc : cut ((a :: b :: c :: r).map D.int) none (some 3) = [.int a, .int b, .int c] := cut_to (xs := (a :: b :: c :: r).map D.int) (i := 3) (by simp)
    have v : e1 dList (eSlN 0 oNone (oSome (eVar 1))) [.ro (.lst ((a :: b :: c :: r).map D.int)), .val (.int 3), .no, .no, .no, .no] = .ok (.lst (cut ((a :: b :: c :: r).map D.int) none (some 3))) [.ro (.lst ((a :: b :: c :: r).map D.int)), .val (.int 3), .no, .no, .no, .no] := rfl
    rw [hc] at v
    have q : eOrT (e1 dList (eSlN 0 oNone (oSome (eVar 1)))) (eLst (aCons (eC (.int 0)) aNil)) [.ro (.lst ((a :: b :: c :: r).map D.int)), .val (.int 3), .no, .no, .no, .no] = .ok (.lst [.int a, .int b, .int c]) [.ro (.lst ((a :: b :: c :: r).map D.int)), .val (.int 3), .no, .no, .no, .no] := by
      unfold eOrT
      rw [bind_ok v]
      rfl
    unfold sOwn
    rw [bind_ok q]
    rfl
/-! ### the law -/
theorem law_true (ns : List Int) (hn : ns.length ≤ 63) : f_law [.lst (ns.map D.int)] = .ok (.bl true) [] := by
  obtain ⟨cs, h1, h2, hc⟩ := cells_ok ns hn
  refine mkF_rt rfl (e := [.ro (.lst (ns.map D.int)), .val (.lst (cs.map D.int)), .no]) (show m_law [.ro (.lst (ns.map D.int)), .no, .no] = _ from ?_) rfl
  have t : tNot (tV (eCall f_law_by_hand_right [])) [.ro (.lst (ns.map D.int)), .no, .no] = .ok false [.ro (.lst (ns.map D.int)), .no, .no] := tNot_ok (k := true) (tV_ok (call_ok rfl rfl rfl by_hand rfl))
  have a1 : sAsgN 1 (eCall f_law_cells [.look 0, .e (eC (.int 3))]) [.ro (.lst (ns.map D.int)), .no, .no] = .ok .nx [.ro (.lst (ns.map D.int)), .val (.lst (cs.map D.int)), .no] :=
    asg_ok (i := 1) (e1 := [.ro (.lst (ns.map D.int)), .no, .no]) (call_ok (args_look (x := .lst (ns.map D.int)) rfl (args_e (a := eC (.int 3)) (as := []) (x := .int 3) (e1 := [.ro (.lst (ns.map D.int)), .no, .no]) (xs := []) rfl rfl)) rfl rfl hc rfl) rfl
  have lc : eLc [2] (iRng1 (e1 dLen (eVar 1))) (gN 2) tYes (eCall f_law_right [.new (eCall f_law_box [.e (eVar 1), .e (eVar 2)])]) [.ro (.lst (ns.map D.int)), .val (.lst (cs.map D.int)), .no] = .ok (.lst ((rng 0 (cs.length : Int)).map fun _ => .bl true)) [.ro (.lst (ns.map D.int)), .val (.lst (cs.map D.int)), .no] := by
    have rk := rngOk_nat (i := 0) (n := cs.length) (by omega) (by omega) (by omega)
    have hlen : e1 dLen (eVar 1) [.ro (.lst (ns.map D.int)), .val (.lst (cs.map D.int)), .no] = .ok (.int cs.length) [.ro (.lst (ns.map D.int)), .val (.lst (cs.map D.int)), .no] := by
      simp [dLen]
    refine eLc_map _ (rng1_ok hlen rk) rfl (by rw [rng_len]; omega) fun x hx => ?_
    obtain ⟨i, hi, rfl⟩ := rng_mem hx
    rw [Int.zero_add]
    have hi' : i < (cs.map D.int).length := by rw [List.length_map]; omega
    obtain ⟨bx, g1, g2⟩ := box_ok (cs := cs.map D.int) (i := i) (c := cs[i]'(by rw [List.length_map] at hi'; exact hi')) hi' (by rw [List.getElem_map]) (by rw [List.length_map]; exact h2)
    obtain ⟨bx', g3⟩ := right_ok g2
    refine ⟨[.ro (.lst (ns.map D.int)), .val (.lst (cs.map D.int)), .val (.int i)], rfl, rfl, ?_⟩
    exact call_ok (args_new (x := .lst bx) (call2 (x := .lst (cs.map D.int)) (y := .int i) (e1 := [.ro (.lst (ns.map D.int)), .val (.lst (cs.map D.int)), .val (.int i)]) rfl rfl g1) rfl) rfl rfl g3 rfl
  unfold m_law
  rw [seq_nx (e1 := [.ro (.lst (ns.map D.int)), .no, .no]) (by rw [if_ok1 t]; rfl), seq_nx a1]
  refine ret_ok (e1_ok lc ?_)
  rw [all_eq (f := fun _ => true)]
  simp
end AH
namespace LW
open PySem PySem.Spec PyProof.Rows L2 AH
def d_law_cells : He.DefD := ⟨("_law_cells", none), "_law_cells", "_law_cells", defArgs s_law_cells, defBody s_law_cells, defScope s_law_cells, [], []⟩
def d_law_same : He.DefD := ⟨("_law_same", none), "_law_same", "_law_same", defArgs s_law_same, defBody s_law_same, defScope s_law_same, [], []⟩
def d_rises : He.DefD := ⟨("rises", none), "rises", "rises", defArgs s_rises, defBody s_rises, defScope s_rises, [], []⟩
def d_is_number : He.DefD := ⟨("is_number", none), "is_number", "is_number", defArgs s_is_number, defBody s_is_number, defScope s_is_number, [], []⟩
def d_are_numbers : He.DefD := ⟨("are_numbers", none), "are_numbers", "are_numbers", defArgs s_are_numbers, defBody s_are_numbers, defScope s_are_numbers, [], []⟩
def d_is_errand : He.DefD := ⟨("is_errand", none), "is_errand", "is_errand", defArgs s_is_errand, defBody s_is_errand, defScope s_is_errand, [], []⟩
def d_is_lot : He.DefD := ⟨("is_lot", none), "is_lot", "is_lot", defArgs s_is_lot, defBody s_is_lot, defScope s_is_lot, [], []⟩
def d_law_by_hand_right : He.DefD := ⟨("_law_by_hand_right", none), "_law_by_hand_right", "_law_by_hand_right", defArgs s_law_by_hand_right, defBody s_law_by_hand_right, defScope s_law_by_hand_right, [], []⟩
def d_law_spans : He.DefD := ⟨("_law_spans", none), "_law_spans", "_law_spans", defArgs s_law_spans, defBody s_law_spans, defScope s_law_spans, [], []⟩
def d_law_take : He.DefD := ⟨("_law_take", none), "_law_take", "_law_take", defArgs s_law_take, defBody s_law_take, defScope s_law_take, [], []⟩
def d_law_lot : He.DefD := ⟨("_law_lot", none), "_law_lot", "_law_lot", defArgs s_law_lot, defBody s_law_lot, defScope s_law_lot, [], []⟩
def d_law_of : He.DefD := ⟨("_law_of", none), "_law_of", "_law_of", defArgs s_law_of, defBody s_law_of, defScope s_law_of, [], []⟩
def d_law_odd : He.DefD := ⟨("_law_odd", none), "_law_odd", "_law_odd", defArgs s_law_odd, defBody s_law_odd, defScope s_law_odd, [], []⟩
def d_law_lists : He.DefD := ⟨("_law_lists", none), "_law_lists", "_law_lists", defArgs s_law_lists, defBody s_law_lists, defScope s_law_lists, [], []⟩
def d_law_is_whole : He.DefD := ⟨("_law_is_whole", none), "_law_is_whole", "_law_is_whole", defArgs s_law_is_whole, defBody s_law_is_whole, defScope s_law_is_whole, [], []⟩
def d_law_is_lot : He.DefD := ⟨("_law_is_lot", none), "_law_is_lot", "_law_is_lot", defArgs s_law_is_lot, defBody s_law_is_lot, defScope s_law_is_lot, [], []⟩
def d_law_right : He.DefD := ⟨("_law_right", none), "_law_right", "_law_right", defArgs s_law_right, defBody s_law_right, defScope s_law_right, [], []⟩
def d_law_box : He.DefD := ⟨("_law_box", none), "_law_box", "_law_box", defArgs s_law_box, defBody s_law_box, defScope s_law_box, [], []⟩
def d_law : He.DefD := ⟨("law", none), "law", "law", defArgs s_law, defBody s_law, defScope s_law, [], []⟩
def fn : List He.DefD := [d_law_cells, d_law_same, d_rises, d_is_number, d_are_numbers, d_is_errand, d_is_lot, d_law_by_hand_right, d_law_spans, d_law_take, d_law_lot, d_law_of, d_law_odd, d_law_lists, d_law_is_whole, d_law_is_lot, d_law_right, d_law_box, d_law]
def fa : List He.Fa := [.glo "_law_cells", .glo "_law_same", .glo "rises", .glo "is_number", .glo "are_numbers", .glo "is_errand", .glo "is_lot", .glo "_law_by_hand_right", .glo "_law_spans", .glo "_law_take", .glo "_law_lot", .glo "_law_of", .glo "_law_odd", .glo "_law_lists", .glo "_law_is_whole", .glo "_law_is_lot", .glo "_law_right", .glo "_law_box", .glo "law"] ++ [.free "abs", .free "all", .free "bool", .free "enumerate", .free "int", .free "isinstance", .free "len", .free "list", .free "range", .free "str", .free "tuple", .free "zip"]
abbrev lawR : PySem.W.OpenRow := PySem.W.OpenLaw.row PySem.Challenge.rw_anyhands_k09_lots_or_not
abbrev hk : PySem.W.Hook := He.hookD 4 fa fn
def ob (s : PySem.W.SharedT) : He.AlD := He.obsDG 4 fa fn (HandSHeadRun.getT s)
theorem ob_eq (s : PySem.W.SharedT) : ob s = hk.obs s.abs := He.obsDG_eq (HandSHeadRun.getT_eq s)
def names0 : List PySem.Str := ["is_number", "are_numbers", "rises", "is_errand", "is_lot", "_law_box", "_law_take", "_law_cells", "_law_of", "_law_lists", "_law_same", "_law_spans", "_law_lot", "_law_is_lot", "_law_is_whole", "_law_odd", "_law_by_hand_right", "_law_right"]
def names : List PySem.Str := names0
theorem run (w : World) : HandSHeadRun.RunEq lawR (PySem.W.view lawR.prog [21]) hk ob 3000 names w := by
  intro os
  kernel_rfl
theorem facts {P : Program} {w : World} {K : PySem.W.Frag} {h : Heap} {mg : Str → Option Value} {f : Addr} (X : K.In h) (G : h.Ns mainGlobals mg) (hfa : mg ("law" : Str) = some (.ref f)) (c : He.SaysD fa fn K) :
    ∃ fd : FuncData, (∀ (s : Shared) (v : Value), BindsTo s fd ⟨[v], []⟩ [("_law_script", v)]) ∧ ∀ base : Heap, K.In base → base.Ns mainGlobals mg → FnOk P w K mg base (L2.CX P w) 35 f fd p_law (spD .s K n_law [.ro] f_law) := by
  have F_law_cells : Fu K mg "_law_cells" s_law_cells := by
    obtain ⟨fd, F⟩ := c.def_ 0 (d := d_law_cells) rfl
    exact ⟨_, fd, F, He.glo_ok X G (c.fact 0 (f := .glo "_law_cells") rfl)⟩
  have F_law_same : Fu K mg "_law_same" s_law_same := by
    obtain ⟨fd, F⟩ := c.def_ 1 (d := d_law_same) rfl
    exact ⟨_, fd, F, He.glo_ok X G (c.fact 1 (f := .glo "_law_same") rfl)⟩
  have F_rises : Fu K mg "rises" s_rises := by
    obtain ⟨fd, F⟩ := c.def_ 2 (d := d_rises) rfl
    exact ⟨_, fd, F, He.glo_ok X G (c.fact 2 (f := .glo "rises") rfl)⟩
  have F_is_number : Fu K mg "is_number" s_is_number := by
    obtain ⟨fd, F⟩ := c.def_ 3 (d := d_is_number) rfl
    exact ⟨_, fd, F, He.glo_ok X G (c.fact 3 (f := .glo "is_number") rfl)⟩
  have F_are_numbers : Fu K mg "are_numbers" s_are_numbers := by
    obtain ⟨fd, F⟩ := c.def_ 4 (d := d_are_numbers) rfl
    exact ⟨_, fd, F, He.glo_ok X G (c.fact 4 (f := .glo "are_numbers") rfl)⟩
  have F_is_errand : Fu K mg "is_errand" s_is_errand := by
    obtain ⟨fd, F⟩ := c.def_ 5 (d := d_is_errand) rfl
    exact ⟨_, fd, F, He.glo_ok X G (c.fact 5 (f := .glo "is_errand") rfl)⟩
  have F_is_lot : Fu K mg "is_lot" s_is_lot := by
    obtain ⟨fd, F⟩ := c.def_ 6 (d := d_is_lot) rfl
    exact ⟨_, fd, F, He.glo_ok X G (c.fact 6 (f := .glo "is_lot") rfl)⟩
  have F_law_by_hand_right : Fu K mg "_law_by_hand_right" s_law_by_hand_right := by
    obtain ⟨fd, F⟩ := c.def_ 7 (d := d_law_by_hand_right) rfl
    exact ⟨_, fd, F, He.glo_ok X G (c.fact 7 (f := .glo "_law_by_hand_right") rfl)⟩
  have F_law_spans : Fu K mg "_law_spans" s_law_spans := by
    obtain ⟨fd, F⟩ := c.def_ 8 (d := d_law_spans) rfl
    exact ⟨_, fd, F, He.glo_ok X G (c.fact 8 (f := .glo "_law_spans") rfl)⟩
  have F_law_take : Fu K mg "_law_take" s_law_take := by
    obtain ⟨fd, F⟩ := c.def_ 9 (d := d_law_take) rfl
    exact ⟨_, fd, F, He.glo_ok X G (c.fact 9 (f := .glo "_law_take") rfl)⟩
  have F_law_lot : Fu K mg "_law_lot" s_law_lot := by
    obtain ⟨fd, F⟩ := c.def_ 10 (d := d_law_lot) rfl
    exact ⟨_, fd, F, He.glo_ok X G (c.fact 10 (f := .glo "_law_lot") rfl)⟩
  have F_law_of : Fu K mg "_law_of" s_law_of := by
    obtain ⟨fd, F⟩ := c.def_ 11 (d := d_law_of) rfl
    exact ⟨_, fd, F, He.glo_ok X G (c.fact 11 (f := .glo "_law_of") rfl)⟩
  have F_law_odd : Fu K mg "_law_odd" s_law_odd := by
    obtain ⟨fd, F⟩ := c.def_ 12 (d := d_law_odd) rfl
    exact ⟨_, fd, F, He.glo_ok X G (c.fact 12 (f := .glo "_law_odd") rfl)⟩
  have F_law_lists : Fu K mg "_law_lists" s_law_lists := by
    obtain ⟨fd, F⟩ := c.def_ 13 (d := d_law_lists) rfl
    exact ⟨_, fd, F, He.glo_ok X G (c.fact 13 (f := .glo "_law_lists") rfl)⟩
  have F_law_is_whole : Fu K mg "_law_is_whole" s_law_is_whole := by
    obtain ⟨fd, F⟩ := c.def_ 14 (d := d_law_is_whole) rfl
    exact ⟨_, fd, F, He.glo_ok X G (c.fact 14 (f := .glo "_law_is_whole") rfl)⟩
  have F_law_is_lot : Fu K mg "_law_is_lot" s_law_is_lot := by
    obtain ⟨fd, F⟩ := c.def_ 15 (d := d_law_is_lot) rfl
    exact ⟨_, fd, F, He.glo_ok X G (c.fact 15 (f := .glo "_law_is_lot") rfl)⟩
  have F_law_right : Fu K mg "_law_right" s_law_right := by
    obtain ⟨fd, F⟩ := c.def_ 16 (d := d_law_right) rfl
    exact ⟨_, fd, F, He.glo_ok X G (c.fact 16 (f := .glo "_law_right") rfl)⟩
  have F_law_box : Fu K mg "_law_box" s_law_box := by
    obtain ⟨fd, F⟩ := c.def_ 17 (d := d_law_box) rfl
    exact ⟨_, fd, F, He.glo_ok X G (c.fact 17 (f := .glo "_law_box") rfl)⟩
  have F_law : Fu K mg "law" s_law := by
    obtain ⟨fd, F⟩ := c.def_ 18 (d := d_law) rfl
    exact ⟨_, fd, F, He.glo_ok X G (c.fact 18 (f := .glo "law") rfl)⟩
  have B : Bf mg := ⟨He.free_ok X G (c.fact 19 (f := .free "abs") rfl), He.free_ok X G (c.fact 20 (f := .free "all") rfl), He.free_ok X G (c.fact 21 (f := .free "bool") rfl), He.free_ok X G (c.fact 22 (f := .free "enumerate") rfl), He.free_ok X G (c.fact 23 (f := .free "int") rfl), He.free_ok X G (c.fact 24 (f := .free "isinstance") rfl), He.free_ok X G (c.fact 25 (f := .free "len") rfl), He.free_ok X G (c.fact 26 (f := .free "list") rfl), He.free_ok X G (c.fact 27 (f := .free "range") rfl), He.free_ok X G (c.fact 28 (f := .free "str") rfl), He.free_ok X G (c.fact 29 (f := .free "tuple") rfl), He.free_ok X G (c.fact 30 (f := .free "zip") rfl)⟩
  have all : ∀ base : Heap, Kn P w K mg base .s "law" s_law n_law p_law [.ro] f_law 35 := fun base => by
    have k_law_cells := ok_law_cells (P := P) (w := w) (base := base) B F_law_cells
    have k_law_same := ok_law_same (P := P) (w := w) (base := base) B F_law_same 30
    have k_rises := ok_rises (P := P) (w := w) (base := base) B F_rises
    have k_is_number := ok_is_number (P := P) (w := w) (base := base) B F_is_number
    have k_are_numbers := ok_are_numbers (P := P) (w := w) (base := base) B F_are_numbers k_is_number
    have k_is_errand := ok_is_errand (P := P) (w := w) (base := base) B F_is_errand k_are_numbers k_is_number
    have k_is_lot := ok_is_lot (P := P) (w := w) (base := base) B F_is_lot k_rises k_is_number k_is_errand
    have k_law_by_hand_right := ok_law_by_hand_right (P := P) (w := w) (base := base) B F_law_by_hand_right k_law_same k_is_lot
    have k_law_spans := ok_law_spans (P := P) (w := w) (base := base) B F_law_spans
    have k_law_take := ok_law_take (P := P) (w := w) (base := base) B F_law_take
    have k_law_lot := ok_law_lot (P := P) (w := w) (base := base) B F_law_lot k_law_spans k_law_take
    have k_law_of := ok_law_of (P := P) (w := w) (base := base) B F_law_of k_law_take
    have k_law_odd := ok_law_odd (P := P) (w := w) (base := base) B F_law_odd k_law_of k_law_take 30
    have k_law_lists := ok_law_lists (P := P) (w := w) (base := base) B F_law_lists 30
    have k_law_is_whole := ok_law_is_whole (P := P) (w := w) (base := base) B F_law_is_whole
    have k_law_is_lot := ok_law_is_lot (P := P) (w := w) (base := base) B F_law_is_lot k_law_is_whole
    have k_law_right := ok_law_right (P := P) (w := w) (base := base) B F_law_right k_law_lot k_is_lot k_law_same k_law_odd k_law_take k_law_lists k_law_is_lot
    have k_law_box := ok_law_box (P := P) (w := w) (base := base) B F_law_box
    have k_law := ok_law (P := P) (w := w) (base := base) B F_law k_law_cells k_law_by_hand_right k_law_right k_law_box
    exact k_law
  obtain ⟨fd, FL⟩ := c.def_ 18 (d := d_law) rfl
  have e := hfa.symm.trans (He.glo_ok X G (c.fact 18 (f := .glo "law") rfl))
  cases e
  have b := FunD.bindsA (ps := p_law) FL b_law
  refine ⟨fd, fun s v => b s [v] rfl, fun base _ _ => ?_⟩
  obtain ⟨⟨f', fd', a1, a2, a3, a4⟩, _, _⟩ := all base
  cases hfa.symm.trans a2
  obtain rfl : fd = fd' := fund_eq FL a3
  exact a1
end LW
open PySem PySem.W PySem.Calls PyProof.Rows
theorem PySem.Challenge.cw_anyhands_k09_lots_or_not_holds : PySem.Challenge.rw_anyhands_k09_lots_or_not.Holds := by
  w_on; o_law
  refine HandSHeadRun.head_any (r := OpenLaw.row PySem.Challenge.rw_anyhands_k09_lots_or_not) (q := view (OpenLaw.row PySem.Challenge.rw_anyhands_k09_lots_or_not).prog [21]) (H := LW.hk) (ob := LW.ob) (M := 3000) (loose := LW.names) (d := HandSHeadRun.topDef (OpenLaw.row PySem.Challenge.rw_anyhands_k09_lots_or_not).prog 21) (kwd := []) LW.ob_eq
    (by kernel_rfl) (fun s => by kernel_rfl) LW.run (by kernel_rfl) (by kernel_rfl) (by kernel_rfl) (by rfl) (by first | assumption | decide +kernel) (by decide +kernel) ⟨rfl, rfl, rfl, rfl, rfl, by decide +kernel⟩ ?hw ?hc
  case hw => w_witness2
  case hc =>
    refine AH.walk_ofW (l := PySem.Challenge.rw_anyhands_k09_lots_or_not) (n := 63) (k := 35) (x := "_law_script") rfl (by decide) (by kernel_rfl) ⟨rfl, by decide, by decide⟩ ?F
    intro w mg fa h Y G hmg0
    obtain ⟨K, KX, c⟩ := Y
    have hmg : mg ("law" : PySem.Str) = some (.ref fa) := by
      have e : (HandSHeadRun.topDef (OpenLaw.row PySem.Challenge.rw_anyhands_k09_lots_or_not).prog 21).name = ("law" : PySem.Str) := by kernel_rfl
      rw [← e]
      exact hmg0
    obtain ⟨fd, hb, hF⟩ := LW.facts (P := (PySem.Challenge.rw_anyhands_k09_lots_or_not).prog) (w := w) KX G hmg c
    exact ⟨K, fd, AH.spD .s K LW.n_law [.ro] LW.f_law, KX, hb, fun H a ns hl _ hS => AH.law_sp hS (by decide) (AH.law_true ns hl), hF⟩
