import PyProof.Rows.All
import Wide.All
import OpenK.AllK
import Wide.FinOn
import HandS.ForMost
import HandS.TupLe
import HandS.HeadHook1
import HandS.Exc
import HandS.Slots
import HandS.SlotsOwn
import HandS.Wide
import HandS.TupAny
import HandS.TupMul
import HandS.Deep
import HandS.Flow
import HandS.Style
import HandS.Conv
import HandS.IsInst
import HandS.NoneIn
import HandS.Zip
import HandS.Walk
import HandS.ExcOwn
import HandS.Defaults
import KE.KRevSl
import HandS.More
import HandS.Words
import HandS.ExcIs
import HandS.ExcField
import HandS.ExcValue
import KE.KExcIs
import KE.GoesMore
import HandS.HeadEnd
import HandS.HeadHook2
import HandS.ExcInit
import KE.KSuper
import KE.KExcSuper
import KE.KTupSum
import HandS.Sort
import KE.KDictPairs
import KE.SortData
import KE.KDictCopyH
import KE.KDictSum
import HandS.Star
import KE.GoesEnum
import KE.KDictZip
import KE.KDictItemsList
import HandS.ListItems
import HandS.DictComp
import HandS.SetFor
import KE.DataMinMax
import HandS.Strs
import KE.KDictWalk
import HandS.CallSlots
import KE.SortKeyHeap
import HandS.SortKw
import HandS.ListEq
import KE.KOpsOwn
import KE.LtSeq
import KE.KSortTup
import KE.KIndexOf
import PyProof.Rows.TupDisplay
import KE.KStateDown
import HandS.Head0
import HandS.Head1
import HandS.Head2
import HandS.WordsExc
import PySem.Challenge.RW_anyhands_k33_orders_of_prices
set_option Elab.async false
set_option linter.all false
set_option maxRecDepth 100000
set_option maxHeartbeats 0
/-! A layer of data over the hand layer: values as trees, a small semantics of defs in plain Lean. -/
namespace AH
open PySem L2
/-- data -/
inductive D where
  | non | bl (b : Bool) | int (i : Int) | str (s : Str) | tup (xs : List D) | lst (xs : List D)
  | dic (kvs : List (List Key × D)) | exc (c : Str) (ns : List Str) (fs : List D) | obj (c : Str) | ktp (xs : List D)
/-! Python, == of plain data -/
mutual
def D.eqv : D → D → Bool
  | .non, .non => true
  | .bl a, .bl b => a == b
  | .bl a, .int b => (if a then 1 else 0) == b
  | .int a, .bl b => a == (if b then 1 else 0)
  | .int a, .int b => a == b
  | .str a, .str b => a == b
  | .tup a, .tup b => D.eqvL a b
  | .lst a, .lst b => D.eqvL a b
  | _, _ => false
def D.eqvL : List D → List D → Bool
  | [], [] => true
  | a :: as, b :: bs => D.eqv a b && D.eqvL as bs
  | _, _ => false
end
/-! plain data of at most so many levels: none, bools, ints, texts, lists, tuples -/
mutual
def D.plain : Nat → D → Bool
  | _, .non => true
  | _, .bl _ => true
  | _, .int _ => true
  | _, .str s => PySem.PyData.strOk s
  | n + 1, .tup xs => D.plainL n xs
  | n + 1, .lst xs => D.plainL n xs
  | _, _ => false
def D.plainL : Nat → List D → Bool
  | _, [] => true
  | n, x :: xs => D.plain n x && D.plainL n xs
end
/-- a slot of a def's frame -/
inductive Sl where
  | no | val (d : D) | ro (d : D) | own (xs : List D) | bor (xs : List D) | odc (kvs : List (List Key × D)) | ldc (kvs : List (List Key × D))
  | ros (b : Bool) (j : Nat) (fs : List D) | pst (b : Bool) (xs : List D)
abbrev Env := List Sl
def sl : Env → Nat → Sl
  | [], _ => .no
  | x :: _, 0 => x
  | _ :: r, n + 1 => sl r n
def put : Env → Nat → Sl → Env
  | [], _, _ => []
  | _ :: r, 0, y => y :: r
  | x :: r, n + 1, y => x :: put r n y
/-- what comes of running: a value and the frame; an exception of a class with its fields; nothing known -/
inductive R (α : Type) where
  | ok (a : α) (e : Env) | ex (c : Str) (fs : List D) (e : Env) | bad
abbrev M (α : Type) := Env → R α
def M.bind {α β : Type} (m : M α) (f : α → M β) : M β := fun e => match m e with
  | .ok a e1 => f a e1
  | .ex c fs e1 => .ex c fs e1
  | .bad => .bad
def M.pure {α : Type} (a : α) : M α := fun e => .ok a e
/-- a plain outcome -/
inductive Rv (α : Type) where
  | ok (a : α) | bad
def M.of {α : Type} : Rv α → M α
  | .ok a => M.pure a
  | .bad => fun _ => .bad
abbrev DE := M D
abbrev DT := M Bool
abbrev DL := M (List D)
/-- what a statement comes to -/
inductive Out where
  | nx | rt (d : D) | bk | ct
abbrev DS := M Out
/-! ### names, constants -/
def eVar (i : Nat) : DE := fun e => match sl e i with
  | .val d => .ok d e
  | _ => .bad
/-- a name whose object may be the frame's own, just looked at -/
def eTmp (i : Nat) : DE := fun e => match sl e i with
  | .val d => .ok d e
  | .ro d => .ok d e
  | .own xs => .ok (.lst xs) e
  | .bor xs => .ok (.lst xs) e
  | .odc kvs => .ok (.dic kvs) e
  | .ldc kvs => .ok (.dic kvs) e
  | _ => .bad
def eC (d : D) : DE := M.pure d
/-! ### operators -/
def e2 (f : D → D → Rv D) (a b : DE) : DE := a.bind fun x => b.bind fun y => M.of (f x y)
def e1 (f : D → Rv D) (a : DE) : DE := a.bind fun x => M.of (f x)
def mulOk (i j : Int) : Bool := decide (i.natAbs.log2 + j.natAbs.log2 < 1000000) || (decide (i.natAbs < 2 ^ 64) || decide (j.natAbs < 2 ^ 64))
def divOk (j : Int) : Bool := decide (0 < j) && decide (j.natAbs.log2 < 9000)
def powOk (i j : Int) : Bool := decide (0 ≤ j) && decide (j ≤ 1000000) && decide (i.natAbs < 2 ^ 64)
def lenOk (n : Nat) : Bool := decide (n ≤ 100000)
def dAdd : D → D → Rv D
  | .int i, .int j => .ok (.int (i + j))
  | .lst a, .lst b => if lenOk (a.length + b.length) then .ok (.lst (a ++ b)) else .bad
  | .tup a, .tup b => if lenOk (a.length + b.length) then .ok (.tup (a ++ b)) else .bad
  | .str a, .str b => if lenOk (a.length + b.length) then .ok (.str (a ++ b)) else .bad
  | _, _ => .bad
def dSub : D → D → Rv D
  | .int i, .int j => .ok (.int (i - j))
  | _, _ => .bad
def rep {α : Type} (xs : List α) (k : Int) : List α := (List.replicate k.toNat xs).flatten
def dMul : D → D → Rv D
  | .int i, .int j => if mulOk i j then .ok (.int (i * j)) else .bad
  | .lst a, .int k => if lenOk k.natAbs && lenOk (a.length * k.toNat) then .ok (.lst (rep a k)) else .bad
  | .tup a, .int k => if (decide (1 ≤ k) && decide (k ≤ 1000)) && (decide (0 < a.length) && decide (a.length ≤ 1000)) then .ok (.tup (rep a k)) else .bad
  | _, _ => .bad
def dDiv : D → D → Rv D
  | .int i, .int j => if divOk j then .ok (.int (i / j)) else .bad
  | _, _ => .bad
def dMod : D → D → Rv D
  | .int i, .int j => if decide (0 < j) then .ok (.int (i % j)) else .bad
  | _, _ => .bad
def dPow : D → D → Rv D
  | .int i, .int j => if powOk i j then .ok (.int (i ^ j.toNat)) else .bad
  | _, _ => .bad
def dNeg : D → Rv D
  | .int i => .ok (.int (-i))
  | _ => .bad
/-! ### comparisons -/
def dEq (x y : D) : Rv Bool := if x.plain 40 && y.plain 40 then .ok (x.eqv y) else .bad
def dNe (x y : D) : Rv Bool := if x.plain 40 && y.plain 40 then .ok (!x.eqv y) else .bad
/-- tuples of ints -/
def intsL : List D → Option (List Int)
  | [] => some []
  | .int i :: r => (intsL r).map (i :: ·)
  | _ :: _ => none
def dLt : D → D → Rv Bool
  | .int i, .int j => .ok (decide (i < j))
  | .tup a, .tup b => (match intsL a, intsL b with
    | some ns, some ms => .ok (HT.lexLt ns ms)
    | _, _ => .bad)
  | _, _ => .bad
def dLe : D → D → Rv Bool
  | .int i, .int j => .ok (decide (i ≤ j))
  | .tup a, .tup b => (match intsL a, intsL b with
    | some ns, some ms => .ok (L2.lexLeI ns ms)
    | _, _ => .bad)
  | _, _ => .bad
def dGt : D → D → Rv Bool
  | .int i, .int j => .ok (decide (j < i))
  | _, _ => .bad
def dGe : D → D → Rv Bool
  | .int i, .int j => .ok (decide (j ≤ i))
  | _, _ => .bad
def dIsN (x : D) : Bool := match x with
  | .non => true
  | _ => false
def keyI : D → Option Key
  | .int i => some (.inl i)
  | .str s => some (.inr s)
  | _ => none
def keysL : List D → Option (List Key)
  | [] => some []
  | x :: r => (match keyI x, keysL r with
    | some k, some ks => some (k :: ks)
    | _, _ => none)
def keyD : D → Option (List Key)
  | .tup xs => keysL xs
  | _ => none
def dget (kvs : List (List Key × D)) (k : List Key) : Option D := (kvs.find? fun p => decide (p.1 = k)).map (·.2)
def dput (kvs : List (List Key × D)) (k : List Key) (v : D) : List (List Key × D) :=
  if (kvs.any fun p => decide (p.1 = k)) then kvs.map fun p => if p.1 = k then (p.1, v) else p else kvs ++ [(k, v)]
def dIn (x : D) : D → Rv Bool
  | .lst ys => if x.plain 40 && D.plainL 39 ys then .ok (ys.any fun y => y.eqv x) else .bad
  | .tup ys => if x.plain 40 && D.plainL 39 ys then .ok (ys.any fun y => y.eqv x) else .bad
  | .dic kvs => (match keyD x with
    | some k => .ok (dget kvs k).isSome
    | none => .bad)
  | _ => .bad
def c2 (f : D → D → Rv Bool) (a b : DE) : DT := a.bind fun x => b.bind fun y => M.of (f x y)
def eB (t : DT) : DE := t.bind fun b => M.pure (.bl b)
/-- a value that is a bool, as a test -/
def tV (a : DE) : DT := a.bind fun x => match x with
  | .bl b => M.pure b
  | _ => fun _ => .bad
def tNot (a : DT) : DT := a.bind fun b => M.pure (!b)
def tAnd (a b : DT) : DT := a.bind fun x => if x then b else M.pure false
def tOr (a b : DT) : DT := a.bind fun x => if x then M.pure true else b
def tIsN (a : DE) : DT := a.bind fun x => M.pure (dIsN x)
/-- a < b < c: the middle once -/
def c3 (f g : D → D → Rv Bool) (a b c : DE) : DT := a.bind fun x => b.bind fun y => (M.of (f x y)).bind fun k => if k then c.bind fun z => M.of (g y z) else M.pure false
def c4 (f g h : D → D → Rv Bool) (a b c d : DE) : DT := a.bind fun x => b.bind fun y => (M.of (f x y)).bind fun k => if k then c.bind fun z => (M.of (g y z)).bind fun l => if l then d.bind fun u => M.of (h z u) else M.pure false else M.pure false
def eIf (t : DT) (a b : DE) : DE := t.bind fun k => if k then a else b
/-- and, or of bools as values -/
def eAnd (a b : DE) : DE := (tV a).bind fun k => if k then b else M.pure (.bl false)
def eNot (a : DE) : DE := (tV a).bind fun k => M.pure (.bl (!k))
def truth : D → Rv Bool
  | .bl b => .ok b
  | .non => .ok false
  | .int i => .ok (i != 0)
  | .lst xs => .ok (!xs.isEmpty)
  | .tup xs => .ok (!xs.isEmpty)
  | _ => .bad
/-- x or y by truth -/
def eOrT (a b : DE) : DE := a.bind fun x => (M.of (truth x)).bind fun k => if k then M.pure x else b
/-- the left one a name whose object is looked at behind the right one -/
def e2L (f : D → D → Rv D) (i : Nat) (b : DE) : DE := (eTmp i).bind fun _ => b.bind fun y => (eTmp i).bind fun x => M.of (f x y)
/-! ### displays, items, slices -/
def aNil : DL := M.pure []
def aCons (a : DE) (r : DL) : DL := a.bind fun x => r.bind fun xs => M.pure (x :: xs)
def eTup (a : DL) : DE := a.bind fun xs => if lenOk xs.length then M.pure (.tup xs) else fun _ => .bad
def eLst (a : DL) : DE := a.bind fun xs => if lenOk xs.length then M.pure (.lst xs) else fun _ => .bad
def dIx : D → D → Rv D
  | .lst xs, .int i => (match atI xs i with
    | some v => .ok v
    | none => .bad)
  | .tup xs, .int i => (match atI xs i with
    | some v => .ok v
    | none => .bad)
  | .dic kvs, k => (match keyD k with
    | some k => (match dget kvs k with
      | some v => .ok v
      | none => .bad)
    | none => .bad)
  | _, _ => .bad
def cut {α : Type} (xs : List α) (lo hi : Option Int) : List α := (xs.drop (HT.sIx xs.length 0 lo)).take (HT.sIx xs.length xs.length hi - HT.sIx xs.length 0 lo)
def dSl (x : D) (lo hi : Option Int) : Rv D := match x with
  | .lst xs => .ok (.lst (cut xs lo hi))
  | .tup xs => .ok (.tup (cut xs lo hi))
  | _ => .bad
abbrev DO := M (Option Int)
def oNone : DO := M.pure none
def oSome (a : DE) : DO := a.bind fun x => match x with
  | .int i => M.pure (some i)
  | _ => fun _ => .bad
def eSl (a : DE) (lo hi : DO) : DE := a.bind fun x => lo.bind fun l => hi.bind fun h => M.of (dSl x l h)
/-! ### built-in functions of one value, of two -/
def dLen : D → Rv D
  | .lst xs => .ok (.int xs.length)
  | .tup xs => .ok (.int xs.length)
  | _ => .bad
def dAbs : D → Rv D
  | .int i => .ok (.int (if i < 0 then -i else i))
  | _ => .bad
def dInt : D → Rv D
  | .int i => .ok (.int i)
  | .bl b => .ok (.int (if b then 1 else 0))
  | _ => .bad
def dMax2 : D → D → Rv D
  | .int i, .int j => .ok (.int (if j > i then j else i))
  | _, _ => .bad
def dMin2 : D → D → Rv D
  | .int i, .int j => .ok (.int (if j < i then j else i))
  | _, _ => .bad
def bools : List D → Option (List Bool)
  | [] => some []
  | .bl i :: r => (bools r).map (i :: ·)
  | _ :: _ => none
def dAll : D → Rv D
  | .lst xs => (match bools xs with
    | some bs => .ok (.bl (bs.all id))
    | none => .bad)
  | _ => .bad
def leastOf : List Int → Int
  | [] => 0
  | [x] => x
  | x :: y :: r => if leastOf (y :: r) < x then leastOf (y :: r) else x
def dMinL : D → Rv D
  | .lst xs => (match intsL xs with
    | some (n :: ns) => .ok (.int (leastOf (n :: ns)))
    | _ => .bad)
  | _ => .bad
def dTuple : D → Rv D
  | .lst xs => .ok (.tup xs)
  | .tup xs => .ok (.tup xs)
  | _ => .bad
def dList : D → Rv D
  | .lst xs => .ok (.lst xs)
  | .tup xs => .ok (.lst xs)
  | _ => .bad
/-! ### what is walked -/
abbrev DI := M (List D)
def rng (a b : Int) : List D := (List.range (b - a).toNat).map fun i => D.int (a + (i : Nat))
def rngOk (a b : Int) : Bool := decide (-(2 ^ 62) ≤ a) && decide (a < 2 ^ 62) && decide (-(2 ^ 62) ≤ b) && decide (b < 2 ^ 62)
def iSeq (a : DE) : DI := a.bind fun x => match x with
  | .lst xs => M.pure xs
  | .tup xs => M.pure xs
  | _ => fun _ => .bad
def iRng1 (a : DE) : DI := a.bind fun x => match x with
  | .int j => if rngOk 0 j then M.pure (rng 0 j) else fun _ => .bad
  | _ => fun _ => .bad
def iRng2 (a b : DE) : DI := a.bind fun x => b.bind fun y => match x, y with
  | .int i, .int j => if rngOk i j then M.pure (rng i j) else fun _ => .bad
  | _, _ => fun _ => .bad
def pairs (xs ys : List D) : List D := (xs.zip ys).map fun p => .tup [p.1, p.2]
/-! ### targets -/
abbrev DG := D → M Unit
def isOwn : Sl → Bool
  | .own _ => true
  | .bor _ => true
  | .odc _ => true
  | .ldc _ => true
  | .ros .. => true
  | .pst .. => true
  | _ => false
def gN (i : Nat) : DG := fun d e => if isOwn (sl e i) then .bad else .ok () (put e i (.val d))
abbrev DGs := List D → M Unit
def gsNil : DGs := fun xs => match xs with
  | [] => M.pure ()
  | _ => fun _ => .bad
def gsCons (g : DG) (r : DGs) : DGs := fun xs => match xs with
  | x :: xs => (g x).bind fun _ => r xs
  | [] => fun _ => .bad
def gT (r : DGs) : DG := fun d => match d with
  | .tup xs => r xs
  | .lst xs => r xs
  | _ => fun _ => .bad
/-! ### statements -/
def sNil : DS := M.pure .nx
def sSeq (a b : DS) : DS := a.bind fun o => match o with
  | .nx => b
  | o => M.pure o
def sAsg (a : DE) (g : DG) : DS := a.bind fun x => (g x).bind fun _ => M.pure .nx
def isFix : Sl → Bool
  | .bor _ => true
  | .ldc _ => true
  | .ros .. => true
  | .pst .. => true
  | _ => false
/-- a new list kept as the frame's own -/
def sOwn (i : Nat) (a : DE) : DS := a.bind fun x => match x with
  | .lst xs => fun e => if isFix (sl e i) || !decide (i < e.length) then .bad else .ok .nx (put e i (.own xs))
  | _ => fun _ => .bad
def sOwnD (i : Nat) (a : DE) : DS := a.bind fun x => match x with
  | .dic kvs => fun e => if isFix (sl e i) || !decide (i < e.length) then .bad else .ok .nx (put e i (.odc kvs))
  | _ => fun _ => .bad
/-- the frame's own list is let go: a value from now on -/
def sRelL (i : Nat) : DS := fun e => match sl e i with
  | .own xs => .ok .nx (put e i (.val (.lst xs)))
  | _ => .bad
def sIf (t : DT) (a b : DS) : DS := t.bind fun k => if k then a else b
def sRet (a : DE) : DS := a.bind fun x => M.pure (.rt x)
def sExpr (a : DE) : DS := a.bind fun _ => M.pure .nx
/-- the slot holds a list of the frame's own (lent or not), its items -/
def ownL (i : Nat) : M (List D) := fun e => match sl e i with
  | .own xs => .ok xs e
  | .bor xs => .ok xs e
  | _ => .bad
def putL (e : Env) (i : Nat) (ys : List D) : Env := put e i (match sl e i with
  | .own _ => .own ys
  | .bor _ => .bor ys
  | s => s)
def sApp (i : Nat) (a : DE) : DS := (ownL i).bind fun _ => a.bind fun x => (ownL i).bind fun xs => fun e =>
  if lenOk (xs.length + 1) then .ok .nx (putL e i (xs ++ [x])) else .bad
/-- xs[j] = v: the value first -/
def sSetL (i : Nat) (j : DE) (a : DE) : DS := a.bind fun x => (ownL i).bind fun _ => j.bind fun k => (ownL i).bind fun xs => match k with
  | .int k => (match ixN xs.length k with
    | some n => fun e => .ok .nx (putL e i (xs.set n x))
    | none => fun _ => .bad)
  | _ => fun _ => .bad
def ownD (i : Nat) : M (List (List Key × D)) := fun e => match sl e i with
  | .odc kvs => .ok kvs e
  | _ => .bad
def sSetD (i : Nat) (j : DE) (a : DE) : DS := a.bind fun x => (ownD i).bind fun _ => j.bind fun k => (ownD i).bind fun kvs => match keyD k with
  | some k => fun e => if lenOk (kvs.length + 1) then .ok .nx (put e i (.odc (dput kvs k x))) else .bad
  | none => fun _ => .bad
/-- a loop's turns -/
def loop (g : DG) (b : DS) : List D → DS
  | [] => M.pure .nx
  | x :: xs => (g x).bind fun _ => b.bind fun o => match o with
    | .nx => loop g b xs
    | .ct => loop g b xs
    | .bk => M.pure .nx
    | .rt d => M.pure (.rt d)
def sFor (it : DI) (g : DG) (b : DS) : DS := it.bind fun xs => loop g b xs
/-! ### comprehensions -/
def wipeE (e : Env) : List Nat → Env
  | [] => e
  | v :: vs => put (wipeE e vs) v .no
/-- the slots vs as they were -/
def back (e0 e : Env) : List Nat → Env
  | [] => e
  | v :: vs => put (back e0 e vs) v (sl e0 v)
def noX {α : Type} (m : M α) : M α := fun e => match m e with
  | .ex _ _ _ => .bad
  | r => r
def compL (vs : List Nat) (e0 : Env) (g : DG) (t : DT) (a : DE) : List D → M (List D)
  | [] => M.pure []
  | x :: xs => fun e => ((g x).bind fun _ => t.bind fun k =>
      (if k then a.bind fun y => M.pure [y] else M.pure []).bind fun ys =>
      fun e1 => ((compL vs e0 g t a xs).bind fun zs => M.pure (ys ++ zs)) (wipeE e1 vs)) e
def eLc (vs : List Nat) (it : DI) (g : DG) (t : DT) (a : DE) : DE := it.bind fun xs => fun e =>
  if (vs.any fun v => isOwn (sl e v)) || !lenOk xs.length then .bad else
  match noX (compL vs e g t a xs) (wipeE e vs) with
  | .ok ys e1 => .ok (.lst ys) (back e e1 vs)
  | _ => .bad
def tYes : DT := M.pure true
/-! ### defs -/
inductive Md where
  | val | ro | bor
  deriving DecidableEq
/-- an argument: an expression; a name's own object that is lent (to be changed); .. that is looked at -/
inductive Arg where
  | e (a : DE) | lend (i : Nat) | look (i : Nat) | new (a : DE)
/-- a def: from the arguments' data to its answer and the lent lists' new items -/
inductive Rf where
  | ok (d : D) (bs : List (List D)) | ex (c : Str) (fs : List D) (bs : List (List D)) | bad
abbrev DF := List D → Rf
def startE : List Md → List D → Env
  | .val :: ms, d :: ds => .val d :: startE ms ds
  | .ro :: ms, d :: ds => .ro d :: startE ms ds
  | .bor :: ms, .lst xs :: ds => .bor xs :: startE ms ds
  | _, _ => []
def lentOf : List Md → Env → Option (List (List D))
  | .bor :: ms, .bor xs :: e => (lentOf ms e).map (xs :: ·)
  | .bor :: _, _ => none
  | _ :: ms, _ :: e => lentOf ms e
  | _ :: _, [] => none
  | [], _ => some []
def lstsOk : List Md → List D → Bool
  | .bor :: ms, .lst _ :: ds => lstsOk ms ds
  | .bor :: _, _ => false
  | _ :: ms, _ :: ds => lstsOk ms ds
  | [], [] => true
  | _, _ => false
/-- a def of n slots, its parameters' ways, its body -/
def mkF (n : Nat) (ms : List Md) (b : DS) : DF := fun ds =>
  if !lstsOk ms ds then .bad else
  match b (startE ms ds ++ List.replicate (n - ms.length) .no) with
  | .ok (.rt d) e => (match lentOf ms e with
    | some bs => .ok d bs
    | none => .bad)
  | .ok .nx e => (match lentOf ms e with
    | some bs => .ok .non bs
    | none => .bad)
  | .ok _ _ => .bad
  | .ex c fs e => (match lentOf ms e with
    | some bs => .ex c fs bs
    | none => .bad)
  | .bad => .bad
/-- the arguments from the left; a lent name is read behind all of them -/
def argsV : List Arg → M (List (D ⊕ Nat))
  | [] => M.pure []
  | .e a :: r => a.bind fun x => (argsV r).bind fun xs => M.pure (.inl x :: xs)
  | .lend i :: r => (eTmp i).bind fun _ => (argsV r).bind fun xs => M.pure (.inr i :: xs)
  | .look i :: r => (eTmp i).bind fun _ => (argsV r).bind fun xs => M.pure (.inr i :: xs)
  | .new a :: r => a.bind fun x => (argsV r).bind fun xs => M.pure (.inl x :: xs)
def slD : Sl → Option D
  | .own xs => some (.lst xs)
  | .bor xs => some (.lst xs)
  | .odc kvs => some (.dic kvs)
  | .ldc kvs => some (.dic kvs)
  | .ro d => some d
  | .val d => some d
  | _ => none
def argD (e : Env) : D ⊕ Nat → Option D
  | .inl d => some d
  | .inr i => slD (sl e i)
def argsD (e : Env) : List (D ⊕ Nat) → Option (List D)
  | [] => some []
  | x :: r => (match argD e x, argsD e r with
    | some d, some ds => some (d :: ds)
    | _, _ => none)
def lends : List Arg → List Nat
  | [] => []
  | .lend i :: r => i :: lends r
  | _ :: r => lends r
def looks : List Arg → List Nat
  | [] => []
  | .look i :: r => i :: looks r
  | _ :: r => looks r
/-- no object twice -/
def argsOk (as : List Arg) : Bool := decide (lends as).Nodup && (looks as).all fun i => !(lends as).contains i
def isL : Sl → Bool
  | .own _ => true
  | .bor _ => true
  | _ => false
def giveBack : List Arg → List (List D) → Env → Option Env
  | .lend i :: r, xs :: bs, e => giveBack r bs (putL e i xs)
  | .lend _ :: _, [], _ => none
  | .new _ :: r, _ :: bs, e => giveBack r bs e
  | .new _ :: _, [], _ => none
  | _ :: r, bs, e => giveBack r bs e
  | [], [], e => some e
  | [], _ :: _, _ => none
def eCall (f : DF) (as : List Arg) : DE := fun e => match argsV as e with
  | .ok vs e1 => if !(lends as).all (fun i => isL (sl e1 i)) then .bad else (match argsD e1 vs with
    | some ds => (match f ds with
      | .ok d bs => (match giveBack as bs e1 with
        | some e2 => .ok d e2
        | none => .bad)
      | .ex c fs bs => (match giveBack as bs e1 with
        | some e2 => .ex c fs e2
        | none => .bad)
      | .bad => .bad)
    | none => .bad)
  | .ex c fs e1 => .ex c fs e1
  | .bad => .bad
end AH
namespace AH
open PySem PySem.Spec PyProof.Rows L2
abbrev Pr := Addr → Prop
/-- the text's own fragment -/
class TheK where
  K : PySem.W.Frag
  xs : List Str
variable [TheK]
/-- a class of the text whose instances are just looked at -/
structure ObjF (K : PySem.W.Frag) (C : Addr) : Prop where
  sc : SlX.SCls K C
  si : SlX.SIsi K C
  no : ∀ n ∈ ["int", "bool", "str", "list", "tuple", "dict"], PySem.W.kitOne K (.ref C) (.type n) = some false
def fieldsOf (c : Str) : List Str :=
  if c = "NoStretch" then ["first", "last"] else if c = "TooFew" then ["first", "last"] else if c = "NoHour" then ["hour"] else if c = "NoMove" then ["move"] else if c = "BadLine" then ["number"] else []
/-- a caught exception that is kept: its class, its dict -/
def CgO (cls : Value) (d : Option Addr) (a : Addr) : HO := .ext fun h => ∃ (oe : Obj) (vs : Array Value), h.get? a = some oe ∧ Zc cls d oe ∧ oe.data = .fields vs
/-! ### data in the heap -/
mutual
inductive Rep [TheK] (O : Pr) (H : Hp) : V → D → Prop
  | non : Rep O H .non .non
  | bl (b : Bool) : Rep O H (.bl b) (.bl b)
  | int (i : Int) : Rep O H (.int i) (.int i)
  | str (s : Str) : Rep O H (.str s) (.str s)
  | tup {a : Addr} {vs : List V} {xs : List D} : ¬ O a → H a = some (.tup vs) → RepL O H vs xs → Rep O H (.ref a) (.tup xs)
  | lst {a : Addr} {vs : List V} {xs : List D} : ¬ O a → H a = some (.lst vs) → RepL O H vs xs → Rep O H (.ref a) (.lst xs)
  | dic {a : Addr} {ks : List (List Key × V)} {kvs : List (List Key × D)} {od : Obj} : ¬ O a → H a = some (.frz od (.dT ks)) → RepK O H ks kvs → Rep O H (.ref a) (.dic kvs)
  | ktp {a : Addr} {vs : List V} {xs : List D} {od : Obj} : ¬ O a → H a = some (.frz od (.tup vs)) → od.dict = none → RepL O H vs xs → Rep O H (.ref a) (.ktp xs)
  | obj {a dx C : Addr} {vs : List (Option V)} {c : Str} : ¬ O a → ¬ O dx → H a = some (SlX.SlO a C dx vs) → H dx = some (.xd []) → ObjF TheK.K C → Rep O H (.ref a) (.obj c)
  | exc {a : Addr} {dd : Option Addr} {c : Str} {fs : List D} {vs : List V} : ¬ O a → c ∈ TheK.xs → H a = some (CgO (.ref (He.ga TheK.K c)) dd a) → (dd = none → vs = []) → (∀ d, dd = some d → ¬ O d ∧ H d = some (.xd ((fieldsOf c).zip vs)) ∧ vs.length = (fieldsOf c).length) → RepL O H vs fs → Rep O H (.ref a) (.exc c [] fs)
inductive RepL [TheK] (O : Pr) (H : Hp) : List V → List D → Prop
  | nil : RepL O H [] []
  | cons {v : V} {d : D} {vs : List V} {ds : List D} : Rep O H v d → RepL O H vs ds → RepL O H (v :: vs) (d :: ds)
inductive RepK [TheK] (O : Pr) (H : Hp) : List (List Key × V) → List (List Key × D) → Prop
  | nil : RepK O H [] []
  | cons {k : List Key} {v : V} {d : D} {vs : List (List Key × V)} {ds : List (List Key × D)} : Rep O H v d → RepK O H vs ds → RepK O H ((k, v) :: vs) ((k, d) :: ds)
end
/-- what is not in W stays, and what is there is there -/
structure Ke (W : Pr) (H H' : Hp) : Prop where
  stay : ∀ a o, ¬ W a → H a = some o → H' a = some o
  there : ∀ a, H a ≠ none → H' a ≠ none
theorem Ke.refl {W : Pr} {H : Hp} : Ke W H H := ⟨fun _ _ _ h => h, fun _ h => h⟩
theorem Ke.trans {W : Pr} {H H1 H2 : Hp} (a : Ke W H H1) (b : Ke W H1 H2) : Ke W H H2 :=
  ⟨fun x o n h => b.stay x o n (a.stay x o n h), fun x h => b.there x (a.there x h)⟩
theorem Ke.new {W : Pr} {H : Hp} {p : Addr} {o : HO} (h : H p = none) : Ke W H (upd H p o) := by
  refine ⟨fun a u _ e => ?_, fun a e => ?_⟩
  · rw [upd_ne (ne_of_none e h)]; exact e
  · by_cases q : a = p
    · subst q; exact absurd h e
    · rw [upd_ne q]; exact e
theorem Ke.mut {W : Pr} {H : Hp} {p : Addr} {o : HO} (h : W p) : Ke W H (upd H p o) := by
  refine ⟨fun a u n e => ?_, fun a e => ?_⟩
  · have q : a ≠ p := fun z => n (z ▸ h)
    rw [upd_ne q]; exact e
  · by_cases q : a = p
    · subst q; rw [upd_same]; simp
    · rw [upd_ne q]; exact e
theorem Ke.imp {W W' : Pr} {H H' : Hp} (a : Ke W H H') (h : ∀ x, W x → H x ≠ none → W' x) : Ke W' H H' :=
  ⟨fun x o n e => a.stay x o (fun z => n (h x z (by rw [e]; simp))) e, a.there⟩
theorem al_of {H : Hp} {a : Addr} {u : HO} (r : H a = some u) : H a ≠ none := by rw [r]; simp
mutual
theorem Rep.ke {W W' : Pr} {H H' : Hp} (k : Ke W H H') (g : ∀ a, W' a → W a ∨ H a = none) : ∀ {v : V} {d : D}, Rep W H v d → Rep W' H' v d
  | _, _, .non => .non
  | _, _, .bl b => .bl b
  | _, _, .int i => .int i
  | _, _, .str s => .str s
  | _, _, .tup n r l => .tup (fun z => (g _ z).elim n (al_of r)) (k.stay _ _ n r) (RepL.ke k g l)
  | _, _, .lst n r l => .lst (fun z => (g _ z).elim n (al_of r)) (k.stay _ _ n r) (RepL.ke k g l)
  | _, _, .dic n r l => .dic (fun z => (g _ z).elim n (al_of r)) (k.stay _ _ n r) (RepK.ke k g l)
  | _, _, .ktp n r h l => .ktp (fun z => (g _ z).elim n (al_of r)) (k.stay _ _ n r) h (RepL.ke k g l)
  | _, _, .obj n m r q f => .obj (fun z => (g _ z).elim n (al_of r)) (fun z => (g _ z).elim m (al_of q)) (k.stay _ _ n r) (k.stay _ _ m q) f
  | _, _, .exc n m r h1 h2 l => .exc (fun z => (g _ z).elim n (al_of r)) m (k.stay _ _ n r) h1 (fun d e => ⟨fun z => (g _ z).elim (h2 d e).1 (al_of (h2 d e).2.1), k.stay _ _ (h2 d e).1 (h2 d e).2.1, (h2 d e).2.2⟩) (RepL.ke k g l)
theorem RepL.ke {W W' : Pr} {H H' : Hp} (k : Ke W H H') (g : ∀ a, W' a → W a ∨ H a = none) : ∀ {vs : List V} {ds : List D}, RepL W H vs ds → RepL W' H' vs ds
  | _, _, .nil => .nil
  | _, _, .cons r l => .cons (Rep.ke k g r) (RepL.ke k g l)
theorem RepK.ke {W W' : Pr} {H H' : Hp} (k : Ke W H H') (g : ∀ a, W' a → W a ∨ H a = none) : ∀ {vs : List (List Key × V)} {ds : List (List Key × D)}, RepK W H vs ds → RepK W' H' vs ds
  | _, _, .nil => .nil
  | _, _, .cons r l => .cons (Rep.ke k g r) (RepK.ke k g l)
end
theorem Rep.mono {W : Pr} {H H' : Hp} {v : V} {d : D} (k : Ke W H H') (r : Rep W H v d) : Rep W H' v d := r.ke k fun _ z => .inl z
theorem RepL.mono {W : Pr} {H H' : Hp} {v : List V} {d : List D} (k : Ke W H H') (r : RepL W H v d) : RepL W H' v d := r.ke k fun _ z => .inl z
theorem RepK.mono {W : Pr} {H H' : Hp} {v : List (List Key × V)} {d : List (List Key × D)} (k : Ke W H H') (r : RepK W H v d) : RepK W H' v d := r.ke k fun _ z => .inl z
theorem Rep.sub {W W' : Pr} {H : Hp} {v : V} {d : D} (g : ∀ a, W' a → W a ∨ H a = none) (r : Rep W H v d) : Rep W' H v d := r.ke Ke.refl g
theorem RepL.sub {W W' : Pr} {H : Hp} {v : List V} {d : List D} (g : ∀ a, W' a → W a ∨ H a = none) (r : RepL W H v d) : RepL W' H v d := r.ke Ke.refl g
theorem RepK.sub {W W' : Pr} {H : Hp} {v : List (List Key × V)} {d : List (List Key × D)} (g : ∀ a, W' a → W a ∨ H a = none) (r : RepK W H v d) : RepK W' H v d := r.ke Ke.refl g
/-- the top object may be one that changes -/
inductive RepW (K : PySem.W.Frag) (O : Pr) (H : Hp) : V → D → Prop
  | of {v : V} {d : D} : Rep O H v d → RepW K O H v d
  | tup {a : Addr} {vs : List V} {xs : List D} : SqT K H a vs → RepL O H vs xs → RepW K O H (.ref a) (.tup xs)
  | lst {a : Addr} {vs : List V} {xs : List D} : SqL K H a vs → RepL O H vs xs → RepW K O H (.ref a) (.lst xs)
  | dic {a : Addr} {ks : List (List Key × V)} {kvs : List (List Key × D)} : Rd H a (.dT ks) → RepK O H ks kvs → RepW K O H (.ref a) (.dic kvs)
section
variable {K : PySem.W.Frag} {O : Pr} {H : Hp}
theorem RepW.lst' {v : V} {xs : List D} (r : RepW K O H v (.lst xs)) : ∃ a vs, v = .ref a ∧ SqL K H a vs ∧ RepL O H vs xs := by
  cases r with
  | of r => cases r with | lst n r l => exact ⟨_, _, rfl, .inl (.inl r), l⟩
  | lst s l => exact ⟨_, _, rfl, s, l⟩
theorem RepW.tup' {v : V} {xs : List D} (r : RepW K O H v (.tup xs)) : ∃ a vs, v = .ref a ∧ SqT K H a vs ∧ RepL O H vs xs := by
  cases r with
  | of r => cases r with | tup n r l => exact ⟨_, _, rfl, .inl (.inl r), l⟩
  | tup s l => exact ⟨_, _, rfl, s, l⟩
theorem RepW.dic' {v : V} {kvs : List (List Key × D)} (r : RepW K O H v (.dic kvs)) : ∃ a ks, v = .ref a ∧ Rd H a (.dT ks) ∧ RepK O H ks kvs := by
  cases r with
  | of r => cases r with | dic n r l => exact ⟨_, _, rfl, .inr ⟨_, r⟩, l⟩
  | dic s l => exact ⟨_, _, rfl, s, l⟩
theorem RepW.int' {v : V} {i : Int} (r : RepW K O H v (.int i)) : v = .int i := by
  cases r with | of r => cases r; rfl
theorem RepW.bl' {v : V} {i : Bool} (r : RepW K O H v (.bl i)) : v = .bl i := by
  cases r with | of r => cases r; rfl
theorem RepL.len : ∀ {vs : List V} {xs : List D}, RepL O H vs xs → vs.length = xs.length
  | _, _, .nil => rfl
  | _, _, .cons _ l => by rw [List.length_cons, List.length_cons, RepL.len l]
theorem RepL.get : ∀ {vs : List V} {xs : List D} {i : Nat} {d : D}, RepL O H vs xs → xs[i]? = some d → ∃ v, vs[i]? = some v ∧ Rep O H v d
  | _, _, _, _, .nil, e => by simp at e
  | _, _, 0, _, .cons r _, e => by simp at e; subst e; exact ⟨_, rfl, r⟩
  | _, _, i + 1, d, .cons _ t, e => by
    obtain ⟨u, h1, h2⟩ := RepL.get (i := i) (d := d) t (by simpa using e)
    exact ⟨u, by simpa using h1, h2⟩
theorem RepL.app : ∀ {vs : List V} {xs : List D} {ws : List V} {ys : List D}, RepL O H vs xs → RepL O H ws ys → RepL O H (vs ++ ws) (xs ++ ys)
  | _, _, _, _, .nil, s => s
  | _, _, _, _, .cons r l, s => .cons r (RepL.app l s)
theorem RepL.take : ∀ {vs : List V} {xs : List D} (n : Nat), RepL O H vs xs → RepL O H (vs.take n) (xs.take n)
  | _, _, 0, _ => .nil
  | _, _, _ + 1, .nil => .nil
  | _, _, n + 1, .cons r t => .cons r (RepL.take n t)
theorem RepL.drop : ∀ {vs : List V} {xs : List D} (n : Nat), RepL O H vs xs → RepL O H (vs.drop n) (xs.drop n)
  | _, _, 0, r => r
  | _, _, _ + 1, .nil => .nil
  | _, _, n + 1, .cons _ t => RepL.drop n t
theorem RepL.set {v : V} {d : D} (r : Rep O H v d) : ∀ {vs : List V} {xs : List D} (i : Nat), RepL O H vs xs → RepL O H (vs.set i v) (xs.set i d)
  | _, _, _, .nil => .nil
  | _, _, 0, .cons _ t => .cons r t
  | _, _, i + 1, .cons q t => .cons q (RepL.set r i t)
theorem RepL.rep {vs : List V} {xs : List D} (r : RepL O H vs xs) : ∀ k : Nat, RepL O H (List.replicate k vs).flatten (List.replicate k xs).flatten
  | 0 => .nil
  | k + 1 => by
    rw [List.replicate_succ, List.flatten_cons, List.replicate_succ, List.flatten_cons]
    exact r.app (RepL.rep r k)
theorem RepL.at {vs : List V} {xs : List D} {i : Int} {d : D} (r : RepL O H vs xs) (e : atI xs i = some d) : ∃ v, atI vs i = some v ∧ Rep O H v d := by
  unfold atI at e ⊢
  rw [r.len]
  cases h : ixN xs.length i with
  | none => rw [h] at e; cases e
  | some j =>
    rw [h] at e
    exact r.get (show xs[j]? = some d from e)
theorem RepL.ints : ∀ {vs : List V} {xs : List D} {ns : List Int}, RepL O H vs xs → intsL xs = some ns → vs = ns.map V.int
  | _, _, _, .nil, e => by cases e; rfl
  | _, _, ns, .cons r l, e => by
    cases r with
    | int i =>
      rename_i vs ds
      unfold intsL at e
      cases h : intsL ds with
      | none => rw [h] at e; cases e
      | some ms =>
        rw [h] at e
        cases e
        rw [List.map_cons, RepL.ints l h]
    | _ => cases e
theorem RepL.bools : ∀ {vs : List V} {xs : List D} {ns : List Bool}, RepL O H vs xs → AH.bools xs = some ns → vs = ns.map V.bl
  | _, _, _, .nil, e => by cases e; rfl
  | _, _, ns, .cons r l, e => by
    cases r with
    | bl i =>
      rename_i vs ds
      unfold AH.bools at e
      cases h : AH.bools ds with
      | none => rw [h] at e; cases e
      | some ms =>
        rw [h] at e
        cases e
        rw [List.map_cons, RepL.bools l h]
    | _ => cases e
end
/-! ### the frame of a def -/
structure Fm where
  P : Pr
  N : Pr
  H0 : Hp
  ba : Nat → Option Addr
def Fm.bo (F : Fm) : Pr := fun a => ∃ i, F.ba i = some a
def Fm.ad (F : Fm) (p : Addr) : Fm := { F with P := fun a => F.P a ∨ a = p, N := fun a => F.N a ∨ a = p }
def Ow (F : Fm) (O : Nat → Option Addr) : Pr := fun a => F.P a ∨ ∃ i, O i = some a
def Jo (O : Nat → Option Addr) : Pr := fun a => ∃ i, O i = some a
/-- what is just looked at: an object that does not change meanwhile; a list of ints of the module -/
inductive RoR (K : PySem.W.Frag) (F : Fm) (O : Nat → Option Addr) (H : Hp) : V → D → Prop
  | of {v : V} {d : D} : Rep (Ow F O) H v d → RoR K F O H v d
  | tup {a : Addr} {vs : List V} {xs : List D} : ¬ (Jo O a ∨ F.N a) → Rd H a (.tup vs) → RepL (Ow F O) H vs xs → RoR K F O H (.ref a) (.tup xs)
  | lst {a : Addr} {vs : List V} {xs : List D} : ¬ (Jo O a ∨ F.N a) → Rd H a (.lst vs) → RepL (Ow F O) H vs xs → RoR K F O H (.ref a) (.lst xs)
  | dic {a : Addr} {ks : List (List Key × V)} {kvs : List (List Key × D)} : ¬ (Jo O a ∨ F.N a) → Rd H a (.dT ks) → RepK (Ow F O) H ks kvs → RoR K F O H (.ref a) (.dic kvs)
  | kl {a : Addr} {ns : List Int} : SqL K (fun _ => none) a (ns.map V.int) → RoR K F O H (.ref a) (.lst (ns.map D.int))
theorem rd_al {H : Hp} {a : Addr} {u : HO} (r : Rd H a u) : H a ≠ none := by
  rcases r with r | ⟨o, r⟩ <;> (rw [r]; simp)
theorem rd_keep {H H' : Hp} {a : Addr} {u : HO} (k : ∀ o, H a = some o → H' a = some o) (r : Rd H a u) : Rd H' a u := by
  rcases r with r | ⟨o, r⟩
  · exact .inl (k _ r)
  · exact .inr ⟨o, k _ r⟩
theorem repL_ints {W : Pr} {H : Hp} : ∀ ns : List Int, RepL W H (ns.map V.int) (ns.map D.int)
  | [] => .nil
  | n :: ns => .cons (.int n) (repL_ints ns)
theorem RoR.w {K : PySem.W.Frag} {F : Fm} {O : Nat → Option Addr} {H : Hp} {v : V} {d : D} (r : RoR K F O H v d) : RepW K (Ow F O) H v d := by
  cases r with
  | of r => exact .of r
  | tup n h l => exact .tup (.inl h) l
  | lst n h l => exact .lst (.inl h) l
  | dic n h l => exact .dic h l
  | kl s =>
    refine .lst ?_ (repL_ints _)
    rcases s with s | s
    · exact absurd rfl (rd_al s)
    · exact .inr s
/-- .. through a step of the heap, of the owners -/
theorem RoR.go {K : PySem.W.Frag} {F F' : Fm} {O O' : Nat → Option Addr} {H H' : Hp} {v : V} {d : D} (k : Ke (Jo O) H H') (g : ∀ a, Ow F' O' a → Ow F O a ∨ H a = none) (gn : ∀ a, Jo O' a ∨ F'.N a → (Jo O a ∨ F.N a) ∨ H a = none) (r : RoR K F O H v d) : RoR K F' O' H' v d := by
  have ke : Ke (Ow F O) H H' := k.imp fun _ z _ => .inr z
  cases r with
  | of r => exact .of (r.ke ke g)
  | tup n h l => exact .tup (fun z => (gn _ z).elim n (rd_al h)) (rd_keep (fun o e => k.stay _ _ (fun z => n (.inl z)) e) h) (l.ke ke g)
  | lst n h l => exact .lst (fun z => (gn _ z).elim n (rd_al h)) (rd_keep (fun o e => k.stay _ _ (fun z => n (.inl z)) e) h) (l.ke ke g)
  | dic n h l => exact .dic (fun z => (gn _ z).elim n (rd_al h)) (rd_keep (fun o e => k.stay _ _ (fun z => n (.inl z)) e) h) (l.ke ke g)
  | kl s => exact .kl s
theorem Ke.ow {F : Fm} {O : Nat → Option Addr} {H H' : Hp} (k : Ke (Jo O) H H') : Ke (Ow F O) H H' := k.imp fun _ z _ => .inr z
theorem Rep.mj {F : Fm} {O : Nat → Option Addr} {H H' : Hp} {v : V} {d : D} (k : Ke (Jo O) H H') (r : Rep (Ow F O) H v d) : Rep (Ow F O) H' v d := r.mono k.ow
theorem RepL.mj {F : Fm} {O : Nat → Option Addr} {H H' : Hp} {v : List V} {d : List D} (k : Ke (Jo O) H H') (r : RepL (Ow F O) H v d) : RepL (Ow F O) H' v d := r.mono k.ow
theorem RepK.mj {F : Fm} {O : Nat → Option Addr} {H H' : Hp} {v : List (List Key × V)} {d : List (List Key × D)} (k : Ke (Jo O) H H') (r : RepK (Ow F O) H v d) : RepK (Ow F O) H' v d := r.mono k.ow
/-! ### a roster: the instance with its slots, the list of its past -/
def rosNames : List Str := ["own_open", "own_hands", "own_done", "own_missed", "own_now", "own_past"]
def slIx (K : PySem.W.Frag) (C : Addr) (f : Str) : Option Nat := match PySem.W.findIn K (.ref C) f with
  | some (some (.ref p)) => PySem.W.slotIn K p C
  | _ => none
structure RosC (K : PySem.W.Frag) (C : Addr) : Prop where
  o : ObjF K C
  ga : C = He.ga K "Roster"
  sl : ∀ f ∈ rosNames, ∃ p i, SlX.Slot1 K C f p i
  nd : (rosNames.map (slIx K C)).Nodup
/-- the slots hold these -/
def FldsAt (K : PySem.W.Frag) (C : Addr) (vs : List (Option V)) (us : List V) : Prop := ∀ (k : Nat) (u : V), us[k]? = some u → ∃ f i, rosNames[k]? = some f ∧ slIx K C f = some i ∧ vs[i]? = some (some u)
def RosAt (K : PySem.W.Frag) (H : Hp) (a C dx : Addr) (us : List V) (p : Addr) : Prop := ∃ vs, H a = some (SlX.SlO a C dx vs) ∧ H dx = some (.xd []) ∧ RosC K C ∧ us.length = 5 ∧ FldsAt K C vs (us ++ [.ref p])
def OwB (F : Fm) (i : Nat) (a : Addr) : Bool → Prop
  | true => F.ba i = some a
  | false => F.H0 a = none ∧ ¬ F.P a
theorem RosAt.go {K : PySem.W.Frag} {H H' : Hp} {a C dx p : Addr} {us : List V} (r : RosAt K H a C dx us p) (h1 : H' a = H a) (h2 : H' dx = H dx) : RosAt K H' a C dx us p := by
  obtain ⟨vs, a1, a2, a3⟩ := r
  exact ⟨vs, h1.trans a1, h2.trans a2, a3⟩
theorem RosAt.keep {K : PySem.W.Frag} {H H' : Hp} {a C dx p : Addr} {us : List V} (r : RosAt K H a C dx us p) (h1 : ∀ o, H a = some o → H' a = some o) (h2 : ∀ o, H dx = some o → H' dx = some o) : RosAt K H' a C dx us p := by
  obtain ⟨vs, a1, a2, a3⟩ := r
  exact ⟨vs, h1 _ a1, h2 _ a2, a3⟩
theorem RosAt.al {K : PySem.W.Frag} {H : Hp} {a C dx p : Addr} {us : List V} (r : RosAt K H a C dx us p) : H a ≠ none := by
  obtain ⟨vs, a1, _⟩ := r
  rw [a1]; simp
theorem RosAt.alx {K : PySem.W.Frag} {H : Hp} {a C dx p : Addr} {us : List V} (r : RosAt K H a C dx us p) : H dx ≠ none := by
  obtain ⟨vs, _, a1, _⟩ := r
  rw [a1]; simp
theorem RosAt.tup {K : PySem.W.Frag} {H : Hp} {a C dx p : Addr} {us xs : List V} (r : RosAt K H a C dx us p) : H a ≠ some (.tup xs) := by
  obtain ⟨vs, a1, _⟩ := r
  rw [a1]; intro z; cases z
def SlR (K : PySem.W.Frag) (F : Fm) (O : Nat → Option Addr) (H : Hp) (i : Nat) (ov : Option V) : Sl → Prop
  | .no => O i = none
  | .val d => O i = none ∧ ∃ v, ov = some v ∧ Rep (Ow F O) H v d
  | .ro d => O i = none ∧ ∃ v, ov = some v ∧ RoR K F O H v d
  | .own xs => ∃ a vs, O i = some a ∧ (F.H0 a = none ∧ ¬ F.P a) ∧ ov = some (.ref a) ∧ H a = some (.lst vs) ∧ RepL (Ow F O) H vs xs
  | .bor xs => ∃ a vs, O i = some a ∧ F.ba i = some a ∧ ov = some (.ref a) ∧ H a = some (.lst vs) ∧ RepL (Ow F O) H vs xs
  | .odc kvs => ∃ a ks, O i = some a ∧ (F.H0 a = none ∧ ¬ F.P a) ∧ ov = some (.ref a) ∧ H a = some (.dT ks) ∧ RepK (Ow F O) H ks kvs
  | .ldc kvs => O i = none ∧ ∃ a ks o, ¬ (Jo O a ∨ F.N a) ∧ ov = some (.ref a) ∧ H a = some (.frz o (.dT ks)) ∧ RepK (Ow F O) H ks kvs
  | .ros b j fs => ∃ a C dx us p, O i = some a ∧ O j = some p ∧ OwB F i a b ∧ ov = some (.ref a) ∧ RosAt K H a C dx us p ∧ ¬ (Jo O dx ∨ F.N dx) ∧ RepL (Ow F O) H us fs
  | .pst b xs => ∃ a vs, O i = some a ∧ OwB F i a b ∧ True ∧ H a = some (.lst vs) ∧ RepL (Ow F O) H vs xs
/-- a roster's second slot is there -/
def Lnk (env : Env) : Prop := ∀ i b j fs, sl env i = .ros b j fs → ∃ xs, sl env j = .pst b xs
def get1 (σ : L2.St) (i : Nat) : Option V := (σ[i]?).join
structure SR (K : PySem.W.Frag) (F : Fm) (O : Nat → Option Addr) (env : Env) (σ : L2.St) (H : Hp) : Prop where
  slot : ∀ i, SlR K F O H i (get1 σ i) (sl env i)
  inj : ∀ i j a, O i = some a → O j = some a → i = j
  prot : ∀ a, Ow F O a → H a ≠ none
  keep : ∀ a o, F.H0 a = some o → ¬ F.bo a → H a = some o
  al : ∀ a, F.H0 a ≠ none → H a ≠ none
  len : env.length = σ.length
  nal : ∀ a, F.N a → H a ≠ none
  pt : ∀ a xs, F.P a → H a ≠ some (.tup xs)
  lnk : Lnk env
/-- an exception of a class with its fields -/
def XR (K : PySem.W.Frag) (W : Pr) (c : Str) (fs : List D) (cls : Value) (dd : Option Addr) (H : Hp) : Prop :=
  (cls = .ref (He.ga K c) ∧ c ∈ TheK.xs) ∧ match dd with
    | none => fs = []
    | some d => ¬ W d ∧ ∃ vs, H d = some (.xd ((fieldsOf c).zip vs)) ∧ vs.length = (fieldsOf c).length ∧ RepL W H vs fs
/-! ### judgements -/
def Want {α : Type} (m : M α) (env : Env) (Q : α → Env → Prop) (E : Str → List D → Env → Prop) : Prop := match m env with
  | .ok a e => Q a e
  | .ex c fs e => E c fs e
  | .bad => False
theorem Want.bind {α β : Type} {m : M α} {f : α → M β} {env : Env} {Q : β → Env → Prop} {E : Str → List D → Env → Prop} (h : Want (m.bind f) env Q E) : Want m env (fun a e => Want (f a) e Q E) E := by
  unfold Want at h ⊢
  unfold M.bind at h
  cases hm : m env with
  | ok a e => rw [hm] at h; exact h
  | ex c fs e => rw [hm] at h; exact h
  | bad => rw [hm] at h; exact h
theorem Want.imp {α : Type} {m : M α} {env : Env} {Q Q' : α → Env → Prop} {E E' : Str → List D → Env → Prop} (h : Want m env Q E) (q : ∀ a e, Q a e → Q' a e) (x : ∀ c fs e, E c fs e → E' c fs e) : Want m env Q' E' := by
  unfold Want at h ⊢
  cases hm : m env with
  | ok a e => rw [hm] at h; exact q a e h
  | ex c fs e => rw [hm] at h; exact x c fs e h
  | bad => rw [hm] at h; exact h
theorem Want.of {α : Type} {r : Rv α} {env : Env} {Q : α → Env → Prop} {E : Str → List D → Env → Prop} (h : Want (M.of r) env Q E) : ∃ a, r = .ok a ∧ Q a env := by
  cases r with
  | ok a => exact ⟨a, rfl, h⟩
  | bad => exact h.elim
/-- a tuple without a dict of its own -/
def TuO (a : Addr) (vs : List V) : HO := .ext fun h => vs.length ≤ sizeLine ∧ ∃ (its : List Value) (n : Nat), Vals vs its ∧ h.get? a = some { cls := .type "tuple", data := .seq its.toArray n }
inductive Fl where
  | w | s | f | fd | ft | fr
/-- a roster as data -/
def rosD (fs xs : List D) : D := .lst [.tup fs, .lst xs]
/-- a new roster, its parts kept apart by Z -/
def NewR (K : PySem.W.Frag) (Z Nd : Pr) (H H' : Hp) (v : V) (d : D) (a p : Addr) : Prop := ∃ C dx us vs fs xs, v = .ref a ∧ d = rosD fs xs ∧ H a = none ∧ H p = none ∧ ¬ Nd dx ∧ a ≠ p ∧ dx ≠ a ∧ dx ≠ p ∧ RosAt K H' a C dx us p ∧ H' p = some (.lst vs) ∧ RepL Z H' us fs ∧ RepL Z H' vs xs
def Po (fl : Fl) (K : PySem.W.Frag) (F : Fm) (O : Nat → Option Addr) (e1 : Env) (σ : L2.St) (H H' : Hp) (v : V) (d : D) : Prop := match fl with
  | .w => RepW K (Ow F O) H' v d
  | .s => Rep (Ow F O) H' v d
  | .f => ∃ p vs xs, v = .ref p ∧ d = .lst xs ∧ H p = none ∧ H' p = some (.lst vs) ∧ RepL (Ow (F.ad p) O) H' vs xs ∧ SR K (F.ad p) O e1 σ H'
  | .fd => ∃ p ks kvs, v = .ref p ∧ d = .dic kvs ∧ H p = none ∧ H' p = some (.dT ks) ∧ RepK (Ow (F.ad p) O) H' ks kvs ∧ SR K (F.ad p) O e1 σ H'
  | .ft => ∃ p vs xs, v = .ref p ∧ d = .tup xs ∧ H' p = some (TuO p vs) ∧ RepL (Ow F O) H' vs xs
  | .fr => ∃ a p, NewR K (Ow ((F.ad a).ad p) O) (fun b => Jo O b ∨ F.N b) H H' v d a p ∧ SR K ((F.ad a).ad p) O e1 σ H'
/-- what is wished of an exception -/
def XW (K : PySem.W.Frag) (F : Fm) (O : Nat → Option Addr) (σ : L2.St) (H : Hp) (Wx : WX) : Str → List D → Env → Prop := fun c fs e1 =>
  ∀ cls d H', SR K F O e1 σ H' → Ke (Jo O) H H' → XR K (Ow F O) c fs cls d H' → Wx cls d σ H'
theorem XW.later {K : PySem.W.Frag} {F : Fm} {O : Nat → Option Addr} {σ : L2.St} {H H1 : Hp} {Wx : WX} (k : Ke (Jo O) H H1) : ∀ c fs e, XW K F O σ H Wx c fs e → XW K F O σ H1 Wx c fs e :=
  fun _ _ _ h cls d H' S k1 x => h cls d H' S (k.trans k1) x
/-- an expression -/
def PD (fl : Fl) (X : Cx) (Wx : WX) (e : Expr) (m : DE) : Prop := ∃ t : TE, PE X e t ∧ ∀ (F : Fm) (O : Nat → Option Addr) (env : Env) (σ : L2.St) (H : Hp) (Q : VK), SR X.K F O env σ H →
  Want m env (fun d e1 => ∀ v H', SR X.K F O e1 σ H' → Ke (Jo O) H H' → Po fl X.K F O e1 σ H H' v d → Q v H') (XW X.K F O σ H Wx) → t σ H Q
/-- a test -/
def TD (X : Cx) (Wx : WX) (e : Expr) (m : DT) : Prop := ∃ t : TT, PT X e t ∧ ∀ (F : Fm) (O : Nat → Option Addr) (env : Env) (σ : L2.St) (H : Hp) (Q : Bool → Hp → Prop), SR X.K F O env σ H →
  Want m env (fun b e1 => ∀ H', SR X.K F O e1 σ H' → Ke (Jo O) H H' → Q b H') (XW X.K F O σ H Wx) → t σ H Q
def WD (X : Cx) (Wx : WX) (e : Expr) (m : DT) : Prop := ∃ t : TT, PW X e t ∧ ∀ (F : Fm) (O : Nat → Option Addr) (env : Env) (σ : L2.St) (H : Hp) (Q : Bool → Hp → Prop), SR X.K F O env σ H →
  Want m env (fun b e1 => ∀ H', SR X.K F O e1 σ H' → Ke (Jo O) H H' → Q b H') (XW X.K F O σ H Wx) → t σ H Q
/-- an argument list of values that stay -/
def AD (X : Cx) (Wx : WX) (es : List Expr) (m : DL) : Prop := ∃ t : TA, PA X es t ∧ ∀ (F : Fm) (O : Nat → Option Addr) (env : Env) (σ : L2.St) (H : Hp) (Q : List V → Hp → Prop), SR X.K F O env σ H →
  Want m env (fun ds e1 => ∀ vs H', SR X.K F O e1 σ H' → Ke (Jo O) H H' → RepL (Ow F O) H' vs ds → Q vs H') (XW X.K F O σ H Wx) → t σ H Q
theorem WD.td {X : Cx} {Wx : WX} {e : Expr} {m : DT} (h : WD X Wx e m) : TD X Wx e m := let ⟨t, p, q⟩ := h; ⟨t, p.pt, q⟩
section
variable {K : PySem.W.Frag} {F : Fm} {O : Nat → Option Addr} {env : Env} {σ : L2.St} {H H' : Hp}
theorem RepW.all {W : Pr} {v : V} {d : D} (k : ∀ a o, H a = some o → H' a = some o) (r : RepW K W H v d) : RepW K W H' v d := by
  have ke : Ke W H H' := ⟨fun a o _ e => k a o e, fun a e => by
    cases q : H a with
    | none => exact absurd q e
    | some o => rw [k a o q]; simp⟩
  cases r with
  | of r => exact .of (r.mono ke)
  | tup s l =>
    refine .tup ?_ (l.mono ke)
    rcases s with s | s
    · rcases s with s | ⟨o, s⟩
      · exact .inl (.inl (k _ _ s))
      · exact .inl (.inr ⟨o, k _ _ s⟩)
    · exact .inr s
  | lst s l =>
    refine .lst ?_ (l.mono ke)
    rcases s with s | s
    · rcases s with s | ⟨o, s⟩
      · exact .inl (.inl (k _ _ s))
      · exact .inl (.inr ⟨o, k _ _ s⟩)
    · exact .inr s
  | dic s l =>
    refine .dic ?_ (l.mono ke)
    rcases s with s | ⟨o, s⟩
    · exact .inl (k _ _ s)
    · exact .inr ⟨o, k _ _ s⟩
/-- .. and fewer, or new, objects are kept apart -/
theorem RepW.sub {W W' : Pr} {v : V} {d : D} (g : ∀ a, W' a → W a ∨ H a = none) (r : RepW K W H v d) : RepW K W' H v d := by
  cases r with
  | of r => exact .of (r.sub g)
  | tup s l => exact .tup s (l.sub g)
  | lst s l => exact .lst s (l.sub g)
  | dic s l => exact .dic s (l.sub g)
theorem ke_all {W : Pr} (k : ∀ a o, H a = some o → H' a = some o) : Ke W H H' := ⟨fun a o _ e => k a o e, fun a e => by
    cases q : H a with
    | none => exact absurd q e
    | some o => rw [k a o q]; simp⟩
theorem SlR.ext {i : Nat} {ov : Option V} (k : ∀ a o, H a = some o → H' a = some o) : ∀ {s : Sl}, SlR K F O H i ov s → SlR K F O H' i ov s := by
  have ke : Ke (Ow F O) H H' := ⟨fun a o _ e => k a o e, fun a e => by
    cases q : H a with
    | none => exact absurd q e
    | some o => rw [k a o q]; simp⟩
  intro s h
  cases s with
  | no => exact h
  | val d => obtain ⟨h, v, e, r⟩ := h; exact ⟨h, v, e, r.mono ke⟩
  | ro d => obtain ⟨h, v, e, r⟩ := h; exact ⟨h, v, e, r.go (ke_all k) (fun _ z => .inl z) fun _ z => .inl z⟩
  | own xs => obtain ⟨a, vs, h, h0, e, q, r⟩ := h; exact ⟨a, vs, h, h0, e, k _ _ q, r.mono ke⟩
  | bor xs => obtain ⟨a, vs, h, h0, e, q, r⟩ := h; exact ⟨a, vs, h, h0, e, k _ _ q, r.mono ke⟩
  | odc kvs => obtain ⟨a, vs, h, h0, e, q, r⟩ := h; exact ⟨a, vs, h, h0, e, k _ _ q, r.mono ke⟩
  | ldc kvs => obtain ⟨h, a, vs, o, h0, e, q, r⟩ := h; exact ⟨h, a, vs, o, h0, e, k _ _ q, r.mono ke⟩
  | ros b j fs => obtain ⟨a, C, dx, us, p, h, hj, h0, e, q, n, r⟩ := h; exact ⟨a, C, dx, us, p, h, hj, h0, e, q.keep (k _) (k _), n, r.mono ke⟩
  | pst b xs => obtain ⟨a, vs, h, h0, e, q, r⟩ := h; exact ⟨a, vs, h, h0, e, k _ _ q, r.mono ke⟩
/-- another set of objects that are kept apart -/
theorem SlR.sub {F' : Fm} {i : Nat} {ov : Option V} (hb : F'.ba = F.ba) (h0 : F'.H0 = F.H0) (gp : ∀ a, F'.P a → F.P a ∨ H a = none) (gn : ∀ a, F'.N a → F.N a ∨ H a = none) : ∀ {s : Sl}, SlR K F O H i ov s → SlR K F' O H i ov s := by
  have g : ∀ a, Ow F' O a → Ow F O a ∨ H a = none := fun a w => w.elim (fun w => (gp a w).elim (fun z => .inl (.inl z)) .inr) fun w => .inl (.inr w)
  have al : ∀ {a : Addr} {o : HO}, H a = some o → ¬ F.P a → ¬ F'.P a := fun {a o} e n w => (gp a w).elim n fun z => by rw [z] at e; cases e
  intro s h
  cases s with
  | no => exact h
  | val d => obtain ⟨h, v, e, r⟩ := h; exact ⟨h, v, e, r.sub g⟩
  | ro d => obtain ⟨h, v, e, r⟩ := h; exact ⟨h, v, e, r.go Ke.refl g fun a z => z.elim (fun z => .inl (.inl z)) fun z => (gn a z).elim (fun z => .inl (.inr z)) .inr⟩
  | own xs => obtain ⟨a, vs, h, hz, e, q, r⟩ := h; exact ⟨a, vs, h, ⟨by rw [h0]; exact hz.1, al q hz.2⟩, e, q, r.sub g⟩
  | bor xs => obtain ⟨a, vs, h, hz, e, q, r⟩ := h; exact ⟨a, vs, h, by rw [hb]; exact hz, e, q, r.sub g⟩
  | odc kvs => obtain ⟨a, vs, h, hz, e, q, r⟩ := h; exact ⟨a, vs, h, ⟨by rw [h0]; exact hz.1, al q hz.2⟩, e, q, r.sub g⟩
  | ldc kvs => obtain ⟨h, a, vs, o, hz, e, q, r⟩ := h; exact ⟨h, a, vs, o, fun z => z.elim (fun z => hz (.inl z)) fun z => (gn a z).elim (fun z => hz (.inr z)) (al_of q), e, q, r.sub g⟩
  | ros b j fs =>
    obtain ⟨a, C, dx, us, p, h, hj, hz, e, q, n, r⟩ := h
    refine ⟨a, C, dx, us, p, h, hj, ?_, e, q, fun z => z.elim (fun z => n (.inl z)) fun z => (gn dx z).elim (fun z => n (.inr z)) q.alx, r.sub g⟩
    cases b with
    | true => show F'.ba i = _; rw [hb]; exact hz
    | false => exact ⟨by rw [h0]; exact hz.1, fun w => (gp a w).elim hz.2 q.al⟩
  | pst b xs =>
    obtain ⟨a, vs, h, hz, e, q, r⟩ := h
    refine ⟨a, vs, h, ?_, e, q, r.sub g⟩
    cases b with
    | true => show F'.ba i = _; rw [hb]; exact hz
    | false => exact ⟨by rw [h0]; exact hz.1, al q hz.2⟩
/-- all that stood stands -/
theorem SR.ext (S : SR K F O env σ H) (k : ∀ a o, H a = some o → H' a = some o) : SR K F O env σ H' where
  slot := fun i => (S.slot i).ext k
  inj := S.inj
  prot := fun a w => by
    cases q : H a with
    | none => exact absurd q (S.prot a w)
    | some o => rw [k a o q]; simp
  keep := fun a o e n => k a o (S.keep a o e n)
  al := fun a e => by
    cases q : H a with
    | none => exact absurd q (S.al a e)
    | some o => rw [k a o q]; simp
  len := S.len
  nal := fun a e => by
    cases q : H a with
    | none => exact absurd q (S.nal a e)
    | some o => rw [k a o q]; simp
  pt := fun a xs w => by
    cases q : H a with
    | none => exact absurd q (S.prot a (.inl w))
    | some o => rw [k a o q, ← q]; exact S.pt a xs w
  lnk := S.lnk
/-- a new object is kept apart -/
theorem SR.ad (S : SR K F O env σ H) {p : Addr} {o : HO} (h : H p = none) (ho : ∀ xs, o ≠ .tup xs := by intro _ z; cases z) : SR K (F.ad p) O env σ (upd H p o) := by
  have S1 : SR K F O env σ (upd H p o) := S.ext fun a u e => by rw [upd_ne (ne_of_none e h)]; exact e
  refine ⟨fun i => ?_, S.inj, fun a w => ?_, S1.keep, S1.al, S.len, fun a w => w.elim (S1.nal a) fun z => by rw [z, upd_same]; simp, fun a xs w => w.elim (S1.pt a xs) fun z => by rw [z, upd_same]; exact fun y => ho xs (Option.some.inj y), S.lnk⟩
  · refine SlR.ext (H := H) (fun a u e => by rw [upd_ne (ne_of_none e h)]; exact e) (SlR.sub (F := F) (F' := F.ad p) rfl rfl (fun a w => ?_) (fun a w => ?_) (S.slot i))
    · rcases w with w | rfl
      · exact .inl w
      · exact .inr h
    · rcases w with w | rfl
      · exact .inl w
      · exact .inr h
  · rcases w with (w | rfl) | w
    · exact S1.prot a (.inl w)
    · rw [upd_same]; simp
    · exact S1.prot a (.inr w)
theorem SR.unad {p : Addr} (S : SR K (F.ad p) O env σ H) : SR K F O env σ H := by
  refine ⟨fun i => SlR.sub (F := F.ad p) (F' := F) rfl rfl (fun a w => .inl (.inl w)) (fun a w => .inl (.inl w)) (S.slot i), S.inj, fun a w => S.prot a ?_, S.keep, S.al, S.len, fun a w => S.nal a (.inl w), fun a xs w => S.pt a xs (.inl w), S.lnk⟩
  · exact w.elim (fun z => .inl (.inl z)) .inr
theorem SR.new' (S : SR K F O env σ H) {p : Addr} {o : HO} (h : H p = none) : SR K F O env σ (upd H p o) := S.ext fun a u e => by
  rw [upd_ne (ne_of_none e h)]; exact e
theorem SR.noW (S : SR K F O env σ H) {p : Addr} (h : H p = none) : ¬ Ow F O p := fun w => S.prot p w h
theorem ke_ext {W : Pr} (k : ∀ a o, H a = some o → H' a = some o) : Ke W H H' := ⟨fun a o _ e => k a o e, fun a e => by
    cases q : H a with
    | none => exact absurd q e
    | some o => rw [k a o q]; simp⟩
theorem new_ext {p : Addr} {o : HO} (h : H p = none) : ∀ a u, H a = some u → upd H p o a = some u := fun a u e => by
  rw [upd_ne (ne_of_none e h)]; exact e
end
/-- from new to staying to looked at -/
theorem Po.s_of_f {K : PySem.W.Frag} {F : Fm} {O : Nat → Option Addr} {e1 : Env} {σ : L2.St} {H H' : Hp} {v : V} {d : D} (n : ∀ p, H p = none → ¬ Ow F O p) (h : Po .f K F O e1 σ H H' v d) : Po .s K F O e1 σ H H' v d := by
  obtain ⟨p, vs, xs, rfl, rfl, hp, hp', l, _⟩ := h
  exact .lst (n p hp) hp' (l.sub fun a z => .inl (z.elim (fun z => .inl (.inl z)) .inr))
theorem PD.weak {X : Cx} {Wx : WX} {e : Expr} {m : DE} (h : PD .s X Wx e m) : PD .w X Wx e m := by
  obtain ⟨t, p, q⟩ := h
  exact ⟨t, p, fun F O env σ H Q S w => q F O env σ H Q S (w.imp (fun d e1 z v H' S' k r => z v H' S' k (.of r)) fun _ _ _ z => z)⟩
theorem PD.str {X : Cx} {Wx : WX} {e : Expr} {m : DE} (h : PD .f X Wx e m) : PD .s X Wx e m := by
  obtain ⟨t, p, q⟩ := h
  exact ⟨t, p, fun F O env σ H Q S w => q F O env σ H Q S (w.imp (fun d e1 z v H' S' k r => z v H' S' k (Po.s_of_f (K := X.K) (fun p hp => S.noW hp) r)) fun _ _ _ z => z)⟩
theorem SR.own_tup {K : PySem.W.Frag} {F : Fm} {O : Nat → Option Addr} {env : Env} {σ : L2.St} {H : Hp} {i : Nat} {a : Addr} {xs : List V} (S : SR K F O env σ H) (h : O i = some a) : H a ≠ some (.tup xs) := by
  have s := S.slot i
  intro z
  cases q : sl env i with
  | no => rw [q] at s; have s : O i = none := s; rw [h] at s; cases s
  | val d => rw [q] at s; obtain ⟨s, _⟩ := s; rw [h] at s; cases s
  | ro d => rw [q] at s; obtain ⟨s, _⟩ := s; rw [h] at s; cases s
  | own xs => rw [q] at s; obtain ⟨b, vs, s1, _, _, s2, _⟩ := s; rw [h] at s1; cases s1; rw [z] at s2; cases s2
  | bor xs => rw [q] at s; obtain ⟨b, vs, s1, _, _, s2, _⟩ := s; rw [h] at s1; cases s1; rw [z] at s2; cases s2
  | odc xs => rw [q] at s; obtain ⟨b, vs, s1, _, _, s2, _⟩ := s; rw [h] at s1; cases s1; rw [z] at s2; cases s2
  | ldc xs => rw [q] at s; obtain ⟨s1, _⟩ := s; rw [h] at s1; cases s1
  | ros b j fs => rw [q] at s; obtain ⟨b, C, dx, us, p, s1, _, _, _, s2, _⟩ := s; rw [h] at s1; cases s1; exact s2.tup z
  | pst b xs => rw [q] at s; obtain ⟨b, vs, s1, _, _, s2, _⟩ := s; rw [h] at s1; cases s1; rw [z] at s2; cases s2
theorem SR.ow_tup {K : PySem.W.Frag} {F : Fm} {O : Nat → Option Addr} {env : Env} {σ : L2.St} {H : Hp} {a : Addr} {xs : List V} (S : SR K F O env σ H) (h : Ow F O a) : H a ≠ some (.tup xs) := by
  rcases h with h | ⟨i, h⟩
  · exact S.pt a xs h
  · exact S.own_tup h
theorem SR.prot2 {K : PySem.W.Frag} {F : Fm} {O : Nat → Option Addr} {env : Env} {σ : L2.St} {H : Hp} (S : SR K F O env σ H) : ∀ a, Ow F O a → H a ≠ none ∧ ∀ xs, H a ≠ some (.tup xs) := fun a w => ⟨S.prot a w, fun _ => S.ow_tup w⟩
end AH
namespace AH
open PySem PySem.Spec PyProof.Rows L2
variable [TheK]
section
variable {X : Cx} {Wx : WX} {e a b c : Expr} {ma mb mc : DE} {pos : Pos}
theorem get1_some {σ : L2.St} {i : Nat} {v : V} (h : get1 σ i = some v) : σ[i]? = some (some v) := by
  unfold get1 at h
  cases q : σ[i]? with
  | none => rw [q] at h; cases h
  | some o => rw [q] at h; cases o with
    | none => cases h
    | some u => cases h; rfl
theorem Po.back {fl : Fl} {K : PySem.W.Frag} {F : Fm} {O : Nat → Option Addr} {e1 : Env} {σ : L2.St} {H H1 H' : Hp} {v : V} {d : D} (k : Ke (Jo O) H H1) (h : Po fl K F O e1 σ H1 H' v d) : Po fl K F O e1 σ H H' v d := by
  have bk : ∀ p, H1 p = none → H p = none := fun p hp => by
    cases q : H p with
    | none => rfl
    | some o => exact absurd hp (k.there p (by rw [q]; simp))
  cases fl with
  | w => exact h
  | s => exact h
  | f => obtain ⟨p, vs, xs, e1, e2, hp, r⟩ := h; exact ⟨p, vs, xs, e1, e2, bk p hp, r⟩
  | fd => obtain ⟨p, vs, xs, e1, e2, hp, r⟩ := h; exact ⟨p, vs, xs, e1, e2, bk p hp, r⟩
  | ft => exact h
  | fr =>
    obtain ⟨a, p, ⟨C, dx, us, vs, fs, xs, e1, e2, h1, h2, h3, r⟩, S⟩ := h
    exact ⟨a, p, ⟨C, dx, us, vs, fs, xs, e1, e2, bk _ h1, bk _ h2, h3, r⟩, S⟩
/-! ### names, constants -/
theorem pd_var {i : Nat} {x : Str} (hN : X.N[i]? = some x) (hv : Vis X.env.scope x) (hd : (x == ("__debug__" : Str)) = false := by decide) (hcd : (x == ("__classdict__" : Str)) = false := by decide) : PD .s X Wx (.Name x pos) (eVar i) := by
  refine ⟨_, pe_var hN hv hd hcd, fun F O env σ H Q S w => ?_⟩
  have s := S.slot i
  unfold Want eVar at w
  cases h : sl env i with
  | val d =>
    rw [h] at w s
    obtain ⟨_, v, e, r⟩ := s
    exact ⟨v, get1_some e, w v H S Ke.refl r⟩
  | _ => rw [h] at w; exact w.elim
theorem tmp_rep {K : PySem.W.Frag} {F : Fm} {O : Nat → Option Addr} {env : Env} {σ : L2.St} {H : Hp} {i : Nat} {d : D} {e' : Env} (S : SR K F O env σ H) (h : eTmp i env = .ok d e') : e' = env ∧ ∃ v, get1 σ i = some v ∧ RepW K (Ow F O) H v d := by
  have s := S.slot i
  unfold eTmp at h
  cases q : sl env i with
  | no => rw [q] at h; cases h
  | val d =>
    rw [q] at h s; cases h
    obtain ⟨_, v, e, r⟩ := s
    exact ⟨rfl, v, e, .of r⟩
  | ro d =>
    rw [q] at h s; cases h
    obtain ⟨_, v, e, r⟩ := s
    exact ⟨rfl, v, e, r.w⟩
  | own xs =>
    rw [q] at h s; cases h
    obtain ⟨a, vs, e1, e0, e2, e3, r⟩ := s
    exact ⟨rfl, _, e2, .lst (.inl (.inl e3)) r⟩
  | bor xs =>
    rw [q] at h s; cases h
    obtain ⟨a, vs, e1, e0, e2, e3, r⟩ := s
    exact ⟨rfl, _, e2, .lst (.inl (.inl e3)) r⟩
  | odc kvs =>
    rw [q] at h s; cases h
    obtain ⟨a, vs, e1, e0, e2, e3, r⟩ := s
    exact ⟨rfl, _, e2, .dic (.inl e3) r⟩
  | ldc kvs =>
    rw [q] at h s; cases h
    obtain ⟨e1, a, vs, o, e0, e2, e3, r⟩ := s
    exact ⟨rfl, _, e2, .dic (.inr ⟨o, e3⟩) r⟩
  | ros b j fs => rw [q] at h; cases h
  | pst b xs => rw [q] at h; cases h
theorem Want.tmp {K : PySem.W.Frag} {F : Fm} {O : Nat → Option Addr} {env : Env} {σ : L2.St} {H : Hp} {i : Nat} {Q : D → Env → Prop} {E : Str → List D → Env → Prop} (S : SR K F O env σ H) (h : Want (eTmp i) env Q E) : ∃ v d, get1 σ i = some v ∧ RepW K (Ow F O) H v d ∧ Q d env := by
  unfold Want at h
  cases q : eTmp i env with
  | ok d e' =>
    rw [q] at h
    obtain ⟨rfl, v, e, r⟩ := tmp_rep S q
    exact ⟨v, d, e, r, h⟩
  | ex c fs e' =>
    unfold eTmp at q
    split at q <;> cases q
  | bad => rw [q] at h; exact h.elim
theorem pd_tmp {i : Nat} {x : Str} (hN : X.N[i]? = some x) (hv : Vis X.env.scope x) (hd : (x == ("__debug__" : Str)) = false := by decide) (hcd : (x == ("__classdict__" : Str)) = false := by decide) : PD .w X Wx (.Name x pos) (eTmp i) := by
  refine ⟨_, pe_var hN hv hd hcd, fun F O env σ H Q S w => ?_⟩
  obtain ⟨v, d, e, r, w⟩ := w.tmp S
  exact ⟨v, get1_some e, w v H S Ke.refl r⟩
theorem pd_int {i j} : PD .s X Wx (.Constant (.int i) j pos) (eC (.int i)) := ⟨_, pe_int, fun F O env σ H Q S w => w _ H S Ke.refl (.int i)⟩
theorem pd_bl {i j} : PD .s X Wx (.Constant (.bool i) j pos) (eC (.bl i)) := ⟨_, pe_bl, fun F O env σ H Q S w => w _ H S Ke.refl (.bl i)⟩
theorem pd_non {j} : PD .s X Wx (.Constant .none j pos) (eC .non) := ⟨_, pe_non, fun F O env σ H Q S w => w _ H S Ke.refl .non⟩
theorem pd_str {i j} : PD .s X Wx (.Constant (.str i) j pos) (eC (.str i)) := ⟨_, pe_str, fun F O env σ H Q S w => w _ H S Ke.refl (.str i)⟩
/-! ### operations by values -/
/-- r does f -/
def Op1 (fl : Fl) (K : PySem.W.Frag) (r : V → Hp → VK → Prop) (f : D → Rv D) : Prop := ∀ (F : Fm) (O : Nat → Option Addr) (env : Env) (σ : L2.St) (H : Hp) (x : V) (dx dz : D) (Q : VK), SR K F O env σ H →
  RepW K (Ow F O) H x dx → f dx = .ok dz → (∀ z H', SR K F O env σ H' → Ke (Jo O) H H' → Po fl K F O env σ H H' z dz → Q z H') → r x H Q
theorem pd_e1 {fl : Fl} {f : D → Rv D} {r : V → Hp → VK → Prop} (hop : Op1 fl X.K r f) (ha : PD .w X Wx a ma) (pe : ∀ {ta : TE}, PE X a ta → PE X e (tUn r ta)) : PD fl X Wx e (e1 f ma) := by
  obtain ⟨ta, pa, qa⟩ := ha
  refine ⟨_, pe pa, fun F O env σ H Q S w => ?_⟩
  refine qa F O env σ H _ S (w.bind.imp (fun dx e1 w1 x H1 S1 k1 p1 => ?_) fun _ _ _ z => z)
  obtain ⟨dz, ef, q⟩ := w1.of
  exact hop F O e1 σ H1 x dx dz Q S1 p1 ef fun z H' S' k3 p3 => q z H' S' (k1.trans k3) (p3.back k1)
/-! ### the operators -/
theorem lenOk_of {n : Nat} (h : lenOk n = true) : n ≤ sizeLine := Nat.le_trans (of_decide_eq_true h) (by rw [sizeLine_eq]; decide)
theorem if_ok {c : Bool} {α : Type} {x y : α} (h : (if c = true then Rv.ok x else Rv.bad) = .ok y) : c = true ∧ x = y := by
  cases c with
  | true => rw [if_pos rfl] at h; cases h; exact ⟨rfl, rfl⟩
  | false => rw [if_neg Bool.false_ne_true] at h; cases h
/-- r does f, of values that stay -/
def Op2s (fl : Fl) (K : PySem.W.Frag) (r : R2) (f : D → D → Rv D) : Prop := ∀ (F : Fm) (O : Nat → Option Addr) (env : Env) (σ : L2.St) (H : Hp) (x y : V) (dx dy dz : D) (Q : VK), SR K F O env σ H →
  Rep (Ow F O) H x dx → Rep (Ow F O) H y dy → f dx dy = .ok dz → (∀ z H', SR K F O env σ H' → Ke (Jo O) H H' → Po fl K F O env σ H H' z dz → Q z H') → r x y H Q
theorem pd_e2s {fl : Fl} {f : D → D → Rv D} {r : R2} (hop : Op2s fl X.K r f) (ha : PD .s X Wx a ma) (hb : PD .s X Wx b mb) (pe : ∀ {ta tb : TE}, PE X a ta → PE X b tb → PE X e (tOp r ta tb)) : PD fl X Wx e (e2 f ma mb) := by
  obtain ⟨ta, pa, qa⟩ := ha
  obtain ⟨tb, pb, qb⟩ := hb
  refine ⟨_, pe pa pb, fun F O env σ H Q S w => ?_⟩
  refine qa F O env σ H _ S (w.bind.imp (fun dx e1 w1 x H1 S1 k1 p1 => ?_) fun _ _ _ z => z)
  refine qb F O e1 σ H1 _ S1 (w1.bind.imp (fun dy e2 w2 y H2 S2 k2 p2 => ?_) (XW.later k1))
  obtain ⟨dz, ef, q⟩ := w2.of
  exact hop F O e2 σ H2 x y dx dy dz Q S2 (Rep.mj k2 p1) p2 ef fun z H' S' k3 p3 => q z H' S' (k1.trans (k2.trans k3)) (p3.back (k1.trans k2))
section
variable {K : PySem.W.Frag} {F : Fm} {O : Nat → Option Addr} {env : Env} {σ : L2.St} {H : Hp}
/-- a new tuple, a new list -/
theorem new_tup {Q : VK} {vs : List V} {xs : List D} (S : SR K F O env σ H) (l : RepL (Ow F O) H vs xs) (q : ∀ z H', SR K F O env σ H' → Ke (Jo O) H H' → Rep (Ow F O) H' z (.tup xs) → Q z H') {p : Addr} (hp : H p = none) : Q (.ref p) (upd H p (.tup vs)) :=
  q _ _ (S.new' hp) (Ke.new hp) (.tup (S.noW hp) upd_same (l.mono (Ke.new hp)))
theorem RepL.grow1 {vs : List V} {xs : List D} {o : HO} {p : Addr} (l : RepL (Ow F O) H vs xs) (hp : H p = none) : RepL (Ow (F.ad p) O) (upd H p o) vs xs :=
  l.ke (Ke.new hp) fun a z => by
    rcases z with (z | z) | z
    · exact .inl (.inl z)
    · exact .inr (by rw [z]; exact hp)
    · exact .inl (.inr z)
theorem RepK.grow1 {vs : List (List Key × V)} {xs : List (List Key × D)} {o : HO} {p : Addr} (l : RepK (Ow F O) H vs xs) (hp : H p = none) : RepK (Ow (F.ad p) O) (upd H p o) vs xs :=
  l.ke (Ke.new hp) fun a z => by
    rcases z with (z | z) | z
    · exact .inl (.inl z)
    · exact .inr (by rw [z]; exact hp)
    · exact .inl (.inr z)
theorem new_lst {Q : VK} {vs : List V} {xs : List D} (S : SR K F O env σ H) (l : RepL (Ow F O) H vs xs) (q : ∀ z H', SR K F O env σ H' → Ke (Jo O) H H' → Po .f K F O env σ H H' z (.lst xs) → Q z H') {p : Addr} (hp : H p = none) : Q (.ref p) (upd H p (.lst vs)) :=
  q _ _ (S.new' hp) (Ke.new hp) ⟨p, vs, xs, rfl, rfl, hp, upd_same, l.grow1 hp, S.ad hp⟩
theorem new_dic {Q : VK} {vs : List (List Key × V)} {xs : List (List Key × D)} (S : SR K F O env σ H) (l : RepK (Ow F O) H vs xs) (q : ∀ z H', SR K F O env σ H' → Ke (Jo O) H H' → Po .fd K F O env σ H H' z (.dic xs) → Q z H') {p : Addr} (hp : H p = none) : Q (.ref p) (upd H p (.dT vs)) :=
  q _ _ (S.new' hp) (Ke.new hp) ⟨p, vs, xs, rfl, rfl, hp, upd_same, l.grow1 hp, S.ad hp⟩
end
def rStrCat : R2 := fun x y H Q => ∃ i j, x = .str i ∧ y = .str j ∧ i.length + j.length ≤ sizeLine ∧ Q (.str (i ++ j)) H
def rAddA (K : PySem.W.Frag) : R2 := fun x y H Q => rI0 (fun i j => .int (i + j)) x y H Q ∨ rCat x y H Q ∨ rCatA K x y H Q ∨ rStrCat x y H Q
theorem op_addA : OpR X (binaryOp .Add) (rAddA X.K) := op_add.or (op_cat.or (op_catA.or op_add_str))
theorem o_add : Op2s .s X.K (rAddA X.K) dAdd := by
  intro F O env σ H x y dx dy dz Q S rx ry ef q
  unfold dAdd at ef
  cases rx with
  | int i => cases ry with
    | int j => cases ef; exact .inl ⟨i, j, rfl, rfl, q _ H S Ke.refl (.int _)⟩
    | _ => cases ef
  | str i => cases ry with
    | str j => obtain ⟨h, rfl⟩ := if_ok ef; exact .inr (.inr (.inr ⟨i, j, rfl, rfl, lenOk_of h, q _ H S Ke.refl (.str _)⟩))
    | _ => cases ef
  | lst n1 h1 l1 => cases ry with
    | lst n2 h2 l2 =>
      obtain ⟨h, rfl⟩ := if_ok ef
      refine .inr (.inl ⟨_, _, _, _, rfl, rfl, h1, h2, ?_, fun p hp => ?_⟩)
      · rw [l1.len, l2.len]; exact lenOk_of h
      · exact new_lst S (l1.app l2) (fun z H' S' k r => q z H' S' k (Po.s_of_f (K := X.K) (fun p hp => S.noW hp) r)) hp
    | _ => cases ef
  | tup n1 h1 l1 => cases ry with
    | tup n2 h2 l2 =>
      obtain ⟨h, rfl⟩ := if_ok ef
      refine .inr (.inr (.inl ⟨_, _, _, _, rfl, rfl, .inl (.inl h1), .inl (.inl h2), ?_, fun e => ?_, fun _ e => ?_, fun _ _ p hp => ?_⟩))
      · rw [l1.len, l2.len]; exact lenOk_of h
      · subst e
        cases l1
        exact q _ H S Ke.refl (.tup n2 h2 l2)
      · subst e
        cases l2
        rename_i xs
        exact q _ H S Ke.refl (by rw [List.append_nil]; exact .tup n1 h1 l1)
      · exact new_tup S (l1.app l2) q hp
    | _ => cases ef
  | _ => cases ef
theorem pd_add (ha : PD .s X Wx a ma) (hb : PD .s X Wx b mb) : PD .s X Wx (.BinOp a .Add b pos) (e2 dAdd ma mb) := pd_e2s o_add ha hb fun p q => pe_op op_addA p q
/-- a sum of lists is a new list -/
def dAddL : D → D → Rv D
  | .lst a, .lst b => if lenOk (a.length + b.length) then .ok (.lst (a ++ b)) else .bad
  | _, _ => .bad
theorem o_addL : Op2s .f X.K (rAddA X.K) dAddL := by
  intro F O env σ H x y dx dy dz Q S rx ry ef q
  unfold dAddL at ef
  cases rx with
  | lst n1 h1 l1 => cases ry with
    | lst n2 h2 l2 =>
      obtain ⟨h, rfl⟩ := if_ok ef
      refine .inr (.inl ⟨_, _, _, _, rfl, rfl, h1, h2, ?_, fun p hp => ?_⟩)
      · rw [l1.len, l2.len]; exact lenOk_of h
      · exact new_lst S (l1.app l2) q hp
    | _ => cases ef
  | _ => cases ef
theorem pd_addL (ha : PD .s X Wx a ma) (hb : PD .s X Wx b mb) : PD .f X Wx (.BinOp a .Add b pos) (e2 dAddL ma mb) := pd_e2s o_addL ha hb fun p q => pe_op op_addA p q
theorem o_sub : Op2s .s X.K (rI0 fun i j => .int (i - j)) dSub := by
  intro F O env σ H x y dx dy dz Q S rx ry ef q
  unfold dSub at ef
  cases rx with
  | int i => cases ry with
    | int j => cases ef; exact ⟨i, j, rfl, rfl, q _ H S Ke.refl (.int _)⟩
    | _ => cases ef
  | _ => cases ef
theorem pd_sub (ha : PD .s X Wx a ma) (hb : PD .s X Wx b mb) : PD .s X Wx (.BinOp a .Sub b pos) (e2 dSub ma mb) := pd_e2s o_sub ha hb fun p q => pe_op op_sub p q
theorem tuple_mul1 (l : Addr) (items : Array Value) (n : Nat) (dd : Option Addr) (sl : Array (Option Value)) (u : Tok) :
    Meets (Builtin.«tuple.__mul__» ⟨[.ref l, .int 1 u], []⟩) (fun _ R s => s.heap.get? l = some { cls := .type "tuple", dict := dd, data := .seq items n, slots := sl } ∧ R (.ok (.ret (Value.ref l))) s) :=
  .of_wp fun prog w A R s h => by
    obtain ⟨hp, g, d, tk, os⟩ := s
    obtain ⟨hl, h⟩ := h
    have f1 := AutoSeq1.idx_int
    wp_walk using wpAny_loadPart' hl
    have c0 : (decide ((1 : Int) < -(2 ^ 63)) || decide ((1 : Int) ≥ 2 ^ 63)) = false := by decide
    have c1 : (items.isEmpty || (1 : Int) == 1) = true := by simp
    repeat (first
      | (refine wpAny_ite_false (decide_eq_false (by rw [c0]; exact Bool.false_ne_true)) ?_; wp_walk using wpAny_loadPart' hl)
      | (refine wpAny_ite_true (decide_eq_true (by rw [c1])) ?_; wp_walk using wpAny_loadPart' hl))
    exact ⟨_, rfl, h⟩
def rRepT1 (K : PySem.W.Frag) : R2 := fun x y H Q => ∃ l xs, x = .ref l ∧ y = .int 1 ∧ SqT K H l xs ∧ Q (.ref l) H
theorem op_repT1 : OpR X (binaryOp .Mult) (rRepT1 X.K) := by
  intro pins s σ H x y v u Q I rx ry h
  obtain ⟨l, xs, rfl, rfl, hT, q⟩ := h
  cases rx
  obtain ⟨t, rfl⟩ := ry
  obtain ⟨its, r, ⟨⟨cls, dd, data, sl⟩, ho, hc, n, hd⟩, hs⟩ := I.tuple hT
  simp only at hc hd
  subst hc hd
  refine wpAny_binaryOp_repeat_ref (T := "tuple") (U := "int") (by decide) ⟨_, ho, rfl⟩ (fun s' => typeIs_int s' 1 t) noFill_tuple_mul F.fills_int_mul F.slot_int_rmul repeat_tuple F.slot_int_index.lookup
    (call_meets F.slot_int_rmul (typeIs_int s 1 t) F.entry_int_rmul (F.args_int_rmul_2 _ _) (int_rmul_tuple 1 t l its.toArray n dd sl)
      ⟨ho, rfl, ⟨_, ho, rfl⟩, call_meets F.slot_tuple_mul ⟨_, ho, rfl⟩ F.entry_tuple_mul (F.args_tuple_mul_2 _ _) (tuple_mul1 l its.toArray n dd sl t) ⟨ho, ?_⟩⟩)
  exact ⟨.ref l, H, I, rfl, q⟩
def CMulX (i j : Int) : Prop := CMulW i j ∨ CMul i j
theorem op_mulX : OpR X (binaryOp .Mult) (rI CMulX fun i j => .int (i * j)) := opI fun _ _ _ _ _ _ _ hc q => mul_int q (hc.elim CMulW.ok CMul.ok)
theorem mulOk_of {i j : Int} (h : mulOk i j = true) : CMulX i j := by
  unfold mulOk at h
  rw [Bool.or_eq_true, Bool.or_eq_true] at h
  rcases h with h | h | h
  · exact .inl (of_decide_eq_true h : i.natAbs.log2 + j.natAbs.log2 < 1000000)
  · have := of_decide_eq_true h; exact .inr (.inl (by omega))
  · have := of_decide_eq_true h; exact .inr (.inr (by omega))
def rMulA (K : PySem.W.Frag) : R2 := fun x y H Q => rI CMulX (fun i j => .int (i * j)) x y H Q ∨ rRep x y H Q ∨ rRepT K x y H Q ∨ rRepT1 K x y H Q
theorem op_mulA : OpR X (binaryOp .Mult) (rMulA X.K)   := op_mulX.or (op_rep.or (op_repT.or op_repT1))
theorem o_mul : Op2s .s X.K (rMulA X.K) dMul := by
  intro F O env σ H x y dx dy dz Q S rx ry ef q
  unfold dMul at ef
  cases rx with
  | int i => cases ry with
    | int j => obtain ⟨h, rfl⟩ := if_ok ef; exact .inl ⟨i, j, rfl, rfl, mulOk_of h, q _ H S Ke.refl (.int _)⟩
    | _ => cases ef
  | lst n1 h1 l1 => cases ry with
    | int k =>
      obtain ⟨h, rfl⟩ := if_ok ef
      obtain ⟨h2, h3⟩ := Bool.and_eq_true_iff.mp h
      have h4 : k.natAbs ≤ 100000 := of_decide_eq_true h2
      refine .inr (.inl ⟨_, k, _, rfl, rfl, h1, by omega, by omega, ?_, fun p hp => ?_⟩)
      · rw [l1.len]; exact lenOk_of h3
      · exact new_lst S (l1.rep k.toNat) (fun z H' S' k r => q z H' S' k (Po.s_of_f (K := X.K) (fun p hp => S.noW hp) r)) hp
    | _ => cases ef
  | tup n1 h1 l1 => cases ry with
    | int k =>
      obtain ⟨h, rfl⟩ := if_ok ef
      obtain ⟨h2, h3⟩ := Bool.and_eq_true_iff.mp h
      obtain ⟨h4, h5⟩ := Bool.and_eq_true_iff.mp h2
      have h6 : 1 ≤ k := of_decide_eq_true h4
      have h7 : k ≤ 1000 := of_decide_eq_true h5
      rename_i a vs xs
      have h8 : 0 < xs.length ∧ xs.length ≤ 1000 := by
        obtain ⟨z1, z2⟩ := Bool.and_eq_true_iff.mp h3
        exact ⟨of_decide_eq_true z1, of_decide_eq_true z2⟩
      by_cases hk : k = 1
      · subst hk
        refine .inr (.inr (.inr ⟨_, _, rfl, rfl, .inl (.inl h1), q _ H S Ke.refl ?_⟩))
        have e : rep xs 1 = xs := by unfold rep; simp
        rw [e]
        exact .tup n1 h1 l1
      · refine .inr (.inr (.inl ⟨_, k, _, rfl, rfl, .inl (.inl h1), ?_, by omega, h7, ?_, fun p hp => ?_⟩))
        · intro z
          have := l1.len
          rw [z] at this
          simp at this
          omega
        · rw [l1.len]; exact h8.2
        · exact new_tup S (l1.rep k.toNat) q hp
    | _ => cases ef
  | _ => cases ef
theorem pd_mul (ha : PD .s X Wx a ma) (hb : PD .s X Wx b mb) : PD .s X Wx (.BinOp a .Mult b pos) (e2 dMul ma mb) := pd_e2s o_mul ha hb fun p q => pe_op op_mulA p q
theorem o_int {C : Int → Int → Prop} {g : Int → Int → Int} {f : D → D → Rv D} (h : ∀ dx dy dz, f dx dy = .ok dz → ∃ i j, dx = .int i ∧ dy = .int j ∧ C i j ∧ dz = .int (g i j)) : Op2s .s X.K (rI C fun i j => .int (g i j)) f := by
  intro F O env σ H x y dx dy dz Q S rx ry ef q
  obtain ⟨i, j, rfl, rfl, hc, rfl⟩ := h dx dy dz ef
  cases rx
  cases ry
  exact ⟨i, j, rfl, rfl, hc, q _ H S Ke.refl (.int _)⟩
theorem o_div : Op2s .s X.K (rI CDivW fun i j => .int (i / j)) dDiv := o_int fun dx dy dz h => by
  unfold dDiv at h
  split at h
  · rename_i i j
    obtain ⟨h1, rfl⟩ := if_ok h
    obtain ⟨h2, h3⟩ := Bool.and_eq_true_iff.mp h1
    exact ⟨i, j, rfl, rfl, ⟨of_decide_eq_true h2, of_decide_eq_true h3⟩, rfl⟩
  · cases h
theorem pd_div (ha : PD .s X Wx a ma) (hb : PD .s X Wx b mb) : PD .s X Wx (.BinOp a .FloorDiv b pos) (e2 dDiv ma mb) := pd_e2s o_div ha hb fun p q => pe_op op_fdivW p q
theorem o_mod : Op2s .s X.K (rI (fun _ j => 0 < j) fun i j => .int (i % j)) dMod := o_int fun dx dy dz h => by
  unfold dMod at h
  split at h
  · rename_i i j
    obtain ⟨h1, rfl⟩ := if_ok h
    exact ⟨i, j, rfl, rfl, of_decide_eq_true h1, rfl⟩
  · cases h
theorem pd_mod (ha : PD .s X Wx a ma) (hb : PD .s X Wx b mb) : PD .s X Wx (.BinOp a .Mod b pos) (e2 dMod ma mb) := pd_e2s o_mod ha hb fun p q => pe_op op_mod p q
theorem o_pow : Op2s .s X.K (rI CPow fun i j => .int (i ^ j.toNat)) dPow := o_int fun dx dy dz h => by
  unfold dPow at h
  split at h
  · rename_i i j
    obtain ⟨h1, rfl⟩ := if_ok h
    obtain ⟨h2, h3⟩ := Bool.and_eq_true_iff.mp h1
    obtain ⟨h4, h5⟩ := Bool.and_eq_true_iff.mp h2
    exact ⟨i, j, rfl, rfl, ⟨of_decide_eq_true h4, of_decide_eq_true h5, of_decide_eq_true h3⟩, rfl⟩
  · cases h
theorem pd_pow (ha : PD .s X Wx a ma) (hb : PD .s X Wx b mb) : PD .s X Wx (.BinOp a .Pow b pos) (e2 dPow ma mb) := pd_e2s o_pow ha hb fun p q => pe_op op_pow p q
theorem o_neg : Op1 .s X.K (rU fun i => .int (-i)) dNeg := by
  intro F O env σ H x dx dz Q S rx ef q
  unfold dNeg at ef
  split at ef
  · rename_i i
    cases ef
    exact ⟨i, rx.int', q _ H S Ke.refl (.int _)⟩
  · cases ef
theorem pd_neg (ha : PD .s X Wx a ma) : PD .s X Wx (.UnaryOp .USub a pos) (e1 dNeg ma) := pd_e1 o_neg ha.weak fun p => pe_un un_neg p
end
end AH
namespace AH
open PySem PySem.Spec PyProof.Rows L2
variable [TheK]
/-! ### data as the library's -/
mutual
def D.toP : D → PyData
  | .non => .none
  | .bl b => .bool b
  | .int i => .int i
  | .str s => .str s
  | .tup xs => .tuple (D.toPs xs)
  | .lst xs => .list (D.toPs xs)
  | _ => .none
def D.toPs : List D → List PyData
  | [] => []
  | x :: xs => D.toP x :: D.toPs xs
end
mutual
theorem D.eqv_toP : ∀ {n m : Nat} {x y : D}, x.plain n = true → y.plain m = true → PyData.eqv x.toP y.toP = x.eqv y
  | n, m, .non, y, h, h' => by cases y <;> first | rfl | (cases m <;> cases h')
  | n, m, .bl _, y, h, h' => by cases y <;> first | rfl | (cases m <;> cases h')
  | n, m, .int _, y, h, h' => by cases y <;> first | rfl | (cases m <;> cases h')
  | n, m, .str _, y, h, h' => by cases y <;> first | rfl | (cases m <;> cases h')
  | 0, m, .tup xs, y, h, h' => by cases h
  | 0, m, .lst xs, y, h, h' => by cases h
  | n + 1, 0, .tup xs, y, h, h' => by cases y <;> first | rfl | cases h'
  | n + 1, 0, .lst xs, y, h, h' => by cases y <;> first | rfl | cases h'
  | n + 1, m + 1, .tup xs, y, h, h' => by
    cases y with
    | tup ys => exact D.eqvL_toP (n := n) (m := m) (xs := xs) (ys := ys) h h'
    | _ => first | rfl | cases h'
  | n + 1, m + 1, .lst xs, y, h, h' => by
    cases y with
    | lst ys => exact D.eqvL_toP (n := n) (m := m) (xs := xs) (ys := ys) h h'
    | _ => first | rfl | cases h'
  | n, m, .dic _, y, h, h' => by cases n <;> cases h
  | n, m, .exc _ _ _, y, h, h' => by cases n <;> cases h
  | n, m, .obj _, y, h, h' => by cases n <;> cases h
theorem D.eqvL_toP : ∀ {n m : Nat} {xs ys : List D}, D.plainL n xs = true → D.plainL m ys = true → PyData.eqvAll (D.toPs xs) (D.toPs ys) = D.eqvL xs ys
  | n, m, [], [], h, h' => rfl
  | n, m, [], y :: ys, h, h' => rfl
  | n, m, x :: xs, [], h, h' => rfl
  | n, m, x :: xs, y :: ys, h, h' => by
    have h1 : x.plain n = true ∧ D.plainL n xs = true := Bool.and_eq_true_iff.mp h
    have h2 : y.plain m = true ∧ D.plainL m ys = true := Bool.and_eq_true_iff.mp h'
    show (PyData.eqv x.toP y.toP && PyData.eqvAll (D.toPs xs) (D.toPs ys)) = (D.eqv x y && D.eqvL xs ys)
    rw [D.eqv_toP h1.1 h2.1, D.eqvL_toP h1.2 h2.2]
end
mutual
theorem D.can_toP : ∀ {n : Nat} {x : D}, x.plain n = true → x.toP.canLay0 = true ∧ x.toP.depth ≤ n
  | n, .non, h => ⟨rfl, Nat.zero_le _⟩
  | n, .bl _, h => ⟨rfl, Nat.zero_le _⟩
  | n, .int _, h => ⟨rfl, Nat.zero_le _⟩
  | n, .str s, h => ⟨by cases n <;> exact h, Nat.zero_le _⟩
  | 0, .tup xs, h => by cases h
  | 0, .lst xs, h => by cases h
  | n + 1, .tup xs, h => let ⟨a, b⟩ := D.canL_toP (n := n) (xs := xs) h; ⟨a, Nat.succ_le_succ b⟩
  | n + 1, .lst xs, h => let ⟨a, b⟩ := D.canL_toP (n := n) (xs := xs) h; ⟨a, Nat.succ_le_succ b⟩
  | n, .dic _, h => by cases n <;> cases h
  | n, .exc _ _ _, h => by cases n <;> cases h
  | n, .obj _, h => by cases n <;> cases h
  | n, .ktp _, h => by cases n <;> cases h
theorem D.canL_toP : ∀ {n : Nat} {xs : List D}, D.plainL n xs = true → PyData.canLayAll0 (D.toPs xs) = true ∧ PyData.depthAll (D.toPs xs) ≤ n
  | n, [], h => ⟨rfl, Nat.zero_le _⟩
  | n, x :: xs, h => by
    have h1 : x.plain n = true ∧ D.plainL n xs = true := Bool.and_eq_true_iff.mp h
    obtain ⟨a, b⟩ := D.can_toP h1.1
    obtain ⟨c, d⟩ := D.canL_toP h1.2
    exact ⟨Bool.and_eq_true_iff.mpr ⟨a, c⟩, Nat.max_le.mpr ⟨b, d⟩⟩
end
theorem D.shaped {x : D} (h : x.plain 40 = true) : SeqAt.shaped x.toP = true := by
  obtain ⟨a, b⟩ := D.can_toP h
  unfold SeqAt.shaped
  rw [a]
  exact decide_eq_true (Nat.le_trans b (by decide))
mutual
theorem Rep.dp {K : PySem.W.Frag} {W : Pr} {H : Hp} : ∀ {n : Nat} {v : V} {x : D}, Rep W H v x → x.plain n = true → Dp K H v x.toP
  | n, _, _, .non, _ => .non
  | n, _, _, .bl b, _ => .bl b
  | n, _, _, .int b, _ => .int b
  | n, _, _, .str b, _ => .str b
  | n + 1, _, _, .tup _ h l, p => .tup (.inl (.inl h)) (RepL.dp (n := n) l p)
  | n + 1, _, _, .lst _ h l, p => .lst (.inl (.inl h)) (RepL.dp (n := n) l p)
  | 0, _, _, .tup _ h l, p => nomatch p
  | 0, _, _, .lst _ h l, p => nomatch p
  | 0, _, _, .dic _ h l, p => nomatch p
  | n + 1, _, _, .dic _ h l, p => nomatch p
  | 0, _, _, .ktp _ h _ l, p => nomatch p
  | n + 1, _, _, .ktp _ h _ l, p => nomatch p
theorem RepL.dp {K : PySem.W.Frag} {W : Pr} {H : Hp} : ∀ {n : Nat} {v : List V} {x : List D}, RepL W H v x → D.plainL n x = true → DpAll K H v (D.toPs x)
  | n, _, _, .nil, _ => .nil
  | n, _, _, .cons r l, p => .cons (Rep.dp r (Bool.and_eq_true_iff.mp p).1) (RepL.dp l (Bool.and_eq_true_iff.mp p).2)
end
theorem RepW.dp {K : PySem.W.Frag} {W : Pr} {H : Hp} {n : Nat} {v : V} {x : D} (r : RepW K W H v x) (p : x.plain n = true) : Dp K H v x.toP := by
  cases r with
  | of r => exact r.dp p
  | tup s l => cases n with
    | zero => cases p
    | succ n => exact .tup s (RepL.dp (n := n) l p)
  | lst s l => cases n with
    | zero => cases p
    | succ n => exact .lst s (RepL.dp (n := n) l p)
  | dic s l => cases n <;> cases p
theorem toPs_any (d : D) (n m : Nat) (hd : d.plain n = true) : ∀ ys : List D, D.plainL m ys = true → ((D.toPs ys).any fun z => PyData.eqv z d.toP) = ys.any fun y => y.eqv d
  | [], _ => rfl
  | y :: ys, h => by
    have h1 : y.plain m = true ∧ D.plainL m ys = true := Bool.and_eq_true_iff.mp h
    show (PyData.eqv y.toP d.toP || (D.toPs ys).any fun z => PyData.eqv z d.toP) = (y.eqv d || ys.any fun y => y.eqv d)
    rw [D.eqv_toP h1.1 hd, toPs_any d n m hd ys h1.2]
section
variable {X : Cx} {Wx : WX} {e a b c d : Expr} {ma mb mc md : DE} {pos : Pos}
/-! ### comparisons -/
def Oc (K : PySem.W.Frag) (r : R2) (f : D → D → Rv Bool) : Prop := ∀ (W : Pr) (H : Hp) (x y : V) (dx dy : D) (b : Bool) (Q : VK),
  RepW K W H x dx → RepW K W H y dy → f dx dy = .ok b → Q (.bl b) H → r x y H Q
theorem oc_eq : Oc X.K (rEqD X.K) dEq := by
  intro W H x y dx dy b Q rx ry ef q
  unfold dEq at ef
  obtain ⟨h, rfl⟩ := if_ok ef
  obtain ⟨h1, h2⟩ := Bool.and_eq_true_iff.mp h
  exact ⟨_, _, rx.dp h1, ry.dp h2, D.shaped h1, D.shaped h2, by rw [D.eqv_toP h1 h2]; exact q⟩
theorem oc_ne : Oc X.K (rNeD X.K) dNe := by
  intro W H x y dx dy b Q rx ry ef q
  unfold dNe at ef
  obtain ⟨h, rfl⟩ := if_ok ef
  obtain ⟨h1, h2⟩ := Bool.and_eq_true_iff.mp h
  exact ⟨_, _, rx.dp h1, ry.dp h2, D.shaped h1, D.shaped h2, by rw [D.eqv_toP h1 h2]; exact q⟩
def rLtA (K : PySem.W.Frag) : R2 := fun x y H Q => rI0 (fun i j => .bl (decide (i < j))) x y H Q ∨ rLtT K x y H Q
theorem op_ltA (hu : X.A.units + 65 < cLine) : OpR X (compareOp .Lt) (rLtA X.K) := op_lt.or (op_ltT (by omega))
theorem oc_lt : Oc X.K (rLtA X.K) dLt := by
  intro W H x y dx dy b Q rx ry ef q
  unfold dLt at ef
  split at ef
  · cases ef; exact .inl ⟨_, _, rx.int', ry.int', q⟩
  · rename_i as bs
    obtain ⟨a1, vs1, rfl, s1, l1⟩ := rx.tup'
    obtain ⟨a2, vs2, rfl, s2, l2⟩ := ry.tup'
    split at ef
    · rename_i ns ms h1 h2
      cases ef
      refine .inr ⟨a1, a2, ns, ms, rfl, rfl, ?_, ?_, q⟩
      · rw [← l1.ints h1]; exact s1
      · rw [← l2.ints h2]; exact s2
    · cases ef
  · cases ef
theorem oc_int {p : Int → Int → Bool} {f : D → D → Rv Bool} (h : ∀ dx dy b, f dx dy = .ok b → ∃ i j, dx = .int i ∧ dy = .int j ∧ b = p i j) : Oc X.K (rI0 fun i j => .bl (p i j)) f := by
  intro W H x y dx dy b Q rx ry ef q
  obtain ⟨i, j, rfl, rfl, rfl⟩ := h dx dy b ef
  exact ⟨i, j, rx.int', ry.int', q⟩
theorem lexAt_shift {e r : Nat → Bool} {z : Bool} : ∀ n i : Nat, Ob.lexAt e r z (i + 1) n = Ob.lexAt (fun j => e (j + 1)) (fun j => r (j + 1)) z i n
  | 0, _ => rfl
  | n + 1, i => by rw [Ob.lexAt_succ, Ob.lexAt_succ, lexAt_shift n (i + 1)]
theorem lexAt_le : ∀ ns ms : List Int, Ob.lexAt (fun j => decide (ns.getD j 0 = ms.getD j 0)) (fun j => decide (ns.getD j 0 ≤ ms.getD j 0)) (decide (ns.length ≤ ms.length)) 0 (min ns.length ms.length) = lexLeI ns ms
  | [], ms => by rw [show min ([] : List Int).length ms.length = 0 from Nat.zero_min _]; exact decide_eq_true (Nat.zero_le _)
  | x :: xs, [] => by rfl
  | x :: xs, y :: ys => by
    rw [show min (x :: xs).length (y :: ys).length = min xs.length ys.length + 1 by simp, Ob.lexAt_succ, lexAt_shift]
    have ih := lexAt_le xs ys
    unfold lexLeI
    have e1 : decide ((x :: xs).length ≤ (y :: ys).length) = decide (xs.length ≤ ys.length) := by simp
    rw [e1]
    by_cases h : x = y
    · rw [if_pos h, if_pos (by simpa using h)]; exact ih
    · rw [if_neg h, if_neg (by simpa using h)]; rfl
def rLeA (K : PySem.W.Frag) : R2 := fun x y H Q => rI0 (fun i j => .bl (decide (i ≤ j))) x y H Q ∨ rLeT K x y H Q
theorem op_leA (hu : X.A.units + 65 < cLine) : OpR X (compareOp .LtE) (rLeA X.K) := op_le.or (op_leT (by omega))
theorem oc_le : Oc X.K (rLeA X.K) dLe := by
  intro W H x y dx dy b Q rx ry ef q
  unfold dLe at ef
  split at ef
  · cases ef; exact .inl ⟨_, _, rx.int', ry.int', q⟩
  · rename_i as bs
    obtain ⟨a1, vs1, rfl, s1, l1⟩ := rx.tup'
    obtain ⟨a2, vs2, rfl, s2, l2⟩ := ry.tup'
    split at ef
    · rename_i ns ms h1 h2
      cases ef
      refine .inr ⟨a1, a2, ns, ms, rfl, rfl, ?_, ?_, ?_⟩
      · rw [← l1.ints h1]; exact s1
      · rw [← l2.ints h2]; exact s2
      · rw [lexAt_le]; exact q
    · cases ef
  · cases ef
theorem oc_gt : Oc X.K (rI0 fun i j => .bl (decide (j < i))) dGt := oc_int fun dx dy b h => by
  unfold dGt at h
  split at h
  · cases h; exact ⟨_, _, rfl, rfl, rfl⟩
  · cases h
theorem oc_ge : Oc X.K (rI0 fun i j => .bl (decide (j ≤ i))) dGe := oc_int fun dx dy b h => by
  unfold dGe at h
  split at h
  · cases h; exact ⟨_, _, rfl, rfl, rfl⟩
  · cases h
/-- a comparison's rule and its word -/
structure CmpK (X : Cx) (op : CmpOp) (f : D → D → Rv Bool) : Prop where
  ok : ∃ r : R2, OpR X (compareOp op) r ∧ Oc X.K r f
theorem ck_eq (hu : X.A.units + 65 < cLine) : CmpK X .Eq dEq := ⟨_, op_eqD (by omega), oc_eq⟩
theorem ck_ne (hu : X.A.units + 65 < cLine) : CmpK X .NotEq dNe := ⟨_, op_neD (by omega), oc_ne⟩
theorem ck_lt (hu : X.A.units + 65 < cLine) : CmpK X .Lt dLt := ⟨_, op_ltA hu, oc_lt⟩
theorem ck_le (hu : X.A.units + 65 < cLine) : CmpK X .LtE dLe := ⟨_, op_leA hu, oc_le⟩
theorem ck_gt : CmpK X .Gt dGt := ⟨_, op_gt, oc_gt⟩
theorem ck_ge : CmpK X .GtE dGe := ⟨_, op_ge, oc_ge⟩
theorem pd_cmp {op : CmpOp} {f : D → D → Rv Bool} (ck : CmpK X op f) (ha : PD .s X Wx a ma) (hb : PD .w X Wx b mb) (hm : behindInMarks op b = false) : PD .s X Wx (.Compare a [op] [b] pos) (eB (c2 f ma mb)) := by
  obtain ⟨⟨r, ho, oc⟩⟩ := ck
  obtain ⟨ta, pa, qa⟩ := ha
  obtain ⟨tb, pb, qb⟩ := hb
  refine ⟨_, pe_cmpR ho pa pb hm, fun F O env σ H Q S w => ?_⟩
  have w := w.bind
  refine qa F O env σ H _ S (w.bind.imp (fun dx e1 w1 x H1 S1 k1 p1 => ?_) fun _ _ _ z => z)
  refine qb F O e1 σ H1 _ S1 (w1.bind.imp (fun dy e2 w2 y H2 S2 k2 p2 => ?_) (XW.later k1))
  obtain ⟨dz, ef, q⟩ := w2.of
  exact oc _ H2 x y dx dy dz Q (.of (Rep.mj k2 p1)) p2 ef (q _ H2 S2 (k1.trans k2) (.bl _))
theorem td_cmp {op : CmpOp} {f : D → D → Rv Bool} (ck : CmpK X op f) (ha : PD .s X Wx a ma) (hb : PD .w X Wx b mb) (hm : behindInMarks op b = false) : TD X Wx (.Compare a [op] [b] pos) (c2 f ma mb) := by
  obtain ⟨⟨r, ho, oc⟩⟩ := ck
  obtain ⟨ta, pa, qa⟩ := ha
  obtain ⟨tb, pb, qb⟩ := hb
  refine ⟨_, pt_cmpR ho pa pb hm, fun F O env σ H Q S w => ?_⟩
  refine qa F O env σ H _ S (w.bind.imp (fun dx e1 w1 x H1 S1 k1 p1 => ?_) fun _ _ _ z => z)
  refine qb F O e1 σ H1 _ S1 (w1.bind.imp (fun dy e2 w2 y H2 S2 k2 p2 => ?_) (XW.later k1))
  obtain ⟨dz, ef, q⟩ := w2.of
  exact oc _ H2 x y dx dy dz _ (.of (Rep.mj k2 p1)) p2 ef ⟨dz, rfl, q H2 S2 (k1.trans k2)⟩
/-- is None -/
theorem isN_dec {K : PySem.W.Frag} {W : Pr} {H : Hp} {v : V} {d : D} (r : RepW K W H v d) : decide (v = .non) = dIsN d := by
  cases r with
  | of r => cases r <;> first | rfl | exact decide_eq_false (fun z => nomatch z)
  | _ => exact decide_eq_false (fun z => nomatch z)
theorem pd_isN {j : Nat} {p : Pos} (ha : PD .w X Wx a ma) : PD .s X Wx (.Compare a [.Is] [.Constant .none j p] pos) (eB (tIsN ma)) := by
  obtain ⟨ta, pa, qa⟩ := ha
  refine ⟨_, pe_cmp (pc_isN pa), fun F O env σ H Q S w => ?_⟩
  refine qa F O env σ H _ S (w.bind.bind.imp (fun dx e1 w1 x H1 S1 k1 p1 => ?_) fun _ _ _ z => z)
  rw [isN_dec p1]
  exact w1 _ H1 S1 k1 (.bl _)
theorem td_isN {j : Nat} {p : Pos} (ha : PD .w X Wx a ma) : TD X Wx (.Compare a [.Is] [.Constant .none j p] pos) (tIsN ma) := by
  obtain ⟨ta, pa, qa⟩ := ha
  refine ⟨_, pt_cmp (pc_isN pa), fun F O env σ H Q S w => ?_⟩
  refine qa F O env σ H _ S (w.bind.imp (fun dx e1 w1 x H1 S1 k1 p1 => ?_) fun _ _ _ z => z)
  rw [isN_dec p1]
  exact ⟨_, rfl, w1 H1 S1 k1⟩
/-! ### chains -/
theorem td_chain {op op' : CmpOp} {f g : D → D → Rv Bool} (ck : CmpK X op f) (ck' : CmpK X op' g) (ha : PD .s X Wx a ma) (hb : PD .s X Wx b mb) (hc : PD .w X Wx c mc)
    (hm : lastMarks [op, op'] [b, c] = false := by with_unfolding_all rfl) : TD X Wx (.Compare a [op, op'] [b, c] pos) (c3 f g ma mb mc) := by
  obtain ⟨⟨r, ho, oc⟩⟩ := ck
  obtain ⟨⟨r', ho', oc'⟩⟩ := ck'
  obtain ⟨ta, pa, qa⟩ := ha
  obtain ⟨tb, pb, qb⟩ := hb
  obtain ⟨tc, pc, qc⟩ := hc
  refine ⟨_, pt_chain ho ho' pa pb pc hm, fun F O env σ H Q S w => ?_⟩
  refine qa F O env σ H _ S (w.bind.imp (fun dx e1 w1 x H1 S1 k1 p1 => ?_) fun _ _ _ z => z)
  refine qb F O e1 σ H1 _ S1 (w1.bind.imp (fun dy e2 w2 y H2 S2 k2 p2 => ?_) (XW.later k1))
  obtain ⟨k, ef, w3⟩ := w2.bind.of
  refine oc _ H2 x y dx dy k _ (.of (Rep.mj k2 p1)) (.of p2) ef ⟨k, rfl, ?_⟩
  cases k with
  | false => exact ⟨false, rfl, w3 H2 S2 (k1.trans k2)⟩
  | true =>
    refine qc F O e2 σ H2 _ S2 (w3.bind.imp (fun dz e3 w4 z H3 S3 k3 p3 => ?_) (XW.later (k1.trans k2)))
    obtain ⟨l, eg, q⟩ := w4.of
    exact oc' _ H3 y z dy dz l _ (.of (Rep.mj k3 p2)) p3 eg ⟨l, rfl, q H3 S3 (k1.trans (k2.trans k3))⟩
end
end AH
namespace AH
open PySem PySem.Spec PyProof.Rows L2
variable [TheK]
section
variable {X : Cx} {Wx : WX} {e a b c d : Expr} {ma mb mc md : DE} {pos : Pos}
/-! ### a < b < c < d -/
/-! ### in -/
def rInT (K : PySem.W.Frag) : R2 := fun x y H Q => ∃ d ds, Dp K H x d ∧ Dp K H y (.tuple ds) ∧ SeqAt.shaped d = true ∧ SeqAt.shaped (.tuple ds) = true ∧ Q (.bl (ds.any fun z => PyData.eqv z d)) H
def rNotInT (K : PySem.W.Frag) : R2 := fun x y H Q => ∃ d ds, Dp K H x d ∧ Dp K H y (.tuple ds) ∧ SeqAt.shaped d = true ∧ SeqAt.shaped (.tuple ds) = true ∧ Q (.bl (!ds.any fun z => PyData.eqv z d)) H
theorem op_inT (hu : X.A.units + 65 < cLine) : OpR X (compareOp .In) (rInT X.K) := by
  intro pins s σ H x y v u Q I rx ry h
  obtain ⟨d, ds, hd, he, sd, se, q⟩ := h
  obtain ⟨as, r1⟩ := Dp.reads I d x v hd rx
  obtain ⟨bs, r2⟩ := Dp.reads I (.tuple ds) y u he ry
  exact SeqAt.in_tuple_reads r2 r1 (SeqAt.canLay_of_shaped se) (SeqAt.canLay_of_shaped sd) (room_in_shaped sd hu) ⟨.bl _, H, I, rfl, q⟩
theorem op_notInT (hu : X.A.units + 65 < cLine) : OpR X (compareOp .NotIn) (rNotInT X.K) := by
  intro pins s σ H x y v u Q I rx ry h
  obtain ⟨d, ds, hd, he, sd, se, q⟩ := h
  obtain ⟨as, r1⟩ := Dp.reads I d x v hd rx
  obtain ⟨bs, r2⟩ := Dp.reads I (.tuple ds) y u he ry
  exact SeqAt.notIn_tuple_reads r2 r1 (SeqAt.canLay_of_shaped se) (SeqAt.canLay_of_shaped sd) (room_in_shaped sd hu) ⟨.bl _, H, I, rfl, q⟩
def rInK : R2 := fun y x H Q => ∃ a o, x = .ref a ∧ DGet H a y o ∧ Q (.bl o.isSome) H
def rNotInK : R2 := fun y x H Q => ∃ a o, x = .ref a ∧ DGet H a y o ∧ Q (.bl (!o.isSome)) H
theorem op_inK (hu : X.A.units + 65 < cLine) : OpR X (compareOp .In) rInK := by
  intro pins s σ H x y v u Q I rx ry h
  obtain ⟨a, o, rfl, g, q⟩ := h
  cases ry
  exact d_in (by omega) I g rx fun s3 I3 => ⟨.bl o.isSome, H, I3, rfl, q⟩
theorem op_notInK (hu : X.A.units + 65 < cLine) : OpR X (compareOp .NotIn) rNotInK := by
  intro pins s σ H x y v u Q I rx ry h
  obtain ⟨a, o, rfl, g, q⟩ := h
  cases ry
  exact d_notIn (by omega) I g rx fun s3 I3 => ⟨.bl (!o.isSome), H, I3, rfl, q⟩
theorem keyI_rep {K : PySem.W.Frag} {W : Pr} {H : Hp} {v : V} {d : D} {k : Key} (r : Rep W H v d) (h : keyI d = some k) : v = kV k := by
  cases r <;> first | (cases h; rfl) | cases h
theorem keysL_rep {W : Pr} {H : Hp} : ∀ {vs : List V} {ds : List D} {ks : List Key}, RepL W H vs ds → keysL ds = some ks → vs = ks.map kV
  | _, _, _, .nil, h => by cases h; rfl
  | _, _, ks, .cons (d := d) (ds := ds) r l, h => by
    unfold keysL at h
    cases h1 : keyI d with
    | none => rw [h1] at h; cases h
    | some k =>
      cases h2 : keysL ds with
      | none => rw [h1, h2] at h; cases h
      | some ks' =>
        rw [h1, h2] at h
        cases h
        rw [List.map_cons, keysL_rep l h2, keyI_rep (K := []) r h1]
theorem keyD_rep {W : Pr} {H : Hp} {v : V} {d : D} {k : List Key} (r : Rep W H v d) (h : keyD d = some k) : ∃ b, v = .ref b ∧ H b = some (.tup (k.map kV)) := by
  cases r with
  | tup n h1 l => exact ⟨_, rfl, by rw [← keysL_rep l h]; exact h1⟩
  | _ => cases h
theorem RepK.val {W : Pr} {H : Hp} (k : List Key) : ∀ {ks : List (List Key × V)} {kvs : List (List Key × D)}, RepK W H ks kvs → (valV ks k = none ∧ dget kvs k = none) ∨ ∃ v d, valV ks k = some v ∧ dget kvs k = some d ∧ Rep W H v d
  | _, _, .nil => .inl ⟨rfl, rfl⟩
  | _, _, .cons (k := k') r l => by
    by_cases e : k' = k
    · refine .inr ⟨_, _, valV_pos e, ?_, r⟩
      unfold dget
      simp [List.find?_cons, e]
    · rcases RepK.val k l with ⟨h1, h2⟩ | ⟨v, d, h1, h2, h3⟩
      · refine .inl ⟨by rw [valV_neg e]; exact h1, ?_⟩
        unfold dget at h2 ⊢
        simp [List.find?_cons, e]
        simpa using h2
      · refine .inr ⟨v, d, by rw [valV_neg e]; exact h1, ?_, h3⟩
        unfold dget at h2 ⊢
        simp [List.find?_cons, e]
        simpa using h2
theorem dget_of {W : Pr} {H : Hp} {a b : Addr} {ks : List (List Key × V)} {kvs : List (List Key × D)} {k : List Key} (r : RepK W H ks kvs) (ha : Rd H a (.dT ks)) (hb : H b = some (.tup (k.map kV))) : DGet H a (.ref b) (valV ks k) := .inr ⟨ks, k, b, ha, rfl, hb, rfl⟩
def rInA (K : PySem.W.Frag) : R2 := fun x y H Q => rInD K x y H Q ∨ rInT K x y H Q ∨ rInK x y H Q
def rNotInA (K : PySem.W.Frag) : R2 := fun x y H Q => rNotInD K x y H Q ∨ rNotInT K x y H Q ∨ rNotInK x y H Q
def dNotIn (x y : D) : Rv Bool := match dIn x y with
  | .ok b => .ok (!b)
  | .bad => .bad
/-- what stands at the left stays -/
def Oi (K : PySem.W.Frag) (r : R2) (f : D → D → Rv Bool) : Prop := ∀ (W : Pr) (H : Hp) (x y : V) (dx dy : D) (b : Bool) (Q : VK),
  Rep W H x dx → RepW K W H y dy → f dx dy = .ok b → Q (.bl b) H → r x y H Q
theorem oi_in : Oi X.K (rInA X.K) dIn := by
  intro W H x y dx dy b Q rx ry ef q
  unfold dIn at ef
  split at ef
  · rename_i ys
    obtain ⟨h, rfl⟩ := if_ok ef
    obtain ⟨h1, h2⟩ := Bool.and_eq_true_iff.mp h
    exact .inl ⟨_, _, rx.dp h1, ry.dp (n := 40) h2, D.shaped h1, D.shaped (x := .lst ys) h2, by rw [toPs_any dx 40 39 h1 ys h2]; exact q⟩
  · rename_i ys
    obtain ⟨h, rfl⟩ := if_ok ef
    obtain ⟨h1, h2⟩ := Bool.and_eq_true_iff.mp h
    exact .inr (.inl ⟨_, _, rx.dp h1, ry.dp (n := 40) h2, D.shaped h1, D.shaped (x := .tup ys) h2, by rw [toPs_any dx 40 39 h1 ys h2]; exact q⟩)
  · rename_i kvs
    split at ef
    · rename_i k hk
      cases ef
      obtain ⟨a, ks, rfl, ha, l⟩ := ry.dic'
      obtain ⟨b, rfl, hb⟩ := keyD_rep rx hk
      refine .inr (.inr ⟨a, _, rfl, dget_of l ha hb, ?_⟩)
      rcases l.val k with ⟨h1, h2⟩ | ⟨v, d, h1, h2, _⟩
      · rw [h2] at q; rw [h1]; exact q
      · rw [h2] at q; rw [h1]; exact q
    · cases ef
  · cases ef
theorem oi_notIn : Oi X.K (rNotInA X.K) dNotIn := by
  intro W H x y dx dy b Q rx ry ef q
  unfold dNotIn at ef
  cases h : dIn dx dy with
  | bad => rw [h] at ef; cases ef
  | ok c =>
    rw [h] at ef
    cases ef
    rcases oi_in (X := X) W H x y dx dy c (fun z H' => z = .bl c ∧ H' = H) rx ry h ⟨rfl, rfl⟩ with h | h | h
    · obtain ⟨d, ds, h1, h2, h3, h4, e, _⟩ := h
      exact .inl ⟨d, ds, h1, h2, h3, h4, by cases e; exact q⟩
    · obtain ⟨d, ds, h1, h2, h3, h4, e, _⟩ := h
      exact .inr (.inl ⟨d, ds, h1, h2, h3, h4, by cases e; exact q⟩)
    · obtain ⟨a, o, h1, h2, e, _⟩ := h
      exact .inr (.inr ⟨a, o, h1, h2, by cases e; exact q⟩)
structure InK (X : Cx) (op : CmpOp) (f : D → D → Rv Bool) : Prop where
  ok : ∃ r : R2, OpR X (compareOp op) r ∧ Oi X.K r f
theorem ik_in (hu : X.A.units + 65 < cLine) : InK X .In dIn := ⟨_, (op_inD hu).or ((op_inT hu).or (op_inK hu)), oi_in⟩
theorem ik_notIn (hu : X.A.units + 65 < cLine) : InK X .NotIn dNotIn := ⟨_, (op_notInD hu).or ((op_notInT hu).or (op_notInK hu)), oi_notIn⟩
theorem pd_in {op : CmpOp} {f : D → D → Rv Bool} (ck : InK X op f) (ha : PD .s X Wx a ma) (hb : PD .w X Wx b mb) (hm : behindInMarks op b = false) : PD .s X Wx (.Compare a [op] [b] pos) (eB (c2 f ma mb)) := by
  obtain ⟨⟨r, ho, oc⟩⟩ := ck
  obtain ⟨ta, pa, qa⟩ := ha
  obtain ⟨tb, pb, qb⟩ := hb
  refine ⟨_, pe_cmpR ho pa pb hm, fun F O env σ H Q S w => ?_⟩
  have w := w.bind
  refine qa F O env σ H _ S (w.bind.imp (fun dx e1 w1 x H1 S1 k1 p1 => ?_) fun _ _ _ z => z)
  refine qb F O e1 σ H1 _ S1 (w1.bind.imp (fun dy e2 w2 y H2 S2 k2 p2 => ?_) (XW.later k1))
  obtain ⟨dz, ef, q⟩ := w2.of
  exact oc _ H2 x y dx dy dz Q (Rep.mj k2 p1) p2 ef (q _ H2 S2 (k1.trans k2) (.bl _))
theorem td_in {op : CmpOp} {f : D → D → Rv Bool} (ck : InK X op f) (ha : PD .s X Wx a ma) (hb : PD .w X Wx b mb) (hm : behindInMarks op b = false) : TD X Wx (.Compare a [op] [b] pos) (c2 f ma mb) := by
  obtain ⟨⟨r, ho, oc⟩⟩ := ck
  obtain ⟨ta, pa, qa⟩ := ha
  obtain ⟨tb, pb, qb⟩ := hb
  refine ⟨_, pt_cmpR ho pa pb hm, fun F O env σ H Q S w => ?_⟩
  refine qa F O env σ H _ S (w.bind.imp (fun dx e1 w1 x H1 S1 k1 p1 => ?_) fun _ _ _ z => z)
  refine qb F O e1 σ H1 _ S1 (w1.bind.imp (fun dy e2 w2 y H2 S2 k2 p2 => ?_) (XW.later k1))
  obtain ⟨dz, ef, q⟩ := w2.of
  exact oc _ H2 x y dx dy dz _ (Rep.mj k2 p1) p2 ef ⟨dz, rfl, q H2 S2 (k1.trans k2)⟩
/-! ### and, or, not, if -/
theorem td_val (ha : PD .s X Wx a ma) (he : ∀ whole, isTrue a X.env whole = (do let v ← whole; standAt a.pos; holding [v] (truthy v)) := by intro _; rfl) : TD X Wx a (tV ma) := by
  obtain ⟨ta, pa, qa⟩ := ha
  refine ⟨_, pt_val pa he, fun F O env σ H Q S w => ?_⟩
  refine qa F O env σ H _ S (w.bind.imp (fun dx e1 w1 x H1 S1 k1 p1 => ?_) fun _ _ _ z => z)
  cases p1 with
  | bl b => exact ⟨b, rfl, w1 H1 S1 k1⟩
  | _ => exact w1.elim
theorem td_not {m : DT} (h : TD X Wx a m) : TD X Wx (.UnaryOp .Not a pos) (AH.tNot m) := by
  obtain ⟨t, p, q⟩ := h
  exact ⟨_, pt_not p, fun F O env σ H Q S w => q F O env σ H _ S (w.bind.imp (fun b e1 w1 H1 S1 k1 => w1 H1 S1 k1) fun _ _ _ z => z)⟩
theorem wd_and1 {m : DT} (h : TD X Wx a m) : WD X Wx (.BoolOp .And [a] pos) m := let ⟨t, p, q⟩ := h; ⟨t, pw_and1 p, q⟩
theorem wd_or1 {m : DT} (h : TD X Wx a m) : WD X Wx (.BoolOp .Or [a] pos) m := let ⟨t, p, q⟩ := h; ⟨t, pw_or1 p, q⟩
theorem wd_and {m n : DT} {rest : List Expr} (h : TD X Wx a m) (h' : WD X Wx (.BoolOp .And (b :: rest) pos) n) : WD X Wx (.BoolOp .And (a :: b :: rest) pos) (AH.tAnd m n) := by
  obtain ⟨t, p, q⟩ := h
  obtain ⟨t', p', q'⟩ := h'
  refine ⟨_, pw_and p p', fun F O env σ H Q S w => q F O env σ H _ S (w.bind.imp (fun b e1 w1 H1 S1 k1 => ?_) fun _ _ _ z => z)⟩
  cases b with
  | true => exact q' F O e1 σ H1 _ S1 (Want.imp (m := n) w1 (fun b e2 w2 H2 S2 k2 => w2 H2 S2 (k1.trans k2)) (XW.later k1))
  | false => exact w1 H1 S1 k1
theorem wd_or {m n : DT} {rest : List Expr} (h : TD X Wx a m) (h' : WD X Wx (.BoolOp .Or (b :: rest) pos) n) : WD X Wx (.BoolOp .Or (a :: b :: rest) pos) (AH.tOr m n) := by
  obtain ⟨t, p, q⟩ := h
  obtain ⟨t', p', q'⟩ := h'
  refine ⟨_, pw_or p p', fun F O env σ H Q S w => q F O env σ H _ S (w.bind.imp (fun b e1 w1 H1 S1 k1 => ?_) fun _ _ _ z => z)⟩
  cases b with
  | false => exact q' F O e1 σ H1 _ S1 (Want.imp (m := n) w1 (fun b e2 w2 H2 S2 k2 => w2 H2 S2 (k1.trans k2)) (XW.later k1))
  | true => exact w1 H1 S1 k1
theorem pd_if {fl : Fl} {m : DT} (hc : TD X Wx c m) (ha : PD fl X Wx a ma) (hb : PD fl X Wx b mb) : PD fl X Wx (.IfExp c a b pos) (eIf m ma mb) := by
  obtain ⟨t, p, q⟩ := hc
  obtain ⟨ta, pa, qa⟩ := ha
  obtain ⟨tb, pb, qb⟩ := hb
  refine ⟨_, pe_ifExp p pa pb, fun F O env σ H Q S w => q F O env σ H _ S (w.bind.imp (fun b e1 w1 H1 S1 k1 => ?_) fun _ _ _ z => z)⟩
  cases b with
  | true => exact qa F O e1 σ H1 _ S1 (Want.imp (m := ma) w1 (fun d e2 w2 v H2 S2 k2 r => w2 v H2 S2 (k1.trans k2) (r.back k1)) (XW.later k1))
  | false => exact qb F O e1 σ H1 _ S1 (Want.imp (m := mb) w1 (fun d e2 w2 v H2 S2 k2 r => w2 v H2 S2 (k1.trans k2) (r.back k1)) (XW.later k1))
theorem pd_one {fl : Fl} {op : BoolOp} (h : PD fl X Wx a ma) : PD fl X Wx (.BoolOp op [a] pos) ma := let ⟨t, p, q⟩ := h; ⟨t, pe_one p, q⟩
theorem pd_and {rest : List Expr} (ha : PD .s X Wx a ma) (hb : PD .s X Wx (.BoolOp .And (b :: rest) pos) mb) : PD .s X Wx (.BoolOp .And (a :: b :: rest) pos) (eAnd ma mb) := by
  obtain ⟨ta, pa, qa⟩ := ha
  obtain ⟨tb, pb, qb⟩ := hb
  refine ⟨_, pe_and pa pb, fun F O env σ H Q S w => ?_⟩
  have w := w.bind
  refine qa F O env σ H _ S (w.bind.imp (fun dx e1 w1 x H1 S1 k1 p1 => ?_) fun _ _ _ z => z)
  cases p1 with
  | bl k =>
    refine ⟨k, rfl, ?_⟩
    cases k with
    | true => exact qb F O e1 σ H1 _ S1 (Want.imp (m := mb) w1 (fun d e2 w2 v H2 S2 k2 r => w2 v H2 S2 (k1.trans k2) r) (XW.later k1))
    | false => exact w1 _ H1 S1 k1 (.bl _)
  | _ => exact w1.elim
theorem pd_not (ha : PD .s X Wx a ma) : PD .s X Wx (.UnaryOp .Not a pos) (eNot ma) := by
  obtain ⟨ta, pa, qa⟩ := ha
  refine ⟨_, pe_not pa, fun F O env σ H Q S w => ?_⟩
  have w := w.bind
  refine qa F O env σ H _ S (w.bind.imp (fun dx e1 w1 x H1 S1 k1 p1 => ?_) fun _ _ _ z => z)
  cases p1 with
  | bl k => exact ⟨k, rfl, w1 _ H1 S1 k1 (.bl _)⟩
  | _ => exact w1.elim
theorem truth_tru {K : PySem.W.Frag} {W : Pr} {H : Hp} {v : V} {d : D} {k : Bool} (r : Rep W H v d) (h : truth d = .ok k) : TruV K v H k := by
  cases r with
  | non => cases h; exact rfl
  | bl b => cases h; exact rfl
  | int i => cases h; exact rfl
  | str s => cases h
  | dic n e l => cases h
  | obj _ _ _ _ _ => cases h
  | ktp _ _ _ _ => cases h
  | exc _ _ _ _ _ _ => cases h
  | lst n e l =>
    cases h
    refine .inl ⟨_, .inl (.inl e), ?_⟩
    cases l <;> rfl
  | tup n e l =>
    cases h
    refine .inr (.inl ⟨_, .inl (.inl e), ?_⟩)
    cases l <;> rfl
/-- x or y by truth, both new lists -/
theorem pd_orT {fl : Fl} (ha : PD fl X Wx a ma) (hb : PD fl X Wx b mb) (hfl : fl = .f ∨ fl = .s) : PD fl X Wx (.BoolOp .Or [a, b] pos) (eOrT ma mb) := by
  obtain ⟨ta, pa, qa⟩ := ha
  obtain ⟨tb, pb, qb⟩ := hb
  refine ⟨_, pe_orT pa (pe_one pb), fun F O env σ H Q S w => ?_⟩
  refine qa F O env σ H _ S (w.bind.imp (fun dx e1 w1 x H1 S1 k1 p1 => ?_) fun _ _ _ z => z)
  obtain ⟨k, ef, w2⟩ := w1.bind.of
  have rs : Rep (Ow F O) H1 x dx := by
    rcases hfl with rfl | rfl
    · exact Po.s_of_f (K := X.K) (fun p hp => S.noW hp) p1
    · exact p1
  refine ⟨k, truth_tru rs ef, ?_⟩
  cases k with
  | true => exact w2 _ H1 S1 k1 p1
  | false => exact qb F O e1 σ H1 _ S1 (Want.imp (m := mb) w2 (fun d e2 w2 v H2 S2 k2 r => w2 v H2 S2 (k1.trans k2) (r.back k1)) (XW.later k1))
/-! ### argument lists, displays -/
theorem ad_nil : AD X Wx [] aNil := ⟨_, pa_nil, fun F O env σ H Q S w => w [] H S Ke.refl .nil⟩
theorem ad_cons {es : List Expr} {m : DL} (ha : PD .s X Wx a ma) (hr : AD X Wx es m) (hs : starEach (a :: es) X.env = (false, eval a X.env) :: starEach es X.env := by rfl) : AD X Wx (a :: es) (aCons ma m) := by
  obtain ⟨ta, pa, qa⟩ := ha
  obtain ⟨tb, pb, qb⟩ := hr
  refine ⟨_, pa_cons pa pb hs, fun F O env σ H Q S w => ?_⟩
  refine qa F O env σ H _ S (w.bind.imp (fun dx e1 w1 x H1 S1 k1 p1 => ?_) fun _ _ _ z => z)
  exact qb F O e1 σ H1 _ S1 (w1.bind.imp (fun ds e2 w2 vs H2 S2 k2 p2 => w2 _ H2 S2 (k1.trans k2) (.cons (Rep.mj k2 p1) p2)) (XW.later k1))
theorem pd_tup {es : List Expr} {m : DL} {k : Nat} (h : AD X Wx es m) : PD .s X Wx (.Tuple es k pos) (eTup m) := by
  obtain ⟨t, p, q⟩ := h
  refine ⟨_, pe_tup p, fun F O env σ H Q S w => ?_⟩
  refine q F O env σ H _ S (w.bind.imp (fun ds e1 w1 vs H1 S1 k1 p1 => ?_) fun _ _ _ z => z)
  cases hz : lenOk ds.length with
  | false => rw [hz] at w1; exact w1.elim
  | true =>
    rw [hz] at w1
    refine ⟨by rw [p1.len]; exact lenOk_of hz, fun p hp => ?_⟩
    exact new_tup S1 p1 (fun z H' S' k2 r => w1 z H' S' (k1.trans k2) r) hp
theorem pd_lst {es : List Expr} {m : DL} (h : AD X Wx es m) : PD .f X Wx (.List es pos) (eLst m) := by
  obtain ⟨t, p, q⟩ := h
  refine ⟨_, pe_lst p, fun F O env σ H Q S w => ?_⟩
  refine q F O env σ H _ S (w.bind.imp (fun ds e1 w1 vs H1 S1 k1 p1 => ?_) fun _ _ _ z => z)
  cases hz : lenOk ds.length with
  | false => rw [hz] at w1; exact w1.elim
  | true =>
    rw [hz] at w1
    refine ⟨by rw [p1.len]; exact lenOk_of hz, fun p hp => ?_⟩
    exact new_lst S1 p1 (fun z H' S' k2 r => w1 z H' S' (k1.trans k2) (r.back k1)) hp
/-! ### items, slices -/
def rIxK : R2 := fun x y H Q => ∃ a v, x = .ref a ∧ DGet H a y (some v) ∧ Q v H
theorem ix_dict (hu : X.A.units + 65 < cLine) : IxR X rIxK := by
  intro value slice pins s σ H x y v u Q I rx ry h hs
  obtain ⟨a, z, rfl, g, q⟩ := h
  cases rx
  exact tail_any (dict_typeIs I g) PySem.F.slot_dict_getitem.lookup (d_getItem (by omega) I g ry fun w' s' I' r => ⟨z, H, I', r, q⟩) hs
def rIxA (K : PySem.W.Frag) : R2 := fun x y H Q => rIxL K x y H Q ∨ rIxT K x y H Q ∨ rIxK x y H Q
theorem ix_any (hu : X.A.units + 65 < cLine) : IxR X (rIxA X.K) := ix_list.or (ix_tup.or (ix_dict hu))
def Op2k (fl : Fl) (K : PySem.W.Frag) (r : R2) (f : D → D → Rv D) : Prop := ∀ (F : Fm) (O : Nat → Option Addr) (env : Env) (σ : L2.St) (H : Hp) (x y : V) (dx dy dz : D) (Q : VK), SR K F O env σ H →
  RepW K (Ow F O) H x dx → Rep (Ow F O) H y dy → f dx dy = .ok dz → (∀ z H', SR K F O env σ H' → Ke (Jo O) H H' → Po fl K F O env σ H H' z dz → Q z H') → r x y H Q
theorem o_ix : Op2k .s X.K (rIxA X.K) dIx := by
  intro F O env σ H x y dx dy dz Q S rx ry ef q
  unfold dIx at ef
  split at ef
  · obtain ⟨a, vs, rfl, s, l⟩ := rx.lst'
    split at ef
    · rename_i z hz
      cases ef
      obtain ⟨v, hv, r⟩ := l.at hz
      cases ry
      exact .inl ⟨a, vs, _, v, rfl, rfl, s, hv, q _ H S Ke.refl r⟩
    · cases ef
  · obtain ⟨a, vs, rfl, s, l⟩ := rx.tup'
    split at ef
    · rename_i z hz
      cases ef
      obtain ⟨v, hv, r⟩ := l.at hz
      cases ry
      exact .inr (.inl ⟨a, vs, _, v, rfl, rfl, s, hv, q _ H S Ke.refl r⟩)
    · cases ef
  · obtain ⟨a, ks, rfl, s, l⟩ := rx.dic'
    split at ef
    · rename_i k hk
      split at ef
      · rename_i z hz
        cases ef
        obtain ⟨b, rfl, hb⟩ := keyD_rep ry hk
        rcases l.val k with ⟨h1, h2⟩ | ⟨v, d, h1, h2, r⟩
        · rw [h2] at hz; cases hz
        · rw [h2] at hz
          cases hz
          exact .inr (.inr ⟨a, v, rfl, by rw [← h1]; exact dget_of l s hb, q _ H S Ke.refl r⟩)
      · cases ef
    · cases ef
  · cases ef
theorem pd_ix (hu : X.A.units + 65 < cLine) (ha : PD .s X Wx a ma) (hb : PD .s X Wx b mb) (hs : PlainIx b := by intro _ _; rfl) : PD .s X Wx (.Subscript a b pos) (e2 dIx ma mb) := by
  obtain ⟨ta, pa, qa⟩ := ha
  obtain ⟨tb, pb, qb⟩ := hb
  refine ⟨_, pe_ix (ix_any hu) pa pb hs, fun F O env σ H Q S w => ?_⟩
  refine qa F O env σ H _ S (w.bind.imp (fun dx e1 w1 x H1 S1 k1 p1 => ?_) fun _ _ _ z => z)
  refine qb F O e1 σ H1 _ S1 (w1.bind.imp (fun dy e2 w2 y H2 S2 k2 p2 => ?_) (XW.later k1))
  obtain ⟨dz, ef, q⟩ := w2.of
  exact o_ix F O e2 σ H2 x y dx dy dz Q S2 (.of (Rep.mj k2 p1)) p2 ef fun z H' S' k3 p3 => q z H' S' (k1.trans (k2.trans k3)) p3
theorem pd_ixL {i : Nat} {x : Str} {p : Pos} (hu : X.A.units + 65 < cLine) (hN : X.N[i]? = some x) (hv : Vis X.env.scope x) (hb : PD .s X Wx b mb) (hs : PlainIx b := by intro _ _; rfl)
    (hd : (x == ("__debug__" : Str)) = false := by decide) (hcd : (x == ("__classdict__" : Str)) = false := by decide) : PD .s X Wx (.Subscript (.Name x p) b pos) (e2L dIx i mb) := by
  obtain ⟨tb, pb, qb⟩ := hb
  refine ⟨_, pe_ix (ix_any hu) (pe_var hN hv hd hcd) pb hs, fun F O env σ H Q S w => ?_⟩
  obtain ⟨v, d, e, r, w⟩ := w.bind.tmp S
  refine ⟨v, get1_some e, ?_⟩
  refine qb F O env σ H _ S (w.bind.imp (fun dy e2 w2 y H2 S2 k2 p2 => ?_) fun _ _ _ z => z)
  obtain ⟨v', dx, ex, rx, w3⟩ := w2.bind.tmp S2
  obtain rfl : v' = v := Option.some.inj (ex.symm.trans e)
  obtain ⟨dz, ef, q⟩ := w3.of
  exact o_ix F O e2 σ H2 v' y dx dy dz Q S2 rx p2 ef fun z H' S' k3 p3 => q z H' S' (k2.trans k3) p3
/-- a part of a slice -/
def OD (X : Cx) (Wx : WX) (e : Option Expr) (m : DO) : Prop := ∃ t : TO, PO X e t ∧ ∀ (F : Fm) (O : Nat → Option Addr) (env : Env) (σ : L2.St) (H : Hp) (Q : Option Int → Hp → Prop), SR X.K F O env σ H →
  Want m env (fun d e1 => ∀ H', SR X.K F O e1 σ H' → Ke (Jo O) H H' → Q d H') (XW X.K F O σ H Wx) → t σ H Q
theorem od_none : OD X Wx none oNone := ⟨_, po_none, fun F O env σ H Q S w => w H S Ke.refl⟩
theorem od_some (ha : PD .s X Wx a ma) : OD X Wx (some a) (oSome ma) := by
  obtain ⟨ta, pa, qa⟩ := ha
  refine ⟨_, po_some pa, fun F O env σ H Q S w => ?_⟩
  refine qa F O env σ H _ S (w.bind.imp (fun dx e1 w1 x H1 S1 k1 p1 => ?_) fun _ _ _ z => z)
  cases p1 with
  | int i => exact ⟨i, rfl, w1 H1 S1 k1⟩
  | _ => exact w1.elim
def rSlAny (K : PySem.W.Frag) : V → Option Int → Option Int → Hp → VK → Prop := fun x lo hi H Q => rSlL K x lo hi H Q ∨ rSlA K x lo hi H Q
theorem RepL.cut {W : Pr} {H : Hp} {vs : List V} {xs : List D} (lo hi : Option Int) (l : RepL W H vs xs) : RepL W H (cutV vs lo hi) (AH.cut xs lo hi) := by
  unfold cutV AH.cut
  rw [l.len]
  exact (l.drop _).take _
theorem cut_whole {xs : List D} {lo hi : Option Int} (h : HT.sIx xs.length 0 lo = 0 ∧ HT.sIx xs.length xs.length hi = xs.length) : AH.cut xs lo hi = xs := by
  unfold AH.cut
  rw [h.1, h.2]
  simp
/-- a list's slice is new -/
def dSlL (x : D) (lo hi : Option Int) : Rv D := match x with
  | .lst xs => .ok (.lst (cut xs lo hi))
  | _ => .bad
def Osl (fl : Fl) (K : PySem.W.Frag) (f : D → Option Int → Option Int → Rv D) : Prop := ∀ (F : Fm) (O : Nat → Option Addr) (env : Env) (σ : L2.St) (H : Hp) (x : V) (dx dz : D) (lo hi : Option Int) (Q : VK), SR K F O env σ H →
  (Rep (Ow F O) H x dx ∨ ∃ xs, dx = .lst xs ∧ RepW K (Ow F O) H x dx) → f dx lo hi = .ok dz → (∀ z H', SR K F O env σ H' → Ke (Jo O) H H' → Po fl K F O env σ H H' z dz → Q z H') → rSlAny K x lo hi H Q
theorem o_slL : Osl .f X.K dSlL := by
  intro F O env σ H x dx dz lo hi Q S rx ef q
  unfold dSlL at ef
  split at ef
  · cases ef
    have rw' : RepW X.K (Ow F O) H x (.lst _) := rx.elim (fun r => .of r) fun ⟨_, _, r⟩ => r
    obtain ⟨a, vs, rfl, s, l⟩ := rw'.lst'
    exact .inl ⟨a, vs, rfl, s, fun p hp => new_lst S (l.cut lo hi) q hp⟩
  · cases ef
theorem o_sl : Osl .s X.K dSl := by
  intro F O env σ H x dx dz lo hi Q S rx ef q
  unfold dSl at ef
  split at ef
  · cases ef
    have rw' : RepW X.K (Ow F O) H x (.lst _) := rx.elim (fun r => .of r) fun ⟨_, _, r⟩ => r
    obtain ⟨a, vs, rfl, s, l⟩ := rw'.lst'
    exact .inl ⟨a, vs, rfl, s, fun p hp => new_lst S (l.cut lo hi) (fun z H' S' k r => q z H' S' k (Po.s_of_f (K := X.K) (fun p hp => S.noW hp) r)) hp⟩
  · cases ef
    rcases rx with rx | ⟨_, h, _⟩
    · cases rx with
      | tup n h l =>
        refine .inr ⟨_, _, rfl, .inl (.inl h), fun w => ?_, fun _ p hp => new_tup S (l.cut lo hi) q hp⟩
        rw [l.len] at w
        rw [cut_whole w] at q
        exact q _ H S Ke.refl (.tup n h l)
    · cases h
  · cases ef
theorem sl_any : L2.SlR X (rSlAny X.K) := L2.SlR.or sl_list sl_tupA
theorem pd_slice {fl : Fl} {f : D → Option Int → Option Int → Rv D} {lo hi : Option Expr} {ml mh : DO} {p2 : Pos} (hop : Osl fl X.K f) (ha : PD .s X Wx a ma) (hl : OD X Wx lo ml) (hh : OD X Wx hi mh) :
    PD fl X Wx (.Subscript a (.Slice lo hi none p2) pos) (ma.bind fun x => ml.bind fun l => mh.bind fun h => M.of (f x l h)) := by
  obtain ⟨ta, pa, qa⟩ := ha
  obtain ⟨tl, pl, ql⟩ := hl
  obtain ⟨th, ph, qh⟩ := hh
  refine ⟨_, pe_slice sl_any pa pl ph, fun F O env σ H Q S w => ?_⟩
  refine qa F O env σ H _ S (w.bind.imp (fun dx e1 w1 x H1 S1 k1 p1 => ?_) fun _ _ _ z => z)
  refine ql F O e1 σ H1 _ S1 (w1.bind.imp (fun lo e2 w2 H2 S2 k2 => ?_) (XW.later k1))
  refine qh F O e2 σ H2 _ S2 (w2.bind.imp (fun hi e3 w3 H3 S3 k3 => ?_) (XW.later (k1.trans k2)))
  obtain ⟨dz, ef, q⟩ := w3.of
  exact hop F O e3 σ H3 x dx dz lo hi Q S3 (.inl (Rep.mj (k2.trans k3) p1)) ef fun z H' S' k4 p4 => q z H' S' (k1.trans (k2.trans (k3.trans k4))) (p4.back (k1.trans (k2.trans k3)))
theorem pd_sl {lo hi : Option Expr} {ml mh : DO} {p2 : Pos} (ha : PD .s X Wx a ma) (hl : OD X Wx lo ml) (hh : OD X Wx hi mh) : PD .s X Wx (.Subscript a (.Slice lo hi none p2) pos) (eSl ma ml mh) := pd_slice o_sl ha hl hh
/-- a slice of a list that may be the frame's own: a new list -/
def eSlN (i : Nat) (lo hi : DO) : DE := (eTmp i).bind fun _ => lo.bind fun l => hi.bind fun h => (eTmp i).bind fun x => M.of (dSlL x l h)
theorem pd_slN {i : Nat} {x : Str} {p : Pos} {lo hi : Option Expr} {ml mh : DO} {p2 : Pos} (hN : X.N[i]? = some x) (hv : Vis X.env.scope x) (hl : OD X Wx lo ml) (hh : OD X Wx hi mh)
    (hd : (x == ("__debug__" : Str)) = false := by decide) (hcd : (x == ("__classdict__" : Str)) = false := by decide) : PD .f X Wx (.Subscript (.Name x p) (.Slice lo hi none p2) pos) (eSlN i ml mh) := by
  obtain ⟨tl, pl, ql⟩ := hl
  obtain ⟨th, ph, qh⟩ := hh
  refine ⟨_, pe_slice sl_any (pe_var hN hv hd hcd) pl ph, fun F O env σ H Q S w => ?_⟩
  obtain ⟨v, d, e, r, w⟩ := w.bind.tmp S
  refine ⟨v, get1_some e, ?_⟩
  refine ql F O env σ H _ S (w.bind.imp (fun lo e2 w2 H2 S2 k2 => ?_) fun _ _ _ z => z)
  refine qh F O e2 σ H2 _ S2 (w2.bind.imp (fun hi e3 w3 H3 S3 k3 => ?_) (XW.later k2))
  obtain ⟨v', dx, ex, rx, w4⟩ := w3.bind.tmp S3
  obtain rfl : v' = v := Option.some.inj (ex.symm.trans e)
  obtain ⟨dz, ef, q⟩ := w4.of
  refine o_slL F O e3 σ H3 v' dx dz lo hi Q S3 (.inr ?_) ef fun z H' S' k4 p4 => q z H' S' (k2.trans (k3.trans k4)) (p4.back (k2.trans k3))
  unfold dSlL at ef
  split at ef
  · exact ⟨_, rfl, rx⟩
  · cases ef
end
end AH
namespace AH
open PySem PySem.Spec PyProof.Rows L2
variable [TheK]
section
variable {X : Cx} {Wx : WX} {e a b c d : Expr} {ma mb mc md : DE} {pos p : Pos}
/-! ### built-in functions and types of one argument, of two -/
def Cb1 (fl : Fl) (K : PySem.W.Frag) (r : List V → Hp → VK → Prop) (f : D → Rv D) : Prop := ∀ (F : Fm) (O : Nat → Option Addr) (env : Env) (σ : L2.St) (H : Hp) (x : V) (dx dz : D) (Q : VK), SR K F O env σ H →
  RepW K (Ow F O) H x dx → f dx = .ok dz → (∀ z H', SR K F O env σ H' → Ke (Jo O) H H' → Po fl K F O env σ H H' z dz → Q z H') → r [x] H Q
def Cb2 (fl : Fl) (K : PySem.W.Frag) (r : List V → Hp → VK → Prop) (f : D → D → Rv D) : Prop := ∀ (F : Fm) (O : Nat → Option Addr) (env : Env) (σ : L2.St) (H : Hp) (x y : V) (dx dy dz : D) (Q : VK), SR K F O env σ H →
  Rep (Ow F O) H x dx → RepW K (Ow F O) H y dy → f dx dy = .ok dz → (∀ z H', SR K F O env σ H' → Ke (Jo O) H H' → Po fl K F O env σ H H' z dz → Q z H') → r [x, y] H Q
theorem pd_c1 {fl : Fl} {f : D → Rv D} {r : List V → Hp → VK → Prop} (hop : Cb1 fl X.K r f) (ha : PD .w X Wx a ma) (pe : ∀ {t : TA}, PA X [a] t → PE X e (tCB r t)) (hs : starEach [a] X.env = (false, eval a X.env) :: starEach [] X.env := by rfl) : PD fl X Wx e (e1 f ma) := by
  obtain ⟨ta, pa, qa⟩ := ha
  refine ⟨_, pe (pa_cons pa pa_nil hs), fun F O env σ H Q S w => ?_⟩
  refine qa F O env σ H _ S (w.bind.imp (fun dx e1 w1 x H1 S1 k1 p1 => ?_) fun _ _ _ z => z)
  obtain ⟨dz, ef, q⟩ := w1.of
  exact hop F O e1 σ H1 x dx dz Q S1 p1 ef fun z H' S' k3 p3 => q z H' S' (k1.trans k3) (p3.back k1)
theorem pd_c2 {fl : Fl} {f : D → D → Rv D} {r : List V → Hp → VK → Prop} (hop : Cb2 fl X.K r f) (ha : PD .s X Wx a ma) (hb : PD .w X Wx b mb) (pe : ∀ {t : TA}, PA X [a, b] t → PE X e (tCB r t))
    (hs : starEach [a, b] X.env = (false, eval a X.env) :: starEach [b] X.env := by rfl) (hs2 : starEach [b] X.env = (false, eval b X.env) :: starEach [] X.env := by rfl) : PD fl X Wx e (e2 f ma mb) := by
  obtain ⟨ta, pa, qa⟩ := ha
  obtain ⟨tb, pb, qb⟩ := hb
  refine ⟨_, pe (pa_cons pa (pa_cons pb pa_nil hs2) hs), fun F O env σ H Q S w => ?_⟩
  refine qa F O env σ H _ S (w.bind.imp (fun dx e1 w1 x H1 S1 k1 p1 => ?_) fun _ _ _ z => z)
  refine qb F O e1 σ H1 _ S1 (w1.bind.imp (fun dy e2 w2 y H2 S2 k2 p2 => ?_) (XW.later k1))
  obtain ⟨dz, ef, q⟩ := w2.of
  exact hop F O e2 σ H2 x y dx dy dz Q S2 (Rep.mj k2 p1) p2 ef fun z H' S' k3 p3 => q z H' S' (k1.trans (k2.trans k3)) (p3.back (k1.trans k2))
/-- the name x is still the built-in id, the type T -/
structure Bn (X : Cx) (x : Str) (u : Value) : Prop where
  gl : Gl X x
  mg : X.mg x = none
  bt : bootBuiltins x = some u
  nn : x ≠ "__name__"
  nd : (x == ("__debug__" : Str)) = false
variable {x : Str}
theorem pd_b1 {fl : Fl} {f : D → Rv D} {id : String} {r : List V → Hp → VK → Prop} (hc : CallR X (.builtin id) r) (hop : Cb1 fl X.K r f) (hb : Bn X x (.builtin id)) (ha : PD .w X Wx a ma)
    (hs : starEach [a] X.env = (false, eval a X.env) :: starEach [] X.env := by rfl) : PD fl X Wx (.Call (.Name x p) [a] [] pos) (e1 f ma) :=
  pd_c1 hop ha (fun q => pe_callB hc hb.gl hb.mg hb.bt q hb.nn hb.nd hs rfl) hs
theorem pd_t1 {fl : Fl} {f : D → Rv D} {id : String} {r : List V → Hp → VK → Prop} (hc : CallR X (.type id) r) (hop : Cb1 fl X.K r f) (hb : Bn X x (.type id)) (ha : PD .w X Wx a ma)
    (hs : starEach [a] X.env = (false, eval a X.env) :: starEach [] X.env := by rfl) : PD fl X Wx (.Call (.Name x p) [a] [] pos) (e1 f ma) :=
  pd_c1 hop ha (fun q => pe_callTy hc hb.gl hb.mg hb.bt q hb.nn hb.nd hs rfl) hs
theorem pd_b2 {fl : Fl} {f : D → D → Rv D} {id : String} {r : List V → Hp → VK → Prop} (hc : CallR X (.builtin id) r) (hop : Cb2 fl X.K r f) (hb : Bn X x (.builtin id)) (ha : PD .s X Wx a ma) (hb' : PD .w X Wx b mb)
    (hs : starEach [a, b] X.env = (false, eval a X.env) :: starEach [b] X.env := by rfl) (hs2 : starEach [b] X.env = (false, eval b X.env) :: starEach [] X.env := by rfl) (hpl : (backTo pos (starEach [b] X.env)).any (·.1) = false := by rfl) : PD fl X Wx (.Call (.Name x p) [a, b] [] pos) (e2 f ma mb) :=
  pd_c2 hop ha hb' (fun q => pe_callB hc hb.gl hb.mg hb.bt q hb.nn hb.nd hs hpl) hs hs2
theorem cb_len : Cb1 .s X.K (fun xs H Q => ∃ x n, xs = [x] ∧ LenV X.K x H n ∧ Q (.int n) H) dLen := by
  intro F O env σ H x dx dz Q S rx ef q
  unfold dLen at ef
  split at ef
  · cases ef
    obtain ⟨a, vs, rfl, s, l⟩ := rx.lst'
    exact ⟨_, vs.length, rfl, .inl ⟨vs, s, rfl⟩, by rw [l.len]; exact q _ H S Ke.refl (.int _)⟩
  · cases ef
    obtain ⟨a, vs, rfl, s, l⟩ := rx.tup'
    exact ⟨_, vs.length, rfl, .inr ⟨vs, s, rfl⟩, by rw [l.len]; exact q _ H S Ke.refl (.int _)⟩
  · cases ef
theorem pd_len (hb : Bn X "len" (.builtin "len")) (ha : PD .w X Wx a ma) (hs : starEach [a] X.env = (false, eval a X.env) :: starEach [] X.env := by rfl) : PD .s X Wx (.Call (.Name "len" p) [a] [] pos) (e1 dLen ma) := pd_b1 call_len cb_len hb ha hs
theorem cb_abs : Cb1 .s X.K (fun xs H Q => ∃ i, xs = [.int i] ∧ Q (.int (if i < 0 then -i else i)) H) dAbs := by
  intro F O env σ H x dx dz Q S rx ef q
  unfold dAbs at ef
  split at ef
  · cases ef; exact ⟨_, by rw [rx.int'], q _ H S Ke.refl (.int _)⟩
  · cases ef
theorem pd_abs (hb : Bn X "abs" (.builtin "abs")) (ha : PD .s X Wx a ma) (hs : starEach [a] X.env = (false, eval a X.env) :: starEach [] X.env := by rfl) : PD .s X Wx (.Call (.Name "abs" p) [a] [] pos) (e1 dAbs ma) := pd_b1 call_abs cb_abs hb ha.weak hs
theorem cb_int : Cb1 .s X.K (fun xs H Q => (∃ i, xs = [.int i] ∧ Q (.int i) H) ∨ ∃ k, xs = [.bl k] ∧ Q (.int (if k then 1 else 0)) H) dInt := by
  intro F O env σ H x dx dz Q S rx ef q
  unfold dInt at ef
  split at ef
  · cases ef; exact .inl ⟨_, by rw [rx.int'], q _ H S Ke.refl (.int _)⟩
  · cases ef; exact .inr ⟨_, by rw [rx.bl'], q _ H S Ke.refl (.int _)⟩
  · cases ef
theorem pd_toint (hb : Bn X "int" (.type "int")) (ha : PD .s X Wx a ma) (hs : starEach [a] X.env = (false, eval a X.env) :: starEach [] X.env := by rfl) : PD .s X Wx (.Call (.Name "int" p) [a] [] pos) (e1 dInt ma) := pd_t1 call_int1 cb_int hb ha.weak hs
theorem cb_max2 : Cb2 .s X.K (fun xs H Q => ∃ i j, xs = [.int i, .int j] ∧ Q (.int (if j > i then j else i)) H) dMax2 := by
  intro F O env σ H x y dx dy dz Q S rx ry ef q
  unfold dMax2 at ef
  split at ef
  · cases ef; cases rx; exact ⟨_, _, by rw [ry.int'], q _ H S Ke.refl (.int _)⟩
  · cases ef
theorem pd_max2 (hc : X.calm = true) (hb : Bn X "max" (.builtin "max")) (ha : PD .s X Wx a ma) (hb' : PD .s X Wx b mb) (hs : starEach [a, b] X.env = (false, eval a X.env) :: starEach [b] X.env := by rfl) (hs2 : starEach [b] X.env = (false, eval b X.env) :: starEach [] X.env := by rfl) (hpl : (backTo pos (starEach [b] X.env)).any (·.1) = false := by rfl) :
    PD .s X Wx (.Call (.Name "max" p) [a, b] [] pos) (e2 dMax2 ma mb) := pd_b2 (call_max2 hc) cb_max2 hb ha hb'.weak hs hs2 hpl
theorem cb_min2 : Cb2 .s X.K (fun xs H Q => ∃ i j, xs = [.int i, .int j] ∧ Q (.int (if j < i then j else i)) H) dMin2 := by
  intro F O env σ H x y dx dy dz Q S rx ry ef q
  unfold dMin2 at ef
  split at ef
  · cases ef; cases rx; exact ⟨_, _, by rw [ry.int'], q _ H S Ke.refl (.int _)⟩
  · cases ef
theorem pd_min2 (hc : X.calm = true) (hb : Bn X "min" (.builtin "min")) (ha : PD .s X Wx a ma) (hb' : PD .s X Wx b mb) (hs : starEach [a, b] X.env = (false, eval a X.env) :: starEach [b] X.env := by rfl) (hs2 : starEach [b] X.env = (false, eval b X.env) :: starEach [] X.env := by rfl) (hpl : (backTo pos (starEach [b] X.env)).any (·.1) = false := by rfl) :
    PD .s X Wx (.Call (.Name "min" p) [a, b] [] pos) (e2 dMin2 ma mb) := pd_b2 (call_min2 hc) cb_min2 hb ha hb'.weak hs hs2 hpl
theorem cb_all : Cb1 .s X.K (rAll X.K) dAll := by
  intro F O env σ H x dx dz Q S rx ef q
  unfold dAll at ef
  split at ef
  · obtain ⟨a, vs, rfl, s, l⟩ := rx.lst'
    split at ef
    · rename_i ns h
      cases ef
      exact ⟨a, ns, rfl, by rw [← l.bools h]; exact s, q _ H S Ke.refl (.bl _)⟩
    · cases ef
  · cases ef
theorem pd_all (hc : X.calm = true) (hb : Bn X "all" (.builtin "all")) (ha : PD .w X Wx a ma) (hs : starEach [a] X.env = (false, eval a X.env) :: starEach [] X.env := by rfl) : PD .s X Wx (.Call (.Name "all" p) [a] [] pos) (e1 dAll ma) := pd_b1 (cr_all hc) cb_all hb ha hs
theorem leastOf_spec : ∀ (n : Int) (ns : List Int), leastOf (n :: ns) ∈ n :: ns ∧ ∀ y, y ∈ n :: ns → leastOf (n :: ns) ≤ y
  | n, [] => ⟨List.mem_singleton.mpr rfl, fun y h => by rw [List.mem_singleton.mp h]; exact Int.le_refl _⟩
  | n, m :: r => by
    obtain ⟨h1, h2⟩ := leastOf_spec m r
    have e : leastOf (n :: m :: r) = if leastOf (m :: r) < n then leastOf (m :: r) else n := rfl
    rw [e]
    split
    · rename_i h
      refine ⟨List.mem_cons_of_mem _ h1, fun y hy => ?_⟩
      rcases List.mem_cons.mp hy with rfl | hy
      · omega
      · exact h2 y hy
    · rename_i h
      refine ⟨List.mem_cons_self, fun y hy => ?_⟩
      rcases List.mem_cons.mp hy with rfl | hy
      · exact Int.le_refl _
      · have := h2 y hy; omega
/-- tuple(x): of a list that may be the frame's own, of a tuple that stays -/
theorem pd_tuple (hb : Bn X "tuple" (.type "tuple")) (ha : PD .s X Wx a ma) (hs : starEach [a] X.env = (false, eval a X.env) :: starEach [] X.env := by rfl) : PD .s X Wx (.Call (.Name "tuple" p) [a] [] pos) (e1 dTuple ma) := by
  obtain ⟨ta, pa, qa⟩ := ha
  refine ⟨_, pe_callTy call_tuple_of hb.gl hb.mg hb.bt (pa_cons pa pa_nil hs) hb.nn hb.nd hs rfl, fun F O env σ H Q S w => ?_⟩
  refine qa F O env σ H _ S (w.bind.imp (fun dx e1 w1 x H1 S1 k1 p1 => ?_) fun _ _ _ z => z)
  obtain ⟨dz, ef, q⟩ := w1.of
  cases p1 with
  | lst n h l =>
    cases ef
    exact ⟨_, _, rfl, .inl ⟨.inl (.inl h), fun p hp => new_tup S1 l (fun z H' S' k2 r => q z H' S' (k1.trans k2) r) hp⟩⟩
  | tup n h l =>
    cases ef
    exact ⟨_, _, rfl, .inr ⟨.inl (.inl h), q _ H1 S1 k1 (.tup n h l)⟩⟩
  | _ => cases ef
theorem cb_list : Cb1 .f X.K (fun xs H Q => ∃ p ys, xs = [.ref p] ∧ (SqL X.K H p ys ∨ SqT X.K H p ys) ∧ ∀ l, H l = none → Q (.ref l) (upd H l (.lst ys))) dList := by
  intro F O env σ H x dx dz Q S rx ef q
  unfold dList at ef
  split at ef
  · cases ef
    obtain ⟨a, vs, rfl, s, l⟩ := rx.lst'
    exact ⟨a, vs, rfl, .inl s, fun p hp => new_lst S l q hp⟩
  · cases ef
    obtain ⟨a, vs, rfl, s, l⟩ := rx.tup'
    exact ⟨a, vs, rfl, .inr s, fun p hp => new_lst S l q hp⟩
  · cases ef
theorem pd_list (hb : Bn X "list" (.type "list")) (ha : PD .w X Wx a ma) (hs : starEach [a] X.env = (false, eval a X.env) :: starEach [] X.env := by rfl) : PD .f X Wx (.Call (.Name "list" p) [a] [] pos) (e1 dList ma) := pd_t1 call_list_of cb_list hb ha hs
/-! ### isinstance -/
inductive Ty where
  | int | bool | str | list | tuple | dict
  deriving DecidableEq
def Ty.nm : Ty → String
  | .int => "int" | .bool => "bool" | .str => "str" | .list => "list" | .tuple => "tuple" | .dict => "dict"
def isi (t : Ty) (d : D) : Bool := match t, d with
  | .int, .int _ => true
  | .int, .bl _ => true
  | .bool, .bl _ => true
  | .str, .str _ => true
  | .list, .lst _ => true
  | .tuple, .tup _ => true
  | .dict, .dic _ => true
  | _, _ => false
def tyD : D → String
  | .non => "NoneType" | .bl _ => "bool" | .int _ => "int" | .str _ => "str" | .lst _ => "list" | .tup _ => "tuple" | .dic _ => "dict" | _ => ""
def isPy : D → Bool
  | .exc _ _ _ => false
  | .obj _ => false
  | .ktp _ => false
  | .dic _ => false
  | _ => true
theorem kit_isi : ∀ (t : Ty) (d : D), isPy d = true → kitB (tyD d) t.nm = some (isi t d)
  | .int, .non, _ => (by decide +kernel : kitB "NoneType" "int" = some false)
  | .int, .bl _, _ => (by decide +kernel : kitB "bool" "int" = some true)
  | .int, .int _, _ => (by decide +kernel : kitB "int" "int" = some true)
  | .int, .str _, _ => (by decide +kernel : kitB "str" "int" = some false)
  | .int, .lst _, _ => (by decide +kernel : kitB "list" "int" = some false)
  | .int, .tup _, _ => (by decide +kernel : kitB "tuple" "int" = some false)
  | .int, .dic _, _ => (by decide +kernel : kitB "dict" "int" = some false)
  | .int, .exc _ _ _, h => by cases h
  | .int, .obj _, h => by cases h
  | .int, .ktp _, h => by cases h
  | .bool, .non, _ => (by decide +kernel : kitB "NoneType" "bool" = some false)
  | .bool, .bl _, _ => (by decide +kernel : kitB "bool" "bool" = some true)
  | .bool, .int _, _ => (by decide +kernel : kitB "int" "bool" = some false)
  | .bool, .str _, _ => (by decide +kernel : kitB "str" "bool" = some false)
  | .bool, .lst _, _ => (by decide +kernel : kitB "list" "bool" = some false)
  | .bool, .tup _, _ => (by decide +kernel : kitB "tuple" "bool" = some false)
  | .bool, .dic _, _ => (by decide +kernel : kitB "dict" "bool" = some false)
  | .bool, .exc _ _ _, h => by cases h
  | .bool, .obj _, h => by cases h
  | .bool, .ktp _, h => by cases h
  | .str, .non, _ => (by decide +kernel : kitB "NoneType" "str" = some false)
  | .str, .bl _, _ => (by decide +kernel : kitB "bool" "str" = some false)
  | .str, .int _, _ => (by decide +kernel : kitB "int" "str" = some false)
  | .str, .str _, _ => (by decide +kernel : kitB "str" "str" = some true)
  | .str, .lst _, _ => (by decide +kernel : kitB "list" "str" = some false)
  | .str, .tup _, _ => (by decide +kernel : kitB "tuple" "str" = some false)
  | .str, .dic _, _ => (by decide +kernel : kitB "dict" "str" = some false)
  | .str, .exc _ _ _, h => by cases h
  | .str, .obj _, h => by cases h
  | .str, .ktp _, h => by cases h
  | .list, .non, _ => (by decide +kernel : kitB "NoneType" "list" = some false)
  | .list, .bl _, _ => (by decide +kernel : kitB "bool" "list" = some false)
  | .list, .int _, _ => (by decide +kernel : kitB "int" "list" = some false)
  | .list, .str _, _ => (by decide +kernel : kitB "str" "list" = some false)
  | .list, .lst _, _ => (by decide +kernel : kitB "list" "list" = some true)
  | .list, .tup _, _ => (by decide +kernel : kitB "tuple" "list" = some false)
  | .list, .dic _, _ => (by decide +kernel : kitB "dict" "list" = some false)
  | .list, .exc _ _ _, h => by cases h
  | .list, .obj _, h => by cases h
  | .list, .ktp _, h => by cases h
  | .tuple, .non, _ => (by decide +kernel : kitB "NoneType" "tuple" = some false)
  | .tuple, .bl _, _ => (by decide +kernel : kitB "bool" "tuple" = some false)
  | .tuple, .int _, _ => (by decide +kernel : kitB "int" "tuple" = some false)
  | .tuple, .str _, _ => (by decide +kernel : kitB "str" "tuple" = some false)
  | .tuple, .lst _, _ => (by decide +kernel : kitB "list" "tuple" = some false)
  | .tuple, .tup _, _ => (by decide +kernel : kitB "tuple" "tuple" = some true)
  | .tuple, .dic _, _ => (by decide +kernel : kitB "dict" "tuple" = some false)
  | .tuple, .exc _ _ _, h => by cases h
  | .tuple, .obj _, h => by cases h
  | .tuple, .ktp _, h => by cases h
  | .dict, .non, _ => (by decide +kernel : kitB "NoneType" "dict" = some false)
  | .dict, .bl _, _ => (by decide +kernel : kitB "bool" "dict" = some false)
  | .dict, .int _, _ => (by decide +kernel : kitB "int" "dict" = some false)
  | .dict, .str _, _ => (by decide +kernel : kitB "str" "dict" = some false)
  | .dict, .lst _, _ => (by decide +kernel : kitB "list" "dict" = some false)
  | .dict, .tup _, _ => (by decide +kernel : kitB "tuple" "dict" = some false)
  | .dict, .dic _, _ => (by decide +kernel : kitB "dict" "dict" = some true)
  | .dict, .exc _ _ _, h => by cases h
  | .dict, .obj _, h => by cases h
  | .dict, .ktp _, h => by cases h
theorem Rep.ty {K : PySem.W.Frag} {W : Pr} {H : Hp} {v : V} {d : D} (r : Rep W H v d) (ip : isPy d = true) : TyX K H v (.type (tyD d)) := by
  cases r with
  | non => exact .base .non
  | bl b => exact .base (.bl b)
  | int b => exact .base (.int b)
  | str b => exact .base (.str b)
  | tup n h l => exact .base (.tup h)
  | lst n h l => exact .base (.lst h)
  | dic n h l => cases ip
  | obj _ _ _ _ _ => cases ip
  | ktp _ _ _ _ => cases ip
  | exc _ _ _ _ _ _ => cases ip
def isExc : D → Bool
  | .exc _ _ _ => true
  | .ktp _ => true
  | .dic _ => true
  | _ => false
theorem Rep.py {W : Pr} {H : Hp} {v : V} {d : D} (r : Rep W H v d) (ip : isPy d = false) (ix : isExc d = false) : ∃ a dx C vs c, v = .ref a ∧ d = .obj c ∧ SlX.Slt H a C dx vs ∧ ObjF TheK.K C := by
  cases r with
  | obj n m h q f => exact ⟨_, _, _, _, _, rfl, rfl, .inr ⟨h, q⟩, f⟩
  | exc _ _ _ _ _ _ => cases ix
  | ktp _ _ _ _ => cases ix
  | dic _ _ _ => cases ix
  | _ => cases ip
def eIsi (t : Ty) (a : DE) : DE := a.bind fun x => if isExc x then (fun _ => .bad) else M.pure (.bl (isi t x))
def eIsi2 (t u : Ty) (a : DE) : DE := a.bind fun x => if isPy x then M.pure (.bl (isi t x || isi u x)) else fun _ => .bad
theorem pe_ty {x : Str} {n : String} (hb : Bn X x (.type n)) : PE X (.Name x p) (tC (.ty n)) := pe_bltn (v := .ty n) hb.gl hb.mg hb.bt rfl hb.nn hb.nd
theorem ty_mem (t : Ty) : t.nm ∈ ["int", "bool", "str", "list", "tuple", "dict"] := by cases t <;> decide
theorem pd_isi {y : Str} {t : Ty} {p2 : Pos} (hK : X.K = TheK.K) (hb : Bn X "isinstance" (.builtin "isinstance")) (hy : Bn X y (.type t.nm)) (ha : PD .s X Wx a ma)
    (hs : starEach [a, .Name y p2] X.env = (false, eval a X.env) :: starEach [.Name y p2] X.env := by rfl) : PD .s X Wx (.Call (.Name "isinstance" p) [a, .Name y p2] [] pos) (eIsi t ma) := by
  obtain ⟨ta, pa, qa⟩ := ha
  refine ⟨_, pe_callB (CallR.or call_isi (SlX.call_isiSl (.type t.nm))) hb.gl hb.mg hb.bt (pa_cons pa (pa_cons (pe_ty hy) pa_nil) hs) hb.nn hb.nd hs rfl, fun F O env σ H Q S w => ?_⟩
  refine qa F O env σ H _ S (w.bind.imp (fun dx e1 w1 x H1 S1 k1 p1 => ?_) fun _ _ _ z => z)
  cases ix : isExc dx with
  | true => rw [ix] at w1; exact w1.elim
  | false =>
  rw [ix] at w1
  have w1 : ∀ v H', SR X.K F O e1 σ H' → Ke (Jo O) H H' → Po .s X.K F O e1 σ H H' v (.bl (isi t dx)) → Q v H' := w1
  cases ip : isPy dx with
  | true => exact .inl ⟨x, .ty t.nm, _, _, _, rfl, .ty _, Rep.ty (K := X.K) p1 ip, kit_ty (kit_isi t dx ip), w1 _ H1 S1 k1 (.bl _)⟩
  | false =>
    obtain ⟨a, ddx, C, vs, c, rfl, rfl, sl, f⟩ := Rep.py p1 ip ix
    rw [← hK] at f
    refine .inr ⟨a, C, ddx, vs, .ty t.nm, false, rfl, rfl, fun w h => h, sl, f.sc, f.si, f.no _ (ty_mem t), ?_⟩
    have e : isi t (.obj c) = false := by cases t <;> rfl
    have this := w1 (.bl (isi t (.obj c))) H1 S1 k1 (.bl _)
    rw [e] at this
    exact this
theorem pd_isi2 {y z : Str} {t u : Ty} {p2 p3 p4 : Pos} {k : Nat} (hb : Bn X "isinstance" (.builtin "isinstance")) (hy : Bn X y (.type t.nm)) (hz : Bn X z (.type u.nm)) (ha : PD .s X Wx a ma)
    (hs : starEach [a, .Tuple [.Name y p2, .Name z p3] k p4] X.env = (false, eval a X.env) :: starEach [.Tuple [.Name y p2, .Name z p3] k p4] X.env := by rfl) :
    PD .s X Wx (.Call (.Name "isinstance" p) [a, .Tuple [.Name y p2, .Name z p3] k p4] [] pos) (eIsi2 t u ma) := by
  obtain ⟨ta, pa, qa⟩ := ha
  refine ⟨_, pe_callB call_isiT hb.gl hb.mg hb.bt (pa_cons pa (pa_cons (pe_tup (pa_cons (pe_ty hy) (pa_cons (pe_ty hz) pa_nil))) pa_nil) hs) hb.nn hb.nd hs rfl, fun F O env σ H Q S w => ?_⟩
  refine qa F O env σ H _ S (w.bind.imp (fun dx e1 w1 x H1 S1 k1 p1 => ?_) fun _ _ _ z => z)
  cases ip : isPy dx with
  | false => rw [ip] at w1; exact w1.elim
  | true =>
    rw [ip] at w1
    refine ⟨by show 2 ≤ sizeLine; rw [sizeLine_eq]; decide, fun tp htp => ?_⟩
    have r2 : Rep (Ow F O) (upd H1 tp (.tup [.ty t.nm, .ty u.nm])) x dx := Rep.mj (Ke.new htp) p1
    have ty := Rep.ty (K := X.K) r2 ip
    refine ⟨x, tp, _, _, [.type t.nm, .type u.nm], _, rfl, upd_same, .cons (.ty _) (.cons (.ty _) .nil), ty, ?_, w1 _ _ (S1.new' htp) (k1.trans (Ke.new htp)) (.bl _)⟩
    refine kitAny_cons (kit_ty (kit_isi t dx ip)) (fun h => kitAny_cons (kit_ty (kit_isi u dx ip)) (fun h2 => ?_) fun h2 => ?_) fun h => ?_
    · rw [h, h2]; exact kitAny_nil
    · rw [h2]; simp
    · rw [h]; simp
end
end AH
namespace AH
open PySem PySem.Spec PyProof.Rows L2
variable [TheK]
/-! ### slots stored -/
theorem sl_put_ne : ∀ (e : Env) (i j : Nat) (s : Sl), j ≠ i → sl (put e i s) j = sl e j
  | [], _, _, _, _ => rfl
  | _ :: r, 0, 0, _, h => absurd rfl h
  | _ :: r, 0, j + 1, _, _ => rfl
  | _ :: r, i + 1, 0, _, _ => rfl
  | _ :: r, i + 1, j + 1, s, h => sl_put_ne r i j s (fun e => h (by rw [e]))
theorem sl_put_same : ∀ (e : Env) (i : Nat) (s : Sl), i < e.length → sl (put e i s) i = s
  | [], _, _, h => absurd h (Nat.not_lt_zero _)
  | _ :: _, 0, _, _ => rfl
  | _ :: r, i + 1, s, h => sl_put_same r i s (Nat.lt_of_succ_lt_succ h)
theorem sl_out : ∀ (e : Env) (i : Nat), e.length ≤ i → sl e i = .no
  | [], _, _ => rfl
  | _ :: _, 0, h => absurd h (Nat.not_succ_le_zero _)
  | _ :: r, i + 1, h => sl_out r i (Nat.le_of_succ_le_succ h)
theorem put_len : ∀ (e : Env) (i : Nat) (s : Sl), (put e i s).length = e.length
  | [], _, _ => rfl
  | _ :: _, 0, _ => rfl
  | _ :: r, i + 1, s => by show (put r i s).length + 1 = r.length + 1; rw [put_len r i s]
theorem put_out : ∀ (e : Env) (i : Nat) (s : Sl), e.length ≤ i → put e i s = e
  | [], _, _, _ => rfl
  | _ :: _, 0, _, h => absurd h (Nat.not_succ_le_zero _)
  | x :: r, i + 1, s, h => by show x :: put r i s = x :: r; rw [put_out r i s (Nat.le_of_succ_le_succ h)]
theorem get1_ne {σ : L2.St} {i j : Nat} {o : Option V} (h : j ≠ i) : get1 (σ.set i o) j = get1 σ j := by
  unfold get1; rw [List.getElem?_set_ne (Ne.symm h)]
theorem get1_same {σ : L2.St} {i : Nat} {o : Option V} (h : i < σ.length) : get1 (σ.set i o) i = o := by
  unfold get1; rw [List.getElem?_set_self h]; rfl
def setO (O : Nat → Option Addr) (i : Nat) (x : Option Addr) : Nat → Option Addr := fun j => if j = i then x else O j
theorem setO_same {O : Nat → Option Addr} {i : Nat} {x : Option Addr} : setO O i x i = x := if_pos rfl
theorem setO_ne {O : Nat → Option Addr} {i j : Nat} {x : Option Addr} (h : j ≠ i) : setO O i x j = O j := if_neg h
section
variable {K : PySem.W.Frag} {F : Fm} {O : Nat → Option Addr} {env : Env} {σ : L2.St} {H H' : Hp} {i : Nat} {v : V} {d : D} {p : Addr}
theorem OwB.own {F F' : Fm} {i : Nat} {a : Addr} (hb : F'.ba = F.ba) (h0 : F'.H0 = F.H0) (gp : ∀ a, F'.P a → F.P a) : ∀ {b : Bool}, OwB F i a b → OwB F' i a b
  | true, h => by show F'.ba i = _; rw [hb]; exact h
  | false, h => ⟨by rw [h0]; exact h.1, fun z => h.2 (gp a z)⟩
def NoP (s : Sl) : Prop := ∀ b xs, s ≠ .pst b xs
theorem noP_fix {s : Sl} (h : isFix s = false) : NoP s := fun b xs z => by rw [z] at h; cases h
theorem noP_own {s : Sl} (h : isOwn s = false) : NoP s := fun b xs z => by rw [z] at h; cases h
/-- a slot that is no roster's, changed -/
theorem Lnk.put {env : Env} {i : Nat} {s : Sl} (L : Lnk env) (hi : NoP (sl env i)) (hs : ∀ b j fs, s ≠ .ros b j fs) : Lnk (put env i s) := fun k b j fs h => by
  have hk : k ≠ i := fun z => by
    subst z
    by_cases hl : k < env.length
    · rw [sl_put_same _ _ _ hl] at h; exact hs _ _ _ h
    · rw [put_out _ _ _ (by omega), sl_out _ _ (by omega)] at h; cases h
  rw [sl_put_ne _ _ _ _ hk] at h
  obtain ⟨xs, h1⟩ := L k b j fs h
  have hji : j ≠ i := fun z => hi b xs (z ▸ h1)
  exact ⟨xs, by rw [sl_put_ne _ _ _ _ hji]; exact h1⟩
/-- a roster's second slot is not i -/
theorem Lnk.ne {env : Env} {i k j : Nat} {b : Bool} {fs : List D} (L : Lnk env) (hi : NoP (sl env i)) (h : sl env k = .ros b j fs) : j ≠ i := fun z => by
  obtain ⟨xs, h1⟩ := L k b j fs h
  exact hi b xs (z ▸ h1)
/-- a slot seen with other owners -/
theorem SlR.own {F' : Fm} {O' : Nat → Option Addr} {ov : Option V} (hb : F'.ba = F.ba) (h0 : F'.H0 = F.H0) (ho : O' i = O i) (gp : ∀ a, F'.P a → F.P a) (g : ∀ a, Ow F' O' a → Ow F O a ∨ H a = none) (gn : ∀ a, Jo O' a ∨ F'.N a → (Jo O a ∨ F.N a) ∨ H a = none) : ∀ {s : Sl}, (∀ b j fs, s = .ros b j fs → O' j = O j) → SlR K F O H i ov s → SlR K F' O' H i ov s := by
  intro s hoj h
  cases s with
  | no => exact ho.trans h
  | val d => obtain ⟨h, v, e, r⟩ := h; exact ⟨ho.trans h, v, e, r.sub g⟩
  | ro d => obtain ⟨h, v, e, r⟩ := h; exact ⟨ho.trans h, v, e, r.go Ke.refl g gn⟩
  | own xs => obtain ⟨a, vs, h, hz, e, q, r⟩ := h; exact ⟨a, vs, ho.trans h, ⟨by rw [h0]; exact hz.1, fun z => hz.2 (gp a z)⟩, e, q, r.sub g⟩
  | bor xs => obtain ⟨a, vs, h, hz, e, q, r⟩ := h; exact ⟨a, vs, ho.trans h, by rw [hb]; exact hz, e, q, r.sub g⟩
  | odc kvs => obtain ⟨a, vs, h, hz, e, q, r⟩ := h; exact ⟨a, vs, ho.trans h, ⟨by rw [h0]; exact hz.1, fun z => hz.2 (gp a z)⟩, e, q, r.sub g⟩
  | ldc kvs => obtain ⟨h, a, vs, o, hz, e, q, r⟩ := h; exact ⟨ho.trans h, a, vs, o, fun z => (gn a z).elim hz (al_of q), e, q, r.sub g⟩
  | ros b j fs =>
    obtain ⟨a, C, dx, us, p, h, hj, hz, e, q, n, r⟩ := h
    exact ⟨a, C, dx, us, p, ho.trans h, (hoj b j fs rfl).trans hj, OwB.own hb h0 gp hz, e, q, fun z => (gn dx z).elim n q.alx, r.sub g⟩
  | pst b xs => obtain ⟨a, vs, h, hz, e, q, r⟩ := h; exact ⟨a, vs, ho.trans h, OwB.own hb h0 gp hz, e, q, r.sub g⟩
theorem ow_setN {a : Addr} (w : Ow F (setO O i none) a) : Ow F O a := by
  rcases w with w | ⟨j, w⟩
  · exact .inl w
  · by_cases hj : j = i
    · subst hj; rw [setO_same] at w; cases w
    · rw [setO_ne hj] at w; exact .inr ⟨j, w⟩
theorem jo_setN {a : Addr} (w : Jo (setO O i none) a) : Jo O a := by
  obtain ⟨j, w⟩ := w
  by_cases hj : j = i
  · subst hj; rw [setO_same] at w; cases w
  · rw [setO_ne hj] at w; exact ⟨j, w⟩
theorem inj_setN (S : SR K F O env σ H) : ∀ k j a, setO O i none k = some a → setO O i none j = some a → k = j := fun k j a h1 h2 => by
  by_cases hk : k = i
  · rw [hk, setO_same] at h1; cases h1
  · by_cases hj : j = i
    · rw [hj, setO_same] at h2; cases h2
    · rw [setO_ne hk] at h1; rw [setO_ne hj] at h2; exact S.inj k j a h1 h2
/-- a value stored; what the slot owned is let go -/
theorem SR.setVal (S : SR K F O env σ H) (r : Rep (Ow F O) H v d) (hi : NoP (sl env i)) : SR K F (setO O i none) (put env i (.val d)) (σ.set i (some v)) H where
  slot := fun j => by
    by_cases hj : j = i
    · subst hj
      by_cases hl : j < env.length
      · rw [sl_put_same _ _ _ hl, get1_same (by rw [← S.len]; exact hl)]
        exact ⟨setO_same, v, rfl, r.sub fun a w => .inl (ow_setN w)⟩
      · rw [put_out _ _ _ (by omega), sl_out _ _ (by omega)]
        exact setO_same
    · rw [sl_put_ne _ _ _ _ hj, get1_ne hj]
      exact SlR.own (F := F) rfl rfl (setO_ne hj) (fun _ z => z) (fun a w => .inl (ow_setN w)) (fun a w => .inl (w.elim (fun w => .inl (jo_setN w)) .inr)) (fun _ _ _ e => setO_ne (S.lnk.ne hi e)) (S.slot j)
  inj := inj_setN S
  prot := fun a w => S.prot a (ow_setN w)
  keep := S.keep
  al := S.al
  len := by rw [put_len, List.length_set]; exact S.len
  nal := S.nal
  pt := S.pt
  lnk := S.lnk.put hi (fun _ _ _ z => by cases z)
theorem setO_id (h : O i = none) : setO O i none = O := by
  funext j
  by_cases hj : j = i
  · rw [hj, setO_same, h]
  · rw [setO_ne hj]
theorem SR.notOwn (S : SR K F O env σ H) (h : isOwn (sl env i) = false) : O i = none := by
  have s := S.slot i
  cases q : sl env i with
  | no => rw [q] at s; exact s
  | val d => rw [q] at s; exact s.1
  | ro d => rw [q] at s; exact s.1
  | _ => rw [q] at h; cases h
theorem SR.set (S : SR K F O env σ H) (h : isOwn (sl env i) = false) (r : Rep (Ow F O) H v d) : SR K F O (put env i (.val d)) (σ.set i (some v)) H := by
  have q := S.setVal (i := i) r (noP_own h)
  rw [setO_id (S.notOwn h)] at q
  exact q
theorem ow_setS {a : Addr} (w : Ow F (setO O i (some p)) a) : Ow (F.ad p) O a := by
  rcases w with w | ⟨j, w⟩
  · exact .inl (.inl w)
  · by_cases hj : j = i
    · subst hj; rw [setO_same] at w; cases w; exact .inl (.inr rfl)
    · rw [setO_ne hj] at w; exact .inr ⟨j, w⟩
theorem jo_setS {a : Addr} (w : Jo (setO O i (some p)) a) : Jo O a ∨ a = p := by
  obtain ⟨j, w⟩ := w
  by_cases hj : j = i
  · subst hj; rw [setO_same] at w; cases w; exact .inr rfl
  · rw [setO_ne hj] at w; exact .inl ⟨j, w⟩
/-- a new object becomes the slot's own -/
theorem SR.setNew (S : SR K (F.ad p) O env σ H) {s : Sl} (np : ¬ Jo O p) (hl : i < env.length) (hs : SlR K F (setO O i (some p)) H i (some (.ref p)) s) (hi : NoP (sl env i)) (hr : ∀ b j fs, s ≠ .ros b j fs := by intro _ _ _ z; cases z) : SR K F (setO O i (some p)) (put env i s) (σ.set i (some (.ref p))) H where
  slot := fun j => by
    by_cases hj : j = i
    · subst hj
      rw [sl_put_same _ _ _ hl, get1_same (by rw [← S.len]; exact hl)]
      exact hs
    · rw [sl_put_ne _ _ _ _ hj, get1_ne hj]
      refine SlR.own (F := F.ad p) (F' := F) rfl rfl (setO_ne hj) (fun _ z => .inl z) (fun a w => .inl (ow_setS w)) (fun a w => .inl ?_) (fun _ _ _ e => setO_ne (S.lnk.ne hi e)) (S.slot j)
      rcases w with w | w
      · rcases jo_setS w with w | rfl
        · exact .inl w
        · exact .inr (.inr rfl)
      · exact .inr (.inl w)
  inj := fun k j a h1 h2 => by
    by_cases hk : k = i
    · subst hk
      rw [setO_same] at h1
      cases h1
      by_cases hj : j = k
      · exact hj.symm
      · rw [setO_ne hj] at h2; exact absurd ⟨j, h2⟩ np
    · rw [setO_ne hk] at h1
      by_cases hj : j = i
      · subst hj
        rw [setO_same] at h2
        cases h2
        exact absurd ⟨k, h1⟩ np
      · rw [setO_ne hj] at h2; exact S.inj k j a h1 h2
  prot := fun a w => S.prot a (ow_setS w)
  keep := S.keep
  al := S.al
  len := by rw [put_len, List.length_set]; exact S.len
  nal := fun a w => S.nal a (.inl w)
  pt := fun a xs w => S.pt a xs (.inl w)
  lnk := S.lnk.put hi hr
/-- the slot's own object is changed -/
theorem SR.mut {a : Addr} {o' : HO} {s' : Sl} (S : SR K F O env σ H) (hO : O i = some a) (hb : F.bo a ∨ F.H0 a = none) (hs : SlR K F O (upd H a o') i (get1 σ i) s') (hl : Lnk (put env i s')) (ho : ∀ xs, o' ≠ .tup xs := by intro _ z; cases z) : SR K F O (put env i s') σ (upd H a o') := by
  have ja : Jo O a := ⟨i, hO⟩
  have k : Ke (Jo O) H (upd H a o') := Ke.mut ja
  refine ⟨fun j => ?_, S.inj, fun b w => k.there b (S.prot b w), fun b o e n => ?_, fun b e => k.there b (S.al b e), by rw [put_len]; exact S.len, fun b w => k.there b (S.nal b w), fun b xs w => by
    by_cases z : b = a
    · rw [z, upd_same]; exact fun y => ho xs (Option.some.inj y)
    · rw [upd_ne z]; exact S.pt b xs w, hl⟩
  · by_cases hj : j = i
    · subst hj
      by_cases hl : j < env.length
      · rw [sl_put_same _ _ _ hl]; exact hs
      · have q := S.slot j
        rw [sl_out _ _ (by omega)] at q
        have q2 : O j = none := q
        rw [hO] at q2
        cases q2
    · rw [sl_put_ne _ _ _ _ hj]
      have q := S.slot j
      have na : ∀ b, O j = some b → b ≠ a := fun b e z => hj (S.inj j i a (by rw [e, z]) hO)
      cases z : sl env j with
      | no => rw [z] at q; exact q
      | val d => rw [z] at q; obtain ⟨h, v, e, r⟩ := q; exact ⟨h, v, e, r.mj k⟩
      | ro d => rw [z] at q; obtain ⟨h, v, e, r⟩ := q; exact ⟨h, v, e, r.go k (fun _ z => .inl z) fun _ z => .inl z⟩
      | own xs => rw [z] at q; obtain ⟨b, vs, h, hz, e, q, r⟩ := q; exact ⟨b, vs, h, hz, e, by rw [upd_ne (na b h)]; exact q, r.mj k⟩
      | bor xs => rw [z] at q; obtain ⟨b, vs, h, hz, e, q, r⟩ := q; exact ⟨b, vs, h, hz, e, by rw [upd_ne (na b h)]; exact q, r.mj k⟩
      | odc kvs => rw [z] at q; obtain ⟨b, vs, h, hz, e, q, r⟩ := q; exact ⟨b, vs, h, hz, e, by rw [upd_ne (na b h)]; exact q, r.mj k⟩
      | ldc kvs => rw [z] at q; obtain ⟨h, b, vs, o, hz, e, q, r⟩ := q; exact ⟨h, b, vs, o, hz, e, k.stay _ _ (fun z => hz (.inl z)) q, r.mj k⟩
      | ros g l fs => rw [z] at q; obtain ⟨b, C, dx, us, p, h, hl, hz, e, q, n, r⟩ := q; exact ⟨b, C, dx, us, p, h, hl, hz, e, q.go (upd_ne (na b h)) (upd_ne fun y => n (.inl (y ▸ ja))), n, r.mj k⟩
      | pst g xs => rw [z] at q; obtain ⟨b, vs, h, hz, e, q, r⟩ := q; exact ⟨b, vs, h, hz, e, by rw [upd_ne (na b h)]; exact q, r.mj k⟩
  · have nb : b ≠ a := fun z => by
      subst z
      rcases hb with hb | hb
      · exact n hb
      · rw [hb] at e; cases e
    rw [upd_ne nb]
    exact S.keep b o e n
/-- an own list, lent or not: what stands there -/
theorem SR.ownAt (S : SR K F O env σ H) {xs : List D} (h : sl env i = .own xs ∨ sl env i = .bor xs) : ∃ a vs, O i = some a ∧ (F.bo a ∨ F.H0 a = none) ∧ get1 σ i = some (.ref a) ∧ H a = some (.lst vs) ∧ RepL (Ow F O) H vs xs ∧
    ∀ (H' : Hp) (vs' : List V) (ys : List D), H' a = some (.lst vs') → RepL (Ow F O) H' vs' ys → SlR K F O H' i (get1 σ i) (match sl env i with | .own _ => .own ys | .bor _ => .bor ys | s => s) := by
  have s := S.slot i
  rcases h with h | h
  · rw [h] at s ⊢
    obtain ⟨a, vs, h1, h0, h2, h3, r⟩ := s
    exact ⟨a, vs, h1, .inr h0.1, h2, h3, r, fun H' vs' ys e r' => ⟨a, vs', h1, h0, h2, e, r'⟩⟩
  · rw [h] at s ⊢
    obtain ⟨a, vs, h1, h0, h2, h3, r⟩ := s
    exact ⟨a, vs, h1, .inl ⟨i, h0⟩, h2, h3, r, fun H' vs' ys e r' => ⟨a, vs', h1, h0, h2, e, r'⟩⟩
/-- an own list's slot is changed -/
theorem SR.lnkL (S : SR K F O env σ H) {xs : List D} (h : sl env i = .own xs ∨ sl env i = .bor xs) {s : Sl} (hs : ∀ b j fs, s ≠ .ros b j fs) : Lnk (put env i s) :=
  S.lnk.put (fun b ys z => by rcases h with h | h <;> (rw [h] at z; cases z)) hs
theorem not_rosL {xs ys : List D} {s : Sl} (h : s = .own xs ∨ s = .bor xs) : ∀ b j fs, (match s with | .own _ => Sl.own ys | .bor _ => .bor ys | s => s) ≠ .ros b j fs := fun b j fs z => by
  rcases h with h | h <;> (subst h; cases z)
/-- the own object is let go -/
theorem SR.rel (S : SR K F O env σ H) {xs : List D} (h : sl env i = .own xs) : SR K F (setO O i none) (put env i (.val (.lst xs))) σ H := by
  have s := S.slot i
  rw [h] at s
  obtain ⟨a, vs, h1, h0, h2, h3, r⟩ := s
  have hl : i < env.length := Nat.lt_of_not_le fun z => by rw [sl_out _ _ z] at h; cases h
  have hi : NoP (sl env i) := fun b xs z => by rw [h] at z; cases z
  refine ⟨fun j => ?_, inj_setN S, fun a w => S.prot a (ow_setN w), S.keep, S.al, by rw [put_len]; exact S.len, S.nal, S.pt, S.lnk.put hi fun _ _ _ z => by cases z⟩
  by_cases hj : j = i
  · subst hj
    rw [sl_put_same _ _ _ hl]
    refine ⟨setO_same, _, h2, ?_⟩
    by_cases hw : Ow F (setO O j none) a
    · rcases hw with hw | ⟨k, hw⟩
      · exact absurd hw h0.2
      · by_cases hk : k = j
        · rw [hk, setO_same] at hw; cases hw
        · rw [setO_ne hk] at hw
          exact absurd (S.inj k j a hw h1) hk
    · exact .lst hw h3 (r.sub fun a w => .inl (ow_setN w))
  · rw [sl_put_ne _ _ _ _ hj]
    exact SlR.own (F := F) rfl rfl (setO_ne hj) (fun _ z => z) (fun a w => .inl (ow_setN w)) (fun a w => .inl (w.elim (fun w => .inl (jo_setN w)) .inr)) (fun _ _ _ e => setO_ne (S.lnk.ne hi e)) (S.slot j)
end
end AH
namespace AH
open PySem PySem.Spec PyProof.Rows L2
variable [TheK]
/-! ### targets -/
def Wp (js : List Nat) (σ σ' : L2.St) : Prop := ∀ vs : List Nat, (∀ j ∈ js, j ∈ vs) → wipe σ' vs = wipe σ vs
theorem wipe_get {σ : L2.St} {i : Nat} : ∀ {vs : List Nat}, (wipe σ vs)[i]? = if i ∈ vs then (σ[i]?).map (fun _ => none) else σ[i]?
  | [] => by simp [wipe]
  | v :: vs => by
    unfold wipe
    by_cases h : v = i
    · subst h
      by_cases hl : v < (wipe σ vs).length
      · rw [List.getElem?_set_self hl]
        rw [wipe_length] at hl
        simp [hl]
      · rw [List.getElem?_eq_none (by rw [List.length_set]; omega)]
        rw [wipe_length] at hl
        rw [List.getElem?_eq_none (l := σ) (by omega)]
        simp
    · rw [List.getElem?_set_ne h, wipe_get]
      have e : (i ∈ v :: vs) ↔ i ∈ vs := by
        rw [List.mem_cons]
        exact ⟨fun z => z.elim (fun z => absurd z.symm h) id, .inr⟩
      simp only [e]
theorem wipe_set {σ : L2.St} {i : Nat} {o : Option V} {vs : List Nat} (h : i ∈ vs) : wipe (σ.set i o) vs = wipe σ vs := by
  apply List.ext_getElem?
  intro j
  rw [wipe_get, wipe_get]
  by_cases hj : j = i
  · subst hj
    rw [if_pos h, if_pos h]
    by_cases hl : j < σ.length
    · rw [List.getElem?_set_self hl]
      simp [hl]
    · rw [List.getElem?_eq_none (by rw [List.length_set]; omega), List.getElem?_eq_none (by omega)]
  · rw [List.getElem?_set_ne (Ne.symm hj)]
def NoEx {α : Type} (m : M α) : Prop := ∀ e c fs e', m e ≠ .ex c fs e'
def GD (X : Cx) (tg : Expr) (js : List Nat) (g : DG) : Prop := (∀ d, NoEx (g d)) ∧ ∃ t : TG, PG X tg t ∧ ∀ (F : Fm) (O : Nat → Option Addr) (env : Env) (σ : L2.St) (H : Hp) (v : V) (d : D) (Q : L2.St → Hp → Prop), SR X.K F O env σ H → Rep (Ow F O) H v d →
  Want (g d) env (fun _ e1 => ∀ σ', SR X.K F O e1 σ' H → Wp js σ σ' → Q σ' H) (fun _ _ _ => True) → t v σ H Q
def GsD (X : Cx) (tgs : List Expr) (js : List Nat) (g : DGs) : Prop := (∀ d, NoEx (g d)) ∧ ∃ t : TGs, PGs X tgs t ∧ ∀ (F : Fm) (O : Nat → Option Addr) (env : Env) (σ : L2.St) (H : Hp) (vs : List V) (ds : List D) (Q : L2.St → Hp → Prop), SR X.K F O env σ H → RepL (Ow F O) H vs ds →
  Want (g ds) env (fun _ e1 => ∀ σ', SR X.K F O e1 σ' H → Wp js σ σ' → Q σ' H) (fun _ _ _ => True) → t vs σ H Q
section
variable {X : Cx} {Wx : WX} {e a b c d tg : Expr} {ma mb mc md : DE} {pos p : Pos}
theorem gd_name {i : Nat} {x : Str} (hN : X.N.Nodup) (hi : X.N[i]? = some x) (hx : Loc X.env.scope x) (hf : X.fn x = true ∨ X.env.scope.names.lookup x = some .local := by first | exact .inl rfl | exact .inr rfl | assumption) : GD X (.Name x pos) [i] (gN i) := by
  refine ⟨fun d e c fs e' h => ?_, _, pg_name hN hi hx hf, fun F O env σ H v d Q S r w => ?_⟩
  · unfold gN at h
    split at h <;> cases h
  unfold Want gN at w
  cases h : isOwn (sl env i) with
  | true => rw [h] at w; exact w.elim
  | false =>
    rw [h] at w
    exact w _ (S.set h r) fun vs hv => wipe_set (hv i (List.mem_singleton.mpr rfl))
theorem gsd_nil : GsD X [] [] gsNil := by
  refine ⟨fun d e c fs e' h => (by cases d <;> cases h), _, pgs_nil, fun F O env σ H vs ds Q S r w => ?_⟩
  cases r with
  | nil => exact ⟨rfl, w σ S fun _ _ => rfl⟩
  | cons _ _ => exact w.elim
theorem gsd_cons {es : List Expr} {js ks : List Nat} {g : DG} {gs : DGs} (h : GD X a js g) (hs : GsD X es ks gs) (he : (assignEach (a :: es) X.env).map (·.2) = assign a X.env :: (assignEach es X.env).map (·.2) := by rfl) : GsD X (a :: es) (js ++ ks) (gsCons g gs) := by
  obtain ⟨nx, t, p, q⟩ := h
  obtain ⟨nx', t', p', q'⟩ := hs
  refine ⟨fun d e c fs e' h => ?_, _, pgs_cons p p' he, fun F O env σ H vs ds Q S r w => ?_⟩
  · cases d with
    | nil => cases h
    | cons d ds =>
      have h : ((g d).bind fun _ => gs ds) e = .ex c fs e' := h
      unfold M.bind at h
      cases hg : g d e with
      | ok u e1 => rw [hg] at h; exact nx' ds e1 c fs e' h
      | ex c2 fs2 e1 => exact nx d e c2 fs2 e1 hg
      | bad => rw [hg] at h; cases h
  cases r with
  | nil => exact w.elim
  | cons r l =>
    refine ⟨_, _, rfl, q F O env σ H _ _ _ S r (w.bind.imp (fun _ e1 w1 σ' S' wp => ?_) fun _ _ _ z => z)⟩
    exact q' F O e1 σ' H _ _ _ S' l (Want.imp (m := gs _) w1 (fun _ e2 w2 σ2 S2 wp2 => w2 σ2 S2 fun us hu => (wp2 us fun j hj => hu j (List.mem_append_right _ hj)).trans (wp us fun j hj => hu j (List.mem_append_left _ hj))) fun _ _ _ z => z)
theorem gd_tup {es : List Expr} {k : Nat} {js : List Nat} {gs : DGs} {n : Nat} (hc : X.calm = true) (h : GsD X es js gs) (hlen : ∀ ds env o e, gs ds env = .ok o e → ds.length = n)
    (hn : (assignEach es X.env).length = n := by rfl) (hst : (assignEach es X.env).findIdx? (·.1) = none := by rfl) : GD X (.Tuple es k pos) js (gT gs) := by
  obtain ⟨nx, t, p, q⟩ := h
  have pe : PG X (.Tuple es k pos) (fun v σ H Q => gTup X.K n t v σ H Q ∨ gUnl X.K n t v σ H Q) := by
    refine ⟨fun pins s σ H v u Q I r hw => ?_⟩
    rcases hw with hw | hw
    · exact (pg_tup hc p hn hst).run pins s σ H v u Q I r hw
    · exact (pg_unl hc p hn hst).run pins s σ H v u Q I r hw
  refine ⟨fun d e c fs e' h => ?_, _, pe, fun F O env σ H v d Q S r w => ?_⟩
  · cases d with
    | tup xs => exact nx xs e c fs e' h
    | lst xs => exact nx xs e c fs e' h
    | _ => cases h
  have len : ∀ ds, Want (gs ds) env (fun _ e1 => ∀ σ', SR X.K F O e1 σ' H → Wp js σ σ' → Q σ' H) (fun _ _ _ => True) → ds.length = n := fun ds w => by
    unfold Want at w
    cases hm : gs ds env with
    | ok o e => exact hlen ds env o e hm
    | ex c fs e => exact absurd hm (nx ds env c fs e)
    | bad => rw [hm] at w; exact w.elim
  cases r with
  | tup n1 h1 l =>
    refine .inl ⟨_, _, rfl, .inl (.inl h1), ?_, q F O env σ H _ _ _ S l w⟩
    rw [l.len]; exact len _ w
  | lst n1 h1 l =>
    refine .inr ⟨_, _, rfl, .inl (.inl h1), ?_, q F O env σ H _ _ _ S l w⟩
    rw [l.len]; exact len _ w
  | _ => exact w.elim
theorem gs_len0 : ∀ ds env o e, gsNil ds env = .ok o e → ds.length = 0 := fun ds env o e h => by
  cases ds with
  | nil => rfl
  | cons _ _ => cases h
theorem gs_lenS {g : DG} {gs : DGs} {n : Nat} (h : ∀ ds env o e, gs ds env = .ok o e → ds.length = n) : ∀ ds env o e, gsCons g gs ds env = .ok o e → ds.length = n + 1 := fun ds env o e q => by
  cases ds with
  | nil => cases q
  | cons d ds =>
    show ds.length + 1 = n + 1
    have q : ((g d).bind fun _ => gs ds) env = .ok o e := q
    unfold M.bind at q
    cases hg : g d env with
    | ok u e1 => rw [hg] at q; rw [h ds e1 o e q]
    | ex c fs e1 => rw [hg] at q; cases q
    | bad => rw [hg] at q; cases q
/-! ### what is walked -/
/-- what may change while a thing is walked -/
abbrev Wj (F : Fm) (O : Nat → Option Addr) : Pr := fun a => Ow F O a ∧ (Jo O a ∨ F.N a)
theorem Ke.wj {F : Fm} {O : Nat → Option Addr} {H H' : Hp} (k : Ke (Jo O) H H') : Ke (Wj F O) H H' := k.imp fun _ z _ => ⟨.inr z, .inl z⟩
theorem Ke.wo {F : Fm} {O : Nat → Option Addr} {H H' : Hp} (k : Ke (Wj F O) H H') : Ke (Ow F O) H H' := k.imp fun _ z _ => z.1
structure Wk (F : Fm) (O : Nat → Option Addr) (H1 : Hp) (J : It) (xs : List D) : Prop where
  go : ∀ i H, Ke (Wj F O) H1 H → i < xs.length → J.go i H
  stop : ∀ H, Ke (Wj F O) H1 H → J.stop xs.length H
  yld : ∀ i H x H' d (W' : Pr), Ke (Wj F O) H1 H → (∀ a, W' a → Ow F O a ∨ H1 a = none) → (∀ a, W' a → H a ≠ none ∧ ∀ xs, H a ≠ some (.tup xs)) → xs[i]? = some d → J.yld i H x H' → (∀ a o, H a = some o → H' a = some o) ∧ Rep W' H' x d
def ID (X : Cx) (Wx : WX) (tg iter : Expr) (m : DI) : Prop := ∃ wi : TI, PI X tg iter wi ∧ ∀ (F : Fm) (O : Nat → Option Addr) (env : Env) (σ : L2.St) (H : Hp) (R : It → Hp → Prop), SR X.K F O env σ H →
  Want m env (fun xs e1 => ∀ J H1, SR X.K F O e1 σ H1 → Ke (Jo O) H H1 → Wk F O H1 J xs → R J H1) (XW X.K F O σ H Wx) → wi σ H R
section
variable {K : PySem.W.Frag} {F : Fm} {O : Nat → Option Addr} {H1 : Hp} {xs ys : List D} {vs ws : List V} {J : It}
theorem ow_step {O' : Nat → Option Addr} (g : ∀ a, Jo O' a → Jo O a ∨ H1 a = none) : ∀ a, Ow F O' a → Ow F O a ∨ H1 a = none := fun a w => w.elim (fun w => .inl (.inl w)) fun w => (g a w).elim (fun z => .inl (.inr z)) .inr
/-- items that stay where they are -/
theorem wk_at (l : RepL (Ow F O) H1 vs xs) (w : Walk J vs.length (fun H => Ke (Wj F O) H1 H) (YAt vs)) : Wk F O H1 J xs where
  go := fun i H k hi => w.goes i H (by rw [l.len]; exact hi) k
  stop := fun H k => by rw [← l.len]; exact w.stops H k
  yld := fun i H x H' d O' k g al hd y => by
    have hi : i < vs.length := by
      rw [l.len]
      exact (List.getElem?_eq_some_iff.mp hd).1
    obtain ⟨rfl, hx⟩ := w.yields i H x H' hi k y
    obtain ⟨v, hv, r⟩ := l.get hd
    rw [hx] at hv
    cases hv
    exact ⟨fun _ _ e => e, r.ke k.wo g⟩
/-- new pairs of such -/
theorem wk_pair {zs : List D} {n : Nat} {f h : Nat → Option V} (w : Walk J n (fun H => Ke (Wj F O) H1 H) (YPair f h)) (hn : zs.length = n)
    (hz : ∀ i d x y, zs[i]? = some d → f i = some x → h i = some y → ∃ dx dy, d = .tup [dx, dy] ∧ Rep (Ow F O) H1 x dx ∧ Rep (Ow F O) H1 y dy) : Wk F O H1 J zs where
  go := fun i H k hi => w.goes i H (by omega) k
  stop := fun H k => by rw [hn]; exact w.stops H k
  yld := fun i H v H' d O' k g al hd yy => by
    have hi : i < n := by
      rw [← hn]
      exact (List.getElem?_eq_some_iff.mp hd).1
    obtain ⟨T, x, y, rfl, hT, rfl, hx, hy⟩ := w.yields i H v H' hi k yy
    obtain ⟨dx, dy, rfl, rx, ry⟩ := hz i d x y hd hx hy
    have st : ∀ a o, H a = some o → upd H T (.tup [x, y]) a = some o := new_ext hT
    refine ⟨st, .tup (fun z => (al T z).1 hT) upd_same (.cons ?_ (.cons ?_ .nil))⟩
    · exact (rx.ke k.wo g).ke (ke_ext st) fun a z => .inl z
    · exact (ry.ke k.wo g).ke (ke_ext st) fun a z => .inl z
end
/-- a list or a tuple -/
def iAny (K : PySem.W.Frag) (tl : TE) : TI := fun σ H R => tl σ H fun x H1 => ∃ a, x = .ref a ∧ ((∃ xs, SqL K H1 a xs ∧ R (Itl K a) H1) ∨ ∃ xs, SqT K H1 a xs ∧ R (Itt K a) H1)
theorem pi_any {l : Expr} {tl : TE} (hl : PE X l tl) : PI X tg l (iAny X.K tl) := by
  refine ⟨fun pins s σ H R I h => ?_⟩
  refine thn (hl.run pins s σ H _ I h) fun v s1 ⟨x, H1, I1, r1, q1⟩ => ?_
  obtain ⟨a, e, q⟩ := q1
  subst e
  cases r1
  rcases q with ⟨xs, hq, q⟩ | ⟨xs, hq, q⟩
  · obtain ⟨its, rv, p, hz⟩ := I1.list hq
    refine wpAny_pyIter_list p.isList ?_
    refine ⟨s1.heap.objs.size, [s1.heap.objs.size], _, _, H1, rfl, I1.kept (t' := s1.toks) fun b o e => Heap.get?_push_of_some _ e, turn_list a _, ⟨_, Heap.get?_push_size _ rfl, rfl, rfl⟩, fun b hb => ?_, q⟩
    have e : b = s1.heap.objs.size := by simpa using hb
    subst e
    exact I1.fpOk (Nat.le_refl _) (I1.hok.fresh (Nat.le_refl _))
  · obtain ⟨its, rv, p, hz⟩ := I1.tuple hq
    refine wpAny_pyIter_tuple (show s1.heap.IsTuple a its.toArray from p) ?_
    refine ⟨s1.heap.objs.size, [s1.heap.objs.size], _, _, H1, rfl, I1.kept (t' := s1.toks) fun b o e => Heap.get?_push_of_some _ e, turn_tuple a _, ⟨_, Heap.get?_push_size _ rfl, rfl, rfl⟩, fun b hb => ?_, q⟩
    have e : b = s1.heap.objs.size := by simpa using hb
    subst e
    exact I1.fpOk (Nat.le_refl _) (I1.hok.fresh (Nat.le_refl _))
theorem id_seq (ha : PD .s X Wx a ma) : ID X Wx tg a (iSeq ma) := by
  obtain ⟨ta, pa, qa⟩ := ha
  refine ⟨_, pi_any pa, fun F O env σ H R S w => ?_⟩
  refine qa F O env σ H _ S (w.bind.imp (fun dx e1 w1 x H1 S1 k1 p1 => ?_) fun _ _ _ z => z)
  cases p1 with
  | lst n h l =>
    have st : ∀ H, Ke (Wj F O) H1 H → SqL X.K H _ _ := fun H k => .inl (.inl (k.stay _ _ (fun z => n z.1) h))
    exact ⟨_, rfl, .inl ⟨_, .inl (.inl h), w1 _ H1 S1 k1 (wk_at l (walk_list.mono (fun H k => st H k) fun _ _ _ _ _ _ y => y))⟩⟩
  | tup n h l =>
    have st : ∀ H, Ke (Wj F O) H1 H → SqT X.K H _ _ := fun H k => .inl (.inl (k.stay _ _ (fun z => n z.1) h))
    exact ⟨_, rfl, .inr ⟨_, .inl (.inl h), w1 _ H1 S1 k1 (wk_at l (walk_tup.mono (fun H k => st H k) fun _ _ _ _ _ _ y => y))⟩⟩
  | _ => exact w1.elim
theorem wk_range {F : Fm} {O : Nat → Option Addr} {H1 : Hp} (i j : Int) : Wk F O H1 (Itr i (j - i).toNat) (rng i j) where
  go := fun k H _ hk => by unfold rng at hk; rw [List.length_map, List.length_range] at hk; exact hk
  stop := fun H _ => by
    show (j - i).toNat ≤ (rng i j).length
    unfold rng; rw [List.length_map, List.length_range]; exact Nat.le_refl _
  yld := fun k H x H' d O' _ _ _ hd y => by
    obtain ⟨rfl, rfl⟩ := y
    refine ⟨fun _ _ e => e, ?_⟩
    unfold rng at hd
    rw [List.getElem?_map] at hd
    cases hr : (List.range (j - i).toNat)[k]? with
    | none => rw [hr] at hd; cases hd
    | some n =>
      rw [hr] at hd
      cases hd
      have e : n = k := by
        have := List.getElem?_range (n := (j - i).toNat) (i := k) ((List.getElem?_eq_some_iff.mp hr).1 |> fun z => by rw [List.length_range] at z; exact z)
        rw [this] at hr
        cases hr
        rfl
      rw [e]
      exact .int _
theorem id_range1 (hb : Bn X "range" (.type "range")) (ha : PD .s X Wx a ma) (hs : starEach [a] X.env = [(false, eval a X.env)] := by rfl) : ID X Wx tg (.Call (.Name "range" p) [a] [] pos) (AH.iRng1 ma) := by
  obtain ⟨ta, pa, qa⟩ := ha
  refine ⟨_, pi_range1 hb.gl hb.mg (pa_cons pa pa_nil hs) hs, fun F O env σ H R S w => ?_⟩
  refine qa F O env σ H _ S (w.bind.imp (fun dx e1 w1 x H1 S1 k1 p1 => ?_) fun _ _ _ z => z)
  cases p1 with
  | int j =>
    cases hr : rngOk 0 j with
    | false =>
      have w2 : Want (if rngOk 0 j = true then M.pure (rng 0 j) else fun _ => AH.R.bad) e1 _ _ := w1
      rw [hr] at w2
      exact w2.elim
    | true =>
      have w2 : Want (if rngOk 0 j = true then M.pure (rng 0 j) else fun _ => AH.R.bad) e1 (fun xs e1 => ∀ J H1, SR X.K F O e1 σ H1 → Ke (Jo O) H H1 → Wk F O H1 J xs → R J H1) (XW X.K F O σ H Wx) := w1
      rw [hr] at w2
      obtain ⟨h1, h2⟩ := Bool.and_eq_true_iff.mp hr
      obtain ⟨h3, h4⟩ := Bool.and_eq_true_iff.mp h1
      have q := w2 (Itr 0 (j - 0).toNat) H1 S1 k1 (wk_range 0 j)
      rw [Int.sub_zero] at q
      exact ⟨j, rfl, of_decide_eq_true h4, of_decide_eq_true h2, q⟩
  | _ => exact w1.elim
theorem id_range2 (hb : Bn X "range" (.type "range")) (ha : PD .s X Wx a ma) (hb' : PD .s X Wx b mb) (hs : starEach [a, b] X.env = [(false, eval a X.env), (false, eval b X.env)] := by rfl) (hs2 : starEach [b] X.env = [(false, eval b X.env)] := by rfl) :
    ID X Wx tg (.Call (.Name "range" p) [a, b] [] pos) (AH.iRng2 ma mb) := by
  obtain ⟨ta, pa, qa⟩ := ha
  obtain ⟨tb, pb, qb⟩ := hb'
  refine ⟨_, pi_range2 hb.gl hb.mg (pa_cons pa (pa_cons pb pa_nil hs2) (by rw [hs, hs2])) hs hs2, fun F O env σ H R S w => ?_⟩
  refine qa F O env σ H _ S (w.bind.imp (fun dx e1 w1 x H1 S1 k1 p1 => ?_) fun _ _ _ z => z)
  refine qb F O e1 σ H1 _ S1 (w1.bind.imp (fun dy e2 w2 y H2 S2 k2 p2 => ?_) (XW.later k1))
  cases p1 with
  | int i => cases p2 with
    | int j =>
      have w3 : Want (if rngOk i j = true then M.pure (rng i j) else fun _ => AH.R.bad) e2 (fun xs e1 => ∀ J H1, SR X.K F O e1 σ H1 → Ke (Jo O) H H1 → Wk F O H1 J xs → R J H1) (XW X.K F O σ H Wx) := w2
      cases hr : rngOk i j with
      | false => rw [hr] at w3; exact w3.elim
      | true =>
        rw [hr] at w3
        obtain ⟨h1, h2⟩ := Bool.and_eq_true_iff.mp hr
        obtain ⟨h3, h4⟩ := Bool.and_eq_true_iff.mp h1
        obtain ⟨h5, h6⟩ := Bool.and_eq_true_iff.mp h3
        exact ⟨i, j, rfl, ⟨of_decide_eq_true h5, of_decide_eq_true h6, of_decide_eq_true h4, of_decide_eq_true h2⟩, w3 _ H2 S2 (k1.trans k2) (wk_range i j)⟩
    | _ => exact w2.elim
  | _ => exact w2.elim
theorem pairs_get {xs ys : List D} {i : Nat} {d : D} (h : (pairs xs ys)[i]? = some d) : ∃ x y, xs[i]? = some x ∧ ys[i]? = some y ∧ d = .tup [x, y] := by
  unfold pairs at h
  rw [List.getElem?_map] at h
  cases hz : (xs.zip ys)[i]? with
  | none => rw [hz] at h; cases h
  | some q =>
    rw [hz] at h
    cases h
    obtain ⟨h1, h2⟩ := List.getElem?_zip_eq_some.mp hz
    exact ⟨_, _, h1, h2, rfl⟩
end
end AH
namespace AH
open PySem PySem.Spec PyProof.Rows L2
variable [TheK]
/-! ### statements -/
structure KeS (O : Nat → Option Addr) (H : Hp) (O' : Nat → Option Addr) (H' : Hp) : Prop where
  ke : Ke (Jo O) H H'
  ow : ∀ a, Jo O' a → Jo O a ∨ H a = none
theorem KeS.refl {O : Nat → Option Addr} {H : Hp} : KeS O H O H := ⟨Ke.refl, fun _ z => .inl z⟩
theorem KeS.of {O : Nat → Option Addr} {H H' : Hp} (k : Ke (Jo O) H H') : KeS O H O H' := ⟨k, fun _ z => .inl z⟩
theorem KeS.trans {O O1 O2 : Nat → Option Addr} {H H1 H2 : Hp} (a : KeS O H O1 H1) (b : KeS O1 H1 O2 H2) : KeS O H O2 H2 where
  ke := ⟨fun x o n e => b.ke.stay x o (fun z => (a.ow x z).elim n fun q => by rw [q] at e; cases e) (a.ke.stay x o n e), fun x e => b.ke.there x (a.ke.there x e)⟩
  ow := fun x z => by
    rcases b.ow x z with z | z
    · exact a.ow x z
    · refine .inr ?_
      cases q : H x with
      | none => rfl
      | some o => exact absurd z (a.ke.there x (by rw [q]; simp))
/-- what stands in the lent lists keeps apart from Z -/
def BoR (Z : Pr) (F : Fm) (e1 : Env) (H : Hp) : Prop := ∀ i xs, sl e1 i = .bor xs → ∃ a vs, F.ba i = some a ∧ H a = some (.lst vs) ∧ RepL Z H vs xs
/-- what a def hands back -/
def Ro (fl : Fl) (K : PySem.W.Frag) (F : Fm) (O : Nat → Option Addr) (e1 : Env) (σ : L2.St) (H : Hp) (v : V) (d : D) : Prop := match fl with
  | .f => ∃ p vs xs, v = .ref p ∧ d = .lst xs ∧ F.H0 p = none ∧ H p = some (.lst vs) ∧ RepL (fun a => F.P a ∨ a = p) H vs xs ∧ BoR (fun a => F.P a ∨ a = p) F e1 H
  | .fd => ∃ p ks kvs, v = .ref p ∧ d = .dic kvs ∧ F.H0 p = none ∧ H p = some (.dT ks) ∧ RepK (fun a => F.P a ∨ a = p) H ks kvs ∧ BoR (fun a => F.P a ∨ a = p) F e1 H
  | .ft => ∃ p vs xs, v = .ref p ∧ d = .tup xs ∧ H p = some (TuO p vs) ∧ RepL F.P H vs xs
  | .fr => ∃ a p, NewR K (fun b => (F.P b ∨ b = a) ∨ b = p) F.N F.H0 H v d a p ∧ BoR (fun b => (F.P b ∨ b = a) ∨ b = p) F e1 H
  | _ => Rep F.P H v d
def EndR (fl : Fl) (K : PySem.W.Frag) (F : Fm) (O : Nat → Option Addr) (e1 : Env) (σ : L2.St) (H : Hp) (D : Ends) : Out → Prop
  | .nx => D.nx σ H
  | .bk => D.bk σ H
  | .ct => D.ct σ H
  | .rt d => ∀ v, Ro fl K F O e1 σ H v d → D.rt v H
def XWs (K : PySem.W.Frag) (F : Fm) (O : Nat → Option Addr) (H : Hp) (Wx : WX) : Str → List D → Env → Prop := fun c fs e1 =>
  ∀ O' σ' cls d H', SR K F O' e1 σ' H' → KeS O H O' H' → XR K (Ow F O') c fs cls d H' → Wx cls d σ' H'
theorem XWs.later {K : PySem.W.Frag} {F : Fm} {O O1 : Nat → Option Addr} {H H1 : Hp} {Wx : WX} (k : KeS O H O1 H1) : ∀ c fs e, XWs K F O H Wx c fs e → XWs K F O1 H1 Wx c fs e :=
  fun _ _ _ h O' σ' cls d H' S k1 x => h O' σ' cls d H' S (k.trans k1) x
theorem XWs.xw {K : PySem.W.Frag} {F : Fm} {O : Nat → Option Addr} {σ : L2.St} {H : Hp} {Wx : WX} : ∀ c fs e, XWs K F O H Wx c fs e → XW K F O σ H Wx c fs e :=
  fun _ _ _ h cls d H' S k1 x => h O σ cls d H' S (.of k1) x
def Post (fl : Fl) (K : PySem.W.Frag) (F : Fm) (O : Nat → Option Addr) (H : Hp) (D : Ends) : Out → Env → Prop := fun o e1 => ∀ O' σ' H', SR K F O' e1 σ' H' → KeS O H O' H' → EndR fl K F O' e1 σ' H' D o
def SD (fl : Fl) (X : Cx) (Wx : WX) (st : Stmt) (m : DS) : Prop := ∃ t : TS, PS X st t ∧ ∀ (F : Fm) (O : Nat → Option Addr) (env : Env) (σ : L2.St) (H : Hp) (D : Ends), SR X.K F O env σ H →
  Want m env (Post fl X.K F O H D) (XWs X.K F O H Wx) → t D σ H
def SsD (fl : Fl) (X : Cx) (Wx : WX) (st : List Stmt) (m : DS) : Prop := ∃ t : TS, PSs X st t ∧ ∀ (F : Fm) (O : Nat → Option Addr) (env : Env) (σ : L2.St) (H : Hp) (D : Ends), SR X.K F O env σ H →
  Want m env (Post fl X.K F O H D) (XWs X.K F O H Wx) → t D σ H
theorem Post.later {fl : Fl} {K : PySem.W.Frag} {F : Fm} {O O1 : Nat → Option Addr} {H H1 : Hp} {D : Ends} (k : KeS O H O1 H1) : ∀ o e, Post fl K F O H D o e → Post fl K F O1 H1 D o e :=
  fun _ _ h O' σ' H' S k1 => h O' σ' H' S (k.trans k1)
theorem Want.gd {α : Type} {m : M α} {c : Bool} {a : α} {e e' : Env} {Q : α → Env → Prop} {E : Str → List D → Env → Prop} (h : Want m e Q E) (eq : m e = if c = true then .bad else .ok a e') : c = false ∧ Q a e' := by
  unfold Want at h
  rw [eq] at h
  cases c with
  | true => exact h.elim
  | false => exact ⟨rfl, h⟩
section
variable {fl : Fl} {X : Cx} {Wx : WX} {e a b c d tg : Expr} {ma mb mc md : DE} {pos p : Pos} {st : Stmt} {rest : List Stmt} {m n : DS}
theorem ss_nil : SsD fl X Wx [] sNil := ⟨_, pss_nil, fun F O env σ H D S w => w O σ H S .refl⟩
theorem ss_cons (h : SD fl X Wx st m) (hr : SsD fl X Wx rest n) : SsD fl X Wx (st :: rest) (sSeq m n) := by
  obtain ⟨t, p, q⟩ := h
  obtain ⟨t', p', q'⟩ := hr
  refine ⟨_, pss_cons p p', fun F O env σ H D S w => ?_⟩
  refine q F O env σ H _ S (w.bind.imp (fun o e1 w1 O1 σ1 H1 S1 k1 => ?_) fun _ _ _ z => z)
  cases o with
  | nx => exact q' F O1 e1 σ1 H1 D S1 (Want.imp (m := n) w1 (Post.later k1) (XWs.later k1))
  | bk => exact w1 O1 σ1 H1 S1 k1
  | ct => exact w1 O1 σ1 H1 S1 k1
  | rt d => exact w1 O1 σ1 H1 S1 k1
theorem ss_one (h : SD fl X Wx st m) : SsD fl X Wx [st] m := let ⟨t, p, q⟩ := h; ⟨t, pss_one p, q⟩
/-- name = a value -/
def sAsgN (i : Nat) (a : DE) : DS := a.bind fun x => fun e => if isFix (sl e i) then .bad else .ok .nx (put e i (.val x))
theorem sd_asgN {i : Nat} {x : Str} (hN : X.N.Nodup) (hi : X.N[i]? = some x) (hx : Loc X.env.scope x) (ha : PD .s X Wx a ma) (hs : swapsWith a (some (.Name x p)) pos.line X.env = pure false := by rfl)
    (hf : X.fn x = true ∨ X.env.scope.names.lookup x = some .local := by first | exact .inl rfl | exact .inr rfl | assumption) : SD fl X Wx (.Assign [.Name x p] a pos) (sAsgN i ma) := by
  obtain ⟨ta, pa, qa⟩ := ha
  refine ⟨_, ps_set hN hi hx pa hs hf, fun F O env σ H D S w => ?_⟩
  refine qa F O env σ H _ S (w.bind.imp (fun dx e1 w1 x H1 S1 k1 p1 => ?_) XWs.xw)
  obtain ⟨hf1, w2⟩ := w1.gd rfl
  exact w2 _ _ H1 (S1.setVal p1 (noP_fix hf1)) ⟨k1, fun a z => .inl (jo_setN z)⟩
/-- name = a new list, kept as the frame's own -/
theorem keS_new {O : Nat → Option Addr} {H H' : Hp} {i : Nat} {q : Addr} (k : Ke (Jo O) H H') (hq : H q = none) : KeS O H (setO O i (some q)) H' :=
  ⟨k, fun a z => (jo_setS z).elim .inl fun e => .inr (by rw [e]; exact hq)⟩
theorem SR.own1 {K : PySem.W.Frag} {F : Fm} {O : Nat → Option Addr} {e1 : Env} {σ : L2.St} {H H' : Hp} {v : V} {xs : List D} {i : Nat} (al : ∀ a, F.H0 a ≠ none → H a ≠ none) (ow : ∀ a, Ow F O a → H a ≠ none) (r : Po .f K F O e1 σ H H' v (.lst xs)) (hl : i < e1.length) (hi : NoP (sl e1 i)) :
    ∃ q, v = .ref q ∧ H q = none ∧ SR K F (setO O i (some q)) (put e1 i (.own xs)) (σ.set i (some v)) H' := by
  obtain ⟨q, vs, xs', rfl, e, hq, hq', l, S⟩ := r
  cases e
  have np : ¬ Jo O q := fun z => ow q (.inr z) hq
  refine ⟨q, rfl, hq, S.setNew np hl ⟨q, vs, setO_same, ⟨?_, fun z => ow q (.inl z) hq⟩, rfl, hq', l.sub fun a w => .inl (ow_setS w)⟩ hi⟩
  cases z : F.H0 q with
  | none => rfl
  | some o => exact absurd hq (al q (by rw [z]; simp))
theorem SR.own1d {K : PySem.W.Frag} {F : Fm} {O : Nat → Option Addr} {e1 : Env} {σ : L2.St} {H H' : Hp} {v : V} {xs : List (List Key × D)} {i : Nat} (al : ∀ a, F.H0 a ≠ none → H a ≠ none) (ow : ∀ a, Ow F O a → H a ≠ none) (r : Po .fd K F O e1 σ H H' v (.dic xs)) (hl : i < e1.length) (hi : NoP (sl e1 i)) :
    ∃ q, v = .ref q ∧ H q = none ∧ SR K F (setO O i (some q)) (put e1 i (.odc xs)) (σ.set i (some v)) H' := by
  obtain ⟨q, vs, xs', rfl, e, hq, hq', l, S⟩ := r
  cases e
  have np : ¬ Jo O q := fun z => ow q (.inr z) hq
  refine ⟨q, rfl, hq, S.setNew np hl ⟨q, vs, setO_same, ⟨?_, fun z => ow q (.inl z) hq⟩, rfl, hq', l.sub fun a w => .inl (ow_setS w)⟩ hi⟩
  cases z : F.H0 q with
  | none => rfl
  | some o => exact absurd hq (al q (by rw [z]; simp))
theorem sd_own {i : Nat} {x : Str} (hN : X.N.Nodup) (hi : X.N[i]? = some x) (hx : Loc X.env.scope x) (ha : PD .f X Wx a ma) (hs : swapsWith a (some (.Name x p)) pos.line X.env = pure false := by rfl)
    (hf : X.fn x = true ∨ X.env.scope.names.lookup x = some .local := by first | exact .inl rfl | exact .inr rfl | assumption) : SD fl X Wx (.Assign [.Name x p] a pos) (sOwn i ma) := by
  obtain ⟨ta, pa, qa⟩ := ha
  refine ⟨_, ps_set hN hi hx pa hs hf, fun F O env σ H D S w => ?_⟩
  refine qa F O env σ H _ S (w.bind.imp (fun dx e1 w1 x H1 S1 k1 p1 => ?_) XWs.xw)
  obtain ⟨q, vs, xs, rfl, rfl, hq, r⟩ := id p1
  obtain ⟨h, w2⟩ := w1.gd rfl
  obtain ⟨h1, h2⟩ := Bool.or_eq_false_iff.mp h
  have hl : i < e1.length := by simpa using h2
  obtain ⟨q', e, hq', S2⟩ := SR.own1 (i := i) S.al S.prot p1 hl (noP_fix h1)
  cases e
  exact w2 _ _ H1 S2 (keS_new k1 hq)
theorem sd_ownD {i : Nat} {x : Str} (hN : X.N.Nodup) (hi : X.N[i]? = some x) (hx : Loc X.env.scope x) (ha : PD .fd X Wx a ma) (hs : swapsWith a (some (.Name x p)) pos.line X.env = pure false := by rfl)
    (hf : X.fn x = true ∨ X.env.scope.names.lookup x = some .local := by first | exact .inl rfl | exact .inr rfl | assumption) : SD fl X Wx (.Assign [.Name x p] a pos) (sOwnD i ma) := by
  obtain ⟨ta, pa, qa⟩ := ha
  refine ⟨_, ps_set hN hi hx pa hs hf, fun F O env σ H D S w => ?_⟩
  refine qa F O env σ H _ S (w.bind.imp (fun dx e1 w1 x H1 S1 k1 p1 => ?_) XWs.xw)
  obtain ⟨q, vs, xs, rfl, rfl, hq, r⟩ := id p1
  obtain ⟨h, w2⟩ := w1.gd rfl
  obtain ⟨h1, h2⟩ := Bool.or_eq_false_iff.mp h
  have hl : i < e1.length := by simpa using h2
  obtain ⟨q', e, hq', S2⟩ := SR.own1d (i := i) S.al S.prot p1 hl (noP_fix h1)
  cases e
  exact w2 _ _ H1 S2 (keS_new k1 hq)
/-- the own list is let go, ahead of a block -/
theorem ss_rel {i : Nat} {sts : List Stmt} (h : SsD fl X Wx sts n) : SsD fl X Wx sts (sSeq (sRelL i) n) := by
  obtain ⟨t, p, q⟩ := h
  refine ⟨t, p, fun F O env σ H D S w => ?_⟩
  have w := w.bind
  unfold Want sRelL at w
  cases hs : sl env i with
  | own xs =>
    rw [hs] at w
    have k : KeS O H (setO O i none) H := ⟨Ke.refl, fun a z => .inl (jo_setN z)⟩
    exact q F _ _ σ H D (S.rel hs) (Want.imp (m := n) w (Post.later k) (XWs.later k))
  | _ => rw [hs] at w; exact w.elim
/-- (a, b, ..) = a value -/
theorem sd_asgT {js : List Nat} {g : DG} (ha : PD .s X Wx a ma) (hg : GD X tg js g) (hs : swapsWithSole [tg] a pos.line X.env = pure false := by rfl) (hw : swappedStores [tg] a X.env = pure none := by rfl)
    (h1 : (assignEach [tg] X.env).map (·.2) = [assign tg X.env] := by rfl) : SD fl X Wx (.Assign [tg] a pos) (sAsg ma g) := by
  obtain ⟨ta, pa, qa⟩ := ha
  obtain ⟨nx, t, pt, qt⟩ := hg
  refine ⟨_, ps_asg pa pt hs hw h1, fun F O env σ H D S w => ?_⟩
  refine qa F O env σ H _ S (w.bind.imp (fun dx e1 w1 x H1 S1 k1 p1 => ?_) XWs.xw)
  refine qt F O e1 σ H1 x dx _ S1 p1 ?_
  have w2 := w1.bind
  unfold Want at w2 ⊢
  cases hm : g dx e1 with
  | ok u e2 => rw [hm] at w2; exact fun σ' S' _ => w2 O σ' H1 S' (.of k1)
  | ex c fs e2 => exact absurd hm (nx dx e1 c fs e2)
  | bad => rw [hm] at w2; exact w2
end
end AH
namespace AH
open PySem PySem.Spec PyProof.Rows L2
variable [TheK]
section
variable {fl : Fl} {X : Cx} {Wx : WX} {e a b c d tg : Expr} {ma mb mc md : DE} {pos p : Pos} {st : Stmt} {rest : List Stmt} {m n : DS}
theorem sd_if {t : DT} {sa sb : List Stmt} (hc : TD X Wx c t) (ha : SsD fl X Wx sa m) (hb : SsD fl X Wx sb n) : SD fl X Wx (.If c sa sb pos) (sIf t m n) := by
  obtain ⟨tc, pc, qc⟩ := hc
  obtain ⟨ta, pa, qa⟩ := ha
  obtain ⟨tb, pb, qb⟩ := hb
  refine ⟨_, ps_if pc pa pb, fun F O env σ H D S w => ?_⟩
  refine qc F O env σ H _ S (w.bind.imp (fun k e1 w1 H1 S1 k1 => ?_) XWs.xw)
  cases k with
  | true => exact qa F O e1 σ H1 D S1 (Want.imp (m := m) w1 (Post.later (.of k1)) (XWs.later (.of k1)))
  | false => exact qb F O e1 σ H1 D S1 (Want.imp (m := n) w1 (Post.later (.of k1)) (XWs.later (.of k1)))
theorem sd_ret (ha : PD .s X Wx a ma) : SD .s X Wx (.Return (some a) pos) (sRet ma) := by
  obtain ⟨ta, pa, qa⟩ := ha
  refine ⟨_, ps_ret pa, fun F O env σ H D S w => ?_⟩
  exact qa F O env σ H _ S (w.bind.imp (fun dx e1 w1 x H1 S1 k1 p1 => w1 O σ H1 S1 (.of k1) x (Rep.sub (fun a z => .inl (.inl z)) p1)) XWs.xw)
theorem al_none {F : Fm} {H : Hp} {p : Addr} (al : ∀ a, F.H0 a ≠ none → H a ≠ none) (h : H p = none) : F.H0 p = none := by
  cases z : F.H0 p with
  | none => rfl
  | some o => exact absurd h (al p (by rw [z]; simp))
theorem SR.boR {K : PySem.W.Frag} {F F' : Fm} {O : Nat → Option Addr} {env : Env} {σ : L2.St} {H : Hp} (S : SR K F' O env σ H) (hb : F'.ba = F.ba) {Z : Pr} (g : ∀ a, Z a → Ow F' O a) : BoR Z F env H := fun j ys hj => by
  have s := S.slot j
  rw [hj] at s
  obtain ⟨b, us, g1, g2, g3, g4, g5⟩ := s
  exact ⟨b, us, by rw [← hb]; exact g2, g4, g5.sub fun a z => .inl (g a z)⟩
theorem sd_retF (ha : PD .f X Wx a ma) : SD .f X Wx (.Return (some a) pos) (sRet ma) := by
  obtain ⟨ta, pa, qa⟩ := ha
  refine ⟨_, ps_ret pa, fun F O env σ H D S w => ?_⟩
  refine qa F O env σ H _ S (w.bind.imp (fun dx e1 w1 x H1 S1 k1 p1 => w1 O σ H1 S1 (.of k1) x ?_) XWs.xw)
  obtain ⟨q, vs, xs, rfl, rfl, hq, hq', l, S2⟩ := p1
  exact ⟨q, vs, xs, rfl, rfl, al_none S.al hq, hq', l.sub fun a z => .inl (.inl z), S2.boR rfl fun a z => .inl z⟩
/-- the frame's own list handed back -/
theorem sd_expr (ha : PD .s X Wx a ma) (hs : swapsWith a none pos.line X.env = pure false := by rfl) : SD fl X Wx (.Expr a pos) (sExpr ma) := by
  obtain ⟨ta, pa, qa⟩ := ha
  refine ⟨_, ps_expr pa hs, fun F O env σ H D S w => ?_⟩
  exact qa F O env σ H _ S (w.bind.imp (fun dx e1 w1 x H1 S1 k1 p1 => w1 O σ H1 S1 (.of k1)) XWs.xw)
/-! ### lists changed -/
theorem Want.ownL {K : PySem.W.Frag} {F : Fm} {O : Nat → Option Addr} {env : Env} {σ : L2.St} {H : Hp} {i : Nat} {Q : List D → Env → Prop} {E : Str → List D → Env → Prop} (S : SR K F O env σ H) (h : Want (AH.ownL i) env Q E) :
    ∃ xs a vs, O i = some a ∧ (F.bo a ∨ F.H0 a = none) ∧ get1 σ i = some (.ref a) ∧ H a = some (.lst vs) ∧ RepL (Ow F O) H vs xs ∧ Q xs env ∧
      ∀ (vs' : List V) (ys : List D), RepL (Ow F O) H vs' ys → SR K F O (putL env i ys) σ (upd H a (.lst vs')) := by
  have go : ∀ xs, (sl env i = .own xs ∨ sl env i = .bor xs) → Q xs env → ∃ xs a vs, O i = some a ∧ (F.bo a ∨ F.H0 a = none) ∧ get1 σ i = some (.ref a) ∧ H a = some (.lst vs) ∧ RepL (Ow F O) H vs xs ∧ Q xs env ∧
      ∀ (vs' : List V) (ys : List D), RepL (Ow F O) H vs' ys → SR K F O (putL env i ys) σ (upd H a (.lst vs')) := fun xs hs hq => by
    obtain ⟨a, vs, h1, h2, h3, h4, r, f⟩ := S.ownAt hs
    refine ⟨xs, a, vs, h1, h2, h3, h4, r, hq, fun vs' ys r' => ?_⟩
    exact S.mut h1 h2 (f _ vs' ys upd_same (r'.mj (Ke.mut ⟨i, h1⟩))) (S.lnkL hs (not_rosL hs))
  unfold Want AH.ownL at h
  cases q : sl env i with
  | own xs => rw [q] at h; exact go xs (.inl q) h
  | bor xs => rw [q] at h; exact go xs (.inr q) h
  | _ => rw [q] at h; exact h.elim
theorem ke_mutJ {O : Nat → Option Addr} {H : Hp} {i : Nat} {a : Addr} {o : HO} (h : O i = some a) : Ke (Jo O) H (upd H a o) := Ke.mut ⟨i, h⟩
theorem sd_app {i : Nat} {x : Str} {p1 p2 p3 : Pos} (hN : X.N[i]? = some x) (hv : Vis X.env.scope x) (ha : PD .s X Wx a ma)
    (hfew : ((backTo p3 (starEach [a] X.env)).all (fun x => !x.1) && (backToKw p3 (keywordEach [] X.env)).all (fun x => x.1.isSome)
      && decide (([a] : List Expr).length + ([] : List Keyword).length + (if ([] : List Keyword).isEmpty then 0 else 1) < 30)) = true := by rfl)
    (hline : (p2.endLine == p3.line) = true := by rfl) (hs : starEach [a] X.env = (false, eval a X.env) :: starEach [] X.env := by rfl)
    (hd : (x == ("__debug__" : Str)) = false := by decide) (hcd : (x == ("__classdict__" : Str)) = false := by decide) :
    SD fl X Wx (.Expr (.Call (.Attribute (.Name x p1) "append" p2) [a] [] p3) pos) (sApp i ma) := by
  obtain ⟨ta, pa, qa⟩ := ha
  refine ⟨_, ps_expr (pe_bm PySem.F.plainAttrs_list PySem.F.slot_list_append PySem.F.type_list_append mt_append (pe_var hN hv hd hcd) (pa_cons pa pa_nil hs) rfl hfew hline hs rfl), fun F O env σ H D S w => ?_⟩
  obtain ⟨xs0, q, vs0, hO, hb, hg, hq, l0, w, _⟩ := w.bind.ownL S
  refine ⟨.ref q, get1_some hg, .inl ⟨rfl, vs0, .inl (.inl hq)⟩, ?_⟩
  refine qa F O env σ H _ S (w.bind.imp (fun dx e1 w1 x H1 S1 k1 p1 => ?_) XWs.xw)
  obtain ⟨xs, q', vs, hO', hb', hg', hq', l, w2, f⟩ := w1.bind.ownL S1
  obtain rfl : q' = q := Option.some.inj (hO'.symm.trans hO)
  unfold Want at w2
  cases hz : lenOk (xs.length + 1) with
  | false => simp only [hz] at w2; exact w2.elim
  | true =>
    simp only [hz, if_true] at w2
    have hz' : xs.length + 1 ≤ 100000 := of_decide_eq_true hz
    refine ⟨q', vs, x, rfl, rfl, hq', by rw [l.len, sizeLine_eq]; omega, ?_⟩
    exact w2 O σ _ (f (vs ++ [x]) (xs ++ [dx]) (l.app (.cons p1 .nil))) (.of (k1.trans (ke_mutJ hO)))
theorem sd_setL {i : Nat} {x : Str} {p1 p2 : Pos} (hN : X.N[i]? = some x) (hv : Vis X.env.scope x) (hb : PD .s X Wx b mb) (ha : PD .s X Wx a ma) (hs : swapsWithSole [.Subscript (.Name x p1) b p2] a pos.line X.env = pure false := by rfl)
    (hw : swappedStores [.Subscript (.Name x p1) b p2] a X.env = pure none := by rfl)
    (has : ∀ v, assign (.Subscript (.Name x p1) b p2) X.env v = (do
      let ov ← holding [v] (eval (.Name x p1) X.env)
      let iv ← holding [v, ov] (eval b X.env)
      standAt p2
      holding [v, ov, iv] (setItem ov iv v)
      release [v, ov, iv] []) := by intro _; rfl)
    (hd : (x == ("__debug__" : Str)) = false := by decide) (hcd : (x == ("__classdict__" : Str)) = false := by decide) :
    SD fl X Wx (.Assign [.Subscript (.Name x p1) b p2] a pos) (sSetL i mb ma) := by
  obtain ⟨ta, pa, qa⟩ := ha
  obtain ⟨tb, pb, qb⟩ := hb
  refine ⟨_, ps_asg pa (pg_sub (pe_var hN hv hd hcd) pb set_list has) hs hw rfl, fun F O env σ H D S w => ?_⟩
  refine qa F O env σ H _ S (w.bind.imp (fun dx e1 w1 x H1 S1 k1 p1 => ?_) XWs.xw)
  obtain ⟨xs0, q, vs0, hO, hb, hg, hq, l0, w2, _⟩ := w1.bind.ownL S1
  refine ⟨.ref q, get1_some hg, ?_⟩
  refine qb F O e1 σ H1 _ S1 (w2.bind.imp (fun dk e2 w3 k H2 S2 k2 p2 => ?_) fun c fs e z => XW.later k1 c fs e (XWs.xw c fs e z))
  obtain ⟨xs, q', vs, hO', hb', hg', hq', l, w4, f⟩ := w3.bind.ownL S2
  obtain rfl : q' = q := Option.some.inj (hO'.symm.trans hO)
  cases p2 with
  | int k =>
    cases hj : ixN xs.length k with
    | none =>
      have w5 : Want (match ixN xs.length k with | some n => fun e => .ok .nx (putL e i (xs.set n dx)) | none => fun _ => R.bad) e2 (Post fl X.K F O H D) (XWs X.K F O H Wx) := w4
      rw [hj] at w5
      exact w5.elim
    | some j =>
      have w5 : Want (match ixN xs.length k with | some n => fun e => .ok .nx (putL e i (xs.set n dx)) | none => fun _ => R.bad) e2 (Post fl X.K F O H D) (XWs X.K F O H Wx) := w4
      rw [hj] at w5
      refine ⟨q', vs, k, j, rfl, rfl, hq', by rw [l.len]; exact hj, ?_⟩
      exact w5 O σ _ (f (vs.set j x) (xs.set j dx) (l.set (Rep.mj k2 p1) j)) (.of (k1.trans (k2.trans (ke_mutJ hO))))
  | _ => exact w4.elim
/-! ### dicts changed -/
theorem RepK.any {W : Pr} {H : Hp} (k : List Key) : ∀ {ks : List (List Key × V)} {kvs : List (List Key × D)}, RepK W H ks kvs → (ks.any fun kv => decide (kv.1 = k)) = kvs.any fun kv => decide (kv.1 = k)
  | _, _, .nil => rfl
  | _, _, .cons r l => by rw [List.any_cons, List.any_cons, RepK.any k l]
theorem RepK.snoc {W : Pr} {H : Hp} {v : V} {d : D} (k : List Key) (r : Rep W H v d) : ∀ {ks : List (List Key × V)} {kvs : List (List Key × D)}, RepK W H ks kvs → RepK W H (ks ++ [(k, v)]) (kvs ++ [(k, d)])
  | _, _, .nil => .cons r .nil
  | _, _, .cons r' l => .cons r' (RepK.snoc k r l)
theorem RepK.repl {W : Pr} {H : Hp} {v : V} {d : D} (k : List Key) (r : Rep W H v d) : ∀ {ks : List (List Key × V)} {kvs : List (List Key × D)}, RepK W H ks kvs → RepK W H (ks.map fun kv => if kv.1 = k then (kv.1, v) else kv) (kvs.map fun kv => if kv.1 = k then (kv.1, d) else kv)
  | _, _, .nil => .nil
  | _, _, .cons (k := k') r' l => by
    rw [List.map_cons, List.map_cons]
    by_cases h : k' = k
    · rw [if_pos h, if_pos h]; exact .cons r (RepK.repl k r l)
    · rw [if_neg h, if_neg h]; exact .cons r' (RepK.repl k r l)
theorem RepK.put {W : Pr} {H : Hp} {v : V} {d : D} (k : List Key) (r : Rep W H v d) {ks : List (List Key × V)} {kvs : List (List Key × D)} (l : RepK W H ks kvs) : RepK W H (putK ks k v) (dput kvs k d) := by
  unfold putK dput
  rw [l.any k]
  split
  · exact l.repl k r
  · exact l.snoc k r
theorem RepK.len {W : Pr} {H : Hp} : ∀ {ks : List (List Key × V)} {kvs : List (List Key × D)}, RepK W H ks kvs → ks.length = kvs.length
  | _, _, .nil => rfl
  | _, _, .cons r l => by rw [List.length_cons, List.length_cons, RepK.len l]
theorem Want.ownD {K : PySem.W.Frag} {F : Fm} {O : Nat → Option Addr} {env : Env} {σ : L2.St} {H : Hp} {i : Nat} {Q : List (List Key × D) → Env → Prop} {E : Str → List D → Env → Prop} (S : SR K F O env σ H) (h : Want (AH.ownD i) env Q E) :
    ∃ kvs a ks, O i = some a ∧ get1 σ i = some (.ref a) ∧ H a = some (.dT ks) ∧ RepK (Ow F O) H ks kvs ∧ Q kvs env ∧
      ∀ (vs' : List (List Key × V)) (ys : List (List Key × D)), RepK (Ow F O) H vs' ys → SR K F O (put env i (.odc ys)) σ (upd H a (.dT vs')) := by
  unfold Want AH.ownD at h
  have s := S.slot i
  cases q : sl env i with
  | odc kvs =>
    rw [q] at h s
    obtain ⟨a, ks, h1, h0, h2, h3, r⟩ := s
    exact ⟨kvs, a, ks, h1, h2, h3, r, h, fun vs' ys r' => S.mut h1 (.inr h0.1) ⟨a, vs', h1, h0, h2, upd_same, r'.mj (Ke.mut ⟨i, h1⟩)⟩ (S.lnk.put (fun b xs z => by rw [q] at z; cases z) fun _ _ _ z => by cases z)⟩
  | _ => rw [q] at h; exact h.elim
theorem sd_setD {i : Nat} {x : Str} {p1 p2 : Pos} (hu : X.A.units + 65 < cLine) (hN : X.N[i]? = some x) (hv : Vis X.env.scope x) (hb : PD .s X Wx b mb) (ha : PD .s X Wx a ma) (hs : swapsWith a (some (.Subscript (.Name x p1) b p2)) pos.line X.env = pure false := by rfl)
    (hd : (x == ("__debug__" : Str)) = false := by decide) (hcd : (x == ("__classdict__" : Str)) = false := by decide) :
    SD fl X Wx (.Assign [.Subscript (.Name x p1) b p2] a pos) (sSetD i mb ma) := by
  obtain ⟨ta, pa, qa⟩ := ha
  obtain ⟨tb, pb, qb⟩ := hb
  refine ⟨_, ps_dput (by omega) (pe_var hN hv hd hcd) pb pa hs, fun F O env σ H D S w => ?_⟩
  refine qa F O env σ H _ S (w.bind.imp (fun dx e1 w1 x H1 S1 k1 p1 => ?_) XWs.xw)
  obtain ⟨xs0, q, vs0, hO, hg, hq, l0, w2, _⟩ := w1.bind.ownD S1
  refine ⟨.ref q, get1_some hg, ?_⟩
  refine qb F O e1 σ H1 _ S1 (w2.bind.imp (fun dk e2 w3 k H2 S2 k2 p2 => ?_) fun c fs e z => XW.later k1 c fs e (XWs.xw c fs e z))
  obtain ⟨kvs, q', ks, hO', hg', hq', l, w4, f⟩ := w3.bind.ownD S2
  obtain rfl : q' = q := Option.some.inj (hO'.symm.trans hO)
  cases hk : keyD dk with
  | none => rw [hk] at w4; exact w4.elim
  | some kk =>
    rw [hk] at w4
    obtain ⟨b, rfl, hb⟩ := keyD_rep p2 hk
    obtain ⟨hz, w5⟩ := Want.gd (c := !lenOk (kvs.length + 1)) w4 (by cases lenOk (kvs.length + 1) <;> rfl)
    have hz' : kvs.length + 1 ≤ 100000 := of_decide_eq_true (by simpa [lenOk] using hz)
    refine ⟨q', _, rfl, DPut.t hq' hb (by rw [l.len, sizeLine_eq]; omega), ?_⟩
    exact w5 O σ _ (f _ _ (l.put kk (Rep.mj k2 p1))) (.of (k1.trans (k2.trans (ke_mutJ hO))))
/-! ### x op= e -/
end
end AH
namespace AH
open PySem PySem.Spec PyProof.Rows L2
variable [TheK]
section
variable {fl : Fl} {X : Cx} {Wx : WX} {e a b c d tg iter : Expr} {ma mb mc md : DE} {pos p : Pos} {st : Stmt} {rest : List Stmt} {m n : DS}
/-! ### for -/
theorem sd_for {js : List Nat} {mi : DI} {g : DG} {body : List Stmt} (hp : PassesOwn (model X.prog X.w) X.A X.env X.xe) (hc : X.calm = true) (hi : ID X Wx tg iter mi) (hg : GD X tg js g) (hb : SsD fl X Wx body m)
    (hs : ∀ x, foldedSetIterable iter X.env x = pure x := by intro _; rfl) : SD fl X Wx (.For tg iter body [] pos) (sFor mi g m) := by
  obtain ⟨wi, pi, qi⟩ := hi
  obtain ⟨nx, tg', pg, qg⟩ := hg
  obtain ⟨tb, pb, qb⟩ := hb
  refine ⟨_, ps_for hp hc pi pg pb hs, fun F O env σ H D S w => ?_⟩
  refine qi F O env σ H _ S (w.bind.imp (fun xs e1 w1 J H1 S1 k1 wk => ?_) XWs.xw)
  refine ⟨fun i k σ' H' => k = xs.length - i ∧ i ≤ xs.length ∧ ∃ O' e', SR X.K F O' e' σ' H' ∧ KeS O H1 O' H' ∧ Want (loop g m (xs.drop i)) e' (Post fl X.K F O' H' D) (XWs X.K F O' H' Wx), ⟨xs.length, by simp, Nat.zero_le _, O, e1, S1, .refl, w1.imp (Post.later (.of k1)) (XWs.later (.of k1))⟩, ?_⟩
  rintro i k σ2 H2 ⟨rfl, hi, O2, e2, S2, k2, w2⟩
  by_cases hlt : i < xs.length
  · have hd : xs.drop i = xs[i] :: xs.drop (i + 1) := (List.drop_eq_getElem_cons hlt)
    refine .inr ⟨wk.go i H2 k2.ke.wj hlt, fun σ' H' => i + 1 ≤ xs.length ∧ ∃ O' e', SR X.K F O' e' σ' H' ∧ KeS O H1 O' H' ∧ Want (loop g m (xs.drop (i + 1))) e' (Post fl X.K F O' H' D) (XWs X.K F O' H' Wx), fun σ' H' h => ⟨xs.length - (i + 1), by omega, rfl, h.1, h.2⟩, fun x H3 y => ?_⟩
    rw [hd] at w2
    obtain ⟨ext, r⟩ := wk.yld i H2 x H3 xs[i] (Ow F O2) k2.ke.wj (ow_step k2.ow) (S2.prot2) (by simp [hlt]) y
    have S3 : SR X.K F O2 e2 σ2 H3 := S2.ext ext
    have k3 : KeS O2 H2 O2 H3 := .of (ke_ext ext)
    refine qg F O2 e2 σ2 H3 x xs[i] _ S3 r ?_
    have w3 := Want.bind (m := g xs[i]) w2
    refine w3.imp (fun _ e4 w4 σ4 S4 _ => ?_) fun _ _ _ _ => trivial
    refine qb F O2 e4 σ4 H3 _ S4 ((Want.bind (m := m) w4).imp (fun o e5 w5 O5 σ5 H5 S5 k5 => ?_) (XWs.later k3))
    have kk : KeS O H1 O5 H5 := k2.trans (k3.trans k5)
    have again : Want (loop g m (xs.drop (i + 1))) e5 (Post fl X.K F O2 H2 D) (XWs X.K F O2 H2 Wx) → i + 1 ≤ xs.length ∧ ∃ O' e', SR X.K F O' e' σ5 H5 ∧ KeS O H1 O' H5 ∧ Want (loop g m (xs.drop (i + 1))) e' (Post fl X.K F O' H5 D) (XWs X.K F O' H5 Wx) := fun w6 =>
      ⟨hlt, O5, e5, S5, kk, w6.imp (Post.later (k3.trans k5)) (XWs.later (k3.trans k5))⟩
    cases o with
    | nx => exact again w5
    | ct => exact again w5
    | bk => exact w5 O5 σ5 H5 S5 (k3.trans k5)
    | rt d => exact w5 O5 σ5 H5 S5 (k3.trans k5)
  · have e : i = xs.length := by omega
    subst e
    refine .inl ⟨wk.stop H2 k2.ke.wj, ?_⟩
    rw [List.drop_length] at w2
    exact w2 O2 σ2 H2 S2 .refl
/-! ### comprehensions -/
/-- the reading that an expression's word gives -/
def tD (fl : Fl) (K : PySem.W.Frag) (Wx : WX) (m : DE) : TE := fun σ H Q => ∃ F O env, SR K F O env σ H ∧ Want m env (fun d e1 => ∀ v H', SR K F O e1 σ H' → Ke (Jo O) H H' → Po fl K F O e1 σ H H' v d → Q v H') (XW K F O σ H Wx)
theorem PD.pe {fl : Fl} (h : PD fl X Wx a ma) : PE X a (tD fl X.K Wx ma) := by
  obtain ⟨t, p, q⟩ := h
  exact ⟨fun pins s σ H Q I ⟨F, O, env, S, w⟩ => p.run pins s σ H Q I (q F O env σ H Q S w)⟩
def tT (K : PySem.W.Frag) (Wx : WX) (m : DT) : TT := fun σ H Q => ∃ F O env, SR K F O env σ H ∧ Want m env (fun b e1 => ∀ H', SR K F O e1 σ H' → Ke (Jo O) H H' → Q b H') (XW K F O σ H Wx)
/-- the tests of a comprehension -/
def CD (X : Cx) (Wx : WX) (ifs : List Expr) (m : DT) : Prop := PTs X ifs (tT X.K Wx m)
theorem cd_nil : CD X Wx [] AH.tYes := ⟨fun pins s σ H Q I ⟨F, O, env, S, w⟩ => pts_nil.run pins s σ H Q I (w H S Ke.refl)⟩
theorem cd_one {t : DT} (h : TD X Wx c t) : CD X Wx [c] t := by
  obtain ⟨tt, p, q⟩ := h
  exact ⟨fun pins s σ H Q I ⟨F, O, env, S, w⟩ => (pts_one p).run pins s σ H Q I (q F O env σ H Q S w)⟩
def tG (K : PySem.W.Frag) (js : List Nat) (g : DG) : TG := fun v σ H Q => ∃ F O env d, SR K F O env σ H ∧ Rep (Ow F O) H v d ∧ Want (g d) env (fun _ e1 => ∀ σ', SR K F O e1 σ' H → Wp js σ σ' → Q σ' H) (fun _ _ _ => True)
theorem GD.pg {js : List Nat} {g : DG} (h : GD X tg js g) : PG X tg (tG X.K js g) := by
  obtain ⟨nx, t, p, q⟩ := h
  exact ⟨fun pins s σ H v u Q I r ⟨F, O, env, d, S, rr, w⟩ => p.run pins s σ H v u Q I r (q F O env σ H v d Q S rr w)⟩
def tI (K : PySem.W.Frag) (Wx : WX) (m : DI) : TI := fun σ H R => ∃ F O env, SR K F O env σ H ∧ Want m env (fun xs e1 => ∀ J H1, SR K F O e1 σ H1 → Ke (Jo O) H H1 → Wk F O H1 J xs → R J H1) (XW K F O σ H Wx)
theorem ID.pi {m : DI} (h : ID X Wx tg iter m) : PI X tg iter (tI X.K Wx m) := by
  obtain ⟨t, p, q⟩ := h
  exact ⟨fun pins s σ H R I ⟨F, O, env, S, w⟩ => p.run pins s σ H R I (q F O env σ H R S w)⟩
def W0 : WX := fun _ _ _ _ => False
section
variable {K : PySem.W.Frag} {F : Fm} {O : Nat → Option Addr} {env e0 e1 : Env} {σ : L2.St} {H H1 H' : Hp} {D : Addr}
theorem put_len' (e : Env) : ∀ vs : List Nat, (wipeE e vs).length = e.length
  | [] => rfl
  | v :: vs => by unfold wipeE; rw [put_len, put_len' e vs]
theorem sl_wipe : ∀ {vs : List Nat} {j : Nat}, sl (wipeE env vs) j = if j ∈ vs then .no else sl env j
  | [], j => by simp [wipeE]
  | v :: vs, j => by
    unfold wipeE
    by_cases h : j = v
    · subst h
      rw [if_pos List.mem_cons_self]
      by_cases hl : j < (wipeE env vs).length
      · exact sl_put_same _ _ _ hl
      · rw [put_out _ _ _ (by omega)]; exact sl_out _ _ (by omega)
    · rw [sl_put_ne _ _ _ _ h, sl_wipe]
      have e : (j ∈ v :: vs) ↔ j ∈ vs := by
        rw [List.mem_cons]
        exact ⟨fun z => z.elim (fun z => absurd z h) id, .inr⟩
      simp only [e]
theorem get1_wipe {vs : List Nat} {j : Nat} : get1 (wipe σ vs) j = if j ∈ vs then none else get1 σ j := by
  unfold get1
  rw [wipe_get]
  split
  · cases σ[j]? <;> rfl
  · rfl
theorem back_len (e0 e : Env) : ∀ vs : List Nat, (back e0 e vs).length = e.length
  | [] => rfl
  | v :: vs => by unfold back; rw [put_len, back_len e0 e vs]
theorem sl_back (h : e0.length = e1.length) : ∀ {vs : List Nat} {j : Nat}, sl (back e0 e1 vs) j = if j ∈ vs then sl e0 j else sl e1 j
  | [], j => by simp [back]
  | v :: vs, j => by
    unfold back
    by_cases hj : j = v
    · subst hj
      rw [if_pos List.mem_cons_self]
      by_cases hl : j < (back e0 e1 vs).length
      · exact sl_put_same _ _ _ hl
      · rw [put_out _ _ _ (by omega)]
        rw [back_len] at hl
        rw [sl_out _ _ (by rw [back_len]; omega), sl_out _ _ (by omega)]
    · rw [sl_put_ne _ _ _ _ hj, sl_back h]
      have e : (j ∈ v :: vs) ↔ j ∈ vs := by
        rw [List.mem_cons]
        exact ⟨fun z => z.elim (fun z => absurd z hj) id, .inr⟩
      simp only [e]
theorem SR.wipe (S : SR K F O env σ H) (vs : List Nat) (h : ∀ v ∈ vs, O v = none) : SR K F O (wipeE env vs) (L2.wipe σ vs) H where
  slot := fun j => by
    rw [sl_wipe, get1_wipe]
    split
    · rename_i hj; exact h j hj
    · exact S.slot j
  inj := S.inj
  prot := S.prot
  keep := S.keep
  al := S.al
  len := by rw [put_len', wipe_length]; exact S.len
  nal := S.nal
  pt := S.pt
  lnk := fun i b j fs e => by
    rw [sl_wipe] at e
    split at e
    · cases e
    · obtain ⟨xs, q⟩ := S.lnk i b j fs e
      refine ⟨xs, ?_⟩
      rw [sl_wipe, if_neg, q]
      intro hj
      have s := S.slot j
      rw [q] at s
      obtain ⟨a, us, s1, _⟩ := s
      rw [h j hj] at s1
      cases s1
/-- behind a comprehension: the frame's own slots as they were -/
theorem SR.back (S : SR K F O e0 σ H1) {F' : Fm} (hb : F'.ba = F.ba) (h0 : F'.H0 = F.H0) (gp : ∀ a, F'.P a → F.P a ∨ H1 a = none) (gn : ∀ a, F'.N a → F.N a ∨ H1 a = none) {vs : List Nat} (S' : SR K F' O e1 (L2.wipe σ vs) H') (k : Ke (Jo O) H1 H') (h : ∀ v ∈ vs, isOwn (sl e0 v) = false) : SR K F' O (AH.back e0 e1 vs) σ H' := by
  have le : e0.length = e1.length := by
    have := S'.len
    rw [wipe_length] at this
    rw [S.len, this]
  have g : ∀ a, Ow F' O a → Ow F O a ∨ H1 a = none := fun a w => w.elim (fun w => (gp a w).elim (fun z => .inl (.inl z)) .inr) fun w => .inl (.inr w)
  have hlnk : Lnk (AH.back e0 e1 vs) := fun i b j fs e => by
    rw [sl_back le] at e
    split at e
    · rename_i hi
      have := h i hi
      rw [e] at this
      cases this
    · obtain ⟨xs, q⟩ := S'.lnk i b j fs e
      refine ⟨xs, ?_⟩
      rw [sl_back le, if_neg, q]
      intro hj
      have s := S'.slot j
      rw [q] at s
      obtain ⟨a, us, s1, _⟩ := s
      rw [S.notOwn (h j hj)] at s1
      cases s1
  refine ⟨fun j => ?_, S'.inj, S'.prot, S'.keep, S'.al, by rw [back_len, ← le]; exact S.len, S'.nal, S'.pt, hlnk⟩
  rw [sl_back le]
  split
  · rename_i hj
    have s := S.slot j
    have ho := h j hj
    cases z : sl e0 j with
    | no => rw [z] at s; exact s
    | val d => rw [z] at s; obtain ⟨h1, v, e, r⟩ := s; exact ⟨h1, v, e, r.ke k.ow g⟩
    | ro d => rw [z] at s; obtain ⟨h1, v, e, r⟩ := s; exact ⟨h1, v, e, r.go k g fun a z => z.elim (fun z => .inl (.inl z)) fun z => (gn a z).elim (fun z => .inl (.inr z)) .inr⟩
    | _ => rw [z] at ho; cases ho
  · rename_i hj
    have s := S'.slot j
    rw [get1_wipe, if_neg hj] at s
    exact s
/-- the new list that is being filled: all else keeps apart -/
theorem SR.updP {o : HO} (S : SR K (F.ad D) O env σ H) (nj : ¬ Jo O D) (h0 : F.H0 D = none) (ho : ∀ xs, o ≠ .tup xs := by intro _ z; cases z) : SR K (F.ad D) O env σ (upd H D o) := by
  have al : ∀ a, H a ≠ none → upd H D o a ≠ none := fun a h => by
    by_cases e : a = D
    · rw [e, upd_same]; simp
    · rw [upd_ne e]; exact h
  have ke : Ke (Ow (F.ad D) O) H (upd H D o) := ⟨fun a u n e => by rw [upd_ne fun z => n (.inl (.inr z))]; exact e, al⟩
  refine ⟨fun i => ?_, S.inj, fun a w => al a (S.prot a w), fun a u e n => ?_, fun a e => al a (S.al a e), S.len, fun a e => al a (S.nal a e), fun b xs w => by
    by_cases z : b = D
    · rw [z, upd_same]; exact fun y => ho xs (Option.some.inj y)
    · rw [upd_ne z]; exact S.pt b xs w, S.lnk⟩
  · have s := S.slot i
    cases z : sl env i with
    | no => rw [z] at s; exact s
    | val d => rw [z] at s; obtain ⟨h1, v, e, r⟩ := s; exact ⟨h1, v, e, r.mono ke⟩
    | ro d =>
      rw [z] at s
      obtain ⟨h1, v, e, r⟩ := s
      refine ⟨h1, v, e, ?_⟩
      cases r with
      | of r => exact .of (r.mono ke)
      | tup n h l => exact .tup n (rd_keep (fun o e => by rw [upd_ne fun z => n (.inr (.inr z))]; exact e) h) (l.mono ke)
      | lst n h l => exact .lst n (rd_keep (fun o e => by rw [upd_ne fun z => n (.inr (.inr z))]; exact e) h) (l.mono ke)
      | dic n h l => exact .dic n (rd_keep (fun o e => by rw [upd_ne fun z => n (.inr (.inr z))]; exact e) h) (l.mono ke)
      | kl s => exact .kl s
    | own xs => rw [z] at s; obtain ⟨a, vs, h, hz, e, q, r⟩ := s; exact ⟨a, vs, h, hz, e, by rw [upd_ne fun z => hz.2 (.inr z)]; exact q, r.mono ke⟩
    | bor xs => rw [z] at s; obtain ⟨a, vs, h, hz, e, q, r⟩ := s; exact ⟨a, vs, h, hz, e, by rw [upd_ne fun z => nj ⟨i, by rw [← z]; exact h⟩]; exact q, r.mono ke⟩
    | odc kvs => rw [z] at s; obtain ⟨a, vs, h, hz, e, q, r⟩ := s; exact ⟨a, vs, h, hz, e, by rw [upd_ne fun z => hz.2 (.inr z)]; exact q, r.mono ke⟩
    | ldc kvs => rw [z] at s; obtain ⟨h, a, vs, o, hz, e, q, r⟩ := s; exact ⟨h, a, vs, o, hz, e, by rw [upd_ne fun z => hz (.inr (.inr z))]; exact q, r.mono ke⟩
    | ros b j fs => rw [z] at s; obtain ⟨a, C, dx, us, p, h, hj, hz, e, q, n, r⟩ := s; exact ⟨a, C, dx, us, p, h, hj, hz, e, q.go (upd_ne fun z => nj ⟨i, by rw [← z]; exact h⟩) (upd_ne fun z => n (.inr (.inr z))), n, r.mono ke⟩
    | pst b xs => rw [z] at s; obtain ⟨a, vs, h, hz, e, q, r⟩ := s; exact ⟨a, vs, h, hz, e, by rw [upd_ne fun z => nj ⟨i, by rw [← z]; exact h⟩]; exact q, r.mono ke⟩
  · have e : F.H0 a = some u := e
    have nD : a ≠ D := fun z => by rw [z, h0] at e; cases e
    rw [upd_ne nD]
    exact S.keep a u e n
end
end
end AH
namespace AH
open PySem PySem.Spec PyProof.Rows L2
variable [TheK]
section
variable {fl : Fl} {X : Cx} {Wx : WX} {e a b c d tg iter elt : Expr} {ma mb mc md : DE} {pos p : Pos} {st : Stmt} {rest : List Stmt} {m n : DS}
theorem Want.noX {α : Type} {m : M α} {env : Env} {Q : α → Env → Prop} {E : Str → List D → Env → Prop} (h : Want (AH.noX m) env Q E) : Want m env Q fun _ _ _ => False := by
  unfold Want AH.noX at h
  unfold Want
  cases hm : m env with
  | ok a e => rw [hm] at h; exact h
  | ex c fs e => rw [hm] at h; exact h
  | bad => rw [hm] at h; exact h
/-- the new list of a comprehension gets one item more -/
theorem SR.snoc {K : PySem.W.Frag} {F : Fm} {O : Nat → Option Addr} {env : Env} {σ : L2.St} {H : Hp} {D : Addr} {o : HO} {acc : List V} {y : V} {ys : List AH.D} {d : AH.D} (S : SR K (F.ad D) O env σ H) (nj : ¬ Jo O D) (h0 : F.H0 D = none) (l : RepL (Ow (F.ad D) O) H acc ys) (r : Rep (Ow (F.ad D) O) H y d) (ho : ∀ xs, o ≠ .tup xs := by intro _ z; cases z) :
    SR K (F.ad D) O env σ (upd H D o) ∧ RepL (Ow (F.ad D) O) (upd H D o) (acc ++ [y]) (ys ++ [d]) := by
  refine ⟨S.updP nj h0 ho, ?_⟩
  have ke : Ke (Ow (F.ad D) O) H (upd H D o) := Ke.mut (.inl (.inr rfl))
  exact (l.mono ke).app (.cons (r.mono ke) .nil)
theorem lc_sound {K : PySem.W.Frag} {vs js : List Nat} {it : DI} {g : DG} {t : DT} {el : DE} (hj : ∀ j ∈ js, j ∈ vs) {F : Fm} {O : Nat → Option Addr} {env : Env} {σ : L2.St} {H : Hp} {Q : VK} (S : SR K F O env σ H)
    (w : Want (eLc vs it g t el) env (fun d e1 => ∀ v H', SR K F O e1 σ H' → Ke (Jo O) H H' → Po .f K F O e1 σ H H' v d → Q v H') (XW K F O σ H Wx)) :
    tLc (tI K Wx it) (tG K js g) (tT K W0 t) (tD .s K W0 el) vs σ H Q := by
  refine ⟨F, O, env, S, w.bind.imp (fun xs e0 w1 J H1 S1 k1 wk D hD => ?_) fun _ _ _ z => z⟩
  have nj : ¬ Jo O D := fun z => S1.prot D (.inr z) hD
  have h0 : F.H0 D = none := al_none S1.al hD
  have w2 : ((vs.any fun v => isOwn (sl e0 v)) = false ∧ lenOk xs.length = true) ∧ Want (compL vs e0 g t el xs) (wipeE e0 vs) (fun ys e1 => ∀ v H', SR K F O (back e0 e1 vs) σ H' → Ke (Jo O) H H' → Po .f K F O (back e0 e1 vs) σ H H' v (.lst ys) → Q v H') (fun _ _ _ => False) := by
    unfold Want at w1
    cases hb : (vs.any fun v => isOwn (sl e0 v)) || !lenOk xs.length with
    | true => simp only [hb] at w1; exact w1.elim
    | false =>
      simp only [hb] at w1
      refine ⟨?_, ?_⟩
      · cases h1 : (vs.any fun v => isOwn (sl e0 v)) with
        | true => rw [h1] at hb; cases hb
        | false => rw [h1] at hb; cases h2 : lenOk xs.length with
          | true => exact ⟨rfl, rfl⟩
          | false => rw [h2] at hb; cases hb
      · refine Want.noX (E := fun _ _ _ => False) ?_
        unfold Want
        cases hm : noX (compL vs e0 g t el xs) (wipeE e0 vs) with
        | ok ys e1 => rw [hm] at w1; exact w1
        | ex c fs e1 => rw [hm] at w1; exact w1
        | bad => rw [hm] at w1; exact w1
  obtain ⟨⟨hno, hlen⟩, w2⟩ := w2
  have hno' : ∀ v ∈ vs, isOwn (sl e0 v) = false := fun v hv => by
    have := List.any_eq_false.mp hno v hv
    simpa using this
  have hOn : ∀ v ∈ vs, O v = none := fun v hv => S1.notOwn (hno' v hv)
  have Sw : SR K F O (wipeE e0 vs) (L2.wipe σ vs) H1 := S1.wipe vs hOn
  refine ⟨fun i k H' => k = xs.length - i ∧ i ≤ xs.length ∧ ∃ e' acc ys, SR K (F.ad D) O e' (L2.wipe σ vs) H' ∧ Ke (Jo O) H1 H' ∧ H' D = some (.lst acc) ∧ RepL (Ow (F.ad D) O) H' acc ys ∧ ys.length ≤ i ∧
    Want (compL vs e0 g t el (xs.drop i)) e' (fun zs e1 => ∀ v H', SR K F O (back e0 e1 vs) σ H' → Ke (Jo O) H H' → Po .f K F O (back e0 e1 vs) σ H H' v (.lst (ys ++ zs)) → Q v H') (fun _ _ _ => False), ⟨xs.length, by simp, Nat.zero_le _, _, [], [], Sw.ad hD, Ke.new hD, upd_same, .nil, Nat.le_refl _, w2⟩, ?_⟩
  rintro i k H2 ⟨rfl, hi, e', acc, ys, S2, k2, hD2, l2, hy, w3⟩
  by_cases hlt : i < xs.length
  · have hd : xs.drop i = xs[i] :: xs.drop (i + 1) := (List.drop_eq_getElem_cons hlt)
    rw [hd] at w3
    refine .inr ⟨wk.go i H2 k2.wj hlt, fun H' => i + 1 ≤ xs.length ∧ ∃ e' acc ys, SR K (F.ad D) O e' (L2.wipe σ vs) H' ∧ Ke (Jo O) H1 H' ∧ H' D = some (.lst acc) ∧ RepL (Ow (F.ad D) O) H' acc ys ∧ ys.length ≤ i + 1 ∧
      Want (compL vs e0 g t el (xs.drop (i + 1))) e' (fun zs e1 => ∀ v H', SR K F O (back e0 e1 vs) σ H' → Ke (Jo O) H H' → Po .f K F O (back e0 e1 vs) σ H H' v (.lst (ys ++ zs)) → Q v H') (fun _ _ _ => False), fun H' h => ⟨xs.length - (i + 1), by omega, rfl, h.1, h.2⟩, fun x H3 y => ?_⟩
    obtain ⟨ext, r⟩ := wk.yld i H2 x H3 xs[i] (Ow (F.ad D) O) k2.wj (fun a z => by
      rcases z with (z | rfl) | z
      · exact .inl (.inl z)
      · exact .inr hD
      · exact .inl (.inr z)) S2.prot2 (by simp [hlt]) y
    have S3 : SR K (F.ad D) O e' (L2.wipe σ vs) H3 := S2.ext ext
    have w4 := Want.bind (m := g xs[i]) w3
    refine ⟨F.ad D, O, e', xs[i], S3, r, w4.imp (fun _ e4 w5 σ4 S4 wp => ?_) fun _ _ _ z => z.elim⟩
    refine ⟨(wp vs hj).trans (by
      apply List.ext_getElem?
      intro j
      rw [wipe_get, wipe_get]
      split
      · cases σ[j]? <;> rfl
      · rfl), F.ad D, O, e4, S4, (Want.bind w5).imp (fun bb e5 w6 H5 S5 k5 => ?_) fun _ _ _ z => z.elim⟩
    have k25 : Ke (Jo O) H1 H5 := k2.trans ((ke_ext ext).trans k5)
    have hD5 : H5 D = some (.lst acc) := k5.stay _ _ nj (ext _ _ hD2)
    have l5 : RepL (Ow (F.ad D) O) H5 acc ys := (l2.ke (ke_ext ext) (fun _ z => .inl z)).mj k5
    cases bb with
    | false =>
      simp only [Bool.false_eq_true, if_false]
      refine ⟨hlt, wipeE e5 vs, acc, ys, ?_, k25, hD5, l5, by omega, ?_⟩
      · have := S5.wipe vs hOn
        rw [show L2.wipe σ4 vs = L2.wipe σ vs from (wp vs hj).trans (by
          apply List.ext_getElem?
          intro j
          rw [wipe_get, wipe_get]
          split
          · cases σ[j]? <;> rfl
          · rfl)] at this
        exact this
      · have w7 := Want.bind (m := compL vs e0 g t el (xs.drop (i + 1))) (show Want ((compL vs e0 g t el (xs.drop (i + 1))).bind fun zs => M.pure ([] ++ zs)) (wipeE e5 vs) _ _ from w6)
        exact w7
    | true =>
      simp only [if_true]
      refine ⟨F.ad D, O, e5, S5, (Want.bind (Want.bind w6)).imp (fun dd e6 w7 v H6 S6 k6 r6 => ?_) fun _ _ _ z => z.elim⟩
      refine ⟨acc, k6.stay _ _ nj hD5, ?_, hlt, wipeE e6 vs, acc ++ [v], ys ++ [dd], ?_⟩
      · rw [l5.len]
        have h1 : decide (xs.length ≤ 100000) = true := hlen
        have := of_decide_eq_true h1
        have h2 : sizeLine > 100000 := by decide
        omega
      obtain ⟨S7, l7⟩ := SR.snoc (o := .lst (acc ++ [v])) S6 nj h0 (l5.mj k6) r6
      have k26 := k25.trans k6
      refine ⟨?_, ⟨fun a o n e => by rw [upd_ne (ne_of_none e hD)]; exact k26.stay a o n e, fun a e => ?_⟩, upd_same, l7, ?_, ?_⟩
      · have := S7.wipe vs hOn
        rw [show L2.wipe σ4 vs = L2.wipe σ vs from (wp vs hj).trans (by
          apply List.ext_getElem?
          intro j
          rw [wipe_get, wipe_get]
          split
          · cases σ[j]? <;> rfl
          · rfl)] at this
        exact this
      · by_cases z : a = D
        · rw [z, upd_same]; simp
        · rw [upd_ne z]; exact k26.there a e
      · rw [List.length_append]; simp; omega
      · have w8 := Want.bind (m := compL vs e0 g t el (xs.drop (i + 1))) (show Want ((compL vs e0 g t el (xs.drop (i + 1))).bind fun zs => M.pure ([dd] ++ zs)) (wipeE e6 vs) _ _ from w7)
        refine w8.imp (fun zs e1 z v H' S k p => ?_) fun _ _ _ z => z
        refine z v H' S k ?_
        rw [List.append_assoc] at p
        exact p
  · have e : i = xs.length := by omega
    subst e
    refine .inl ⟨wk.stop H2 k2.wj, ?_⟩
    rw [List.drop_length] at w3
    have w4 := w3 (.ref D) H2
    rw [List.append_nil] at w4
    have Sb : SR K (F.ad D) O (back e0 e' vs) σ H2 := SR.back (F' := F.ad D) S1 rfl rfl (fun a z => z.elim .inl fun z => .inr (z ▸ hD)) (fun a z => z.elim .inl fun z => .inr (z ▸ hD)) S2 k2 hno'
    exact w4 Sb.unad (k1.trans k2) ⟨D, acc, ys, rfl, rfl, by
      cases q : H D with
      | none => rfl
      | some o => exact absurd hD (k1.there D (by rw [q]; simp)), hD2, l2, Sb⟩
/-! two sources -/
/-! the rules -/
theorem CD.pt {ifs : List Expr} {t : DT} (h : CD X Wx ifs t) : PTs X ifs (tT X.K Wx t) := h
def BlkD (X : Cx) (P : Cx → Prop) (scope : Scope) : Prop := ∀ (s : Shared) (H : Hp) (C : Addr) (cl : List (Str × Addr)) (fp : List Addr), P (X.blk s H scope (compEnvC scope cl C X.env) fp)
theorem pd_lc {ifs : List Expr} {scope : Scope} {own : List (Str × Nat)} {js : List Nat} {it : DI} {g : DG} {t : DT} (hc : X.calm = true) (hN : X.N.Nodup) (hb : blkC X.N X.env.scope scope own = true) (hj : (js.all fun j => (own.map (·.2)).contains j) = true)
    (hi : ID X Wx tg iter it) (hg : BlkD X (fun X => GD X tg js g) scope) (ht : BlkD X (fun X => CD X W0 ifs t) scope) (he : BlkD X (fun X => PD .s X W0 elt ma) scope) (hs : ∀ x, foldedSetIterable iter X.env x = pure x := by intro _; rfl) :
    PD .f X Wx (.ListComp elt [⟨tg, iter, ifs, 0⟩] scope pos) (eLc (own.map (·.2)) it g t ma) :=
  ⟨_, pe_lc hc hN hi.pi (blkOk_by hb) (fun s H C cl fp => (hg s H C cl fp).pg) (fun s H C cl fp => (ht s H C cl fp).pt) (fun s H C cl fp => (he s H C cl fp).pe) hs,
    fun F O env σ H Q S w => lc_sound (fun j h => by simpa using List.all_eq_true.mp hj j h) S w⟩
/-! name = [..] on one line, the name a local -/
theorem asgN_of {i : Nat} {t : TE} (hp : PS X st (tAsg t (gName i))) (qa : ∀ (F : Fm) (O : Nat → Option Addr) (env : Env) (σ : L2.St) (H : Hp) (Q : VK), SR X.K F O env σ H →
    Want ma env (fun d e1 => ∀ v H', SR X.K F O e1 σ H' → Ke (Jo O) H H' → Po .s X.K F O e1 σ H H' v d → Q v H') (XW X.K F O σ H Wx) → t σ H Q) : SD fl X Wx st (sAsgN i ma) := by
  refine ⟨_, hp, fun F O env σ H D S w => ?_⟩
  refine qa F O env σ H _ S (w.bind.imp (fun dx e1 w1 x H1 S1 k1 p1 => ?_) XWs.xw)
  obtain ⟨hf1, w2⟩ := w1.gd rfl
  exact w2 _ _ H1 (S1.setVal p1 (noP_fix hf1)) ⟨k1, fun a z => .inl (jo_setN z)⟩
theorem sOf_f {t : TE} {K : PySem.W.Frag} (q : ∀ (F : Fm) (O : Nat → Option Addr) (env : Env) (σ : L2.St) (H : Hp) (Q : VK), SR K F O env σ H →
    Want ma env (fun d e1 => ∀ v H', SR K F O e1 σ H' → Ke (Jo O) H H' → Po .f K F O e1 σ H H' v d → Q v H') (XW K F O σ H Wx) → t σ H Q) : ∀ (F : Fm) (O : Nat → Option Addr) (env : Env) (σ : L2.St) (H : Hp) (Q : VK), SR K F O env σ H →
    Want ma env (fun d e1 => ∀ v H', SR K F O e1 σ H' → Ke (Jo O) H H' → Po .s K F O e1 σ H H' v d → Q v H') (XW K F O σ H Wx) → t σ H Q :=
  fun F O env σ H Q S w => q F O env σ H Q S (w.imp (fun d e1 z v H' S' k r => z v H' S' k (Po.s_of_f (K := K) (fun p hp => S.noW hp) r)) fun _ _ _ z => z)
section
variable {i : Nat} {y : Str} {py spos : Pos} {ifs : List Expr} {scope : Scope} {own : List (Str × Nat)} {js : List Nat} {it : DI} {g : DG} {t : DT}
theorem ps_lc1 (hc : X.calm = true) (hN : X.N.Nodup) (hy : X.N[i]? = some y) (hyl : X.env.scope.names.lookup y = some .local) (hk : X.env.scope.kind = .function) (hl : (py.line == pos.line) = true) (ha : (scope.names.any fun (n, k) => n == y && (k == .local || k == .cell)) = false)
    (hb : blkC X.N X.env.scope scope own = true) (hi : ID X Wx tg iter it) (hg : BlkD X (fun X => GD X tg js g) scope) (ht : BlkD X (fun X => CD X W0 ifs t) scope) (he : BlkD X (fun X => PD .s X W0 elt ma) scope) (hs : ∀ x, foldedSetIterable iter X.env x = pure x) :
    PS X (.Assign [.Name y py] (.ListComp elt [⟨tg, iter, ifs, 0⟩] scope pos) spos) (tAsg (tLc (tI X.K Wx it) (tG X.K js g) (tT X.K W0 t) (tD .s X.K W0 ma) (own.map (·.2))) (gName i)) :=
  ps_setLc (spos := spos) hc hN hy hyl (sw_true (l := spos.line) hk hyl hl ha) hi.pi (blkOk_by hb) (fun s H C cl fp => (hg s H C cl fp).pg) (fun s H C cl fp => (ht s H C cl fp).pt) (fun s H C cl fp => (he s H C cl fp).pe) hs
/-- name = [..], a value from now on -/
theorem sd_lc (hc : X.calm = true) (hN : X.N.Nodup) (hy : X.N[i]? = some y) (hyl : X.env.scope.names.lookup y = some .local) (hk : X.env.scope.kind = .function) (hl : (py.line == pos.line) = true) (ha : (scope.names.any fun (n, k) => n == y && (k == .local || k == .cell)) = false)
    (hb : blkC X.N X.env.scope scope own = true) (hj : (js.all fun j => (own.map (·.2)).contains j) = true) (hi : ID X Wx tg iter it) (hg : BlkD X (fun X => GD X tg js g) scope) (ht : BlkD X (fun X => CD X W0 ifs t) scope) (he : BlkD X (fun X => PD .s X W0 elt ma) scope) (hs : ∀ x, foldedSetIterable iter X.env x = pure x := by intro _; rfl) :
    SD fl X Wx (.Assign [.Name y py] (.ListComp elt [⟨tg, iter, ifs, 0⟩] scope pos) spos) (sAsgN i (eLc (own.map (·.2)) it g t ma)) :=
  asgN_of (ps_lc1 hc hN hy hyl hk hl ha hb hi hg ht he hs) (sOf_f fun F O env σ H Q S w => lc_sound (fun j h => by simpa using List.all_eq_true.mp hj j h) S w)
variable {tg1 iter1 : Expr} {ifs1 : List Expr} {vs1 js1 : List Nat} {it1 : DI} {g1 : DG} {t1 : DT}
end
end
end AH
namespace AH
open PySem PySem.Spec PyProof.Rows L2
variable [TheK]
/-! ### what a def promises -/
/-- the lent lists' items, by the parameters -/
def BoL (Z : Pr) (ba : Nat → Option Addr) (H : Hp) : Nat → List Md → List (List D) → Prop
  | _, [], [] => True
  | i, .bor :: ms, xs :: bs => (∃ a vs, ba i = some a ∧ H a = some (.lst vs) ∧ RepL Z H vs xs) ∧ BoL Z ba H (i + 1) ms bs
  | _, .bor :: _, [] => False
  | i, _ :: ms, bs => BoL Z ba H (i + 1) ms bs
  | _, [], _ :: _ => False
/-- the heap behind a call -/
structure KeB (F : Fm) (H H' : Hp) : Prop where
  keep : ∀ a o, H a = some o → ¬ F.bo a → H' a = some o
  there : ∀ a, H a ≠ none → H' a ≠ none
def RoF (K : PySem.W.Frag) (fl : Fl) (F : Fm) (ms : List Md) (bs : List (List D)) (H H' : Hp) (v : V) (d : D) : Prop := match fl with
  | .f => ∃ p vs xs, v = .ref p ∧ d = .lst xs ∧ H p = none ∧ H' p = some (.lst vs) ∧ RepL (fun a => F.P a ∨ a = p) H' vs xs ∧ BoL (fun a => F.P a ∨ a = p) F.ba H' 0 ms bs
  | .fd => ∃ p ks kvs, v = .ref p ∧ d = .dic kvs ∧ H p = none ∧ H' p = some (.dT ks) ∧ RepK (fun a => F.P a ∨ a = p) H' ks kvs ∧ BoL (fun a => F.P a ∨ a = p) F.ba H' 0 ms bs
  | .ft => (∃ p vs xs, v = .ref p ∧ d = .tup xs ∧ H' p = some (TuO p vs) ∧ RepL F.P H' vs xs) ∧ BoL F.P F.ba H' 0 ms bs
  | .fr => ∃ a p, NewR K (fun b => (F.P b ∨ b = a) ∨ b = p) F.N H H' v d a p ∧ BoL (fun b => (F.P b ∨ b = a) ∨ b = p) F.ba H' 0 ms bs
  | _ => Rep F.P H' v d ∧ BoL F.P F.ba H' 0 ms bs
def spD (fl : Fl) (K : PySem.W.Frag) (N : List Str) (ms : List Md) (f : DF) : Sp := fun vs H Q E => vs.length = ms.length ∧ ∃ (ds : List D) (F : Fm) (O : Nat → Option Addr),
  SR K F O (startE ms ds ++ List.replicate (N.length - ms.length) .no) (start N vs) H ∧ F.H0 = H ∧ lstsOk ms ds = true ∧ match f ds with
    | .ok d bs => ∀ v H', KeB F H H' → RoF K fl F ms bs H H' v d → Q v H'
    | .ex c fs bs => ∀ cls dd H', KeB F H H' → BoL F.P F.ba H' 0 ms bs → XR K F.P c fs cls dd H' → E cls dd H'
    | .bad => False
theorem boL_of {Z : Pr} {F : Fm} {H : Hp} {e : Env} (B : BoR Z F e H) : ∀ {ms : List Md} {i : Nat} {e' : Env} {bs : List (List D)}, (∀ j, sl e' j = sl e (i + j)) → lentOf ms e' = some bs → BoL Z F.ba H i ms bs
  | [], i, e', bs, _, h => by cases h; trivial
  | .bor :: ms, i, [], bs, _, h => by cases h
  | .bor :: ms, i, s :: e', bs, he, h => by
    cases s with
    | bor xs =>
      unfold lentOf at h
      cases q : lentOf ms e' with
      | none => rw [q] at h; cases h
      | some bs' =>
        rw [q] at h
        cases h
        have e0 : sl e i = .bor xs := (he 0).symm
        obtain ⟨a, vs, h1, h2, h3⟩ := B i xs e0
        exact ⟨⟨a, vs, h1, h2, h3⟩, boL_of B (fun j => by have := he (j + 1); rw [show i + (j + 1) = i + 1 + j by omega] at this; exact this) q⟩
    | _ => cases h
  | .val :: ms, i, [], bs, _, h => by cases h
  | .ro :: ms, i, [], bs, _, h => by cases h
  | .val :: ms, i, s :: e', bs, he, h => by
    have h : lentOf ms e' = some bs := by cases s <;> exact h
    exact boL_of (ms := ms) (i := i + 1) B (fun j => by have := he (j + 1); rw [show i + (j + 1) = i + 1 + j by omega] at this; exact this) h
  | .ro :: ms, i, s :: e', bs, he, h => by
    have h : lentOf ms e' = some bs := by cases s <;> exact h
    exact boL_of (ms := ms) (i := i + 1) B (fun j => by have := he (j + 1); rw [show i + (j + 1) = i + 1 + j by omega] at this; exact this) h
theorem boL_of0 {Z : Pr} {F : Fm} {H : Hp} {e : Env} {ms : List Md} {bs : List (List D)} (B : BoR Z F e H) (h : lentOf ms e = some bs) : BoL Z F.ba H 0 ms bs := boL_of B (i := 0) (fun j => by rw [Nat.zero_add]) h
/-- a def that must end by return -/
def mkR (n : Nat) (ms : List Md) (b : DS) : DF := fun ds =>
  if !lstsOk ms ds then .bad else
  match b (startE ms ds ++ List.replicate (n - ms.length) .no) with
  | .ok (.rt d) e => (match lentOf ms e with
    | some bs => .ok d bs
    | none => .bad)
  | .ok _ _ => .bad
  | .ex c fs e => (match lentOf ms e with
    | some bs => .ex c fs bs
    | none => .bad)
  | .bad => .bad
section
variable {P : Program} {w : World} {K : PySem.W.Frag} {mg : Str → Option Value} {base : Heap} {x qual : Str} {params : Arguments} {body : List Stmt} {scope : Scope} {dvs : List V} {kws : List (Str × V)} {f : Addr} {fd : FuncData} {N ps : List Str} {k : Nat} {ms : List Md} {fl : Fl}
abbrev cxD (P : Program) (w : World) (K : PySem.W.Frag) (mg : Str → Option Value) (base : Heap) (N : List Str) (qual : Str) (scope : Scope) (f : Addr) (cd : Value) (A : Around) (outer : List PySem.Env) (s : Shared) (H : Hp) (E : XK) : Cx := cxOf (L2.CX P w) P w K mg base N qual scope f cd A outer s H E
/-- of a body at every entry -/
theorem fl_end {F : Fm} {O : Nat → Option Addr} {e : Env} {σ : L2.St} {H H' : Hp} {v : V} {d : D} {bs : List (List D)} (S : SR K F O e σ H') (h0 : F.H0 = H) (hb : lentOf ms e = some bs) (r : Ro fl K F O e σ H' v d) : RoF K fl F ms bs H H' v d := by
  have bo : BoL F.P F.ba H' 0 ms bs := boL_of0 (S.boR rfl fun a z => .inl z) hb
  subst h0
  cases fl with
  | f => obtain ⟨p, vs, xs, h1, h2, h3, h4, h5, h6⟩ := r; exact ⟨p, vs, xs, h1, h2, h3, h4, h5, boL_of0 h6 hb⟩
  | fd => obtain ⟨p, vs, xs, h1, h2, h3, h4, h5, h6⟩ := r; exact ⟨p, vs, xs, h1, h2, h3, h4, h5, boL_of0 h6 hb⟩
  | w => exact ⟨r, bo⟩
  | ft => exact ⟨r, bo⟩
  | fr => obtain ⟨a, p, h1, h2⟩ := r; exact ⟨a, p, h1, boL_of0 h2 hb⟩
  | s => exact ⟨r, bo⟩
theorem keB_of {F : Fm} {O : Nat → Option Addr} {e : Env} {σ : L2.St} {H H' : Hp} (S : SR K F O e σ H') (h0 : F.H0 = H) : KeB F H H' := by
  subst h0
  exact ⟨fun a o e n => S.keep a o e n, S.al⟩
theorem body_wish {F : Fm} {O : Nat → Option Addr} {ds : List D} {H : Hp} {Q : VK} {E : XK} {m : DS} {fd' : DF} (h0 : F.H0 = H) (hl : lstsOk ms ds = true)
    (hf : (fl = .s ∧ fd' = mkF N.length ms m) ∨ fd' = mkR N.length ms m)
    (h : match fd' ds with
    | .ok d bs => ∀ v H', KeB F H H' → RoF K fl F ms bs H H' v d → Q v H'
    | .ex c fs bs => ∀ cls dd H', KeB F H H' → BoL F.P F.ba H' 0 ms bs → XR K F.P c fs cls dd H' → E cls dd H'
    | .bad => False) :
    Want m (startE ms ds ++ List.replicate (N.length - ms.length) .no) (Post fl K F O H { nx := fun _ H' => Q .non H', rt := Q }) (XWs K F O H (fun cls d _ H => E cls d H)) := by
  have gx : ∀ {c : Str} {fs : List D} {e : Env}, m (startE ms ds ++ List.replicate (N.length - ms.length) .no) = .ex c fs e → (match lentOf ms e with
      | some bs => Rf.ex c fs bs
      | none => .bad) = fd' ds → XWs K F O H (fun cls d _ H => E cls d H) c fs e := fun {c fs e} hm he => by
    cases hb : lentOf ms e with
    | none => rw [hb] at he; rw [← he] at h; exact h.elim
    | some bs =>
      rw [hb] at he
      rw [← he] at h
      exact fun O' σ' cls d H' S k x => h cls d H' (keB_of S h0) (boL_of0 (S.boR rfl fun a z => .inl z) hb) (by
        obtain ⟨x1, x2⟩ := x
        refine ⟨x1, ?_⟩
        cases d with
        | none => exact x2
        | some d => obtain ⟨y0, vs, y1, y2, y3⟩ := x2; exact ⟨fun z => y0 (.inl z), vs, y1, y2, y3.sub fun a z => .inl (.inl z)⟩)
  have gr : ∀ {d : D} {e : Env}, (match lentOf ms e with
      | some bs => Rf.ok d bs
      | none => .bad) = fd' ds → Post fl K F O H { nx := fun _ H' => Q .non H', rt := Q } (.rt d) e := fun {d e} he => by
    cases hb : lentOf ms e with
    | none => rw [hb] at he; rw [← he] at h; exact h.elim
    | some bs =>
      rw [hb] at he
      rw [← he] at h
      exact fun O' σ' H' S k v r => h v H' (keB_of S h0) (fl_end S h0 hb r)
  unfold Want
  rcases hf with ⟨rfl, rfl⟩ | rfl
  · cases hm : m (startE ms ds ++ List.replicate (N.length - ms.length) .no) with
    | bad => unfold mkF at h; simp only [hl, hm] at h; exact h
    | ex c fs e => exact gx hm (by unfold mkF; simp only [hl, hm]; rfl)
    | ok o e => cases o with
      | rt d => exact gr (by unfold mkF; simp only [hl, hm]; rfl)
      | nx =>
        have he : (match lentOf ms e with
          | some bs => Rf.ok .non bs
          | none => .bad) = mkF N.length ms m ds := by unfold mkF; simp only [hl, hm]; rfl
        exact fun O' σ' H' S k => gr he O' σ' H' S k .non .non
      | bk => unfold mkF at h; simp only [hl, hm] at h; exact h.elim
      | ct => unfold mkF at h; simp only [hl, hm] at h; exact h.elim
  · cases hm : m (startE ms ds ++ List.replicate (N.length - ms.length) .no) with
    | bad => unfold mkR at h; simp only [hl, hm] at h; exact h
    | ex c fs e => exact gx hm (by unfold mkR; simp only [hl, hm]; rfl)
    | ok o e => cases o with
      | rt d => exact gr (by unfold mkR; simp only [hl, hm]; rfl)
      | nx => unfold mkR at h; simp only [hl, hm] at h; exact h.elim
      | bk => unfold mkR at h; simp only [hl, hm] at h; exact h.elim
      | ct => unfold mkR at h; simp only [hl, hm] at h; exact h.elim
/-- nothing is promised -/
theorem fn_bad {k : Nat} (hps : ps.length = ms.length) : FnOk P w K mg base (L2.CX P w) k f fd ps (spD fl K N ms fun _ => .bad) :=
  ⟨fun vs H Q E h => by rw [hps]; exact h.1, fun A outer s H args us vs Q E hr he hb hv h => by
    obtain ⟨_, _, _, _, _, _, _, h⟩ := h
    exact h.elim⟩
end
end AH
namespace AH
open PySem PySem.Spec PyProof.Rows L2
variable [TheK]
/-! ### arguments -/
/-- more is kept apart: new objects -/
structure FX (F F1 : Fm) (H : Hp) : Prop where
  ba : F1.ba = F.ba
  h0 : F1.H0 = F.H0
  p : ∀ a, F.P a → F1.P a
  n : ∀ a, F.N a → F1.N a
  pn : ∀ a, F1.P a → F.P a ∨ H a = none
  nn : ∀ a, F1.N a → F.N a ∨ H a = none
theorem FX.refl {F : Fm} {H : Hp} : FX F F H := ⟨rfl, rfl, fun _ z => z, fun _ z => z, fun _ z => .inl z, fun _ z => .inl z⟩
theorem FX.ad {F : Fm} {H : Hp} {p : Addr} (h : H p = none) : FX F (F.ad p) H := ⟨rfl, rfl, fun _ z => .inl z, fun _ z => .inl z, fun a z => z.elim .inl fun z => .inr (z ▸ h), fun a z => z.elim .inl fun z => .inr (z ▸ h)⟩
theorem none_back {H H1 : Hp} {a : Addr} (k : ∀ a, H a ≠ none → H1 a ≠ none) (h : H1 a = none) : H a = none := by
  cases q : H a with
  | none => rfl
  | some o => exact absurd h (k a (by rw [q]; simp))
theorem FX.trans {F F1 F2 : Fm} {H H1 : Hp} (x : FX F F1 H) (y : FX F1 F2 H1) (k : ∀ a, H a ≠ none → H1 a ≠ none) : FX F F2 H :=
  ⟨y.ba.trans x.ba, y.h0.trans x.h0, fun a z => y.p a (x.p a z), fun a z => y.n a (x.n a z), fun a z => (y.pn a z).elim (x.pn a) fun z => .inr (none_back k z), fun a z => (y.nn a z).elim (x.nn a) fun z => .inr (none_back k z)⟩
theorem FX.ow {F F1 : Fm} {H : Hp} {O : Nat → Option Addr} (x : FX F F1 H) : ∀ a, Ow F O a → Ow F1 O a := fun a z => z.elim (fun z => .inl (x.p a z)) .inr
theorem SR.down {K : PySem.W.Frag} {F F1 : Fm} {O : Nat → Option Addr} {env : Env} {σ : L2.St} {H H0 : Hp} (S : SR K F1 O env σ H) (x : FX F F1 H0) : SR K F O env σ H := by
  refine ⟨fun i => SlR.sub (F := F1) (F' := F) x.ba.symm x.h0.symm (fun a z => .inl (x.p a z)) (fun a z => .inl (x.n a z)) (S.slot i), S.inj, fun a z => S.prot a (x.ow a z), fun a o e n => S.keep a o (by rw [x.h0]; exact e) (by
    rintro ⟨i, z⟩
    exact n ⟨i, by rw [← x.ba]; exact z⟩), fun a z => S.al a (by rw [x.h0]; exact z), S.len, fun a z => S.nal a (x.n a z), fun a xs z => S.pt a xs (x.p a z), S.lnk⟩
/-- a new object of the later heap -/
theorem SR.adAt {K : PySem.W.Frag} {F : Fm} {O : Nat → Option Addr} {env : Env} {σ : L2.St} {H H' : Hp} {p : Addr} (S : SR K F O env σ H) (k : ∀ a o, H a = some o → H' a = some o) (h : H p = none) (h' : H' p ≠ none) (ht : ∀ xs, H' p ≠ some (.tup xs)) : SR K (F.ad p) O env σ H' := by
  have S1 := S.ext k
  refine ⟨fun i => SlR.ext k (SlR.sub (F := F) (F' := F.ad p) rfl rfl (fun a z => z.elim .inl fun z => .inr (z ▸ h)) (fun a z => z.elim .inl fun z => .inr (z ▸ h)) (S.slot i)), S.inj, fun a z => ?_, S1.keep, S1.al, S.len, fun a z => z.elim (S1.nal a) fun z => by rw [z]; exact h', fun a xs z => z.elim (S1.pt a xs) fun z => by rw [z]; exact ht xs, S.lnk⟩
  rcases z with (z | rfl) | z
  · exact S1.prot a (.inl z)
  · exact h'
  · exact S1.prot a (.inr z)
/-- two new objects -/
theorem SR.adAt2 {K : PySem.W.Frag} {F : Fm} {O : Nat → Option Addr} {env : Env} {σ : L2.St} {H H' : Hp} {a p : Addr} (S : SR K F O env σ H) (k : ∀ a o, H a = some o → H' a = some o) (ha : H a = none) (hp : H p = none) (ha' : H' a ≠ none) (hp' : H' p ≠ none) (ta : ∀ xs, H' a ≠ some (.tup xs)) (tp : ∀ xs, H' p ≠ some (.tup xs)) : SR K ((F.ad a).ad p) O env σ H' := by
  have S1 := S.ext k
  have g : ∀ {Z : Pr} (b : Addr), (Z b ∨ b = a) ∨ b = p → Z b ∨ H b = none := fun b z => by
    rcases z with (z | rfl) | rfl
    · exact .inl z
    · exact .inr ha
    · exact .inr hp
  refine ⟨fun i => SlR.ext k (SlR.sub (F := F) (F' := (F.ad a).ad p) rfl rfl (g (Z := F.P)) (g (Z := F.N)) (S.slot i)), S.inj, fun b z => ?_, S1.keep, S1.al, S.len, fun b z => ?_, fun b xs z => ?_, S.lnk⟩
  · rcases z with ((z | rfl) | rfl) | z
    · exact S1.prot b (.inl z)
    · exact ha'
    · exact hp'
    · exact S1.prot b (.inr z)
  · rcases z with (z | rfl) | rfl
    · exact S1.nal b z
    · exact ha'
    · exact hp'
  · rcases z with (z | rfl) | rfl
    · exact S1.pt b xs z
    · exact ta xs
    · exact tp xs
/-- an object kept apart that no slot owns is changed -/
theorem SR.updQ {K : PySem.W.Frag} {F : Fm} {O : Nat → Option Addr} {env : Env} {σ : L2.St} {H : Hp} {p : Addr} {o : HO} (S : SR K F O env σ H) (hP : F.P p) (hN : F.N p) (nj : ¬ Jo O p) (h0 : F.H0 p = none) (ho : ∀ xs, o ≠ .tup xs := by intro _ z; cases z) : SR K F O env σ (upd H p o) := by
  have e : F = (F.ad p) := by
    obtain ⟨P, N, H0, ba⟩ := F
    show Fm.mk P N H0 ba = Fm.mk (fun a => P a ∨ a = p) (fun a => N a ∨ a = p) H0 ba
    have e1 : P = fun a => P a ∨ a = p := funext fun a => propext ⟨.inl, fun z => z.elim id fun z => by rw [z]; exact hP⟩
    have e2 : N = fun a => N a ∨ a = p := funext fun a => propext ⟨.inl, fun z => z.elim id fun z => by rw [z]; exact hN⟩
    rw [← e1, ← e2]
  have S' : SR K (F.ad p) O env σ H := by rw [← e]; exact S
  rw [e]
  exact S'.updP nj h0 ho
/-- the arguments' values, the new lists among them -/
inductive AR (F : Fm) (O : Nat → Option Addr) (σ : L2.St) (H : Hp) : List Md → List Arg → List (D ⊕ Nat) → List V → List Addr → Prop
  | nil : AR F O σ H [] [] [] [] []
  | val {ms : List Md} {as : List Arg} {xs : List (D ⊕ Nat)} {vs : List V} {ps : List Addr} {a : DE} {v : V} {d : D} : Rep (Ow F O) H v d → AR F O σ H ms as xs vs ps → AR F O σ H (.val :: ms) (.e a :: as) (.inl d :: xs) (v :: vs) ps
  | rov {ms : List Md} {as : List Arg} {xs : List (D ⊕ Nat)} {vs : List V} {ps : List Addr} {a : DE} {v : V} {d : D} : Rep (Ow F O) H v d → AR F O σ H ms as xs vs ps → AR F O σ H (.ro :: ms) (.e a :: as) (.inl d :: xs) (v :: vs) ps
  | look {ms : List Md} {as : List Arg} {xs : List (D ⊕ Nat)} {vs : List V} {ps : List Addr} {i : Nat} {v : V} : get1 σ i = some v → AR F O σ H ms as xs vs ps → AR F O σ H (.ro :: ms) (.look i :: as) (.inr i :: xs) (v :: vs) ps
  | lend {ms : List Md} {as : List Arg} {xs : List (D ⊕ Nat)} {vs : List V} {ps : List Addr} {i : Nat} {v : V} : get1 σ i = some v → AR F O σ H ms as xs vs ps → AR F O σ H (.bor :: ms) (.lend i :: as) (.inr i :: xs) (v :: vs) ps
  | new {ms : List Md} {as : List Arg} {xs : List (D ⊕ Nat)} {vs : List V} {ps : List Addr} {a : DE} {p : Addr} {us : List V} {ys : List D} : F.P p → F.N p → ¬ Jo O p → F.H0 p = none → p ∉ ps → H p = some (.lst us) → RepL (Ow F O) H us ys → AR F O σ H ms as xs vs ps → AR F O σ H (.bor :: ms) (.new a :: as) (.inl (.lst ys) :: xs) (.ref p :: vs) (p :: ps)
def ArgsD (X : Cx) (Wx : WX) (es : List Expr) (ms : List Md) (as : List Arg) : Prop := ∃ t : TA, PA X es t ∧ ∀ (F : Fm) (O : Nat → Option Addr) (env : Env) (σ : L2.St) (H : Hp) (Q : List V → Hp → Prop), SR X.K F O env σ H →
  Want (argsV as) env (fun xs e1 => ∀ vs F1 H1 ps, FX F F1 H → SR X.K F1 O e1 σ H1 → Ke (Jo O) H H1 → AR F1 O σ H1 ms as xs vs ps → (∀ q ∈ ps, H q = none) → Q vs H1) (XW X.K F O σ H Wx) → t σ H Q
theorem XR.sub {K : PySem.W.Frag} {W W' : Pr} {c : Str} {fs : List D} {cls : Value} {dd : Option Addr} {H : Hp} (h : ∀ a, W' a → W a) (x : XR K W c fs cls dd H) : XR K W' c fs cls dd H := by
  obtain ⟨x1, x2⟩ := x
  refine ⟨x1, ?_⟩
  cases dd with
  | none => exact x2
  | some d => obtain ⟨y0, vs, y1, y2, y3⟩ := x2; exact ⟨fun z => y0 (h d z), vs, y1, y2, y3.sub fun a z => .inl (h a z)⟩
theorem XW.fx {K : PySem.W.Frag} {F F1 : Fm} {O : Nat → Option Addr} {σ : L2.St} {H H1 : Hp} {Wx : WX} (x : FX F F1 H) (k : Ke (Jo O) H H1) : ∀ c fs e, XW K F O σ H Wx c fs e → XW K F1 O σ H1 Wx c fs e :=
  fun _ _ _ h cls d H' S k1 r => h cls d H' (S.down x) (k.trans k1) (r.sub x.ow)
section
variable {X : Cx} {Wx : WX} {e : Expr} {es : List Expr} {ms : List Md} {as : List Arg} {ma : DE} {p : Pos}
theorem ga_nil : ArgsD X Wx [] [] [] := ⟨_, pa_nil, fun F O env σ H Q S w => w [] F H [] .refl S .refl .nil (fun _ h => by cases h)⟩
theorem ga_val (ha : PD .s X Wx e ma) (hr : ArgsD X Wx es ms as) (hs : starEach (e :: es) X.env = (false, eval e X.env) :: starEach es X.env := by rfl) : ArgsD X Wx (e :: es) (.val :: ms) (.e ma :: as) := by
  obtain ⟨ta, pa, qa⟩ := ha
  obtain ⟨tr, pr, qr⟩ := hr
  refine ⟨_, pa_cons pa pr hs, fun F O env σ H Q S w => qa F O env σ H _ S ((Want.bind (m := ma) w).imp (fun d e1 w1 v H1 S1 k1 r1 => ?_) fun _ _ _ z => z)⟩
  refine qr F O e1 σ H1 _ S1 ((Want.bind w1).imp (fun xs e2 w2 vs F1 H2 ps x S2 k2 ar hq => ?_) (XW.later k1))
  exact w2 (v :: vs) F1 H2 ps (FX.refl.trans x k1.there) S2 (k1.trans k2) (.val (r1.ke k2.ow fun a z => z.elim (fun z => (x.pn a z).elim (fun z => .inl (.inl z)) .inr) fun z => .inl (.inr z)) ar) fun q h => none_back k1.there (hq q h)
theorem ga_rov (ha : PD .s X Wx e ma) (hr : ArgsD X Wx es ms as) (hs : starEach (e :: es) X.env = (false, eval e X.env) :: starEach es X.env := by rfl) : ArgsD X Wx (e :: es) (.ro :: ms) (.e ma :: as) := by
  obtain ⟨ta, pa, qa⟩ := ha
  obtain ⟨tr, pr, qr⟩ := hr
  refine ⟨_, pa_cons pa pr hs, fun F O env σ H Q S w => qa F O env σ H _ S ((Want.bind (m := ma) w).imp (fun d e1 w1 v H1 S1 k1 r1 => ?_) fun _ _ _ z => z)⟩
  refine qr F O e1 σ H1 _ S1 ((Want.bind w1).imp (fun xs e2 w2 vs F1 H2 ps x S2 k2 ar hq => ?_) (XW.later k1))
  exact w2 (v :: vs) F1 H2 ps (FX.refl.trans x k1.there) S2 (k1.trans k2) (.rov (r1.ke k2.ow fun a z => z.elim (fun z => (x.pn a z).elim (fun z => .inl (.inl z)) .inr) fun z => .inl (.inr z)) ar) fun q h => none_back k1.there (hq q h)
theorem ga_look {i : Nat} {x : Str} (hN : X.N[i]? = some x) (hv : Vis X.env.scope x) (hr : ArgsD X Wx es ms as) (hs : starEach (.Name x p :: es) X.env = (false, eval (.Name x p) X.env) :: starEach es X.env := by rfl)
    (hd : (x == ("__debug__" : Str)) = false := by decide) (hcd : (x == ("__classdict__" : Str)) = false := by decide) : ArgsD X Wx (.Name x p :: es) (.ro :: ms) (.look i :: as) := by
  obtain ⟨tr, pr, qr⟩ := hr
  refine ⟨_, pa_cons (pe_var hN hv hd hcd) pr hs, fun F O env σ H Q S w => ?_⟩
  obtain ⟨v, d, e, r, w⟩ := (Want.bind w).tmp S
  refine ⟨v, get1_some e, qr F O env σ H _ S ((Want.bind w).imp (fun xs e2 w2 vs F1 H2 ps x S2 k2 ar hq => ?_) fun _ _ _ z => z)⟩
  exact w2 (v :: vs) F1 H2 ps x S2 k2 (.look e ar) hq
theorem ga_lend {i : Nat} {x : Str} (hN : X.N[i]? = some x) (hv : Vis X.env.scope x) (hr : ArgsD X Wx es ms as) (hs : starEach (.Name x p :: es) X.env = (false, eval (.Name x p) X.env) :: starEach es X.env := by rfl)
    (hd : (x == ("__debug__" : Str)) = false := by decide) (hcd : (x == ("__classdict__" : Str)) = false := by decide) : ArgsD X Wx (.Name x p :: es) (.bor :: ms) (.lend i :: as) := by
  obtain ⟨tr, pr, qr⟩ := hr
  refine ⟨_, pa_cons (pe_var hN hv hd hcd) pr hs, fun F O env σ H Q S w => ?_⟩
  obtain ⟨v, d, e, r, w⟩ := (Want.bind w).tmp S
  refine ⟨v, get1_some e, qr F O env σ H _ S ((Want.bind w).imp (fun xs e2 w2 vs F1 H2 ps x S2 k2 ar hq => ?_) fun _ _ _ z => z)⟩
  exact w2 (v :: vs) F1 H2 ps x S2 k2 (.lend e ar) hq
theorem ga_new (ha : PD .f X Wx e ma) (hr : ArgsD X Wx es ms as) (hs : starEach (e :: es) X.env = (false, eval e X.env) :: starEach es X.env := by rfl) : ArgsD X Wx (e :: es) (.bor :: ms) (.new ma :: as) := by
  obtain ⟨ta, pa, qa⟩ := ha
  obtain ⟨tr, pr, qr⟩ := hr
  refine ⟨_, pa_cons pa pr hs, fun F O env σ H Q S w => qa F O env σ H _ S ((Want.bind (m := ma) w).imp (fun d e1 w1 v H1 S1 k1 r1 => ?_) fun _ _ _ z => z)⟩
  obtain ⟨p, us, ys, rfl, rfl, hp, hp', l, S1'⟩ := r1
  have x1 : FX F (F.ad p) H := FX.ad hp
  refine qr (F.ad p) O e1 σ H1 _ S1' ((Want.bind w1).imp (fun xs e2 w2 vs F1 H2 ps x S2 k2 ar hq => ?_) (XW.fx x1 k1))
  have nj : ¬ Jo O p := fun z => S.prot p (.inr z) hp
  exact w2 (.ref p :: vs) F1 H2 (p :: ps) (x1.trans x k1.there) S2 (k1.trans k2)
    (.new (x.p p (.inr rfl)) (x.n p (.inr rfl)) nj (by rw [x.h0]; exact al_none S.al hp) (fun z => by have := hq p z; rw [hp'] at this; cases this) (k2.stay _ _ nj hp') (l.ke k2.ow fun a z => z.elim (fun z => (x.pn a z).elim (fun z => .inl (.inl z)) .inr) fun z => .inl (.inr z)) ar)
    fun q h => by
      rcases List.mem_cons.mp h with rfl | h
      · exact hp
      · exact none_back k1.there (hq q h)
end
/-! ### the callee's frame -/
def ba0 : Md → V → Option Addr
  | .bor, .ref a => some a
  | _, _ => none
def baL : List Md → List V → Nat → Option Addr
  | m :: _, v :: _, 0 => ba0 m v
  | _ :: ms, _ :: vs, j + 1 => baL ms vs j
  | _, _, _ => none
section
variable {K : PySem.W.Frag} {F : Fm} {O : Nat → Option Addr} {σ : L2.St} {H : Hp} {e1 : Env}
theorem AR.len {ms : List Md} {as : List Arg} {xs : List (D ⊕ Nat)} {vs : List V} {ps : List Addr} (ar : AR F O σ H ms as xs vs ps) : vs.length = ms.length := by
  induction ar with
  | nil => rfl
  | val _ _ ih => simp [ih]
  | rov _ _ ih => simp [ih]
  | look _ _ ih => simp [ih]
  | lend _ _ ih => simp [ih]
  | new _ _ _ _ _ _ _ _ ih => simp [ih]
/-- an own list's value -/
theorem SR.ownV (S : SR K F O e1 σ H) {i : Nat} {v : V} (h : isL (sl e1 i) = true) (e : get1 σ i = some v) : ∃ a vs xs, v = .ref a ∧ O i = some a ∧ H a = some (.lst vs) ∧ RepL (Ow F O) H vs xs ∧ argD e1 (.inr i) = some (.lst xs) := by
  have s := S.slot i
  cases q : sl e1 i with
  | own xs => rw [q] at s; obtain ⟨a, vs, h1, h0, h2, h3, r⟩ := s; rw [h2] at e; cases e; exact ⟨a, vs, xs, rfl, h1, h3, r, by show slD (sl e1 i) = _; rw [q]; rfl⟩
  | bor xs => rw [q] at s; obtain ⟨a, vs, h1, h0, h2, h3, r⟩ := s; rw [h2] at e; cases e; exact ⟨a, vs, xs, rfl, h1, h3, r, by show slD (sl e1 i) = _; rw [q]; rfl⟩
  | _ => rw [q] at h; cases h
/-- whom a lent list belongs to -/
theorem ba_who (S : SR K F O e1 σ H) {ms : List Md} {as : List Arg} {xs : List (D ⊕ Nat)} {vs : List V} {ps : List Addr} (ar : AR F O σ H ms as xs vs ps) :
    (∀ i ∈ lends as, isL (sl e1 i) = true) → ∀ j a, baL ms vs j = some a → (∃ i ∈ lends as, O i = some a) ∨ a ∈ ps := by
  induction ar with
  | nil => intro _ j a h; cases j <;> cases h
  | val r ar ih => intro hl j a h; cases j with
    | zero => cases h
    | succ j => exact ih hl j a h
  | rov r ar ih => intro hl j a h; cases j with
    | zero => cases h
    | succ j => exact ih hl j a h
  | look r ar ih => intro hl j a h; cases j with
    | zero => cases h
    | succ j => exact ih hl j a h
  | @lend ms as xs vs ps i v r ar ih => intro hl j a h; cases j with
    | zero =>
      obtain ⟨b, us, ys, rfl, hO, _⟩ := S.ownV (hl i List.mem_cons_self) r
      cases h
      exact .inl ⟨i, List.mem_cons_self, hO⟩
    | succ j =>
      rcases ih (fun i hi => hl i (List.mem_cons_of_mem _ hi)) j a h with ⟨i, hi, z⟩ | z
      · exact .inl ⟨i, List.mem_cons_of_mem _ hi, z⟩
      · exact .inr z
  | new h1 h2 h3 h4 h5 h6 h7 ar ih => intro hl j a h; cases j with
    | zero => cases h; exact .inr List.mem_cons_self
    | succ j =>
      rcases ih hl j a h with z | z
      · exact .inl z
      · exact .inr (List.mem_cons_of_mem _ z)
theorem AR.ps {ms : List Md} {as : List Arg} {xs : List (D ⊕ Nat)} {vs : List V} {ps : List Addr} (ar : AR F O σ H ms as xs vs ps) : ∀ p ∈ ps, F.P p ∧ F.N p ∧ ¬ Jo O p := by
  induction ar with
  | nil => intro p h; cases h
  | val r ar ih => exact ih
  | rov r ar ih => exact ih
  | look r ar ih => exact ih
  | lend r ar ih => exact ih
  | new h1 h2 h3 h4 h5 h6 h7 ar ih =>
    intro p h
    rcases List.mem_cons.mp h with rfl | h
    · exact ⟨h1, h2, h3⟩
    · exact ih p h
theorem ba_inj (S : SR K F O e1 σ H) {ms : List Md} {as : List Arg} {xs : List (D ⊕ Nat)} {vs : List V} {ps : List Addr} (ar : AR F O σ H ms as xs vs ps) :
    (∀ i ∈ lends as, isL (sl e1 i) = true) → (lends as).Nodup → ∀ k j a, baL ms vs k = some a → baL ms vs j = some a → k = j := by
  induction ar with
  | nil => intro _ _ k j a h; cases k <;> cases h
  | val r ar ih => intro hl hn k j a h1 h2; cases k with
    | zero => cases h1
    | succ k => cases j with
      | zero => cases h2
      | succ j => rw [ih hl hn k j a h1 h2]
  | rov r ar ih => intro hl hn k j a h1 h2; cases k with
    | zero => cases h1
    | succ k => cases j with
      | zero => cases h2
      | succ j => rw [ih hl hn k j a h1 h2]
  | look r ar ih => intro hl hn k j a h1 h2; cases k with
    | zero => cases h1
    | succ k => cases j with
      | zero => cases h2
      | succ j => rw [ih hl hn k j a h1 h2]
  | @lend ms as xs vs ps i v r ar ih =>
    intro hl hn k j a h1 h2
    have hl' : ∀ i ∈ lends as, isL (sl e1 i) = true := fun i hi => hl i (List.mem_cons_of_mem _ hi)
    obtain ⟨hni, hn'⟩ := List.nodup_cons.mp hn
    obtain ⟨b, us, ys, rfl, hO, _⟩ := S.ownV (hl i List.mem_cons_self) r
    have no : ∀ j, baL ms vs j = some b → False := fun j h => by
      rcases ba_who S ar hl' j b h with ⟨i', hi', z⟩ | z
      · exact hni (S.inj i' i b z hO ▸ hi')
      · exact (ar.ps b z).2.2 ⟨i, hO⟩
    cases k with
    | zero => cases j with
      | zero => rfl
      | succ j => cases h1; exact (no j h2).elim
    | succ k => cases j with
      | zero => cases h2; exact (no k h1).elim
      | succ j => rw [ih hl' hn' k j a h1 h2]
  | @new ms as xs vs ps a0 p us ys g1 g2 g3 g4 g5 g6 g7 ar ih =>
    intro hl hn k j a h1 h2
    have no : ∀ j, baL ms vs j = some p → False := fun j h => by
      rcases ba_who S ar hl j p h with ⟨i', hi', z⟩ | z
      · exact g3 ⟨i', z⟩
      · exact g5 z
    cases k with
    | zero => cases j with
      | zero => rfl
      | succ j => cases h1; exact (no j h2).elim
    | succ k => cases j with
      | zero => cases h2; exact (no k h1).elim
      | succ j => rw [ih hl hn k j a h1 h2]
/-- looked at by the callee -/
theorem SR.lookV (S : SR K F O e1 σ H) {i : Nat} {v : V} {d : D} (e : get1 σ i = some v) (hd : argD e1 (.inr i) = some d) {Fc : Fm} {Oc : Nat → Option Addr} (hP : ∀ a, Ow Fc Oc a → Ow F O a) (hN : ∀ a, Jo Oc a ∨ Fc.N a → Jo O a ∨ F.N a) (hi : ∀ a, O i = some a → ¬ (Jo Oc a ∨ Fc.N a)) : RoR K Fc Oc H v d := by
  have s := S.slot i
  have hd : slD (sl e1 i) = some d := hd
  cases q : sl e1 i with
  | no => rw [q] at hd; cases hd
  | val d => rw [q] at hd s; cases hd; obtain ⟨h1, v', h2, r⟩ := s; rw [h2] at e; cases e; exact .of (r.sub fun a z => .inl (hP a z))
  | ro d => rw [q] at hd s; cases hd; obtain ⟨h1, v', h2, r⟩ := s; rw [h2] at e; cases e; exact r.go Ke.refl (fun a z => .inl (hP a z)) fun a z => .inl (hN a z)
  | own xs => rw [q] at hd s; cases hd; obtain ⟨a, vs, h1, h0, h2, h3, r⟩ := s; rw [h2] at e; cases e; exact .lst (hi a h1) (.inl h3) (r.sub fun a z => .inl (hP a z))
  | bor xs => rw [q] at hd s; cases hd; obtain ⟨a, vs, h1, h0, h2, h3, r⟩ := s; rw [h2] at e; cases e; exact .lst (hi a h1) (.inl h3) (r.sub fun a z => .inl (hP a z))
  | odc kvs => rw [q] at hd s; cases hd; obtain ⟨a, vs, h1, h0, h2, h3, r⟩ := s; rw [h2] at e; cases e; exact .dic (hi a h1) (.inl h3) (r.sub fun a z => .inl (hP a z))
  | ldc kvs => rw [q] at hd s; cases hd; obtain ⟨h1, a, vs, o, h0, h2, h3, r⟩ := s; rw [h2] at e; cases e; exact .dic (fun z => h0 (hN a z)) (.inr ⟨o, h3⟩) (r.sub fun a z => .inl (hP a z))
  | ros b j fs => rw [q] at hd; cases hd
  | pst b xs => rw [q] at hd; cases hd
theorem call_slots (S : SR K F O e1 σ H) {Fc : Fm} {Oc : Nat → Option Addr} (hP : ∀ a, Ow Fc Oc a → Ow F O a) (hN : ∀ a, Jo Oc a ∨ Fc.N a → Jo O a ∨ F.N a) {ms : List Md} {as : List Arg} {xs : List (D ⊕ Nat)} {vs : List V} {ps : List Addr} (ar : AR F O σ H ms as xs vs ps) :
    ∀ {ds : List D} (i : Nat), (∀ i ∈ lends as, isL (sl e1 i) = true) → (∀ i ∈ looks as, ∀ a, O i = some a → ¬ (Jo Oc a ∨ Fc.N a)) → argsD e1 xs = some ds → (∀ j, Oc (i + j) = baL ms vs j) → (∀ j, Fc.ba (i + j) = baL ms vs j) →
      lstsOk ms ds = true ∧ (startE ms ds).length = ms.length ∧ ∀ j, j < ms.length → SlR K Fc Oc H (i + j) (vs[j]?) (sl (startE ms ds) j) := by
  have cut : ∀ {x : D ⊕ Nat} {xs : List (D ⊕ Nat)} {ds : List D}, argsD e1 (x :: xs) = some ds → ∃ d ds', argD e1 x = some d ∧ argsD e1 xs = some ds' ∧ ds = d :: ds' := fun {x xs ds} h => by
    unfold argsD at h
    cases q1 : argD e1 x with
    | none => rw [q1] at h; cases h
    | some d => cases q2 : argsD e1 xs with
      | none => rw [q1, q2] at h; cases h
      | some ds' => rw [q1, q2] at h; cases h; exact ⟨d, ds', rfl, rfl, rfl⟩
  have nx : ∀ {f : Nat → Option Addr} {i : Nat} {m : Md} {ms : List Md} {v : V} {vs : List V}, (∀ j, f (i + j) = baL (m :: ms) (v :: vs) j) → ∀ j, f (i + 1 + j) = baL ms vs j := fun h j => by
    have := h (j + 1)
    rw [show ∀ i, i + (j + 1) = i + 1 + j from fun i => by omega] at this
    exact this
  induction ar with
  | nil => intro ds i _ _ h _ _; cases h; exact ⟨rfl, rfl, fun j hj => absurd hj (Nat.not_lt_zero _)⟩
  | val r ar ih =>
    intro ds i hl hk h hO hB
    obtain ⟨d', ds', h1, h2, rfl⟩ := cut h
    cases h1
    obtain ⟨g1, g2, g3⟩ := ih (i + 1) hl hk h2 (nx hO) (nx hB)
    refine ⟨g1, by simp [startE, g2], fun j hj => ?_⟩
    cases j with
    | zero => exact ⟨hO 0, _, rfl, r.sub fun a z => .inl (hP a z)⟩
    | succ j => rw [show i + (j + 1) = i + 1 + j by omega]; exact g3 j (Nat.lt_of_succ_lt_succ hj)
  | rov r ar ih =>
    intro ds i hl hk h hO hB
    obtain ⟨d', ds', h1, h2, rfl⟩ := cut h
    cases h1
    obtain ⟨g1, g2, g3⟩ := ih (i + 1) hl hk h2 (nx hO) (nx hB)
    refine ⟨g1, by simp [startE, g2], fun j hj => ?_⟩
    cases j with
    | zero => exact ⟨hO 0, _, rfl, .of (r.sub fun a z => .inl (hP a z))⟩
    | succ j => rw [show i + (j + 1) = i + 1 + j by omega]; exact g3 j (Nat.lt_of_succ_lt_succ hj)
  | @look ms as xs vs ps i0 v r ar ih =>
    intro ds i hl hk h hO hB
    obtain ⟨d', ds', h1, h2, rfl⟩ := cut h
    obtain ⟨g1, g2, g3⟩ := ih (i + 1) hl (fun i hi => hk i (List.mem_cons_of_mem _ hi)) h2 (nx hO) (nx hB)
    refine ⟨g1, by simp [startE, g2], fun j hj => ?_⟩
    cases j with
    | zero => exact ⟨hO 0, _, rfl, S.lookV r h1 hP hN (hk i0 List.mem_cons_self)⟩
    | succ j => rw [show i + (j + 1) = i + 1 + j by omega]; exact g3 j (Nat.lt_of_succ_lt_succ hj)
  | @lend ms as xs vs ps i0 v r ar ih =>
    intro ds i hl hk h hO hB
    obtain ⟨d', ds', h1, h2, rfl⟩ := cut h
    obtain ⟨g1, g2, g3⟩ := ih (i + 1) (fun i hi => hl i (List.mem_cons_of_mem _ hi)) hk h2 (nx hO) (nx hB)
    obtain ⟨a, us, ys, rfl, hO', hH, l, e⟩ := S.ownV (hl i0 List.mem_cons_self) r
    rw [e] at h1
    cases h1
    refine ⟨g1, by simp [startE, g2], fun j hj => ?_⟩
    cases j with
    | zero => exact ⟨a, us, hO 0, hB 0, rfl, hH, l.sub fun a z => .inl (hP a z)⟩
    | succ j => rw [show i + (j + 1) = i + 1 + j by omega]; exact g3 j (Nat.lt_of_succ_lt_succ hj)
  | @new ms as xs vs ps a0 p us ys q1 q2 q3 q4 q5 q6 q7 ar ih =>
    intro ds i hl hk h hO hB
    obtain ⟨d', ds', h1, h2, rfl⟩ := cut h
    cases h1
    obtain ⟨g1, g2, g3⟩ := ih (i + 1) hl hk h2 (nx hO) (nx hB)
    refine ⟨g1, by simp [startE, g2], fun j hj => ?_⟩
    cases j with
    | zero => exact ⟨p, us, hO 0, hB 0, rfl, q6, q7.sub fun a z => .inl (hP a z)⟩
    | succ j => rw [show i + (j + 1) = i + 1 + j by omega]; exact g3 j (Nat.lt_of_succ_lt_succ hj)
end
end AH
namespace AH
open PySem PySem.Spec PyProof.Rows L2
variable [TheK]
theorem sl_app : ∀ (e e' : Env) (j : Nat), j < e.length → sl (e ++ e') j = sl e j
  | [], _, _, h => absurd h (Nat.not_lt_zero _)
  | _ :: _, _, 0, _ => rfl
  | _ :: e, e', j + 1, h => sl_app e e' j (Nat.lt_of_succ_lt_succ h)
theorem sl_rep_no : ∀ n j : Nat, sl (List.replicate n .no) j = .no
  | 0, _ => rfl
  | _ + 1, 0 => rfl
  | n + 1, j + 1 => sl_rep_no n j
theorem sl_app_no : ∀ (e : Env) (n j : Nat), e.length ≤ j → sl (e ++ List.replicate n .no) j = .no
  | [], n, j, _ => sl_rep_no n j
  | _ :: _, _, 0, h => absurd h (Nat.not_succ_le_zero _)
  | _ :: e, n, j + 1, h => sl_app_no e n j (Nat.le_of_succ_le_succ h)
theorem startE_ros : ∀ (ms : List Md) (ds : List D) (i : Nat) (b : Bool) (j : Nat) (fs : List D), sl (startE ms ds) i ≠ .ros b j fs
  | .val :: ms, d :: ds, 0, _, _, _ => fun z => by cases z
  | .ro :: ms, d :: ds, 0, _, _, _ => fun z => by cases z
  | .bor :: ms, .lst xs :: ds, 0, _, _, _ => fun z => by cases z
  | .val :: ms, d :: ds, i + 1, _, _, _ => startE_ros ms ds i _ _ _
  | .ro :: ms, d :: ds, i + 1, _, _, _ => startE_ros ms ds i _ _ _
  | .bor :: ms, .lst xs :: ds, i + 1, _, _, _ => startE_ros ms ds i _ _ _
  | [], _, _, _, _, _ => fun z => by simp [startE, sl] at z
  | .val :: _, [], _, _, _, _ => fun z => by simp [startE, sl] at z
  | .ro :: _, [], _, _, _, _ => fun z => by simp [startE, sl] at z
  | .bor :: _, [], _, _, _, _ => fun z => by simp [startE, sl] at z
  | .bor :: _, .non :: _, _, _, _, _ => fun z => by simp [startE, sl] at z
  | .bor :: _, .bl _ :: _, _, _, _, _ => fun z => by simp [startE, sl] at z
  | .bor :: _, .int _ :: _, _, _, _, _ => fun z => by simp [startE, sl] at z
  | .bor :: _, .str _ :: _, _, _, _, _ => fun z => by simp [startE, sl] at z
  | .bor :: _, .tup _ :: _, _, _, _, _ => fun z => by simp [startE, sl] at z
  | .bor :: _, .dic _ :: _, _, _, _, _ => fun z => by simp [startE, sl] at z
  | .bor :: _, .exc _ _ _ :: _, _, _, _, _ => fun z => by simp [startE, sl] at z
  | .bor :: _, .obj _ :: _, _, _, _, _ => fun z => by simp [startE, sl] at z
  | .bor :: _, .ktp _ :: _, _, _, _, _ => fun z => by simp [startE, sl] at z
theorem start_lnk (ms : List Md) (ds : List D) (n : Nat) : Lnk (startE ms ds ++ List.replicate n .no) := fun i b j fs h => by
  by_cases hi : i < (startE ms ds).length
  · rw [sl_app _ _ _ hi] at h; exact absurd h (startE_ros ms ds i b j fs)
  · rw [sl_app_no _ _ _ (by omega)] at h; cases h
theorem baL_out : ∀ (ms : List Md) (vs : List V) (j : Nat), ms.length ≤ j → baL ms vs j = none
  | [], _, j, _ => by cases j <;> rfl
  | _ :: _, [], j, _ => by cases j <;> rfl
  | _ :: _, _ :: _, 0, h => absurd h (Nat.not_succ_le_zero _)
  | _ :: ms, _ :: vs, j + 1, h => baL_out ms vs j (Nat.le_of_succ_le_succ h)
section
variable {K : PySem.W.Frag} {F : Fm} {O : Nat → Option Addr} {σ : L2.St} {H H1 H' : Hp} {e0 e1 : Env}
theorem putL_sl (e : Env) (i j : Nat) (xs : List D) (h : isL (sl e j) = true) : isL (sl (putL e i xs) j) = true := by
  unfold putL
  by_cases hj : j = i
  · subst hj
    have hl : j < e.length := Nat.lt_of_not_le fun z => by rw [sl_out _ _ z] at h; cases h
    rw [sl_put_same _ _ _ hl]
    cases q : sl e j with
    | own ys => rfl
    | bor ys => rfl
    | _ => rw [q] at h; cases h
  · rw [sl_put_ne _ _ _ _ hj]; exact h
theorem isL_or {s : Sl} (h : isL s = true) : ∃ xs, s = .own xs ∨ s = .bor xs := by
  cases s with
  | own xs => exact ⟨xs, .inl rfl⟩
  | bor xs => exact ⟨xs, .inr rfl⟩
  | _ => cases h
/-- the lent lists come back -/
theorem give_back {Z : Pr} {ba : Nat → Option Addr} (hZ : ∀ a, Ow F O a → Z a) {F1 : Fm} {H1 : Hp} (fx : ∀ a, F1.P a → F.P a) (fn : ∀ a, F1.N a → F.N a) (f0 : F1.H0 = F.H0) {ms : List Md} {as : List Arg} {xs : List (D ⊕ Nat)} {vs : List V} {ps : List Addr} (ar : AR F1 O σ H1 ms as xs vs ps) :
    ∀ {bs : List (List D)} {e e2 : Env} {Hm : Hp} (i : Nat), (∀ i ∈ lends as, isL (sl e i) = true) → giveBack as bs e = some e2 → BoL Z ba H' i ms bs → (∀ j, ba (i + j) = baL ms vs j) → SR K F O e σ Hm → (∀ a, (∀ j, baL ms vs j ≠ some a) → Hm a = H' a) → (∀ a, H' a ≠ none → Hm a ≠ none) → (∀ j a, baL ms vs j = some a → Z a) → SR K F O e2 σ H' := by
  have nx : ∀ {f : Nat → Option Addr} {i : Nat} {m : Md} {ms : List Md} {v : V} {vs : List V}, (∀ j, f (i + j) = baL (m :: ms) (v :: vs) j) → ∀ j, f (i + 1 + j) = baL ms vs j := fun h j => by
    have := h (j + 1)
    rw [show ∀ i, i + (j + 1) = i + 1 + j from fun i => by omega] at this
    exact this
  have skip : ∀ {m : Md} {ms : List Md} {v : V} {vs : List V} {a : Addr}, ba0 m v = none → (∀ j, baL ms vs j ≠ some a) → ∀ j, baL (m :: ms) (v :: vs) j ≠ some a := fun h0 h j => by
    cases j with
    | zero => show ba0 _ _ ≠ _; rw [h0]; simp
    | succ j => exact h j
  induction ar with
  | nil =>
    intro bs e e2 Hm i hl hg hb hB S hm _ _
    cases bs with
    | nil =>
      cases hg
      have : Hm = H' := funext fun a => hm a fun j => by cases j <;> simp [baL]
      rw [← this]
      exact S
    | cons b bs => cases hg
  | val r ar ih => intro bs e e2 Hm i hl hg hb hB S hm ht hz; exact ih (i + 1) hl hg hb (nx hB) S (fun a h => hm a (skip rfl h)) ht fun j => hz (j + 1)
  | rov r ar ih => intro bs e e2 Hm i hl hg hb hB S hm ht hz; exact ih (i + 1) hl hg hb (nx hB) S (fun a h => hm a (skip rfl h)) ht fun j => hz (j + 1)
  | look r ar ih => intro bs e e2 Hm i hl hg hb hB S hm ht hz; exact ih (i + 1) hl hg hb (nx hB) S (fun a h => hm a (skip rfl h)) ht fun j => hz (j + 1)
  | @lend ms as xs vs ps i0 v r ar ih =>
    intro bs e e2 Hm i hl hg hb hB S hm ht hz
    cases bs with
    | nil => cases hg
    | cons b bs =>
      obtain ⟨⟨a, us, hba, hH, l⟩, hb⟩ := hb
      obtain ⟨ys, hy⟩ := isL_or (hl i0 List.mem_cons_self)
      obtain ⟨a', vs', hO, hbo, hgt, hHm, l', fin⟩ := S.ownAt hy
      rw [r] at hgt
      cases hgt
      have ea : a = a' := by
        have h0 : ba i = some a' := hB 0
        rw [h0] at hba
        cases hba
        rfl
      subst ea
      have za : Z a := hZ a (.inr ⟨i0, hO⟩)
      have th : ∀ x, H' x ≠ none → upd Hm a (.lst us) x ≠ none := fun x hx => by
        by_cases hxa : x = a
        · rw [hxa, upd_same]; simp
        · rw [upd_ne hxa]; exact ht x hx
      refine ih (Hm := upd Hm a (.lst us)) (i + 1) (fun j hj => putL_sl e i0 j b (hl j (List.mem_cons_of_mem _ hj))) hg hb (nx hB) ?_ (fun x hx => ?_) th (fun j => hz (j + 1))
      · refine S.mut hO hbo (fin _ us b upd_same ?_) (S.lnkL hy (not_rosL hy))
        refine l.ke ⟨fun x o nz hx => ?_, th⟩ fun x z => .inl (hZ x z)
        rw [upd_ne (fun z : x = a => nz (by rw [z]; exact za)), hm x fun j hj => nz (hz j x hj)]
        exact hx
      · by_cases hxa : x = a
        · rw [hxa, upd_same, hH]
        · rw [upd_ne hxa]
          refine hm x fun j => ?_
          cases j with
          | zero => intro z; cases z; exact hxa rfl
          | succ j => exact hx j
  | @new ms as xs vs ps a0 p us0 ys q1 q2 q3 q4 q5 q6 q7 ar ih =>
    intro bs e e2 Hm i hl hg hb hB S hm ht hz
    cases bs with
    | nil => cases hg
    | cons b bs =>
      obtain ⟨⟨a, us, hba, hH, l⟩, hb⟩ := hb
      have ea : a = p := by
        have h0 : ba i = some p := hB 0
        rw [h0] at hba
        cases hba
        rfl
      subst ea
      refine ih (Hm := upd Hm a (.lst us)) (i + 1) hl hg hb (nx hB) (S.updQ (fx a q1) (fn a q2) q3 (by rw [← f0]; exact q4)) (fun x hx => ?_) (fun x hx => ?_) (fun j => hz (j + 1))
      · by_cases hxa : x = a
        · rw [hxa, upd_same, hH]
        · rw [upd_ne hxa]
          refine hm x fun j => ?_
          cases j with
          | zero => intro z; cases z; exact hxa rfl
          | succ j => exact hx j
      · by_cases hxa : x = a
        · rw [hxa, upd_same]; simp
        · rw [upd_ne hxa]; exact ht x hx
theorem boL_lst {Z : Pr} {ba : Nat → Option Addr} {H : Hp} : ∀ {ms : List Md} {vs : List V} {bs : List (List D)} {i : Nat}, (∀ j, ba (i + j) = baL ms vs j) → BoL Z ba H i ms bs → ∀ j b, baL ms vs j = some b → ∃ us, H b = some (.lst us)
  | [], vs, bs, i, _, _, j, b, e => by rw [baL_out [] vs j (Nat.zero_le _)] at e; cases e
  | m :: ms, [], bs, i, _, _, j, b, e => by cases j <;> cases e
  | m :: ms, v :: vs, bs, i, h, hb, j, b, e => by
    have nx : ∀ j, ba (i + 1 + j) = baL ms vs j := fun j => by
      have := h (j + 1)
      rw [show i + (j + 1) = i + 1 + j by omega] at this
      exact this
    cases m with
    | bor =>
      cases bs with
      | nil => exact hb.elim
      | cons x bs =>
        obtain ⟨⟨a, us, h1, h2, _⟩, hb⟩ := hb
        cases j with
        | zero =>
          have := h 0
          rw [Nat.add_zero, h1, e] at this
          cases this
          exact ⟨us, h2⟩
        | succ j => exact boL_lst (vs := vs) nx hb j b e
    | val =>
      cases j with
      | zero => cases e
      | succ j => exact boL_lst (ms := ms) (vs := vs) (bs := bs) nx (by cases bs <;> exact hb) j b e
    | ro =>
      cases j with
      | zero => cases e
      | succ j => exact boL_lst (ms := ms) (vs := vs) (bs := bs) nx (by cases bs <;> exact hb) j b e
theorem SR.looked (S : SR K F O e1 σ H1) {G : Fm} {ms : List Md} {as : List Arg} {xs : List (D ⊕ Nat)} {vs : List V} {ps : List Addr} (ar : AR G O σ H1 ms as xs vs ps) : ∀ {ds : List D}, argsD e1 xs = some ds → ∀ i ∈ looks as, ∀ {b : Addr}, O i = some b → (∃ us, H1 b = some (.lst us)) ∨ ∃ us, H1 b = some (.dT us) := by
  have cut : ∀ {x : D ⊕ Nat} {xs : List (D ⊕ Nat)} {ds : List D}, argsD e1 (x :: xs) = some ds → ∃ d ds', argD e1 x = some d ∧ argsD e1 xs = some ds' := fun {x xs ds} h => by
    unfold argsD at h
    cases q1 : argD e1 x with
    | none => rw [q1] at h; cases h
    | some d => cases q2 : argsD e1 xs with
      | none => rw [q1, q2] at h; cases h
      | some ds' => exact ⟨d, ds', rfl, rfl⟩
  induction ar with
  | nil => intro ds _ i hi; cases hi
  | val r ar ih => intro ds h i hi b e; obtain ⟨d, ds', _, h2⟩ := cut h; exact ih h2 i hi e
  | rov r ar ih => intro ds h i hi b e; obtain ⟨d, ds', _, h2⟩ := cut h; exact ih h2 i hi e
  | lend r ar ih => intro ds h i hi b e; obtain ⟨d, ds', _, h2⟩ := cut h; exact ih h2 i hi e
  | new q1 q2 q3 q4 q5 q6 q7 ar ih => intro ds h i hi b e; obtain ⟨d, ds', _, h2⟩ := cut h; exact ih h2 i hi e
  | @look ms as xs vs ps i0 v r ar ih =>
    intro ds h i hi b e
    obtain ⟨d, ds', h1, h2⟩ := cut h
    rcases List.mem_cons.mp hi with rfl | hi
    · have s := S.slot i
      have h1 : slD (sl e1 i) = some d := h1
      cases q : sl e1 i with
      | no => rw [q] at h1; cases h1
      | val d => rw [q] at s; obtain ⟨z, _⟩ := s; rw [e] at z; cases z
      | ro d => rw [q] at s; obtain ⟨z, _⟩ := s; rw [e] at z; cases z
      | own ys => rw [q] at s; obtain ⟨a, us, z, _, _, y, _⟩ := s; rw [e] at z; cases z; exact .inl ⟨us, y⟩
      | bor ys => rw [q] at s; obtain ⟨a, us, z, _, _, y, _⟩ := s; rw [e] at z; cases z; exact .inl ⟨us, y⟩
      | odc ys => rw [q] at s; obtain ⟨a, us, z, _, _, y, _⟩ := s; rw [e] at z; cases z; exact .inr ⟨us, y⟩
      | ldc ys => rw [q] at s; obtain ⟨z, _⟩ := s; rw [e] at z; cases z
      | ros b j fs => rw [q] at h1; cases h1
      | pst b xs => rw [q] at h1; cases h1
    · exact ih h2 i hi e
/-- THE RULE of calls, behind the arguments -/
theorem call_wish {fl : Fl} {N : List Str} {f : DF} {ms : List Md} {as : List Arg} {xs : List (D ⊕ Nat)} {vs : List V} {ps : List Addr} {F1 : Fm} {Q : VK} {Wx : WX} (hfl : fl ≠ .w) (hN : ms.length ≤ N.length) (ok : argsOk as = true) (S0 : SR K F O e0 σ H) (x : FX F F1 H) (S : SR K F1 O e1 σ H1) (k : Ke (Jo O) H H1) (ar : AR F1 O σ H1 ms as xs vs ps) (hps : ∀ q ∈ ps, H q = none)
    (w : Want (fun e1 => if !(lends as).all (fun i => isL (sl e1 i)) then R.bad else (match argsD e1 xs with
    | some ds => (match f ds with
      | .ok d bs => (match giveBack as bs e1 with
        | some e2 => .ok d e2
        | none => .bad)
      | .ex c fs bs => (match giveBack as bs e1 with
        | some e2 => .ex c fs e2
        | none => .bad)
      | .bad => .bad)
    | none => .bad)) e1 (fun d e1 => ∀ v H', SR K F O e1 σ H' → Ke (Jo O) H H' → Po fl K F O e1 σ H H' v d → Q v H') (XW K F O σ H Wx)) :
    spD fl K N ms f vs H1 Q (WE Wx σ) := by
  unfold Want at w
  cases hl : (lends as).all (fun i => isL (sl e1 i)) with
  | false => simp only [hl] at w; exact w.elim
  | true =>
  simp only [hl] at w
  have hl' : ∀ i ∈ lends as, isL (sl e1 i) = true := List.all_eq_true.mp hl
  cases hds : argsD e1 xs with
  | none => simp only [hds] at w; exact w.elim
  | some ds =>
  simp only [hds] at w
  obtain ⟨ok1, ok2⟩ := Bool.and_eq_true_iff.mp ok
  have nd : (lends as).Nodup := of_decide_eq_true ok1
  have hlk : ∀ i ∈ looks as, i ∉ lends as := fun i hi hi' => by
    have := List.all_eq_true.mp ok2 i hi
    simp [hi'] at this
  have who := ba_who S ar hl'
  have lal : ∀ j a, baL ms vs j = some a → Ow F1 O a := fun j a h => by
    rcases who j a h with ⟨i, _, z⟩ | z
    · exact .inr ⟨i, z⟩
    · exact .inl (ar.ps a z).1
  have lan : ∀ j a, baL ms vs j = some a → Jo O a ∨ F1.N a := fun j a h => by
    rcases who j a h with ⟨i, _, z⟩ | z
    · exact .inl ⟨i, z⟩
    · exact .inr (ar.ps a z).2.1
  let Fc : Fm := ⟨Ow F1 O, fun b => (Jo O b ∨ F1.N b) ∧ ((∀ j, baL ms vs j ≠ some b) ∧ ∀ i ∈ looks as, O i ≠ some b), H1, baL ms vs⟩
  have hP : ∀ a, Ow Fc (baL ms vs) a → Ow F1 O a := fun a z => z.elim id fun ⟨j, z⟩ => lal j a z
  have hNN : ∀ a, Jo (baL ms vs) a ∨ Fc.N a → Jo O a ∨ F1.N a := fun a z => z.elim (fun ⟨j, z⟩ => lan j a z) fun z => z.1
  obtain ⟨g1, g2, g3⟩ := call_slots (Fc := Fc) (Oc := baL ms vs) S hP hNN ar 0 hl' (fun i hi a hO z => by
    rcases z with ⟨j, z⟩ | z
    · rcases who j a z with ⟨i', hi', z'⟩ | z'
      · exact hlk i hi (S.inj i i' a hO z' ▸ hi')
      · exact (ar.ps a z').2.2 ⟨i, hO⟩
    · exact z.2.2 i hi hO) hds (fun j => by rw [Nat.zero_add]) (fun j => by show baL ms vs (0 + j) = _; rw [Nat.zero_add])
  have vl : vs.length = ms.length := ar.len
  have SS : SR K Fc (baL ms vs) (startE ms ds ++ List.replicate (N.length - ms.length) .no) (start N vs) H1 := by
    refine ⟨fun j => ?_, ba_inj S ar hl' nd, fun a z => S.prot a (hP a z), fun a o e _ => e, fun a z => z, ?_, fun a z => z.1.elim (fun z => S.prot a (.inr z)) (S.nal a), fun a xs z => S.ow_tup z, start_lnk ms ds _⟩
    · by_cases hj : j < ms.length
      · have e1 : sl (startE ms ds ++ List.replicate (N.length - ms.length) .no) j = sl (startE ms ds) j := sl_app _ _ _ (by rw [g2]; exact hj)
        have e2 : get1 (start N vs) j = vs[j]? := by
          unfold get1 L2.start
          rw [List.getElem?_append_left (by rw [List.length_map, vl]; exact hj), List.getElem?_map]
          cases vs[j]? <;> rfl
        rw [e1, e2]
        have := g3 j hj
        rw [Nat.zero_add] at this
        exact this
      · have e1 : sl (startE ms ds ++ List.replicate (N.length - ms.length) .no) j = .no := sl_app_no _ _ _ (by rw [g2]; omega)
        rw [e1]
        exact baL_out _ _ _ (by omega)
    · unfold L2.start
      rw [List.length_append, g2, List.length_replicate, List.length_append, List.length_map, List.length_replicate, vl]
  -- behind it
  have bo : ∀ {a : Addr}, ¬ Fc.bo a → ∀ j, baL ms vs j ≠ some a := fun n j z => n ⟨j, z⟩
  have keep : ∀ {H' : Hp}, KeB Fc H1 H' → Ke (Jo O) H H' := fun {H'} kb => by
    refine ⟨fun a o n e => kb.keep a o (k.stay a o n e) ?_, fun a z => kb.there a (k.there a z)⟩
    rintro ⟨j, z⟩
    rcases who j a z with ⟨i, _, z⟩ | z
    · exact n ⟨i, z⟩
    · rw [hps a z] at e; cases e
  have back : ∀ {F2 : Fm} {Z : Pr} {H' : Hp} {bs : List (List D)} {e2 : Env}, giveBack as bs e1 = some e2 → KeB Fc H1 H' → BoL Z (baL ms vs) H' 0 ms bs → (∀ a, Ow F2 O a → Z a) → (∀ a, Ow F1 O a → Z a) → (∀ a, F1.P a → F2.P a) → (∀ a, F1.N a → F2.N a) → F1.H0 = F2.H0 →
      (∀ Hm : Hp, (∀ a o, H1 a = some o → Hm a = some o) → (∀ a, H' a ≠ none → Hm a ≠ none) → (∀ a, H1 a = none → Hm a = H' a) → SR K F2 O e1 σ Hm) → SR K F2 O e2 σ H' := fun {F2 Z H' bs e2} hg kb hb hZ hZ1 h1 h2 h3 hS => by
    classical
    let Hm : Hp := fun a => if ∃ j, baL ms vs j = some a then H1 a else H' a
    have m1 : ∀ a, (∃ j, baL ms vs j = some a) → Hm a = H1 a := fun a h => if_pos h
    have m2 : ∀ a, (¬ ∃ j, baL ms vs j = some a) → Hm a = H' a := fun a h => if_neg h
    have t : ∀ a, H' a ≠ none → Hm a ≠ none := fun a z => by
      by_cases h : ∃ j, baL ms vs j = some a
      · rw [m1 a h]
        obtain ⟨j, h⟩ := h
        exact S.prot a (lal j a h)
      · rw [m2 a h]; exact z
    have st : ∀ a o, H1 a = some o → Hm a = some o := fun a o z => by
      by_cases h : ∃ j, baL ms vs j = some a
      · rw [m1 a h]; exact z
      · rw [m2 a h]; exact kb.keep a o z h
    exact give_back (Z := Z) (ba := baL ms vs) hZ h1 h2 h3 ar (Hm := Hm) 0 hl' hg hb (fun j => by rw [Nat.zero_add]) (hS Hm st t fun a z => m2 a fun ⟨j, h⟩ => S.prot a (lal j a h) z) (fun a h => m2 a fun ⟨j, z⟩ => h j z) t fun j a z => hZ1 a (lal j a z)
  refine ⟨vl, ds, Fc, baL ms vs, SS, rfl, g1, ?_⟩
  cases hf : f ds with
  | bad => simp only [hf] at w; exact w.elim
  | ex c fs bs =>
    simp only [hf] at w
    cases hg : giveBack as bs e1 with
    | none => simp only [hg] at w; exact w.elim
    | some e2 =>
      simp only [hg] at w
      intro cls dd H' kb hb xr
      have S2 : SR K F1 O e2 σ H' := back hg kb hb (fun _ z => z) (fun _ z => z) (fun _ z => z) (fun _ z => z) rfl fun Hm st _ _ => S.ext st
      exact w cls dd H' (S2.down x) (keep kb) (xr.sub fun a z => x.ow a z)
  | ok d bs =>
    simp only [hf] at w
    cases hg : giveBack as bs e1 with
    | none => simp only [hg] at w; exact w.elim
    | some e2 =>
      simp only [hg] at w
      intro v H' kb r
      have ss : Rep Fc.P H' v d → BoL Fc.P (baL ms vs) H' 0 ms bs → SR K F O e2 σ H' ∧ Rep (Ow F O) H' v d := fun r1 r2 => by
        have S2 : SR K F1 O e2 σ H' := back hg kb r2 (fun _ z => z) (fun _ z => z) (fun _ z => z) (fun _ z => z) rfl fun Hm st _ _ => S.ext st
        exact ⟨S2.down x, r1.sub fun a z => .inl (x.ow a z)⟩
      cases fl with
      | w => exact absurd rfl hfl
      | s =>
        obtain ⟨r1, r2⟩ := r
        obtain ⟨S2, r3⟩ := ss r1 r2
        exact w v H' S2 (keep kb) r3
      | ft =>
        obtain ⟨⟨p, us, ys, rfl, rfl, hp', l⟩, r2⟩ := r
        have S2 : SR K F1 O e2 σ H' := back hg kb r2 (fun _ z => z) (fun _ z => z) (fun _ z => z) (fun _ z => z) rfl fun Hm st _ _ => S.ext st
        exact w _ H' (S2.down x) (keep kb) ⟨p, us, ys, rfl, rfl, hp', l.sub fun a z => .inl (x.ow a z)⟩
      | fr =>
        obtain ⟨a, p, ⟨C, dx, us, ws, fs, xs, rfl, rfl, ha, hp, hd, n1, n2, n3, ro, hp', l1, l2⟩, hb⟩ := r
        have xd : H' dx = some (.xd []) := by obtain ⟨_, _, z, _⟩ := ro; exact z
        have hd : ¬ (Jo O dx ∨ F.N dx) := fun z => hd ⟨z.elim .inl fun z => .inr (x.n dx z), fun j e => (by
          obtain ⟨us, e2⟩ := boL_lst (vs := vs) (fun j => by rw [Nat.zero_add]) hb j dx e
          rw [xd] at e2
          cases e2), fun i hi e => (by
          have nb : ¬ Fc.bo dx := fun ⟨j, z⟩ => by
            rcases who j dx z with ⟨i', hi', z'⟩ | z'
            · exact hlk i hi (S.inj i i' dx e z' ▸ hi')
            · exact (ar.ps dx z').2.2 ⟨i, e⟩
          rcases S.looked ar hds i hi e with ⟨us, q⟩ | ⟨us, q⟩
          · have := kb.keep dx _ q nb
            rw [xd] at this
            cases this
          · have := kb.keep dx _ q nb
            rw [xd] at this
            cases this)⟩
        have S2 : SR K ((F1.ad a).ad p) O e2 σ H' := back (F2 := (F1.ad a).ad p) hg kb hb (fun b z => by
          rcases z with ((z | z) | z) | z
          · exact .inl (.inl (.inl z))
          · exact .inl (.inr z)
          · exact .inr z
          · exact .inl (.inl (.inr z))) (fun b z => .inl (.inl z)) (fun b z => .inl (.inl z)) (fun b z => .inl (.inl z)) rfl fun Hm st t u => S.adAt2 st ha hp (t a ro.al) (t p (by rw [hp']; simp)) (fun xs z => by rw [u a ha] at z; exact ro.tup z) (fun xs z => by rw [u p hp, hp'] at z; cases z)
        have S3 : SR K ((F.ad a).ad p) O e2 σ H' := S2.down (H0 := H) ⟨x.ba, x.h0, fun b z => z.elim (fun z => .inl (z.elim (fun z => .inl (x.p b z)) .inr)) .inr, fun b z => z.elim (fun z => .inl (z.elim (fun z => .inl (x.n b z)) .inr)) .inr,
          fun b z => z.elim (fun z => z.elim (fun z => (x.pn b z).elim (fun z => .inl (.inl (.inl z))) .inr) fun z => .inl (.inl (.inr z))) fun z => .inl (.inr z), fun b z => z.elim (fun z => z.elim (fun z => (x.nn b z).elim (fun z => .inl (.inl (.inl z))) .inr) fun z => .inl (.inl (.inr z))) fun z => .inl (.inr z)⟩
        have sub : ∀ b, Ow ((F.ad a).ad p) O b → (Ow F1 O b ∨ b = a) ∨ b = p := fun b z => by
          rcases z with ((z | z) | z) | z
          · exact .inl (.inl (x.ow b (.inl z)))
          · exact .inl (.inr z)
          · exact .inr z
          · exact .inl (.inl (x.ow b (.inr z)))
        exact w _ H' S3.unad.unad (keep kb) ⟨a, p, ⟨C, dx, us, ws, fs, xs, rfl, rfl, none_back k.there ha, none_back k.there hp, hd, n1, n2, n3, ro, hp', l1.sub fun b z => .inl (sub b z), l2.sub fun b z => .inl (sub b z)⟩, S3⟩
      | f =>
        obtain ⟨p, us, ys, rfl, rfl, hp, hp', l, hb⟩ := r
        have S2 : SR K (F1.ad p) O e2 σ H' := back (F2 := F1.ad p) hg kb hb (fun a z => by
          rcases z with (z | z) | z
          · exact .inl (.inl z)
          · exact .inr z
          · exact .inl (.inr z)) (fun a z => .inl z) (fun a z => .inl z) (fun a z => .inl z) rfl fun Hm st t u => S.adAt st hp (t p (by rw [hp']; simp)) fun xs z => by rw [u p hp, hp'] at z; cases z
        have S3 : SR K (F.ad p) O e2 σ H' := S2.down (H0 := H) ⟨x.ba, x.h0, fun a z => z.elim (fun z => .inl (x.p a z)) .inr, fun a z => z.elim (fun z => .inl (x.n a z)) .inr, fun a z => z.elim (fun z => (x.pn a z).elim (fun z => .inl (.inl z)) .inr) fun z => .inl (.inr z), fun a z => z.elim (fun z => (x.nn a z).elim (fun z => .inl (.inl z)) .inr) fun z => .inl (.inr z)⟩
        refine w _ H' S3.unad (keep kb) ⟨p, us, ys, rfl, rfl, none_back k.there hp, hp', l.sub fun a z => .inl ?_, S3⟩
        rcases z with (z | z) | z
        · exact .inl (x.ow a (.inl z))
        · exact .inr z
        · exact .inl (.inr z)
      | fd =>
        obtain ⟨p, us, ys, rfl, rfl, hp, hp', l, hb⟩ := r
        have S2 : SR K (F1.ad p) O e2 σ H' := back (F2 := F1.ad p) hg kb hb (fun a z => by
          rcases z with (z | z) | z
          · exact .inl (.inl z)
          · exact .inr z
          · exact .inl (.inr z)) (fun a z => .inl z) (fun a z => .inl z) (fun a z => .inl z) rfl fun Hm st t u => S.adAt st hp (t p (by rw [hp']; simp)) fun xs z => by rw [u p hp, hp'] at z; cases z
        have S3 : SR K (F.ad p) O e2 σ H' := S2.down (H0 := H) ⟨x.ba, x.h0, fun a z => z.elim (fun z => .inl (x.p a z)) .inr, fun a z => z.elim (fun z => .inl (x.n a z)) .inr, fun a z => z.elim (fun z => (x.pn a z).elim (fun z => .inl (.inl z)) .inr) fun z => .inl (.inr z), fun a z => z.elim (fun z => (x.nn a z).elim (fun z => .inl (.inl z)) .inr) fun z => .inl (.inr z)⟩
        refine w _ H' S3.unad (keep kb) ⟨p, us, ys, rfl, rfl, none_back k.there hp, hp', l.sub fun a z => .inl ?_, S3⟩
        rcases z with (z | z) | z
        · exact .inl (x.ow a (.inl z))
        · exact .inr z
        · exact .inl (.inr z)
end
/-! ### calls -/
section
variable {X : Cx} {Wx : WX} {e : Expr} {es : List Expr} {ms : List Md} {as : List Arg} {p pos : Pos} {fl : Fl} {k : Nat} {f : Addr} {fd : FuncData} {ps N : List Str} {g : DF} {x : Str}
/-- a def that is called by its name: its promise, the room, its name -/
structure Fn (X : Cx) (fl : Fl) (x : Str) (N ps : List Str) (ms : List Md) (g : DF) : Prop where
  ex : ∃ (k : Nat) (f : Addr) (fd : FuncData), FnOk X.prog X.w X.K X.mg X.base (L2.CX X.prog X.w) k f fd ps (spD fl X.K N ms g) ∧ Room k X.A ∧ X.mg x = some (.ref f) ∧ PySem.W.keepIn X.K (.ref f) = true ∧ Binds X.K fd ps []
  nw : fl ≠ .w
  le : ms.length ≤ N.length
theorem pd_call (F : Fn X fl x N ps ms g) (tk : Takes X Wx) (hg : Gl X x) (ha : ArgsD X Wx (e :: es) ms as) (ok : argsOk as = true := by rfl) (hdb : (x == ("__debug__" : Str)) = false := by decide)
    (he : starEach (e :: es) X.env = (false, eval e X.env) :: starEach es X.env := by rfl) (hpl : (backTo pos (starEach es X.env)).any (·.1) = false := by rfl) : PD fl X Wx (.Call (.Name x p) (e :: es) [] pos) (eCall g as) := by
  obtain ⟨k, f, fd, Fk, hr, hm, hk, hb⟩ := F.ex
  obtain ⟨t, pt, qt⟩ := ha
  refine ⟨_, pe_callS Fk hr hg hm hk hb (passAt tk) pt hdb he hpl, fun F' O env σ H Q S w => ?_⟩
  refine qt F' O env σ H _ S ?_
  unfold Want eCall at w
  unfold Want
  cases hv : argsV as env with
  | bad => rw [hv] at w; exact w
  | ex c fs e1 => rw [hv] at w; exact w
  | ok xs e1 =>
    rw [hv] at w
    intro vs F1 H1 ps' x1 S1 k1 ar hps
    exact call_wish F.nw F.le ok S x1 S1 k1 ar hps w
theorem pd_call0 (F : Fn X fl x N ps [] g) (tk : Takes X Wx) (hg : Gl X x) (hdb : (x == ("__debug__" : Str)) = false := by decide) : PD fl X Wx (.Call (.Name x p) [] [] pos) (eCall g []) := by
  obtain ⟨k, f, fd, Fk, hr, hm, hk, hb⟩ := F.ex
  refine ⟨fun σ H Q => spD fl X.K N [] g [] H Q (WE Wx σ), ⟨fun pins s σ H Q I h => ?_⟩, fun F' O env σ H Q S w => ?_⟩
  · refine wpAny_Call_Name_kw (ld_glob I hg hm ?_ hdb)
    exact PySem.W.callWith_K0 I.kIn hk (run_fnS (us := []) (E := WE Wx) Fk hr hb (passAt tk σ) I .nil h)
  · exact call_wish (xs := []) (ps := []) (as := []) F.nw F.le rfl S .refl S .refl .nil (fun _ h => by cases h) w
end
end AH
namespace AH
open PySem PySem.Spec PyProof.Rows L2
variable [TheK]
/-! ### calls with keywords -/
def perm {α : Type} (ix : List Nat) (l : List α) : List α := ix.filterMap fun i => l[i]?
def eCallK (f : DF) (ix : List Nat) (a : DL) : DE := a.bind fun ds => fun e => match f (perm ix ds) with
  | .ok d [] => .ok d e
  | .ex c fs [] => .ex c fs e
  | _ => .bad
theorem RepL.perm {W : Pr} {H : Hp} {vs : List V} {ds : List D} (l : RepL W H vs ds) : ∀ ix : List Nat, RepL W H (AH.perm ix vs) (AH.perm ix ds)
  | [] => .nil
  | i :: ix => by
    unfold AH.perm
    rw [List.filterMap_cons, List.filterMap_cons]
    have ll := l.len
    cases h : ds[i]? with
    | none =>
      have : vs[i]? = none := by
        rw [List.getElem?_eq_none_iff] at h ⊢
        omega
      rw [this]
      exact RepL.perm l ix
    | some d =>
      obtain ⟨v, hv, r⟩ := l.get h
      rw [hv]
      exact .cons r (RepL.perm l ix)
theorem perm_vals {vs : List V} {us : List Value} (r : Vals vs us) : ∀ ix : List Nat, Vals (perm ix vs) (perm ix us)
  | [] => .nil
  | i :: ix => by
    unfold perm
    rw [List.filterMap_cons, List.filterMap_cons]
    have ll := r.length
    cases h : us[i]? with
    | none =>
      have : vs[i]? = none := by
        rw [List.getElem?_eq_none_iff] at h ⊢
        omega
      rw [this]
      exact perm_vals r ix
    | some u =>
      have hi := (List.getElem?_eq_some_iff.mp h).1
      have hv : vs[i]? = some vs[i] := by rw [List.getElem?_eq_getElem]
      rw [hv]
      refine .cons ?_ (perm_vals r ix)
      have : ∀ {vs : List V} {us : List Value}, Vals vs us → ∀ (i : Nat) (v : V) (u : Value), vs[i]? = some v → us[i]? = some u → RelV v u := by
        intro vs us r
        induction r with
        | nil => intro i v u h; simp at h
        | cons a _ ih => intro i v u h1 h2; cases i with
          | zero => simp at h1 h2; subst h1; subst h2; exact a
          | succ i => exact ih i v u (by simpa using h1) (by simpa using h2)
      exact this r i _ _ hv h
/-- keyword arguments -/
def KD (X : Cx) (Wx : WX) (kws : List Keyword) (m : DL) : Prop := ∃ t : TA, PK X kws t ∧ ∀ (F : Fm) (O : Nat → Option Addr) (env : Env) (σ : L2.St) (H : Hp) (Q : List V → Hp → Prop), SR X.K F O env σ H →
  Want m env (fun ds e1 => ∀ vs H', SR X.K F O e1 σ H' → Ke (Jo O) H H' → RepL (Ow F O) H' vs ds → Q vs H') (XW X.K F O σ H Wx) → t σ H Q
/-- such a def with keywords: n written values, the names ks, where each parameter's value stands -/
structure FnK (X : Cx) (fl : Fl) (x : Str) (N ps : List Str) (ms : List Md) (g : DF) (n : Nat) (ks : List Str) (ix : List Nat) : Prop where
  ex : ∃ (k : Nat) (f : Addr) (fd : FuncData), FnOk X.prog X.w X.K X.mg X.base (L2.CX X.prog X.w) k f fd ps (spD fl X.K N ms g) ∧ Room k X.A ∧ X.mg x = some (.ref f) ∧ PySem.W.keepIn X.K (.ref f) = true ∧
    ∀ (s : Shared) (us ws : List Value), X.K.In s.heap → us.length = n → ws.length = ks.length → BindsTo s fd ⟨us, ks.zip ws⟩ (ps.zip (perm ix (us ++ ws)))
  nw : fl ≠ .w
  le : ms.length ≤ N.length
  nb : (ms.all fun m => m != .bor) = true
section
variable {X : Cx} {Wx : WX} {e : Expr} {es : List Expr} {ms : List Md} {p pos kpos : Pos} {fl : Fl} {ps N ks : List Str} {g : DF} {x : Str} {kws : List Keyword} {ma : DE} {mb mk : DL} {n : Nat} {ix : List Nat} {nm : Option Str}
theorem kd_nil : KD X Wx [] aNil := ⟨_, pk_nil, fun F O env σ H Q S w => w [] H S .refl .nil⟩
theorem kd_cons (ha : PD .s X Wx e ma) (hr : KD X Wx kws mk) : KD X Wx (⟨nm, e, kpos⟩ :: kws) (aCons ma mk) := by
  obtain ⟨ta, pa, qa⟩ := ha
  obtain ⟨tr, pr, qr⟩ := hr
  refine ⟨_, pk_cons pa pr, fun F O env σ H Q S w => qa F O env σ H _ S ((Want.bind (m := ma) w).imp (fun d e1 w1 v H1 S1 k1 r1 => ?_) fun _ _ _ z => z)⟩
  exact qr F O e1 σ H1 _ S1 ((Want.bind w1).imp (fun xs e2 w2 vs H2 S2 k2 l => w2 (v :: vs) H2 S2 (k1.trans k2) (.cons (Rep.mj k2 r1) l)) (XW.later k1))
theorem ar_of {F : Fm} {O : Nat → Option Addr} {σ : L2.St} {H : Hp} : ∀ {ms : List Md} {vs : List V} {ds : List D}, (ms.all fun m => m != .bor) = true → ms.length = ds.length → RepL (Ow F O) H vs ds → AR F O σ H ms (ds.map fun d => Arg.e (eC d)) (ds.map .inl) vs []
  | [], _, _, _, hl, .nil => .nil
  | _ :: _, _, _, _, hl, .nil => by cases hl
  | [], _, _, _, hl, .cons _ _ => by cases hl
  | .val :: ms, _, _, h, hl, .cons r l => .val r (ar_of (by simpa using h) (by simpa using hl) l)
  | .ro :: ms, _, _, h, hl, .cons r l => .rov r (ar_of (by simpa using h) (by simpa using hl) l)
  | .bor :: ms, _, _, h, hl, .cons r l => by simp at h
theorem lends_e : ∀ ds : List D, lends (ds.map fun d => Arg.e (eC d)) = []
  | [] => rfl
  | _ :: ds => lends_e ds
theorem looks_e : ∀ ds : List D, looks (ds.map fun d => Arg.e (eC d)) = []
  | [] => rfl
  | _ :: ds => looks_e ds
theorem argsD_e (e : Env) : ∀ ds : List D, argsD e (ds.map .inl) = some ds
  | [] => rfl
  | d :: ds => by show (match some d, argsD e (ds.map .inl) with | some d, some ds => some (d :: ds) | _, _ => none) = _; rw [argsD_e e ds]
theorem giveBack_e (e : Env) : ∀ ds : List D, giveBack (ds.map fun d => Arg.e (eC d)) [] e = some e
  | [] => rfl
  | _ :: ds => giveBack_e e ds
theorem kw_wish {F : Fm} {O : Nat → Option Addr} {σ : L2.St} {H H1 : Hp} {e0 e1 : Env} {K : PySem.W.Frag} {vs : List V} {ds : List D} {Q : VK} (hfl : fl ≠ .w) (hN : ms.length ≤ N.length) (hb : (ms.all fun m => m != .bor) = true) (S0 : SR K F O e0 σ H) (S : SR K F O e1 σ H1) (k : Ke (Jo O) H H1) (l : RepL (Ow F O) H1 vs ds) (hl : ms.length = ds.length)
    (w : Want (fun e => match g ds with
      | .ok d [] => R.ok d e
      | .ex c fs [] => .ex c fs e
      | _ => .bad) e1 (fun d e1 => ∀ v H', SR K F O e1 σ H' → Ke (Jo O) H H' → Po fl K F O e1 σ H H' v d → Q v H') (XW K F O σ H Wx)) : spD fl K N ms g vs H1 Q (WE Wx σ) := by
  refine call_wish (as := ds.map fun d => Arg.e (eC d)) (xs := ds.map .inl) (ps := []) (e0 := e0) hfl hN ?_ S0 .refl S k (ar_of hb hl l) (fun _ h => by cases h) ?_
  · unfold argsOk
    rw [lends_e, looks_e]
    rfl
  · unfold Want at w ⊢
    simp only [lends_e, argsD_e, List.all_nil, Bool.not_true, Bool.false_eq_true, if_false]
    cases hf : g ds with
    | bad => simp only [hf] at w
    | ok d bs => cases bs with
      | nil => simp only [hf] at w; simp only [giveBack_e]; exact w
      | cons b bs => simp only [hf] at w
    | ex c fs bs => cases bs with
      | nil => simp only [hf] at w; simp only [giveBack_e]; exact w
      | cons b bs => simp only [hf] at w
theorem run_fnNS {CX : CXT} {k : Nat} {f : Addr} {fd : FuncData} {sp : Sp} {E : XK} {pins : List (Addr × Obj)} {σ : L2.St} {H : Hp} {s : Shared} {Q : VK} {us : List Value} {vs : List V} {kw : List (Str × Value)} (F : FnOk X.prog X.w X.K X.mg X.base CX k f fd ps sp) (hr : Room k X.A) {zs : List Value} (hb : BindsTo s fd ⟨us, kw⟩ (ps.zip zs)) (hx : PassesAt CX X σ E)
    (I : Inv X pins σ H s) (r : Vals vs zs) (h : sp vs H Q E) : wpAny (model X.prog X.w) X.A (call (.ref f) us kw) (EP X pins σ Q) X.xe s := by
  refine wpAny_call (codeAny_mono (F.run X.A X.stack s H ⟨us, kw⟩ zs vs Q E hr I.env0 hb r h) fun r s' hq => ?_)
  cases r with
  | error e => exact hx pins H s e s' I hq
  | ok fl =>
    cases fl with
    | ret u => exact I.after hq
    | next => exact False.elim hq
    | brk => exact False.elim hq
    | cont => exact False.elim hq
theorem perm_len {α β : Type} (ix : List Nat) {l : List α} {l' : List β} (h : l.length = l'.length) : (perm ix l).length = (perm ix l').length := by
  induction ix with
  | nil => rfl
  | cons i ix ih =>
    unfold perm
    rw [List.filterMap_cons, List.filterMap_cons]
    cases q : l[i]? with
    | none =>
      have : l'[i]? = none := by rw [List.getElem?_eq_none_iff] at q ⊢; omega
      rw [this]; exact ih
    | some a =>
      have hi := (List.getElem?_eq_some_iff.mp q).1
      have : l'[i]? = some l'[i] := by rw [List.getElem?_eq_getElem]
      rw [this]
      exact congrArg Nat.succ ih
/-- f(k = v, ..) -/
theorem pd_callK0 (F : FnK X fl x N ps ms g 0 ks ix) (tk : Takes X Wx) (hg : Gl X x) (hk : KD X Wx kws mk) (hml : ∀ e ds e', mk e = .ok ds e' → ds.length = ks.length ∧ ms.length = (perm ix ds).length) (hall : (backToKw pos (keywordEach kws X.env)).all (·.1.isSome) = true := by rfl) (hks : (backToKw pos (keywordEach kws X.env)).filterMap (·.1) = ks := by rfl)
    (hdb : (x == ("__debug__" : Str)) = false := by decide) (hpl : ((backTo pos (starEach [] X.env)).any (·.1) || (backToKw pos (keywordEach kws X.env)).any (·.1.isNone)) = false := by rfl) : PD fl X Wx (.Call (.Name x p) [] kws pos) (eCallK g ix mk) := by
  obtain ⟨k, f, fd, Fk, hr, hm, hkp, hb⟩ := F.ex
  obtain ⟨t, pt, qt⟩ := hk
  refine ⟨fun σ H Q => t σ H fun zs H2 => zs.length = ks.length ∧ spD fl X.K N ms g (perm ix zs) H2 Q (WE Wx σ), ⟨fun pins s σ H Q I h => ?_⟩, fun F' O env σ H Q S w => ?_⟩
  · refine wpAny_Call_Name_kw (ld_glob I hg hm ?_ hdb)
    refine PySem.W.callWith_KW0 (h₀ := X.base) I.ok.mod.kin hkp hall (thn (pt.run pos pins s σ H _ I h) fun ws s2 ⟨zs, H2, I2, rz, l2, q2⟩ => ⟨I2.kIn, ?_⟩) hpl
    rw [hks]
    have b := hb s2 [] ws I2.kIn rfl (rz.length.symm.trans l2)
    rw [List.nil_append] at b
    exact run_fnNS Fk hr b (passAt tk σ) I2 (perm_vals rz ix) q2
  · refine qt F' O env σ H _ S ?_
    have w1 := Want.bind w
    unfold Want at w1 ⊢
    cases hv : mk env with
    | bad => rw [hv] at w1; exact w1
    | ex c fs e1 => rw [hv] at w1; exact w1
    | ok ds e1 =>
      rw [hv] at w1
      intro vs H1 S1 k1 l
      obtain ⟨h1, h2⟩ := hml env ds e1 hv
      exact ⟨l.len.trans h1, kw_wish F.nw F.le F.nb S S1 k1 (l.perm ix) h2 w1⟩
end
end AH
namespace AH
open PySem PySem.Spec PyProof.Rows L2
variable [TheK]
/-! ### a, b = x, y -/
def allL : List (D ⊕ Nat) → Option (List D)
  | [] => some []
  | .inl d :: r => (allL r).map (d :: ·)
  | .inr _ :: _ => none
def parPut : List (Nat × Bool) → List D → Env → R Out
  | (i, false) :: r, x :: xs, e => if isFix (sl e i) then .bad else parPut r xs (put e i (.val x))
  | (i, true) :: r, .lst ys :: xs, e => if isFix (sl e i) || !decide (i < e.length) then .bad else parPut r xs (put e i (.own ys))
  | [], [], e => .ok .nx e
  | _, _, _ => .bad
def sPar (ts : List (Nat × Bool)) (as : List Arg) : DS := (argsV as).bind fun xs => match allL xs with
  | some ds => parPut ts ds
  | none => fun _ => .bad
def isNew : Arg → Bool
  | .new _ => true
  | _ => false
def setL (σ : L2.St) : List Nat → List V → L2.St
  | i :: r, v :: vs => setL (σ.set i (some v)) r vs
  | _, _ => σ
/-- the values to be stored: new lists, others -/
inductive PR (F : Fm) (O : Nat → Option Addr) (H : Hp) : List Bool → List V → List D → List Addr → Prop
  | nil : PR F O H [] [] [] []
  | val {bs : List Bool} {vs : List V} {ds : List D} {ps : List Addr} {v : V} {d : D} : Rep (Ow F O) H v d → PR F O H bs vs ds ps → PR F O H (false :: bs) (v :: vs) (d :: ds) ps
  | new {bs : List Bool} {vs : List V} {ds : List D} {ps : List Addr} {p : Addr} {us : List V} {ys : List D} : F.P p → F.N p → ¬ Jo O p → F.H0 p = none → p ∉ ps → H p = some (.lst us) → RepL (Ow F O) H us ys → PR F O H bs vs ds ps → PR F O H (true :: bs) (.ref p :: vs) (.lst ys :: ds) (p :: ps)
theorem pr_of {F : Fm} {O : Nat → Option Addr} {σ : L2.St} {H : Hp} {ms : List Md} {as : List Arg} {xs : List (D ⊕ Nat)} {vs : List V} {ps : List Addr} (ar : AR F O σ H ms as xs vs ps) : ∀ {ds : List D}, allL xs = some ds → PR F O H (as.map isNew) vs ds ps := by
  have cut : ∀ {d : D} {xs : List (D ⊕ Nat)} {ds : List D}, allL (.inl d :: xs) = some ds → ∃ ds', allL xs = some ds' ∧ ds = d :: ds' := fun {d xs ds} h => by
    unfold allL at h
    cases q : allL xs with
    | none => rw [q] at h; cases h
    | some ds' => rw [q] at h; cases h; exact ⟨ds', rfl, rfl⟩
  induction ar with
  | nil => intro ds h; cases h; exact .nil
  | val r ar ih => intro ds h; obtain ⟨ds', h1, rfl⟩ := cut h; exact .val r (ih h1)
  | rov r ar ih => intro ds h; obtain ⟨ds', h1, rfl⟩ := cut h; exact .val r (ih h1)
  | look r ar ih => intro ds h; cases h
  | lend r ar ih => intro ds h; cases h
  | new h1 h2 h3 h4 h5 h6 h7 ar ih => intro ds h; obtain ⟨ds', g1, rfl⟩ := cut h; exact .new h1 h2 h3 h4 h5 h6 h7 (ih g1)
/-- other owners, others kept apart -/
theorem PR.go {F F' : Fm} {O O' : Nat → Option Addr} {H : Hp} {bs : List Bool} {vs : List V} {ds : List D} {ps : List Addr} (r : PR F O H bs vs ds ps) (g : ∀ a, Ow F' O' a → Ow F O a) (h0 : F'.H0 = F.H0) : (∀ p ∈ ps, F.P p → F'.P p) → (∀ p ∈ ps, F.N p → F'.N p) → (∀ p ∈ ps, ¬ Jo O p → ¬ Jo O' p) → PR F' O' H bs vs ds ps := by
  induction r with
  | nil => intro _ _ _; exact .nil
  | val r l ih => intro a b c; exact .val (r.sub fun a z => .inl (g a z)) (ih a b c)
  | new h1 h2 h3 h4 h5 h6 h7 l ih =>
    intro a b c
    exact .new (a _ List.mem_cons_self h1) (b _ List.mem_cons_self h2) (c _ List.mem_cons_self h3) (by rw [h0]; exact h4) h5 h6 (h7.sub fun a z => .inl (g a z)) (ih (fun p hp => a p (List.mem_cons_of_mem _ hp)) (fun p hp => b p (List.mem_cons_of_mem _ hp)) fun p hp => c p (List.mem_cons_of_mem _ hp))
def Fm.rm (F : Fm) (p : Addr) : Fm := { F with P := fun a => F.P a ∧ a ≠ p, N := fun a => F.N a ∧ a ≠ p }
theorem rm_ad {F : Fm} {p : Addr} (h1 : F.P p) (h2 : F.N p) : (F.rm p).ad p = F := by
  obtain ⟨P, N, H0, ba⟩ := F
  show Fm.mk (fun a => (P a ∧ a ≠ p) ∨ a = p) (fun a => (N a ∧ a ≠ p) ∨ a = p) H0 ba = Fm.mk P N H0 ba
  have e1 : (fun a => (P a ∧ a ≠ p) ∨ a = p) = P := funext fun a => propext ⟨fun z => z.elim (·.1) fun z => by rw [z]; exact h1, fun z => by
    by_cases h : a = p
    · exact .inr h
    · exact .inl ⟨z, h⟩⟩
  have e2 : (fun a => (N a ∧ a ≠ p) ∨ a = p) = N := funext fun a => propext ⟨fun z => z.elim (·.1) fun z => by rw [z]; exact h2, fun z => by
    by_cases h : a = p
    · exact .inr h
    · exact .inl ⟨z, h⟩⟩
  rw [e1, e2]
theorem par_put {K : PySem.W.Frag} {H : Hp} : ∀ {ts : List (Nat × Bool)} {F1 : Fm} {O : Nat → Option Addr} {e e2 : Env} {σ : L2.St} {vs : List V} {ds : List D} {ps : List Addr} {o : Out}, SR K F1 O e σ H → PR F1 O H (ts.map (·.2)) vs ds ps → parPut ts ds e = .ok o e2 →
    o = .nx ∧ ∃ O' F2, SR K F2 O' e2 (setL σ (ts.map (·.1)) vs) H ∧ (F2.ba = F1.ba ∧ F2.H0 = F1.H0 ∧ (∀ a, F1.P a → a ∉ ps → F2.P a) ∧ (∀ a, F1.N a → a ∉ ps → F2.N a)) ∧ ∀ a, Jo O' a → Jo O a ∨ a ∈ ps
  | [], F1, O, e, e2, σ, vs, ds, ps, o, S, r, h => by
    cases r
    cases h
    exact ⟨rfl, O, F1, S, ⟨rfl, rfl, fun _ z _ => z, fun _ z _ => z⟩, fun _ z => .inl z⟩
  | (i, false) :: ts, F1, O, e, e2, σ, vs, ds, ps, o, S, r, h => by
    cases r with
    | @val _ vs' ds' _ v d r l =>
      unfold parPut at h
      cases hf : isFix (sl e i) with
      | true => simp [hf] at h
      | false =>
        simp only [hf] at h
        obtain ⟨ho, O', F2, S2, f, j⟩ := par_put (ts := ts) (S.setVal (i := i) r (noP_fix hf)) (l.go (fun a z => ow_setN z) rfl (fun _ _ z => z) (fun _ _ z => z) fun _ _ n z => n (jo_setN z)) h
        exact ⟨ho, O', F2, S2, f, fun a z => (j a z).elim (fun z => .inl (jo_setN z)) .inr⟩
  | (i, true) :: ts, F1, O, e, e2, σ, vs, ds, ps, o, S, r, h => by
    cases r with
    | @new _ vs' ds' ps' p us ys h1 h2 h3 h4 h5 h6 h7 l =>
      unfold parPut at h
      cases hf : isFix (sl e i) || !decide (i < e.length) with
      | true => simp [hf] at h
      | false =>
        simp only [hf] at h
        obtain ⟨hf1, hlen⟩ := Bool.or_eq_false_iff.mp hf
        have hl : i < e.length := by simpa using hlen
        have eF := rm_ad h1 h2
        have S' : SR K ((F1.rm p).ad p) O e σ H := by rw [eF]; exact S
        have g : ∀ a, Ow (F1.rm p) (setO O i (some p)) a → Ow F1 O a := fun a z => by
          have := ow_setS z
          rw [eF] at this
          exact this
        have S1 := S'.setNew (i := i) (s := .own ys) h3 hl ⟨p, us, setO_same, ⟨h4, fun z => z.2 rfl⟩, rfl, h6, h7.sub fun a z => .inl (g a z)⟩ (noP_fix hf1)
        obtain ⟨ho, O', F2, S2, ⟨f1, f2, f3, f4⟩, j⟩ := par_put (ts := ts) S1 (l.go (F' := F1.rm p) (O' := setO O i (some p)) g rfl (fun q hq z => ⟨z, fun e => h5 (e ▸ hq)⟩) (fun q hq z => ⟨z, fun e => h5 (e ▸ hq)⟩) fun q hq n z => (jo_setS z).elim n fun e => h5 (e ▸ hq)) h
        refine ⟨ho, O', F2, S2, ⟨f1, f2, fun a z n => f3 a ⟨z, fun e => n (by rw [e]; exact List.mem_cons_self)⟩ fun q => n (List.mem_cons_of_mem _ q), fun a z n => f4 a ⟨z, fun e => n (by rw [e]; exact List.mem_cons_self)⟩ fun q => n (List.mem_cons_of_mem _ q)⟩, fun a z => ?_⟩
        rcases j a z with z | z
        · rcases jo_setS z with z | z
          · exact .inl z
          · exact .inr (by rw [z]; exact List.mem_cons_self)
        · exact .inr (List.mem_cons_of_mem _ z)
section
variable {fl : Fl} {X : Cx} {Wx : WX} {e a b c d tg iter elt : Expr} {ma mb mc md : DE} {pos p : Pos} {st : Stmt} {rest : List Stmt} {m n : DS}
theorem par_of {es : List Expr} {ms : List Md} {as : List Arg} {ts : List (Nat × Bool)} (ha : ArgsD X Wx es ms as) (hk : as.map isNew = ts.map (·.2)) (hp : ∀ ta : TA, PA X es ta → PS X st (fun D σ H => ta σ H fun vs H1 => vs.length = ts.length ∧ D.nx (setL σ (ts.map (·.1)) vs) H1)) (hl : es.length = ts.length) (hml : ms.length = ts.length) : SD fl X Wx st (sPar ts as) := by
  obtain ⟨ta, pa, qa⟩ := ha
  refine ⟨_, hp ta pa, fun F O env σ H D S w => ?_⟩
  refine qa F O env σ H _ S ((Want.bind w).imp (fun xs e1 w1 vs F1 H1 ps x S1 k1 ar hq => ?_) XWs.xw)
  refine ⟨ar.len.trans hml, ?_⟩
  cases hx : allL xs with
  | none => rw [hx] at w1; exact w1.elim
  | some ds =>
    rw [hx] at w1
    have r := pr_of ar hx
    rw [hk] at r
    unfold Want at w1
    cases hpp : parPut ts ds e1 with
    | bad => simp only [hpp] at w1
    | ex c fs e2 =>
      exfalso
      have : ∀ (ts : List (Nat × Bool)) (ds : List AH.D) (e : Env) c fs e2, parPut ts ds e ≠ .ex c fs e2 := by
        intro ts
        induction ts with
        | nil => intro ds e c fs e2 h; cases ds <;> cases h
        | cons t ts ih =>
          intro ds e c fs e2 h
          obtain ⟨i, b⟩ := t
          cases b with
          | false => cases ds with
            | nil => cases h
            | cons d ds =>
              unfold parPut at h
              split at h
              · cases h
              · exact ih _ _ _ _ _ h
          | true => cases ds with
            | nil => cases h
            | cons d ds => cases d with
              | lst ys =>
                unfold parPut at h
                split at h
                · cases h
                · exact ih _ _ _ _ _ h
              | _ => cases h
      exact this _ _ _ _ _ _ hpp
    | ok o e2 =>
      simp only [hpp] at w1
      obtain ⟨rfl, O', F2, S2, ⟨f1, f2, f3, f4⟩, j⟩ := par_put S1 r hpp
      have ext : FX F F2 (fun _ => none) := ⟨f1.trans x.ba, f2.trans x.h0, fun a z => f3 a (x.p a z) fun q => S.prot a (.inl z) (hq a q), fun a z => f4 a (x.n a z) fun q => ?_, fun _ _ => .inr rfl, fun _ _ => .inr rfl⟩
      · exact w1 O' _ H1 (S2.down ext) ⟨k1, fun a z => (j a z).elim .inl fun z => .inr (hq a z)⟩
      · exact S.nal a z (hq a q)
theorem sd_par2 {i j : Nat} {bi bj : Bool} {x y : Str} {as : List Arg} {ms : List Md} {px py pt : Pos} {kt k2 pt2} (hc : X.calm = true) (hN : X.N.Nodup) (hi : X.N[i]? = some x) (hj : X.N[j]? = some y) (hij : i ≠ j) (hx : X.env.scope.names.lookup x = some .local) (hy : X.env.scope.names.lookup y = some .local)
    (ha : ArgsD X Wx [a, b] ms as) (hk : as.map isNew = [bi, bj]) (hml : ms.length = 2) (hw : swappedStores [.Tuple [.Name x px, .Name y py] kt pt] (.Tuple [a, b] k2 pt2) X.env = pure (some [x, y]) := by rfl) (hs : swapsWithSole [.Tuple [.Name x px, .Name y py] kt pt] (.Tuple [a, b] k2 pt2) pos.line X.env = pure false := by rfl) :
    SD fl X Wx (.Assign [.Tuple [.Name x px, .Name y py] kt pt] (.Tuple [a, b] k2 pt2) pos) (sPar [(i, bi), (j, bj)] as) :=
  par_of ha hk (fun ta pa => ⟨fun pins s σ H D I h => (ps_par hc hN hi hj hij hx hy pa hw hs).run pins s σ H D I (by
    have e : (fun (vs : List V) (H1 : Hp) => vs.length = 2 ∧ D.nx (setL σ [i, j] vs) H1) = fun vs H1 => ∃ v w, vs = [v, w] ∧ D.nx ((σ.set i (some v)).set j (some w)) H1 := by
      funext vs H1
      apply propext
      constructor
      · rintro ⟨hl, h⟩
        match vs, hl, h with
        | [v, w], _, h => exact ⟨v, w, rfl, h⟩
      · rintro ⟨v, w, rfl, h⟩
        exact ⟨rfl, h⟩
    have h : ta σ H (fun (vs : List V) (H1 : Hp) => vs.length = 2 ∧ D.nx (setL σ [i, j] vs) H1) := h
    rw [e] at h
    exact h)⟩) rfl hml
/-! ### enumerate -/
def iEnumL (a : DE) : DI := a.bind fun x => match x with
  | .lst xs => M.pure ((rng 0 xs.length).zip xs |>.map fun p => D.tup [p.1, p.2])
  | _ => fun _ => .bad
theorem rng0_get {n i : Nat} (h : i < n) : (rng 0 (n : Int))[i]? = some (.int i) := by
  unfold rng
  rw [List.getElem?_map, List.getElem?_range (by omega)]
  show some (D.int (0 + (i : Int))) = some (D.int i)
  rw [Int.zero_add]
theorem rng0_len {n : Nat} : (rng 0 (n : Int)).length = n := by
  unfold rng
  rw [List.length_map, List.length_range]
  omega
theorem id_enum {elts : List Expr} {kk : Nat} {tpos : Pos} (hb : Bn X "enumerate" (.type "enumerate")) (ha : PD .s X Wx a ma) (hs : starEach [a] X.env = [(false, eval a X.env)] := by rfl) (hs2 : starEach [a] X.env = (false, eval a X.env) :: starEach [] X.env := by rfl) :
    ID X Wx (.Tuple elts kk tpos) (.Call (.Name "enumerate" p) [a] [] pos) (iEnumL ma) := by
  obtain ⟨ta, pa, qa⟩ := ha
  refine ⟨_, pi_enum hb.gl hb.mg (pa_cons pa pa_nil hs2) hs, fun F O env σ H R S w => ?_⟩
  refine qa F O env σ H _ S (w.bind.imp (fun dx e1 w1 x H1 S1 k1 p1 => ?_) fun _ _ _ z => z)
  cases p1 with
  | lst n1 h1 l1 =>
    rename_i aa vs xs
    refine ⟨_, _, rfl, .inl (.inl h1), w1 _ H1 S1 k1 (wk_pair (walk_enum.mono (fun H k => .inl (.inl (k.stay _ _ (fun z => n1 z.1) h1))) fun _ _ _ _ _ _ y => y) ?_ fun i d x y hd hx hy => ?_)⟩
    · rw [List.length_map, List.length_zip, rng0_len, l1.len]; omega
    · rw [List.getElem?_map] at hd
      cases hz : ((rng 0 (xs.length : Int)).zip xs)[i]? with
      | none => rw [hz] at hd; cases hd
      | some q =>
        rw [hz] at hd
        cases hd
        obtain ⟨q1, q2⟩ := List.getElem?_zip_eq_some.mp hz
        have hi : i < xs.length := (List.getElem?_eq_some_iff.mp q2).1
        rw [rng0_get hi] at q1
        obtain ⟨v, hv, r⟩ := l1.get q2
        rw [hy] at hv
        cases hv
        cases hx
        exact ⟨_, _, rfl, by rw [← Option.some.inj q1]; exact .int _, r⟩
  | _ => exact w1.elim
end
end AH
namespace HT
open PySem PySem.Spec PyProof.Rows
section
variable {prog : Program} {w : World} {A : Around} {E : Value → Shared → Prop} {s : Shared}
end
end HT
namespace AH
open PySem PySem.Spec PyProof.Rows L2
variable [TheK]
section
variable {fl : Fl} {X : Cx} {Wx : WX} {e a b c d tg iter elt : Expr} {ma mb mc md : DE} {pos p : Pos} {st : Stmt} {rest : List Stmt} {m n : DS}
end
end AH
namespace AH
open PySem PySem.Spec PyProof.Rows L2
variable [TheK]
/-! ### a module's defs -/
/-- a def of the text by its name -/
def Fu (K : PySem.W.Frag) (mg : Str → Option Value) (x : Str) (st : Stmt) : Prop := ∃ (f : Addr) (fd : FuncData), FunD K x x (defArgs st) (defBody st) (defScope st) [] [] f fd ∧ mg x = some (.ref f)
/-- .. and what it is known to do -/
structure Kn (P : Program) (w : World) (K : PySem.W.Frag) (mg : Str → Option Value) (base : Heap) (fl : Fl) (x : Str) (st : Stmt) (N ps : List Str) (ms : List Md) (g : DF) (k : Nat) : Prop where
  ex : ∃ (f : Addr) (fd : FuncData), FnOk P w K mg base (L2.CX P w) k f fd ps (spD fl K N ms g) ∧ mg x = some (.ref f) ∧ FunD K x x (defArgs st) (defBody st) (defScope st) [] [] f fd ∧ Binds K fd ps []
  nw : fl ≠ .w
  le : ms.length ≤ N.length
def BindsOk (x : Str) (st : Stmt) (ps : List Str) : Prop := ∀ (kV doc pm : Value) (an : Option Addr) (cdv ct : Value) (us : List Value), us.length = ps.length → bindArgs (PySem.W.fnOf x x (defArgs st) (defBody st) (defScope st) .none kV doc pm an cdv ct) ⟨us, []⟩ = pure (ps.zip us)
def KBindsOk (x : Str) (st : Stmt) (ps : List Str) (n : Nat) (ks : List Str) (ix : List Nat) : Prop := ∀ (kV doc pm : Value) (an : Option Addr) (cdv ct : Value) (us ws : List Value), us.length = n → ws.length = ks.length → bindArgs (PySem.W.fnOf x x (defArgs st) (defBody st) (defScope st) .none kV doc pm an cdv ct) ⟨us, ks.zip ws⟩ = pure (ps.zip (perm ix (us ++ ws)))
section
variable {P : Program} {w : World} {K : PySem.W.Frag} {mg : Str → Option Value} {base : Heap} {fl : Fl} {x : Str} {st : Stmt} {N ps : List Str} {ms : List Md} {g : DF} {k : Nat} {m : DS}
/-- THE RULE for a def of the text -/
theorem kn_of (F : Fu K mg x st) (S : FnScope N ps (defScope st)) (hps : ps.length = ms.length) (hb : BindsOk x st ps) (hf : (fl = .s ∧ g = mkF N.length ms m) ∨ g = mkR N.length ms m)
    (hbody : ∀ (f : Addr) (cdv : Value) (A : Around) (outer : List PySem.Env) (s : Shared) (H : Hp) (E : XK), Room k (cxD P w K mg base N x (defScope st) f cdv A outer s H E).A → Takes (cxD P w K mg base N x (defScope st) f cdv A outer s H E) (fun cls d _ H => E cls d H) →
      PassesOwn (model P w) (cxD P w K mg base N x (defScope st) f cdv A outer s H E).A (cxD P w K mg base N x (defScope st) f cdv A outer s H E).env (cxD P w K mg base N x (defScope st) f cdv A outer s H E).xe →
      SsD fl (cxD P w K mg base N x (defScope st) f cdv A outer s H E) (fun cls d _ H => E cls d H) (defBody st) m) (hfl : fl ≠ .w := by simp) (hle : ms.length ≤ N.length := by simp) : Kn P w K mg base fl x st N ps ms g (k + 1) := by
  obtain ⟨f, fd, F, hm⟩ := F
  refine ⟨⟨f, fd, ?_, hm, F, F.bindsN hb⟩, hfl, hle⟩
  refine F.ok S (fun vs H Q E h => by rw [hps]; exact h.1) (fun cdv A outer s H vs Q E hr h => ?_)
  obtain ⟨hl, ds, F', O, SS, h0, hls, h⟩ := h
  obtain ⟨t, pt, qt⟩ := hbody f cdv A outer s H E hr (takes_of (E₁ := fun e' s'' => L2.CX P w outer H s E e' s'') rfl rfl rfl rfl) (passes_of (K := fun e s'' => L2.CX P w outer H s E e s'') (E₁ := fun e' s'' => L2.CX P w outer H s E e' s'') rfl)
  exact ⟨t, pt, qt F' O _ (L2.start N vs) H _ SS (body_wish (O := O) h0 hls hf h)⟩
theorem kn_bad (F : Fu K mg x st) (hps : ps.length = ms.length) (hb : BindsOk x st ps) (hfl : fl ≠ .w := by simp) (hle : ms.length ≤ N.length := by simp) : Kn P w K mg base fl x st N ps ms (fun _ => .bad) k := by
  obtain ⟨f, fd, F, hm⟩ := F
  exact ⟨⟨f, fd, fn_bad hps, hm, F, F.bindsN hb⟩, hfl, hle⟩
theorem Kn.fn {X : Cx} (F : Kn X.prog X.w X.K X.mg X.base fl x st N ps ms g k) {j : Nat} (hr : Room j X.A) (h : k ≤ j := by decide) : Fn X fl x N ps ms g := by
  obtain ⟨⟨f, fd, a, b, c, d⟩, e1, e2⟩ := F
  exact ⟨⟨k, f, fd, a, hr.mono h, b, c.kp, d⟩, e1, e2⟩
theorem Kn.fnK {X : Cx} {n : Nat} {ks : List Str} {ix : List Nat} (F : Kn X.prog X.w X.K X.mg X.base fl x st N ps ms g k) {j : Nat} (hr : Room j X.A) (hk : KBindsOk x st ps n ks ix) (nb : (ms.all fun m => m != .bor) = true := by decide) (h : k ≤ j := by decide) : FnK X fl x N ps ms g n ks ix := by
  obtain ⟨⟨f, fd, a, b, c, d⟩, e1, e2⟩ := F
  refine ⟨⟨k, f, fd, a, hr.mono h, b, c.kp, fun s us ws _ l1 l2 => ?_⟩, e1, e2, nb⟩
  obtain ⟨oc, od, dV, kV, doc, pm, an, cdv, ct, osl, rfl, lk, hcd, hD, hK⟩ := c.ex
  rcases hD with ⟨_, rfl⟩ | ⟨e, _⟩
  · exact .of_eq (hk kV doc pm an cdv ct us ws l1 l2)
  · exact absurd rfl e
end
theorem tkNone {X : Cx} : Takes X W0 := fun u s' ⟨_, _, _, _, _, _, _, _, _, _, _, _, _, _, _, _, w⟩ => w.elim
theorem room_u {k : Nat} {A : Around} (r : Room k A) : A.units + 65 < cLine := by have := r.un; omega
section
variable {X : Cx}
theorem bn_any {x : Str} {u : Value} (g : Gl X x) (m : X.mg x = none) (b : bootBuiltins x = some u) (h1 : x ≠ "__name__" := by decide) (h2 : (x == ("__debug__" : Str)) = false := by decide) : Bn X x u := ⟨g, m, b, h1, h2⟩
end
end AH
namespace AH
open PySem PySem.Spec PyProof.Rows L2
variable [TheK]
/-! lengths of argument lists -/
theorem aLen0 {e : Env} {ds : List D} {e' : Env} (h : aNil e = .ok ds e') : ds.length = 0 := by cases h; rfl
theorem aLenS {a : DE} {r : DL} {n : Nat} (hr : ∀ (e : Env) ds e', r e = .ok ds e' → ds.length = n) (e : Env) (ds : List D) (e' : Env) (h : aCons a r e = .ok ds e') : ds.length = n + 1 := by
  unfold aCons M.bind at h
  cases q : a e with
  | ok x e1 =>
    rw [q] at h
    cases q2 : r e1 with
    | ok xs e2 =>
      simp only [q2] at h
      cases h
      rw [List.length_cons, hr _ _ _ q2]
    | ex c fs e2 => simp only [q2] at h; cases h
    | bad => simp only [q2] at h; cases h
  | ex c fs e1 => rw [q] at h; cases h
  | bad => rw [q] at h; cases h
theorem permL {ix : List Nat} {n : Nat} {ds : List D} (h : ds.length = n) {k : Nat} (hp : (perm ix (List.range n)).length = k) : k = (perm ix ds).length := by
  rw [← hp]
  exact perm_len ix (by rw [List.length_range, h])
end AH
namespace AH
/-- keeps simp from taking an equation as one by definition -/
theorem nr {α : Sort _} {a b : α} (h : a = b) : a = b := h
open PySem L2
variable [TheK]
/-! ### what a run comes to -/
def Run {α : Type} (m : M α) (e : Env) (Q : α → Env → Prop) : Prop := match m e with
  | .ok a e1 => Q a e1
  | _ => False
theorem run_ok {α : Type} {m : M α} {e : Env} {Q : α → Env → Prop} {a : α} {e1 : Env} (h : m e = .ok a e1) (q : Q a e1) : Run m e Q := by
  unfold Run; rw [h]; exact q
theorem Run.of {α : Type} {m : M α} {e : Env} {Q : α → Env → Prop} (h : Run m e Q) : ∃ a e1, m e = .ok a e1 ∧ Q a e1 := by
  unfold Run at h
  cases q : m e with
  | ok a e1 => rw [q] at h; exact ⟨a, e1, rfl, h⟩
  | ex c fs e1 => rw [q] at h; exact h.elim
  | bad => rw [q] at h; exact h.elim
theorem Run.imp {α : Type} {m : M α} {e : Env} {Q Q' : α → Env → Prop} (h : Run m e Q) (q : ∀ a e1, Q a e1 → Q' a e1) : Run m e Q' := by
  obtain ⟨a, e1, h1, h2⟩ := h.of
  exact run_ok h1 (q a e1 h2)
theorem bind_ok {α β : Type} {m : M α} {f : α → M β} {e e1 : Env} {a : α} (h : m e = .ok a e1) : (m.bind f) e = f a e1 := by
  unfold M.bind; rw [h]
/-! ### the words, run -/
section
variable {α β : Type} {e : Env} {i j : Nat} {a b c d : DE} {t u : DT} {x y : D} {xs ys : List D} {m n : DS} {g : DG}
@[simp] theorem x_bind {m : M α} {f : α → M β} : M.bind m f e = (match m e with | .ok a e1 => f a e1 | .ex c fs e1 => .ex c fs e1 | .bad => .bad) := nr rfl
@[simp] theorem x_pure {a : α} : M.pure a e = .ok a e := nr rfl
@[simp] theorem x_of1 {a : α} : M.of (.ok a) e = .ok a e := nr rfl
@[simp] theorem x_of2 : (M.of (.bad : Rv α)) e = .bad := nr rfl
@[simp] theorem x_var : eVar i e = (match sl e i with | .val d => .ok d e | _ => .bad) := nr rfl
@[simp] theorem x_tmp : eTmp i e = (match sl e i with | .val d => .ok d e | .ro d => .ok d e | .own xs => .ok (.lst xs) e | .bor xs => .ok (.lst xs) e | .odc kvs => .ok (.dic kvs) e | .ldc kvs => .ok (.dic kvs) e | _ => .bad) := nr rfl
@[simp] theorem x_c : eC x e = .ok x e := nr rfl
@[simp] theorem x_sl0 {s : Sl} : sl (s :: e) 0 = s := nr rfl
@[simp] theorem x_slS {s : Sl} : sl (s :: e) (i + 1) = sl e i := nr rfl
@[simp] theorem x_put0 {s s' : Sl} : put (s :: e) 0 s' = s' :: e := nr rfl
@[simp] theorem x_putS {s s' : Sl} : put (s :: e) (i + 1) s' = s :: put e i s' := nr rfl
@[simp] theorem x_e2 {f : D → D → Rv D} : e2 f a b e = M.bind a (fun x => M.bind b fun y => M.of (f x y)) e := nr rfl
@[simp] theorem x_e1 {f : D → Rv D} : e1 f a e = M.bind a (fun x => M.of (f x)) e := nr rfl
@[simp] theorem x_e2L {f : D → D → Rv D} : e2L f i b e = M.bind (eTmp i) (fun _ => M.bind b fun y => M.bind (eTmp i) fun x => M.of (f x y)) e := nr rfl
@[simp] theorem x_c2 {f : D → D → Rv Bool} : c2 f a b e = M.bind a (fun x => M.bind b fun y => M.of (f x y)) e := nr rfl
@[simp] theorem x_eB : eB t e = M.bind t (fun b => M.pure (.bl b)) e := nr rfl
@[simp] theorem x_tV : tV a e = M.bind a (fun x => match x with | .bl b => M.pure b | _ => fun _ => .bad) e := nr rfl
@[simp] theorem x_tNot : tNot t e = M.bind t (fun b => M.pure (!b)) e := nr rfl
@[simp] theorem x_tAnd : AH.tAnd t u e = M.bind t (fun x => if x then u else M.pure false) e := nr rfl
@[simp] theorem x_tOr : AH.tOr t u e = M.bind t (fun x => if x then M.pure true else u) e := nr rfl
@[simp] theorem x_tIsN : tIsN a e = M.bind a (fun x => M.pure (dIsN x)) e := nr rfl
@[simp] theorem x_c3 {f g : D → D → Rv Bool} : c3 f g a b c e = M.bind a (fun x => M.bind b fun y => (M.of (f x y)).bind fun k => if k then M.bind c fun z => M.of (g y z) else M.pure false) e := nr rfl
@[simp] theorem x_eIf : eIf t a b e = M.bind t (fun k => if k then a else b) e := nr rfl
@[simp] theorem x_eAnd : eAnd a b e = M.bind (tV a) (fun k => if k then b else M.pure (.bl false)) e := nr rfl
@[simp] theorem x_eNot : eNot a e = M.bind (tV a) (fun k => M.pure (.bl (!k))) e := nr rfl
@[simp] theorem x_eOrT : eOrT a b e = M.bind a (fun x => (M.of (truth x)).bind fun k => if k then M.pure x else b) e := nr rfl
@[simp] theorem x_aNil : aNil e = .ok [] e := nr rfl
@[simp] theorem x_aCons {r : DL} : aCons a r e = M.bind a (fun x => M.bind r fun xs => M.pure (x :: xs)) e := nr rfl
@[simp] theorem x_eTup {r : DL} : eTup r e = M.bind r (fun xs => if lenOk xs.length then M.pure (.tup xs) else fun _ => .bad) e := nr rfl
@[simp] theorem x_eLst {r : DL} : eLst r e = M.bind r (fun xs => if lenOk xs.length then M.pure (.lst xs) else fun _ => .bad) e := nr rfl
@[simp] theorem x_oNone : oNone e = .ok none e := nr rfl
@[simp] theorem x_oSome : oSome a e = M.bind a (fun x => match x with | .int i => M.pure (some i) | _ => fun _ => .bad) e := nr rfl
@[simp] theorem x_eSl {lo hi : DO} : eSl a lo hi e = M.bind a (fun x => M.bind lo fun l => M.bind hi fun h => M.of (dSl x l h)) e := nr rfl
@[simp] theorem x_eSlN {lo hi : DO} : eSlN i lo hi e = M.bind (eTmp i) (fun _ => M.bind lo fun l => M.bind hi fun h => M.bind (eTmp i) fun x => M.of (dSlL x l h)) e := nr rfl
@[simp] theorem x_isi {t : Ty} : eIsi t a e = M.bind a (fun x => if isExc x then (fun _ => .bad) else M.pure (.bl (isi t x))) e := nr rfl
@[simp] theorem x_ex1 : isExc .non = false := nr rfl
@[simp] theorem x_ex2 {k : Bool} : isExc (.bl k) = false := nr rfl
@[simp] theorem x_ex3 {k : Int} : isExc (.int k) = false := nr rfl
@[simp] theorem x_ex4 {k : Str} : isExc (.str k) = false := nr rfl
@[simp] theorem x_ex5 : isExc (.tup xs) = false := nr rfl
@[simp] theorem x_ex6 : isExc (.lst xs) = false := nr rfl
@[simp] theorem x_ex7 {k : Str} : isExc (.obj k) = false := nr rfl
@[simp] theorem x_ex8 {k : List (List Key × D)} : isExc (.dic k) = true := nr rfl
@[simp] theorem x_isi2 {t u : Ty} : eIsi2 t u a e = M.bind a (fun x => if isPy x then M.pure (.bl (isi t x || isi u x)) else fun _ => .bad) e := nr rfl
@[simp] theorem x_py1 : isPy .non = true := nr rfl
@[simp] theorem x_py2 {k : Bool} : isPy (.bl k) = true := nr rfl
@[simp] theorem x_py3 {k : Int} : isPy (.int k) = true := nr rfl
@[simp] theorem x_py4 {k : Str} : isPy (.str k) = true := nr rfl
@[simp] theorem x_py5 : isPy (.tup xs) = true := nr rfl
@[simp] theorem x_py6 : isPy (.lst xs) = true := nr rfl
@[simp] theorem x_iSeq : iSeq a e = M.bind a (fun x => match x with | .lst xs => M.pure xs | .tup xs => M.pure xs | _ => fun _ => .bad) e := nr rfl
@[simp] theorem x_gN : gN i x e = if isOwn (sl e i) then .bad else .ok () (put e i (.val x)) := nr rfl
@[simp] theorem x_gsNil : gsNil [] e = .ok () e := nr rfl
@[simp] theorem x_gsCons {r : DGs} : gsCons g r (x :: xs) e = M.bind (g x) (fun _ => r xs) e := nr rfl
@[simp] theorem x_gT1 {r : DGs} : gT r (.tup xs) e = r xs e := nr rfl
@[simp] theorem x_gT2 {r : DGs} : gT r (.lst xs) e = r xs e := nr rfl
@[simp] theorem x_sNil : sNil e = .ok .nx e := nr rfl
@[simp] theorem x_sSeq : sSeq m n e = (match m e with | .ok .nx e1 => n e1 | .ok o e1 => .ok o e1 | .ex c fs e1 => .ex c fs e1 | .bad => .bad) := by
  unfold sSeq M.bind
  cases m e with
  | ok o e1 => cases o <;> rfl
  | _ => rfl
@[simp] theorem x_sAsg : sAsg a g e = M.bind a (fun x => M.bind (g x) fun _ => M.pure .nx) e := nr rfl
@[simp] theorem x_sAsgN : sAsgN i a e = M.bind a (fun x => fun e => if isFix (sl e i) then .bad else .ok .nx (put e i (.val x))) e := nr rfl
@[simp] theorem x_sOwn : sOwn i a e = M.bind a (fun x => match x with | .lst xs => fun e => if isFix (sl e i) || !decide (i < e.length) then .bad else .ok .nx (put e i (.own xs)) | _ => fun _ => .bad) e := nr rfl
@[simp] theorem x_sRelL : sRelL i e = (match sl e i with | .own xs => .ok .nx (put e i (.val (.lst xs))) | _ => .bad) := nr rfl
@[simp] theorem x_sIf : sIf t m n e = M.bind t (fun k => if k then m else n) e := nr rfl
@[simp] theorem x_sRet : sRet a e = M.bind a (fun x => M.pure (.rt x)) e := nr rfl
@[simp] theorem x_sExpr : sExpr a e = M.bind a (fun _ => M.pure .nx) e := nr rfl
@[simp] theorem x_ownL : ownL i e = (match sl e i with | .own xs => .ok xs e | .bor xs => .ok xs e | _ => .bad) := nr rfl
@[simp] theorem x_sApp : sApp i a e = M.bind (ownL i) (fun _ => M.bind a fun x => M.bind (ownL i) fun xs => fun e => if lenOk (xs.length + 1) then .ok .nx (putL e i (xs ++ [x])) else .bad) e := nr rfl
@[simp] theorem x_sSetL : sSetL i a b e = M.bind b (fun x => M.bind (ownL i) fun _ => M.bind a fun k => M.bind (ownL i) fun xs => match k with | .int k => (match ixN xs.length k with | some n => fun e => .ok .nx (putL e i (xs.set n x)) | none => fun _ => .bad) | _ => fun _ => .bad) e := nr rfl
@[simp] theorem x_sFor {it : DI} : sFor it g m e = M.bind it (fun xs => loop g m xs) e := nr rfl
@[simp] theorem x_putL : putL e i ys = put e i (match sl e i with | .own _ => .own ys | .bor _ => .bor ys | s => s) := nr rfl
@[simp] theorem x_isFix1 : isFix .no = false := nr rfl
@[simp] theorem x_isFix2 : isFix (.val x) = false := nr rfl
@[simp] theorem x_isFix3 : isFix (.own xs) = false := nr rfl
@[simp] theorem x_isFix4 : isFix (.ro x) = false := nr rfl
@[simp] theorem x_isOwn1 : isOwn .no = false := nr rfl
@[simp] theorem x_isOwn2 : isOwn (.val x) = false := nr rfl
@[simp] theorem x_isOwn3 : isOwn (.ro x) = false := nr rfl
@[simp] theorem x_yes : tYes e = .ok true e := nr rfl
@[simp] theorem x_isN1 : dIsN .non = true := nr rfl
@[simp] theorem x_ix0 : atI (x :: xs) 0 = some x := by
  unfold atI ixN; simp
@[simp] theorem x_ix1 : atI (x :: y :: xs) 1 = some y := by
  have h : ixN (x :: y :: xs).length 1 = some 1 := by unfold ixN; rw [if_pos (by decide), if_pos (by simp; omega)]; rfl
  unfold atI; rw [h]; rfl
@[simp] theorem x_ix2 {z : D} : atI (x :: y :: z :: xs) 2 = some z := by
  have h : ixN (x :: y :: z :: xs).length 2 = some 2 := by unfold ixN; rw [if_pos (by decide), if_pos (by simp; omega)]; rfl
  unfold atI; rw [h]; rfl
end
/-! ### comprehensions that change nothing -/
theorem back_wipe (e : Env) : ∀ vs : List Nat, back e (wipeE e vs) vs = e := fun vs => by
  apply List.ext_getElem?
  intro j
  have sl_eq : ∀ (a b : Env), a.length = b.length → (∀ j, sl a j = sl b j) → a = b := by
    intro a
    induction a with
    | nil => intro b h _; cases b with
      | nil => rfl
      | cons _ _ => cases h
    | cons x a ih => intro b h hs; cases b with
      | nil => cases h
      | cons y b =>
        have e0 : x = y := hs 0
        rw [e0, ih b (by simpa using h) fun j => hs (j + 1)]
  have l1 : (wipeE e vs).length = e.length := put_len' e vs
  rw [sl_eq (back e (wipeE e vs) vs) e (by rw [back_len, l1]) fun j => by
    rw [sl_back l1.symm, sl_wipe]
    split <;> rfl]
/-! ### calls with plain arguments -/
theorem call_ok {f : DF} {as : List Arg} {e e1 e2 : Env} {xs : List (D ⊕ Nat)} {ds : List D} {d : D} {bs : List (List D)} (h1 : argsV as e = .ok xs e1) (h2 : (lends as).all (fun i => isL (sl e1 i)) = true) (h3 : argsD e1 xs = some ds) (h4 : f ds = .ok d bs) (h5 : giveBack as bs e1 = some e2) : eCall f as e = .ok d e2 := by
  unfold eCall
  simp only [h1, h2, h3, h4, h5, Bool.not_true, Bool.false_eq_true, if_false]
theorem args_e {a : DE} {as : List Arg} {e e1 e2 : Env} {x : D} {xs : List (D ⊕ Nat)} (h : a e = .ok x e1) (hr : argsV as e1 = .ok xs e2) : argsV (.e a :: as) e = .ok (.inl x :: xs) e2 := by
  unfold argsV; rw [bind_ok h, bind_ok hr]; rfl
theorem args_new {a : DE} {as : List Arg} {e e1 e2 : Env} {x : D} {xs : List (D ⊕ Nat)} (h : a e = .ok x e1) (hr : argsV as e1 = .ok xs e2) : argsV (.new a :: as) e = .ok (.inl x :: xs) e2 := by
  unfold argsV; rw [bind_ok h, bind_ok hr]; rfl
theorem args_lend {i : Nat} {as : List Arg} {e e2 : Env} {x : D} {xs : List (D ⊕ Nat)} (h : eTmp i e = .ok x e) (hr : argsV as e = .ok xs e2) : argsV (.lend i :: as) e = .ok (.inr i :: xs) e2 := by
  unfold argsV; rw [bind_ok h, bind_ok hr]; rfl
theorem args_look {i : Nat} {as : List Arg} {e e2 : Env} {x : D} {xs : List (D ⊕ Nat)} (h : eTmp i e = .ok x e) (hr : argsV as e = .ok xs e2) : argsV (.look i :: as) e = .ok (.inr i :: xs) e2 := by
  unfold argsV; rw [bind_ok h, bind_ok hr]; rfl
theorem call2 {f : DF} {a b : DE} {e e1 e2 : Env} {x y r : D} (ha : a e = .ok x e1) (hb : b e1 = .ok y e2) (hf : f [x, y] = .ok r []) : eCall f [.e a, .e b] e = .ok r e2 := call_ok (args_e ha (args_e hb rfl)) rfl rfl hf rfl
theorem mkF_rt {n : Nat} {ms : List Md} {b : DS} {ds : List D} {d : D} {e : Env} {bs : List (List D)} (h1 : lstsOk ms ds = true) (h2 : b (startE ms ds ++ List.replicate (n - ms.length) .no) = .ok (.rt d) e) (h3 : lentOf ms e = some bs) : mkF n ms b ds = .ok d bs := by
  unfold mkF
  simp only [h1, h2, h3, Bool.not_true, Bool.false_eq_true, if_false]
theorem mkR_rt {n : Nat} {ms : List Md} {b : DS} {ds : List D} {d : D} {e : Env} {bs : List (List D)} (h1 : lstsOk ms ds = true) (h2 : b (startE ms ds ++ List.replicate (n - ms.length) .no) = .ok (.rt d) e) (h3 : lentOf ms e = some bs) : mkR n ms b ds = .ok d bs := by
  unfold mkR
  simp only [h1, h2, h3, Bool.not_true, Bool.false_eq_true, if_false]
/-- the end: the law's promise -/
theorem law_sp {K : PySem.W.Frag} {H : Hp} {a : Addr} {ns : List Int} {N : List Str} {g : DF} (hS : SqL K H a (ns.map V.int)) (hN : 1 ≤ N.length) (hg : g [.lst (ns.map D.int)] = .ok (.bl true) []) :
    spD .s K N [.ro] g [.ref a] H (fun v _ => v = .bl true) fun _ _ _ => False := by
  refine ⟨rfl, [.lst (ns.map D.int)], ⟨fun _ => False, fun _ => False, H, fun _ => none⟩, fun _ => none, ?_, rfl, rfl, ?_⟩
  · refine ⟨fun j => ?_, fun i j a h => by (cases h), fun a z => z.elim False.elim fun ⟨_, z⟩ => by (cases z), fun a o e _ => e, fun a z => z, ?_, fun a z => z.elim, fun a xs z => z.elim, start_lnk [.ro] _ _⟩
    · cases j with
      | zero =>
        refine ⟨rfl, .ref a, rfl, ?_⟩
        rcases hS with s | s
        · exact .lst (fun z => z.elim (fun ⟨_, z⟩ => by (cases z)) False.elim) s (repL_ints ns)
        · exact .kl (.inr s)
      | succ j =>
        have e1 : sl (startE [.ro] [.lst (ns.map D.int)] ++ List.replicate (N.length - [Md.ro].length) .no) (j + 1) = .no := sl_app_no _ _ _ (by simp [startE])
        rw [e1]
        rfl
    · unfold L2.start
      simp [startE]
  · rw [hg]
    intro v H' _ r
    have r1 : Rep (fun _ => False) H' v (.bl true) := r.1
    cases r1
    rfl
end AH
namespace AH
open PySem PySem.Spec PyProof.Rows L2
variable [TheK]
/-! ### slots are forgotten -/
def fgt1 (e : Env) (i : Nat) : Env := if isFix (sl e i) then e else put e i .no
def fgt (e : Env) : List Nat → Env
  | [] => e
  | i :: r => fgt (fgt1 e i) r
def sFg (vs : List Nat) (m : DS) : DS := m.bind fun o => match o with
  | .rt d => M.pure (.rt d)
  | o => fun e => .ok o (fgt e vs)
section
variable {K : PySem.W.Frag} {F : Fm} {O : Nat → Option Addr} {env : Env} {σ : L2.St} {H H' : Hp} {i : Nat}
theorem SR.drop (S : SR K F O env σ H) (hi : NoP (sl env i)) : SR K F (setO O i none) (put env i .no) σ H where
  slot := fun j => by
    by_cases hj : j = i
    · subst hj
      by_cases hl : j < env.length
      · rw [sl_put_same _ _ _ hl]; exact setO_same
      · rw [put_out _ _ _ (by omega), sl_out _ _ (by omega)]; exact setO_same
    · rw [sl_put_ne _ _ _ _ hj]
      exact SlR.own (F := F) rfl rfl (setO_ne hj) (fun _ z => z) (fun a w => .inl (ow_setN w)) (fun a w => .inl (w.elim (fun w => .inl (jo_setN w)) .inr)) (fun _ _ _ e => setO_ne (S.lnk.ne hi e)) (S.slot j)
  inj := inj_setN S
  prot := fun a w => S.prot a (ow_setN w)
  keep := S.keep
  al := S.al
  len := by rw [put_len]; exact S.len
  nal := S.nal
  pt := S.pt
  lnk := S.lnk.put hi fun _ _ _ z => by cases z
theorem SR.fgt (S : SR K F O env σ H) (vs : List Nat) : ∃ O', SR K F O' (AH.fgt env vs) σ H ∧ ∀ a, Jo O' a → Jo O a := by
  induction vs generalizing O env with
  | nil => exact ⟨O, S, fun _ z => z⟩
  | cons i r ih =>
    show ∃ O', SR K F O' (AH.fgt (fgt1 env i) r) σ H ∧ ∀ a, Jo O' a → Jo O a
    unfold fgt1
    split
    · exact ih S
    · rename_i hf
      obtain ⟨O', S', g⟩ := ih (S.drop (i := i) (noP_fix (by simpa using hf)))
      exact ⟨O', S', fun a z => jo_setN (g a z)⟩
end
section
variable {fl : Fl} {X : Cx} {Wx : WX} {sts : List Stmt} {m : DS}
theorem fg_post {D : Ends} {F : Fm} {O : Nat → Option Addr} {H : Hp} {vs : List Nat} {env : Env} (w : Want (sFg vs m) env (Post fl X.K F O H D) (XWs X.K F O H Wx)) : Want m env (Post fl X.K F O H D) (XWs X.K F O H Wx) := by
  refine (Want.bind (m := m) w).imp (fun o e1 w1 O' σ' H' S k => ?_) fun _ _ _ z => z
  obtain ⟨O2, S2, g⟩ := S.fgt vs
  have k2 : KeS O H O2 H' := k.trans ⟨Ke.refl, fun a z => .inl (g a z)⟩
  cases o with
  | nx => exact w1 O2 σ' H' S2 k2
  | bk => exact w1 O2 σ' H' S2 k2
  | ct => exact w1 O2 σ' H' S2 k2
  | rt d => exact w1 O' σ' H' S k
theorem ss_fg {vs : List Nat} (h : SsD fl X Wx sts m) : SsD fl X Wx sts (sFg vs m) := let ⟨t, p, q⟩ := h; ⟨t, p, fun F O env σ H D S w => q F O env σ H D S (fg_post w)⟩
end
/-! ### raise X() -/
section
variable {X : Cx} {B newId initId : String} {C : Addr} {bmB : List Value}
theorem pmk_own0 {x : Str} {p pos : Pos} (F : ExcBaseFacts B newId initId bmB) (q : PySem.W.excIn X.K C bmB newId = true) (gC : X.mg x = some (.ref C)) (kC : PySem.W.keepIn X.K (.ref C) = true) (r : Raises X (.ref C)) (hg : Gl X x)
    (hdb : (x == ("__debug__" : Str)) = false := by decide) : PMk X (.Call (.Name x p) [] [] pos) (fun _ H Q => Q (.ref C) none H) := by
  intro pins s σ H Q I h
  refine wpAny_Call_Name_kw (ld_glob I hg gC (?_) hdb); refine PySem.W.callWith_K0 I.kIn kC ?_
  show wpAny _ _ (call (.ref C) []) _ _ _
  obtain ⟨bm, N, nm, qn, bs, hdct, sn, sub, ab, col, dd, k0, k1, k2, k3, k5, mN, hC, hN, hni, T⟩ := exc_obj I.kIn q
  exact wpAny_call_exc_subT F T hC hN hni (fun h' e hm => mk_of I hm r h (I.hok.gone hm.new)) (by show 0 ≤ sizeLine; omega)
end
/-- an own exception class without fields -/
structure XcF (K : PySem.W.Frag) (mg : Str → Option Value) (c : Str) : Prop where
  q : PySem.W.excIn K (He.ga K c) (PySem.HandSPX.veTail) "ValueError.__new__" = true
  g : mg c = some (.ref (He.ga K c))
  k : PySem.W.keepIn K (.ref (He.ga K c)) = true
  b : PySem.W.subIn K (.ref (He.ga K c)) (.type "BaseException") = some true
  t : PySem.W.typeIn K (.ref (He.ga K c)) = some (.type "type")
def sRaise (c : Str) : DS := fun e => .ex c [] e
theorem sd_raise0 {fl : Fl} {X : Cx} {Wx : WX} {c : Str} {p p1 pos : Pos} (hc : X.calm = true) (tk : Takes X Wx) (hx : c ∈ TheK.xs) (F : XcF X.K X.mg c) (hg : Gl X c) (hdb : (c == ("__debug__" : Str)) = false := by decide) :
    SD fl X Wx (.Raise (some (.Call (.Name c p) [] [] p1)) none pos) (sRaise c) :=
  ⟨_, ps_raise hc tk (pmk_own0 PySem.F.excBase_ValueError F.q F.g F.k (raises_own F.b F.t) hg hdb), fun F O env σ H D S w => w O σ _ _ H S .refl ⟨⟨rfl, hx⟩, rfl⟩⟩
end AH
namespace AH
open PySem PySem.Spec PyProof.Rows L2
/-! ### try: body, except x as n: suite; the exception's object is kept in the heap -/
section
variable {X : Cx} {σ : L2.St} {H : Hp} {pins : List (Addr × Obj)} {s : Shared}
theorem Inv.suiteK (I : Inv X pins σ H s) {a : Addr} {oe : Obj} {vs : Array Value} {cls : Value} {d : Option Addr} (ha : s.heap.get? a = some oe) (hd : oe.data = .fields vs) (hz : Zc cls d oe) (na : H a = none) (nL : a ≠ X.env.locals) (n0 : X.s_0.heap.get? a = none) (np : ∀ p ∈ X.pn ++ pins, p.1 ≠ a) :
    Inv (X.suite a (X.pn ++ pins)) [] σ (upd H a (CgO cls d a)) s := by
  refine ⟨I.ok.suite _ _, I.os, I.bare, ⟨I.base.keep, I.base.slot, fun b o e n hx => ?_, I.base.there, fun b xs e => ?_, fun b o u e => ?_, fun b ps e => ?_⟩, I.loc, I.cell, ?_, fun x c e => ?_, fun p hp => ?_, ?_, I.len⟩
  · rw [upd_ne (fun z => by rw [z, n0] at e; cases e)]
    exact I.base.free b o e n hx
  · have qt := I.base.tups b xs e
    rw [upd_ne (ne_of_none qt na)]; exact qt
  · have qf := I.base.frzs b o u e
    rw [upd_ne (ne_of_none qf na)]; exact qf
  · obtain ⟨more, q⟩ := I.base.tbls b ps e
    exact ⟨more, by rw [upd_ne (ne_of_none q na)]; exact q⟩
  · show upd H a (CgO cls d a) X.env.locals = none
    rw [upd_ne (Ne.symm nL)]; exact I.free
  · obtain ⟨v, hc⟩ := I.cell x c e
    have ne : c ≠ a := fun z => by
      subst z
      obtain ⟨o, h1, h2⟩ := hc
      rw [ha] at h1; cases h1
      rw [hd] at h2; cases h2
    rw [upd_ne ne]; exact I.freeC x c e
  · have hp' : p ∈ X.pn ++ pins := by rw [List.append_nil] at hp; exact hp
    obtain ⟨e, n, q⟩ := I.pin p hp'
    exact ⟨e, by rw [upd_ne (np p hp')]; exact n, q⟩
  · exact HOk.laidN I.hok (fun _ _ e => e) na ⟨⟨oe, vs, ha, hz, hd⟩, ⟨oe, ha⟩, fun _ _ ⟨o, v, q, r⟩ k => ⟨o, v, k o q, r⟩⟩
theorem Inv.unsuiteK {a : Addr} {pn' : List (Addr × Obj)} (I : Inv (X.suite a (X.pn ++ pins)) pn' σ H s) (ok : X.Ok) : Inv X pins σ H s :=
  ⟨ok, I.os, I.bare, I.base, I.loc, I.cell, I.free, I.freeC, fun r hr => I.pin r (List.mem_append_left _ hr), I.hok, I.len⟩
end
def wKp (K : PySem.W.Frag) (c : Value) (i : Nat) (ts : TS) (Wout : WX) (D : Ends) : WX := fun cls d σ H =>
  ∃ b, PySem.W.exmOne K cls c = some b ∧ (b = true → ∀ a, H a = none → ts { nx := fun σ' H' => D.nx (σ'.set i none) H', rt := D.rt, bk := fun σ' H' => D.bk (σ'.set i none) H', ct := fun σ' H' => D.ct (σ'.set i none) H' } (σ.set i (some (.ref a))) (upd H a (CgO cls d a))) ∧
    (b = false → Wout cls d σ H)
section
variable {X : Cx} {x n : Str} {c : Value} {i : Nat} {body suite : List Stmt} {b₀ : Stmt} {np pos pos' : Pos} {tb : WX → TS} {ts : TS} {Wout : WX}
theorem ps_try_keep (hs : X.stack = X.env :: X.outer) (hf : X.env.frame = some X.env.locals) (hex : X.ex = []) (hN : X.N.Nodup) (hi : X.N[i]? = some n) (hln : X.env.kindOf n = some .local) (hc : Names X x c) (tk : Takes X Wout)
    (hb : ∀ (W : WX) (pn : List (Addr × Obj)) (xe : Value → Shared → Prop),  Takes (X.tr pn xe) W → PassesOwn (model X.prog X.w) X.A X.env xe → PSs (X.tr pn xe) body (tb W))
    (hsu : ∀ (a : Addr) (pn : List (Addr × Obj)), PSs (X.suite a pn) (b₀ :: suite) ts) :
    PS X (.Try body [.ExceptHandler (some (.Name x np)) (some n) (b₀ :: suite) pos'] [] [] pos) (fun D σ H => tb (wKp X.K c i ts Wout D) D σ H) := by
  refine ⟨fun pins s σ H D I h => ?_⟩; have ok := I.ok
  have hff : X.A.frames = some (X.env :: X.outer) := by rw [ok.frames, hs]
  have hlo : Loc X.env.scope n := .inl hln
  refine wpAny_Try_except ?_
  refine wpAny_mono ((hb (wKp X.K c i ts Wout D) (X.pn ++ pins) (fun e s₁ => wpAny (model X.prog X.w) X.A (noteFrame e X.env) (fun _ s₂ => wpAny (model X.prog X.w) X.A (setFlight e none) (fun _ s₃ =>
    wpAny (model X.prog X.w) X.A (handleBy e X.env [.ExceptHandler (some (.Name x np)) (some n) (b₀ :: suite) pos']) (SP X pins D) X.xe s₃) X.xe s₂) X.xe s₁) (fun u s' xw => ?_) PassesOwn.looking).run [] s σ H D (I.toTry _) h) (fun f s1 sp1 => ?_) (fun e s1 he => he)
  · obtain ⟨a, B, sI, pins', σ', H', cls, d, rfl, Y', nb, uq, sk, na, os, ag, b, mb1, yes, nay⟩ := xw
    have Y : Inv X pins σ' H' sI := Y'.ofTry ok
    have sk' : Sky B (X.env :: X.outer) a (Zc cls d) X.env.locals s'.heap := by rw [← hs]; exact sk
    refine Sky.land Zc.steady hff hf sk' fun h3 fy3 uq3 => ?_
    have Y3 : Inv X pins σ' H' { s' with heap := h3 } := Y.landed nb fy3.1 (uq.trans uq3) os ag
    obtain ⟨ob3, ws3, at3, zc3, da3⟩ := fy3.there
    have isNoFr : ∀ {h : Heap} {o : Obj} {vs : Array Value}, h.FunFrames B (X.env :: X.outer) → h.get? a = some o → o.data = .fields vs → a ∉ frs (X.env :: X.outer) := fun {h o vs} ff e dd hm => by
      obtain ⟨_, o2, e2, hn2⟩ := ff.mem hm
      rw [e] at e2; cases e2
      exact hn2 _ dd
    have nofr := isNoFr fy3.2.2.1 at3 da3
    have nL : a ≠ X.env.locals := fun z => nofr (List.mem_filterMap.mpr ⟨X.env, List.mem_cons_self, by rw [hf, z]⟩)
    have nF : a ∉ X.fs := fun hmm => by
      obtain ⟨e, he, q⟩ := List.mem_filterMap.mp hmm
      exact nofr (List.mem_filterMap.mpr ⟨e, List.mem_cons_of_mem _ he, q⟩)
    have nB : B.get? a = none := fy3.2.1
    have nI : sI.heap.get? a = none := by
      cases q : sI.heap.get? a with
      | none => rfl
      | some o =>
        have z := nb a o q (by rw [hs]; exact nofr)
        rw [nB] at z; cases z
    have n00 : X.s_0.heap.get? a = none := by
      cases q : X.s_0.heap.get? a with
      | none => rfl
      | some o =>
        obtain ⟨o', z⟩ := Y.base.there a o q (by rw [hex]; simp)
        rw [nI] at z; cases z
    have npn : ∀ p ∈ X.pn ++ pins, p.1 ≠ a := fun p hp z => by
      obtain ⟨e, _⟩ := Y.pin p hp
      rw [z, nI] at e; cases e
    have Z3 := Y3.suite at3 da3 na nL nF
    refine wpAny_handleBy_cons (codeAny_handlers_test ?_) (by intro z; cases z)
    have lty : PySem.W.Looks (model X.prog X.w) h3 (typeOf (.ref a)) cls := fun A Q E s k q => wpAny_typeOf_ref (k _ _ at3) (by rw [zc3.1]; exact q)
    have lmt := PySem.W.exm_one (M := model X.prog X.w) (Y3.kIn) lty mb1
    have tst : ∀ {Q : Value → Shared → Prop} {E : Value → Shared → Prop}, Q c { s' with heap := h3 } → wpAny (model X.prog X.w) (X.A.mark (some (.ref a))) (eval (.Name x np) X.env) Q E { s' with heap := h3 } := fun {Q E} q => by
      obtain ⟨hg, hdg, hm | ⟨hm, hv, hnn⟩⟩ := hc
      · exact ld_glob (X := X.suite a ((a, ob3) :: (X.pn ++ pins))) Z3 hg hm q hdg
      · exact ld_blt (X := X.suite a ((a, ob3) :: (X.pn ++ pins))) Z3 hg hm hv q hnn hdg
    refine tst (lmt.here ?_)
    cases b with
    | true =>
      refine codeAny_handlers_suite_as (HandSPX.lands_againZ fy3 fun h4 fy4 uq4 => ?_)
      have Y4 : Inv X pins σ' H' { s' with heap := h4 } := Y.landed nb fy4.1 ((uq.trans uq3).trans uq4) os ag
      obtain ⟨ob4, ws4, at4, zc4, da4⟩ := fy4.there
      have Z4 := Inv.suiteK Y4 at4 da4 zc4 na nL n00 npn
      refine store_ok (X := X.suite a (X.pn ++ pins)) (v := .ref a) Z4 hN hi hlo rfl (fun s5 Z5 => ?_) (.inr hln)
      refine wpAny_mono ((hsu a (X.pn ++ pins)).run [] s5 _ _ _ Z5 (yes rfl a na)) (fun f s6 sp1 => ?_) (fun _ _ z => False.elim z)
      have fin_ : ∀ {τ6 : L2.St} {G6 : Hp} {Q : Shared → Prop}, Inv (X.suite a (X.pn ++ pins)) [] τ6 G6 s6 → (∀ s7, Inv X pins (τ6.set i none) G6 s7 → Q s7) →
          wpAny (model X.prog X.w) X.A (do bindName X.env n .none; unbindBehindTheSuite X.env n pos') (fun _ s7 => Q s7) X.xe s6 := fun {τ6 G6 Q} Z6 hq => gone_ok (Inv.unsuiteK Z6 ok) hN hi hln hq
      cases f with
      | next =>
        obtain ⟨τ6, G6, Z6, w6⟩ := sp1
        exact fin_ Z6 fun s7 Y7 => ⟨_, _, Y7, w6⟩
      | brk =>
        obtain ⟨τ6, G6, Z6, w6⟩ := sp1
        exact fin_ Z6 fun s7 Y7 => ⟨_, _, Y7, w6⟩
      | cont =>
        obtain ⟨τ6, G6, Z6, w6⟩ := sp1
        exact fin_ Z6 fun s7 Y7 => ⟨_, _, Y7, w6⟩
      | ret u =>
        obtain ⟨vl6, τ6, G6, Z6, rl6, w6⟩ := sp1
        exact fin_ Z6 fun s7 Y7 => ⟨_, _, _, Y7, rl6, w6⟩
    | false =>
      refine wpAny_handleBy_nil (?_)
      obtain ⟨k1, k2, k3, oe, vs, T, oT, ts', he, hz, hd, h1, hr⟩ := id fy3
      unfold PySem.passOn
      refine wpAny_bind (wpAny_field he hd h1 (?_)); rw [if_neg (show ¬ ((Value.ref T == Value.none) = true) by simp)]
      have finn : wpAny (model X.prog X.w) X.A (setFlight (.ref a) X.env.frame) (fun _ s4 => wpAny (model X.prog X.w) X.A (throw (.ref a) : Sem Flow) (SP X pins D) X.xe s4) X.xe { s' with heap := h3 } := by
        rw [hf]
        refine HandSPX.setFlight_upZ fy3 fun h4 hh4 uq4 => wpAny_throw (tk _ _ ?_)
        exact ⟨a, B, sI, pins, σ', H', cls, d, rfl, Y, nb, (uq.trans uq3).trans uq4, .inr (.inr (by rw [hs]; exact hh4)), na, os, ag, nay rfl⟩
      first
        | exact wpAny_bind (wpAny_pure (wpAny_bind finn))
        | exact wpAny_bind finn
  · cases f with
    | next =>
      obtain ⟨σ', H', Y', q⟩ := sp1
      exact wpAny_execs_nil ⟨σ', H', Y'.ofTry ok, q⟩
    | brk =>
      obtain ⟨σ', H', Y', q⟩ := sp1
      exact ⟨σ', H', Y'.ofTry ok, q⟩
    | cont =>
      obtain ⟨σ', H', Y', q⟩ := sp1
      exact ⟨σ', H', Y'.ofTry ok, q⟩
    | ret u =>
      obtain ⟨v, σ', H', Y', r, q⟩ := sp1
      exact ⟨v, σ', H', Y'.ofTry ok, r, q⟩
end
end AH
namespace AH
open PySem PySem.Spec PyProof.Rows L2
variable [TheK]
/-! ### try, the error kept in a name -/
def sTryK (c : Str) (i j : Nat) (m : DS) : DS := fun e => match m e with
  | .ok o e1 => .ok o e1
  | .ex c' fs e1 => if c' = c then (if isOwn (sl e1 i) || (isFix (sl e1 j) || !decide (i < e1.length)) then .bad else .ok .nx (put (put e1 j (.val (.exc c' [] fs))) i .no)) else .ex c' fs e1
  | .bad => .bad
theorem SR.newX {K : PySem.W.Frag} {F : Fm} {O : Nat → Option Addr} {env : Env} {σ : L2.St} {H : Hp} {a : Addr} {o : HO} (S : SR K F O env σ H) (h : H a = none) : SR K F O env σ (upd H a o) := S.new' h
theorem SR.dropS {K : PySem.W.Frag} {F : Fm} {O : Nat → Option Addr} {env : Env} {σ : L2.St} {H : Hp} {i : Nat} {o : Option V} (S : SR K F O env σ H) (hi : NoP (sl env i)) : SR K F (setO O i none) (put env i .no) (σ.set i o) H where
  slot := fun j => by
    by_cases hj : j = i
    · subst hj
      by_cases hl : j < env.length
      · rw [sl_put_same _ _ _ hl]; exact setO_same
      · rw [put_out _ _ _ (by omega), sl_out _ _ (by omega)]; exact setO_same
    · rw [sl_put_ne _ _ _ _ hj, get1_ne hj]
      exact SlR.own (F := F) rfl rfl (setO_ne hj) (fun _ z => z) (fun a w => .inl (ow_setN w)) (fun a w => .inl (w.elim (fun w => .inl (jo_setN w)) .inr)) (fun _ _ _ e => setO_ne (S.lnk.ne hi e)) (S.slot j)
  inj := inj_setN S
  prot := fun a w => S.prot a (ow_setN w)
  keep := S.keep
  al := S.al
  len := by rw [put_len, List.length_set]; exact S.len
  nal := S.nal
  pt := S.pt
  lnk := S.lnk.put hi fun _ _ _ z => by cases z
section
variable {fl : Fl} {X : Cx} {Wx : WX} {n y c : Str} {i j : Nat} {body : List Stmt} {m : DS} {np py pn pa pos' pos : Pos}
def tSs (fl : Fl) (K : PySem.W.Frag) (m : DS) (W : WX) : TS := fun D σ H => ∃ F O env, SR K F O env σ H ∧ Want m env (Post fl K F O H D) (XWs K F O H W)
theorem SsD.pss (h : SsD fl X Wx body m) : PSs X body (tSs fl X.K m Wx) := by
  obtain ⟨t, p, q⟩ := h
  exact ⟨fun pins s σ H D I ⟨F, O, env, S, w⟩ => p.run pins s σ H D I (q F O env σ H D S w)⟩
theorem sd_tryK (hs : X.stack = X.env :: X.outer) (hf : X.env.frame = some X.env.locals) (hex : X.ex = []) (hN : X.N.Nodup) (hi : X.N[i]? = some n) (hln : X.env.kindOf n = some .local) (hj : X.N[j]? = some y) (hy : X.env.kindOf y = some .local) (hij : i ≠ j)
    (hK : X.K = TheK.K) (hg : Gl X c) (hdb : (c == ("__debug__" : Str)) = false) (hm : X.mg c = some (.ref (He.ga X.K c))) (hx : ∀ c' ∈ TheK.xs, PySem.W.exmOne X.K (.ref (He.ga X.K c')) (.ref (He.ga X.K c)) = some (decide (c' = c))) (tk : Takes X Wx)
    (hb : ∀ (W : WX) (pn : List (Addr × Obj)) (xe : Value → Shared → Prop), Takes (X.tr pn xe) W → PassesOwn (model X.prog X.w) X.A X.env xe → SsD fl (X.tr pn xe) W body m)
    (hd : (n == ("__debug__" : Str)) = false := by decide) (hcd : (n == ("__classdict__" : Str)) = false := by decide)
    (hsw : swapsWith (.Name n pn) (some (.Name y py)) pa.line X.env = pure false := by rfl) :
    SD fl X Wx (.Try body [.ExceptHandler (some (.Name c np)) (some n) [.Assign [.Name y py] (.Name n pn) pa] pos'] [] [] pos) (sTryK c i j m) := by
  refine ⟨_, ps_try_keep (tb := tSs fl X.K m) (ts := tAsg (tVar i) (gName j)) hs hf hex hN hi hln (c := .ref (He.ga X.K c)) ⟨hg, hdb, .inl hm⟩ tk (fun W pn xe t p => SsD.pss (hb W pn xe t p)) (fun a pns => pss_one (ps_set (X := X.suite a pns) hN hj (.inl hy) (pe_var hi (.inl hln) hd hcd) hsw (.inr hy))), fun F O env σ H D S w => ?_⟩
  refine ⟨F, O, env, S, ?_⟩
  unfold Want at w ⊢
  unfold sTryK at w
  cases hm : m env with
  | bad => rw [hm] at w; exact w
  | ok o e1 => rw [hm] at w; exact w
  | ex c' fs e1 =>
    rw [hm] at w
    simp only at w ⊢
    intro O1 σ1 cls d H1 S1 k1 xr
    have hmem := xr.1.2
    have ecls := xr.1.1
    refine ⟨decide (c' = c), by rw [ecls]; exact hx c' hmem, fun hb a na => ?_, fun hb => ?_⟩
    · have ec : c' = c := of_decide_eq_true hb
      rw [if_pos ec] at w
      cases hoo : (isOwn (sl e1 i) || (isFix (sl e1 j) || !decide (i < e1.length))) with
      | true => rw [hoo] at w; exact w.elim
      | false =>
      rw [hoo] at w
      rw [Bool.or_eq_false_iff, Bool.or_eq_false_iff] at hoo
      have w : Post fl X.K F O H D .nx (put (put e1 j (.val (.exc c' [] fs))) i .no) := w
      have hl : i < σ1.length := by
        have h2 := hoo.2.2
        rw [← S1.len]
        simpa using h2
      refine ⟨.ref a, ?_, ?_⟩
      · rw [List.getElem?_set_self hl]
      · have nW : ¬ Ow F O1 a := fun z => S1.prot a z na
        have S2 : SR X.K F O1 e1 σ1 (upd H1 a (CgO cls d a)) := S1.newX na
        have ke1 : Ke (Jo O1) H1 (upd H1 a (CgO cls d a)) := Ke.new na
        have r : Rep (Ow F O1) (upd H1 a (CgO cls d a)) (.ref a) (.exc c' [] fs) := by
          obtain ⟨_, x2⟩ := xr
          have ea : upd H1 a (CgO cls d a) a = some (CgO (.ref (He.ga TheK.K c')) d a) := by rw [upd_same, ecls, hK]
          cases d with
          | none =>
            have x2 : fs = [] := x2
            subst x2
            exact .exc (vs := []) nW hmem ea (fun _ => rfl) (fun d z => by cases z) .nil
          | some dd =>
            obtain ⟨y0, vs, y1, y2, y3⟩ := x2
            exact .exc (vs := vs) nW hmem ea (fun z => by cases z) (fun d z => by cases z; exact ⟨y0, by rw [upd_ne (ne_of_none y1 na)]; exact y1, y2⟩) (y3.mono (Ke.new na))
        have S3 := (S2.setVal (i := j) r (noP_fix hoo.2.1)).dropS (i := i) (o := none) (by rw [sl_put_ne _ _ _ _ hij]; exact noP_own hoo.1)
        have eσ : (((σ1.set i (some (.ref a))).set j (some (.ref a))).set i none : L2.St) = (σ1.set j (some (.ref a))).set i none := by
          rw [List.set_comm _ _ (Ne.symm hij), List.set_set, List.set_comm _ _ hij]
        have fin := w _ _ _ S3 (k1.trans ⟨ke1, fun b z => .inl (jo_setN (jo_setN z))⟩)
        rw [← eσ] at fin
        exact fin
    · have ec : ¬ c' = c := of_decide_eq_false hb
      rw [if_neg ec] at w
      exact w O1 σ1 cls d H1 S1 k1 xr
end
/-! ### isinstance(error, B), error.f -/
def isVE (c : Str) : Bool := decide (c = "Unlike" ∨ c = "Unfit" ∨ c = "NoMove" ∨ c = "TooFew" ∨ c = "BadText" ∨ c = "BadLine")
structure XvF (K : PySem.W.Frag) (c : Str) : Prop where
  x : ExcC K (He.ga K c)
  ve : PySem.W.kitOne K (.ref (He.ga K c)) (.type "ValueError") = some (isVE c)
  le : PySem.W.kitOne K (.ref (He.ga K c)) (.type "LookupError") = some (!isVE c)
section
variable {X : Cx} {Wx : WX} {a : Expr} {ma : DE} {p p2 pos : Pos}
theorem inst_of {H : Hp} {s : Shared} {b C : Addr} {dd : Option Addr} (hok : HOk X.prog X.w H s.heap) (h1 : H b = some (CgO (.ref C) dd b)) (h2 : ∀ d, dd = some d → ∃ fs, H d = some (.xd fs)) : ∃ ox od, PySem.W.InstAt s.heap b ox C od ∧ ox.dict = dd := by
  obtain ⟨⟨oe, vs, g, hz, hd⟩, _, _⟩ := (show ObjOk X.prog X.w H s.heap b (CgO (.ref C) dd b) from hok b _ h1)
  have no : PySem.W.notCls oe = true := by unfold PySem.W.notCls; rw [hd]
  cases dd with
  | none => exact ⟨oe, none, ⟨g, hz.1, no, by rw [hz.2]; trivial⟩, hz.2⟩
  | some d =>
    obtain ⟨fs, h3⟩ := h2 d rfl
    obtain ⟨mA, hns, _⟩ := (show ObjOk X.prog X.w H s.heap d (.xd fs) from hok d _ h3)
    obtain ⟨od, ho, _⟩ := lookIn_ns hns
    exact ⟨oe, some od, ⟨g, hz.1, no, by rw [hz.2]; exact ho⟩, hz.2⟩
def rIsX (K : PySem.W.Frag) : List V → Hp → VK → Prop := fun xs H Q => ∃ (b C : Addr) (dd : Option Addr) (c : V) (cv : Value) (k : Bool), xs = [.ref b, c] ∧ (∀ u, RelV c u → u = cv) ∧ H b = some (CgO (.ref C) dd b) ∧ (∀ d, dd = some d → ∃ fs, H d = some (.xd fs)) ∧ ExcC K C ∧ PySem.W.kitOne K (.ref C) cv = some k ∧ Q (.bl k) H
theorem call_isX : CallR X (.builtin "isinstance") (rIsX X.K) := by
  intro pins s σ H xs us Q I rr h
  obtain ⟨b, C, dd, c, cv, k, rfl, hcv, h1, h2, T, e, q⟩ := h
  cases rr with
  | cons rx rz =>
    cases rz with
    | cons rt rz =>
      cases rz
      cases rx
      have ec := hcv _ rt
      subst ec
      obtain ⟨ox, od, J, _⟩ := inst_of (X := X) I.hok h1 h2
      obtain ⟨cd, hcd, _⟩ := PySem.W.any_some T.hd
      exact PySem.W.kia_one (PySem.W.kitx_exc (by rw [hcd]; rfl) T.hg T.hk T.hs T.ha T.hn T.ht T.hm) I.kIn J e (fun z => nomatch z) fun tk => ⟨.bl k, H, I.kept (t' := tk) fun _ _ z => z, rfl, q⟩
def dIsX (v : Bool) : D → Rv D
  | .non => .ok (.bl false)
  | .exc c _ _ => .ok (.bl (if v then isVE c else !isVE c))
  | _ => .bad
def nmX' (v : Bool) : String := if v then "ValueError" else "LookupError"
theorem kit_nonX (v : Bool) : kitB "NoneType" (nmX' v) = some false := by cases v <;> decide +kernel
theorem pd_isX {v : Bool} {y : Str} (hK : X.K = TheK.K) (F : ∀ c ∈ TheK.xs, XvF X.K c) (hb : Bn X "isinstance" (.builtin "isinstance")) (hy : Bn X y (.type (nmX' v))) (ha : PD .s X Wx a ma)
    (hs : starEach [a, .Name y p2] X.env = (false, eval a X.env) :: starEach [.Name y p2] X.env := by rfl) : PD .s X Wx (.Call (.Name "isinstance" p) [a, .Name y p2] [] pos) (e1 (dIsX v) ma) := by
  obtain ⟨ta, pa, qa⟩ := ha
  refine ⟨_, pe_callB (CallR.or call_isi call_isX) hb.gl hb.mg hb.bt (pa_cons pa (pa_cons (pe_ty hy) pa_nil) hs) hb.nn hb.nd hs rfl, fun F' O env σ H Q S w => ?_⟩
  refine qa F' O env σ H _ S (w.bind.imp (fun dx e1 w1 x H1 S1 k1 p1 => ?_) fun _ _ _ z => z)
  obtain ⟨dz, ez, w2⟩ := w1.of
  cases p1 with
  | non =>
    cases ez
    exact .inl ⟨.non, .ty (nmX' v), _, _, _, rfl, .ty _, .base .non, kit_ty (kit_nonX v), w2 _ H1 S1 k1 (.bl _)⟩
  | exc n hc h h1 h2 l =>
    rename_i b dd c fs vs
    cases ez
    have T := F c hc
    rw [← hK] at h
    refine .inr ⟨b, He.ga X.K c, dd, .ty (nmX' v), .type (nmX' v), _, rfl, fun u z => z, h, fun d z => ⟨_, (h2 d z).2.1⟩, T.x, ?_, w2 _ H1 S1 k1 (.bl _)⟩
    cases v
    · exact T.le
    · exact T.ve
  | _ => cases ez
/-- error.f -/
structure XaF (K : PySem.W.Frag) (c : Str) : Prop where
  x : XfC K (He.ga K c)
  n : ∀ f ∈ fieldsOf c, PySem.W.findIn K (.ref (He.ga K c)) f = some none
end
end AH
namespace AH
open PySem PySem.Spec PyProof.Rows L2
/-! ### zip over lists and tuples, two or three -/
def SqK (k : Bool) (K : PySem.W.Frag) (H : Hp) (a : Addr) (xs : List V) : Prop := match k with
  | true => SqT K H a xs
  | false => SqL K H a xs
def ItK (k : Bool) (h : Heap) (it a : Addr) (i : Nat) : Prop := match k with
  | true => h.IsTupleIter it a i
  | false => h.IsListIter it a i
def IsK (k : Bool) (h : Heap) (a : Addr) (items : Array Value) : Prop := match k with
  | true => h.IsTuple a items
  | false => h.IsList a items
def obK (k : Bool) (a : Addr) : Obj := match k with
  | true => { cls := .type "tuple_iterator", data := .fields #[.ref a, .int 0 0] }
  | false => { cls := .type "list_iterator", data := .fields #[.ref a, .int 0 0] }
section
variable {k : Bool} {X : Cx} {pins : List (Addr × Obj)} {σ : L2.St} {H : Hp} {s : Shared} {a it : Addr} {xs : List V} {h h' : Heap} {i : Nat}
theorem drawsK {prog : Program} {w : World} {A : Around} (hh : A.handled = none) (k : Bool) (it a : Addr) (hne : a ≠ it) (items : Array Value) : Draws prog w A it [it, a] items.size (fun i v => items[i]? = some v) (fun i h => ItK k h it a i ∧ IsK k h a items) := by
  cases k
  · exact Draws.list hh it a hne items
  · exact Draws.tuple hh it a hne items
theorem beginsK (k : Bool) (a : Addr) (items : Array Value) : Begins (.ref a) (obK k a) fun h => IsK k h a items := by
  cases k
  · exact begins_list a items
  · exact begins_tuple a items
theorem itK0 (e : h.get? it = some (obK k a)) : ItK k h it a 0 := by
  cases k
  · exact ⟨_, e, rfl, rfl⟩
  · exact ⟨_, e, rfl, rfl⟩
theorem ItK.keep (x : ItK k h it a i) (qw : ∀ o, h.get? it = some o → h'.get? it = some o) : ItK k h' it a i := by
  cases k
  · exact Heap.IsListIter.at x qw
  · exact Heap.IsTupleIter.at x qw
theorem ItK.obj (x : ItK k h it a i) : ∃ o, h.get? it = some o ∧ ∀ v, o.data ≠ .cell v := by
  cases k
  · obtain ⟨o, e, _, d⟩ := x
    exact ⟨o, e, fun v qw => by rw [d] at qw; cases qw⟩
  · obtain ⟨o, e, _, d⟩ := x
    exact ⟨o, e, fun v qw => by rw [d] at qw; cases qw⟩
theorem Inv.sqK (I : Inv X pins σ H s) (qw : SqK k X.K H a xs) : ∃ its : List Value, Vals xs its ∧ IsK k s.heap a its.toArray ∧ a < s.heap.objs.size := by
  cases k
  · obtain ⟨its, rv, p, _⟩ := I.list qw
    exact ⟨its, rv, p.isList, p.lt⟩
  · obtain ⟨its, rv, p, _⟩ := I.tuple qw
    obtain ⟨o, ho, _⟩ := id p
    exact ⟨its, rv, p, Heap.lt_size ho⟩
theorem Inv.sqK_inj (I : Inv X pins σ H s) {ys : List V} (qw : SqK k X.K H a xs) (r : SqK k X.K H a ys) : xs = ys := by
  cases k
  · exact I.list_inj qw r
  · exact I.tuple_inj qw r
end
theorem nin2 {x y z : Nat} (h1 : x ≠ y) (h2 : x ≠ z) : x ∉ [y, z] := by simp [h1, h2]
def Itz2 (k1 k2 : Bool) (K : PySem.W.Frag) (a b : Addr) : It :=
  ⟨fun i H => ∃ (xs ys : List V) (x y : V), SqK k1 K H a xs ∧ SqK k2 K H b ys ∧ xs[i]? = some x ∧ ys[i]? = some y,
    fun i H v H' => ∃ T x y, v = .ref T ∧ H T = none ∧ H' = upd H T (.tup [x, y]) ∧ (∀ xs, SqK k1 K H a xs → xs[i]? = some x) ∧ ∀ ys, SqK k2 K H b ys → ys[i]? = some y,
    fun i H => ∃ xs ys : List V, SqK k1 K H a xs ∧ SqK k2 K H b ys ∧ i ≤ xs.length ∧ i ≤ ys.length ∧ (i = xs.length ∨ i = ys.length)⟩
theorem turn_z2 {P : Program} {w : World} {K : PySem.W.Frag} {elts : List Expr} {kk : Nat} {tpos : Pos} {k1 k2 : Bool} {a b n : Nat} (ha : a < n) (hb : b < n) :
    Turn P w K (.Tuple elts kk tpos) (Itz2 k1 k2 K a b) [n + 4, n + 2, n + 3, n, n + 1] (n + 4) (fun i h => IsZip h (n + 4) (n + 2) (n + 3) .none ∧ IsTupOf2 h (n + 2) (.ref n) (.ref (n + 1)) ∧ (∃ x y, IsTupOf2 h (n + 3) x y) ∧ ItK k1 h n a i ∧ ItK k2 h (n + 1) b i) := by
  have sep : ZipSep2 (n + 4) (n + 2) (n + 3) n (n + 1) [n, a] [n + 1, b] := by
    refine ⟨?_, ?_, ?_, ?_, ?_, ?_, ?_, ?_, ?_, ?_, ?_, ?_, ?_⟩ <;> first | (simp; done) | omega | (show @Ne Nat _ _; omega) | exact nin2 (by omega) (by omega)
  refine ⟨by simp, ?_, ?_, ?_, ?_, fun A i s Q E st h => wpAny_pyIter_zip st.1 h⟩
  · intro i h st c hc
    obtain ⟨hzp, hti, ⟨x, y, hto⟩, h1, h2⟩ := st
    have ee : c = n + 4 ∨ c = n + 2 ∨ c = n + 3 ∨ c = n ∨ c = n + 1 := by simpa using hc
    rcases ee with qw | qw | qw | qw | qw
    · rw [qw]; exact ⟨_, hzp, fun v qw => nomatch qw⟩
    · rw [qw]; exact ⟨_, hti, fun v qw => nomatch qw⟩
    · rw [qw]; exact ⟨_, hto, fun v qw => nomatch qw⟩
    · rw [qw]; exact h1.obj
    · rw [qw]; exact h2.obj
  · intro i h h' st k
    obtain ⟨hzp, hti, ⟨x, y, hto⟩, h1, h2⟩ := st
    exact ⟨k _ (by simp) _ hzp, k _ (by simp) _ hti, ⟨x, y, k _ (by simp) _ hto⟩, h1.keep fun o qw => k _ (by simp) o qw, h2.keep fun o qw => k _ (by simp) o qw⟩
  · intro X hP hw hK hc i pins s σ H E I hf st hg
    subst hP hw hK
    obtain ⟨hzp, hti, ⟨x0, y0, hto⟩, h1, h2⟩ := st
    obtain ⟨xs, ys, x, y, qqx, qqy, hx, hy⟩ := hg
    obtain ⟨its, rv, p, _⟩ := Inv.sqK I qqx
    obtain ⟨its2, rv2, p2, _⟩ := Inv.sqK I qqy
    obtain ⟨u, hgu, rlu⟩ := rv.get hx
    obtain ⟨u2, hgu2, rlu2⟩ := rv2.get hy
    have hzl : n + 4 < s.heap.objs.size := Heap.lt_size hzp
    have hh : X.A.in1.handled = none := I.ok.hd hc
    have il : i < its.toArray.size := by
      have := (List.getElem?_eq_some_iff.mp hgu).1
      simpa using this
    have il2 : i < its2.toArray.size := by
      have := (List.getElem?_eq_some_iff.mp hgu2).1
      simpa using this
    refine wpAny_pyNext_zipD2_item sep (drawsK hh k1 n a (by first | omega | (show @Ne Nat _ _; omega)) its.toArray) (drawsK hh k2 (n + 1) b (by first | omega | (show @Ne Nat _ _; omega)) its2.toArray) hzp hti hto ⟨h1, p⟩ ⟨h2, p2⟩ il il2 fun x1 x2 h' tk px1 px2 z' TO' s1' s2' hT hsz hk => ?_
    have e1 : x1 = u := by
      have z : its[i]? = some x1 := by simpa using px1
      rw [hgu] at z; cases z; rfl
    have e2 : x2 = u2 := by
      have z : its2[i]? = some x2 := by simpa using px2
      rw [hgu2] at z; cases z; rfl
    subst e1 e2
    refine ⟨_, rfl, wpAny_letOwnedTupleGo_zip (s := { s with heap := h', toks := tk }) z' fun h'' z'' sb => ?_⟩
    have hT2 : h''.get? s.heap.objs.size = some { cls := .type "tuple", data := .seq #[x1, x2] } := (sb.2 _ (Nat.ne_of_gt hzl)).trans hT
    have newO : ObjOk X.prog X.w (upd H s.heap.objs.size (.tup [x, y])) h'' s.heap.objs.size (.tup [x, y]) :=
      ⟨by show 2 ≤ sizeLine; decide, [x1, x2], .cons rlu (.cons rlu2 .nil), ⟨_, hT2, rfl, _, rfl⟩⟩
    have I1 : Inv X pins σ (upd H s.heap.objs.size (.tup [x, y])) { s with heap := h'', toks := tk } :=
      I.turnedNew (t' := tk) (ch := [n + 4, n + 2, n + 3, n, n + 1]) (fun c o hb qw => (sb.2 c (fun qq => hb (by simp [qq]))).trans (hk c o (fun qq => hb (by simp [qq])) (fun qq => hb (by simp [qq])) (fun qq => hb (by simp [qq])) (fun qq => hb (by simp [qq])) qw)) hf (Nat.le_refl _) newO
    refine ⟨.ref s.heap.objs.size, _, I1, rfl, ⟨_, x, y, rfl, I.hok.fresh (Nat.le_refl _), rfl, fun l hl => by rw [Inv.sqK_inj I hl qqx]; exact hx, fun l hl => by rw [Inv.sqK_inj I hl qqy]; exact hy⟩, ⟨z'', ?_, ⟨x1, x2, ?_⟩, ?_, ?_⟩, fun c hcm => ?_⟩
    · exact (sb.2 _ (by first | omega | (show @Ne Nat _ _; omega))).trans (hk _ _ (by first | omega | (show @Ne Nat _ _; omega)) (by first | omega | (show @Ne Nat _ _; omega)) (by first | omega | (show @Ne Nat _ _; omega)) (by first | omega | (show @Ne Nat _ _; omega)) hti)
    · exact (sb.2 _ (by first | omega | (show @Ne Nat _ _; omega))).trans TO'
    · exact s1'.1.keep fun o qw => (sb.2 _ (by first | omega | (show @Ne Nat _ _; omega))).trans qw
    · exact s2'.1.keep fun o qw => (sb.2 _ (by first | omega | (show @Ne Nat _ _; omega))).trans qw
    · have hltc : c < s.heap.objs.size := by
        have ee : @Eq Nat c (n + 4) ∨ @Eq Nat c (n + 2) ∨ @Eq Nat c (n + 3) ∨ @Eq Nat c n ∨ @Eq Nat c (n + 1) := by simpa using hcm
        have hzl' : @LT.lt Nat _ (n + 4) s.heap.objs.size := hzl
        show @LT.lt Nat _ c s.heap.objs.size
        omega
      rw [upd_ne (Nat.ne_of_lt hltc)]
      exact (hf c hcm).1
  · intro X hP hw hK hc i pins s σ H E I hf st hg
    subst hP hw hK
    obtain ⟨hzp, hti, ⟨x0, y0, hto⟩, h1, h2⟩ := st
    obtain ⟨xs, ys, qqx, qqy, i1, i2, hend⟩ := hg
    obtain ⟨its, rv, p, _⟩ := Inv.sqK I qqx
    obtain ⟨its2, rv2, p2, _⟩ := Inv.sqK I qqy
    have l1 := rv.length
    have l2 := rv2.length
    have hh : X.A.in1.handled = none := I.ok.hd hc
    exact wpAny_pyNext_zipD2_end sep (drawsK hh k1 n a (by first | omega | (show @Ne Nat _ _; omega)) its.toArray) (drawsK hh k2 (n + 1) b (by first | omega | (show @Ne Nat _ _; omega)) its2.toArray) hzp hti hto ⟨h1, p⟩ ⟨h2, p2⟩ (by simp; omega) (by simp; omega) (by simp; omega) fun h' tk hk => ⟨rfl, I.turnedL (t' := tk) (ch := [n + 4, n + 2, n + 3, n, n + 1]) (fun c o hb qw =>
      hk c o (fun qq => hb (by simp [qq])) (fun qq => hb (by simp [qq])) (fun qq => hb (by simp [qq])) (fun qq => hb (by simp [qq])) qw) hf⟩
end AH
namespace AH
open PySem PySem.Spec PyProof.Rows L2
variable [TheK]
/-! ### zip in a for or a comprehension -/
def seqD : D → Option (List D)
  | .lst xs => some xs
  | .tup xs => some xs
  | _ => none
def iZip2 (a b : DE) : DI := a.bind fun x => b.bind fun y => match seqD x, seqD y with
  | some xs, some ys => M.pure (pairs xs ys)
  | _, _ => fun _ => .bad
section
variable {X : Cx} {Wx : WX} {a b c : Expr} {ma mb mc : DE} {p pos : Pos}
theorem fresh_of {pins : List (Addr × Obj)} {σ : L2.St} {H : Hp} {s : Shared} (I : Inv X pins σ H s) {n : Nat} (hn : n = s.heap.objs.size) (k : Nat) : FpOk X pins H (n + k) := by
  subst hn
  exact I.fpOk (Nat.le_add_right _ _) (I.hok.fresh (Nat.le_add_right _ _))
def tiZ2 (K : PySem.W.Frag) (ta : TA) : TI := fun σ H R => ta σ H fun vs H1 => ∃ (k1 k2 : Bool) (a b : Addr) (xs ys : List V), vs = [.ref a, .ref b] ∧ SqK k1 K H1 a xs ∧ SqK k2 K H1 b ys ∧ R (Itz2 k1 k2 K a b) H1
theorem pi_z2 {e ex2 : Expr} {ta : TA} {tpos : Pos} {elts : List Expr} {kk : Nat} (hg : Gl X "zip") (hm : X.mg "zip" = none) (ha : PA X [e, ex2] ta)
    (hs : starEach [e, ex2] X.env = (false, eval e X.env) :: starEach [ex2] X.env := by rfl) (hpl : (backTo pos (starEach [ex2] X.env)).any (·.1) = false := by rfl) :
    PI X (.Tuple elts kk tpos) (.Call (.Name "zip" p) [e, ex2] [] pos) (tiZ2 X.K ta) := by
  refine ⟨fun pins s σ H R I h => Call_ (ld_blt I hg hm PyProof.Rows.boot_zip (PyProof.Rows.callWith_type1 (thn (ha.run pos pins s σ H _ I h) fun us s1 ⟨vs, H1, I1, r1, q1⟩ => ?_) hs hpl))⟩
  obtain ⟨k1, k2, a, b, xs, ys, ex, hqx, hqy, q⟩ := q1
  subst ex
  cases r1 with
  | cons r rr =>
    cases rr with
    | cons r' rr =>
      cases rr
      cases r
      cases r'
      obtain ⟨its, rv, p1, l1⟩ := Inv.sqK I1 hqx
      obtain ⟨its2, rv2, p2, l2⟩ := Inv.sqK I1 hqy
      refine zip_begins2 (beginsK k1 a its.toArray) (beginsK k2 b its2.toArray) p1 p2 fun h' hz hti hto h1 h2 hsz hk => wpAny_pyIter_zip hz ?_
      have I9 : Inv X pins σ H1 { s1 with heap := h' } := I1.kept (t' := s1.toks) hk
      refine ⟨s1.heap.objs.size + 4, [s1.heap.objs.size + 4, s1.heap.objs.size + 2, s1.heap.objs.size + 3, s1.heap.objs.size, s1.heap.objs.size + 1], _, _, H1, rfl, I9, turn_z2 l1 l2, ⟨hz, hti, ⟨_, _, hto⟩, itK0 h1, itK0 h2⟩, fun c hcm => ?_, q⟩
      have e' : c = s1.heap.objs.size + 4 ∨ c = s1.heap.objs.size + 2 ∨ c = s1.heap.objs.size + 3 ∨ c = s1.heap.objs.size + 0 ∨ c = s1.heap.objs.size + 1 := by simpa using hcm
      rcases e' with z | z | z | z | z <;> (rw [z]; exact fresh_of I1 rfl _)
theorem Rep.sqK {F : Fm} {O : Nat → Option Addr} {H : Hp} {v : V} {d : D} {xs : List D} {K : PySem.W.Frag} (r : Rep (Ow F O) H v d) (h : seqD d = some xs) : ∃ (k : Bool) (a : Addr) (vs : List V), v = .ref a ∧ RepL (Ow F O) H vs xs ∧ ∀ H', Ke (Ow F O) H H' → SqK k K H' a vs := by
  cases r with
  | lst n hh l => cases h; exact ⟨false, _, _, rfl, l, fun H' k => .inl (.inl (k.stay _ _ n hh))⟩
  | tup n hh l => cases h; exact ⟨true, _, _, rfl, l, fun H' k => .inl (.inl (k.stay _ _ n hh))⟩
  | _ => cases h
theorem id_zip2 {elts : List Expr} {kk : Nat} {tpos : Pos} (hb : Bn X "zip" (.type "zip")) (ha : PD .s X Wx a ma) (hb' : PD .s X Wx b mb)
    (hs : starEach [a, b] X.env = (false, eval a X.env) :: starEach [b] X.env := by rfl) (hs2 : starEach [b] X.env = (false, eval b X.env) :: starEach [] X.env := by rfl) (hpl : (backTo pos (starEach [b] X.env)).any (·.1) = false := by rfl) :
    ID X Wx (.Tuple elts kk tpos) (.Call (.Name "zip" p) [a, b] [] pos) (iZip2 ma mb) := by
  obtain ⟨ta, pa, qa⟩ := ha
  obtain ⟨tb, pb, qb⟩ := hb'
  refine ⟨_, pi_z2 hb.gl hb.mg (pa_cons pa (pa_cons pb pa_nil hs2) hs) hs hpl, fun F O env σ H R S w => ?_⟩
  refine qa F O env σ H _ S (w.bind.imp (fun dx e1 w1 x H1 S1 k1 p1 => ?_) fun _ _ _ z => z)
  refine qb F O e1 σ H1 _ S1 (w1.bind.imp (fun dy ex2 w2 y H2 S2 k2 p2 => ?_) (XW.later k1))
  have p1' := Rep.mj k2 p1
  cases q1 : seqD dx with
  | none => rw [q1] at w2; exact w2.elim
  | some xs =>
    cases q2 : seqD dy with
    | none => rw [q1, q2] at w2; exact w2.elim
    | some ys =>
      rw [q1, q2] at w2
      obtain ⟨ka, aa, va, rfl, la, sa⟩ := p1'.sqK (K := X.K) q1
      obtain ⟨kb, ab, vb, rfl, lb, sb⟩ := Rep.sqK (K := X.K) p2 q2
      have zn : (pairs xs ys).length = min va.length vb.length := by unfold pairs; rw [List.length_map, List.length_zip, la.len, lb.len]
      refine ⟨ka, kb, aa, ab, va, vb, rfl, sa H2 .refl, sb H2 .refl, w2 _ H2 S2 (k1.trans k2) ⟨fun i H3 k3 hi => ?_, fun H3 k3 => ?_, fun i H3 v H' d W' k3 g al hd yy => ?_⟩⟩
      · rw [zn] at hi
        have h1 : i < va.length := by omega
        have h2 : i < vb.length := by omega
        exact ⟨va, vb, va[i], vb[i], sa H3 k3.wo, sb H3 k3.wo, by simp [h1], by simp [h2]⟩
      · rw [zn]
        exact ⟨va, vb, sa H3 k3.wo, sb H3 k3.wo, by omega, by omega, by omega⟩
      · obtain ⟨T, x, y, rfl, hT, rfl, hx, hy⟩ := yy
        obtain ⟨ex, ey, g1, g2, rfl⟩ := pairs_get hd
        have hx := hx va (sa H3 k3.wo)
        have hy := hy vb (sb H3 k3.wo)
        obtain ⟨v1, e1, r1⟩ := la.get g1
        obtain ⟨v2, ex2, r2⟩ := lb.get g2
        rw [hx] at e1; cases e1
        rw [hy] at ex2; cases ex2
        have st : ∀ a o, H3 a = some o → upd H3 T (.tup [x, y]) a = some o := new_ext hT
        refine ⟨st, .tup (fun z => (al T z).1 hT) upd_same (.cons ?_ (.cons ?_ .nil))⟩
        · exact (r1.ke k3.wo g).ke (ke_ext st) fun a z => .inl z
        · exact (r2.ke k3.wo g).ke (ke_ext st) fun a z => .inl z
end
end AH
namespace AH
open PySem PySem.Spec PyProof.Rows L2
variable [TheK]
theorem fund_eq {K : PySem.W.Frag} {x qual : Str} {params : Arguments} {body : List Stmt} {scope : Scope} {dvs dvs' : List V} {kws kws' : List (Str × V)} {f : Addr} {fd fd' : FuncData} (a : FunD K x qual params body scope dvs kws f fd) (b : FunD K x qual params body scope dvs' kws' f fd') : fd = fd' := by
  obtain ⟨oc, od, dV, kV, doc, pm, an, cdv, ct, osl, e1, lk, _⟩ := a.ex
  obtain ⟨oc', od', dV', kV', doc', pm', an', cdv', ct', osl', e2, lk', _⟩ := b.ex
  rw [lk] at lk'
  injection lk' with z
  injection z with z1 z2 z3 z4
  injection z3
/-- the end of a law, whatever its defs may let out -/
theorem walk_ofW {l : PySem.W.OpenLaw} {n k : Nat} {q : Program} {loose : List Str} {XP : (Str → Option Value) → Heap → Prop} {YP : World → Heap → Prop} {d : DefRec} {x : Str}
    (hn : l.most = some n) (hn2 : n ≤ sizeLine) (hdf : d.params.defaults = []) (hr : Room k callerA)
    (F : ∀ (w : World) (mg : Str → Option Value) (fa : Addr) (h : Heap), YP w h → h.Ns mainGlobals mg → mg d.name = some (.ref fa) →
      ∃ (K : PySem.W.Frag) (fd : FuncData) (sp : Sp), K.In h ∧ (∀ (s : Shared) (u : Value), BindsTo s fd ⟨[u], []⟩ [(x, u)]) ∧ (∀ (H : Hp) (a : Addr) (ns : List Int), ns.length ≤ n → Only H → SqL K H a (ns.map V.int) → sp [.ref a] H (fun v _ => v = .bl true) fun _ _ _ => False) ∧
        ∀ base : Heap, K.In base → base.Ns mainGlobals mg → FnOk l.prog w K mg base (L2.CX l.prog w) k fa fd [x] sp) : PySem.W.WalkO q loose XP YP l.row.toRowW d [] (fun f vs => PySem.call f vs) := by
  refine Att.attach_call hn hdf fun w s₀ s₁ mg mb fa o pm cd doc a vs ns G Y ho hd hcd hmg hobj hints hlen hg => ?_
  obtain ⟨K, fd, sp, KX, hb, hsp, hF⟩ := F w mg fa _ Y G.T.g hmg
  refine law_call KX G.T.g G.T.b G.T.builtins G.T.nolimit hg hobj hints (Nat.le_trans hlen hn2) hr hF hb (fun H hO hS => hsp H a ns hlen hO hS) fun H e s' c => ?_
  obtain ⟨_, _, _, _, _, _, _, _, _, _, _, _, z⟩ := c
  exact z
end AH
namespace AH
open PySem PySem.Spec PyProof.Rows L2
variable [TheK]
/-! ### an instance of a class of the text that is made and just looked at -/
def gSl (K : PySem.W.Frag) (to : TE) (f : Str) : TG := fun y σ H Q => to σ H fun x H2 => ∃ a C dx p vs i, x = .ref a ∧ SlX.Slt H2 a C dx vs ∧ SlX.SCls K C ∧ SlX.Slot1 K C f p i ∧ Q σ (SlX.slH H2 a C dx (SlX.putS i y vs))
structure RosF (K : PySem.W.Frag) (C : Addr) : Prop where
  o : ObjF K C
  s1 : ∃ p i, SlX.Slot1 K C "own_open" p i
  s2 : ∃ p i, SlX.Slot1 K C "own_done" p i
  s3 : ∃ p i, SlX.Slot1 K C "own_missed" p i
  s4 : ∃ p i, SlX.Slot1 K C "own_hands" p i
  s5 : ∃ p i, SlX.Slot1 K C "own_now" p i
  s6 : ∃ p i, SlX.Slot1 K C "own_past" p i
def spInit (C : Addr) : Sp := fun vs H Q _ => ∃ x dx n Hb, vs = [.ref x, .int n] ∧ H = upd (upd Hb dx (.own x)) x (.ins C dx []) ∧ Hb x = none ∧ Hb dx = none ∧ dx ≠ x ∧ 1 ≤ n ∧ n ≤ 1000 ∧
  ∀ H' ws, (∀ a o, Hb a = some o → H' a = some o) → H' x = some (SlX.SlO x C dx ws) → H' dx = some (.xd []) → Q .non H'
def Fm.two (Hb : Hp) (x dx : Addr) : Fm := ⟨fun a => a = x ∨ a = dx, fun a => a = x ∨ a = dx, Hb, fun _ => none⟩
/-- the frame of __init__, the instance as far as it is known -/
structure Ini (K : PySem.W.Frag) (Hb : Hp) (x dx C : Addr) (n : Int) (σ : L2.St) (H : Hp) : Prop where
  S : SR K (Fm.two Hb x dx) (fun _ => none) [.no, .val (.int n)] σ H
  sl : ∃ vs, SlX.Slt H x C dx vs
  g : get1 σ 0 = some (.ref x)
theorem Ini.store {K : PySem.W.Frag} {Hb : Hp} {x dx C : Addr} {n : Int} {σ : L2.St} {H : Hp} (I : Ini K Hb x dx C n σ H) (hx : Hb x = none) (hd : Hb dx = none) (ne : dx ≠ x) (vs : List (Option V)) : Ini K Hb x dx C n σ (SlX.slH H x C dx vs) := by
  refine ⟨?_, ⟨vs, SlX.slH_slt ne⟩, I.g⟩
  unfold SlX.slH
  have nj : ∀ a, ¬ Jo (fun _ => none) a := fun a ⟨i, h⟩ => by cases h
  exact SR.updQ (SR.updQ I.S (.inr rfl) (.inr rfl) (nj _) hd) (.inl rfl) (.inl rfl) (nj _) hx
/-- three values to three slots -/
theorem Ini.three {X : Cx} {Hb : Hp} {x dx C : Addr} {n : Int} {σ : L2.St} {H : Hp} {v : V} {a b c : D} {f1 f2 f3 : Str} {Q : L2.St → Hp → Prop} (I : Ini X.K Hb x dx C n σ H) (hx : Hb x = none) (hd : Hb dx = none) (ne : dx ≠ x) (sc : SlX.SCls X.K C)
    (t1 : ∃ p i, SlX.Slot1 X.K C f1 p i) (t2 : ∃ p i, SlX.Slot1 X.K C f2 p i) (t3 : ∃ p i, SlX.Slot1 X.K C f3 p i) (r : Rep (Ow (Fm.two Hb x dx) fun _ => none) H v (.tup [a, b, c]))
    (q : ∀ H', Ini X.K Hb x dx C n σ H' → (∀ f, H' x ≠ some (.ins C dx f)) → Q σ H') : gTup X.K 3 (gCons (gSl X.K (tVar 0) f1) (gCons (gSl X.K (tVar 0) f2) (gCons (gSl X.K (tVar 0) f3) gNil))) v σ H Q := by
  obtain ⟨p1, i1, t1⟩ := t1
  obtain ⟨p2, i2, t2⟩ := t2
  obtain ⟨p3, i3, t3⟩ := t3
  cases r with
  | tup nn hh l =>
    cases l with | cons r1 l => cases l with | cons r2 l => cases l with | cons r3 l =>
      cases l
      rename_i v1 v2 v3
      refine ⟨_, _, rfl, .inl (.inl hh), rfl, _, _, rfl, ?_⟩
      obtain ⟨vs, sl⟩ := I.sl
      refine ⟨_, get1_some I.g, x, C, dx, p1, vs, i1, rfl, sl, sc, t1, _, _, rfl, ?_⟩
      have I1 : ∀ z, Ini X.K Hb x dx C n σ (SlX.slH H x C dx z) := fun z => I.store hx hd ne z
      refine ⟨_, get1_some I.g, x, C, dx, p2, _, i2, rfl, SlX.slH_slt ne, sc, t2, _, _, rfl, ?_⟩
      refine ⟨_, get1_some I.g, x, C, dx, p3, _, i3, rfl, SlX.slH_slt ne, sc, t3, rfl, ?_⟩
      refine q _ (((I1 _).store hx hd ne _).store hx hd ne _) fun f z => ?_
      unfold SlX.slH at z
      rw [upd_same] at z
      cases z
section
variable {X : Cx} {Wx : WX}
end
section
variable {P : Program} {w : World} {K : PySem.W.Frag} {mg : Str → Option Value} {base : Heap} {params : Arguments} {body : List Stmt} {scope : Scope} {f C : Addr} {fd : FuncData}
end
end AH
namespace AH
open PySem PySem.Spec PyProof.Rows L2
section
variable [TheK]
structure RosK (P : Program) (w : World) (K : PySem.W.Frag) (mg : Str → Option Value) (base : Heap) : Prop where
  ex : ∃ f fd, FnOk P w K mg base CX0 1 f fd ["self", "hours"] (spInit (He.ga K "Roster")) ∧ Mk K (He.ga K "Roster") f ∧ Binds K fd ["self", "hours"] []
  mg : mg "Roster" = some (.ref (He.ga K "Roster"))
  o : ObjF K (He.ga K "Roster")
end
/-! ### the head with a further look -/
end AH
namespace AH
open PySem PySem.Spec PyProof.Rows L2
/-! ### what is looked at of exception classes -/
def xvB (K : PySem.W.Frag) (c : Str) : Bool :=
  He.eqO (PySem.W.findIn K (.ref (He.ga K c)) "__getattribute__") (some (some (.builtin "BaseException.__getattribute__"))) && (He.eqO (PySem.W.findIn K (.ref (He.ga K c)) "__getattr__") (some none) &&
  (decide (PySem.W.subIn K (.ref (He.ga K c)) (.type "BaseException") = some true) && (PySem.W.hasDictIn K (He.ga K c) && (He.eqO (PySem.W.findIn K (.ref (He.ga K c)) "__class__") (some (some (.builtin "object.__class__"))) &&
  (He.eqO (PySem.W.specialIn K (.builtin "object.__class__") "__get__") (some (some (.builtin "getset_descriptor.__get__"))) && (decide (PySem.W.takesIn K (.builtin "object.__class__") = some true) && (decide (PySem.W.mroIn K (He.ga K c) (.type "object") = some true) &&
  (decide (PySem.W.kitOne K (.ref (He.ga K c)) (.type "ValueError") = some (isVE c)) && decide (PySem.W.kitOne K (.ref (He.ga K c)) (.type "LookupError") = some (!isVE c))))))))))
theorem xvB_ok {K : PySem.W.Frag} {c : Str} (h : xvB K c = true) : XvF K c := by
  unfold xvB at h
  obtain ⟨h1, h⟩ := He.ba h
  obtain ⟨h2, h⟩ := He.ba h
  obtain ⟨h3, h⟩ := He.ba h
  obtain ⟨h4, h⟩ := He.ba h
  obtain ⟨h5, h⟩ := He.ba h
  obtain ⟨h6, h⟩ := He.ba h
  obtain ⟨h7, h⟩ := He.ba h
  obtain ⟨h8, h⟩ := He.ba h
  obtain ⟨h9, h10⟩ := He.ba h
  exact ⟨⟨He.eqO_ok h1, He.eqO_ok h2, of_decide_eq_true h3, h4, He.eqO_ok h5, He.eqO_ok h6, of_decide_eq_true h7, of_decide_eq_true h8⟩, of_decide_eq_true h9, of_decide_eq_true h10⟩
def xmB (K : PySem.W.Frag) (xs : List Str) (c : Str) : Bool := xs.all fun c' => decide (PySem.W.exmOne K (.ref (He.ga K c')) (.ref (He.ga K c)) = some (decide (c' = c)))
theorem xmB_ok {K : PySem.W.Frag} {xs : List Str} {c : Str} (h : xmB K xs c = true) : ∀ c' ∈ xs, PySem.W.exmOne K (.ref (He.ga K c')) (.ref (He.ga K c)) = some (decide (c' = c)) := fun c' hc => of_decide_eq_true (List.all_eq_true.mp h c' hc)
def xcB (K : PySem.W.Frag) (c : Str) : Bool := PySem.W.excIn K (He.ga K c) PySem.HandSPX.veTail "ValueError.__new__" && (PySem.W.keepIn K (.ref (He.ga K c)) && (decide (PySem.W.subIn K (.ref (He.ga K c)) (.type "BaseException") = some true) && decide (PySem.W.typeIn K (.ref (He.ga K c)) = some (.type "type"))))
theorem xcB_ok {K : PySem.W.Frag} {mg : Str → Option Value} {c : Str} (g : mg c = some (.ref (He.ga K c))) (h : xcB K c = true) : XcF K mg c := by
  obtain ⟨h1, h⟩ := He.ba h
  obtain ⟨h2, h⟩ := He.ba h
  obtain ⟨h3, h4⟩ := He.ba h
  exact ⟨h1, g, h2, of_decide_eq_true h3, of_decide_eq_true h4⟩
def clsAt : Stmt → Nat → Stmt
  | .ClassDef (body := b) .., i => b.getD i (.Pass ⟨0, 0, 0, 0⟩)
  | s, _ => s
end AH
namespace AH
open PySem PySem.Spec PyProof.Rows L2
/-! ### own exceptions with fields: the class over a built-in base -/
structure XB (B newId initId : String) (bmB : List Value) : Prop where
  eb : ExcBaseFacts B newId initId bmB
  sf : StoreFacts B bmB "object.__setattr__" "object"
  kx : PySem.W.KxsFacts B initId
  al : ∀ K : PySem.W.Frag, PySem.W.alongIn K "__init__" bmB = some (some (.builtin initId))
abbrev lT : List Value := [.type "LookupError", .type "Exception", .type "BaseException", .type "object"]
theorem xb_L : XB "LookupError" "LookupError.__new__" "LookupError.__init__" lT := ⟨F.excBase_LookupError, F.store_LookupError, PySem.W.kxs_LookupError, fun K => by kernel_rfl⟩
/-- what the text's heap says of such a class; fI its __init__ -/
structure XK1 (K : PySem.W.Frag) (C : Addr) (bmB : List Value) (newId : String) : Prop where
  q : PySem.W.excInitIn K C bmB newId = true
  ov : PySem.W.excOver K C bmB = true
  hd : PySem.W.hasDictIn K C = true
  sa : PySem.W.findIn K (.ref C) "__setattr__" = some (some (.builtin "object.__setattr__"))
  exC : PySem.W.subIn K (.ref C) (.type "BaseException") = some true
  tyC : PySem.W.typeIn K (.ref C) = some (.type "type")
  kC : PySem.W.keepIn K (.ref C) = true
section
variable {prog : Program} {w : World} {A : Around} {E : Value → Shared → Prop} {R : Result → Shared → Prop} {hp : Heap} {g : Array GenState} {d : Drawn} {t : Nat} {os : OsState}
variable {B newId initId : String} {bmB : List Value} {K : PySem.W.Frag} {C x t1 : Addr} {name : Str} {tk : Tok} {v : Value}
/-- the first field -/
theorem xsa_new (XF : XB B newId initId bmB) (T : XK1 K C bmB newId) (X : K.In hp) (hx : hp.get? x = some (PySem.W.excObj C t1 none .none)) (ht : PySem.W.takerIn K C name = some none)
    (hq : ∀ h' tk' dx, (∀ b o, b ≠ x → hp.get? b = some o → h'.get? b = some o) → hp.objs.size ≤ dx → dx ≠ x → h'.get? x = some (PySem.W.excObj C t1 (some dx) .none) →
      h'.Ns1 dx (fun y => if y = name then some v else none) → R (.ok (.ret .none)) ⟨h', g, d, tk', os⟩) :
    codeAny (model prog w) A (.call (.builtin "object.__setattr__") ⟨[.ref x, .str name tk, v], []⟩) R ⟨hp, g, d, t, os⟩ := by
  have lx : x < hp.objs.size := Heap.lt_size hx
  obtain ⟨cd, hc, hd'⟩ := PySem.W.any_some T.hd
  refine PySem.W.osa_openX (od := none) XF.sf X ⟨hx, rfl, rfl, trivial⟩ T.ov ht fun b => ?_
  refine wpAny_bind (wpAny_pure (wpAny_bind (PySem.W.instanceDict_exc hx (PySem.W.looks_clsIn X hc) hd' ?_)))
  show wpAny _ _ (Builtin.ObjectAttr.storeInDict hp.objs.size (.str name tk) name v) _ _ _
  have hx1 : (hp.push (PySem.W.dictOf [] 0)).get? x = some (PySem.W.excObj C t1 none .none) := Heap.get?_push_of_some _ hx
  refine PySem.HandSPX.store_in_new ⟨_, #[], _, (Heap.get?_update_ne _ _ _ _ (Nat.ne_of_gt lx)).trans (Heap.get?_push_at rfl rfl), rfl, fun e he => absurd he (by simp), fun _ => rfl⟩ fun h' tk' hn' hs => ?_
  refine hq h' tk' hp.objs.size (fun b o hb ho => ?_) (Nat.le_refl _) (Nat.ne_of_gt lx) ?_ hn'
  · exact (hs.2 b (Nat.ne_of_lt (Heap.lt_size ho))).trans ((Heap.get?_update_ne _ _ _ _ hb).trans (Heap.get?_push_of_some _ ho))
  · exact (hs.2 x (Nat.ne_of_lt lx)).trans (Heap.get?_update_self _ hx1 rfl)
/-- a further field -/
theorem xsa_old {dx : Addr} {m0 : Str → Option Value} {nl : List Str} (XF : XB B newId initId bmB) (T : XK1 K C bmB newId) (X : K.In hp) (hx : hp.get? x = some (PySem.W.excObj C t1 (some dx) .none)) (hns : hp.Ns1 dx m0) (hw : Within m0 nl) (hz : nl.length ≤ 1000) (ht : PySem.W.takerIn K C name = some none)
    (hq : ∀ h' tk', (∀ b o, b ≠ dx → hp.get? b = some o → h'.get? b = some o) → h'.Ns1 dx (fun y => if y = name then some v else m0 y) → R (.ok (.ret .none)) ⟨h', g, d, tk', os⟩) :
    codeAny (model prog w) A (.call (.builtin "object.__setattr__") ⟨[.ref x, .str name tk, v], []⟩) R ⟨hp, g, d, t, os⟩ := by
  obtain ⟨oD, _, _, hoD, _, _⟩ := hns.count hw
  obtain ⟨cd, hc, hd'⟩ := PySem.W.any_some T.hd
  refine PySem.W.osa_openX (od := some oD) XF.sf X ⟨hx, rfl, rfl, hoD⟩ T.ov ht fun b => ?_
  refine wpAny_bind (wpAny_pure (wpAny_bind (wpAny_bind (wpAny_loadPart hx (wpAny_bind ((PySem.W.looks_clsIn X hc).here ?_))))))
  rw [hd']
  refine wpAny_pure (a := some dx) ?_
  exact PySem.OEX.store_in_old hns hw hz fun h' tk' hn' hs => hq h' tk' (fun b o hb ho => (hs.2 b hb).trans ho) hn'
end
section
variable {X : Cx} {pins : List (Addr × Obj)} {σ : L2.St} {H : Hp} {s : Shared} {a C dx : Addr} {f : Str} {y : V} {u : Value} {fs : List (Str × V)} {Q : Unit → Shared → Prop} {E : Value → Shared → Prop} {A : Around}
variable {B newId initId : String} {bmB : List Value}
theorem xst_new (XF : XB B newId initId bmB) (T : XK1 X.K C bmB newId) (I : Inv X pins σ H s) (e : H a = some (exo a C none)) (hno : PySem.W.takerIn X.K C f = some none) (ry : RelV y u)
    (h : ∀ dx s', H dx = none → dx ≠ a → Inv X pins σ (upd (upd H dx (exd dx [(f, y)])) a (exo a C (some dx))) s' → Q () s') : wpAny (model X.prog X.w) A (setAttr (.ref a) f u) Q E s := by
  obtain ⟨t1, ho⟩ := exo_at I.hok e
  obtain ⟨hp, g, d, t, os⟩ := s
  refine PySem.W.set_plain I.kIn (od := none) ⟨ho, rfl, rfl, trivial⟩ T.sa (xsa_new XF T I.kIn ho hno fun h' tk' dx k dn dne hx hn => ?_)
  have hnd : H dx = none := I.hok.fresh dn
  have nd : ∀ {b : Addr} {o : Obj}, hp.get? b = some o → b ≠ dx := fun {b o} q => Nat.ne_of_lt (Nat.lt_of_lt_of_le (Heap.lt_size q) dn)
  have na : ∀ {b : Addr}, H b = none → b ≠ a := fun {b} n z => by
    rw [z, e] at n
    cases n
  have Un1 : Un X.fs [] H (upd (upd H dx (exd dx [(f, y)])) a (exo a C (some dx))) hp h' := {
    keep := fun b o q n _ _ => k b o (na n) q
    slot := fun b o q n _ _ => ⟨o.slots, k b o (na n) q⟩
    free := fun b o q n _ => by rw [upd_ne (na n), upd_ne (nd q)]; exact n
    there := fun b o q _ => by
      by_cases hb : b = a
      · exact ⟨_, by rw [hb]; exact hx⟩
      · exact ⟨o, k b o hb q⟩
    tups := fun b xs q => by rw [upd_ne (at_ne e q exo_tup), upd_ne (ne_of_none q hnd)]; exact q
    frzs := fun b o v q => by rw [upd_ne (at_ne e q exo_frz), upd_ne (ne_of_none q hnd)]; exact q
    tbls := fun b ps q => ⟨#[], by rw [upd_ne (at_ne e q exo_tbl), upd_ne (ne_of_none q hnd), q]; simp⟩ }
  refine h dx _ hnd dne (I.un (t' := tk') Un1 fun b o q => ?_)
  by_cases hb : b = a
  · subst hb
    rw [upd_same] at q
    cases q
    exact exo_ok hx
  · rw [upd_ne hb] at q
    by_cases hd : b = dx
    · subst hd
      rw [upd_same] at q
      cases q
      exact exd_ok hn (relO_put (fs := []) ry fun g => True.intro)
    · rw [upd_ne hd] at q
      exact (I.hok b o q).stay (fun c v hc z => k c v (by
          rcases hc with hc | hc
          · rw [hc]
            exact hb
          · exact at_ne e hc exo_own) z)
        (fun c hc => by rw [upd_ne (at_ne e hc exo_own), upd_ne (ne_of_none hc hnd)]; exact hc) (fun c xs hc => by rw [upd_ne (at_ne e hc exo_tup), upd_ne (ne_of_none hc hnd)]; exact hc)
theorem xst_old (XF : XB B newId initId bmB) (T : XK1 X.K C bmB newId) (I : Inv X pins σ H s) (e : H a = some (exo a C (some dx))) (ed : H dx = some (exd dx fs)) (hl : fs.length ≤ 900) (hno : PySem.W.takerIn X.K C f = some none) (ry : RelV y u)
    (h : ∀ s', Inv X pins σ (upd H dx (exd dx ((f, y) :: fs))) s' → Q () s') : wpAny (model X.prog X.w) A (setAttr (.ref a) f u) Q E s := by
  obtain ⟨t1, ho⟩ := exo_at I.hok e
  obtain ⟨mA, hns, rel⟩ := exd_at I.hok ed
  have hw := within_of rel
  obtain ⟨hp, g, d, t, os⟩ := s
  obtain ⟨oD, _, _, hoD, _, _⟩ := hns.count hw
  refine PySem.W.set_plain I.kIn (od := some oD) ⟨ho, rfl, rfl, hoD⟩ T.sa (xsa_old XF T I.kIn ho hns hw (by rw [List.length_map]; omega) hno fun h' tk' k hn => ?_)
  have hd : ∃ o, h'.get? dx = some o := by
    obtain ⟨o, _, _, e', _⟩ := hn
    exact ⟨o, e'⟩
  exact h _ (I.write (t' := tk') (x := dx) (e := dx) (o := exd dx ((f, y) :: fs)) (by rw [ed]; exact True.intro) (.inl rfl) k hd (exd_ok hn (relO_put ry rel)))
/-- the bound built-in __init__ is called -/
theorem xinit_run {u0 : Addr} {us : List Value} {Q : Value → Shared → Prop} (XF : XB B newId initId bmB) (T : XK1 X.K C bmB newId) (I : Inv X pins σ H s) (e : H a = some (exo a C none)) (hu : s.heap.get? u0 = some (PySem.W.kxs_mw initId a)) (hl : us.length ≤ sizeLine) (h : ∀ s', Inv X pins σ H s' → Q .none s') :
    wpAny (model X.prog X.w) A (call (.ref u0) us) Q E s := by
  obtain ⟨nm, N', qn, bs, bm, hdct, sn, sub, ab, col, dd, k0, k1, k2, k3, k5, hC, hT⟩ := PySem.W.excInit_of I.kIn T.q
  obtain ⟨t1, ho⟩ := exo_at I.hok e
  obtain ⟨hp, g, d, t, os⟩ := s
  refine wpAny_call (codeAny_of_tree ?_)
  show wpAny _ A.in1 (callAny (.ref u0) ⟨us, []⟩) _ _ _
  simp only [callAny]
  refine wpAny_bind (wpAny_load hu ?_)
  simp only [PySem.W.kxs_mw, show (Value.type "method-wrapper" == Value.type "method" || Value.type "method-wrapper" == Value.type "builtin_function_or_method" || Value.type "method-wrapper" == Value.type "method-wrapper") = true by decide, if_true]
  refine PySem.W.KFB.if_so (by decide) ?_
  refine wpAny_bind (PySem.W.check_bound_init XF.eb.toExcCallFacts hC ho rfl ?_)
  refine wpAny_bind (wpAny_pure (wpAny_pure ?_))
  refine ⟨PySem.plainId_quiet XF.eb.init.plain _, codeAny_builtin XF.eb.initEntry ?_⟩
  refine PySem.W.exc_init_tree (cls := .ref C) (t0 := t1) (dv := none) (c2 := .none) (c3 := .none) (b4 := .bool false) ho hl fun h' k e' t' => ?_
  have J := I.write (t' := t) (x := a) (e := a) (o := exo a C none) (by rw [e]; exact True.intro) (.inl rfl) k ⟨_, e'⟩ (exo_ok e')
  have eu : upd H a (exo a C none) = H := by
    funext b
    by_cases hb : b = a
    · rw [hb, upd_same, e]
    · rw [upd_ne hb]
  rw [eu] at J
  exact h _ J
end
end AH
namespace AH
open PySem PySem.Spec PyProof.Rows L2
/-! ### an own __init__ that says super().__init__(..) -/
/-- what stands in the text of it: f the __init__, cc the cell of __class__, cda its code -/
structure XIn (P : Program) (K : PySem.W.Frag) (mg : Str → Option Value) (C : Addr) (qual : Str) (params : Arguments) (body : List Stmt) (scope : Scope) (f : Addr) (fd : FuncData) : Prop where
  ex : ∃ (oc : Value) (od : Option Addr) (dV kV doc pm : Value) (an : Option Addr) (cda cc : Addr) (ct : Value) (osl : Array (Option Value)) (ccl : Value) (cdd : Option Addr) (vs : Array Value) (ccs : Array (Option Value)) (file : Str) (tf : Tok) (cl : Value) (cld : Option Addr) (csl : Array (Option Value)),
    dV = .none ∧ fd = PySem.W.ksFn "__init__" qual params body scope dV kV doc pm an (.ref cda) ct cc ∧ K.lookup f = some ⟨oc, od, .func fd, osl⟩ ∧ PySem.W.codeIn K (.ref cda) qual = true ∧
    K.lookup cda = some ⟨ccl, cdd, .fields vs, ccs⟩ ∧ vs[2]? = some (.str file tf) ∧ ((P.main.file : Str) == file) = true ∧ K.lookup cc = some ⟨cl, cld, .cell (some (.ref C)), csl⟩
  top : (P.main.scope.names.lookup ("super" : Str)).isSome = false
  fr : mg "super" = none
/-- .. of its class -/
structure XSu (K : PySem.W.Frag) (C : Addr) (B initId : String) : Prop where
  op : PySem.W.nsIn K cStatics "thirdparty.any" = some none
  su : PySem.W.ks_superIn K C C "__init__" = some (some (.builtin initId))
  sb : PySem.W.subIn K (.ref C) (.type B) = some true
  me : PySem.W.mroIn K C (.ref C) = some true
  cl : ∃ cd, PySem.W.clsIn K C = some cd
/-- its names -/
structure XSc (ps : List Str) (sc : Scope) : Prop where
  kind : sc.kind = .function
  co : sc.isCoroutine = false
  gen : sc.isGenerator = false
  nd : ps.Nodup
  par : ∀ x ∈ ps, sc.names.lookup x = some .local
  su : sc.names.lookup ("super" : Str) = some .globalImplicit
  cl : sc.names.lookup ("__class__" : Str) = some .free
  nc : ∀ x ∈ sc.names, x.2 ≠ .cell
  fre : ∀ x : Str, sc.names.lookup x = some .free → x = "__class__"
theorem zip_look {x : Str} {u : Value} : ∀ {ps : List Str} {us : List Value} {i : Nat}, ps.Nodup → ps[i]? = some x → us[i]? = some u → ((ps.zip us).reverse).lookup x = some u
  | [], _, _, _, h, _ => by simp at h
  | _ :: _, [], _, _, _, h => by simp at h
  | p :: ps, w :: us, 0, nd, h1, h2 => by
    simp at h1 h2
    subst h1 h2
    have nn : ((ps.zip us).reverse).lookup p = none := by
      rw [List.lookup_eq_none_iff]
      intro q hq
      have hq := (List.of_mem_zip (List.mem_reverse.mp hq)).1
      have : p ≠ q.1 := fun z => (List.nodup_cons.mp nd).1 (z ▸ hq)
      simpa using this
    rw [List.zip_cons_cons, List.reverse_cons, List.lookup_append, nn]
    simp
  | p :: ps, w :: us, i + 1, nd, h1, h2 => by
    have ih := zip_look (ps := ps) (us := us) (i := i) (List.nodup_cons.mp nd).2 (by simpa using h1) (by simpa using h2)
    rw [List.zip_cons_cons, List.reverse_cons, List.lookup_append, ih]
    rfl
def cxX (CX : CXT) (P : Program) (w : World) (K : PySem.W.Frag) (mg : Str → Option Value) (base : Heap) (N : List Str) (qual : Str) (scope : Scope) (f cda cc : Addr) (A : Around) (outer : List PySem.Env) (s : Shared) (H : Hp) (E : XK) : Cx where
  prog := P
  w := w
  K := K
  mg := mg
  base := base
  A := A.deeper (PySem.W.ksEnv qual scope s.heap.objs.size f (.ref cda) cc)
  N := N
  s_0 := s
  H_0 := H
  env := PySem.W.ksEnv qual scope s.heap.objs.size f (.ref cda) cc
  outer := outer
  stack := PySem.W.ksEnv qual scope s.heap.objs.size f (.ref cda) cc :: outer
  ex := []
  calm := true
  fn := fun _ => false
  pn := []
  xe := fun e s' => wpAny (model P w) (A.deeper (PySem.W.ksEnv qual scope s.heap.objs.size f (.ref cda) cc)) (leaving (PySem.W.ksEnv qual scope s.heap.objs.size f (.ref cda) cc) e) (fun _ s'' => CX outer H s E e s'') (fun e' s'' => CX outer H s E e' s'') s'
theorem inv_startX {CX : CXT} {P : Program} {w : World} {K : PySem.W.Frag} {mg : Str → Option Value} {base : Heap} {ps : List Str} {qual : Str} {scope : Scope} {f cda cc : Addr} {A : Around} {outer : List PySem.Env} {s : Shared} {h1 : Heap} {tk : Nat} {H : Hp} {E : XK} {us : List Value} {vs : List V} {cl : Value} {cld : Option Addr} {csl : Array (Option Value)} {C : Addr}
    (S : XSc ps scope) (hd : A.handled = none) (e0 : Env0 P w K mg base A outer s H) (hl : vs.length = ps.length) (r : Vals vs us) (hcc : K.lookup cc = some ⟨cl, cld, .cell (some (.ref C)), csl⟩)
    (hns : h1.Ns s.heap.objs.size (fun x => (ps.zip us).reverse.lookup x)) (hk : ∀ b o, s.heap.get? b = some o → h1.get? b = some o) :
    Inv (cxX CX P w K mg base ps qual scope f cda cc A outer s H E) [] (L2.start ps vs) H { s with heap := h1, toks := tk } := by
  have noA : ∀ b : Addr, b ∉ (cxX CX P w K mg base ps qual scope f cda cc A outer s H E).ex := fun b z => absurd (show b ∈ ([] : List Addr) from z) (by simp)
  have KB := e0.mod.kin
  have hcb := KB _ _ hcc
  have cel : ∀ (x : Str) (c : Addr), (PySem.W.ksEnv qual scope s.heap.objs.size f (.ref cda) cc).cells.lookup x = some c → x = "__class__" ∧ c = cc := fun x c h => by
    have h : ([("__class__", cc)] : List (Str × Addr)).lookup x = some c := h
    simp only [List.lookup] at h
    split at h
    · rename_i q
      exact ⟨by simpa using q, (Option.some.inj h).symm⟩
    · cases h
  refine ⟨⟨e0.mod, S.kind, rfl, rfl, Nat.le_refl _, fun y z c h1 h2 => ?_, fun y hy => ?_, fun y c z _ => (by cases z), fun _ => hd, Around.frames_deeper e0.frames, .inr ⟨rfl, rfl⟩, fun b z => absurd z (noA b), e0.bs, e0.bsz, fun b _ _ => noA b, fun b z => absurd z (noA b), e0.funs, e0.frf⟩,
    rfl, e0.bare, Un.kept hk, ⟨_, hns, fun i y v h1 h2 h3 => ?_⟩, fun y c h => ?_, e0.hok.fresh (Nat.le_refl _), fun y c h => ?_, fun p hp => absurd (show p ∈ ([] : List (Addr × Obj)) from hp) (by simp), e0.hok.kept hk, ?_⟩
  · exact (cel y c h1).1.trans (cel z c h2).1.symm
  · have hy : scope.names.lookup y = some .cell ∨ scope.names.lookup y = some .free := hy
    rcases hy with hy | hy
    · exact absurd rfl (S.nc _ (PySem.mem_of_lookup hy))
    · obtain rfl := S.fre y hy
      exact ⟨cc, rfl⟩
  · have hN : ps[i]? = some y := h1
    have ha : vs[i]? = some v := by
      unfold L2.start at h2
      have hi : i < vs.length := by
        obtain ⟨q, _⟩ := List.getElem?_eq_some_iff.mp hN
        omega
      rw [List.getElem?_append_left (by simpa using hi), List.getElem?_map] at h2
      cases e : vs[i]? with
      | none => rw [e] at h2; cases h2
      | some a => rw [e] at h2; cases h2; rfl
    obtain ⟨u, hu, rv⟩ := r.get ha
    exact ⟨u, rv, .inl ⟨S.par y (List.mem_of_getElem? hN), zip_look S.nd hN hu⟩⟩
  · obtain ⟨_, rfl⟩ := cel y c h
    exact ⟨_, _, hk _ _ (e0.bs _ _ hcb).1, rfl⟩
  · obtain ⟨_, rfl⟩ := cel y c h
    exact (e0.bs _ _ hcb).2
  · unfold L2.start
    show _ = ps.length
    rw [List.length_append, List.length_map, List.length_replicate]
    omega
section
variable {X : Cx} {pins : List (Addr × Obj)} {σ : L2.St} {H : Hp} {s : Shared} {B newId initId : String} {bmB : List Value} {C a : Addr} {qual : Str} {scope : Scope} {L f cda cc : Addr} {params : Arguments} {ps : List Str}
/-- super().__init__(..) -/
theorem sup_run {all : List Stmt} {e : Expr} {es : List Expr} {ta : TA} {p0 p1 p2 p3 p4 : Pos} {fd : FuncData} {ar : PySem.Arg} {oc ccl cl : Value} {od cdd cld : Option Addr} {osl ccs csl : Array (Option Value)} {vs : Array Value} {file : Str} {tf : Tok} {pl : Sem Bool} {Q : L2.St → Hp → Prop} (XF : XB B newId initId bmB) (T : XK1 X.K C bmB newId) (U : XSu X.K C B initId) (hf : X.K.lookup f = some ⟨oc, od, .func fd, osl⟩) (hp : (fd.params.posonlyargs ++ fd.params.args).head? = some ar) (har : ar.arg = "self")
    (hcode : X.K.lookup cda = some ⟨ccl, cdd, .fields vs, ccs⟩) (hvs : vs[2]? = some (.str file tf)) (hfile : ((X.prog.main.file : Str) == file) = true) (hcell : X.K.lookup cc = some ⟨cl, cld, .cell (some (.ref C)), csl⟩) (htop : (X.prog.main.scope.names.lookup ("super" : Str)).isSome = false) (hfr : X.mg "super" = none)
    (S : XSc ps scope) (hX : X.env = PySem.W.ksEnv qual scope L f (.ref cda) cc) (hN : X.N = ps) (h0 : ps[0]? = some ("self" : Str)) (I : Inv X pins σ H s) (hσ : σ[0]? = some (some (.ref a))) (ea : H a = some (exo a C none)) (ha : PA X (e :: es) ta)
    (h : ta σ H fun vs H1 => vs.length ≤ 1000 ∧ H1 a = some (exo a C none) ∧ Q σ H1)
    (he : starEach (e :: es) X.env = (false, eval e X.env) :: starEach es X.env := by rfl) (hpl : (backTo p3 (starEach es X.env)).any (·.1) = false := by rfl) 
    (hm : eval (.Call (.Attribute (.Call (.Name "super" p0) [] [] p1) "__init__" p2) (e :: es) [] p3) X.env = (do
      let ov ← attributeBase (.Call (.Name "super" p0) [] [] p1) "__init__" X.env (eval (.Call (.Name "super" p0) [] [] p1) X.env)
      standAt p2.atName
      let (f, first) ← holding [ov] (getMethod ov "__init__" pl)
      callWith p3 f first (backTo p3 (starEach (e :: es) X.env)) []) := by rfl) (hi : interactive X.env = false := by rfl) (hs : swapsWith (.Call (.Attribute (.Call (.Name "super" p0) [] [] p1) "__init__" p2) (e :: es) [] p3) none p4.line X.env = pure false := by rfl) :
    PySem.wpAt (model X.prog X.w) X.A (.func all X.env) (exec (.Expr (.Call (.Attribute (.Call (.Name "super" p0) [] [] p1) "__init__" p2) (e :: es) [] p3) p4) X.env) (fun fl s' => fl = .next ∧ ∃ H1, Inv X pins σ H1 s' ∧ H1 a = some (exo a C none) ∧ Q σ H1) X.xe s := by
  refine PySem.ks_wpAt_Expr_any (PySem.ks_wpAt_MethodCall ?_ hm) hi hs
  have X0 : X.K.In s.heap := I.kIn
  obtain ⟨m, hns, hl⟩ := I.loc
  obtain ⟨u, ru, lk⟩ := hl 0 "self" (.ref a) (by rw [hN]; exact h0) hσ (by rw [hX]; exact .inl (S.par _ (List.mem_of_getElem? h0)))
  obtain rfl : u = .ref a := ru
  have hm0 : m "self" = some (.ref a) := by
    rcases lk with ⟨_, q⟩ | ⟨q, _⟩
    · exact q
    · rw [hX] at q
      have q : scope.names.lookup ("self" : Str) = some .cell ∨ scope.names.lookup ("self" : Str) = some .free := q
      rw [S.par _ (List.mem_of_getElem? h0)] at q
      rcases q with q | q <;> cases q
  obtain ⟨cd, hcd⟩ := U.cl
  obtain ⟨oD, hD1, hD2⟩ : ∃ oD, s.heap.get? C = some oD ∧ oD.data = .cls cd := by
    unfold PySem.W.clsIn at hcd
    split at hcd
    · rename_i c d cd' sl ho
      cases hcd
      exact ⟨_, X0 _ _ ho, rfl⟩
    · cases hcd
  obtain ⟨t1, ho⟩ := exo_at I.hok ea
  have II : PySem.W.InstAt s.heap a _ C none := ⟨ho, rfl, rfl, trivial⟩
  have k1 : X.env.kindOf "super" = some .globalImplicit := by rw [hX]; exact S.su
  have k2 : X.env.kindOf "__class__" = some .free := by rw [hX]; exact S.cl
  have k3 : X.env.kindOf "self" = some .local := by rw [hX]; exact S.par _ (List.mem_of_getElem? h0)
  obtain ⟨mb, b1, b2⟩ := I.mod.blt
  refine PySem.ks_wpAt_super_base (env := X.env) k1 k2 (by decide) (by rw [hX]) (X0 _ _ hf) rfl hp (by rw [hX]) (X0 _ _ hcode) rfl hvs hfile htop ?_
  refine PySem.W.ks_loadName_global I.ok.kind k1 (Calls.loadGlobal_builtin (by rw [I.ok.glob]; exact I.mod.glob.keeps I.bk) hfr (by rw [I.ok.blt]; exact b1.keeps I.bk) ((b2 "super" (by decide)).trans (show bootBuiltins "super" = some (.type "super") by decide +kernel)) ⟨rfl, ?_⟩)
  refine wpAny_loadName_free I.ok.kind k2 (by rw [hX]; rfl) ⟨_, X0 _ _ hcell, rfl⟩ ?_
  rw [har]
  refine wpAny_loadName_local I.ok.kind k3 hns hm0 ?_
  refine PySem.ks_wpAny_isType_cls hD1 hD2 ⟨rfl, ?_⟩
  obtain ⟨hh, gs, dr, tk, os⟩ := s
  refine PySem.ks_wpAny_call_super hD1 hD2 ho rfl (fun c e => by cases e) (PySem.W.looks_mroIn X0 U.me) fun h1 e1 kp1 => ?_
  have I1 : Inv X pins σ H ⟨h1, gs, dr, tk, os⟩ := I.kept (t' := tk) kp1
  have X1 : X.K.In h1 := I1.kIn
  have II1 : PySem.W.InstAt h1 a _ C none := ⟨kp1 _ _ ho, rfl, rfl, trivial⟩
  have hsu := U.su
  unfold PySem.W.ks_superIn at hsu
  rw [hcd] at hsu
  refine PySem.W.kxs_getMethod XF.kx e1 (PySem.W.looks_opaque X1 U.op) (l₀ := cd.mro) ((PySem.W.looks_clsIn X1 hcd).andThen .now) rfl X1 hsu (II1.type.andThen (PySem.W.looks_subIn X1 U.sb)) (PySem.W.ks_ne X1 II1 hcd) (by decide) ?_
  have kp2 : ∀ b o, h1.get? b = some o → (h1.push (PySem.W.kxs_mw initId a)).get? b = some o := fun b o z => Heap.get?_push_of_some _ z
  have I2 : Inv X pins σ H ⟨h1.push (PySem.W.kxs_mw initId a), gs, dr, tk + 1, os⟩ := I1.kept (t' := tk + 1) kp2
  have hu : (h1.push (PySem.W.kxs_mw initId a)).get? h1.objs.size = some (PySem.W.kxs_mw initId a) := Heap.get?_push_at rfl rfl
  have I3 : Inv X ((h1.objs.size, PySem.W.kxs_mw initId a) :: pins) σ H ⟨h1.push (PySem.W.kxs_mw initId a), gs, dr, tk + 1, os⟩ := I2.pins_of fun p hp => by
    rcases List.mem_cons.mp hp with rfl | hp
    · exact ⟨hu, I1.hok.fresh (Nat.le_refl _), Nat.ne_of_gt I1.lt, I1.nofs (Nat.le_refl _), fun v z => by cases z⟩
    · exact I2.pin p (List.mem_append_right _ hp)
  refine PySem.W.kxs_callWith1 (i := initId) (x := a) (h₀ := hh) (L := h1.objs.size + 1) (news := [(h1.objs.size, PySem.W.kxs_mw initId a)]) (fun p hp => ?_) List.mem_cons_self ?_ he hpl
  · obtain rfl := List.mem_singleton.mp hp
    refine ⟨hu, Nat.ne_of_lt (Nat.lt_succ_self _), ?_⟩
    cases z : hh.get? h1.objs.size with
    | none => rfl
    | some o => exact absurd (Heap.lt_size (kp1 _ _ z)) (Nat.lt_irrefl _)
  refine thn (ha.run p3 _ _ σ H _ I3 h) fun us s4 ⟨vs4, H4, I4, r4, hz, e4, q⟩ => ?_
  have hu4 := (I4.pin (h1.objs.size, PySem.W.kxs_mw initId a) (List.mem_append_right _ List.mem_cons_self)).1
  refine ⟨hu4, xinit_run XF T I4 e4 hu4 (by rw [← Paired.length r4, sizeLine_eq]; omega) fun s5 I5 => ⟨rfl, H4, I5.pins_of fun p hp => I5.pin p (List.mem_append_right _ (List.mem_cons_of_mem _ hp)), e4, q⟩⟩
end
/-! ### such an __init__ as a def -/
section
variable {P : Program} {w : World} {K : PySem.W.Frag} {mg : Str → Option Value} {base : Heap} {B newId initId : String} {bmB : List Value} {C f : Addr} {qual : Str} {params : Arguments} {scope : Scope} {fd : FuncData} {ps : List Str}
def spXi (C : Addr) (n : Nat) (Z : List V → Hp → VK → Prop) : Sp := fun vs H Q _ => vs.length = n ∧ ∃ a ws, vs = .ref a :: ws ∧ H a = some (exo a C none) ∧ Z vs H Q
theorem fn_xi {CX : CXT} {e : Expr} {es : List Expr} {rest : List Stmt} {p0 p1 p2 p3 p4 : Pos} {pl : PySem.Env → Sem Bool} {ar : PySem.Arg} {Z : List V → Hp → VK → Prop} (XF : XB B newId initId bmB) (T : XK1 K C bmB newId) (U : XSu K C B initId) (S : XSc ps scope)
    (F : XIn P K mg C qual params (.Expr (.Call (.Attribute (.Call (.Name "super" p0) [] [] p1) "__init__" p2) (e :: es) [] p3) p4 :: rest) scope f fd) (hp : (params.posonlyargs ++ params.args).head? = some ar) (har : ar.arg = "self") (h0 : ps[0]? = some ("self" : Str))
    (hbody : ∀ (cda cc : Addr) (A : Around) (outer : List PySem.Env) (s : Shared) (H : Hp) (E : XK), ∃ ta t, PA (cxX CX P w K mg base ps qual scope f cda cc A outer s H E) (e :: es) ta ∧ PSs (cxX CX P w K mg base ps qual scope f cda cc A outer s H E) rest t ∧
      ∀ vs H0 Q a, vs.length = ps.length → vs[0]? = some (.ref a) → H0 a = some (exo a C none) → Z vs H0 Q → ta (L2.start ps vs) H0 fun us H1 => us.length ≤ 1000 ∧ H1 a = some (exo a C none) ∧ t { nx := fun _ H' => Q .non H', rt := Q } (L2.start ps vs) H1)
    (he : ∀ env, starEach (e :: es) env = (false, eval e env) :: starEach es env := by intro _; rfl) (hpl : ∀ env, (backTo p3 (starEach es env)).any (·.1) = false := by intro _; rfl)
    (hm : ∀ env, eval (.Call (.Attribute (.Call (.Name "super" p0) [] [] p1) "__init__" p2) (e :: es) [] p3) env = (do
      let ov ← attributeBase (.Call (.Name "super" p0) [] [] p1) "__init__" env (eval (.Call (.Name "super" p0) [] [] p1) env)
      standAt p2.atName
      let (f, first) ← holding [ov] (getMethod ov "__init__" (pl env))
      callWith p3 f first (backTo p3 (starEach (e :: es) env)) []) := by intro _; rfl) :
    FnOk P w K mg base CX 1 f fd ps (spXi C ps.length Z) := by
  refine ⟨fun vs H Q E q => q.1, fun A outer s H args us vs Q E hr e0 hb r hsp => ?_⟩
  obtain ⟨hl, a, ws, ev, ea, hz⟩ := hsp
  obtain ⟨oc, od, dV, kV, doc, pm, an, cda, cc, ct, osl, ccl, cdd, vs2, ccs, file, tf, cl, cld, csl, _, rfl, lk, hcd, lcd, hvs, hfile, lcc⟩ := F.ex
  have KX : K.In s.heap := e0.mod.kin.keeps fun b o e => (e0.bs b o e).1
  have lim : s.heap.NoLimit := e0.mod.nolimit.keeps fun b o e => (e0.bs b o e).1
  obtain ⟨ta, t, pa, pt, hq⟩ := hbody cda cc A outer s H E
  refine PySem.ks_codeAny_call_defAt hr.depth (KX _ _ lk) rfl lim (PySem.W.codeRec_of KX hcd) rfl hb S.nc (fun x hx => S.par _ (List.of_mem_zip hx).1) (fun h1 hns hk => ?_) S.co S.gen S.kind
  have I : Inv (cxX CX P w K mg base ps qual scope f cda cc A outer s H E) [] (L2.start ps vs) H { s with heap := h1, toks := s.toks + (ps.zip us).length } := inv_startX S hr.hd e0 hl r lcc hns hk
  have hσ : (L2.start ps vs)[0]? = some (some (.ref a)) := by rw [ev]; rfl
  refine PySem.ks_wpAt_execs_cons (PySem.ks_wpAt_mono (sup_run (X := cxX CX P w K mg base ps qual scope f cda cc A outer s H E) (Q := fun σ H1 => t { nx := fun _ H' => Q .non H', rt := Q } σ H1) XF T U lk hp har lcd hvs hfile lcc F.top F.fr S rfl rfl h0 I hσ ea pa ?_ (he _) (hpl _) (hm _) (hi := by unfold interactive; rw [show (cxX CX P w K mg base ps qual scope f cda cc A outer s H E).env.scope.kind = .function from S.kind]; rfl)) (fun fl s' hh => ?_) fun _ _ z => z)
  · exact hq vs H Q a hl (by rw [ev]; rfl) ea hz
  · obtain ⟨rfl, H1, I1, e1, q1⟩ := hh
    refine PySem.wpAt_of_wpAny (wpAny_mono (pt.run [] s' (L2.start ps vs) H1 _ I1 q1) (fun fl s2 hs => ?_) fun e s' hs => hs)
    have fin : ∀ {σ' : L2.St} {H' : Hp} {v : V} {u : Value}, Inv (cxX CX P w K mg base ps qual scope f cda cc A outer s H E) [] σ' H' s2 → RelV v u → Q v H' → CE outer P w H s Q u s2 :=
      fun {σ' H' v u} J rv q => ⟨v, H', J.os, J.bare, J.base, J.hok, rv, q⟩
    cases fl with
    | ret u =>
      obtain ⟨v, σ', H', J, rv, q⟩ := hs
      exact fin J rv q
    | next =>
      obtain ⟨σ', H', J, q⟩ := hs
      exact fin (v := V.non) (u := Value.none) J rfl q
    | brk =>
      obtain ⟨_, _, _, q⟩ := hs
      exact False.elim q
    | cont =>
      obtain ⟨_, _, _, q⟩ := hs
      exact False.elim q
end
end AH
namespace AH
open PySem PySem.Spec PyProof.Rows L2
/-! ### self.f = .. of an exception that is being made, as a target -/
def gXs (C : Addr) (to : TE) (f : Str) : TG := fun y σ H Q => to σ H fun x H2 => ∃ a : Addr, x = .ref a ∧
  ((H2 a = some (exo a C none) ∧ ∀ dx, H2 dx = none → dx ≠ a → Q σ (upd (upd H2 dx (exd dx [(f, y)])) a (exo a C (some dx)))) ∨
    ∃ (dx : Addr) (fs : List (Str × V)), H2 a = some (exo a C (some dx)) ∧ H2 dx = some (exd dx fs) ∧ fs.length ≤ 900 ∧ Q σ (upd H2 dx (exd dx ((f, y) :: fs))))
section
variable {X : Cx} {B newId initId : String} {bmB : List Value} {C : Addr}
theorem pg_xs {o : Expr} {to : TE} {f : Str} {pos : Pos} (XF : XB B newId initId bmB) (T : XK1 X.K C bmB newId) (hno : PySem.W.takerIn X.K C f = some none) (ho : PE X o to)
    (ha : ∀ v, assign (.Attribute o f pos) X.env v = (do
      let ov ← holding [v] (eval o X.env)
      standAt pos.atName
      holding [v, ov] (setAttr ov f v)
      release [v, ov] []) := by intro _; rfl) : PG X (.Attribute o f pos) (gXs C to f) := by
  refine ⟨fun pins s σ H v u Q I r h => ?_⟩
  rw [ha]
  refine wpAny_bind (wpAny_holding (thn (ho.run pins s σ H _ I h) fun ov s1 ⟨x, H1, I1, r1, a, ex, q⟩ => ?_))
  subst ex
  obtain rfl : ov = Value.ref a := r1
  refine wpAny_bind (wpAny_standAt (wpAny_bind (wpAny_holding ?_)))
  rcases q with ⟨ea, q⟩ | ⟨dx, fs, ea, ed, hl, q⟩
  · exact xst_new XF T I1 ea hno r fun dx s3 n ne J => wpAny_release ⟨σ, _, J, q dx n ne⟩
  · exact xst_old XF T I1 ea ed hl hno r fun s3 J => wpAny_release ⟨σ, _, J, q⟩
end
/-- what the maker of an exception promises: the given values in the fields -/
def ZX (C : Addr) (fsN : List Str) : List V → Hp → VK → Prop := fun vs H Q => ∃ a ws, vs = .ref a :: ws ∧ ∀ H' dx, (∀ b o, b ≠ a → H b = some o → H' b = some o) → H dx = none → dx ≠ a → H' a = some (exo a C (some dx)) → H' dx = some (exd dx (fsN.zip ws)) → Q .non H'
section
variable {P : Program} {w : World} {K : PySem.W.Frag} {mg : Str → Option Value} {base : Heap} {B newId initId : String} {bmB : List Value} {C f : Addr} {qual : Str} {params : Arguments} {scope : Scope} {fd : FuncData}
def xiBody1 (a : Str) (p0 p1 p2 p3 p4 q1 q2 q3 q4 q5 : Pos) : List Stmt := [
  .Expr (.Call (.Attribute (.Call (.Name "super" p0) [] [] p1) "__init__" p2) [.Name a q1] [] p3) p4,
  .Assign [.Attribute (.Name "self" q2) a q3] (.Name a q4) q5]
/-- one field -/
theorem fn_xi1 {CX : CXT} {a : Str} {p0 p1 p2 p3 p4 q1 q2 q3 q4 q5 : Pos} {ar : PySem.Arg} {body : List Stmt} {pl : PySem.Env → Sem Bool} (XF : XB B newId initId bmB) (T : XK1 K C bmB newId) (U : XSu K C B initId) (S : XSc ["self", a] scope)
    (F : XIn P K mg C qual params body scope f fd) (hb : body = xiBody1 a p0 p1 p2 p3 p4 q1 q2 q3 q4 q5) (hp : (params.posonlyargs ++ params.args).head? = some ar) (har : ar.arg = "self")
    (hm : ∀ env, eval (.Call (.Attribute (.Call (.Name "super" p0) [] [] p1) "__init__" p2) [.Name a q1] [] p3) env = (do
      let ov ← attributeBase (.Call (.Name "super" p0) [] [] p1) "__init__" env (eval (.Call (.Name "super" p0) [] [] p1) env)
      standAt p2.atName
      let (f, first) ← holding [ov] (getMethod ov "__init__" (pl env))
      callWith p3 f first (backTo p3 (starEach [.Name a q1] env)) []))
    (n1 : PySem.W.takerIn K C a = some none) (hda : (a == ("__debug__" : Str)) = false) (hca : (a == ("__classdict__" : Str)) = false) :
    FnOk P w K mg base CX 1 f fd ["self", a] (spXi C 2 (ZX C [a])) := by
  subst hb
  have v0 : Vis scope "self" := .inl (S.par _ (by simp))
  have v1 : Vis scope a := .inl (S.par _ (by simp))
  refine fn_xi XF T U S F hp har rfl (fun cda cc A outer s H E => ?_) (hm := hm)
  refine ⟨_, _, pa_cons (pe_var (i := 1) rfl v1 hda hca) pa_nil, pss_one (ps_asg (pe_var (i := 1) rfl v1 hda hca) (pg_xs XF T n1 (pe_var (i := 0) rfl v0 rfl rfl))), ?_⟩
  intro vs H0 Q x hl ev ex hz
  obtain ⟨a', ws, rfl, hz⟩ := hz
  obtain rfl : x = a' := by cases ev; rfl
  match ws, hl with
  | [y1], _ =>
    refine ⟨y1, rfl, Nat.le_of_ble_eq_true rfl, ex, y1, rfl, .ref x, rfl, x, rfl, .inl ⟨ex, fun dx hd ne => ?_⟩⟩
    show Q _ _
    refine hz _ dx (fun b' o hb ho => ?_) hd ne upd_same (by rw [upd_ne ne, upd_same]; rfl)
    have nd : b' ≠ dx := fun z => by
      rw [z, hd] at ho
      cases ho
    rw [upd_ne hb, upd_ne nd]
    exact ho
end
end AH
namespace AH
open PySem PySem.Spec PyProof.Rows L2
/-! ### C(e, ..) of such a class -/
def tMkX (C : Addr) (fsN : List Str) (ta : TA) : L2.St → Hp → L2.XK → Prop := fun σ H Q => ta σ H fun vs H1 => (vs.length = fsN.length ∧ vs.length ≤ 1000) ∧ ∀ H' d, (∀ b o, H1 b = some o → H' b = some o) → H1 d = none → H' d = some (.xd (fsN.zip vs)) → Q (.ref C) (some d) H'
section
variable {X : Cx} {B newId initId : String} {bmB : List Value} {C fI : Addr} {fd : FuncData} {ps fsN : List Str} {e : Expr} {es : List Expr} {ta : TA} {c : Str} {p pos : Pos}
theorem pmk_x (XF : XB B newId initId bmB) (T : XK1 X.K C bmB newId) (iC : PySem.W.findIn X.K (.ref C) "__init__" = some (some (.ref fI))) (tI : PySem.W.typeIn X.K (.ref fI) = some (.type "function"))
    (F1 : FnOk X.prog X.w X.K X.mg X.base CX0 1 fI fd ps (spXi C (fsN.length + 1) (ZX C fsN))) (hr : Room 2 X.A) (hb : Binds X.K fd ps []) (hg : Gl X c) (hm : X.mg c = some (.ref C)) (ha : PA X (e :: es) ta)
    (hdb : (c == ("__debug__" : Str)) = false := by decide) (he : starEach (e :: es) X.env = (false, eval e X.env) :: starEach es X.env := by rfl) (hpl : (backTo pos (starEach es X.env)).any (·.1) = false := by rfl) :
    PMk X (.Call (.Name c p) (e :: es) [] pos) (tMkX C fsN ta) := by
  intro pins s σ H Q I h
  refine wpAny_Call_Name_kw (ld_glob I hg hm ?_ hdb)
  refine PySem.W.callWith_K (h₀ := X.base) I.ok.mod.kin T.kC (thn (ha.run pos pins s σ H _ I h) fun us s1 ⟨vs, H1, I1, r1, ⟨hz1, hz⟩, q1⟩ => ⟨I1.kIn, ?_⟩) he hpl
  show wpAny _ _ (call (.ref C) us) _ _ _
  obtain ⟨nm, N', qn, bs, bm, hdct, sn, sub, ab, col, dd, k0, k1, k2, k3, k5, hC, hT⟩ := PySem.W.excInit_of I1.kIn T.q
  obtain ⟨hp, g, dr, tk, os⟩ := s1
  have hsz : hp.objs.size ≤ hp.objs.size + 1 := Nat.le_succ _
  have hn : H1 (hp.objs.size + 1) = none := I1.hok.fresh hsz
  have kk : ∀ b o, hp.get? b = some o → ((hp.push (PySem.W.kdv_tup us)).push (PySem.HandSPX.excO C hp.objs.size)).get? b = some o := fun b o e => Heap.get?_push_of_some _ (Heap.get?_push_of_some _ e)
  have hget : ((hp.push (PySem.W.kdv_tup us)).push (PySem.HandSPX.excO C hp.objs.size)).get? (hp.objs.size + 1) = some (PySem.HandSPX.excO C hp.objs.size) := by heap_get
  have I2 : Inv X pins σ (upd H1 (hp.objs.size + 1) (exo (hp.objs.size + 1) C none)) ⟨(hp.push (PySem.W.kdv_tup us)).push (PySem.HandSPX.excO C hp.objs.size), g, dr, tk, os⟩ :=
    I1.laid (t' := tk) (a := hp.objs.size + 1) (o := exo (hp.objs.size + 1) C none) (h' := (hp.push (PySem.W.kdv_tup us)).push (PySem.HandSPX.excO C hp.objs.size)) kk hsz (exo_ok hget)
  have r2 : Vals (V.ref (hp.objs.size + 1) :: (vs ++ [])) (Value.ref (hp.objs.size + 1) :: us ++ []) := .cons rfl (r1.append .nil)
  have hq : spXi C (fsN.length + 1) (ZX C fsN) (V.ref (hp.objs.size + 1) :: (vs ++ [])) (upd H1 (hp.objs.size + 1) (exo (hp.objs.size + 1) C none))
      (fun v H2 => v = .non ∧ ∃ (d : Addr) (fs : List (Str × V)), H2 (hp.objs.size + 1) = some (exo (hp.objs.size + 1) C (some d)) ∧ H2 d = some (exd d fs) ∧ H1 d = none ∧ Q (.ref C) (some d) (upd (del H2 (hp.objs.size + 1)) d (.xd fs))) (fun _ _ _ => False) := by
    rw [List.append_nil]
    refine ⟨by rw [List.length_cons, hz1], _, _, rfl, upd_same, _, _, rfl, fun H' dx k hd ne ea ed => ⟨rfl, dx, _, ea, ed, by rw [upd_ne ne] at hd; exact hd, ?_⟩⟩
    have hd1 : H1 dx = none := by rw [upd_ne ne] at hd; exact hd
    refine q1 _ dx (fun b o ho => ?_) hd1 upd_same
    have b1 : b ≠ hp.objs.size + 1 := ne_of_none ho hn
    rw [upd_ne (ne_of_none ho hd1), del_ne b1]
    exact k b o b1 (by rw [upd_ne b1]; exact ho)
  have hl : (Value.ref (hp.objs.size + 1) :: us ++ []).length = ps.length := by
    have e := r2.length
    rw [F1.len _ _ _ _ hq] at e
    exact e.symm
  have hus : us.length ≤ sizeLine := by
    rw [← Paired.length r1, sizeLine_eq]
    omega
  refine wpAny_call (PySem.HandSPX.call_own XF.eb hT hC (PySem.W.looks_findIn I1.kIn iC) (fun self => PySem.W.bind_fn I1.kIn self tI) hus
    (codeAny_mono (F1.run _ X.stack _ _ ⟨Value.ref (hp.objs.size + 1) :: us, []⟩ (Value.ref (hp.objs.size + 1) :: us ++ []) _ _ (fun _ _ _ => False) (hr.make C us []) (I2.env0.make C us []) (hb _ (Value.ref (hp.objs.size + 1) :: us) I2.kIn hl) r2 hq) fun r s' hq' => ?_))
  cases r with
  | error er => exact pass0 pins σ _ _ er s' I2 hq'
  | ok fl =>
    cases fl with
    | ret u =>
      obtain ⟨v, H2, os2, bare2, un2, hok2, rv, ev, d, fs, ea, ed, hd1, q2⟩ := hq'
      subst ev
      obtain ⟨h2, g2, d2, t2, os'⟩ := s'
      exact ⟨rv, mk_end (raises_own T.exC T.tyC) I1 hsz kk un2 hok2 os2 bare2 ea ed hd1 q2⟩
    | next => exact False.elim hq'
    | brk => exact False.elim hq'
    | cont => exact False.elim hq'
end
section
variable [TheK]
/-- what is known of an own exception class with fields -/
structure XcA (P : Program) (w : World) (K : PySem.W.Frag) (mg : Str → Option Value) (base : Heap) (c : Str) : Prop where
  ex : ∃ (B newId initId : String) (bmB : List Value) (fI : Addr) (fd : FuncData) (ps : List Str), XB B newId initId bmB ∧ XK1 K (He.ga K c) bmB newId ∧ PySem.W.findIn K (.ref (He.ga K c)) "__init__" = some (some (.ref fI)) ∧ PySem.W.typeIn K (.ref fI) = some (.type "function") ∧
    FnOk P w K mg base CX0 1 fI fd ps (spXi (He.ga K c) ((fieldsOf c).length + 1) (ZX (He.ga K c) (fieldsOf c))) ∧ Binds K fd ps []
  mg : mg c = some (.ref (He.ga K c))
def sRaiseA (c : Str) (n : Nat) (r : DL) : DS := r.bind fun xs e => if xs.length = n then .ex c xs e else .bad
theorem sd_raiseA {fl : Fl} {X : Cx} {Wx : WX} {c : Str} {e : Expr} {es : List Expr} {r : DL} {n j : Nat} {p p1 pos : Pos} (hc : X.calm = true) (tk : Takes X Wx) (hr : Room j X.A) (hx : c ∈ TheK.xs) (G : XcA X.prog X.w X.K X.mg X.base c) (hn : (fieldsOf c).length = n) (hg : Gl X c) (ha : AD X Wx (e :: es) r) (hn9 : n ≤ 9 := by decide) (hj : 2 ≤ j := by decide) (hdb : (c == ("__debug__" : Str)) = false := by decide)
    (he : starEach (e :: es) X.env = (false, eval e X.env) :: starEach es X.env := by rfl) (hpl : (backTo p1 (starEach es X.env)).any (·.1) = false := by rfl) :
    SD fl X Wx (.Raise (some (.Call (.Name c p) (e :: es) [] p1)) none pos) (sRaiseA c n r) := by
  obtain ⟨B, newId, initId, bmB, fI, fd, ps, XF, T, iC, tI, F1, hb⟩ := G.ex
  obtain ⟨ta, pa, qa⟩ := ha
  refine ⟨_, ps_raise hc tk (pmk_x XF T iC tI F1 (hr.mono hj) hb hg G.mg pa hdb he hpl), fun F O env σ H D S w => ?_⟩
  refine qa F O env σ H _ S (w.bind.imp (fun ds e1 w1 vs H1 S1 k1 p1 => ?_) XWs.xw)
  unfold Want at w1
  simp only at w1
  by_cases hl : ds.length = n
  · rw [if_pos hl] at w1
    have hv : vs.length = n := p1.len.trans hl
    refine ⟨⟨hv.trans hn.symm, by omega⟩, fun H' d k hd hxd => ?_⟩
    have ke : Ke (Jo O) H1 H' := ke_all k
    refine w1 O σ (.ref (He.ga X.K c)) (some d) H' (S1.ext k) ((KeS.of k1).trans (.of ke)) ⟨⟨rfl, hx⟩, S1.noW hd, vs, hxd, hv.trans hn.symm, p1.mono (ke_all k)⟩
  · rw [if_neg hl] at w1
    exact w1.elim
end
end AH
namespace AH
open PySem PySem.Spec PyProof.Rows L2
/-! ### the head's look at own exception classes with fields -/
structure XiD where
  c : Str
  qual : Str
  params : Arguments
  body : List Stmt
  scope : Scope
abbrev XiV : Type := Option (Str × Str × Arguments × FuncBody × Scope × Addr × List Str × Addr)
def xiA (K : PySem.W.Frag) (c : Str) : Addr := He.ma K (He.ga K c) "__init__"
def xiW (K : PySem.W.Frag) (d : XiD) : XiV := match K.lookup (xiA K d.c) with
  | some ⟨_, _, .func fd, _⟩ => some (fd.name, fd.qualname, fd.params, fd.body, fd.scope, fd.globals, fd.closure.map (·.1), fd.builtins)
  | _ => none
def XiD.val (d : XiD) : XiV := some ("__init__", d.qual, d.params, .stmts d.body, d.scope, mainGlobals, ["__class__"], builtinsNs)
def hookY (n : Nat) (ck : PySem.W.Frag → Bool) (fx : List XiD) (fa : List He.Fa) (fn : List He.DefD) : PySem.W.Hook where
  α := Bool × He.AlD × List XiV
  obs := fun s => (ck (He.frG s.heap.get? (cStatics :: He.asD s.heap.get? n)), He.obsD fa fn (He.frG s.heap.get? (cStatics :: He.asD s.heap.get? n)), fx.map (xiW (He.frG s.heap.get? (cStatics :: He.asD s.heap.get? n))))
  val := fun _ => (true, He.valD fn, fx.map XiD.val)
  says := fun _ h => ∃ K : PySem.W.Frag, K.In h ∧ He.SaysD fa fn K ∧ ck K = true ∧ fx.map (xiW K) = fx.map XiD.val
  of := fun _ _ e => ⟨_, He.frG_in, congrArg (fun z : Bool × He.AlD × List XiV => z.2.1) e, congrArg (fun z : Bool × He.AlD × List XiV => z.1) e, congrArg (fun z : Bool × He.AlD × List XiV => z.2.2) e⟩
  keeps := fun _ _ _ ⟨K, hK, c⟩ k => ⟨K, PySem.W.Frag.In.keeps hK k, c⟩
def obsY (n : Nat) (ck : PySem.W.Frag → Bool) (fx : List XiD) (fa : List He.Fa) (fn : List He.DefD) (g : Addr → Option Obj) : Bool × He.AlD × List XiV :=
  (ck (He.frG g (cStatics :: He.asD g n)), He.obsD fa fn (He.frG g (cStatics :: He.asD g n)), fx.map (xiW (He.frG g (cStatics :: He.asD g n))))
theorem obsY_eq {n : Nat} {ck : PySem.W.Frag → Bool} {fx : List XiD} {fa : List He.Fa} {fn : List He.DefD} {g : Addr → Option Obj} {s : Shared} (h : ∀ a, g a = s.heap.get? a) : obsY n ck fx fa fn g = (hookY n ck fx fa fn).obs s := by
  have e : g = s.heap.get? := funext h
  rw [e] <;> rfl
def xiFile (K : PySem.W.Frag) (file : Str) (C : Addr) (fd : FuncData) : Bool := match fd.closure, fd.code, fd.defaults with
  | [(_, cc)], .ref cda, .none => (match K.lookup cda with
      | some ⟨_, _, .fields vs, _⟩ => (match (vs[2]? : Option Value) with
          | some (.str f _) => file == f
          | _ => false)
      | _ => false) && (match K.lookup cc with
      | some ⟨_, _, .cell (some (.ref C')), _⟩ => decide (C' = C)
      | _ => false)
  | _, _, _ => false
def xiB (K : PySem.W.Frag) (file : Str) (B newId initId : String) (bmB : List Value) (d : XiD) : Bool :=
  (match K.lookup (xiA K d.c) with
  | some ⟨_, _, .func fd, _⟩ => PySem.W.codeIn K fd.code d.qual && xiFile K file (He.ga K d.c) fd
  | _ => false) &&
  ((PySem.W.excInitIn K (He.ga K d.c) bmB newId && (PySem.W.excOver K (He.ga K d.c) bmB && (PySem.W.hasDictIn K (He.ga K d.c) && (He.eqO (PySem.W.findIn K (.ref (He.ga K d.c)) "__setattr__") (some (some (.builtin "object.__setattr__"))) &&
  (decide (PySem.W.subIn K (.ref (He.ga K d.c)) (.type "BaseException") = some true) && (decide (PySem.W.typeIn K (.ref (He.ga K d.c)) = some (.type "type")) && PySem.W.keepIn K (.ref (He.ga K d.c)))))))) &&
  ((He.eqO (PySem.W.nsIn K cStatics "thirdparty.any") (some none) && (He.eqO (PySem.W.ks_superIn K (He.ga K d.c) (He.ga K d.c) "__init__") (some (some (.builtin initId))) && (decide (PySem.W.subIn K (.ref (He.ga K d.c)) (.type B) = some true) &&
  (decide (PySem.W.mroIn K (He.ga K d.c) (.ref (He.ga K d.c)) = some true) && (PySem.W.clsIn K (He.ga K d.c)).isSome)))) &&
  (((fieldsOf d.c).all fun f => He.eqO (PySem.W.takerIn K (He.ga K d.c) f) (some none)) && (He.eqO (PySem.W.findIn K (.ref (He.ga K d.c)) "__init__") (some (some (.ref (xiA K d.c)))) && decide (PySem.W.typeIn K (.ref (xiA K d.c)) = some (.type "function"))))))
structure XiO (P : Program) (K : PySem.W.Frag) (mg : Str → Option Value) (B newId initId : String) (bmB : List Value) (d : XiD) : Prop where
  x : ∃ fd, XIn P K mg (He.ga K d.c) d.qual d.params d.body d.scope (xiA K d.c) fd
  t : XK1 K (He.ga K d.c) bmB newId
  u : XSu K (He.ga K d.c) B initId
  f : ∀ f ∈ fieldsOf d.c, PySem.W.takerIn K (He.ga K d.c) f = some none
  i : PySem.W.findIn K (.ref (He.ga K d.c)) "__init__" = some (some (.ref (xiA K d.c)))
  k : PySem.W.typeIn K (.ref (xiA K d.c)) = some (.type "function")
theorem xiB_ok {P : Program} {K : PySem.W.Frag} {mg : Str → Option Value} {B newId initId : String} {bmB : List Value} {d : XiD} (h : xiB K P.main.file B newId initId bmB d = true) (e : xiW K d = d.val) (top : (P.main.scope.names.lookup ("super" : Str)).isSome = false) (fr : mg "super" = none) : XiO P K mg B newId initId bmB d := by
  unfold xiB at h
  obtain ⟨h1, h⟩ := He.ba h
  obtain ⟨h2, h⟩ := He.ba h
  obtain ⟨h3, h⟩ := He.ba h
  obtain ⟨h4, h⟩ := He.ba h
  obtain ⟨h5, h6⟩ := He.ba h
  obtain ⟨a1, h2⟩ := He.ba h2
  obtain ⟨a2, h2⟩ := He.ba h2
  obtain ⟨a3, h2⟩ := He.ba h2
  obtain ⟨a4, h2⟩ := He.ba h2
  obtain ⟨a5, h2⟩ := He.ba h2
  obtain ⟨a6, a7⟩ := He.ba h2
  obtain ⟨b1, h3⟩ := He.ba h3
  obtain ⟨b2, h3⟩ := He.ba h3
  obtain ⟨b3, h3⟩ := He.ba h3
  obtain ⟨b4, b5⟩ := He.ba h3
  refine ⟨?_, ⟨a1, a2, a3, He.eqO_ok a4, of_decide_eq_true a5, of_decide_eq_true a6, a7⟩, ⟨He.eqO_ok b1, He.eqO_ok b2, of_decide_eq_true b3, of_decide_eq_true b4, Option.isSome_iff_exists.mp b5⟩, fun f hf => He.eqO_ok (List.all_eq_true.mp h4 f hf), He.eqO_ok h5, of_decide_eq_true h6⟩
  unfold xiW at e
  cases q : K.lookup (xiA K d.c) with
  | none => rw [q] at h1; cases h1
  | some o =>
    obtain ⟨oc, od, dt, osl⟩ := o
    rw [q] at h1 e
    cases dt with
    | func fd =>
      obtain ⟨n1, n2, n3, n4, n5, n6, n7, n8, n9, n10, n11, n12, n13, n14, n15⟩ := fd
      have e2 : (some (n1, n2, n3, n4, n5, n6, n7.map (·.1), n15) : XiV) = (some ("__init__", d.qual, d.params, .stmts d.body, d.scope, mainGlobals, ["__class__"], builtinsNs) : XiV) := e
      simp only [Option.some.injEq, Prod.mk.injEq] at e2
      obtain ⟨z1, z2, z3, z4, z5, z6, z7, z8⟩ := e2
      subst z1 z2 z3 z4 z5 z6 z8
      obtain ⟨c1, c2⟩ := He.ba (show (PySem.W.codeIn K n13 d.qual && _) = true from h1)
      unfold xiFile at c2
      simp only at c2
      split at c2
      · rename_i nm cc cda
        obtain rfl : nm = "__class__" := by simpa using z7
        obtain ⟨c3, c4⟩ := He.ba c2
        split at c3
        · rename_i ccl cdd vs ccs lcd
          split at c3
          · rename_i file tf hvs
            split at c4
            · rename_i cl cld C' csl lcc
              obtain rfl := of_decide_eq_true c4
              exact ⟨_, ⟨oc, od, .none, n9, n10, n11, n12, cda, cc, n14, osl, ccl, cdd, vs, ccs, file, tf, cl, cld, csl, rfl, rfl, q, c1, lcd, hvs, c3, lcc⟩, top, fr⟩
            · cases c4
          · cases c3
        · cases c3
      · cases c2
    | _ => cases h1
theorem XIn.binds {P : Program} {K : PySem.W.Frag} {mg : Str → Option Value} {C : Addr} {qual : Str} {params : Arguments} {body : List Stmt} {scope : Scope} {f : Addr} {fd : FuncData} {ps : List Str} (F : XIn P K mg C qual params body scope f fd)
    (h : ∀ (kV doc pm : Value) (an : Option Addr) (cdv ct : Value) (cc : Addr) (us : List Value), us.length = ps.length → bindArgs (PySem.W.ksFn "__init__" qual params body scope .none kV doc pm an cdv ct cc) ⟨us, []⟩ = pure (ps.zip us)) : Binds K fd ps [] := by
  obtain ⟨oc, od, dV, kV, doc, pm, an, cda, cc, ct, osl, ccl, cdd, vs2, ccs, file, tf, cl, cld, csl, rfl, rfl, _⟩ := F.ex
  exact Binds.all fun us hl => h _ _ _ _ _ _ _ us hl
end AH
namespace AH
open PySem PySem.Spec PyProof.Rows L2
variable [TheK]
/-! ### sum of a list or a tuple -/
def dSumA : D → Rv D
  | .lst xs => (match intsL xs with
    | some ns => .ok (.int ns.sum)
    | none => .bad)
  | .tup xs => (match intsL xs with
    | some ns => .ok (.int ns.sum)
    | none => .bad)
  | _ => .bad
def rSumA (K : PySem.W.Frag) : List V → Hp → VK → Prop := fun vs H Q => ∃ (a : Addr) (ns : List Int), vs = [V.ref a] ∧ (SqL K H a (ns.map V.int) ∨ SqT K H a (ns.map V.int)) ∧ Q (.int ns.sum) H
section
variable {X : Cx} {Wx : WX} {a : Expr} {ma : DE} {p pos : Pos}
theorem cr_sumA (hc : X.calm = true) : CallR X (.builtin "sum") (rSumA X.K) := by
  intro pins s σ H vs us Q I r h
  obtain ⟨a, ns, rfl, hs | hs, q⟩ := h
  · exact cr_sum hc pins s σ H _ us Q I r ⟨a, ns, rfl, hs, q⟩
  · obtain ⟨its, rv, ht, _⟩ := I.tuple hs
    rw [Vals.ref1 r]
    have hi := rv.ints
    obtain ⟨xs, e⟩ := hi.allInts.items
    have hn : numsOf (intItems xs).toList = ns := by rw [← e]; exact hi.numsOf
    rw [nums_intItems] at hn
    rw [e] at ht
    refine PySem.W.ktm_sumG (I.ok.hd hc) ht fun h' tk t' hk => ?_
    rw [preSum_eq, List.take_of_length_le (by simp), hn]
    exact ⟨.int _, H, I.kept hk, ⟨_, rfl⟩, q⟩
theorem cb_sumA : Cb1 .s X.K (rSumA X.K) dSumA := by
  intro F O env σ H x dx dz Q S rx ef q
  unfold dSumA at ef
  split at ef
  · obtain ⟨a, vs, rfl, s, l⟩ := rx.lst'
    split at ef
    · rename_i ns h
      cases ef
      exact ⟨a, ns, rfl, .inl (by rw [← l.ints h]; exact s), q _ H S Ke.refl (.int _)⟩
    · cases ef
  · obtain ⟨a, vs, rfl, s, l⟩ := rx.tup'
    split at ef
    · rename_i ns h
      cases ef
      exact ⟨a, ns, rfl, .inr (by rw [← l.ints h]; exact s), q _ H S Ke.refl (.int _)⟩
    · cases ef
  · cases ef
theorem pd_sumA (hc : X.calm = true) (hb : Bn X "sum" (.builtin "sum")) (ha : PD .w X Wx a ma) (hs : starEach [a] X.env = (false, eval a X.env) :: starEach [] X.env := by rfl) : PD .s X Wx (.Call (.Name "sum" p) [a] [] pos) (e1 dSumA ma) := pd_b1 (cr_sumA hc) cb_sumA hb ha hs
end
end AH
namespace AH
open PySem PySem.Spec PyProof.Rows L2
variable [TheK]
/-! ### ranges that are not walked -/
section
variable {X : Cx} {Wx : WX} {a b c : Expr} {ma mb mc : DE} {p pos p2 : Pos}
/-! ### list(range(..)) -/
def lRng1 (a : DE) : DE := a.bind fun x => match x with
  | .int n => if rngOk 0 n && decide (n ≤ 100000) then M.pure (.lst (rng 0 n)) else fun _ => .bad
  | _ => fun _ => .bad
theorem repL_rng {W : Pr} {H : Hp} {l h : Int} : RepL W H (rgV l h) (rng l h) := by
  unfold rgV rng
  generalize List.range (h - l).toNat = L
  induction L with
  | nil => exact .nil
  | cons x L ih => exact .cons (.int _) ih
theorem new_rng {K : PySem.W.Frag} {F : Fm} {O : Nat → Option Addr} {env : Env} {σ : L2.St} {H : Hp} {l h : Int} {Q : VK} (S : SR K F O env σ H) (q : ∀ z H', SR K F O env σ H' → Ke (Jo O) H H' → Po .f K F O env σ H H' z (.lst (rng l h)) → Q z H') {r : Addr} (hr : H r = none) : Q (.ref r) (upd H r (.lst (rgV l h))) := new_lst S repL_rng q hr
theorem pd_listR1 (hc : X.calm = true) (hl : Bn X "list" (.type "list")) (hb' : Bn X "range" (.type "range")) (hb : PD .s X Wx b mb) (hs : starEach [b] X.env = (false, eval b X.env) :: starEach [] X.env := by rfl)
    (hs2 : starEach [.Call (.Name "range" p) [b] [] p2] X.env = (false, eval (.Call (.Name "range" p) [b] [] p2) X.env) :: starEach [] X.env := by rfl) {p3 : Pos} : PD .f X Wx (.Call (.Name "list" p3) [.Call (.Name "range" p) [b] [] p2] [] pos) (lRng1 mb) := by
  obtain ⟨tb, pb, qb⟩ := hb
  refine ⟨_, pe_listRg hc hl.gl hl.mg (prg_1 hb'.gl hb'.mg pb hs) hs2, fun F O env σ H Q S w => ?_⟩
  refine qb F O env σ H _ S (w.bind.imp (fun dy e2 w2 y H2 S2 k2 p2 => ?_) fun _ _ _ z => z)
  cases p2 with
  | int n =>
    have w2 : Want (if (rngOk 0 n && decide (n ≤ 100000)) = true then (M.pure (D.lst (rng 0 n)) : DE) else fun _ => .bad) e2 _ _ := w2
    cases c : rngOk 0 n && decide (n ≤ 100000) with
    | false => rw [c] at w2; exact w2.elim
    | true =>
      rw [c] at w2
      obtain ⟨c1, c2⟩ := He.ba c
      have c2 := of_decide_eq_true c2
      unfold rngOk at c1
      simp only [Bool.and_eq_true, decide_eq_true_eq] at c1
      refine ⟨n, rfl, ⟨by omega, by omega, by omega, by omega, by omega⟩, fun r hr => ?_⟩
      exact new_rng S2 (fun z H' S' k' p' => w2 z H' S' (k2.trans k') (p'.back k2)) hr
  | _ => exact w2.elim
end
end AH
namespace AH
open PySem PySem.Spec PyProof.Rows L2
/-! ### dict(xs) of pairs whose keys are tuples -/
def mergeT (kvs more : List (List Key × V)) : List (List Key × V) := more.foldl (fun acc kv => putK acc kv.1 kv.2) kvs
theorem length_mergeT : ∀ (more kvs : List (List Key × V)), (mergeT kvs more).length ≤ kvs.length + more.length
  | [], kvs => by simp [mergeT]
  | kv :: more, kvs => by
    have h1 := length_mergeT more (putK kvs kv.1 kv.2)
    have h2 := length_putK kvs kv.1 kv.2
    show (mergeT (putK kvs kv.1 kv.2) more).length ≤ _
    rw [List.length_cons]
    omega
theorem KT.merge {H : Hp} : ∀ {more : List (List Key × V)} {rs : List (List Key × Addr × Value)} {kvs : List (List Key × V)} {xs : List (List Key × Addr × Value)}, KT H more rs → KT H kvs xs → KT H (mergeT kvs more) (storedAllH xs rs)
  | _, _, _, _, .nil, r => r
  | _, _, _, _, .cons (a := p) (b := q) h t, r => by
    obtain ⟨e1, e2, e3⟩ := h
    show KT H (mergeT (putK _ p.1 p.2) _) (storedAllH (storedH _ q.1 q.2.1 q.2.2) _)
    rw [← e1]
    exact KT.merge t (r.put p.1 e2 e3)
section
variable {X : Cx}
theorem pairsT_of {pins : List (Addr × Obj)} {σ : L2.St} {H : Hp} {s : Shared} (I : Inv X pins σ H s) : ∀ {ps : List Addr} {kvs : List (List Key × V)}, Paired (fun p kv => ∃ b, SqT X.K H p [.ref b, kv.2] ∧ H b = some (.tup (kv.1.map kV))) ps kvs →
    ∃ xs : List (List Key × Addr × Value), KT H kvs xs ∧ xs.length = ps.length ∧ ∀ (j : Nat) (q : List Key × Addr × Value), xs[j]? = some q → ∃ p : Addr, ps[j]? = some p ∧ IsTup s.heap p #[.ref q.2.1, q.2.2]
  | _, _, .nil => ⟨[], .nil, rfl, fun j q e => by simp at e⟩
  | _, _, .cons (a := p) (b := kv) h t => by
    obtain ⟨xs, r, hl, hp⟩ := pairsT_of I t
    obtain ⟨b, h, hb⟩ := h
    obtain ⟨its, rv, ht, _⟩ := I.tuple h
    obtain ⟨u, y, ei, ru, ry⟩ := vals2 rv
    subst ei
    cases (show u = Value.ref b from ru)
    refine ⟨(kv.1, b, y) :: xs, .cons ⟨rfl, hb, ry⟩ r, by rw [List.length_cons, List.length_cons, hl], fun j q e => ?_⟩
    cases j with
    | zero =>
      have e' : (kv.1, b, y) = q := Option.some.inj e
      subst e'
      exact ⟨p, rfl, ht⟩
    | succ j =>
      obtain ⟨p', e1, e2⟩ := hp j q (by simpa using e)
      exact ⟨p', by simpa using e1, e2⟩
def rDictT (K : PySem.W.Frag) : List V → Hp → VK → Prop := fun xs H Q => ∃ (a : Addr) (ps : List Addr) (kvs : List (List Key × V)), xs = [.ref a] ∧ SqL K H a (ps.map V.ref) ∧ Paired (fun p kv => ∃ b, SqT K H p [.ref b, kv.2] ∧ H b = some (.tup (kv.1.map kV))) ps kvs ∧
    ∀ p, H p = none → Q (.ref p) (upd H p (.dT (mergeT [] kvs)))
theorem call_dictT (hcalm : X.calm = true) (hu : X.A.units + 65 < cLine) : CallR X (.type "dict") (rDictT X.K) := by
  intro pins s σ H xs us Q I r q
  obtain ⟨a, ps, kvs, ex, hq, hp, q⟩ := q
  subst ex
  obtain ⟨u, eu, rx⟩ := vals1 r
  subst eu
  cases rx
  obtain ⟨its, rv, pl, hz⟩ := I.list hq
  have ei := refs_at rv
  subst ei
  rw [List.length_map] at hz
  obtain ⟨xs, rel, hl, hpr⟩ := pairsT_of I hp
  obtain ⟨o, n, ho, hc, hd, hdat⟩ := pl
  have key : ∀ (l : List (List Key × V)) (m : List (List Key × Addr × Value)), KT H l m → ∀ h', (∀ b ob, s.heap.get? b = some ob → h'.get? b = some ob) → ∀ x ∈ m, (tupleKind (mixKind X.prog X.w)).is h' x.1 x.2.1 := by
    intro l m q h' hk
    induction q with
    | nil => intro x hx; cases hx
    | @cons p q ps qs hq t ih =>
      intro x hx
      rcases List.mem_cons.mp hx with e | hx
      · subst e
        have := key_of (I.hok.kept hk) (show H x.2.1 = some (.tup (x.1.map kV)) by rw [← hq.1]; exact hq.2.1)
        exact this
      · exact ih x hx
  refine call_dict_pairsH (knd := tupleKind (mixKind X.prog X.w)) (ps := xs) (PairArg.list a (ps.map Value.ref).toArray (fun j => ps.getD j 0) (xs.map fun q => (Value.ref q.2.1, q.2.2))) (I.ok.hd hcalm) (show X.A.in1.in1.units < cLine by show X.A.units + 1 + 1 < cLine; omega) ⟨⟨o, n, ho, hc, hd, hdat⟩, by simp [hl], fun j k v e => ?_⟩ ⟨by simp, fun i k v e => ?_⟩ (fun h' hk x hx => key kvs xs rel h' (fun b ob e => hk b ob (Nat.ne_of_lt (Heap.lt_size e)) (by simp) e) x hx) (by simp [hl]; exact hz) fun h' tk hd' k => ?_
  · rw [List.getElem?_map] at e
    cases q1 : xs[j]? with
    | none => rw [q1] at e; cases e
    | some q =>
      rw [q1] at e
      cases e
      obtain ⟨p, e1, o', h1, h2, n', h3⟩ := hpr j q q1
      have eT : ps.getD j 0 = p := by rw [List.getD_eq_getElem?_getD, e1]; rfl
      refine ⟨by simp [e1, List.getD_eq_getElem?_getD], ?_⟩
      show PairAt s.heap (ps.getD j 0) _ _
      rw [eT]
      exact .inl ⟨o', h1, h2, n', h3⟩
  · have e : (xs.map fun q => (Value.ref q.2.1, q.2.2))[i]? = some (k, v) := e
    rw [List.getElem?_map] at e
    cases q1 : xs[i]? with
    | none => rw [q1] at e; cases e
    | some q =>
      rw [q1] at e
      cases e
      exact ⟨q.1, q.2.1, rfl, rfl⟩
  · have hm : (s.heap.objs.size == sysModules) = false := beq_eq_false_iff_ne.mpr (Nat.ne_of_gt I.big)
    have hlen : (mergeT [] kvs).length ≤ sizeLine := by
      refine Nat.le_trans (length_mergeT kvs []) ?_
      rw [List.length_nil, Nat.zero_add, Paired.length rel, hl]
      exact hz
    obtain ⟨od, es, ep, g1, g2, g3, g4, _, g5⟩ := hd'
    refine ⟨.ref s.heap.objs.size, upd H s.heap.objs.size (.dT (mergeT [] kvs)), I.laid (t' := tk) (fun b ob e => k b ob (by simp) e) (Nat.le_refl _) (show ObjOk X.prog X.w _ _ _ (.dT (mergeT [] kvs)) from ⟨hlen, hm, storedAllH [] xs, (KT.merge rel .nil).keeps fun c ys ec => ?_, od, es, ep, g1, g2, g3, g4, g5⟩), rfl, q _ (I.hok.fresh (Nat.le_refl _))⟩
    rw [upd_ne (ne_of_none ec (I.hok.fresh (Nat.le_refl _)))]
    exact ec
end
section
variable [TheK] {X : Cx} {Wx : WX} {a : Expr} {ma : DE} {p pos : Pos}
def pairsD : List D → Option (List (List Key × D))
  | [] => some []
  | x :: r => (match x with
    | .tup [k, v] => (match keyD k, pairsD r with
      | some k, some r => some ((k, v) :: r)
      | _, _ => none)
    | _ => none)
def dmerge (kvs more : List (List Key × D)) : List (List Key × D) := more.foldl (fun acc kv => dput acc kv.1 kv.2) kvs
def dDictP : D → Rv D
  | .lst xs => (match pairsD xs with
    | some kvs => .ok (.dic (dmerge [] kvs))
    | none => .bad)
  | _ => .bad
theorem pairsD_rep {K : PySem.W.Frag} {W : Pr} {H : Hp} : ∀ {vs : List V} {xs : List D} {kvs : List (List Key × D)}, RepL W H vs xs → pairsD xs = some kvs →
    ∃ (ps : List Addr) (ks : List (List Key × V)), vs = ps.map V.ref ∧ Paired (fun p kv => ∃ b, SqT K H p [.ref b, kv.2] ∧ H b = some (.tup (kv.1.map kV))) ps ks ∧ RepK W H ks kvs
  | _, _, _, .nil, e => by cases e; exact ⟨[], [], rfl, .nil, .nil⟩
  | _, _, kvs, .cons (v := v) (d := d) r l, e => by
    unfold pairsD at e
    split at e
    · rename_i k y
      split at e
      · rename_i k' r' h1 h2
        cases e
        obtain ⟨ps, ks, rfl, q1, q2⟩ := pairsD_rep (K := K) l h2
        cases r with
        | tup n hh ll =>
          cases ll with | cons r1 ll => cases ll with | cons r2 ll =>
            cases ll
            obtain ⟨b, rfl, hb⟩ := keyD_rep r1 h1
            exact ⟨_ :: ps, (k', _) :: ks, rfl, .cons ⟨b, .inl (.inl hh), hb⟩ q1, .cons r2 q2⟩
      · cases e
    · cases e
theorem RepK.merge {W : Pr} {H : Hp} : ∀ {ms : List (List Key × V)} {md : List (List Key × D)} {ks : List (List Key × V)} {kvs : List (List Key × D)}, RepK W H ms md → RepK W H ks kvs → RepK W H (mergeT ks ms) (dmerge kvs md)
  | _, _, _, _, .nil, l => l
  | _, _, _, _, .cons (k := k) (v := v) (d := d) r m, l => by
    have h := RepK.merge m (l.put k r)
    exact h
theorem cb_dictP : Cb1 .fd X.K (rDictT X.K) dDictP := by
  intro F O env σ H x dx dz Q S rx ef q
  unfold dDictP at ef
  split at ef
  · obtain ⟨a, vs, rfl, s, l⟩ := rx.lst'
    split at ef
    · rename_i kvs h
      cases ef
      obtain ⟨ps, ks, rfl, q1, q2⟩ := pairsD_rep (K := X.K) l h
      exact ⟨a, ps, ks, rfl, s, q1, fun p hp => new_dic S (RepK.merge q2 .nil) q hp⟩
    · cases ef
  · cases ef
theorem pd_dictP (hc : X.calm = true) (hu : X.A.units + 65 < cLine) (hb : Bn X "dict" (.type "dict")) (ha : PD .w X Wx a ma) (hs : starEach [a] X.env = (false, eval a X.env) :: starEach [] X.env := by rfl) : PD .fd X Wx (.Call (.Name "dict" p) [a] [] pos) (e1 dDictP ma) := pd_t1 (call_dictT hc hu) cb_dictP hb ha hs
/-! ### {} -/
/-! ### d.get(k, e), d a name -/
end
end AH
namespace AH
open PySem PySem.Spec PyProof.Rows L2
/-! ### sorted(xs) of plain data that can be compared -/
def ins {α : Type} (le : α → α → Bool) (a : α) : List α → List α
  | [] => [a]
  | b :: l => if le a b then a :: b :: l else b :: ins le a l
def isort {α : Type} (le : α → α → Bool) : List α → List α
  | [] => []
  | a :: l => ins le a (isort le l)
theorem ins_mid {α : Type} {le : α → α → Bool} {a : α} : ∀ {l1 l2 : List α}, (∀ b ∈ l1, le a b = false) → (∀ b ∈ l2, le a b = true) → ins le a (l1 ++ l2) = l1 ++ a :: l2
  | [], [], _, _ => rfl
  | [], b :: l2, _, h2 => by
    show (if le a b = true then a :: b :: l2 else _) = _
    rw [if_pos (h2 b List.mem_cons_self)]; rfl
  | b :: l1, l2, h1, h2 => by
    show (if le a b = true then _ else b :: ins le a (l1 ++ l2)) = _
    rw [h1 b List.mem_cons_self, if_neg (by simp), ins_mid (fun c hc => h1 c (List.mem_cons_of_mem _ hc)) h2]
    rfl
theorem merge_isort {α : Type} {le : α → α → Bool} (tr : ∀ a b c, le a b = true → le b c = true → le a c = true) (to : ∀ a b, (le a b || le b a) = true) : ∀ l : List α, l.mergeSort le = isort le l
  | [] => by simp [isort]
  | a :: l => by
    obtain ⟨l1, l2, e1, e2, h⟩ := List.mergeSort_cons (le := le) tr to a l
    have ih := merge_isort tr to l
    have pw := List.pairwise_mergeSort (le := le) tr to (a :: l)
    rw [e1] at pw
    show _ = ins le a (isort le l)
    rw [e1, ← ih, e2, ins_mid]
    · intro b hb
      simpa using h b hb
    · intro b hb
      have := (List.pairwise_append.mp pw).2.1
      exact (List.pairwise_cons.mp this).1 b hb
theorem isort_map {α β : Type} {f : α → β} {le : β → β → Bool} : ∀ l : List α, (isort (fun a b => le (f a) (f b)) l).map f = isort le (l.map f)
  | [] => rfl
  | a :: l => by
    have key : ∀ (x : α) (m : List α), (ins (fun a b => le (f a) (f b)) x m).map f = ins le (f x) (m.map f) := by
      intro x m
      induction m with
      | nil => rfl
      | cons y m ih =>
        show (if le (f x) (f y) = true then x :: y :: m else y :: ins _ x m).map f = if le (f x) (f y) = true then f x :: f y :: m.map f else f y :: ins le (f x) (m.map f)
        split
        · rfl
        · rw [List.map_cons, ih]
    show (ins _ a (isort _ l)).map f = ins le (f a) (isort le (l.map f))
    rw [key, isort_map l]
theorem isort_mem {α : Type} {le : α → α → Bool} {x : α} : ∀ {l : List α}, x ∈ isort le l → x ∈ l := by
  have ki : ∀ (a : α) (l : List α), x ∈ ins le a l → x = a ∨ x ∈ l := by
    intro a l
    induction l with
    | nil => intro h; exact .inl (List.mem_singleton.mp h)
    | cons b l ih =>
      intro h
      unfold ins at h
      split at h
      · rcases List.mem_cons.mp h with h | h
        · exact .inl h
        · exact .inr h
      · rcases List.mem_cons.mp h with h | h
        · exact .inr (by rw [h]; exact List.mem_cons_self)
        · rcases ih h with h | h
          · exact .inl h
          · exact .inr (List.mem_cons_of_mem _ h)
  intro l
  induction l with
  | nil => intro h; exact h
  | cons a l ih =>
    intro h
    rcases ki a _ h with h | h
    · rw [h]; exact List.mem_cons_self
    · exact List.mem_cons_of_mem _ (ih h)
/-- x <= y, for data that can be compared -/
def leD (x y : D) : Bool := PySem.W.dataLe false D.toP x y
section
variable {X : Cx}
def rSortD (K : PySem.W.Frag) : List V → Hp → VK → Prop := fun vs H Q => ∃ (a : Addr) (bs : List (V × D)), vs = [V.ref a] ∧ SqL K H a (bs.map (·.1)) ∧ (∀ b ∈ bs, Dp K H b.1 b.2.toP) ∧ PySem.W.AllAlike (bs.map fun b => b.2.toP) ∧ PySem.W.Sortable (bs.map fun b => b.2.toP) ∧ (∀ b ∈ bs, b.2.toP.depth ≤ 60) ∧
  ∀ p, H p = none → Q (.ref p) (upd H p (.lst ((isort (fun x y : V × D => leD x.2 y.2) bs).map (·.1))))
theorem cr_sortD (hu : X.A.units + 65 < cLine) : CallR X (.builtin "sorted") (rSortD X.K) := by
  intro pins s σ H vs us Q I r h
  obtain ⟨a, bs, rfl, hs, hdp, hal, hso, hde, q⟩ := h
  obtain ⟨its, rv, hl, hz⟩ := I.list hs
  rw [Vals.ref1 r]
  rw [List.length_map] at hz
  have each : ∀ {bs : List (V × D)} {its : List Value}, (∀ b ∈ bs, Dp X.K H b.1 b.2.toP) → Vals (bs.map (·.1)) its → PySem.W.EachIs (fun v (b : V × D) => RelV b.1 v) its bs ∧ PySem.W.EachIs (fun v (b : V × D) => ∃ as, Reads s.heap v b.2.toP as) its bs := by
    intro bs
    induction bs with
    | nil => intro its _ rv; cases rv; exact ⟨.nil, .nil⟩
    | cons b bs ih =>
      intro its h rv
      cases rv with
      | cons r1 r2 =>
        obtain ⟨e1, e2⟩ := ih (fun c hc => h c (List.mem_cons_of_mem _ hc)) r2
        exact ⟨.cons r1 e1, .cons (Dp.reads I _ _ _ (h b List.mem_cons_self) r1) e2⟩
  obtain ⟨e1, e2⟩ := each hdp rv
  refine PySem.W.sorted_data (enc := fun b : V × D => b.2.toP) hl.isList e1 e2 hal hso hz (fun b hb => by have := hde b hb; omega) fun out ho eo => ?_
  have tl := PySem.W.sortLe_total (PyProof.Rows.listOrd PyProof.Rows.itemOrd) false fun b : V × D => PySem.W.keyToks b.2.toP
  have em : bs.mergeSort (PySem.W.dataLe false fun b : V × D => b.2.toP) = isort (fun x y : V × D => leD x.2 y.2) bs := merge_isort tl.trans (fun a b => by
    rcases tl.total a b with h | h
    · rw [h]; rfl
    · rw [h, Bool.or_true]) bs
  rw [em] at eo
  obtain ⟨c, hc⟩ := sortedAll_at s.heap its out.toArray
  have vo : ∀ {L : List (V × D)} {out : List Value}, PySem.W.EachIs (fun v (b : V × D) => RelV b.1 v) out L → Vals (L.map (·.1)) out := by
    intro L
    induction L with
    | nil => intro out e; cases e; exact .nil
    | cons b L ih => intro out e; cases e with | cons h t => exact .cons h (ih t)
  have hsz : s.heap.objs.size ≤ s.heap.objs.size + 1 := Nat.le_succ _
  refine ⟨.ref (s.heap.objs.size + 1), upd H (s.heap.objs.size + 1) (.lst ((isort (fun x y : V × D => leD x.2 y.2) bs).map (·.1))), I.laid (t' := s.toks) (fun b o e => sortedAll_old e) hsz (show ObjOk X.prog X.w _ _ _ (.lst _) from ⟨?_, out, c, vo eo, hc⟩), rfl, q _ (I.hok.fresh hsz)⟩
  rw [List.length_map, ← eo.length, ho]
  exact hz
end
section
variable [TheK] {X : Cx} {Wx : WX} {a : Expr} {ma : DE} {p pos : Pos}
def tup1 : D → Bool
  | .tup (_ :: _) => true
  | _ => false
def noTup : D → Bool
  | .tup _ => false
  | .non => false
  | _ => true
def sortOk (xs : List D) : Bool := (xs.all fun x => x.plain 40 && decide (x.toP.depth ≤ 60)) && ((xs.all fun x => xs.all fun y => PySem.W.alike x.toP y.toP) && (xs.all tup1 || xs.all noTup))
def dSortA : D → Rv D
  | .lst xs => if sortOk xs then .ok (.lst (isort leD xs)) else .bad
  | _ => .bad
theorem RepL.zip {W : Pr} {H : Hp} : ∀ {vs : List V} {xs : List D}, RepL W H vs xs → ∃ bs : List (V × D), bs.map (·.1) = vs ∧ bs.map (·.2) = xs ∧ ∀ b ∈ bs, Rep W H b.1 b.2
  | _, _, .nil => ⟨[], rfl, rfl, by simp⟩
  | _, _, .cons (v := v) (d := d) r l => by
    obtain ⟨bs, h1, h2, h3⟩ := RepL.zip l
    refine ⟨(v, d) :: bs, by rw [List.map_cons, h1], by rw [List.map_cons, h2], fun b hb => ?_⟩
    rcases List.mem_cons.mp hb with rfl | hb
    · exact r
    · exact h3 b hb
theorem RepL.unzip {W : Pr} {H : Hp} : ∀ {bs : List (V × D)}, (∀ b ∈ bs, Rep W H b.1 b.2) → RepL W H (bs.map (·.1)) (bs.map (·.2))
  | [], _ => .nil
  | b :: bs, h => .cons (h b List.mem_cons_self) (RepL.unzip fun c hc => h c (List.mem_cons_of_mem _ hc))
theorem sortOk_of {xs : List D} (h : sortOk xs = true) : (∀ x ∈ xs, x.plain 40 = true ∧ x.toP.depth ≤ 60) ∧ PySem.W.AllAlike (xs.map D.toP) ∧ PySem.W.Sortable (xs.map D.toP) := by
  obtain ⟨h1, h⟩ := He.ba h
  obtain ⟨h2, h3⟩ := He.ba h
  refine ⟨fun x hx => ?_, ?_, ?_⟩
  · obtain ⟨a, b⟩ := He.ba (List.all_eq_true.mp h1 x hx)
    exact ⟨a, of_decide_eq_true b⟩
  · intro d hd d' hd'
    obtain ⟨x, hx, rfl⟩ := List.mem_map.mp hd
    obtain ⟨y, hy, rfl⟩ := List.mem_map.mp hd'
    exact List.all_eq_true.mp (List.all_eq_true.mp h2 x hx) y hy
  · rcases Bool.or_eq_true_iff.mp h3 with h3 | h3
    · refine .inl fun d hd => ?_
      obtain ⟨x, hx, rfl⟩ := List.mem_map.mp hd
      have := List.all_eq_true.mp h3 x hx
      cases x with
      | tup xs => cases xs with
        | nil => cases this
        | cons y ys => exact ⟨y.toP, D.toPs ys, rfl⟩
      | _ => cases this
    · refine .inr fun d hd => ?_
      obtain ⟨x, hx, rfl⟩ := List.mem_map.mp hd
      have h4 := List.all_eq_true.mp h3 x hx
      have h5 := (He.ba (List.all_eq_true.mp h1 x hx)).1
      cases x with
      | tup xs => cases h4
      | non => cases h4
      | int i => exact ⟨fun z => (by cases z), fun ys z => (by cases z)⟩
      | bl i => exact ⟨fun z => (by cases z), fun ys z => (by cases z)⟩
      | str i => exact ⟨fun z => (by cases z), fun ys z => (by cases z)⟩
      | lst i => exact ⟨fun z => (by cases z), fun ys z => (by cases z)⟩
      | _ => cases h5
theorem cb_sortA : Cb1 .f X.K (rSortD X.K) dSortA := by
  intro F O env σ H x dx dz Q S rx ef q
  unfold dSortA at ef
  split at ef
  · rename_i xs
    obtain ⟨a, vs, rfl, s, l⟩ := rx.lst'
    obtain ⟨h, rfl⟩ := if_ok ef
    obtain ⟨h1, h2, h3⟩ := sortOk_of h
    obtain ⟨bs, rfl, rfl, hb⟩ := RepL.zip l
    rw [List.map_map] at h2 h3
    refine ⟨a, bs, rfl, s, fun b hb' => (hb b hb').dp (h1 b.2 (List.mem_map.mpr ⟨b, hb', rfl⟩)).1, h2, h3, fun b hb' => (h1 b.2 (List.mem_map.mpr ⟨b, hb', rfl⟩)).2, fun p hp => ?_⟩
    have e := isort_map (f := fun b : V × D => b.2) (le := leD) bs
    rw [← e] at q
    exact new_lst S (RepL.unzip fun b hb' => hb b (isort_mem hb')) q hp
  · cases ef
end
end AH
namespace AH
open PySem PySem.Spec PyProof.Rows L2
section
variable [TheK] {fl : Fl} {X : Cx} {Wx : WX} {e a b c d tg : Expr} {ma mb mc md : DE} {pos p : Pos} {st : Stmt} {rest : List Stmt} {m n : DS}
/-! ### an own dict handed back, let go -/
def sRetOd (i : Nat) : DS := fun e => match sl e i with
  | .odc kvs => .ok (.rt (.dic kvs)) e
  | _ => .bad
theorem sd_retOd {i : Nat} {x : Str} (hN : X.N[i]? = some x) (hv : Vis X.env.scope x) (hd : (x == ("__debug__" : Str)) = false := by decide) (hcd : (x == ("__classdict__" : Str)) = false := by decide) : SD .fd X Wx (.Return (some (.Name x p)) pos) (sRetOd i) := by
  refine ⟨_, ps_ret (pe_var hN hv hd hcd), fun F O env σ H D S w => ?_⟩
  unfold Want sRetOd at w
  cases q : sl env i with
  | odc kvs =>
    rw [q] at w
    have s := S.slot i
    rw [q] at s
    obtain ⟨a, vs, h1, h0, h2, h3, r⟩ := s
    have sub : ∀ b, F.P b ∨ b = a → Ow F O b ∨ H b = none := fun b z => .inl (z.elim .inl fun e => .inr ⟨i, by rw [e]; exact h1⟩)
    refine ⟨.ref a, get1_some h2, w O σ H S .refl _ ⟨a, vs, kvs, rfl, rfl, h0.1, h3, r.sub sub, fun j ys hj => ?_⟩⟩
    have s := S.slot j
    rw [hj] at s
    obtain ⟨b, us, g1, g2, g3, g4, g5⟩ := s
    exact ⟨b, us, g2, g4, g5.sub sub⟩
  | _ => rw [q] at w; exact w.elim
/-! ### xs + e, xs an own list -/
def eAddO (i : Nat) (mb : DE) : DE := (ownL i).bind fun _ => mb.bind fun y => (ownL i).bind fun xs => M.of (dAddL (.lst xs) y)
theorem pd_addO {i : Nat} {x : Str} {p1 : Pos} (hN : X.N[i]? = some x) (hv : Vis X.env.scope x) (hb : PD .s X Wx b mb) (hd : (x == ("__debug__" : Str)) = false := by decide) (hcd : (x == ("__classdict__" : Str)) = false := by decide) : PD .f X Wx (.BinOp (.Name x p1) .Add b pos) (eAddO i mb) := by
  obtain ⟨tb, pb, qb⟩ := hb
  refine ⟨_, pe_op op_cat (pe_var hN hv hd hcd) pb, fun F O env σ H Q S w => ?_⟩
  obtain ⟨xs, a, vs, h1, _, h2, h3, h4, w, _⟩ := Want.ownL S w.bind
  refine ⟨.ref a, get1_some h2, ?_⟩
  refine qb F O env σ H _ S (w.bind.imp (fun dy e2 w2 y H2 S2 k2 p2 => ?_) fun _ _ _ z => z)
  obtain ⟨xs', a', vs', g1, _, g2, g3, g4, w3, _⟩ := Want.ownL S2 w2.bind
  obtain ⟨dz, ef, q⟩ := w3.of
  rw [h1] at g1
  cases g1
  unfold dAddL at ef
  cases p2 with
  | lst n2 hh2 l2 =>
    obtain ⟨h, rfl⟩ := if_ok ef
    refine ⟨_, _, _, _, rfl, rfl, g3, hh2, by rw [g4.len, l2.len]; exact lenOk_of h, fun p hp => ?_⟩
    exact new_lst S2 (g4.app l2) (fun z H' S' k3 p3 => q z H' S' (k2.trans k3) (p3.back k2)) hp
  | _ => cases ef
/-! ### *e in a display -/
def aStar (a : DE) (r : DL) : DL := a.bind fun x => match x with
  | .lst xs => r.bind fun ys => M.pure (xs ++ ys)
  | .tup xs => r.bind fun ys => M.pure (xs ++ ys)
  | _ => fun _ => .bad
theorem ad_star {es : List Expr} {ml : DL} (ha : PD .w X Wx a ma) (hr : AD X Wx es ml) (hs : starEach (.Starred a p :: es) X.env = (true, eval a X.env) :: starEach es X.env := by rfl) : AD X Wx (.Starred a p :: es) (aStar ma ml) := by
  obtain ⟨ta, pa, qa⟩ := ha
  obtain ⟨tb, pb, qb⟩ := hr
  refine ⟨_, StX.pa_star pa pb hs, fun F O env σ H Q S w => ?_⟩
  refine qa F O env σ H _ S (w.bind.imp (fun dx e1 w1 x H1 S1 k1 p1 => ?_) fun _ _ _ z => z)
  cases dx with
  | lst xs =>
    obtain ⟨aa, vs, rfl, sq, l⟩ := RepW.lst' p1
    exact ⟨aa, vs, rfl, .inr sq, qb F O e1 σ H1 _ S1 ((Want.bind w1).imp (fun ds e2 w2 us H2 S2 k2 p2 => w2 _ H2 S2 (k1.trans k2) ((l.mj k2).app p2)) (XW.later k1))⟩
  | tup xs =>
    obtain ⟨aa, vs, rfl, sq, l⟩ := RepW.tup' p1
    exact ⟨aa, vs, rfl, .inl sq, qb F O e1 σ H1 _ S1 ((Want.bind w1).imp (fun ds e2 w2 us H2 S2 k2 p2 => w2 _ H2 S2 (k1.trans k2) ((l.mj k2).app p2)) (XW.later k1))⟩
  | _ => exact w1.elim
end
/-! ### sorted(d): its key tuples -/
section
variable {X : Cx}
theorem dt_raw {pins : List (Addr × Obj)} {σ : L2.St} {H : Hp} {s : Shared} {d : Addr} {ks : List (List Key × V)} (I : Inv X pins σ H s) (h : Rd H d (.dT ks)) : (d == sysModules) = false ∧ ks.length ≤ sizeLine ∧ ∃ (es : Array DictEntry) (ep : Nat) (xs : List (List Key × Addr × Value)), s.heap.DictRaw d es ep ∧ KT H ks xs ∧ es.size = ks.length ∧
    ∀ (i : Nat) (q : List Key × Addr × Value), xs[i]? = some q → ∃ en, es[i]? = some en ∧ en.key = .ref q.2.1 ∧ en.val = q.2.2 := by
  obtain ⟨z, hs, xs, pr, o, es, ep, ho, hx, hdt, he, hn⟩ := (show ObjOk X.prog X.w H s.heap d (.dT ks) from h.ok I.hok)
  have l1 : es.size = xs.length := size_of_entries he
  have l2 : ks.length = xs.length := Paired.length pr
  refine ⟨hs, z, es, ep, xs, ⟨o, ho, hx, hdt⟩, pr, by omega, fun i q e => ?_⟩
  have w := entry_at he i
  rw [e] at w
  exact ⟨_, w, rfl, rfl⟩
/-- a key as data -/
def kD : Key → D
  | .inl i => .int i
  | .inr s => .str s
def keyT (k : List Key) : D := .tup (k.map kD)
theorem kD_rep {W : Pr} [TheK] {H : Hp} : ∀ k : List Key, RepL W H (k.map kV) (k.map kD)
  | [] => .nil
  | .inl i :: k => .cons (.int i) (kD_rep k)
  | .inr i :: k => .cons (.str i) (kD_rep k)
def KyB (H : Hp) (b : V × D) : Prop := ∃ (a : Addr) (k : List Key), b = (.ref a, keyT k) ∧ H a = some (.tup (k.map kV))
def rSortK : List V → Hp → VK → Prop := fun vs H Q => ∃ (d : Addr) (ks : List (List Key × V)), vs = [V.ref d] ∧ Rd H d (.dT ks) ∧ PySem.W.AllAlike (ks.map fun k => (keyT k.1).toP) ∧ PySem.W.Sortable (ks.map fun k => (keyT k.1).toP) ∧ (∀ k ∈ ks, (keyT k.1).toP.depth ≤ 60) ∧
  ∀ p (bs : List (V × D)), H p = none → (bs.map (·.2)) = ks.map (fun k => keyT k.1) → (∀ b ∈ bs, KyB H b) → Q (.ref p) (upd H p (.lst ((isort (fun x y : V × D => leD x.2 y.2) bs).map (·.1))))
theorem kt_bs {H : Hp} : ∀ {ks : List (List Key × V)} {xs : List (List Key × Addr × Value)}, KT H ks xs → ∃ bs : List (V × D), bs.map (·.2) = ks.map (fun k => keyT k.1) ∧ (∀ b ∈ bs, KyB H b) ∧ bs.map (·.1) = xs.map (fun x => V.ref x.2.1)
  | _, _, .nil => ⟨[], rfl, by simp, rfl⟩
  | _, _, .cons (a := p) (b := q) h t => by
    obtain ⟨bs, h1, h2, h3⟩ := kt_bs t
    refine ⟨(.ref q.2.1, keyT p.1) :: bs, by rw [List.map_cons, List.map_cons, h1], fun b hb => ?_, by rw [List.map_cons, List.map_cons, h3]⟩
    rcases List.mem_cons.mp hb with rfl | hb
    · exact ⟨_, _, rfl, h.2.1⟩
    · exact h2 b hb
theorem collectK {prog : Program} {w : World} {A : Around} {E : Value → Shared → Prop} {s : Shared} {T : String} {r d : Addr} {n : Nat} {P : Nat → Value → Prop} {OK : Heap → Prop} {R : List Value → Shared → Prop} (K : PySem.W.KdlSrc prog w T r d n P OK) (hh : A.handled = none) (hok : OK s.heap) (hn : n ≤ sizeLine)
    (h : ∀ (h' : Heap) (tk : Nat) (acc : Array Value), s.heap.objs.size ≤ h'.objs.size → (∀ b o, s.heap.get? b = some o → h'.get? b = some o) → ItemsOf P acc n → R acc.toList { s with heap := h', toks := tk }) : wpAny (model prog w) A (collect (.ref r)) R E s := by
  have hlt := K.there _ hok
  unfold collect
  refine wpAny_bind (wpAny_runValue (codeAny_builtin entry_proto_collect' ?_)); rw [Around.under_plainId PySem.F.plain_proto_collect _]
  show wpAny _ A.in1 (newList [] >>= fun l => again (.builtin "list.__iadd__" ⟨[l, .ref r], []⟩)) _ _ s; refine wpAny_bind (wpAny_newObj_type ?_)
  refine wpAny_pure ⟨plainId_quiet PySem.F.plain_list_iadd _, codeAny_builtin entry_list_iadd' ?_⟩; rw [Around.under_plainId PySem.F.plain_list_iadd _]
  have hS₁ : (s.heap.push { cls := .type "list", data := .seq ([] : List Value).toArray }).get? s.heap.objs.size = some { cls := .type "list", data := .seq #[] } := Heap.get?_push_size _ rfl
  show wpAny _ A.in1 (Builtin.List.listExtendWith (.ref s.heap.objs.size) (.ref r) (.ref s.heap.objs.size)) _ _ _
  have key := PySem.W.kdl_extend (A := A) (s := { s with heap := s.heap.push { cls := .type "list", data := .seq ([] : List Value).toArray } }) (R := fun (q : Result) (s' : Shared) => ∃ (h' : Heap) (tk : Nat) (acc' : Array Value) (c' : Nat), q = .ok (.ret (.ref s.heap.objs.size)) ∧ s' = { s with heap := h', toks := tk } ∧
      (∀ b o, s.heap.get? b = some o → h'.get? b = some o) ∧ h'.get? s.heap.objs.size = some { cls := .type "list", dict := none, data := .seq acc' c', slots := #[] } ∧ ItemsOf P acc' n) K hh (K.keep _ _ hok fun b _ o e => Heap.get?_push_of_some _ e) s.heap.objs.size (Nat.ne_of_gt hlt.1) (Nat.ne_of_gt hlt.2) (.ref s.heap.objs.size) 0 hS₁
    (fun h' tk acc' c' hk hS' hacc => ⟨h', tk, acc', c', rfl, rfl, fun b o e => hk b o (Nat.ne_of_lt (Heap.lt_size e)) (Heap.get?_push_of_some _ e), hS', hacc⟩) hn
  have fin : ∀ (h' : Heap) (tk : Nat) (acc' : Array Value) (c' : Nat), (∀ b o, s.heap.get? b = some o → h'.get? b = some o) → h'.get? s.heap.objs.size = some { cls := .type "list", dict := none, data := .seq acc' c', slots := #[] } → ItemsOf P acc' n → wpAny (model prog w) A (load s.heap.objs.size >>= fun o => match o.data with | .seq items _ => pure items.toList | _ => unsupported "internal:collect") R E { s with heap := h', toks := tk } := fun h' tk acc' c' hk hS' hacc =>
    wpAny_bind (wpAny_load hS' (wpAny_pure (h h' tk acc' (Nat.le_of_lt (Heap.lt_size hS')) hk hacc)))
  refine wpAny_mono key (fun fn s' x => ?_) fun e s' x => ?_
  · cases fn with
    | done f =>
      obtain ⟨h', tk, acc', c', e, rfl, hk, hS', hacc⟩ := x; cases e
      exact fin h' tk acc' c' hk hS' hacc
    | again c₁ =>
      refine ⟨x.1, codeAny_mono x.2 fun q s₂ y => ?_⟩
      obtain ⟨h', tk, acc', c', rfl, rfl, hk, hS', hacc⟩ := y
      exact fin h' tk acc' c' hk hS' hacc
  · obtain ⟨_, _, _, _, e', _⟩ := x; cases e'
theorem key_reads {pins : List (Addr × Obj)} {σ : L2.St} {H : Hp} {s : Shared} (I : Inv X pins σ H s) {a : Addr} {k : List Key} {u : Value} (h : H a = some (.tup (k.map kV))) (r : RelV (.ref a) u) : Reads s.heap u (keyT k).toP [] := by
  cases r
  obtain ⟨its, rv, ⟨o, ho, hc, n, hd⟩, _⟩ := I.tuple (SqT.of h)
  have go : ∀ (k : List Key) (its : List Value), Vals (k.map kV) its → ReadsAll s.heap its (D.toPs (k.map kD)) [] := by
    intro k
    induction k with
    | nil => intro its r; cases r; exact .nil
    | cons x k ih =>
      intro its r
      cases r with
      | cons r1 r2 => cases x with
        | inl i => obtain ⟨t, rfl⟩ := r1; exact ReadsAll.cons (as := []) (.int i t) (ih _ r2)
        | inr i => obtain ⟨t, rfl⟩ := r1; exact ReadsAll.cons (as := []) (.str i t) (ih _ r2)
  exact .tuple ho hc hd (go k its rv)
theorem cr_sortK (hc : X.calm = true) (hu : X.A.units + 65 < cLine) : CallR X (.builtin "sorted") rSortK := by
  intro pins s σ H vs us Q I r h
  obtain ⟨d, ks, rfl, hd, hal, hso, hde, q⟩ := h
  rw [Vals.ref1 r]
  obtain ⟨hs, z, es, ep, xs, raw, kt, hsz, hen⟩ := dt_raw I hd
  obtain ⟨bs, e1, e2, e3⟩ := kt_bs kt
  have hbl : bs.length = ks.length := by have := congrArg List.length e1; rwa [List.length_map, List.length_map] at this
  refine PySem.Calls.call_function_entry kind_sorted plain_sorted entry_sorted (args_sorted1 _) ?_
  unfold Builtin.«sorted»
  refine wpAny_bind (m := checkCount "sorted" 1 1 _) (wpAny_pure ?_)
  refine wpAny_bind (collectK (A := X.A.in1) (KdlSrc.rawDict hs) (I.ok.hd hc) raw (by omega) fun h' tk acc hle hk hacc => ?_)
  have hl : acc.toList.length = ks.length := by rw [Array.length_toList]; exact hacc.1.trans hsz
  have hxl : xs.length = ks.length := (Paired.length kt).symm
  have ea : acc.toList = xs.map fun x => Value.ref x.2.1 := by
    apply List.ext_getElem?
    intro j
    rw [List.getElem?_map]
    cases hj : acc.toList[j]? with
    | none =>
      have h1 := List.getElem?_eq_none_iff.mp hj
      rw [List.getElem?_eq_none (by omega)]
      rfl
    | some v =>
      have hjl := (List.getElem?_eq_some_iff.mp hj).1
      obtain ⟨hi, hv⟩ := hacc.2 j v (by rw [← Array.getElem?_toList]; exact hj)
      have hx : xs[j]? = some xs[j] := List.getElem?_eq_getElem (by omega)
      obtain ⟨en, g1, g2, g3⟩ := hen j _ hx
      rw [Array.getElem?_eq_getElem hi] at g1
      cases g1
      rw [hx, hv, g2]
      rfl
  have rv : Vals (bs.map (·.1)) acc.toList := by
    rw [e3, ea]
    have go : ∀ xs : List (List Key × Addr × Value), Vals (xs.map fun x => V.ref x.2.1) (xs.map fun x => Value.ref x.2.1) := fun xs => by
      induction xs with
      | nil => exact .nil
      | cons x xs ih => exact .cons rfl ih
    exact go xs
  refine wpAny_bind (wpAny_newList ?_ (by rw [hl]; exact z))
  generalize hh2 : h'.push (seqObj "list" acc.toList.toArray 0) = h2
  have keep : ∀ b o, s.heap.get? b = some o → h2.get? b = some o := fun b o e => by rw [← hh2]; exact Heap.get?_push_of_some _ (hk b o e)
  have at2 : h2.get? h'.objs.size = some (seqObj "list" acc.toList.toArray 0) := by rw [← hh2]; exact Heap.get?_push_size _ rfl
  have I2 : Inv X pins σ H { s with heap := h2, toks := tk } := I.kept (t' := tk) keep
  have eachV : ∀ {bs : List (V × D)} {its : List Value}, (∀ b ∈ bs, KyB H b) → Vals (bs.map (·.1)) its → PySem.W.EachIs (fun v (b : V × D) => RelV b.1 v) its bs ∧ PySem.W.EachIs (fun v (b : V × D) => ∃ as, Reads h2 v b.2.toP as ∧ h'.objs.size ∉ as) its bs := by
    intro bs
    induction bs with
    | nil => intro its _ rv; cases rv; exact ⟨.nil, .nil⟩
    | cons b bs ih =>
      intro its h rv
      cases rv with
      | cons r1 r2 =>
        obtain ⟨g1, g2⟩ := ih (fun c hc => h c (List.mem_cons_of_mem _ hc)) r2
        refine ⟨.cons r1 g1, .cons ⟨[], ?_, by simp⟩ g2⟩
        obtain ⟨a, k, rfl, ha⟩ := h b List.mem_cons_self
        exact key_reads I2 ha r1
  obtain ⟨ev, er⟩ := eachV e2 rv
  have m1 : bs.map (fun b => b.2.toP) = ks.map fun k => (keyT k.1).toP := by
    have := congrArg (List.map D.toP) e1
    rwa [List.map_map, List.map_map] at this
  have tl := PySem.W.sortLe_total (PyProof.Rows.listOrd PyProof.Rows.itemOrd) false fun b : V × D => PySem.W.keyToks b.2.toP
  have em : bs.mergeSort (PySem.W.dataLe false fun b : V × D => b.2.toP) = isort (fun x y : V × D => leD x.2 y.2) bs := merge_isort tl.trans (fun a b => by
    rcases tl.total a b with h | h
    · rw [h]; rfl
    · rw [h, Bool.or_true]) bs
  have vo : ∀ {L : List (V × D)} {out : List Value}, PySem.W.EachIs (fun v (b : V × D) => RelV b.1 v) out L → Vals (L.map (·.1)) out := by
    intro L
    induction L with
    | nil => intro out e; cases e; exact .nil
    | cons b L ih => intro out e; cases e with | cons h t => exact .cons h (ih t)
  refine wpAny_bind (wpAny_holding (PySem.W.list_sort_data (s := { s with heap := h2, toks := tk }) (enc := fun b : V × D => b.2.toP) at2 ev er (by rw [m1]; exact hal) (by rw [m1]; exact hso) (by omega) (fun b hb => ?_) (fun out ho eo => wpAny_pure ⟨_, rfl, ?_⟩)))
  · obtain ⟨a, k, rfl, ha⟩ := e2 b hb
    have hm : keyT k ∈ ks.map fun k => keyT k.1 := by rw [← e1]; exact List.mem_map.mpr ⟨_, hb, rfl⟩
    obtain ⟨k', hk', ek⟩ := List.mem_map.mp hm
    have := hde k' hk'
    show X.A.units + 1 + 1 + (keyT k).toP.depth < cLine
    rw [← ek]
    omega
  · rw [em] at eo
    obtain ⟨c, hc'⟩ := sortedHeap_at (vs := acc.toList) (out := out.toArray) at2
    refine ⟨.ref h'.objs.size, upd H h'.objs.size (.lst ((isort (fun x y : V × D => leD x.2 y.2) bs).map (·.1))), I.laid (t' := tk) (fun b o e => ?_) hle (show ObjOk X.prog X.w _ _ _ (.lst _) from ⟨?_, out, c, vo eo, hc'⟩), rfl, q _ bs (I.hok.fresh hle) e1 e2⟩
    · have hlt : b < h'.objs.size := Nat.lt_of_lt_of_le (Heap.lt_size e) hle
      have e' := keep b o e
      rw [sortedHeap_old (Nat.ne_of_lt hlt) (Heap.lt_size e')]
      exact e'
    · rw [List.length_map, ← eo.length, ho]
      omega
end
section
variable [TheK] {X : Cx} {Wx : WX} {a : Expr} {ma : DE} {p pos : Pos}
def dSortK : D → Rv D
  | .dic kvs => if sortOk (kvs.map fun k => keyT k.1) then .ok (.lst (isort leD (kvs.map fun k => keyT k.1))) else .bad
  | _ => .bad
theorem RepK.keys {W : Pr} {H : Hp} : ∀ {ks : List (List Key × V)} {kvs : List (List Key × D)}, RepK W H ks kvs → ks.map (·.1) = kvs.map (·.1)
  | _, _, .nil => rfl
  | _, _, .cons _ l => by rw [List.map_cons, List.map_cons, RepK.keys l]
theorem cb_sortK : Cb1 .f X.K rSortK dSortK := by
  intro F O env σ H x dx dz Q S rx ef q
  unfold dSortK at ef
  split at ef
  · rename_i kvs
    obtain ⟨a, ks, rfl, s, l⟩ := rx.dic'
    obtain ⟨h, rfl⟩ := if_ok ef
    obtain ⟨h1, h2, h3⟩ := sortOk_of h
    have ek : (kvs.map fun k => keyT k.1) = ks.map fun k => keyT k.1 := by
      have := congrArg (List.map keyT) l.keys
      rw [List.map_map, List.map_map] at this
      exact this.symm
    rw [ek] at h1 h2 h3 q
    rw [List.map_map] at h2 h3
    refine ⟨a, ks, rfl, s, h2, h3, fun k hk => (h1 _ (List.mem_map.mpr ⟨k, hk, rfl⟩)).2, fun p bs hp e1 e2 => ?_⟩
    have e := isort_map (f := fun b : V × D => b.2) (le := leD) bs
    rw [← e1, ← e] at q
    refine new_lst S (RepL.unzip fun b hb => ?_) q hp
    obtain ⟨a', k, rfl, ha⟩ := e2 b (isort_mem hb)
    exact .tup (fun z => S.ow_tup z ha) ha (kD_rep k)
  · cases ef
theorem pd_sortK (hc : X.calm = true) (hu : X.A.units + 65 < cLine) (hb : Bn X "sorted" (.builtin "sorted")) (ha : PD .w X Wx a ma) (hs : starEach [a] X.env = (false, eval a X.env) :: starEach [] X.env := by rfl) : PD .f X Wx (.Call (.Name "sorted" p) [a] [] pos) (e1 dSortK ma) := pd_b1 (cr_sortK hc hu) cb_sortK hb ha hs
end
end AH
namespace AH
open PySem PySem.Spec PyProof.Rows L2
variable [TheK]
/-! ### an own dict locked while an expression runs -/
def Fm.lk (F : Fm) (a : Addr) : Fm := { F with P := fun b => F.P b ∨ b = a, N := fun b => F.N b ∧ b ≠ a }
section
variable {K : PySem.W.Frag} {F : Fm} {O : Nat → Option Addr} {env e1 : Env} {σ : L2.St} {H H' : Hp} {i : Nat} {a : Addr}
end
section
variable {X : Cx} {Wx : WX} {e : Expr} {m : DE} {i : Nat}
end
end AH
namespace AH
open PySem PySem.Spec PyProof.Rows L2
/-! ### the items of a locked dict with tuple keys -/
section
variable {X : Cx} {pins : List (Addr × Obj)} {σ : L2.St} {H : Hp} {s : Shared} {d : Addr} {o : Obj}
end
section
variable {P : Program} {w : World} {K : PySem.W.Frag} {d : Addr} {o : Obj} {es : Array DictEntry} {ep : Nat}
end
section
variable {X : Cx} {tg e : Expr} {td : TE} {apos cpos : Pos}
end
section
variable [TheK] {X : Cx} {Wx : WX} {tg a : Expr} {ma : DE} {p apos cpos : Pos}
theorem RepK.get {W : Pr} {H : Hp} : ∀ {ks : List (List Key × V)} {kvs : List (List Key × D)} {i : Nat} {k : List Key} {v : V}, RepK W H ks kvs → ks[i]? = some (k, v) → ∃ d, kvs[i]? = some (k, d) ∧ Rep W H v d
  | _, _, _, _, _, .nil, e => by simp at e
  | _, _, 0, _, _, .cons r _, e => by simp at e; obtain ⟨rfl, rfl⟩ := e; exact ⟨_, rfl, r⟩
  | _, _, i + 1, k, v, .cons _ t, e => by
    obtain ⟨u, h1, h2⟩ := RepK.get (i := i) (k := k) (v := v) t (by simpa using e)
    exact ⟨u, by simpa using h1, h2⟩
/-! ### of a locked name; of a new dict -/
/-! ### a new dict comes to stay: locked; plain dicts walked -/
end
end AH
namespace AH
open PySem PySem.Spec PyProof.Rows L2
variable [TheK]
/-! ### a, b = x, y with new dicts among them -/
inductive PKd where
  | v | l | d
def parV : List (PKd × DE) → M (List D)
  | [] => M.pure []
  | (_, a) :: r => a.bind fun x => (parV r).bind fun xs => M.pure (x :: xs)
def parPutK : List (Nat × PKd) → List D → Env → R Out
  | (i, .v) :: r, x :: xs, e => if isFix (sl e i) then .bad else parPutK r xs (put e i (.val x))
  | (i, .l) :: r, .lst ys :: xs, e => if isFix (sl e i) || !decide (i < e.length) then .bad else parPutK r xs (put e i (.own ys))
  | (i, .d) :: r, .dic ys :: xs, e => if isFix (sl e i) || !decide (i < e.length) then .bad else parPutK r xs (put e i (.odc ys))
  | [], [], e => .ok .nx e
  | _, _, _ => .bad
def sParK (ts : List (Nat × PKd × DE)) : DS := (parV (ts.map (·.2))).bind fun ds => parPutK (ts.map fun t => (t.1, t.2.1)) ds
theorem parPutK_noex : ∀ (ts : List (Nat × PKd)) (ds : List D) (e : Env) c fs e2, parPutK ts ds e ≠ .ex c fs e2 := by
  intro ts
  induction ts with
  | nil => intro ds e c fs e2 h; cases ds <;> cases h
  | cons t ts ih =>
    intro ds e c fs e2 h
    obtain ⟨i, b⟩ := t
    cases ds with
    | nil => cases b <;> cases h
    | cons d ds => cases b with
      | v =>
        unfold parPutK at h
        split at h
        · cases h
        · exact ih _ _ _ _ _ h
      | l => cases d with
        | lst ys =>
          unfold parPutK at h
          split at h
          · cases h
          · exact ih _ _ _ _ _ h
        | _ => cases h
      | d => cases d with
        | dic ys =>
          unfold parPutK at h
          split at h
          · cases h
          · exact ih _ _ _ _ _ h
        | _ => cases h
inductive PRK (F : Fm) (O : Nat → Option Addr) (H : Hp) : List PKd → List V → List D → List Addr → Prop
  | nil : PRK F O H [] [] [] []
  | val {bs : List PKd} {vs : List V} {ds : List D} {ps : List Addr} {v : V} {d : D} : Rep (Ow F O) H v d → PRK F O H bs vs ds ps → PRK F O H (.v :: bs) (v :: vs) (d :: ds) ps
  | new {bs : List PKd} {vs : List V} {ds : List D} {ps : List Addr} {p : Addr} {us : List V} {ys : List D} : F.P p → F.N p → ¬ Jo O p → F.H0 p = none → p ∉ ps → H p = some (.lst us) → RepL (Ow F O) H us ys → PRK F O H bs vs ds ps → PRK F O H (.l :: bs) (.ref p :: vs) (.lst ys :: ds) (p :: ps)
  | dic {bs : List PKd} {vs : List V} {ds : List D} {ps : List Addr} {p : Addr} {us : List (List Key × V)} {ys : List (List Key × D)} : F.P p → F.N p → ¬ Jo O p → F.H0 p = none → p ∉ ps → H p = some (.dT us) → RepK (Ow F O) H us ys → PRK F O H bs vs ds ps → PRK F O H (.d :: bs) (.ref p :: vs) (.dic ys :: ds) (p :: ps)
theorem PRK.len {F : Fm} {O : Nat → Option Addr} {H : Hp} {bs : List PKd} {vs : List V} {ds : List D} {ps : List Addr} (r : PRK F O H bs vs ds ps) : vs.length = bs.length := by
  induction r with
  | nil => rfl
  | val _ _ ih => simp [ih]
  | new _ _ _ _ _ _ _ _ ih => simp [ih]
  | dic _ _ _ _ _ _ _ _ ih => simp [ih]
theorem PRK.go {F F' : Fm} {O O' : Nat → Option Addr} {H : Hp} {bs : List PKd} {vs : List V} {ds : List D} {ps : List Addr} (r : PRK F O H bs vs ds ps) (g : ∀ a, Ow F' O' a → Ow F O a) (h0 : F'.H0 = F.H0) : (∀ p ∈ ps, F.P p → F'.P p) → (∀ p ∈ ps, F.N p → F'.N p) → (∀ p ∈ ps, ¬ Jo O p → ¬ Jo O' p) → PRK F' O' H bs vs ds ps := by
  induction r with
  | nil => intro _ _ _; exact .nil
  | val r l ih => intro a b c; exact .val (r.sub fun a z => .inl (g a z)) (ih a b c)
  | new h1 h2 h3 h4 h5 h6 h7 l ih =>
    intro a b c
    exact .new (a _ List.mem_cons_self h1) (b _ List.mem_cons_self h2) (c _ List.mem_cons_self h3) (by rw [h0]; exact h4) h5 h6 (h7.sub fun a z => .inl (g a z)) (ih (fun p hp => a p (List.mem_cons_of_mem _ hp)) (fun p hp => b p (List.mem_cons_of_mem _ hp)) fun p hp => c p (List.mem_cons_of_mem _ hp))
  | dic h1 h2 h3 h4 h5 h6 h7 l ih =>
    intro a b c
    exact .dic (a _ List.mem_cons_self h1) (b _ List.mem_cons_self h2) (c _ List.mem_cons_self h3) (by rw [h0]; exact h4) h5 h6 (h7.sub fun a z => .inl (g a z)) (ih (fun p hp => a p (List.mem_cons_of_mem _ hp)) (fun p hp => b p (List.mem_cons_of_mem _ hp)) fun p hp => c p (List.mem_cons_of_mem _ hp))
theorem par_putK {K : PySem.W.Frag} {H : Hp} : ∀ {ts : List (Nat × PKd)} {F1 : Fm} {O : Nat → Option Addr} {e e2 : Env} {σ : L2.St} {vs : List V} {ds : List D} {ps : List Addr} {o : Out}, SR K F1 O e σ H → PRK F1 O H (ts.map (·.2)) vs ds ps → parPutK ts ds e = .ok o e2 →
    o = .nx ∧ ∃ O' F2, SR K F2 O' e2 (setL σ (ts.map (·.1)) vs) H ∧ (F2.ba = F1.ba ∧ F2.H0 = F1.H0 ∧ (∀ a, F1.P a → a ∉ ps → F2.P a) ∧ (∀ a, F1.N a → a ∉ ps → F2.N a)) ∧ ∀ a, Jo O' a → Jo O a ∨ a ∈ ps
  | [], F1, O, e, e2, σ, vs, ds, ps, o, S, r, h => by
    cases r
    cases h
    exact ⟨rfl, O, F1, S, ⟨rfl, rfl, fun _ z _ => z, fun _ z _ => z⟩, fun _ z => .inl z⟩
  | (i, .v) :: ts, F1, O, e, e2, σ, vs, ds, ps, o, S, r, h => by
    cases r with
    | @val _ vs' ds' _ v d r l =>
      unfold parPutK at h
      cases hf : isFix (sl e i) with
      | true => simp [hf] at h
      | false =>
        simp only [hf] at h
        obtain ⟨ho, O', F2, S2, f, j⟩ := par_putK (ts := ts) (S.setVal (i := i) r (noP_fix hf)) (l.go (fun a z => ow_setN z) rfl (fun _ _ z => z) (fun _ _ z => z) fun _ _ n z => n (jo_setN z)) h
        exact ⟨ho, O', F2, S2, f, fun a z => (j a z).elim (fun z => .inl (jo_setN z)) .inr⟩
  | (i, .l) :: ts, F1, O, e, e2, σ, vs, ds, ps, o, S, r, h => by
    cases r with
    | @new _ vs' ds' ps' p us ys h1 h2 h3 h4 h5 h6 h7 l =>
      unfold parPutK at h
      cases hf : isFix (sl e i) || !decide (i < e.length) with
      | true => simp [hf] at h
      | false =>
        simp only [hf] at h
        obtain ⟨hf1, hlen⟩ := Bool.or_eq_false_iff.mp hf
        have hl : i < e.length := by simpa using hlen
        have eF := rm_ad h1 h2
        have S' : SR K ((F1.rm p).ad p) O e σ H := by rw [eF]; exact S
        have g : ∀ a, Ow (F1.rm p) (setO O i (some p)) a → Ow F1 O a := fun a z => by
          have := ow_setS z
          rw [eF] at this
          exact this
        have S1 := S'.setNew (i := i) (s := .own ys) h3 hl ⟨p, us, setO_same, ⟨h4, fun z => z.2 rfl⟩, rfl, h6, h7.sub fun a z => .inl (g a z)⟩ (noP_fix hf1)
        obtain ⟨ho, O', F2, S2, ⟨f1, f2, f3, f4⟩, j⟩ := par_putK (ts := ts) S1 (l.go (F' := F1.rm p) (O' := setO O i (some p)) g rfl (fun q hq z => ⟨z, fun e => h5 (e ▸ hq)⟩) (fun q hq z => ⟨z, fun e => h5 (e ▸ hq)⟩) fun q hq n z => (jo_setS z).elim n fun e => h5 (e ▸ hq)) h
        refine ⟨ho, O', F2, S2, ⟨f1, f2, fun a z n => f3 a ⟨z, fun e => n (by rw [e]; exact List.mem_cons_self)⟩ fun q => n (List.mem_cons_of_mem _ q), fun a z n => f4 a ⟨z, fun e => n (by rw [e]; exact List.mem_cons_self)⟩ fun q => n (List.mem_cons_of_mem _ q)⟩, fun a z => ?_⟩
        rcases j a z with z | z
        · rcases jo_setS z with z | z
          · exact .inl z
          · exact .inr (by rw [z]; exact List.mem_cons_self)
        · exact .inr (List.mem_cons_of_mem _ z)
  | (i, .d) :: ts, F1, O, e, e2, σ, vs, ds, ps, o, S, r, h => by
    cases r with
    | @dic _ vs' ds' ps' p us ys h1 h2 h3 h4 h5 h6 h7 l =>
      unfold parPutK at h
      cases hf : isFix (sl e i) || !decide (i < e.length) with
      | true => simp [hf] at h
      | false =>
        simp only [hf] at h
        obtain ⟨hf1, hlen⟩ := Bool.or_eq_false_iff.mp hf
        have hl : i < e.length := by simpa using hlen
        have eF := rm_ad h1 h2
        have S' : SR K ((F1.rm p).ad p) O e σ H := by rw [eF]; exact S
        have g : ∀ a, Ow (F1.rm p) (setO O i (some p)) a → Ow F1 O a := fun a z => by
          have := ow_setS z
          rw [eF] at this
          exact this
        have S1 := S'.setNew (i := i) (s := .odc ys) h3 hl ⟨p, us, setO_same, ⟨h4, fun z => z.2 rfl⟩, rfl, h6, h7.sub fun a z => .inl (g a z)⟩ (noP_fix hf1)
        obtain ⟨ho, O', F2, S2, ⟨f1, f2, f3, f4⟩, j⟩ := par_putK (ts := ts) S1 (l.go (F' := F1.rm p) (O' := setO O i (some p)) g rfl (fun q hq z => ⟨z, fun e => h5 (e ▸ hq)⟩) (fun q hq z => ⟨z, fun e => h5 (e ▸ hq)⟩) fun q hq n z => (jo_setS z).elim n fun e => h5 (e ▸ hq)) h
        refine ⟨ho, O', F2, S2, ⟨f1, f2, fun a z n => f3 a ⟨z, fun e => n (by rw [e]; exact List.mem_cons_self)⟩ fun q => n (List.mem_cons_of_mem _ q), fun a z n => f4 a ⟨z, fun e => n (by rw [e]; exact List.mem_cons_self)⟩ fun q => n (List.mem_cons_of_mem _ q)⟩, fun a z => ?_⟩
        rcases j a z with z | z
        · rcases jo_setS z with z | z
          · exact .inl z
          · exact .inr (by rw [z]; exact List.mem_cons_self)
        · exact .inr (List.mem_cons_of_mem _ z)
def ParD (X : Cx) (Wx : WX) (es : List Expr) (ks : List (PKd × DE)) : Prop := ∃ t : TA, PA X es t ∧ ∀ (F : Fm) (O : Nat → Option Addr) (env : Env) (σ : L2.St) (H : Hp) (Q : List V → Hp → Prop), SR X.K F O env σ H →
  Want (parV ks) env (fun ds e1 => ∀ vs F1 H1 ps, FX F F1 H → SR X.K F1 O e1 σ H1 → Ke (Jo O) H H1 → PRK F1 O H1 (ks.map (·.1)) vs ds ps → (∀ p ∈ ps, H p = none) → Q vs H1) (XW X.K F O σ H Wx) → t σ H Q
section
variable {fl : Fl} {X : Cx} {Wx : WX} {e a b c d tg iter elt : Expr} {ma mb mc md : DE} {pos p : Pos} {st : Stmt} {es : List Expr} {ks : List (PKd × DE)}
theorem gp_nil : ParD X Wx [] [] := ⟨_, pa_nil, fun F O env σ H Q S w => w [] F H [] .refl S .refl .nil (fun _ h => by cases h)⟩
theorem gp_val (ha : PD .s X Wx e ma) (hr : ParD X Wx es ks) (hs : starEach (e :: es) X.env = (false, eval e X.env) :: starEach es X.env := by rfl) : ParD X Wx (e :: es) ((.v, ma) :: ks) := by
  obtain ⟨ta, pa, qa⟩ := ha
  obtain ⟨tr, pr, qr⟩ := hr
  refine ⟨_, pa_cons pa pr hs, fun F O env σ H Q S w => qa F O env σ H _ S ((Want.bind (m := ma) w).imp (fun d e1 w1 v H1 S1 k1 r1 => ?_) fun _ _ _ z => z)⟩
  refine qr F O e1 σ H1 _ S1 ((Want.bind w1).imp (fun xs e2 w2 vs F1 H2 ps x S2 k2 ar hq => ?_) (XW.later k1))
  exact w2 (v :: vs) F1 H2 ps (FX.refl.trans x k1.there) S2 (k1.trans k2) (.val (r1.ke k2.ow fun a z => z.elim (fun z => (x.pn a z).elim (fun z => .inl (.inl z)) .inr) fun z => .inl (.inr z)) ar) fun q h => none_back k1.there (hq q h)
theorem gp_dic (ha : PD .fd X Wx e ma) (hr : ParD X Wx es ks) (hs : starEach (e :: es) X.env = (false, eval e X.env) :: starEach es X.env := by rfl) : ParD X Wx (e :: es) ((.d, ma) :: ks) := by
  obtain ⟨ta, pa, qa⟩ := ha
  obtain ⟨tr, pr, qr⟩ := hr
  refine ⟨_, pa_cons pa pr hs, fun F O env σ H Q S w => qa F O env σ H _ S ((Want.bind (m := ma) w).imp (fun d e1 w1 v H1 S1 k1 r1 => ?_) fun _ _ _ z => z)⟩
  obtain ⟨p, us, ys, rfl, rfl, hp, hp', l, S1'⟩ := r1
  have x1 : FX F (F.ad p) H := FX.ad hp
  refine qr (F.ad p) O e1 σ H1 _ S1' ((Want.bind w1).imp (fun xs e2 w2 vs F1 H2 ps x S2 k2 ar hq => ?_) (XW.fx x1 k1))
  have nj : ¬ Jo O p := fun z => S.prot p (.inr z) hp
  exact w2 (.ref p :: vs) F1 H2 (p :: ps) (x1.trans x k1.there) S2 (k1.trans k2)
    (.dic (x.p p (.inr rfl)) (x.n p (.inr rfl)) nj (by rw [x.h0]; exact al_none S.al hp) (fun z => by have := hq p z; rw [hp'] at this; cases this) (k2.stay _ _ nj hp') (l.ke k2.ow fun a z => z.elim (fun z => (x.pn a z).elim (fun z => .inl (.inl z)) .inr) fun z => .inl (.inr z)) ar)
    fun q h => by
      rcases List.mem_cons.mp h with rfl | h
      · exact hp
      · exact none_back k1.there (hq q h)
end
end AH
namespace AH
open PySem PySem.Spec PyProof.Rows L2
variable [TheK]
/-! ### the same where a name is a cell: by way of a tuple -/
theorem PRK.ext {F : Fm} {O : Nat → Option Addr} {H H' : Hp} {bs : List PKd} {vs : List V} {ds : List D} {ps : List Addr} (r : PRK F O H bs vs ds ps) (k : ∀ a o, H a = some o → H' a = some o) : PRK F O H' bs vs ds ps := by
  induction r with
  | nil => exact .nil
  | val r l ih => exact .val (r.mono (ke_ext k)) ih
  | new h1 h2 h3 h4 h5 h6 h7 l ih => exact .new h1 h2 h3 h4 h5 (k _ _ h6) (h7.mono (ke_ext k)) ih
  | dic h1 h2 h3 h4 h5 h6 h7 l ih => exact .dic h1 h2 h3 h4 h5 (k _ _ h6) (h7.mono (ke_ext k)) ih
section
variable {fl : Fl} {X : Cx} {Wx : WX} {e a b c d tg iter elt : Expr} {ma mb mc md : DE} {pos p : Pos} {st : Stmt} {es : List Expr} {ks : List (PKd × DE)}
theorem parT_end {ts : List (Nat × PKd × DE)} {F F1 : Fm} {O : Nat → Option Addr} {env e1 : Env} {σ : L2.St} {H H1 : Hp} {D : Ends} {ds : List AH.D} {vs : List V} {ps : List Addr} {T : Addr} (S : SR X.K F O env σ H) (w1 : Want (parPutK (ts.map fun t => (t.1, t.2.1)) ds) e1 (Post fl X.K F O H D) (XWs X.K F O H Wx)) (x : FX F F1 H) (S1 : SR X.K F1 O e1 σ H1) (k1 : Ke (Jo O) H H1) (r : PRK F1 O H1 ((ts.map (·.2)).map (·.1)) vs ds ps) (hq : ∀ p ∈ ps, H p = none) (hT : H1 T = none) : D.nx (setL σ (ts.map (·.1)) vs) (upd H1 T (.tup vs)) := by
  unfold Want at w1
  cases hpp : parPutK (ts.map fun t => (t.1, t.2.1)) ds e1 with
  | bad => simp only [hpp] at w1
  | ex c fs e2 => exact absurd hpp (parPutK_noex _ _ _ _ _ _)
  | ok o e2 =>
    simp only [hpp] at w1
    have e1' : (ts.map (·.2)).map (·.1) = (ts.map fun t => (t.1, t.2.1)).map (·.2) := by rw [List.map_map, List.map_map]; rfl
    have e2' : ts.map (·.1) = (ts.map fun t => (t.1, t.2.1)).map (·.1) := by rw [List.map_map]; rfl
    rw [e1'] at r
    have kx : ∀ a o, H1 a = some o → upd H1 T (.tup vs) a = some o := new_ext hT
    obtain ⟨rfl, O', F2, S2, ⟨f1, f2, f3, f4⟩, j⟩ := par_putK (S1.ext kx) (r.ext kx) hpp
    rw [← e2'] at S2
    have ext : FX F F2 (fun _ => none) := ⟨f1.trans x.ba, f2.trans x.h0, fun a z => f3 a (x.p a z) fun q => S.prot a (.inl z) (hq a q), fun a z => f4 a (x.n a z) fun q => S.nal a z (hq a q), fun _ _ => .inr rfl, fun _ _ => .inr rfl⟩
    exact w1 O' _ _ (S2.down ext) ⟨k1.trans (ke_ext kx), fun a z => (j a z).elim .inl fun z => .inr (hq a z)⟩
theorem two_le : 2 ≤ sizeLine := by decide
theorem sd_parT2 {i j : Nat} {bi bj : PKd} {x y : Str} {px py pt : Pos} {kt k2 pt2} (hc : X.calm = true) (hN : X.N.Nodup) (hi : X.N[i]? = some x) (hj : X.N[j]? = some y) (hx : Loc X.env.scope x) (hy : Loc X.env.scope y) (ha : ParD X Wx [a, b] [(bi, ma), (bj, mb)])
    (hfx : X.fn x = true ∨ X.env.scope.names.lookup x = some .local := by first | exact .inl rfl | exact .inr rfl) (hfy : X.fn y = true ∨ X.env.scope.names.lookup y = some .local := by first | exact .inl rfl | exact .inr rfl)
    (hs : swapsWithSole [.Tuple [.Name x px, .Name y py] kt pt] (.Tuple [a, b] k2 pt2) pos.line X.env = pure false := by rfl) (hw : swappedStores [.Tuple [.Name x px, .Name y py] kt pt] (.Tuple [a, b] k2 pt2) X.env = pure none := by rfl) (h1 : (assignEach [.Tuple [.Name x px, .Name y py] kt pt] X.env).map (·.2) = [assign (.Tuple [.Name x px, .Name y py] kt pt) X.env] := by rfl)
    (hn : (assignEach [.Name x px, .Name y py] X.env).length = 2 := by rfl) (hst : (assignEach [.Name x px, .Name y py] X.env).findIdx? (·.1) = none := by rfl) :
    SD fl X Wx (.Assign [.Tuple [.Name x px, .Name y py] kt pt] (.Tuple [a, b] k2 pt2) pos) (sParK [(i, bi, ma), (j, bj, mb)]) := by
  obtain ⟨ta, pa, qa⟩ := ha
  refine ⟨_, ps_asg (pe_tup pa) (pg_tup hc (pgs_cons (pg_name hN hi hx hfx) (pgs_cons (pg_name hN hj hy hfy) pgs_nil)) hn hst) hs hw h1, fun F O env σ H D S w => ?_⟩
  refine qa F O env σ H _ S ((Want.bind w).imp (fun ds e1 w1 vs F1 H1 ps x S1 k1 r hq => ?_) XWs.xw)
  have hl : vs.length = 2 := r.len
  match vs, hl, r with
  | [v, u], _, r => exact ⟨two_le, fun T hT => ⟨T, _, rfl, .inl (.inl upd_same), rfl, v, [u], rfl, u, [], rfl, rfl, parT_end (ts := [(i, bi, ma), (j, bj, mb)]) S w1 x S1 k1 r hq hT⟩⟩
theorem boot_ValueError : bootBuiltins "ValueError" = some (.type "ValueError") := by decide +kernel
end
end AH
namespace AH
open PySem PySem.Spec PyProof.Rows L2
/-! ### enumerate over a list or a tuple -/
variable [TheK]
section
variable {X : Cx} {Wx : WX} {a : Expr} {ma : DE} {p pos : Pos}
end
end AH
namespace AH
open PySem PySem.Spec PyProof.Rows L2
variable [TheK]
/-! ### xs[i] op= v, xs an own or a lent list of ints -/
section
variable {fl : Fl} {X : Cx} {Wx : WX} {a b : Expr} {ma mb : DE} {pos p : Pos}
end
end AH
namespace AH
open PySem PySem.Spec PyProof.Rows L2
variable [TheK]
/-! ### x is True, x is False: of bools alone -/
section
variable {X : Cx} {Wx : WX} {a : Expr} {ma : DE} {pos p : Pos} {c : Bool} {j : Nat}
end
end AH
namespace AH
open PySem PySem.Spec PyProof.Rows L2
variable [TheK]
/-! ### x = [f(..), ..]; if t: ..; x[0].append(v): the first item is changed in place -/
section
variable {K : PySem.W.Frag} {F : Fm} {O : Nat → Option Addr} {env : Env} {σ : L2.St} {H H' : Hp} {i : Nat}
end
section
variable {fl : Fl} {X : Cx} {Wx : WX} {e0 c a : Expr} {es : List Expr} {sa rest : List Stmt} {m0 mv : DE} {mr : DL} {t : DT} {r n : DS} {pos pl p pos2 p1 p2 p3 pos3 ps pz : Pos}
end
end AH
namespace AH
open PySem PySem.W PySem.Spec PySem.Calls PyProof.Rows PyProof.V L2
/-! ### list(zip(a, b)): the pairs kept -/
section
variable {prog : Program} {w : World} {A : Around} {E : Value → Shared → Prop} {s : Shared} {z TI TO T i1 i2 Sa : Addr} {fp1 fp2 : List Addr} {n1 n2 i : Nat} {P1 P2 : Nat → Value → Prop} {St1 St2 : Nat → Heap → Prop} {f : Bool} {oT : Obj}
/-- where a zip that is gathered into Sa stands -/
def ZlS (z TI TO i1 i2 Sa : Addr) (St1 St2 : Nat → Heap → Prop) (i : Nat) (h : Heap) : Prop :=
  IsTupOf2 h TI (.ref i1) (.ref i2) ∧ St1 i h ∧ St2 i h ∧ ((IsZip h z TI TO .none ∧ ∃ a b, IsTupOf2 h TO a b) ∨ ∃ T f oT, IsZipHeld h z TI TO T f ∧ h.get? T = some oT ∧ T ≠ z ∧ T ≠ i1 ∧ T ≠ i2 ∧ T ≠ Sa)
theorem ZlS.keep {h h' : Heap} (S : ZipSep2 z TI TO i1 i2 fp1 fp2) (D1 : Draws prog w A i1 fp1 n1 P1 St1) (D2 : Draws prog w A i2 fp2 n2 P2 St2) (h1 : Sa ∉ fp1) (h2 : Sa ∉ fp2) (hz : Sa ≠ z) (hTI : Sa ≠ TI) (hTO : Sa ≠ TO) (x : ZlS z TI TO i1 i2 Sa St1 St2 i h) (hk : ∀ b o, b ≠ Sa → h.get? b = some o → h'.get? b = some o) : ZlS z TI TO i1 i2 Sa St1 St2 i h' := by
  obtain ⟨a1, a2, a3, a4⟩ := x
  refine ⟨hk _ _ hTI.symm a1, D1.frame _ _ _ a2 fun b hb o e => hk b o (fun q => h1 (q ▸ hb)) e, D2.frame _ _ _ a3 fun b hb o e => hk b o (fun q => h2 (q ▸ hb)) e, ?_⟩
  rcases a4 with ⟨b1, a, b, b2⟩ | ⟨T, f, oT, b1, b2, b3, b4, b5, b6⟩
  · exact .inl ⟨hk _ _ hz.symm b1, a, b, hk _ _ hTO.symm b2⟩
  · exact .inr ⟨T, f, oT, hk _ _ hz.symm b1, hk _ _ b6 b2, b3, b4, b5, b6⟩
/-- the pairs made so far -/
structure ZlG (P1 P2 : Nat → Value → Prop) (lo : Addr) (h : Heap) (as : List Addr) : Prop where
  rise : as.Pairwise (· < ·)
  above : ∀ a ∈ as, lo < a
  pairs : ∀ (j : Nat) (a : Addr), as[j]? = some a → ∃ x y, P1 j x ∧ P2 j y ∧ IsTupOf2 h a x y
theorem ZlG.there {lo : Addr} {h : Heap} {as : List Addr} (g : ZlG P1 P2 lo h as) {a : Addr} (ha : a ∈ as) : a < h.objs.size := by
  obtain ⟨j, hj⟩ := List.mem_iff_getElem?.mp ha
  obtain ⟨_, _, _, _, e⟩ := g.pairs j a hj
  exact Heap.lt_size e
end
section
variable {prog : Program} {w : World} {A : Around} {E : Value → Shared → Prop} {s : Shared} {R : Result → Shared → Prop} {z TI TO T i1 i2 Sa lo : Addr} {fp1 fp2 : List Addr} {n n1 n2 i : Nat} {P1 P2 : Nat → Value → Prop} {St1 St2 : Nat → Heap → Prop}
/-- the list's cell lies apart -/
structure ZlA (z TI TO i1 i2 Sa : Addr) (fp1 fp2 : List Addr) : Prop where
  f1 : Sa ∉ fp1
  f2 : Sa ∉ fp2
  nz : Sa ≠ z
  nTI : Sa ≠ TI
  nTO : Sa ≠ TO
  n1 : Sa ≠ i1
  n2 : Sa ≠ i2
structure ZlLo (z TO i1 i2 Sa lo : Addr) : Prop where
  s : Sa ≤ lo
  z : z ≤ lo
  t : TO ≤ lo
  i : i1 ≤ lo
  j : i2 ≤ lo
end
section
variable {prog : Program} {w : World} {A : Around} {E : Value → Shared → Prop} {s : Shared} {z TI TO i1 i2 : Addr} {fp1 fp2 : List Addr} {n n1 n2 : Nat} {P1 P2 : Nat → Value → Prop} {St1 St2 : Nat → Heap → Prop}
end
/-! ### at the level of the hand -/
section
variable {X : Cx}
theorem IsK.keep {k : Bool} {h h' : Heap} {a : Addr} {items : Array Value} (x : IsK k h a items) (hk : ∀ b o, h.get? b = some o → h'.get? b = some o) : IsK k h' a items := by
  cases k
  · exact Heap.IsList.at x fun o e => hk _ o e
  · obtain ⟨o, ho, r⟩ := x
    exact ⟨o, hk _ _ ho, r⟩
end
section
variable [TheK] {X : Cx} {Wx : WX} {a b : Expr} {ma mb : DE} {p p2 pos pos2 : Pos}
end
end AH
namespace AH
open PySem PySem.Spec PyProof.Rows L2
/-! ### {k: v for ..}: the keys tuples -/
section
variable {X : Cx}
end
section
variable [TheK]
variable {X : Cx} {Wx : WX} {kx vx tg iter : Expr} {mk mv : DE} {pos : Pos}
end
end AH
namespace AH
open PySem PySem.Spec PyProof.Rows L2
variable [TheK]
/-! ### [f, g, ..][i](a, ..): one of some defs -/
def FnA (X : Cx) (ms : List Md) (g : DF) (f : Addr) : Prop := ∃ (fl : Fl) (N ps : List Str) (k : Nat) (fd : FuncData), FnOk X.prog X.w X.K X.mg X.base (L2.CX X.prog X.w) k f fd ps (spD fl X.K N ms g) ∧ Room k X.A ∧ PySem.W.keepIn X.K (.ref f) = true ∧ Binds X.K fd ps [] ∧ (fl ≠ .w ∧ (fl ≠ .ft ∧ (fl ≠ .fr ∧ fl ≠ .fd))) ∧ ms.length ≤ N.length
inductive FnsI (X : Cx) (ms : List Md) : List Expr → List DF → Prop
  | nil : FnsI X ms [] []
  | cons {x : Str} {fl : Fl} {N ps : List Str} {g : DF} {p : Pos} {es : List Expr} {gs : List DF} : Fn X fl x N ps ms g → Gl X x → (x == ("__debug__" : Str)) = false → starEach (.Name x p :: es) X.env = (false, eval (.Name x p) X.env) :: starEach es X.env → FnsI X ms es gs → (nt : fl ≠ .ft ∧ (fl ≠ .fr ∧ fl ≠ .fd) := by exact ⟨fun h => (by cases h), fun h => (by cases h)⟩) → FnsI X ms (.Name x p :: es) (g :: gs)
theorem FnsI.pa {X : Cx} {ms : List Md} {es : List Expr} {gs : List DF} (h : FnsI X ms es gs) : ∃ (t : TA) (fs : List Addr), PA X es t ∧ (∀ σ H Q, Q (fs.map V.ref) H → t σ H Q) ∧ fs.length = gs.length ∧ ∀ (i : Nat) (f : Addr), fs[i]? = some f → ∃ g, gs[i]? = some g ∧ FnA X ms g f := by
  induction h with
  | nil => exact ⟨_, [], pa_nil, fun _ _ _ q => q, rfl, fun i f e => by simp at e⟩
  | @cons x fl N ps g p es gs F hg hd hs _ nt ih =>
    obtain ⟨t, fs, pt, qt, hl, hf⟩ := ih
    obtain ⟨k, f, fd, a, b, c, d, e⟩ := F.ex
    refine ⟨_, f :: fs, pa_cons (pe_glob (v := .ref f) hg c rfl hd) pt hs, fun σ H Q q => qt σ H _ q, by rw [List.length_cons, List.length_cons, hl], fun i f' e' => ?_⟩
    cases i with
    | zero => cases (Option.some.inj (by simpa using e') : f = f'); exact ⟨g, rfl, fl, N, ps, k, fd, a, b, d, e, ⟨F.nw, nt⟩, F.le⟩
    | succ i => exact hf i f' (by simpa using e')
end AH
namespace AH
open PySem PySem.Spec PyProof.Rows L2
variable [TheK]
/-! ### for x in (f(..), g(..)): x.append("..") : new lists that nobody keeps -/
section
variable {fl : Fl} {X : Cx} {Wx : WX} {e1 e2 : Expr} {m1 m2 : DE} {pos pt p p1 p2 p3 pos3 pz : Pos}
end
end AH
namespace AH
open PySem PySem.Spec PyProof.Rows L2
variable [TheK]
/-! ### min, max of a list or a tuple -/
def dMinA : D → Rv D
  | .lst xs => dMinL (.lst xs)
  | .tup xs => dMinL (.lst xs)
  | _ => .bad
section
variable {prog : Program} {w : World} {A : Around} {E : Value → Shared → Prop} {s : Shared} {t : Addr} {its : List Value} {ns : List Int}
theorem minT_raw {Q : Value → Shared → Prop} (hh : A.handled = none) (ht : s.heap.IsTuple t its.toArray) (hi : IntsAre its ns) (hne : 0 < ns.length)
    (h : ∀ h' tk M t', (∀ b o, s.heap.get? b = some o → h'.get? b = some o) → M ∈ ns → (∀ a, a ∈ ns → M ≤ a) → Q (.int M t') { s with heap := h', toks := tk }) : wpAny (model prog w) A (call (.builtin "min") [.ref t]) Q E s := by
  obtain ⟨xs, e⟩ := hi.allInts.items
  have hn : numsOf (intItems xs).toList = ns := by rw [← e]; exact hi.numsOf
  rw [nums_intItems] at hn
  subst hn
  rw [e] at ht
  have hsz : 0 < xs.size := by simpa using hne
  obtain ⟨o, ho, hc, n, hd⟩ := id ht
  have hnt : t ≠ s.heap.objs.size := Nat.ne_of_lt (Heap.lt_size ho)
  refine call_min_walk (wpAny_pyIter_tuple ht ?_)
  refine ⟨s.heap.objs.size, _, _, _, _, _, _, rfl, Walks.tuple (prog := prog) (w := w) (A := A.in1) hh s.heap.objs.size t hnt (intItems xs), ⟨⟨_, Heap.get?_push_size _ rfl, rfl, rfl⟩, ht.at fun o e => Heap.get?_push_of_some _ e⟩, fun b hb => ?_, by simpa [intItems] using hsz, CmpOf.ints_lt (numAt xs) (fun _ _ => intItems_at), fun v h' tk hv hk => ?_⟩
  · rcases List.mem_cons.mp hb with rfl | hb
    · exact Heap.lt_size (Heap.get?_push_size _ rfl)
    · obtain rfl := List.mem_singleton.mp hb
      exact Heap.lt_size (Heap.get?_push_of_some _ ho)
  · have hz : (intItems xs).size = xs.size := by simp [intItems]
    rw [hz] at hv
    obtain ⟨u, rfl⟩ := intItems_at hv
    obtain ⟨h1, h2⟩ := argBest_lt (numAt xs) (xs.size - 1)
    refine h h' tk _ u (fun b o e => hk b o (fun hm => ?_) (Heap.get?_push_of_some _ e)) ?_ fun a ha => ?_
    · have e1 : b = s.heap.objs.size := List.mem_singleton.mp hm
      have e2 := Heap.lt_size e
      rw [e1] at e2
      exact absurd e2 (Nat.lt_irrefl _)
    · rw [numAt_eq]; exact PySem.getD_mem (by rw [List.length_map, Array.length_toList]; omega)
    · obtain ⟨j, hj, rfl⟩ := mem_getD ha
      rw [List.length_map, Array.length_toList] at hj
      rw [← numAt_eq]; exact h2 j (by omega)
end
def rMinA (K : PySem.W.Frag) : List V → Hp → VK → Prop := fun vs H Q => ∃ (a : Addr) (ns : List Int), vs = [V.ref a] ∧ (SqL K H a (ns.map V.int) ∨ SqT K H a (ns.map V.int)) ∧ 0 < ns.length ∧ ∀ m, m ∈ ns → (∀ y, y ∈ ns → m ≤ y) → Q (.int m) H
section
variable {X : Cx} {Wx : WX} {a : Expr} {ma : DE} {p pos : Pos}
theorem cr_minA (hc : X.calm = true) : CallR X (.builtin "min") (rMinA X.K) := by
  intro pins s σ H vs us Q I r h
  obtain ⟨a, ns, rfl, hs | hs, hne, q⟩ := h
  · exact cr_min hc pins s σ H _ us Q I r ⟨a, ns, rfl, hs, hne, q⟩
  · obtain ⟨its, rv, ht, _⟩ := I.tuple hs
    rw [Vals.ref1 r]
    exact minT_raw (I.ok.hd hc) ht rv.ints hne fun h' tk m t' hk h1 h2 => ⟨.int _, H, I.kept hk, ⟨_, rfl⟩, q m h1 h2⟩
theorem least_run {n : Int} {ns : List Int} {m : Int} (h1 : m ∈ n :: ns) (h2 : ∀ y, y ∈ n :: ns → m ≤ y) : m = leastOf (n :: ns) := by
  obtain ⟨h3, h4⟩ := leastOf_spec n ns
  exact Int.le_antisymm (h2 _ h3) (h4 _ h1)
theorem cb_minA : Cb1 .s X.K (rMinA X.K) dMinA := by
  intro F O env σ H x dx dz Q S rx ef q
  unfold dMinA at ef
  split at ef
  · obtain ⟨a, vs, rfl, s, l⟩ := rx.lst'
    unfold dMinL at ef
    simp only at ef
    split at ef
    · rename_i n ns h
      cases ef
      refine ⟨a, n :: ns, rfl, .inl (by rw [← l.ints h]; exact s), by simp, fun m h1 h2 => ?_⟩
      rw [least_run h1 h2]
      exact q _ H S Ke.refl (.int _)
    · cases ef
  · obtain ⟨a, vs, rfl, s, l⟩ := rx.tup'
    unfold dMinL at ef
    simp only at ef
    split at ef
    · rename_i n ns h
      cases ef
      refine ⟨a, n :: ns, rfl, .inr (by rw [← l.ints h]; exact s), by simp, fun m h1 h2 => ?_⟩
      rw [least_run h1 h2]
      exact q _ H S Ke.refl (.int _)
    · cases ef
  · cases ef
theorem pd_minA (hc : X.calm = true) (hb : Bn X "min" (.builtin "min")) (ha : PD .w X Wx a ma) (hs : starEach [a] X.env = (false, eval a X.env) :: starEach [] X.env := by rfl) : PD .s X Wx (.Call (.Name "min" p) [a] [] pos) (e1 dMinA ma) := pd_b1 (cr_minA hc) cb_minA hb ha hs
end
end AH
namespace AH
open PySem PySem.Spec PyProof.Rows L2
/-! ### try with two handlers that keep the error -/
section
variable {X : Cx} {x x2 n : Str} {c c2 : Value} {i : Nat} {body suite suite2 : List Stmt} {b₀ b₂ : Stmt} {np np2 pos pos' pos2 : Pos} {tb : WX → TS} {ts ts2 : TS} {Wout : WX}
end
end AH
namespace AH
open PySem PySem.Spec PyProof.Rows L2
variable [TheK]
/-- the handler's suite, the error in slot i -/
def hdlX (i : Nat) (ms : DS) (e1 : Env) (c' : Str) (fs : List D) : R Out := if isOwn (sl e1 i) || !decide (i < e1.length) then .bad else match ms (put e1 i (.val (.exc c' [] fs))) with
  | .ok .nx e3 => if isFix (sl e3 i) then .bad else .ok .nx (put e3 i .no)
  | _ => .bad
section
variable {fl : Fl} {X : Cx} {Wx W1 W2 : WX} {n c c2 : Str} {i : Nat} {body : List Stmt} {s1 s2 : Stmt} {m ms ms2 : DS} {np np2 pos pos' pos2 : Pos}
theorem hdl_run {K : PySem.W.Frag} {F : Fm} {O O1 : Nat → Option Addr} {e1 : Env} {σ1 : L2.St} {H H1 : Hp} {D : Ends} {c' : Str} {fs : List AH.D} {cls : Value} {d : Option Addr} {E : Str → List AH.D → Env → Prop} (hK : K = TheK.K) (S1 : SR K F O1 e1 σ1 H1) (k1 : KeS O H O1 H1) (xr : XR K (Ow F O1) c' fs cls d H1)
    (w : Want (fun _ : Env => hdlX i ms e1 c' fs) e1 (Post fl K F O H D) E) (a : Addr) (na : H1 a = none) :
    tSs fl K ms W1 { nx := fun σ' H' => D.nx (σ'.set i none) H', rt := D.rt, bk := fun σ' H' => D.bk (σ'.set i none) H', ct := fun σ' H' => D.ct (σ'.set i none) H' } (σ1.set i (some (.ref a))) (upd H1 a (CgO cls d a)) := by
  unfold Want hdlX at w
  cases hoo : (isOwn (sl e1 i) || !decide (i < e1.length)) with
  | true => rw [hoo] at w; exact w.elim
  | false =>
  rw [hoo] at w
  simp only [Bool.false_eq_true, if_false] at w
  have hmem := xr.1.2
  have ecls := xr.1.1
  have nW : ¬ Ow F O1 a := fun z => S1.prot a z na
  have S2 : SR K F O1 e1 σ1 (upd H1 a (CgO cls d a)) := S1.newX na
  have ke1 : Ke (Jo O1) H1 (upd H1 a (CgO cls d a)) := Ke.new na
  have r : Rep (Ow F O1) (upd H1 a (CgO cls d a)) (.ref a) (.exc c' [] fs) := by
    obtain ⟨_, x2⟩ := xr
    have ea : upd H1 a (CgO cls d a) a = some (CgO (.ref (He.ga TheK.K c')) d a) := by rw [upd_same, ecls, hK]
    cases d with
    | none =>
      have x2 : fs = [] := x2
      subst x2
      exact .exc (vs := []) nW hmem ea (fun _ => rfl) (fun d z => by cases z) .nil
    | some dd =>
      obtain ⟨y0, vs, y1, y2, y3⟩ := x2
      exact .exc (vs := vs) nW hmem ea (fun z => by cases z) (fun d z => by cases z; exact ⟨y0, by rw [upd_ne (ne_of_none y1 na)]; exact y1, y2⟩) (y3.mono (Ke.new na))
  have S3 := S2.setVal (i := i) r (noP_own (Bool.or_eq_false_iff.mp hoo).1)
  refine ⟨F, _, _, S3, ?_⟩
  unfold Want
  cases hm : ms (put e1 i (.val (.exc c' [] fs))) with
  | bad => rw [hm] at w; exact w.elim
  | ex _ _ _ => rw [hm] at w; exact w.elim
  | ok o e3 =>
    rw [hm] at w
    cases o with
    | nx =>
      cases hfx : isFix (sl e3 i) with
      | true => simp only [hfx] at w; exact w.elim
      | false =>
      simp only [hfx] at w
      have w : Post fl K F O H D .nx (put e3 i .no) := w
      intro O2 σ2 H2 S4 k2
      have kn : KeS O1 H1 (setO O1 i none) (upd H1 a (CgO cls d a)) := ⟨ke1, fun b z => .inl (jo_setN z)⟩
      exact w _ _ _ (S4.dropS (i := i) (o := none) (noP_fix hfx)) ((k1.trans kn).trans (k2.trans ⟨Ke.refl, fun b z => .inl (jo_setN z)⟩))
    | rt _ => exact w.elim
    | bk => exact w.elim
    | ct => exact w.elim
end
/-! ### xs.count(x), ints -/
section
variable {X : Cx} {Wx : WX} {a b : Expr} {ma mb : DE} {apos cpos : Pos}
end
end AH
namespace AH
open PySem PySem.Spec PyProof.Rows L2
/-! ### min of a list of plain data that can be compared -/
section
variable {X : Cx}
end
section
variable [TheK] {X : Cx} {Wx : WX} {a : Expr} {ma : DE} {p pos : Pos}
end
end AH
namespace AH
open PySem PySem.Spec PyProof.Rows L2 PySem.F
/-! ### set of a list of ints: what it makes is known as set of a tuple's is -/
section
variable {P : Program} {w : World} {A : Around} {E : Value → Shared → Prop} {s : Shared}
end
section
variable {X : Cx}
end
section
variable [TheK] {X : Cx} {Wx : WX} {a : Expr} {ma : DE} {p p2 pos pos2 : Pos}
end
end AH
namespace AH
open PySem PySem.Spec PyProof.Rows L2
variable [TheK]
/-! ### tuple(range(..)) -/
def tRng1 (a : DE) : DE := a.bind fun x => match x with
  | .int n => if rngOk 0 n && decide (n ≤ 100000) then M.pure (.tup (rng 0 n)) else fun _ => .bad
  | _ => fun _ => .bad
section
variable {X : Cx} {Wx : WX} {b : Expr} {mb : DE} {p p2 p3 pos : Pos}
theorem pd_tupR1 (hc : X.calm = true) (hl : Bn X "tuple" (.type "tuple")) (hb' : Bn X "range" (.type "range")) (hb : PD .s X Wx b mb) (hs : starEach [b] X.env = (false, eval b X.env) :: starEach [] X.env := by rfl)
    (hs2 : starEach [.Call (.Name "range" p) [b] [] p2] X.env = (false, eval (.Call (.Name "range" p) [b] [] p2) X.env) :: starEach [] X.env := by rfl) : PD .s X Wx (.Call (.Name "tuple" p3) [.Call (.Name "range" p) [b] [] p2] [] pos) (tRng1 mb) := by
  obtain ⟨tb, pb, qb⟩ := hb
  refine ⟨_, pe_tupRg hc hl.gl hl.mg (prg_1 hb'.gl hb'.mg pb hs) hs2, fun F O env σ H Q S w => ?_⟩
  refine qb F O env σ H _ S (w.bind.imp (fun dy e2 w2 y H2 S2 k2 p2 => ?_) fun _ _ _ z => z)
  cases p2 with
  | int n =>
    have w2 : Want (if (rngOk 0 n && decide (n ≤ 100000)) = true then (M.pure (D.tup (rng 0 n)) : DE) else fun _ => .bad) e2 _ _ := w2
    cases c : rngOk 0 n && decide (n ≤ 100000) with
    | false => rw [c] at w2; exact w2.elim
    | true =>
      rw [c] at w2
      obtain ⟨c1, c2⟩ := He.ba c
      have c2 := of_decide_eq_true c2
      unfold rngOk at c1
      simp only [Bool.and_eq_true, decide_eq_true_eq] at c1
      refine ⟨n, rfl, ⟨by omega, by omega, by omega, by omega, by omega⟩, fun r hr => ?_⟩
      exact new_tup S2 repL_rng (fun z H' S' k' p' => w2 z H' S' (k2.trans k') p') hr
  | _ => exact w2.elim
end
end AH
namespace AH
open PySem PySem.Spec PyProof.Rows L2
variable [TheK]
/-! ### xs.index(x), ints, x there -/
section
variable {X : Cx} {Wx : WX} {a b : Expr} {ma mb : DE} {apos cpos : Pos}
end
end AH
namespace AH
open PySem PySem.Spec PyProof.Rows L2
variable [TheK]
/-! ### while, so many turns at the most -/
section
variable {fl : Fl} {X : Cx} {Wx : WX} {c : Expr} {mt : DT} {m : DS} {body : List Stmt} {pos : Pos}
end
end AH
namespace AH
open PySem PySem.Spec PyProof.Rows L2
/-! ### max(d.values()), min(d.values()) of ints -/
section
variable {prog : Program} {w : World} {A : Around} {E : Value → Shared → Prop} {s : Shared} {v d : Addr} {es : Array DictEntry} {ep : Nat} {ns : List Int}
end
section
variable [TheK] {X : Cx} {Wx : WX} {e : Expr} {td : TE} {p apos cpos pos : Pos}
end
end AH
namespace AH
open PySem PySem.Spec PyProof.Rows L2
variable [TheK]
/-! ### defs with defaults for their last parameters -/
structure KnV (P : Program) (w : World) (K : PySem.W.Frag) (mg : Str → Option Value) (base : Heap) (fl : Fl) (x : Str) (st : Stmt) (N ps : List Str) (ms : List Md) (g : DF) (k : Nat) (dvs : List V) : Prop where
  ex : ∃ (f : Addr) (fd : FuncData), FnOk P w K mg base (L2.CX P w) k f fd ps (spD fl K N ms g) ∧ mg x = some (.ref f) ∧ FunD K x x (defArgs st) (defBody st) (defScope st) dvs [] f fd ∧ Binds K fd ps [] ∧ ∃ ds, Vals dvs ds ∧ Binds K fd ps ds
  nw : fl ≠ .w
  le : ms.length ≤ N.length
  dv : dvs ≠ []
def KBindsV (x : Str) (st : Stmt) (ps : List Str) (m n : Nat) (ks : List Str) (ix : List Nat) : Prop := ∀ (T : Addr) (kV doc pm : Value) (an : Option Addr) (cdv ct : Value) (us ws its : List Value), us.length = n → ws.length = ks.length → its.length = m →
  ∃ k, bindArgs (PySem.W.fnOf x x (defArgs st) (defBody st) (defScope st) (.ref T) kV doc pm an cdv ct) ⟨us, ks.zip ws⟩ = seqItems? (.ref T) >>= k ∧ k (some its.toArray) = pure (ps.zip (perm ix (us ++ ws)))
section
variable {P : Program} {w : World} {K : PySem.W.Frag} {mg : Str → Option Value} {base : Heap} {fl : Fl} {x : Str} {st : Stmt} {N ps : List Str} {ms : List Md} {g : DF} {k : Nat} {m : DS} {dvs : List V}
/-- THE RULE for such a def -/
theorem KnV.fn {X : Cx} (F : KnV X.prog X.w X.K X.mg X.base fl x st N ps ms g k dvs) {j : Nat} (hr : Room j X.A) (h : k ≤ j := by decide) : Fn X fl x N ps ms g := by
  obtain ⟨⟨f, fd, a, b, c, d, _⟩, e1, e2, _⟩ := F
  exact ⟨⟨k, f, fd, a, hr.mono h, b, c.kp, d⟩, e1, e2⟩
theorem KnV.fnK {X : Cx} {n mm : Nat} {ks : List Str} {ix : List Nat} (F : KnV X.prog X.w X.K X.mg X.base fl x st N ps ms g k dvs) {j : Nat} (hr : Room j X.A) (hk : KBindsV x st ps mm n ks ix) (nb : (ms.all fun m => m != .bor) = true := by decide) (h : k ≤ j := by decide) (hmm : mm = dvs.length := by rfl) : FnK X fl x N ps ms g n ks ix := by
  subst hmm
  obtain ⟨⟨f, fd, a, b, c, d, _⟩, e1, e2, hd⟩ := F
  refine ⟨⟨k, f, fd, a, hr.mono h, b, c.kp, fun s us ws hX l1 l2 => ?_⟩, e1, e2, nb⟩
  obtain ⟨oc, od, dV, kV, doc, pm, an, cdv, ct, osl, rfl, lk, hcd, hD, hK⟩ := c.ex
  rcases hD with ⟨e, _⟩ | ⟨_, T, o, its, m, rfl, lT, oT, rT⟩
  · exact absurd e hd
  · obtain ⟨kk, k1, k2⟩ := hk T kV doc pm an cdv ct us ws its l1 l2 rT.length.symm
    refine BindsTo.of_looks fun M => ?_
    rw [k1]
    exact looks_items hX lT oT (.of_pure k2)
end
/-- a def with defaults, called without the last ones -/
structure FnV (X : Cx) (fl : Fl) (x : Str) (N ps : List Str) (ms : List Md) (g : DF) (dvs : List V) : Prop where
  ex : ∃ (k : Nat) (f : Addr) (fd : FuncData) (ds : List Value), FnOk X.prog X.w X.K X.mg X.base (L2.CX X.prog X.w) k f fd ps (spD fl X.K N ms g) ∧ Room k X.A ∧ X.mg x = some (.ref f) ∧ PySem.W.keepIn X.K (.ref f) = true ∧ Vals dvs ds ∧ Binds X.K fd ps ds
  nw : fl ≠ .w
  le : ms.length ≤ N.length
section
variable {X : Cx} {Wx : WX} {e : Expr} {es : List Expr} {ms : List Md} {as : List Arg} {ma : DE} {p pos : Pos} {i : Int} {fl : Fl} {N ps : List Str} {g : DF} {x : Str}
end
end AH
namespace AH
open PySem PySem.Spec PyProof.Rows L2
/-! ### an exception class that keeps its one value as a tuple -/
def ZXT (K : PySem.W.Frag) (C : Addr) (f : Str) : List V → Hp → VK → Prop := fun vs H Q => (∃ p ys, vs[1]? = some (.ref p) ∧ SqT K H p ys) ∧ ZX C [f] vs H Q
section
variable {P : Program} {w : World} {K : PySem.W.Frag} {mg : Str → Option Value} {base : Heap} {B newId initId : String} {bmB : List Value} {C f : Addr} {qual : Str} {params : Arguments} {scope : Scope} {fd : FuncData}
end
section
variable [TheK] {X : Cx} {B newId initId : String} {bmB : List Value} {C fI : Addr} {fd : FuncData} {ps : List Str} {fN : Str} {e : Expr} {es : List Expr} {ta : TA} {c : Str} {p pos : Pos}
end
section
variable [TheK]
/-- what is known of an own exception class that keeps a tuple -/
structure XcT (P : Program) (w : World) (K : PySem.W.Frag) (mg : Str → Option Value) (base : Heap) (c : Str) : Prop where
  ex : ∃ (B newId initId : String) (bmB : List Value) (fI : Addr) (fd : FuncData) (ps : List Str) (f : Str), fieldsOf c = [f] ∧ XB B newId initId bmB ∧ XK1 K (He.ga K c) bmB newId ∧ PySem.W.findIn K (.ref (He.ga K c)) "__init__" = some (some (.ref fI)) ∧ PySem.W.typeIn K (.ref fI) = some (.type "function") ∧
    FnOk P w K mg base CX0 1 fI fd ps (spXi (He.ga K c) 2 (ZXT K (He.ga K c) f)) ∧ Binds K fd ps []
  mg : mg c = some (.ref (He.ga K c))
end
end AH
namespace AH
open PySem PySem.Spec PyProof.Rows L2
/-! ### dict(f(x)) where f answers a new tuple of pairs -/
section
variable {X : Cx}
end
section
variable [TheK] {X : Cx} {Wx : WX} {a : Expr} {ma : DE} {x : Str} {p pos : Pos}
end
end AH
/-! an own exception class called with keywords -/
namespace PySem.HandSPX
open PySem PyProof.Rows
section
variable {M : Model} {A : Around} {E : Value → Shared → Prop} {h : Heap} {g : Array GenState} {d : Drawn} {t : Nat} {os : OsState}
variable {nm q : Str} {C N : Addr} {bs bm bmB : List Value} {hdct : Bool} {sn : List Str} {sub : List Value} {ab : Bool} {col : Option Bool} {dd : Option Addr} {k0 k1 k2 k3 k5 : Option Value} {B newId initId : String} {kw : List (Str × Value)}
end
section
variable {prog : Program} {w : World} {A : Around} {E : Value → Shared → Prop} {R : Result → Shared → Prop} {h : Heap} {g : Array GenState} {d : Drawn} {t : Nat} {os : OsState}
variable {nm q : Str} {C N : Addr} {bs bm bmB : List Value} {hdct : Bool} {sn : List Str} {sub : List Value} {ab : Bool} {col : Option Bool} {dd : Option Addr} {k0 k1 k2 k3 k5 : Option Value} {B newId initId : String} {kw : List (Str × Value)}
end
end PySem.HandSPX
namespace AH
open PySem PySem.Spec PyProof.Rows L2
/-! ### exceptions as values -/
section
variable {X : Cx} {σ : L2.St} {H : Hp} {pins : List (Addr × Obj)} {s : Shared}
end
/-! ### C(..): the call of the class -/
section
variable {X : Cx} {B newId initId : String} {bmB : List Value} {C fI : Addr} {fd : FuncData} {ps : List Str} {n : Nat} {Z : List V → Hp → VK → Prop} {pins : List (Addr × Obj)} {σ : L2.St} {H1 : Hp} {s1 : Shared} {Q : L2.XK}
end
end AH
namespace AH
open PySem PySem.Spec PyProof.Rows L2
/-! ### an exception class that keeps its one value as a tuple: of a list or of a tuple -/
section
variable {P : Program} {w : World} {K : PySem.W.Frag} {mg : Str → Option Value} {base : Heap} {B newId initId : String} {bmB : List Value} {C f : Addr} {qual : Str} {params : Arguments} {scope : Scope} {fd : FuncData}
end
/-! ### the class is called: by places, by names -/
/-- what is known of the class: its __init__ -/
structure XcG (P : Program) (w : World) (K : PySem.W.Frag) (mg : Str → Option Value) (base : Heap) (c : Str) (n : Nat) (Z : Addr → List V → Hp → VK → Prop) (nu : Nat) (ks : List Str) (ix : List Nat) : Prop where
  ex : ∃ (B newId initId : String) (bmB : List Value) (fI : Addr) (fd : FuncData) (ps : List Str), XB B newId initId bmB ∧ XK1 K (He.ga K c) bmB newId ∧ PySem.W.findIn K (.ref (He.ga K c)) "__init__" = some (some (.ref fI)) ∧ PySem.W.typeIn K (.ref fI) = some (.type "function") ∧
    FnOk P w K mg base CX0 1 fI fd ps (spXi (He.ga K c) n (Z (He.ga K c))) ∧ ∀ (s : Shared) (u : Value) (us ws : List Value), us.length = nu → ws.length = ks.length → BindsTo s fd ⟨u :: us, ks.zip ws⟩ (ps.zip (u :: perm ix (us ++ ws)))
  mg : mg c = some (.ref (He.ga K c))
section
variable [TheK] {X : Cx} {c : Str} {n nu j : Nat} {Z : Addr → List V → Hp → VK → Prop} {ks : List Str} {ix : List Nat} {kws : List Keyword} {e : Expr} {es : List Expr} {p pos : Pos} {ta : TA}
end
/-! ### what is kept -/
section
variable [TheK] {K : PySem.W.Frag} {C a : Addr} {H1 : Hp} {Q : L2.XK} {fsN : List Str} {vs : List V} {f : Str} {p : Addr} {ys : List V}
end
variable [TheK]
/-! ### .. as data -/
section
variable {K : PySem.W.Frag} {F : Fm} {O : Nat → Option Addr} {e1 : Env} {σ : L2.St} {H1 H' : Hp} {a : Addr} {dd : Option Addr} {c : Str} {vs : List V} {ds : List D}
end
section
variable {X : Cx} {Wx : WX} {c f : Str} {n nu j : Nat} {ks : List Str} {ix : List Nat} {kws : List Keyword} {e : Expr} {es : List Expr} {r : DL} {p pos : Pos}
end
/-! ### isinstance(error, C), isinstance(error, (B, B')) -/
structure XkF (K : PySem.W.Frag) (mg : Str → Option Value) (y : Str) : Prop where
  g : mg y = some (.ref (He.ga K y))
  k : ∀ c ∈ TheK.xs, PySem.W.kitOne K (.ref (He.ga K c)) (.ref (He.ga K y)) = some (decide (c = y))
  x : ∀ c ∈ TheK.xs, ExcC K (He.ga K c)
def dIsK (y : Str) : D → Rv D
  | .exc c _ _ => .ok (.bl (decide (c = y)))
  | _ => .bad
section
variable {X : Cx} {Wx : WX} {a : Expr} {ma : DE} {p p2 pos : Pos}
theorem pd_isK {y : Str} (hK : X.K = TheK.K) (F : XkF X.K X.mg y) (hb : Bn X "isinstance" (.builtin "isinstance")) (hy : Gl X y) (ha : PD .s X Wx a ma) (hd : (y == ("__debug__" : Str)) = false := by decide)
    (hs : starEach [a, .Name y p2] X.env = (false, eval a X.env) :: starEach [.Name y p2] X.env := by rfl) : PD .s X Wx (.Call (.Name "isinstance" p) [a, .Name y p2] [] pos) (e1 (dIsK y) ma) := by
  obtain ⟨ta, pa, qa⟩ := ha
  refine ⟨_, pe_callB call_isX hb.gl hb.mg hb.bt (pa_cons pa (pa_cons (pe_glob (v := .ref (He.ga X.K y)) hy F.g rfl hd) pa_nil) hs) hb.nn hb.nd hs rfl, fun F' O env σ H Q S w => ?_⟩
  refine qa F' O env σ H _ S (w.bind.imp (fun dx e1 w1 x H1 S1 k1 p1 => ?_) fun _ _ _ z => z)
  obtain ⟨dz, ez, w2⟩ := w1.of
  cases p1 with
  | exc n hc h h1 h2 l =>
    rename_i b dd c fs vs
    cases ez
    rw [← hK] at h
    exact ⟨b, He.ga X.K c, dd, .ref (He.ga X.K y), .ref (He.ga X.K y), _, rfl, fun u z => z, h, fun d z => ⟨_, (h2 d z).2.1⟩, F.x c hc, F.k c hc, w2 _ H1 S1 k1 (.bl _)⟩
  | _ => cases ez
/-- none of two built-in classes -/
structure XnF (K : PySem.W.Frag) (B1 B2 : String) : Prop where
  a : ∀ c ∈ TheK.xs, PySem.W.kitOne K (.ref (He.ga K c)) (.type B1) = some false
  b : ∀ c ∈ TheK.xs, PySem.W.kitOne K (.ref (He.ga K c)) (.type B2) = some false
  x : ∀ c ∈ TheK.xs, ExcC K (He.ga K c)
end
end AH
namespace AH
open PySem PySem.Spec PyProof.Rows L2
section
variable [TheK]
/-- an own exception class without fields under LookupError -/
structure XcL (K : PySem.W.Frag) (mg : Str → Option Value) (c : Str) : Prop where
  q : PySem.W.excIn K (He.ga K c) lT "LookupError.__new__" = true
  g : mg c = some (.ref (He.ga K c))
  k : PySem.W.keepIn K (.ref (He.ga K c)) = true
  b : PySem.W.subIn K (.ref (He.ga K c)) (.type "BaseException") = some true
  t : PySem.W.typeIn K (.ref (He.ga K c)) = some (.type "type")
variable {X : Cx} {Wx : WX} {c : Str} {p pos : Pos}
end
/-! ### the head's looks -/
def xkB (K : PySem.W.Frag) (xs : List Str) (y : Str) : Bool := xs.all fun c => decide (PySem.W.kitOne K (.ref (He.ga K c)) (.ref (He.ga K y)) = some (decide (c = y)))
theorem xkB_ok [TheK] {K : PySem.W.Frag} {mg : Str → Option Value} {y : Str} (g : mg y = some (.ref (He.ga K y))) (h : xkB K TheK.xs y = true) (x : ∀ c ∈ TheK.xs, XvF K c) : XkF K mg y :=
  ⟨g, fun c hc => of_decide_eq_true (List.all_eq_true.mp h c hc), fun c hc => (x c hc).x⟩
end AH
namespace AH
open PySem PySem.W PySem.Spec PySem.Calls PyProof.Rows PyProof.V L2
/-! ### dict(zip(a, b)), lists or tuples -/
section
variable {prog : Program} {w : World}
end
section
variable {X : Cx}
end
section
variable [TheK] {X : Cx} {Wx : WX} {a b : Expr} {ma mb : DE} {p p2 pos pos2 : Pos}
end
end AH
namespace AH
open PySem PySem.Spec PyProof.Rows L2
/-! ### a def that only reads: the heap stays -/
section
variable {prog : Program} {w : World} {A : Around} {E : Value → Shared → Prop} {s : Shared} {K : PySem.W.Frag} {x : Str} {st : Stmt} {f : Addr} {fd : FuncData} {ps : List Str} {us : List Value} {Q : Value → Shared → Prop}
end
section
variable {prog : Program} {w : World} {A : Around} {s : Shared} {name x : Str} {scope : Scope} {L f : Addr} {cd : Value} {h₀ : Heap} {m : Str → Option Value} {a : Addr} {u v : Value}
end
/-! ### sorted(xs, key=f), f such a def -/
/-- a key def of the text -/
structure KeyD (K : PySem.W.Frag) (mg : Str → Option Value) (x : Str) (f : Addr) : Prop where
  mg : mg x = some (.ref f)
  run : ∀ {prog : Program} {w : World} {A : Around} {E : Value → Shared → Prop} {s : Shared} {a : Addr} {u v : Value} {Q : Value → Shared → Prop}, K.In s.heap → s.heap.NoLimit → A.depth < recursionLimit → IsTup s.heap a #[u, v] →
    (∀ h' tk q, (∀ b o, s.heap.get? b = some o → h'.get? b = some o) → h'.get? q = some { cls := .type "tuple", data := .seq #[v, u] } → Q (.ref q) { s with heap := h', toks := tk }) → wpAny (model prog w) A (call (.ref f) [.ref a]) Q E s
section
variable {X : Cx}
end
section
variable [TheK] {X : Cx} {Wx : WX} {a : Expr} {ma : DE} {x : Str} {f : Addr} {j : Nat} {p pf pos kpos : Pos}
end
end AH
namespace AH
open PySem PySem.Spec PyProof.Rows L2
variable [TheK]
/-! ### d[k], y = a tuple of two -/
section
variable {fl : Fl} {X : Cx} {Wx : WX} {a b : Expr} {ma mb : DE} {p pos : Pos}
end
end AH
namespace AH
open PySem PySem.Spec PyProof.Rows L2
section
variable [TheK]
/-! ### a roster in the heap -/
theorem slot_ix {K : PySem.W.Frag} {C p : Addr} {f : Str} {i : Nat} (t : SlX.Slot1 K C f p i) : slIx K C f = some i := by
  unfold slIx
  rw [t.at_]
  exact t.ix
section
variable {K : PySem.W.Frag} {H : Hp} {a C dx p : Addr} {us : List V}
theorem RosAt.fld (r : RosAt K H a C dx us p) {k : Nat} {f : Str} {u : V} (hf : rosNames[k]? = some f) (hu : (us ++ [.ref p])[k]? = some u) : ∃ pd i vs, SlX.Slt H a C dx vs ∧ SlX.SCls K C ∧ SlX.Slot1 K C f pd i ∧ vs[i]? = some (some u) := by
  obtain ⟨vs, h1, h2, h3, h4, h5⟩ := r
  obtain ⟨f', i, e1, e2, e3⟩ := h5 k u hu
  rw [hf] at e1
  cases e1
  obtain ⟨pd, i', t⟩ := h3.sl f (List.mem_of_getElem? hf)
  have := slot_ix t
  rw [e2] at this
  cases this
  exact ⟨pd, i, vs, .inr ⟨h1, h2⟩, h3.o.sc, t, e3⟩
theorem slH_one {vs : List (Option V)} (h : H dx = some (.xd [])) : SlX.slH H a C dx vs = upd H a (SlX.SlO a C dx vs) := by
  unfold SlX.slH
  have e : upd H dx (.xd []) = H := by
    funext b
    by_cases hb : b = dx
    · rw [hb, upd_same, h]
    · rw [upd_ne hb]
  rw [e]
theorem nodup_get {α : Type} {l : List α} (h : l.Nodup) {i j : Nat} {x : α} (hi : l[i]? = some x) (hj : l[j]? = some x) : i = j := by
  obtain ⟨h1, e1⟩ := List.getElem?_eq_some_iff.mp hi
  obtain ⟨h2, e2⟩ := List.getElem?_eq_some_iff.mp hj
  exact (List.getElem_inj h).mp (e1.trans e2.symm)
/-- a field is stored -/
theorem RosAt.put (r : RosAt K H a C dx us p) {k : Nat} {f : Str} (hf : rosNames[k]? = some f) (hk : k < 5) (u : V) : ∃ pd i vs, SlX.Slt H a C dx vs ∧ SlX.SCls K C ∧ SlX.Slot1 K C f pd i ∧ SlX.slH H a C dx (SlX.putS i u vs) = upd H a (SlX.SlO a C dx (SlX.putS i u vs)) ∧ RosAt K (upd H a (SlX.SlO a C dx (SlX.putS i u vs))) a C dx (us.set k u) p := by
  obtain ⟨vs, h1, h2, h3, h4, h5⟩ := r
  obtain ⟨pd, i, t⟩ := h3.sl f (List.mem_of_getElem? hf)
  have ti := slot_ix t
  have ne : dx ≠ a := fun z => by rw [z, h1] at h2; exact SlX.slO_not (Option.some.inj h2)
  refine ⟨pd, i, vs, .inr ⟨h1, h2⟩, h3.o.sc, t, slH_one h2, _, upd_same, by rw [upd_ne ne]; exact h2, h3, by rw [List.length_set]; exact h4, fun k' u' hu => ?_⟩
  by_cases e : k' = k
  · subst e
    have hu2 : (us.set k' u ++ [V.ref p])[k']? = some u := by
      rw [List.getElem?_append_left (by rw [List.length_set]; omega), List.getElem?_set_self (by omega)]
    rw [hu2] at hu
    cases hu
    exact ⟨f, i, hf, ti, SlX.putS_get i u vs⟩
  · have hu2 : (us ++ [V.ref p])[k']? = some u' := by
      rw [← hu]
      by_cases hl : k' < us.length
      · rw [List.getElem?_append_left hl, List.getElem?_append_left (by rw [List.length_set]; exact hl), List.getElem?_set_ne (Ne.symm e)]
      · rw [List.getElem?_append_right (by omega), List.getElem?_append_right (by rw [List.length_set]; omega), List.length_set]
    obtain ⟨f', i', e1, e2, e3⟩ := h5 k' u' hu2
    refine ⟨f', i', e1, e2, (SlX.putS_ne fun z => e ?_).mpr e3⟩
    subst z
    have n1 : (rosNames.map (slIx K C))[k']? = some (some i') := by rw [List.getElem?_map, e1]; exact congrArg some e2
    have n2 : (rosNames.map (slIx K C))[k]? = some (some i') := by rw [List.getElem?_map, hf]; exact congrArg some ti
    exact nodup_get h3.nd n1 n2
end
/-! ### .. in a slot -/
structure RosS (K : PySem.W.Frag) (F : Fm) (O : Nat → Option Addr) (env : Env) (σ : L2.St) (H : Hp) (b : Bool) (i j : Nat) (fs xs : List D) (a C dx p : Addr) (us vs : List V) : Prop where
  oi : O i = some a
  oj : O j = some p
  bi : OwB F i a b
  bj : OwB F j p b
  g : get1 σ i = some (.ref a)
  gj : True
  at_ : RosAt K H a C dx us p
  nd : ¬ (Jo O dx ∨ F.N dx)
  l : RepL (Ow F O) H us fs
  si : sl env i = .ros b j fs
  sj : sl env j = .pst b xs
  hp : H p = some (.lst vs)
  lp : RepL (Ow F O) H vs xs
section
variable {K : PySem.W.Frag} {F : Fm} {O : Nat → Option Addr} {env : Env} {σ : L2.St} {H : Hp} {b : Bool} {i j : Nat} {fs xs : List D} {a C dx p : Addr} {us vs : List V}
theorem SR.ros (S : SR K F O env σ H) (h : sl env i = .ros b j fs) : ∃ xs a C dx p us vs, RosS K F O env σ H b i j fs xs a C dx p us vs := by
  obtain ⟨xs, hj⟩ := S.lnk i b j fs h
  have s := S.slot i
  rw [h] at s
  obtain ⟨a, C, dx, us, p, h1, h2, h3, h4, h5, h6, h7⟩ := s
  have s := S.slot j
  rw [hj] at s
  obtain ⟨p', vs, g1, g2, g3, g4, g5⟩ := s
  rw [h2] at g1
  cases g1
  exact ⟨xs, a, C, dx, p, us, vs, h1, h2, h3, g2, h4, g3, h5, h6, h7, h, hj, g4, g5⟩
theorem RosS.ne (R : RosS K F O env σ H b i j fs xs a C dx p us vs) : a ≠ p := fun z => by
  obtain ⟨ws, q, _⟩ := R.at_
  rw [z, R.hp] at q
  cases q
theorem OwB.mu {F : Fm} {i : Nat} {a : Addr} : ∀ {b : Bool}, OwB F i a b → F.bo a ∨ F.H0 a = none
  | true, h => .inl ⟨i, h⟩
  | false, h => .inr h.1
theorem RosS.hl (R : RosS K F O env σ H b i j fs xs a C dx p us vs) : i < env.length ∧ j < env.length := by
  constructor
  · exact Nat.lt_of_not_le fun z => by have := R.si; rw [sl_out _ _ z] at this; cases this
  · exact Nat.lt_of_not_le fun z => by have := R.sj; rw [sl_out _ _ z] at this; cases this
theorem RosS.ij (R : RosS K F O env σ H b i j fs xs a C dx p us vs) : j ≠ i := fun z => by have := R.sj; rw [z, R.si] at this; cases this
/-- the fields are changed -/
theorem RosS.put2 (R : RosS K F O env σ H b i j fs xs a C dx p us vs) (S : SR K F O env σ H) {o : HO} {us' : List V} {fs' : List D} {C' dx' : Addr} (ra : RosAt K (upd H a o) a C' dx' us' p) (nd' : ¬ (Jo O dx' ∨ F.N dx')) (rl : RepL (Ow F O) H us' fs') : SR K F O (AH.put env i (.ros b j fs')) σ (upd H a o) := by
  have k : Ke (Ow F O) H (upd H a o) := Ke.mut (.inr ⟨i, R.oi⟩)
  refine S.mut R.oi R.bi.mu ⟨a, C', dx', us', p, R.oi, R.oj, R.bi, R.g, ra, nd', rl.mono k⟩ (fun k' b' j' fs2 h => ?_) (fun ts z => by subst z; exact ra.tup upd_same)
  by_cases hk : k' = i
  · subst hk
    rw [sl_put_same _ _ _ R.hl.1] at h
    cases h
    exact ⟨xs, by rw [sl_put_ne _ _ _ _ R.ij]; exact R.sj⟩
  · rw [sl_put_ne _ _ _ _ hk] at h
    obtain ⟨ys, q⟩ := S.lnk k' b' j' fs2 h
    have hj : j' ≠ i := fun z => by rw [z, R.si] at q; cases q
    exact ⟨ys, by rw [sl_put_ne _ _ _ _ hj]; exact q⟩
theorem RosS.put (R : RosS K F O env σ H b i j fs xs a C dx p us vs) (S : SR K F O env σ H) {o : HO} {us' : List V} {fs' : List D} (ra : RosAt K (upd H a o) a C dx us' p) (rl : RepL (Ow F O) H us' fs') : SR K F O (AH.put env i (.ros b j fs')) σ (upd H a o) := R.put2 S ra R.nd rl
end
end
/-! ### fields read -/
section
variable [TheK] {fl : Fl} {X : Cx} {Wx : WX} {a : Expr} {ma : DE} {x f : Str} {i k : Nat} {p p1 p2 p3 pos : Pos}
/-! ### fields stored -/
/-- x.own_past.append(value) -/
theorem RosS.past {K : PySem.W.Frag} {F : Fm} {O : Nat → Option Addr} {env : Env} {σ : L2.St} {H : Hp} {b : Bool} {i j : Nat} {fs xs : List D} {a C dx p : Addr} {us vs : List V} (R : RosS K F O env σ H b i j fs xs a C dx p us vs) :
    ∃ pd q ws, SlX.Slt H a C dx ws ∧ SlX.SCls K C ∧ SlX.Slot1 K C "own_past" pd q ∧ ws[q]? = some (some (.ref p)) := by
  have hu2 : (us ++ [V.ref p])[5]? = some (.ref p) := by
    obtain ⟨_, _, _, _, h5, _⟩ := R.at_
    rw [List.getElem?_append_right (by omega), h5]
    rfl
  exact R.at_.fld (k := 5) rfl hu2
end
end AH
namespace AH
open PySem PySem.Spec PyProof.Rows L2
section
variable [TheK]
variable {K : PySem.W.Frag} {F : Fm} {O : Nat → Option Addr} {env : Env} {σ : L2.St} {H : Hp} {b : Bool} {i j : Nat} {fs xs : List D} {a C dx p : Addr} {us vs : List V}
end
section
variable [TheK] {fl : Fl} {X : Cx} {Wx : WX} {x : Str} {i : Nat} {p p1 p2 p3 pos : Pos}
theorem RepL.dropLast {W : Pr} {H : Hp} {vs : List V} {ds : List D} (l : RepL W H vs ds) : RepL W H vs.dropLast ds.dropLast := by
  rw [List.dropLast_eq_take, List.dropLast_eq_take, l.len]
  exact l.take _
end
end AH
namespace AH
open PySem PySem.Spec PyProof.Rows L2
/-! ### x.f op= value, f a slot -/
section
variable [TheK] {fl : Fl} {X : Cx} {Wx : WX} {a : Expr} {ma : DE} {x f : Str} {i k : Nat} {p1 p2 pos : Pos}
end
end AH
namespace AH
open PySem PySem.Spec PyProof.Rows L2
/-! ### o.m(e, ..), o an instance with slots -/
section
variable {X : Cx} {CX : CXT} {k : Nat} {C g : Addr} {fd : FuncData} {ps : List Str} {sp : Sp} {E : L2.St → XK} {pl : Sem Bool} {o e : Expr} {es : List Expr} {m : Str} {apos pos : Pos} {ta : TE} {t : TA}
end
section
variable [TheK]
/-! ### what a method promises -/
inductive Rm where
  | ok (d : D) (fs xs : List D) | ex (c : Str) (es fs xs : List D) | bad
abbrev DM := List D → List D → List D → Rm
def slM (n : Nat) (ds fs xs : List D) (l : Nat) : Sl := if l = 0 then .ros true (n - 1) fs else if l = n - 1 then .pst true xs else match ds[l - 1]? with
  | some d => .val d
  | none => .no
def startM (n : Nat) (ds fs xs : List D) : Env := (List.range n).map (slM n ds fs xs)
def BoM (K : PySem.W.Frag) (F : Fm) (j : Nat) (H : Hp) (fs xs : List D) : Prop := ∃ a C dx p us vs, F.ba 0 = some a ∧ F.ba j = some p ∧ RosAt K H a C dx us p ∧ dx ≠ a ∧ dx ≠ p ∧ ¬ F.N dx ∧ RepL F.P H us fs ∧ H p = some (.lst vs) ∧ RepL F.P H vs xs
def spM (K : PySem.W.Frag) (N : List Str) (k : Nat) (g : DM) : Sp := fun vs H Q E => vs.length = k + 1 ∧ ∃ (ds fs xs : List D) (F : Fm) (O : Nat → Option Addr),
  SR K F O (startM N.length ds fs xs) (start N vs) H ∧ F.H0 = H ∧ ds.length = k ∧ match g ds fs xs with
    | .ok d fs' xs' => ∀ v H', KeB F H H' → BoM K F (N.length - 1) H' fs' xs' → Rep F.P H' v d → Q v H'
    | .ex c es fs' xs' => ∀ cls dd H', KeB F H H' → BoM K F (N.length - 1) H' fs' xs' → XR K F.P c es cls dd H' → E cls dd H'
    | .bad => False
end
end AH
namespace AH
open PySem PySem.Spec PyProof.Rows L2
section
variable [TheK]
variable {K : PySem.W.Frag} {F : Fm} {O : Nat → Option Addr} {env : Env} {σ : L2.St} {H H' : Hp} {b : Bool} {i j : Nat} {fs xs : List D} {a C dx p : Addr} {us vs : List V}
theorem RosS.ext (R : RosS K F O env σ H b i j fs xs a C dx p us vs) (k : ∀ a o, H a = some o → H' a = some o) : RosS K F O env σ H' b i j fs xs a C dx p us vs :=
  ⟨R.oi, R.oj, R.bi, R.bj, R.g, R.gj, R.at_.keep (k _) (k _), R.nd, R.l.mono (ke_all k), R.si, R.sj, k _ _ R.hp, R.lp.mono (ke_all k)⟩
end
/-! ### methods called -/
section
variable [TheK]
structure KnM (P : Program) (w : World) (K : PySem.W.Frag) (mg : Str → Option Value) (base : Heap) (m qual : Str) (st : Stmt) (N ps : List Str) (n : Nat) (g : DM) (k : Nat) : Prop where
  ex : ∃ (f : Addr) (fd : FuncData), FnOk P w K mg base (L2.CX P w) k f fd ps (spM K N n g) ∧ Meth K (He.ga K "Roster") m f ∧ Binds K fd ps [] ∧ FunD K m qual (defArgs st) (defBody st) (defScope st) [] [] f fd
  le : n + 2 ≤ N.length
section
variable {P : Program} {w : World} {K : PySem.W.Frag} {mg : Str → Option Value} {base : Heap} {x qual : Str} {st : Stmt} {N ps : List Str} {n : Nat} {g : DM} {k : Nat} {m : DS}
end
section
variable {X : Cx} {Wx : WX} {x m : Str} {i n : Nat} {N : List Str} {g : DM} {e : Expr} {es : List Expr} {as : DL} {p1 apos pos : Pos} {pl : Sem Bool}
structure MtX (X : Cx) (m : Str) (N : List Str) (n : Nat) (g : DM) : Prop where
  ex : ∃ (k : Nat) (f : Addr) (fd : FuncData) (ps : List Str), FnOk X.prog X.w X.K X.mg X.base (L2.CX X.prog X.w) k f fd ps (spM X.K N n g) ∧ Room k X.A ∧ Meth X.K (He.ga X.K "Roster") m f ∧ Binds X.K fd ps []
  le : n + 2 ≤ N.length
theorem KnM.mt {k : Nat} {qual : Str} {st : Stmt} {ps : List Str} (F : KnM X.prog X.w X.K X.mg X.base m qual st N ps n g k) {j : Nat} (hr : Room j X.A) (h : k ≤ j := by decide) : MtX X m N n g := by
  obtain ⟨⟨f, fd, a, b, c, _⟩, le⟩ := F
  exact ⟨⟨k, f, fd, ps, a, hr.mono h, b, c⟩, le⟩
end
end
end AH
namespace AH
open PySem PySem.Spec PyProof.Rows L2
variable [TheK]
/-! ### a new roster kept -/
section
variable {K : PySem.W.Frag} {F : Fm} {O : Nat → Option Addr} {e : Env} {σ : L2.St} {H : Hp} {i j : Nat} {a p C dx : Addr} {us vs : List V} {fs xs : List D}
end
section
variable {fl : Fl} {X : Cx} {Wx : WX} {a : Expr} {ma : DE} {x : Str} {i j : Nat} {p pos : Pos}
end
end AH
namespace AH
open PySem PySem.Spec PyProof.Rows L2
variable [TheK]
/-! ### a roster made -/
def newF (n : Int) : List D := [.tup [.int n, .tup []], .tup (rep [.int 0] n), .tup [.int n, .tup []], .tup [.int n, .tup []], .int 0]
/-- the fields that are known -/
def KnF (K : PySem.W.Frag) (C : Addr) (vs : List (Option V)) (L : List (Str × V)) : Prop := ∀ f v, (f, v) ∈ L → f ∈ rosNames ∧ ∃ i, slIx K C f = some i ∧ vs[i]? = some (some v)
theorem slIx_inj {K : PySem.W.Frag} {C : Addr} (h : RosC K C) {f f' : Str} {i : Nat} (hf : f ∈ rosNames) (hf' : f' ∈ rosNames) (e : slIx K C f = some i) (e' : slIx K C f' = some i) : f = f' := by
  obtain ⟨k, hk, ek⟩ := List.getElem_of_mem hf
  obtain ⟨k', hk', ek'⟩ := List.getElem_of_mem hf'
  have n1 : (rosNames.map (slIx K C))[k]? = some (some i) := by rw [List.getElem?_map, List.getElem?_eq_getElem hk, ek]; exact congrArg some e
  have n2 : (rosNames.map (slIx K C))[k']? = some (some i) := by rw [List.getElem?_map, List.getElem?_eq_getElem hk', ek']; exact congrArg some e'
  have := nodup_get h.nd n1 n2
  subst this
  exact ek.symm.trans ek'
theorem KnF.put {K : PySem.W.Frag} {C pd : Addr} {vs : List (Option V)} {L : List (Str × V)} (hC : RosC K C) (h : KnF K C vs L) {f : Str} {i : Nat} {v : V} (t : SlX.Slot1 K C f pd i) (hf : f ∈ rosNames) (hn : ∀ q ∈ L, q.1 ≠ f) : KnF K C (SlX.putS i v vs) ((f, v) :: L) := fun f' v' hm => by
  rcases List.mem_cons.mp hm with e | hm
  · cases e
    exact ⟨hf, i, slot_ix t, SlX.putS_get i v vs⟩
  · obtain ⟨m, i', e1, e2⟩ := h f' v' hm
    refine ⟨m, i', e1, (SlX.putS_ne fun z => hn _ hm ?_).mpr e2⟩
    subst z
    exact slIx_inj hC m hf e1 (slot_ix t)
def Z0 (Hb : Hp) : Pr := fun a => Hb a ≠ none ∧ ∀ xs, Hb a ≠ some (.tup xs)
def Fm.ini (Hb : Hp) (x dx : Addr) : Fm := ⟨fun a => Z0 Hb a ∨ (a = x ∨ a = dx), fun a => a = x ∨ a = dx, Hb, fun _ => none⟩
structure Ini2 (K : PySem.W.Frag) (Hb : Hp) (x dx C : Addr) (n : Int) (σ : L2.St) (H : Hp) (L : List (Str × V)) : Prop where
  S : SR K (Fm.ini Hb x dx) (fun _ => none) [.no, .val (.int n)] σ H
  sl : ∃ vs, SlX.Slt H x C dx vs ∧ KnF K C vs L
  g : get1 σ 0 = some (.ref x)
abbrev Oini : Nat → Option Addr := fun _ => none
theorem Ini2.store {K : PySem.W.Frag} {Hb : Hp} {x dx C : Addr} {n : Int} {σ : L2.St} {H : Hp} {L : List (Str × V)} (I : Ini2 K Hb x dx C n σ H L) (hx : Hb x = none) (hd : Hb dx = none) (ne : dx ≠ x) (vs : List (Option V)) (L' : List (Str × V)) (hk : KnF K C vs L') : Ini2 K Hb x dx C n σ (SlX.slH H x C dx vs) L' := by
  refine ⟨?_, ⟨vs, SlX.slH_slt ne, hk⟩, I.g⟩
  unfold SlX.slH
  have nj : ∀ a, ¬ Jo Oini a := fun a ⟨i, h⟩ => by cases h
  exact SR.updQ (SR.updQ I.S (.inr (.inr rfl)) (.inr rfl) (nj _) hd) (.inr (.inl rfl)) (.inl rfl) (nj _) hx
theorem slH_rep {H : Hp} {x C dx : Addr} {vs : List (Option V)} {Z : Pr} {v : V} {d : D} (hZ : Z x ∧ Z dx) (r : Rep Z H v d) : Rep Z (SlX.slH H x C dx vs) v d := by
  unfold SlX.slH
  exact (r.mono (Ke.mut hZ.2)).mono (Ke.mut hZ.1)
/-- three values to three slots -/
theorem Ini2.three {X : Cx} {Hb : Hp} {x dx C : Addr} {n : Int} {σ : L2.St} {H : Hp} {v : V} {a b c : D} {f1 f2 f3 : Str} {L : List (Str × V)} {Q : L2.St → Hp → Prop} (I : Ini2 X.K Hb x dx C n σ H L) (hx : Hb x = none) (hd : Hb dx = none) (ne : dx ≠ x) (hC : RosC X.K C) (m1 : f1 ∈ rosNames) (m2 : f2 ∈ rosNames) (m3 : f3 ∈ rosNames)
    (n1 : ∀ q ∈ L, q.1 ≠ f1 ∧ q.1 ≠ f2 ∧ q.1 ≠ f3) (n2 : f1 ≠ f2 ∧ f1 ≠ f3 ∧ f2 ≠ f3) (r : Rep (Ow (Fm.ini Hb x dx) Oini) H v (.tup [a, b, c]))
    (q : ∀ H' v1 v2 v3, Ini2 X.K Hb x dx C n σ H' ((f3, v3) :: (f2, v2) :: (f1, v1) :: L) → (∀ f, H' x ≠ some (.ins C dx f)) → Rep (Ow (Fm.ini Hb x dx) Oini) H' v1 a → Rep (Ow (Fm.ini Hb x dx) Oini) H' v2 b → Rep (Ow (Fm.ini Hb x dx) Oini) H' v3 c → (∀ w d, Rep (Ow (Fm.ini Hb x dx) Oini) H w d → Rep (Ow (Fm.ini Hb x dx) Oini) H' w d) → Q σ H') : gTup X.K 3 (gCons (gSl X.K (tVar 0) f1) (gCons (gSl X.K (tVar 0) f2) (gCons (gSl X.K (tVar 0) f3) gNil))) v σ H Q := by
  obtain ⟨p1, i1, t1⟩ := hC.sl f1 m1
  obtain ⟨p2, i2, t2⟩ := hC.sl f2 m2
  obtain ⟨p3, i3, t3⟩ := hC.sl f3 m3
  cases r with
  | tup nn hh l =>
    cases l with | cons r1 l => cases l with | cons r2 l => cases l with | cons r3 l =>
      cases l
      rename_i v1 v2 v3
      refine ⟨_, _, rfl, .inl (.inl hh), rfl, _, _, rfl, ?_⟩
      obtain ⟨vs, sl, kf⟩ := I.sl
      refine ⟨_, get1_some I.g, x, C, dx, p1, vs, i1, rfl, sl, hC.o.sc, t1, _, _, rfl, ?_⟩
      have k1 := kf.put (v := v1) hC t1 m1 fun q hq => (n1 q hq).1
      have k2 := k1.put (v := v2) hC t2 m2 fun q hq => by
        rcases List.mem_cons.mp hq with rfl | hq
        · exact n2.1
        · exact (n1 q hq).2.1
      have k3 := k2.put (v := v3) hC t3 m3 fun q hq => by
        rcases List.mem_cons.mp hq with rfl | hq
        · exact n2.2.2
        · rcases List.mem_cons.mp hq with rfl | hq
          · exact n2.2.1
          · exact (n1 q hq).2.2
      refine ⟨_, get1_some I.g, x, C, dx, p2, _, i2, rfl, SlX.slH_slt ne, hC.o.sc, t2, _, _, rfl, ?_⟩
      refine ⟨_, get1_some I.g, x, C, dx, p3, _, i3, rfl, SlX.slH_slt ne, hC.o.sc, t3, rfl, ?_⟩
      have hZ : Ow (Fm.ini Hb x dx) Oini x ∧ Ow (Fm.ini Hb x dx) Oini dx := ⟨.inl (.inr (.inl rfl)), .inl (.inr (.inr rfl))⟩
      have rr : ∀ w d, Rep (Ow (Fm.ini Hb x dx) Oini) H w d → Rep (Ow (Fm.ini Hb x dx) Oini) _ w d := fun w d r => slH_rep (vs := SlX.putS i3 v3 (SlX.putS i2 v2 (SlX.putS i1 v1 vs))) (C := C) hZ (slH_rep (vs := SlX.putS i2 v2 (SlX.putS i1 v1 vs)) (C := C) hZ (slH_rep (vs := SlX.putS i1 v1 vs) (C := C) hZ r))
      refine q _ v1 v2 v3 (((I.store hx hd ne _ _ k1).store hx hd ne _ _ k2).store hx hd ne _ _ k3) (fun f z => ?_) (rr _ _ r1) (rr _ _ r2) (rr _ _ r3) rr
      unfold SlX.slH at z
      rw [upd_same] at z
      cases z
def spInit2 (K : PySem.W.Frag) (C : Addr) : Sp := fun vs H Q _ => ∃ x dx n Hb, vs = [.ref x, .int n] ∧ H = upd (upd Hb dx (.own x)) x (.ins C dx []) ∧ Hb x = none ∧ Hb dx = none ∧ dx ≠ x ∧ 1 ≤ n ∧ n ≤ 1000 ∧
  ∀ H' us p, (∀ a o, Hb a = some o → H' a = some o) → RosAt K H' x C dx us p → H' p = some (.lst []) → Hb p = none → (∀ Z' : Pr, (∀ b, Z' b → ∀ xs, H' b ≠ some (.tup xs)) → RepL Z' H' us (newF n)) → Q .non H'
section
variable {P : Program} {w : World} {K : PySem.W.Frag} {mg : Str → Option Value} {base : Heap} {params : Arguments} {body : List Stmt} {scope : Scope} {f C : Addr} {fd : FuncData}
end
end AH
namespace AH
open PySem PySem.Spec PyProof.Rows L2
variable [TheK]
/-! ### Roster(n) -/
structure RosM (P : Program) (w : World) (K : PySem.W.Frag) (mg : Str → Option Value) (base : Heap) : Prop where
  ex : ∃ f fd, FnOk P w K mg base CX0 1 f fd ["self", "hours"] (spInit2 K (He.ga K "Roster")) ∧ Mk K (He.ga K "Roster") f ∧ Binds K fd ["self", "hours"] []
  mg : mg "Roster" = some (.ref (He.ga K "Roster"))
  c : RosC K (He.ga K "Roster")
/-! ### the head -/
end AH
namespace AH
open PySem PySem.Spec PyProof.Rows L2
/-! ### sorted(xs, key=by_due): (first, last), work = errand; return (last, first) -/
section
variable {prog : Program} {w : World} {A : Around} {E : Value → Shared → Prop} {s : Shared} {K : PySem.W.Frag} {x : Str} {st : Stmt} {f : Addr} {fd : FuncData} {ps : List Str} {us : List Value} {Q : Value → Shared → Prop}
end
section
variable {prog : Program} {w : World} {A : Around} {s : Shared} {name : Str} {scope : Scope} {L f : Addr} {cd : Value} {h₀ : Heap} {m : Str → Option Value} {a q : Addr} {u v wk : Value}
end
/-! ### sorted(a tuple, key=..) -/
section
variable {prog : Program} {w : World} {A : Around} {E : Value → Shared → Prop} {s : Shared}
theorem collect_tupT {l : Addr} {vs : List Value} {Q : List Value → Shared → Prop} (hl : s.heap.IsTuple l vs.toArray)
    (h : Q vs { s with heap := (s.heap.push (seqObj "list" #[] 0)).update s.heap.objs.size (Obj.mapSeq (· ++ vs.toArray)) }) (hsz : vs.length ≤ sizeLine) :
    wpAny (model prog w) A (collect (.ref l)) Q E s := by
  obtain ⟨o, ho, hc, n, hd⟩ := id hl
  unfold collect
  refine wpAny_bind (wpAny_runValue (codeAny_builtin entry_proto_collect' ?_))
  show wpAny _ _ (do again (.builtin "list.__iadd__" ⟨[← newList [], .ref l], []⟩)) _ _ s
  refine wpAny_bind (wpAny_newList (wpAny_pure ⟨Code.quiet_builtin _ (by decide +kernel), codeAny_builtin entry_list_iadd' ?_⟩) (by simp))
  show wpAny _ _ (Builtin.List.listExtendWith (.ref s.heap.objs.size) (.ref l) (.ref s.heap.objs.size)) _ _ { s with heap := s.heap.push (seqObj "list" #[] 0) }
  unfold Builtin.List.listExtendWith
  have ho' : (s.heap.push (seqObj "list" #[] 0)).get? l = some o := Heap.get?_push_of_some _ ho
  refine wpAny_bind (wpAny_typeOf (T := "tuple") ⟨o, ho', hc⟩ ?_)
  have ht : (Value.type "tuple" == Value.type "tuple") = true := by rfl
  rw [if_pos (by rw [ht]; simp)]
  refine wpAny_bind (listItems_at ho' hd ?_)
  refine wpAny_bind (listItems_at (xs := #[]) (n := 0) (Heap.get?_push_size _ rfl) rfl ?_)
  rw [if_neg (by simp)]
  refine wpAny_bind (listUpdate_at (xs := #[]) (n := 0) (Heap.get?_push_size _ rfl) rfl ?_ (Nat.zero_le _) (by show (#[] ++ vs.toArray).size ≤ sizeLine + 1; simp only [Array.size_append, List.size_toArray, List.length_nil]; omega))
  refine wpAny_pure ?_
  show wpAny (model prog w) A (do
      let o ← load s.heap.objs.size
      match o.data with
      | .seq xs _ => pure xs.toList
      | _ => unsupported "internal:collect") Q E { s with heap := (s.heap.push (seqObj "list" #[] 0)).update s.heap.objs.size (Obj.mapSeq (· ++ vs.toArray)) }
  refine wpAny_bind (wpAny_load (get?_update_seq (Heap.get?_push_size _ rfl) _) ?_)
  show wpAny _ _ (pure ((#[] : Array Value) ++ vs.toArray).toList) Q E _
  rw [show ((#[] : Array Value) ++ vs.toArray).toList = vs by simp]
  exact wpAny_pure h
theorem sorted_of_sortT {l : Addr} {vs : List Value} {kw : List (Str × Value)} {Q : Value → Shared → Prop} (hl : s.heap.IsTuple l vs.toArray) (hL : vs.length ≤ sizeLine) (ha1 : PySem.argsOk "sorted" ⟨[.ref l], kw⟩) (ha2 : ∀ x, PySem.argsOk "list.sort" ⟨[.ref x], kw⟩)
    (body : ∀ E' : Value → Shared → Prop, wpAny (model prog w) A.in1.in1 (Builtin.«list.sort» ⟨[.ref (s.heap.objs.size + 1)], kw⟩) (fun f s' => f = .done (.ret .none) ∧ Q (.ref (s.heap.objs.size + 1)) s') E' { s with heap := PySem.W.copyHeap s.heap vs }) :
    wpAny (model prog w) A (call (.builtin "sorted") [.ref l] kw) Q E s := by
  refine PyProof.Rows.call_function_entry_kw kind_sorted plain_sorted entry_sorted ha1 ?_
  unfold Builtin.«sorted»
  refine wpAny_bind (m := checkCount "sorted" 1 1 _) (wpAny_pure ?_)
  refine wpAny_bind (collect_tupT hl ?_ hL)
  refine wpAny_bind (wpAny_newList ?_ hL)
  have hsz : ((s.heap.push (seqObj "list" #[] 0)).update s.heap.objs.size (Obj.mapSeq (· ++ vs.toArray))).objs.size = s.heap.objs.size + 1 := by
    rw [Heap.size_update, size_push']
  show wpAny _ _ _ _ _ { s with heap := PySem.W.copyHeap s.heap vs }
  rw [hsz]
  refine wpAny_bind (wpAny_holding (wpAny_call_entry_kw slot_list_sort ⟨_, PySem.W.copyHeap_at s.heap vs, rfl⟩ entry_list_sort ?body (ha2 _)))
  case body =>
    show wpAny (model prog w) A.in1.in1 (Builtin.«list.sort» ⟨[.ref (s.heap.objs.size + 1)], kw⟩) _ _ _
    refine wpAny_mono (body _) (fun f s' hf => ?_) fun _ _ e => e
    obtain ⟨rfl, hq⟩ := hf
    exact ⟨_, rfl, wpAny_pure ⟨_, rfl, hq⟩⟩
end
section
open PySem.W PySem.Calls
variable {prog : Program} {w : World} {A : Around} {E : Value → Shared → Prop} {s : Shared} {β : Type} {vs : List Value} {bs : List β} {R : Value → β → Prop}
end
end AH
namespace AH
open PySem PySem.Spec PyProof.Rows L2
structure KeyE (K : PySem.W.Frag) (mg : Str → Option Value) (x : Str) (f : Addr) : Prop where
  mg : mg x = some (.ref f)
  run : ∀ {prog : Program} {w : World} {A : Around} {E : Value → Shared → Prop} {s : Shared} {a q : Addr} {u v wk : Value} {Q : Value → Shared → Prop}, K.In s.heap → s.heap.NoLimit → A.depth < recursionLimit → A.handled = none → IsTup s.heap a #[.ref q, wk] → IsTup s.heap q #[u, v] →
    (∀ h' tk q, (∀ b o, s.heap.get? b = some o → h'.get? b = some o) → h'.get? q = some { cls := .type "tuple", data := .seq #[v, u] } → Q (.ref q) { s with heap := h', toks := tk }) → wpAny (model prog w) A (call (.ref f) [.ref a]) Q E s
section
variable {X : Cx}
end
section
variable [TheK] {X : Cx} {Wx : WX} {a : Expr} {ma : DE} {x : Str} {f : Addr} {j : Nat} {p pf pos kpos : Pos}
end
end AH
namespace AH
open PySem PySem.Spec PyProof.Rows L2
variable [TheK]
end AH
namespace AH
open PySem PySem.Spec PyProof.Rows L2
/-! ### a roster lent to a def, as its first argument -/
section
variable [TheK]
structure KnG (P : Program) (w : World) (K : PySem.W.Frag) (mg : Str → Option Value) (base : Heap) (x : Str) (N : List Str) (n : Nat) (g : DM) (k : Nat) : Prop where
  ex : ∃ (f : Addr) (fd : FuncData) (ps : List Str), FnOk P w K mg base (L2.CX P w) k f fd ps (spM K N n g) ∧ mg x = some (.ref f) ∧ PySem.W.keepIn K (.ref f) = true ∧ Binds K fd ps []
  le : n + 2 ≤ N.length
section
variable {P : Program} {w : World} {K : PySem.W.Frag} {mg : Str → Option Value} {base : Heap} {x : Str} {st : Stmt} {N ps : List Str} {n : Nat} {g : DM} {k : Nat} {m : DS}
end
section
variable {X : Cx} {Wx : WX} {x f : Str} {i n : Nat} {N : List Str} {g : DM} {es : List Expr} {as : DL} {p p1 pos : Pos}
structure RfX (X : Cx) (x : Str) (N : List Str) (n : Nat) (g : DM) : Prop where
  ex : ∃ (k : Nat) (f : Addr) (fd : FuncData) (ps : List Str), FnOk X.prog X.w X.K X.mg X.base (L2.CX X.prog X.w) k f fd ps (spM X.K N n g) ∧ Room k X.A ∧ X.mg x = some (.ref f) ∧ PySem.W.keepIn X.K (.ref f) = true ∧ Binds X.K fd ps []
  le : n + 2 ≤ N.length
theorem KnG.mt {k : Nat} (F : KnG X.prog X.w X.K X.mg X.base x N n g k) {j : Nat} (hr : Room j X.A) (h : k ≤ j := by decide) : RfX X x N n g := by
  obtain ⟨⟨f, fd, ps, a, b, c, d⟩, le⟩ := F
  exact ⟨⟨k, f, fd, ps, a, hr.mono h, b, c, d⟩, le⟩
end
end
end AH
namespace AH
open PySem PySem.Spec PyProof.Rows L2
variable [TheK]
/-! ### f(..).m(), f a def that makes a roster -/
section
variable {K : PySem.W.Frag} {F : Fm} {O O3 : Nat → Option Addr} {e : Env} {σ σ3 : L2.St} {H H' : Hp}
theorem sl_grow : ∀ {e : Env} (k : Nat), sl (e ++ [.no, .no]) k = sl e k
  | [], 0 => rfl
  | [], 1 => rfl
  | [], _ + 2 => rfl
  | _ :: _, 0 => rfl
  | _ :: e, k + 1 => sl_grow (e := e) k
theorem get1_grow {σ : L2.St} (k : Nat) : get1 (σ ++ [none, none]) k = get1 σ k := by
  unfold get1
  by_cases h : k < σ.length
  · rw [List.getElem?_append_left h]
  · rw [List.getElem?_append_right (by omega), List.getElem?_eq_none (l := σ) (by omega)]
    obtain ⟨j, hj⟩ : ∃ j, k - σ.length = j := ⟨_, rfl⟩
    rw [hj]
    cases j with
    | zero => rfl
    | succ j => cases j <;> rfl
theorem SR.grow (S : SR K F O e σ H) : SR K F O (e ++ [.no, .no]) (σ ++ [none, none]) H :=
  ⟨fun k => by rw [sl_grow, get1_grow]; exact S.slot k, S.inj, S.prot, S.keep, S.al, by rw [List.length_append, List.length_append, S.len]; rfl, S.nal, S.pt, fun k b j fs h => by
    rw [sl_grow] at h
    obtain ⟨xs, q⟩ := S.lnk k b j fs h
    exact ⟨xs, by rw [sl_grow]; exact q⟩⟩
end
section
variable {X : Cx} {Wx : WX} {m : Str} {N : List Str} {g : DM} {o : Expr} {mo : DE} {apos pos : Pos} {pl : Sem Bool}
end
end AH
namespace AH
open PySem PySem.Spec PyProof.Rows L2
variable [TheK]
/-! ### o.m(k = e, ..) -/
section
variable {X : Cx} {CX : CXT} {k : Nat} {C g : Addr} {fd : FuncData} {ps ks : List Str} {sp : Sp} {E : L2.St → XK} {pl : Sem Bool} {o : Expr} {kws : List Keyword} {m : Str} {apos pos : Pos} {ta : TE} {t : TA} {ix : List Nat}
end
section
structure MtK (X : Cx) (m : Str) (N : List Str) (n : Nat) (g : DM) (ks : List Str) (ix : List Nat) : Prop where
  ex : ∃ (k : Nat) (f : Addr) (fd : FuncData) (ps : List Str), FnOk X.prog X.w X.K X.mg X.base (L2.CX X.prog X.w) k f fd ps (spM X.K N n g) ∧ Room k X.A ∧ Meth X.K (He.ga X.K "Roster") m f ∧
    ∀ (s : Shared) (u : Value) (ws : List Value), X.K.In s.heap → ws.length = ks.length → BindsTo s fd ⟨[u], ks.zip ws⟩ (ps.zip (u :: perm ix ws))
  le : n + 2 ≤ N.length
end
/-! ### o, x = Roster(..), y -/
section
variable {fl : Fl} {X : Cx} {Wx : WX} {a b c : Expr} {ma mb mc : DE} {pos : Pos} {st : Stmt} {es : List Expr}
end
end AH
namespace AH
open PySem PySem.Spec PyProof.Rows L2
/-! ### try with some handlers that keep the error -/
structure HX where
  x : Str
  np : Pos
  st : Stmt
  sts : List Stmt
  pos : Pos
  c : Value
  ts : TS
def HX.stmt (n : Str) (h : HX) : ExceptHandler := .ExceptHandler (some (.Name h.x h.np)) (some n) (h.st :: h.sts) h.pos
def wKs (K : PySem.W.Frag) (i : Nat) (Wout : WX) (D : Ends) : List HX → WX
  | [] => Wout
  | h :: hs => wKp K h.c i h.ts (wKs K i Wout D hs) D
section
variable {X : Cx} {n : Str} {i : Nat} {body : List Stmt} {pos : Pos} {tb : WX → TS} {Wout : WX}
end
variable [TheK]
def hdlsX (i : Nat) (e1 : Env) (c' : Str) (fs : List D) : List (Str × DS) → R Out
  | [] => .ex c' fs e1
  | (c, ms) :: r => if c' = c then hdlX i ms e1 c' fs else hdlsX i e1 c' fs r
def sTryNX (hs : List (Str × DS)) (i : Nat) (m : DS) : DS := fun e => match m e with
  | .ok o e1 => .ok o e1
  | .ex c' fs e1 => hdlsX i e1 c' fs hs
  | .bad => .bad
section
variable {fl : Fl} {X : Cx} {Wx : WX} {n : Str} {i : Nat} {body : List Stmt} {m : DS} {pos : Pos}
inductive HsD (fl : Fl) (X : Cx) (n : Str) : List ExceptHandler → List (Str × DS) → Prop
  | nil : HsD fl X n [] []
  | cons {c : Str} {np p' : Pos} {s1 : Stmt} {ms : DS} {L : List ExceptHandler} {hs : List (Str × DS)} (hg : Gl X c) (hdb : (c == ("__debug__" : Str)) = false) (hm : X.mg c = some (.ref (He.ga X.K c))) (hx : ∀ c' ∈ TheK.xs, PySem.W.exmOne X.K (.ref (He.ga X.K c')) (.ref (He.ga X.K c)) = some (decide (c' = c)))
      (hsu : ∀ (a : Addr) (pn : List (Addr × Obj)), SsD fl (X.suite a pn) (fun _ _ _ _ => False) [s1] ms) : HsD fl X n L hs → HsD fl X n (.ExceptHandler (some (.Name c np)) (some n) [s1] p' :: L) ((c, ms) :: hs)
theorem HsD.get {L : List ExceptHandler} {hs : List (Str × DS)} (h : HsD fl X n L hs) (hK : X.K = TheK.K) : ∃ H : List HX, L = H.map (HX.stmt n) ∧ (∀ h ∈ H, Names X h.x h.c) ∧ (∀ h ∈ H, ∀ (a : Addr) (pn : List (Addr × Obj)), PSs (X.suite a pn) (h.st :: h.sts) h.ts) ∧
    ∀ {F : Fm} {O O1 : Nat → Option Addr} {e1 : Env} {σ1 : L2.St} {H0 H1 : Hp} {D : Ends} {c' : Str} {fs : List AH.D} {cls : Value} {d : Option Addr}, SR X.K F O1 e1 σ1 H1 → KeS O H0 O1 H1 → XR X.K (Ow F O1) c' fs cls d H1 →
      Want (fun _ : Env => hdlsX i e1 c' fs hs) e1 (Post fl X.K F O H0 D) (XWs X.K F O H0 Wx) → wKs X.K i Wx D H cls d σ1 H1 := by
  induction h with
  | nil => exact ⟨[], rfl, fun _ h => (by cases h), fun _ h => (by cases h), fun {F O O1 e1 σ1 H0 H1 D c' fs cls d} S1 k1 xr w => w O1 σ1 cls d H1 S1 k1 xr⟩
  | @cons c np p' s1 ms L hs hg hdb hm hx hsu h ih =>
    obtain ⟨H, e, h1, h2, h3⟩ := ih
    refine ⟨⟨c, np, s1, [], p', .ref (He.ga X.K c), tSs fl X.K ms fun _ _ _ _ => False⟩ :: H, by rw [List.map_cons, ← e]; rfl, fun h hh => ?_, fun h hh => ?_, fun {F O O1 e1 σ1 H0 H1 D c' fs cls d} S1 k1 xr w => ?_⟩
    · rcases List.mem_cons.mp hh with rfl | hh
      · exact ⟨hg, hdb, .inl hm⟩
      · exact h1 h hh
    · rcases List.mem_cons.mp hh with rfl | hh
      · exact fun a pn => SsD.pss (hsu a pn)
      · exact h2 h hh
    · have hmem := xr.1.2
      have ecls := xr.1.1
      refine ⟨decide (c' = c), by rw [ecls]; exact hx c' hmem, fun hb a na => ?_, fun hb => ?_⟩
      · have w : Want (fun _ : Env => if c' = c then hdlX i ms e1 c' fs else hdlsX i e1 c' fs hs) e1 (Post fl X.K F O H0 D) (XWs X.K F O H0 Wx) := w
        rw [if_pos (of_decide_eq_true hb)] at w
        exact hdl_run (E := XWs X.K F O H0 Wx) hK S1 k1 xr w a na
      · have w : Want (fun _ : Env => if c' = c then hdlX i ms e1 c' fs else hdlsX i e1 c' fs hs) e1 (Post fl X.K F O H0 D) (XWs X.K F O H0 Wx) := w
        rw [if_neg (of_decide_eq_false hb)] at w
        exact h3 S1 k1 xr w
end
end AH
namespace AH
open PySem PySem.Spec PyProof.Rows L2
variable [TheK]
/-! ### xs == [], xs != [], whatever stands in xs -/
section
variable {X : Cx}
end
/-! ### len(o), o a roster -/
section
variable {X : Cx} {Wx : WX} {C f : Addr} {fd : FuncData} {ps : List Str} {sp : Sp} {E : XK} {CX : CXT} {k : Nat}
end
end AH
namespace AH
open PySem PySem.Spec PyProof.Rows L2
/-! ### try with handlers of some classes each: except (A, B) as e -/
/-- what an except's test asks -/
def TestT (X : Cx) (t : Expr) (cs : List Value) : Prop := ∀ (a : Addr) (pn : List (Addr × Obj)) (σ : L2.St) (H : Hp) (s : Shared) (cls : Value) (b : Bool) (Q : Bool → Shared → Prop) (E : Value → Shared → Prop), Inv (X.suite a pn) [] σ H s → PySem.W.Looks (model X.prog X.w) s.heap (typeOf (.ref a)) cls → PySem.W.exmAny X.K cls cs = some b →
  (∀ h', (∀ q o, s.heap.get? q = some o → h'.get? q = some o) → Q b { s with heap := h' }) → wpAny (model X.prog X.w) (X.A.mark (some (.ref a))) (eval t X.env) (fun c s1 => wpAny (model X.prog X.w) (X.A.mark (some (.ref a))) (excMatches (.ref a) c) Q E s1) E s
section
variable {X : Cx} {a : Addr} {pn : List (Addr × Obj)} {σ : L2.St} {H : Hp} {s : Shared}
theorem ld_names {x : Str} {c : Value} {np : Pos} {Q : Value → Shared → Prop} {E : Value → Shared → Prop} (hc : Names X x c) (Z : Inv (X.suite a pn) [] σ H s) (q : Q c s) : wpAny (model X.prog X.w) (X.A.mark (some (.ref a))) (eval (.Name x np) X.env) Q E s := by
  obtain ⟨hg, hdg, hm | ⟨hm, hv, hnn⟩⟩ := hc
  · exact ld_glob (X := X.suite a pn) Z hg hm q hdg
  · exact ld_blt (X := X.suite a pn) Z hg hm hv q hnn hdg
theorem test_two {x1 x2 : Str} {c1 c2 : Value} {p1 p2 tpos : Pos} {kk : Nat} (n1 : Names X x1 c1) (n2 : Names X x2 c2) : TestT X (.Tuple [.Name x1 p1, .Name x2 p2] kk tpos) [c1, c2] := by
  intro a pn σ H s cls b Q E Z lty hx q
  refine wpAny_Tuple ?_
  refine wpAny_items_cons (ld_names n1 Z ?_)
  refine wpAny_items_cons (ld_names n2 Z ?_)
  refine wpAny_items_nil ⟨by size_fits, ?_⟩
  have kp : ∀ q o, s.heap.get? q = some o → (s.heap.push { cls := .type "tuple", data := .seq [c1, c2].toArray }).get? q = some o := fun _ _ z => Heap.get?_push_of_some _ z
  exact (PySem.W.exm_tup2 (M := model X.prog X.w) (Z.kIn.keeps kp) (lty.keeps kp) (Heap.get?_push_size s.heap rfl) hx).here (q _ kp)
theorem flyKeeps {base h h' : Heap} {l : List PySem.Env} {e : Addr} {Z : Obj → Prop} (x : HandSPX.FlyingZ base l e Z h) (k : ∀ b o, h.get? b = some o → h'.get? b = some o) : HandSPX.FlyingZ base l e Z h' := by
  obtain ⟨f1, f2, f3, oe, vs, T, oT, ts, he, hz, hd, h1, hn, hne, hT, hdT, h3⟩ := x
  exact ⟨fun b o q => k b o (f1 b o q), f2, f3.of_keeps fun b o q _ => ⟨o, k b o q, rfl⟩, oe, vs, T, oT, ts, k _ _ he, hz, hd, h1, hn, hne, k _ _ hT, hdT, h3⟩
end
def wKq (K : PySem.W.Frag) (cs : List Value) (i : Nat) (ts : TS) (Wout : WX) (D : Ends) : WX := fun cls d σ H =>
  ∃ b, PySem.W.exmAny K cls cs = some b ∧ (b = true → ∀ a, H a = none → ts { nx := fun σ' H' => D.nx (σ'.set i none) H', rt := D.rt, bk := fun σ' H' => D.bk (σ'.set i none) H', ct := fun σ' H' => D.ct (σ'.set i none) H' } (σ.set i (some (.ref a))) (upd H a (CgO cls d a))) ∧
    (b = false → Wout cls d σ H)
structure HT where
  t : Expr
  st : Stmt
  sts : List Stmt
  pos : Pos
  cs : List Value
  ts : TS
def HT.stmt (n : Str) (h : HT) : ExceptHandler := .ExceptHandler (some h.t) (some n) (h.st :: h.sts) h.pos
def wKt (K : PySem.W.Frag) (i : Nat) (Wout : WX) (D : Ends) : List HT → WX
  | [] => Wout
  | h :: hs => wKq K h.cs i h.ts (wKt K i Wout D hs) D
section
variable {X : Cx} {n : Str} {i : Nat} {body : List Stmt} {pos : Pos} {tb : WX → TS} {Wout : WX}
theorem ps_try_keepT (h₀ : HT) (hds : List HT) (hs : X.stack = X.env :: X.outer) (hf : X.env.frame = some X.env.locals) (hex : X.ex = []) (hN : X.N.Nodup) (hi : X.N[i]? = some n) (hln : X.env.kindOf n = some .local) (hc : ∀ h ∈ h₀ :: hds, TestT X h.t h.cs) (tk : Takes X Wout)
    (hb : ∀ (W : WX) (pn : List (Addr × Obj)) (xe : Value → Shared → Prop),  Takes (X.tr pn xe) W → PassesOwn (model X.prog X.w) X.A X.env xe → PSs (X.tr pn xe) body (tb W))
    (hsu : ∀ h ∈ h₀ :: hds, ∀ (a : Addr) (pn : List (Addr × Obj)), PSs (X.suite a pn) (h.st :: h.sts) h.ts) :
    PS X (.Try body (h₀.stmt n :: hds.map (HT.stmt n)) [] [] pos) (fun D σ H => tb (wKt X.K i Wout D (h₀ :: hds)) D σ H) := by
  refine ⟨fun pins s σ H D I h => ?_⟩; have ok := I.ok
  have hff : X.A.frames = some (X.env :: X.outer) := by rw [ok.frames, hs]
  have hlo : Loc X.env.scope n := .inl hln
  refine wpAny_Try_except ?_
  refine wpAny_mono ((hb (wKt X.K i Wout D (h₀ :: hds)) (X.pn ++ pins) (fun e s₁ => wpAny (model X.prog X.w) X.A (noteFrame e X.env) (fun _ s₂ => wpAny (model X.prog X.w) X.A (setFlight e none) (fun _ s₃ =>
    wpAny (model X.prog X.w) X.A (handleBy e X.env (h₀.stmt n :: hds.map (HT.stmt n))) (SP X pins D) X.xe s₃) X.xe s₂) X.xe s₁) (fun u s' xw => ?_) PassesOwn.looking).run [] s σ H D (I.toTry _) h) (fun f s1 sp1 => ?_) (fun e s1 he => he)
  · obtain ⟨a, B, sI, pins', σ', H', cls, d, rfl, Y', nb, uq, sk, na, os, ag, wk⟩ := xw
    have Y : Inv X pins σ' H' sI := Y'.ofTry ok
    have sk' : Sky B (X.env :: X.outer) a (Zc cls d) X.env.locals s'.heap := by rw [← hs]; exact sk
    refine Sky.land Zc.steady hff hf sk' fun h3 fy3 uq3 => ?_
    have key : ∀ (L : List HT), (∀ h ∈ L, TestT X h.t h.cs) → (∀ h ∈ L, ∀ (a : Addr) (pn : List (Addr × Obj)), PSs (X.suite a pn) (h.st :: h.sts) h.ts) → wKt X.K i Wout D L cls d σ' H' → ∀ h3, HandSPX.FlyingZ B (X.env :: X.outer) a (Zc cls d) h3 → s'.heap.UpToSlots h3 → wpAny (model X.prog X.w) X.A (handleBy (.ref a) X.env (L.map (HT.stmt n))) (SP X pins D) X.xe { s' with heap := h3 } := by
      intro L
      induction L with
      | nil =>
        intro _ _ wk h3 fy3 uq3
        refine wpAny_handleBy_nil (?_)
        obtain ⟨k1, k2, k3, oe, vs, T, oT, ts', he, hz, hd, h1, hr⟩ := id fy3
        unfold PySem.passOn
        refine wpAny_bind (wpAny_field he hd h1 (?_)); rw [if_neg (show ¬ ((Value.ref T == Value.none) = true) by simp)]
        have finn : wpAny (model X.prog X.w) X.A (setFlight (.ref a) X.env.frame) (fun _ s4 => wpAny (model X.prog X.w) X.A (throw (.ref a) : Sem Flow) (SP X pins D) X.xe s4) X.xe { s' with heap := h3 } := by
          rw [hf]
          refine HandSPX.setFlight_upZ fy3 fun h4 hh4 uq4 => wpAny_throw (tk _ _ ?_)
          exact ⟨a, B, sI, pins, σ', H', cls, d, rfl, Y, nb, (uq.trans uq3).trans uq4, .inr (.inr (by rw [hs]; exact hh4)), na, os, ag, wk⟩
        first
          | exact wpAny_bind (wpAny_pure (wpAny_bind finn))
          | exact wpAny_bind finn
      | cons h L ih =>
      intro hc hsu wk h3 fy3 uq3
      have Y3 : Inv X pins σ' H' { s' with heap := h3 } := Y.landed nb fy3.1 (uq.trans uq3) os ag
      obtain ⟨ob3, ws3, at3, zc3, da3⟩ := fy3.there
      have isNoFr : ∀ {h : Heap} {o : Obj} {vs : Array Value}, h.FunFrames B (X.env :: X.outer) → h.get? a = some o → o.data = .fields vs → a ∉ frs (X.env :: X.outer) := fun {h o vs} ff e dd hm => by
        obtain ⟨_, o2, e2, hn2⟩ := ff.mem hm
        rw [e] at e2; cases e2
        exact hn2 _ dd
      have nofr := isNoFr fy3.2.2.1 at3 da3
      have nL : a ≠ X.env.locals := fun z => nofr (List.mem_filterMap.mpr ⟨X.env, List.mem_cons_self, by rw [hf, z]⟩)
      have nF : a ∉ X.fs := fun hmm => by
        obtain ⟨e, he, q⟩ := List.mem_filterMap.mp hmm
        exact nofr (List.mem_filterMap.mpr ⟨e, List.mem_cons_of_mem _ he, q⟩)
      have nB : B.get? a = none := fy3.2.1
      have nI : sI.heap.get? a = none := by
        cases q : sI.heap.get? a with
        | none => rfl
        | some o =>
          have z := nb a o q (by rw [hs]; exact nofr)
          rw [nB] at z; cases z
      have n00 : X.s_0.heap.get? a = none := by
        cases q : X.s_0.heap.get? a with
        | none => rfl
        | some o =>
          obtain ⟨o', z⟩ := Y.base.there a o q (by rw [hex]; simp)
          rw [nI] at z; cases z
      have npn : ∀ p ∈ X.pn ++ pins, p.1 ≠ a := fun p hp z => by
        obtain ⟨e, _⟩ := Y.pin p hp
        rw [z, nI] at e; cases e
      have Z3 := Y3.suite at3 da3 na nL nF
      have lty : PySem.W.Looks (model X.prog X.w) h3 (typeOf (.ref a)) cls := fun A Q E s k q => wpAny_typeOf_ref (k _ _ at3) (by rw [zc3.1]; exact q)
      obtain ⟨b, mb1, yes, nay⟩ := wk
      show wpAny (model X.prog X.w) X.A (handleBy (.ref a) X.env (.ExceptHandler (some h.t) (some n) (h.st :: h.sts) h.pos :: L.map (HT.stmt n))) (SP X pins D) X.xe { s' with heap := h3 }
      refine wpAny_handleBy_cons (codeAny_handlers_test ?_) (by intro z; cases z)
      refine hc h List.mem_cons_self a _ σ' H' { s' with heap := h3 } cls b _ _ Z3 lty mb1 fun h3' kp => ?_
      have fy3 := flyKeeps fy3 kp
      have uq3 := uq3.trans (Heap.UpToSlots.of_keeps kp)
      cases b with
      | true =>
        refine codeAny_handlers_suite_as (HandSPX.lands_againZ fy3 fun h4 fy4 uq4 => ?_)
        have Y4 : Inv X pins σ' H' { s' with heap := h4 } := Y.landed nb fy4.1 ((uq.trans uq3).trans uq4) os ag
        obtain ⟨ob4, ws4, at4, zc4, da4⟩ := fy4.there
        have Z4 := Inv.suiteK Y4 at4 da4 zc4 na nL n00 npn
        refine store_ok (X := X.suite a (X.pn ++ pins)) (v := .ref a) Z4 hN hi hlo rfl (fun s5 Z5 => ?_) (.inr hln)
        refine wpAny_mono ((hsu h (List.mem_cons_self) a (X.pn ++ pins)).run [] s5 _ _ _ Z5 (yes rfl a na)) (fun f s6 sp1 => ?_) (fun _ _ z => False.elim z)
        have fin_ : ∀ {τ6 : L2.St} {G6 : Hp} {Q : Shared → Prop}, Inv (X.suite a (X.pn ++ pins)) [] τ6 G6 s6 → (∀ s7, Inv X pins (τ6.set i none) G6 s7 → Q s7) →
            wpAny (model X.prog X.w) X.A (do bindName X.env n .none; unbindBehindTheSuite X.env n h.pos) (fun _ s7 => Q s7) X.xe s6 := fun {τ6 G6 Q} Z6 hq => gone_ok (Inv.unsuiteK Z6 ok) hN hi hln hq
        cases f with
        | next =>
          obtain ⟨τ6, G6, Z6, w6⟩ := sp1
          exact fin_ Z6 fun s7 Y7 => ⟨_, _, Y7, w6⟩
        | brk =>
          obtain ⟨τ6, G6, Z6, w6⟩ := sp1
          exact fin_ Z6 fun s7 Y7 => ⟨_, _, Y7, w6⟩
        | cont =>
          obtain ⟨τ6, G6, Z6, w6⟩ := sp1
          exact fin_ Z6 fun s7 Y7 => ⟨_, _, Y7, w6⟩
        | ret u =>
          obtain ⟨vl6, τ6, G6, Z6, rl6, w6⟩ := sp1
          exact fin_ Z6 fun s7 Y7 => ⟨_, _, _, Y7, rl6, w6⟩
      | false => exact ih (fun h hh => hc h (List.mem_cons_of_mem _ hh)) (fun h hh => hsu h (List.mem_cons_of_mem _ hh)) (nay rfl) _ fy3 uq3
    exact key (h₀ :: hds) hc hsu wk h3 fy3 uq3
  · cases f with
    | next =>
      obtain ⟨σ', H', Y', q⟩ := sp1
      exact wpAny_execs_nil ⟨σ', H', Y'.ofTry ok, q⟩
    | brk =>
      obtain ⟨σ', H', Y', q⟩ := sp1
      exact ⟨σ', H', Y'.ofTry ok, q⟩
    | cont =>
      obtain ⟨σ', H', Y', q⟩ := sp1
      exact ⟨σ', H', Y'.ofTry ok, q⟩
    | ret u =>
      obtain ⟨v, σ', H', Y', r, q⟩ := sp1
      exact ⟨v, σ', H', Y'.ofTry ok, r, q⟩
end
variable [TheK]
section
variable {fl : Fl} {X : Cx} {Wx : WX} {n : Str} {i : Nat} {body : List Stmt} {m : DS} {pos : Pos}
inductive HtD (fl : Fl) (X : Cx) (n : Str) : List ExceptHandler → List (Str × DS) → Prop
  | nil : HtD fl X n [] []
  | cons {cs : List Str} {t : Expr} {p' : Pos} {s1 : Stmt} {ms : DS} {L : List ExceptHandler} {hs : List (Str × DS)} (ht : TestT X t (cs.map fun c => .ref (He.ga X.K c))) (hx : ∀ c' ∈ TheK.xs, PySem.W.exmAny X.K (.ref (He.ga X.K c')) (cs.map fun c => .ref (He.ga X.K c)) = some (decide (c' ∈ cs)))
      (hsu : ∀ (a : Addr) (pn : List (Addr × Obj)), SsD fl (X.suite a pn) (fun _ _ _ _ => False) [s1] ms) : HtD fl X n L hs → HtD fl X n (.ExceptHandler (some t) (some n) [s1] p' :: L) (cs.map (fun c => (c, ms)) ++ hs)
theorem hdls_app {e1 : Env} {c' : Str} {fs : List D} {ms : DS} {hs : List (Str × DS)} : ∀ {cs : List Str}, hdlsX i e1 c' fs (cs.map (fun c => (c, ms)) ++ hs) = if c' ∈ cs then hdlX i ms e1 c' fs else hdlsX i e1 c' fs hs
  | [] => by simp
  | c :: cs => by
    show (if c' = c then _ else hdlsX i e1 c' fs (cs.map (fun c => (c, ms)) ++ hs)) = _
    by_cases h : c' = c
    · rw [if_pos h, if_pos (by rw [h]; exact List.mem_cons_self)]
    · rw [if_neg h, hdls_app]
      by_cases h2 : c' ∈ cs
      · rw [if_pos h2, if_pos (List.mem_cons_of_mem _ h2)]
      · rw [if_neg h2, if_neg fun z => (List.mem_cons.mp z).elim h h2]
theorem exmAny_of {K : PySem.W.Frag} {cls : Value} {c' : Str} : ∀ {cs : List Str}, (∀ c ∈ cs, PySem.W.exmOne K cls (.ref (He.ga K c)) = some (decide (c' = c))) → PySem.W.exmAny K cls (cs.map fun c => .ref (He.ga K c)) = some (decide (c' ∈ cs))
  | [], _ => rfl
  | c :: cs, h => by
    have h1 := h c List.mem_cons_self
    have h2 := exmAny_of (cs := cs) fun c hc => h c (List.mem_cons_of_mem _ hc)
    rw [List.map_cons]
    unfold PySem.W.exmAny
    rw [h1, h2]
    simp
theorem exm_all2 {K : PySem.W.Frag} {x1 x2 : Str} (h1 : ∀ c' ∈ TheK.xs, PySem.W.exmOne K (.ref (He.ga K c')) (.ref (He.ga K x1)) = some (decide (c' = x1))) (h2 : ∀ c' ∈ TheK.xs, PySem.W.exmOne K (.ref (He.ga K c')) (.ref (He.ga K x2)) = some (decide (c' = x2))) : ∀ c' ∈ TheK.xs, PySem.W.exmAny K (.ref (He.ga K c')) (([x1, x2] : List Str).map fun c => .ref (He.ga K c)) = some (decide (c' ∈ ([x1, x2] : List Str))) := fun c' hc => exmAny_of fun c h => by
  simp only [List.mem_cons, List.not_mem_nil, or_false] at h
  rcases h with rfl | rfl
  · exact h1 c' hc
  · exact h2 c' hc
theorem HtD.get {L : List ExceptHandler} {hs : List (Str × DS)} (h : HtD fl X n L hs) (hK : X.K = TheK.K) : ∃ H : List HT, L = H.map (HT.stmt n) ∧ (∀ h ∈ H, TestT X h.t h.cs) ∧ (∀ h ∈ H, ∀ (a : Addr) (pn : List (Addr × Obj)), PSs (X.suite a pn) (h.st :: h.sts) h.ts) ∧
    ∀ {F : Fm} {O O1 : Nat → Option Addr} {e1 : Env} {σ1 : L2.St} {H0 H1 : Hp} {D : Ends} {c' : Str} {fs : List AH.D} {cls : Value} {d : Option Addr}, SR X.K F O1 e1 σ1 H1 → KeS O H0 O1 H1 → XR X.K (Ow F O1) c' fs cls d H1 →
      Want (fun _ : Env => hdlsX i e1 c' fs hs) e1 (Post fl X.K F O H0 D) (XWs X.K F O H0 Wx) → wKt X.K i Wx D H cls d σ1 H1 := by
  induction h with
  | nil => exact ⟨[], rfl, fun _ h => (by cases h), fun _ h => (by cases h), fun {F O O1 e1 σ1 H0 H1 D c' fs cls d} S1 k1 xr w => w O1 σ1 cls d H1 S1 k1 xr⟩
  | @cons cs t p' s1 ms L hs ht hx hsu h ih =>
    obtain ⟨H, e, h1, h2, h3⟩ := ih
    refine ⟨⟨t, s1, [], p', cs.map fun c => .ref (He.ga X.K c), tSs fl X.K ms fun _ _ _ _ => False⟩ :: H, by rw [List.map_cons, ← e]; rfl, fun h hh => ?_, fun h hh => ?_, fun {F O O1 e1 σ1 H0 H1 D c' fs cls d} S1 k1 xr w => ?_⟩
    · rcases List.mem_cons.mp hh with rfl | hh
      · exact ht
      · exact h1 h hh
    · rcases List.mem_cons.mp hh with rfl | hh
      · exact fun a pn => SsD.pss (hsu a pn)
      · exact h2 h hh
    · have hmem := xr.1.2
      have ecls := xr.1.1
      simp only [hdls_app] at w
      refine ⟨decide (c' ∈ cs), by rw [ecls]; exact hx c' hmem, fun hb a na => ?_, fun hb => ?_⟩
      · simp only [if_pos (of_decide_eq_true hb)] at w
        exact hdl_run (E := XWs X.K F O H0 Wx) hK S1 k1 xr w a na
      · simp only [if_neg (of_decide_eq_false hb)] at w
        exact h3 S1 k1 xr w
theorem sd_tryTX {L : List ExceptHandler} {hs : List (Str × DS)} (hst : X.stack = X.env :: X.outer) (hf : X.env.frame = some X.env.locals) (hex : X.ex = []) (hN : X.N.Nodup) (hi : X.N[i]? = some n) (hln : X.env.kindOf n = some .local)
    (hK : X.K = TheK.K) (tk : Takes X Wx)
    (hb : ∀ (W : WX) (pn : List (Addr × Obj)) (xe : Value → Shared → Prop), Takes (X.tr pn xe) W → PassesOwn (model X.prog X.w) X.A X.env xe → SsD fl (X.tr pn xe) W body m)
    (hh : HtD fl X n L hs) (ne : L ≠ [] := by intro z; cases z) : SD fl X Wx (.Try body L [] [] pos) (sTryNX hs i m) := by
  obtain ⟨H, e, h1, h2, h3⟩ := hh.get (i := i) (Wx := Wx) hK
  cases H with
  | nil => exact absurd e ne
  | cons h₀ hds =>
  rw [List.map_cons] at e
  rw [e]
  refine ⟨_, ps_try_keepT (tb := tSs fl X.K m) h₀ hds hst hf hex hN hi hln h1 tk (fun W pn xe t p => SsD.pss (hb W pn xe t p)) h2, fun F O env σ H D S w => ?_⟩
  refine ⟨F, O, env, S, ?_⟩
  unfold Want at w ⊢
  unfold sTryNX at w
  cases hm : m env with
  | bad => rw [hm] at w; exact w
  | ok o e1 => rw [hm] at w; exact w
  | ex c' fs e1 =>
    rw [hm] at w
    simp only at w ⊢
    intro O1 σ1 cls d H1 S1 k1 xr
    exact h3 S1 k1 xr w
end
end AH
namespace AH
open PySem PySem.Spec PyProof.Rows L2
variable [TheK]
/-! ### an own list looked at while an expression runs -/
section
variable {K : PySem.W.Frag} {F : Fm} {O : Nat → Option Addr} {env e1 : Env} {σ : L2.St} {H H' : Hp} {i : Nat} {a : Addr}
end
section
variable {X : Cx} {Wx : WX} {e tg : Expr} {m : DE} {i : Nat} {p : Pos}
end
end AH
namespace PySem.W
open PySem PySem.Spec PySem.Calls PyProof.Rows
section
variable {prog : Program} {w : World} {A : Around} {E : Value → Shared → Prop} {s : Shared} {β : Type} {vs : List Value} {bs : List β} {enc : β → PyData} {R : Value → β → Prop} {κ : PyProof.Rows.KeyKind}
theorem collect_tupC {l : Addr} {vs : List Value} {Q : List Value → Shared → Prop} (hl : s.heap.IsTuple l vs.toArray)
    (h : Q vs { s with heap := (s.heap.push (seqObj "list" #[] 0)).update s.heap.objs.size (Obj.mapSeq (· ++ vs.toArray)) }) (hsz : vs.length ≤ sizeLine := by size_fits) :
    wpAny (model prog w) A (collect (.ref l)) Q E s := by
  obtain ⟨o, ho, hc, n, hd⟩ := id hl
  unfold collect
  refine wpAny_bind (wpAny_runValue (codeAny_builtin entry_proto_collect' ?_))
  show wpAny _ _ (do again (.builtin "list.__iadd__" ⟨[← newList [], .ref l], []⟩)) _ _ s
  refine wpAny_bind (wpAny_newList (wpAny_pure ⟨Code.quiet_builtin _ (by decide +kernel), codeAny_builtin entry_list_iadd' ?_⟩))
  show wpAny _ _ (Builtin.List.listExtendWith (.ref s.heap.objs.size) (.ref l) (.ref s.heap.objs.size)) _ _ { s with heap := s.heap.push (seqObj "list" #[] 0) }
  unfold Builtin.List.listExtendWith
  have ho' : (s.heap.push (seqObj "list" #[] 0)).get? l = some o := Heap.get?_push_of_some _ ho
  refine wpAny_bind (wpAny_typeOf (T := "tuple") ⟨o, ho', hc⟩ ?_)
  have ht : (Value.type "tuple" == Value.type "tuple") = true := by rfl
  rw [if_pos (by rw [ht]; simp)]
  refine wpAny_bind (listItems_at ho' hd ?_)
  refine wpAny_bind (listItems_at (xs := #[]) (n := 0) (Heap.get?_push_size _ rfl) rfl ?_)
  rw [if_neg (by simp)]
  refine wpAny_bind (listUpdate_at (xs := #[]) (n := 0) (Heap.get?_push_size _ rfl) rfl ?_ (Nat.zero_le _) (by show (#[] ++ vs.toArray).size ≤ sizeLine + 1; simp only [Array.size_append, List.size_toArray, List.length_nil]; omega))
  refine wpAny_pure ?_
  show wpAny (model prog w) A (do
      let o ← load s.heap.objs.size
      match o.data with
      | .seq xs _ => pure xs.toList
      | _ => unsupported "internal:collect") Q E { s with heap := (s.heap.push (seqObj "list" #[] 0)).update s.heap.objs.size (Obj.mapSeq (· ++ vs.toArray)) }
  refine wpAny_bind (wpAny_load (get?_update_seq (Heap.get?_push_size _ rfl) _) ?_)
  show wpAny _ _ (pure ((#[] : Array Value) ++ vs.toArray).toList) Q E _
  rw [show ((#[] : Array Value) ++ vs.toArray).toList = vs by simp]
  exact wpAny_pure h
theorem sorted_of_sortT {l : Addr} {vs : List Value} {kw : List (Str × Value)} {Q : Value → Shared → Prop} (hl : s.heap.IsTuple l vs.toArray) (hL : vs.length ≤ sizeLine) (ha1 : argsOk "sorted" ⟨[.ref l], kw⟩) (ha2 : ∀ x, argsOk "list.sort" ⟨[.ref x], kw⟩)
    (body : ∀ E' : Value → Shared → Prop, wpAny (model prog w) A.in1.in1 (Builtin.«list.sort» ⟨[.ref (s.heap.objs.size + 1)], kw⟩) (fun f s' => f = .done (.ret .none) ∧ Q (.ref (s.heap.objs.size + 1)) s') E' { s with heap := copyHeap s.heap vs }) :
    wpAny (model prog w) A (call (.builtin "sorted") [.ref l] kw) Q E s := by
  refine call_function_entry_kw kind_sorted plain_sorted entry_sorted ha1 ?_
  unfold Builtin.«sorted»
  refine wpAny_bind (m := checkCount "sorted" 1 1 _) (wpAny_pure ?_)
  refine wpAny_bind (collect_tupC hl ?_ hL)
  refine wpAny_bind (wpAny_newList ?_ hL)
  have hsz : ((s.heap.push (seqObj "list" #[] 0)).update s.heap.objs.size (Obj.mapSeq (· ++ vs.toArray))).objs.size = s.heap.objs.size + 1 := by
    rw [Heap.size_update, size_push']
  show wpAny _ _ _ _ _ { s with heap := copyHeap s.heap vs }
  rw [hsz]
  refine wpAny_bind (wpAny_holding (wpAny_call_entry_kw slot_list_sort ⟨_, copyHeap_at s.heap vs, rfl⟩ entry_list_sort ?body (ha2 _)))
  case body =>
    show wpAny (model prog w) A.in1.in1 (Builtin.«list.sort» ⟨[.ref (s.heap.objs.size + 1)], kw⟩) _ _ _
    refine wpAny_mono (body _) (fun f s' hf => ?_) fun _ _ e => e
    obtain ⟨rfl, hq⟩ := hf
    exact ⟨_, rfl, wpAny_pure ⟨_, rfl, hq⟩⟩
theorem sorted_valsT {l : Addr} {vs : List Value} {Q : Value → Shared → Prop} (hl : s.heap.IsTuple l vs.toArray) (S : SortsAt prog w A.in1.in1 { s with heap := sortingHeap (copyHeap s.heap vs) (s.heap.objs.size + 1) vs } κ vs) (hL : vs.length ≤ sizeLine)
    (h : Q (.ref (s.heap.objs.size + 1)) { s with heap := sortedAll s.heap vs (sortVals κ false vs vs).toArray }) : wpAny (model prog w) A (call (.builtin "sorted") [.ref l]) Q E s :=
  sorted_of_sortT hl hL (args_sorted1 _) (fun _ => args_list_sort _) fun _ => list_sort_vals (s := { s with heap := copyHeap s.heap vs }) (copyHeap_at s.heap vs) S hL ⟨rfl, h⟩
theorem sorted_dataT {l : Addr} {Q : Value → Shared → Prop} (hl : s.heap.IsTuple l vs.toArray) (e : EachIs R vs bs) (er : EachIs (fun v b => ∃ as, Reads s.heap v (enc b) as) vs bs) (hal : AllAlike (bs.map enc)) (hk : Sortable (bs.map enc)) (hL : bs.length ≤ sizeLine)
    (hu : ∀ b, b ∈ bs → A.units + 2 + (enc b).depth < cLine) (h : ∀ out, out.length = bs.length → EachIs R out (bs.mergeSort (dataLe false enc)) → Q (.ref (s.heap.objs.size + 1)) { s with heap := sortedAll s.heap vs (List.toArray out) }) :
    wpAny (model prog w) A (call (.builtin "sorted") [.ref l]) Q E s := by
  have er' : EachIs (fun v b => ∃ as, Reads (sortingHeap (copyHeap s.heap vs) (s.heap.objs.size + 1) vs) v (enc b) as) vs bs := er.mono fun _ _ ⟨as, r⟩ => ⟨as, PyProof.Rows.Reads.keeps (fun _ _ => sorting_copy_old) r⟩
  exact sorted_valsT hl (SortsAt.data (s := { s with heap := sortingHeap (copyHeap s.heap vs) (s.heap.objs.size + 1) vs }) (each_map (R := fun v d => ∃ as, Reads (sortingHeap (copyHeap s.heap vs) (s.heap.objs.size + 1) vs) v d as) enc er') hal hk (bound_map hu)) (by rw [e.length]; exact hL)
    (h _ (by rw [sortVals_length false rfl]; exact e.length) (sortVals_data false e er' hal))
end
end PySem.W
namespace AH
open PySem PySem.Spec PyProof.Rows L2
section
variable {X : Cx}
def rSortT (K : PySem.W.Frag) : List V → Hp → VK → Prop := fun vs H Q => ∃ (a : Addr) (bs : List (V × D)), vs = [V.ref a] ∧ SqT K H a (bs.map (·.1)) ∧ (∀ b ∈ bs, Dp K H b.1 b.2.toP) ∧ PySem.W.AllAlike (bs.map fun b => b.2.toP) ∧ PySem.W.Sortable (bs.map fun b => b.2.toP) ∧ (∀ b ∈ bs, b.2.toP.depth ≤ 60) ∧
  ∀ p, H p = none → Q (.ref p) (upd H p (.lst ((isort (fun x y : V × D => leD x.2 y.2) bs).map (·.1))))
theorem isTup_of {h : Heap} {a : Addr} {xs : Array Value} (p : IsTup h a xs) : h.IsTuple a xs := p
theorem cr_sortT (hu : X.A.units + 65 < cLine) : CallR X (.builtin "sorted") (rSortT X.K) := by
  intro pins s σ H vs us Q I r h
  obtain ⟨a, bs, rfl, hs, hdp, hal, hso, hde, q⟩ := h
  obtain ⟨its, rv, hl, hz⟩ := I.tuple hs
  rw [Vals.ref1 r]
  rw [List.length_map] at hz
  have each : ∀ {bs : List (V × D)} {its : List Value}, (∀ b ∈ bs, Dp X.K H b.1 b.2.toP) → Vals (bs.map (·.1)) its → PySem.W.EachIs (fun v (b : V × D) => RelV b.1 v) its bs ∧ PySem.W.EachIs (fun v (b : V × D) => ∃ as, Reads s.heap v b.2.toP as) its bs := by
    intro bs
    induction bs with
    | nil => intro its _ rv; cases rv; exact ⟨.nil, .nil⟩
    | cons b bs ih =>
      intro its h rv
      cases rv with
      | cons r1 r2 =>
        obtain ⟨e1, e2⟩ := ih (fun c hc => h c (List.mem_cons_of_mem _ hc)) r2
        exact ⟨.cons r1 e1, .cons (Dp.reads I _ _ _ (h b List.mem_cons_self) r1) e2⟩
  obtain ⟨e1, e2⟩ := each hdp rv
  refine PySem.W.sorted_dataT (enc := fun b : V × D => b.2.toP) (isTup_of hl) e1 e2 hal hso hz (fun b hb => by have := hde b hb; omega) fun out ho eo => ?_
  have tl := PySem.W.sortLe_total (PyProof.Rows.listOrd PyProof.Rows.itemOrd) false fun b : V × D => PySem.W.keyToks b.2.toP
  have em : bs.mergeSort (PySem.W.dataLe false fun b : V × D => b.2.toP) = isort (fun x y : V × D => leD x.2 y.2) bs := merge_isort tl.trans (fun a b => by
    rcases tl.total a b with h | h
    · rw [h]; rfl
    · rw [h, Bool.or_true]) bs
  rw [em] at eo
  obtain ⟨c, hc⟩ := sortedAll_at s.heap its out.toArray
  have vo : ∀ {L : List (V × D)} {out : List Value}, PySem.W.EachIs (fun v (b : V × D) => RelV b.1 v) out L → Vals (L.map (·.1)) out := by
    intro L
    induction L with
    | nil => intro out e; cases e; exact .nil
    | cons b L ih => intro out e; cases e with | cons h t => exact .cons h (ih t)
  have hsz : s.heap.objs.size ≤ s.heap.objs.size + 1 := Nat.le_succ _
  refine ⟨.ref (s.heap.objs.size + 1), upd H (s.heap.objs.size + 1) (.lst ((isort (fun x y : V × D => leD x.2 y.2) bs).map (·.1))), I.laid (t' := s.toks) (fun b o e => sortedAll_old e) hsz (show ObjOk X.prog X.w _ _ _ (.lst _) from ⟨?_, out, c, vo eo, hc⟩), rfl, q _ (I.hok.fresh hsz)⟩
  rw [List.length_map, ← eo.length, ho]
  exact hz
def rSortU (K : PySem.W.Frag) : List V → Hp → VK → Prop := fun vs H Q => rSortD K vs H Q ∨ rSortT K vs H Q
theorem cr_sortU (hu : X.A.units + 65 < cLine) : CallR X (.builtin "sorted") (rSortU X.K) := by
  intro pins s σ H vs us Q I r h
  rcases h with h | h
  · exact cr_sortD hu pins s σ H vs us Q I r h
  · exact cr_sortT hu pins s σ H vs us Q I r h
end
section
variable [TheK] {X : Cx} {Wx : WX} {a : Expr} {ma : DE} {p pos : Pos}
/-- sorted(xs), xs a list or a tuple -/
def dSortU : D → Rv D
  | .lst xs => dSortA (.lst xs)
  | .tup xs => dSortA (.lst xs)
  | _ => .bad
theorem cb_sortU : Cb1 .f X.K (rSortU X.K) dSortU := by
  intro F O env σ H x dx dz Q S rx ef q
  unfold dSortU at ef
  split at ef
  · exact .inl (cb_sortA F O env σ H x _ dz Q S rx ef q)
  · rename_i xs
    unfold dSortA at ef
    obtain ⟨a, vs, rfl, s, l⟩ := rx.tup'
    obtain ⟨h, rfl⟩ := if_ok ef
    obtain ⟨h1, h2, h3⟩ := sortOk_of h
    obtain ⟨bs, rfl, rfl, hb⟩ := RepL.zip l
    rw [List.map_map] at h2 h3
    refine .inr ⟨a, bs, rfl, s, fun b hb' => (hb b hb').dp (h1 b.2 (List.mem_map.mpr ⟨b, hb', rfl⟩)).1, h2, h3, fun b hb' => (h1 b.2 (List.mem_map.mpr ⟨b, hb', rfl⟩)).2, fun p hp => ?_⟩
    have e := isort_map (f := fun b : V × D => b.2) (le := leD) bs
    rw [← e] at q
    exact new_lst S (RepL.unzip fun b hb' => hb b (isort_mem hb')) q hp
  · cases ef
theorem pd_sortU (hu : X.A.units + 65 < cLine) (hb : Bn X "sorted" (.builtin "sorted")) (ha : PD .w X Wx a ma) (hs : starEach [a] X.env = (false, eval a X.env) :: starEach [] X.env := by rfl) : PD .f X Wx (.Call (.Name "sorted" p) [a] [] pos) (e1 dSortU ma) := pd_b1 (cr_sortU hu) cb_sortU hb ha hs
end
end AH
/-! sorted(xs) of tuples of which the first is () -/
namespace SrtE
open PySem PySem.Calls PyProof.Rows PySem.W PySem.SeqAt
section
variable {prog : Program} {w : World} {A : Around} {E : Value → Shared → Prop} {s : Shared}
theorem call_tuple_lt {Q : Value → Shared → Prop} {l b : Addr} {items items2 : Array Value} {e r : Nat → Bool} (hl : s.heap.IsTuple l items) (hb : s.heap.IsTuple b items2)
    (he : ∀ j (h1 : j < items.size) (h2 : j < items2.size), EqAt A.in1 s items[j] items2[j] (e j)) (hr : ∀ j (h1 : j < items.size) (h2 : j < items2.size), e j = false → RcLt A.in1 s items[j] items2[j] (r j))
    (h : Q (.bool (firstLt e r (decide (items.size < items2.size)) (List.range (min items.size items2.size)))) s) : wpAny (model prog w) A (call (.builtin "tuple.__lt__") [.ref l, .ref b]) Q E s := by
  obtain ⟨⟨cls, dd, data, sl⟩, ho, hc, n, hd⟩ := id hl
  obtain ⟨⟨cls2, dd2, data2, sl2⟩, ho2, hc2, n2, hd2⟩ := id hb
  simp only at hc hd hc2 hd2
  subst hc hd hc2 hd2
  exact call_meets F.slot_tuple_lt ⟨_, ho, rfl⟩ F.entry_tuple_lt (F.args_tuple_lt_2 _ _) (tuple_ltAt l b items items2 n n2 dd dd2 sl sl2 e r) ⟨ho, ho2, he, hr, h⟩
theorem oneLt_tup {xs ys : List PyData} {a b : Value} {as bs : List Addr} {Q : Bool → Shared → Prop} (ra : Reads s.heap a (.tuple xs) as) (rb : Reads s.heap b (.tuple ys) bs) (h : alike (.tuple xs) (.tuple ys) = true)
    (hu : A.units + min (PyData.tuple xs).depth (PyData.tuple ys).depth < cLine) (hq : Q (dataLt (.tuple xs) (.tuple ys)) s) : wpAny (model prog w) A (oneLt' true a b) Q E s := by
  have hal : alikeAll xs ys = true := by simpa [alike] using h
  cases ra with
  | @tuple l o vs n _ as₁ h1 h2 h3 h4 =>
    cases rb with
    | @tuple l' o' vs' n' _ bs₁ k1 k2 k3 k4 =>
      have n1 : vs.size = xs.length := by simpa using SeqAt.ReadsAll.length _ _ _ h4
      have n2 : vs'.size = ys.length := by simpa using SeqAt.ReadsAll.length _ _ _ k4
      rw [dataLt_tuple, ← firstLt_toks xs ys hal, ← n1, ← n2] at hq
      rw [oneLt'_eq]
      simp only [if_true]
      refine wpAny_bind (wpAny_cRoomFor (room_here hu) ?_)
      refine wpAny_bind (wpAny_callSpecialIfBound?_slot (T := "tuple") ⟨_, h1, h2⟩ F.slot_tuple_lt (call_tuple_lt (e := pairEq xs ys) (r := fun j => dataLt (xs.getD j .none) (ys.getD j .none)) ⟨_, h1, h2, _, h3⟩ ⟨_, k1, k2, _, k3⟩ (fun j j1 j2 => ?_) (fun j j1 j2 hj => ?_) ?_))
      · have := eqAt_alikeAll xs ys A.in1 s vs.toList vs'.toList _ _ h4 k4 hal (room_in hu) j (by simpa using j1) (by simpa using j2)
        simpa using this
      · have := rcLt_alikeAll xs ys A.in1 s vs.toList vs'.toList _ _ h4 k4 hal (room_in hu) j (by simpa using j1) (by simpa using j2) hj
        simpa using this
      · exact wpAny_truthy_bool hq
def FsAt (h : Heap) : List Value → List (Option Value) → Prop
  | [], [] => True
  | v :: vs, f :: fs => (∃ a o xs n, v = .ref a ∧ h.get? a = some o ∧ o.cls = .type "tuple" ∧ o.data = .seq xs n ∧ xs[0]? = f) ∧ FsAt h vs fs
  | _, _ => False
theorem fs_go {M : Model} : ∀ (vs : List Value) (fs : List (Option Value)) {Q : List (Option Value) → Shared → Prop}, FsAt s.heap vs fs → Q fs s → wpAny M A (vs.mapM firstOfTuple') Q E s
  | [], [], _, _, h => by rw [List.mapM_nil]; exact wpAny_pure h
  | [], _ :: _, _, t, _ => t.elim
  | _ :: _, [], _, t, _ => t.elim
  | v :: vs, f :: fs, Q, t, h => by
    obtain ⟨⟨a, o, xs, n, rfl, ho, hc, hd, hf⟩, t⟩ := t
    rw [List.mapM_cons]
    refine wpAny_bind ?_
    rw [kas_first_eq]
    refine wpAny_bind (Looks.here (show Looks M s.heap (typeOf (.ref a)) o.cls from (Looks.ld ho).andThen .now) ?_)
    rw [hc, if_neg (by first | decide | simp)]
    refine wpAny_bind (listItems_at ho hd (wpAny_pure ?_))
    rw [hf]
    exact wpAny_bind (fs_go vs fs (Q := fun bs s' => wpAny M A (pure (f :: bs)) Q E s') t (wpAny_pure h))
theorem fs_of {h : Heap} : ∀ {vs : List Value} {ds : List PyData}, EachIs (fun v d => ∃ as, Reads h v d as) vs ds → (∀ d, d ∈ ds → ∃ xs, d = .tuple xs) → ∃ fs, FsAt h vs fs
  | _, _, .nil, _ => ⟨[], trivial⟩
  | _, _, .cons (b := d) ⟨as, r⟩ t, ht => by
    obtain ⟨fs, h1⟩ := fs_of t fun d hd => ht d (List.mem_cons_of_mem _ hd)
    obtain ⟨xs, rfl⟩ := ht d (List.mem_cons_self ..)
    cases r with
    | @tuple a o vs n _ _ ho hc hd hr => exact ⟨vs[0]? :: fs, ⟨a, o, vs, n, rfl, ho, hc, hd, rfl⟩, h1⟩
theorem kindE {M : Model} {v₀ : Value} {vs : List Value} {fs : List (Option Value)} {Q : SortKind → Shared → Prop} (t : FsAt s.heap (v₀ :: vs) (none :: fs)) (hT : ∀ v ∈ v₀ :: vs, Looks M s.heap (typeOf v) (.type "tuple")) (h : Q oneType' s) :
    wpAny M A (keyKind' (v₀ :: vs).toArray) Q E s := by
  rw [kat_kind_eq, List.mapM_toArray, map_eq_pure_bind]
  refine wpAny_bind (wpAny_bind (fs_go (v₀ :: vs) _ t (wpAny_pure ?_)))
  rw [if_neg (by simp), if_neg (by simp)]
  rw [oneTypeOnly'_eq, List.mapM_toArray, map_eq_pure_bind]
  refine wpAny_bind (wpAny_bind (wpAny_bind (kas_mapM (r := Value.type "tuple") _ (fun v hv Q' hq => (hT v hv).here hq) (wpAny_pure ?_))))
  have hall : ((List.map (fun _ => Value.type "tuple") (v₀ :: vs)).toArray.all fun x => x == Value.type "tuple") = true := by
    simp only [List.all_toArray, List.all_map, List.all_eq_true]
    intro _ _
    exact beq_self_eq_true _
  have h0 : (List.map (fun _ => Value.type "tuple") (v₀ :: vs)).toArray[0]? = some (Value.type "tuple") := by simp
  rw [h0]
  simp only [hall, if_true]
  exact wpAny_pure (wpAny_pure h)
/-- all are tuples, the first is () -/
def SortE (ds : List PyData) : Prop := (∀ d, d ∈ ds → ∃ xs, d = .tuple xs) ∧ ∃ r, ds = .tuple [] :: r
theorem sorts {vs : List Value} {ds : List PyData} (e : EachIs (fun v d => ∃ as, Reads s.heap v d as) vs ds) (hal : AllAlike ds) (hk : SortE ds) (hu : ∀ d, d ∈ ds → A.units + d.depth < cLine) : SortsAt prog w A s (dataKind s.heap ds) vs := by
  have room : ∀ {d d' : PyData}, d ∈ ds → A.units + min d.depth d'.depth < cLine := fun {d d'} hd => Nat.lt_of_le_of_lt (Nat.add_le_add_left (Nat.min_le_left _ _) _) (hu d hd)
  refine ⟨fun v hv => ?_, oneType', ?_, fun _ E Q hq => ?_⟩
  · obtain ⟨d, hd, as, r⟩ := e.left v hv
    exact ⟨_, dataKind_some hal hd r⟩
  · intro E x y a b Q ha hb hq
    obtain ⟨d, as, hd, ra, rfl⟩ := dataKind_inv ha
    obtain ⟨d', as', hd', rb, rfl⟩ := dataKind_inv hb
    have hal' := hal d hd d' hd'
    have hr := room (d' := d') hd
    obtain ⟨xs, rfl⟩ := hk.1 d hd
    obtain ⟨ys, rfl⟩ := hk.1 d' hd'
    rw [keyLt'_oneType]
    exact oneLt_tup ra rb hal' hr hq
  · obtain ⟨ht, r, rfl⟩ := hk
    obtain ⟨fs, hf⟩ := fs_of e ht
    have hl : ∀ v ∈ vs, Looks (model prog w) s.heap (typeOf v) (.type "tuple") := fun v hv => by
      obtain ⟨d, hd, as, r⟩ := e.left v hv
      obtain ⟨xs, rfl⟩ := ht d hd
      exact looks_reads r
    cases e with
    | cons h1 t =>
      rename_i v vs
      obtain ⟨as, r1⟩ := h1
      cases fs with
      | nil => exact hf.elim
      | cons f fs =>
        have hf' := hf
        obtain ⟨⟨a, o, xs, n, rfl, ho, hc, hd, he⟩, _⟩ := hf'
        have : f = none := by
          cases r1 with
          | @tuple a o' vs n' _ _ ho' hc' hd' hr' =>
            rw [ho] at ho'
            cases Option.some.inj ho'
            rw [hd] at hd'
            cases hd'
            cases q : xs.toList with
            | nil => rw [← he, ← Array.getElem?_toList, q]; rfl
            | cons y ys =>
              rw [q] at hr'
              cases hr'
        subst this
        exact kindE hf hl hq
theorem sortedE {β : Type} {vs : List Value} {bs : List β} {enc : β → PyData} {R : Value → β → Prop} {l : Addr} {Q : Value → Shared → Prop} (hl : s.heap.IsList l vs.toArray) (e : EachIs R vs bs) (er : EachIs (fun v b => ∃ as, Reads s.heap v (enc b) as) vs bs) (hal : AllAlike (bs.map enc)) (hk : SortE (bs.map enc)) (hL : bs.length ≤ sizeLine)
    (hu : ∀ b, b ∈ bs → A.units + 2 + (enc b).depth < cLine) (h : ∀ out, out.length = bs.length → EachIs R out (bs.mergeSort (dataLe false enc)) → Q (.ref (s.heap.objs.size + 1)) { s with heap := sortedAll s.heap vs (List.toArray out) }) :
    wpAny (model prog w) A (call (.builtin "sorted") [.ref l]) Q E s := by
  have er' : EachIs (fun v b => ∃ as, Reads (sortingHeap (copyHeap s.heap vs) (s.heap.objs.size + 1) vs) v (enc b) as) vs bs := er.mono fun _ _ ⟨as, r⟩ => ⟨as, PyProof.Rows.Reads.keeps (fun _ _ => sorting_copy_old) r⟩
  exact sorted_vals hl (sorts (s := { s with heap := sortingHeap (copyHeap s.heap vs) (s.heap.objs.size + 1) vs }) (each_map (R := fun v d => ∃ as, Reads (sortingHeap (copyHeap s.heap vs) (s.heap.objs.size + 1) vs) v d as) enc er') hal hk (bound_map hu)) (by rw [e.length]; exact hL)
    (h _ (by rw [sortVals_length false rfl]; exact e.length) (sortVals_data false e er' hal))
end
end SrtE
namespace AH
open PySem PySem.Spec PyProof.Rows L2
section
variable {X : Cx}
def rSortE0 (K : PySem.W.Frag) : List V → Hp → VK → Prop := fun vs H Q => ∃ (a : Addr) (bs : List (V × D)), vs = [V.ref a] ∧ SqL K H a (bs.map (·.1)) ∧ (∀ b ∈ bs, Dp K H b.1 b.2.toP) ∧ PySem.W.AllAlike (bs.map fun b => b.2.toP) ∧ SrtE.SortE (bs.map fun b => b.2.toP) ∧ (∀ b ∈ bs, b.2.toP.depth ≤ 60) ∧
  ∀ p, H p = none → Q (.ref p) (upd H p (.lst ((isort (fun x y : V × D => leD x.2 y.2) bs).map (·.1))))
theorem cr_sortE0 (hu : X.A.units + 65 < cLine) : CallR X (.builtin "sorted") (rSortE0 X.K) := by
  intro pins s σ H vs us Q I r h
  obtain ⟨a, bs, rfl, hs, hdp, hal, hso, hde, q⟩ := h
  obtain ⟨its, rv, hl, hz⟩ := I.list hs
  rw [Vals.ref1 r]
  rw [List.length_map] at hz
  have each : ∀ {bs : List (V × D)} {its : List Value}, (∀ b ∈ bs, Dp X.K H b.1 b.2.toP) → Vals (bs.map (·.1)) its → PySem.W.EachIs (fun v (b : V × D) => RelV b.1 v) its bs ∧ PySem.W.EachIs (fun v (b : V × D) => ∃ as, Reads s.heap v b.2.toP as) its bs := by
    intro bs
    induction bs with
    | nil => intro its _ rv; cases rv; exact ⟨.nil, .nil⟩
    | cons b bs ih =>
      intro its h rv
      cases rv with
      | cons r1 r2 =>
        obtain ⟨e1, e2⟩ := ih (fun c hc => h c (List.mem_cons_of_mem _ hc)) r2
        exact ⟨.cons r1 e1, .cons (Dp.reads I _ _ _ (h b List.mem_cons_self) r1) e2⟩
  obtain ⟨e1, e2⟩ := each hdp rv
  refine SrtE.sortedE (enc := fun b : V × D => b.2.toP) hl.isList e1 e2 hal hso hz (fun b hb => by have := hde b hb; omega) fun out ho eo => ?_
  have tl := PySem.W.sortLe_total (PyProof.Rows.listOrd PyProof.Rows.itemOrd) false fun b : V × D => PySem.W.keyToks b.2.toP
  have em : bs.mergeSort (PySem.W.dataLe false fun b : V × D => b.2.toP) = isort (fun x y : V × D => leD x.2 y.2) bs := merge_isort tl.trans (fun a b => by
    rcases tl.total a b with h | h
    · rw [h]; rfl
    · rw [h, Bool.or_true]) bs
  rw [em] at eo
  obtain ⟨c, hc⟩ := sortedAll_at s.heap its out.toArray
  have vo : ∀ {L : List (V × D)} {out : List Value}, PySem.W.EachIs (fun v (b : V × D) => RelV b.1 v) out L → Vals (L.map (·.1)) out := by
    intro L
    induction L with
    | nil => intro out e; cases e; exact .nil
    | cons b L ih => intro out e; cases e with | cons h t => exact .cons h (ih t)
  have hsz : s.heap.objs.size ≤ s.heap.objs.size + 1 := Nat.le_succ _
  refine ⟨.ref (s.heap.objs.size + 1), upd H (s.heap.objs.size + 1) (.lst ((isort (fun x y : V × D => leD x.2 y.2) bs).map (·.1))), I.laid (t' := s.toks) (fun b o e => sortedAll_old e) hsz (show ObjOk X.prog X.w _ _ _ (.lst _) from ⟨?_, out, c, vo eo, hc⟩), rfl, q _ (I.hok.fresh hsz)⟩
  rw [List.length_map, ← eo.length, ho]
  exact hz
end
section
variable [TheK] {X : Cx} {Wx : WX} {a : Expr} {ma : DE} {p pos : Pos}
def tup0 : D → Bool
  | .tup _ => true
  | _ => false
def head0 : List D → Bool
  | .tup [] :: _ => true
  | _ => false
def sortOkE0 (xs : List D) : Bool := (xs.all fun x => x.plain 40 && decide (x.toP.depth ≤ 60)) && ((xs.all fun x => xs.all fun y => PySem.W.alike x.toP y.toP) && (xs.all tup0 && head0 xs))
def dSortE0 : D → Rv D
  | .lst xs => if sortOkE0 xs then .ok (.lst (isort leD xs)) else .bad
  | _ => .bad
theorem sortOkE_of {xs : List D} (h : sortOkE0 xs = true) : (∀ x ∈ xs, x.plain 40 = true ∧ x.toP.depth ≤ 60) ∧ PySem.W.AllAlike (xs.map D.toP) ∧ SrtE.SortE (xs.map D.toP) := by
  obtain ⟨h1, h⟩ := He.ba h
  obtain ⟨h2, h⟩ := He.ba h
  obtain ⟨h3, h4⟩ := He.ba h
  refine ⟨fun x hx => ?_, ?_, ?_, ?_⟩
  · obtain ⟨a, b⟩ := He.ba (List.all_eq_true.mp h1 x hx)
    exact ⟨a, of_decide_eq_true b⟩
  · intro d hd d' hd'
    obtain ⟨x, hx, rfl⟩ := List.mem_map.mp hd
    obtain ⟨y, hy, rfl⟩ := List.mem_map.mp hd'
    exact List.all_eq_true.mp (List.all_eq_true.mp h2 x hx) y hy
  · intro d hd
    obtain ⟨x, hx, rfl⟩ := List.mem_map.mp hd
    have := List.all_eq_true.mp h3 x hx
    cases x with
    | tup xs => exact ⟨D.toPs xs, rfl⟩
    | _ => cases this
  · cases xs with
    | nil => cases h4
    | cons x xs =>
      cases x with
      | tup ys =>
        cases ys with
        | nil => exact ⟨xs.map D.toP, rfl⟩
        | cons y ys => cases h4
      | _ => cases h4
theorem cb_sortE0 : Cb1 .f X.K (rSortE0 X.K) dSortE0 := by
  intro F O env σ H x dx dz Q S rx ef q
  unfold dSortE0 at ef
  split at ef
  · rename_i xs
    obtain ⟨a, vs, rfl, s, l⟩ := rx.lst'
    obtain ⟨h, rfl⟩ := if_ok ef
    obtain ⟨h1, h2, h3⟩ := sortOkE_of h
    obtain ⟨bs, rfl, rfl, hb⟩ := RepL.zip l
    rw [List.map_map] at h2 h3
    refine ⟨a, bs, rfl, s, fun b hb' => (hb b hb').dp (h1 b.2 (List.mem_map.mpr ⟨b, hb', rfl⟩)).1, h2, h3, fun b hb' => (h1 b.2 (List.mem_map.mpr ⟨b, hb', rfl⟩)).2, fun p hp => ?_⟩
    have e := isort_map (f := fun b : V × D => b.2) (le := leD) bs
    rw [← e] at q
    exact new_lst S (RepL.unzip fun b hb' => hb b (isort_mem hb')) q hp
  · cases ef
theorem pd_sortE0 (hu : X.A.units + 65 < cLine) (hb : Bn X "sorted" (.builtin "sorted")) (ha : PD .w X Wx a ma) (hs : starEach [a] X.env = (false, eval a X.env) :: starEach [] X.env := by rfl) : PD .f X Wx (.Call (.Name "sorted" p) [a] [] pos) (e1 dSortE0 ma) := pd_b1 (cr_sortE0 hu) cb_sortE0 hb ha hs
end
end AH
/-! tuples of which it is known that they are bare: D.ktp -/
namespace AH
open PySem PySem.Spec PyProof.Rows L2
section
variable {X : Cx} {o e : Expr} {es : List Expr} {to : TE} {t : TA} {apos cpos pos : Pos} {k : Nat}
/-- (x, ..): a new tuple, known -/
def tTupK (t : TA) : TE := fun σ H Q => t σ H fun xs H1 => xs.length ≤ sizeLine ∧ ∀ p od, od.dict = none → H1 p = none → Q (.ref p) (upd H1 p (.frz od (.tup xs)))
theorem pe_tupK (h : PA X es t) : PE X (.Tuple es k pos) (tTupK t) := by
  refine ⟨fun pins s σ H Q I hq => ?_⟩
  refine wpAny_Tuple_spliced (thn (h.run pos pins s σ H _ I hq) fun us s1 ⟨xs, H1, I1, r, z, q⟩ => ⟨by rw [← r.length]; exact z, ?_⟩)
  have hf : H1 s1.heap.objs.size = none := I1.hok.fresh (Nat.le_refl _)
  refine ⟨.ref s1.heap.objs.size, upd H1 s1.heap.objs.size (.frz { cls := .type "tuple", data := .seq us.toArray } (.tup xs)), I1.laid (t' := s1.toks) (fun b u e => Heap.get?_push_of_some _ e) (Nat.le_refl _) ?_, rfl, q _ _ rfl hf⟩
  exact ⟨Heap.get?_push_size _ rfl, z, us, r, ⟨_, Heap.get?_push_size _ rfl, rfl, _, rfl⟩⟩
/-- t + u, u not empty -/
def rCatK (K : PySem.W.Frag) : R2 := fun x y H Q => ∃ a b xs ys, x = .ref a ∧ y = .ref b ∧ SqT K H a xs ∧ SqT K H b ys ∧ xs.length + ys.length ≤ sizeLine ∧ ys ≠ [] ∧
  (xs = [] → Q (.ref b) H) ∧ (xs ≠ [] → ∀ p od, od.dict = none → H p = none → Q (.ref p) (upd H p (.frz od (.tup (xs ++ ys)))))
theorem op_catK : OpR X (binaryOp .Add) (rCatK X.K) := by
  intro pins s σ H x y v u Q I rx ry h
  obtain ⟨a, b, xs, ys, rfl, rfl, ha, hb, hz, hy, q0, q2⟩ := h
  by_cases hx : xs = []
  · subst hx
    cases rx
    cases ry
    obtain ⟨its, r1, p1, _⟩ := I.tuple ha
    obtain ⟨its2, r2, p2, _⟩ := I.tuple hb
    cases r1
    exact cat_tup0 p1 p2 ⟨.ref b, H, I, rfl, q0 rfl⟩
  · cases rx
    cases ry
    obtain ⟨its, r1, p1, _⟩ := I.tuple ha
    obtain ⟨its2, r2, p2, _⟩ := I.tuple hb
    refine HT.cat_tup p1 p2 (fun z => hx (r1.nil_iff.mp z)) (fun z => absurd (r2.nil_iff.mp z) hy) (fun z => ?_) (by rw [← r1.length, ← r2.length]; exact hz)
    refine ⟨.ref s.heap.objs.size, upd H s.heap.objs.size (.frz { cls := .type "tuple", data := .seq (its ++ its2).toArray } (.tup (xs ++ ys))), I.laid (t' := s.toks) (fun b ob q => Heap.get?_push_of_some _ q) (Nat.le_refl _) ?_, rfl, q2 hx _ _ rfl (I.hok.fresh (Nat.le_refl _))⟩
    exact ⟨Heap.get?_push_size _ rfl, by rw [List.length_append]; exact hz, _, r1.append r2, IsTup.new _ _⟩
/-- t.index(k), ints, k there -/
def rIndexT (K : PySem.W.Frag) : V → List V → Hp → VK → Prop := fun x xs H Q => ∃ (a : Addr) (ns : List Int) (k : Int), x = V.ref a ∧ xs = [.int k] ∧ SqT K H a (ns.map V.int) ∧ k ∈ ns ∧ Q (.int (ns.idxOf k : Nat)) H
theorem mt_indexT : MtR X "tuple.index" (rIndexT X.K) := by
  intro pins s σ H x xs v us Q I rx rxs h
  obtain ⟨a, ns, k, rfl, rfl, hs, hk, q⟩ := h
  cases rx
  cases rxs with
  | cons ry rt =>
    cases rt
    obtain ⟨tk, rfl⟩ := ry
    obtain ⟨its, rv, hl, hlen⟩ := I.tuple hs
    exact PySem.SeqAt.tuple_index_ints hl rv.ints hk ⟨.int (ns.idxOf k : Nat), H, I.tok _, ⟨_, rfl⟩, q⟩
def tBMT (r : V → List V → Hp → VK → Prop) (to : TE) (t : TA) : TE := fun σ H Q => to σ H fun x H1 => (∃ a od vs, x = V.ref a ∧ H1 a = some (.frz od (.tup vs)) ∧ od.dict = none) ∧ t σ H1 fun xs H2 => r x xs H2 Q
theorem pe_bmT {name : Str} {id : String} {r : V → List V → Hp → VK → Prop} (pa : PlainAttrs "tuple") (slot : Slot "tuple" name id) (hty : typeOf (.builtin id) = pure (.type "method_descriptor")) (hm : MtR X id r) (ho : PE X o to) (ha : PA X (e :: es) t)
    (hbase : attributeBase o name X.env (eval o X.env) = eval o X.env := by rfl)
    (hfew : ((backTo cpos (starEach (e :: es) X.env)).all (fun x => !x.1) && (backToKw cpos (keywordEach [] X.env)).all (fun x => x.1.isSome)
      && decide ((e :: es).length + ([] : List Keyword).length + (if ([] : List Keyword).isEmpty then 0 else 1) < 30)) = true := by rfl)
    (hline : (apos.endLine == cpos.line) = true := by rfl) (hs : starEach (e :: es) X.env = (false, eval e X.env) :: starEach es X.env := by rfl) (hplain : (backTo cpos (starEach es X.env)).any (·.1) = false := by rfl) :
    PE X (.Call (.Attribute o name apos) (e :: es) [] cpos) (tBMT r to t) := by
  refine ⟨fun pins s σ H Q I h => ?_⟩
  refine wpAny_Call_method_late hbase hfew hline rfl (thn (ho.run pins s σ H _ I h) fun v s1 ⟨x, H1, I1, r1, ty, q1⟩ => ?_)
  obtain ⟨a, od, vs, rfl, hq, hd⟩ := ty
  obtain ⟨h0, _, its, _, o', g1, g2, g3⟩ := (show ObjOk X.prog X.w H1 s1.heap a (.frz od (.tup vs)) from I1.hok a _ hq)
  rw [h0] at g1
  cases Option.some.inj g1
  have r1' := r1
  cases r1'
  refine ⟨"tuple", id, pa, slot, hty, ⟨od, h0, g2⟩, fun a' e => ?_, ?_⟩
  · cases e
    exact ⟨od, h0, hd⟩
  have hA := ha.run cpos pins s1 σ H1 _ I1 q1
  rw [hs] at hA ⊢
  refine Calls.callWith_builtin (by show (false || (backTo cpos (starEach es X.env)).any (·.1)) = false; rw [hplain] <;> rfl) (Calls.evalArgs_plain ?_)
  exact thn hA fun us s2 ⟨vs', H2, I2, r2, q2⟩ => hm pins s2 σ H2 _ vs' _ us Q I2 r1 r2 q2
end
section
variable [TheK] {X : Cx} {Wx : WX} {a b : Expr} {ma mb : DE} {p pos : Pos} {tg : Expr}
theorem new_ktp {K : PySem.W.Frag} {F : Fm} {O : Nat → Option Addr} {env : Env} {σ : L2.St} {H : Hp} {Q : VK} {vs : List V} {xs : List D} {od : Obj} (hd : od.dict = none) (S : SR K F O env σ H) (l : RepL (Ow F O) H vs xs) (q : ∀ z H', SR K F O env σ H' → Ke (Jo O) H H' → Rep (Ow F O) H' z (.ktp xs) → Q z H') {p : Addr} (hp : H p = none) : Q (.ref p) (upd H p (.frz od (.tup vs))) :=
  q _ _ (S.new' hp) (Ke.new hp) (.ktp (S.noW hp) upd_same hd (l.mono (Ke.new hp)))
def eTupK (a : DL) : DE := a.bind fun xs => if lenOk xs.length then M.pure (.ktp xs) else fun _ => .bad
theorem pd_tupK {es : List Expr} {m : DL} {k : Nat} (h : AD X Wx es m) : PD .s X Wx (.Tuple es k pos) (eTupK m) := by
  obtain ⟨t, p, q⟩ := h
  refine ⟨_, pe_tupK p, fun F O env σ H Q S w => ?_⟩
  refine q F O env σ H _ S (w.bind.imp (fun ds e1 w1 vs H1 S1 k1 p1 => ?_) fun _ _ _ z => z)
  cases hz : lenOk ds.length with
  | false => rw [hz] at w1; exact w1.elim
  | true =>
    rw [hz] at w1
    refine ⟨by rw [p1.len]; exact lenOk_of hz, fun p od hd hp => ?_⟩
    exact new_ktp hd S1 p1 (fun z H' S' k r => w1 z H' S' (k1.trans k) r) hp
def dAddK : D → D → Rv D
  | .tup xs, .ktp (y :: ys) => if lenOk (xs.length + (y :: ys).length) then .ok (.ktp (xs ++ (y :: ys))) else .bad
  | .ktp xs, .ktp (y :: ys) => if lenOk (xs.length + (y :: ys).length) then .ok (.ktp (xs ++ (y :: ys))) else .bad
  | _, _ => .bad
theorem o_addK : Op2s .s X.K (rCatK X.K) dAddK := by
  intro F O env σ H x y dx dy dz Q S rx ry ef q
  unfold dAddK at ef
  split at ef
  · obtain ⟨h, rfl⟩ := if_ok ef
    cases rx with
    | tup n1 h1 l1 => cases ry with
      | ktp n2 h2 d2 l2 =>
        refine ⟨_, _, _, _, rfl, rfl, .inl (.inl h1), .inl (.inr ⟨_, h2⟩), by rw [l1.len, l2.len]; exact lenOk_of h, fun z => ?_, fun e => ?_, fun _ p od hd hp => new_ktp hd S (l1.app l2) q hp⟩
        · subst z; cases l2
        · subst e
          cases l1
          exact q _ H S Ke.refl (.ktp n2 h2 d2 l2)
  · obtain ⟨h, rfl⟩ := if_ok ef
    cases rx with
    | ktp n1 h1 d1 l1 => cases ry with
      | ktp n2 h2 d2 l2 =>
        refine ⟨_, _, _, _, rfl, rfl, .inl (.inr ⟨_, h1⟩), .inl (.inr ⟨_, h2⟩), by rw [l1.len, l2.len]; exact lenOk_of h, fun z => ?_, fun e => ?_, fun _ p od hd hp => new_ktp hd S (l1.app l2) q hp⟩
        · subst z; cases l2
        · subst e
          cases l1
          exact q _ H S Ke.refl (.ktp n2 h2 d2 l2)
  · cases ef
theorem pd_addK (ha : PD .s X Wx a ma) (hb : PD .s X Wx b mb) : PD .s X Wx (.BinOp a .Add b pos) (e2 dAddK ma mb) := pd_e2s o_addK ha hb fun p q => pe_op op_catK p q
/-- a known tuple is looked at as a tuple -/
def unK : D → D
  | .ktp xs => .tup xs
  | d => d
def eW (m : DE) : DE := m.bind fun x => M.pure (unK x)
theorem unK_w {K : PySem.W.Frag} {W : Pr} {H : Hp} {v : V} {d : D} (r : Rep W H v d) : RepW K W H v (unK d) := by
  cases r with
  | ktp n h hd l => exact .tup (.inl (.inr ⟨_, h⟩)) l
  | tup n h l => exact .of (.tup n h l)
  | lst n h l => exact .of (.lst n h l)
  | dic n h l => exact .of (.dic n h l)
  | non => exact .of .non
  | bl b => exact .of (.bl b)
  | int b => exact .of (.int b)
  | str b => exact .of (.str b)
  | obj n m h q f => exact .of (.obj n m h q f)
  | exc n m r h1 h2 l => exact .of (.exc n m r h1 h2 l)
theorem pd_eW (ha : PD .s X Wx a ma) : PD .w X Wx a (eW ma) := by
  obtain ⟨ta, pa, qa⟩ := ha
  refine ⟨ta, pa, fun F O env σ H Q S w => ?_⟩
  exact qa F O env σ H _ S (w.bind.imp (fun dx e1 w1 x H1 S1 k1 p1 => w1 x H1 S1 k1 (unK_w p1)) fun _ _ _ z => z)
def dSlK (x : D) (lo hi : Option Int) : Rv D := match x with
  | .ktp xs => if decide (HT.sIx xs.length 0 lo = 0) && decide (HT.sIx xs.length xs.length hi = xs.length) then .ok (.ktp xs) else .ok (.tup (cut xs lo hi))
  | d => dSl d lo hi
def eSlK (a : DE) (lo hi : DO) : DE := a.bind fun x => lo.bind fun l => hi.bind fun h => M.of (dSlK x l h)
theorem o_slK : Osl .s X.K dSlK := by
  intro F O env σ H x dx dz lo hi Q S rx ef q
  unfold dSlK at ef
  split at ef
  · rename_i xs
    rcases rx with rx | ⟨_, h, _⟩
    · cases rx with
      | ktp n h hd l =>
        refine .inr ⟨_, _, rfl, .inl (.inr ⟨_, h⟩), fun w => ?_, fun w p hp => ?_⟩
        · rw [l.len] at w
          rw [if_pos (by rw [decide_eq_true w.1, decide_eq_true w.2]; rfl)] at ef
          cases ef
          exact q _ H S Ke.refl (.ktp n h hd l)
        · rw [l.len] at w
          rw [if_neg (fun z => w (by have := Bool.and_eq_true_iff.mp z; exact ⟨of_decide_eq_true this.1, of_decide_eq_true this.2⟩))] at ef
          cases ef
          exact new_tup S (l.cut lo hi) q hp
    · cases h
  · exact o_sl F O env σ H x _ dz lo hi Q S rx ef q
theorem pd_slK {lo hi : Option Expr} {ml mh : DO} {p2 : Pos} (ha : PD .s X Wx a ma) (hl : OD X Wx lo ml) (hh : OD X Wx hi mh) : PD .s X Wx (.Subscript a (.Slice lo hi none p2) pos) (eSlK ma ml mh) := pd_slice o_slK ha hl hh
theorem id_seqK (ha : PD .s X Wx a ma) : ID X Wx tg a (iSeq (eW ma)) := by
  obtain ⟨ta, pa, qa⟩ := ha
  refine ⟨_, pi_any pa, fun F O env σ H R S w => ?_⟩
  refine qa F O env σ H _ S (w.bind.bind.imp (fun dx e1 w1 x H1 S1 k1 p1 => ?_) fun _ _ _ z => z)
  cases p1 with
  | lst n h l =>
    have st : ∀ H, Ke (Wj F O) H1 H → SqL X.K H _ _ := fun H k => .inl (.inl (k.stay _ _ (fun z => n z.1) h))
    exact ⟨_, rfl, .inl ⟨_, .inl (.inl h), w1 _ H1 S1 k1 (wk_at l (walk_list.mono (fun H k => st H k) fun _ _ _ _ _ _ y => y))⟩⟩
  | tup n h l =>
    have st : ∀ H, Ke (Wj F O) H1 H → SqT X.K H _ _ := fun H k => .inl (.inl (k.stay _ _ (fun z => n z.1) h))
    exact ⟨_, rfl, .inr ⟨_, .inl (.inl h), w1 _ H1 S1 k1 (wk_at l (walk_tup.mono (fun H k => st H k) fun _ _ _ _ _ _ y => y))⟩⟩
  | ktp n h hd l =>
    have st : ∀ H, Ke (Wj F O) H1 H → SqT X.K H _ _ := fun H k => .inl (.inr ⟨_, k.stay _ _ (fun z => n z.1) h⟩)
    exact ⟨_, rfl, .inr ⟨_, .inl (.inr ⟨_, h⟩), w1 _ H1 S1 k1 (wk_at l (walk_tup.mono (fun H k => st H k) fun _ _ _ _ _ _ y => y))⟩⟩
  | _ => exact w1.elim
/-- t.index(k) of a known tuple of ints -/
def dIndexT : D → D → Rv D
  | .ktp xs, .int k => (match intsL xs with
    | some ns => if decide (k ∈ ns) then .ok (.int (ns.idxOf k : Nat)) else .bad
    | none => .bad)
  | _, _ => .bad
def eIndexK (ma mb : DE) : DE := ma.bind fun x => match x with
  | .ktp xs => mb.bind fun k => M.of (dIndexT (.ktp xs) k)
  | _ => fun _ => .bad
theorem pd_indexK {apos cpos : Pos} (ha : PD .s X Wx a ma) (hb : PD .s X Wx b mb) (hbase : attributeBase a "index" X.env (eval a X.env) = eval a X.env := by rfl)
    (hfew : ((backTo cpos (starEach [b] X.env)).all (fun x => !x.1) && (backToKw cpos (keywordEach [] X.env)).all (fun x => x.1.isSome)
      && decide ([b].length + ([] : List Keyword).length + (if ([] : List Keyword).isEmpty then 0 else 1) < 30)) = true := by rfl)
    (hline : (apos.endLine == cpos.line) = true := by rfl) (hs : starEach [b] X.env = (false, eval b X.env) :: starEach [] X.env := by rfl) : PD .s X Wx (.Call (.Attribute a "index" apos) [b] [] cpos) (eIndexK ma mb) := by
  obtain ⟨ta, pa, qa⟩ := ha
  obtain ⟨tb, pb, qb⟩ := hb
  refine ⟨_, pe_bmT PySem.F.plainAttrs_tuple PySem.F.slot_tuple_index PySem.F.type_tuple_index mt_indexT pa (pa_cons pb pa_nil hs) hbase hfew hline hs rfl, fun F O env σ H Q S w => ?_⟩
  refine qa F O env σ H _ S (w.bind.imp (fun dx e1 w1 x H1 S1 k1 p1 => ?_) fun _ _ _ z => z)
  cases p1 with
  | ktp n h hd l0 =>
    rename_i ad vs xs od
    refine ⟨⟨_, _, _, rfl, h, hd⟩, ?_⟩
    refine qb F O e1 σ H1 _ S1 (w1.bind.imp (fun dy e2 w2 y H2 S2 k2 p2 => ?_) (XW.later k1))
    obtain ⟨dz, ef, q⟩ := w2.of
    have h2 := k2.stay _ _ (fun z => n (.inr z)) h
    unfold dIndexT at ef
    cases p2 with
    | int k =>
      simp only at ef
      split at ef
      · rename_i ns hi
        obtain ⟨hk, rfl⟩ := if_ok ef
        have hk := of_decide_eq_true hk
        refine ⟨_, ns, k, rfl, rfl, .inl (.inr ⟨od, ?_⟩), hk, q _ H2 S2 (k1.trans k2) (.int _)⟩
        rw [← l0.ints hi]
        exact h2
      · cases ef
    | _ => cases ef
  | _ => exact w1.elim
end
end AH
namespace AH
open PySem PySem.Spec PyProof.Rows L2
/-! ### {(): n} -/
def tDisp0 (n : Int) : TE := fun _ H Q => ∀ q, H q = none → ∀ p, upd H q (.tup []) p = none → Q (.ref p) (upd (upd H q (.tup [])) p (.dT [([], .int n)]))
theorem upd_swap {H : Hp} {p q : Addr} {x y z : HO} (h : p ≠ q) : upd (upd (upd H p x) q y) p z = upd (upd H q y) p z := by
  funext a
  by_cases e : a = p
  · subst e; rw [upd_same, upd_same]
  · rw [upd_ne e, upd_ne e]
    by_cases e2 : a = q
    · subst e2; rw [upd_same, upd_same]
    · rw [upd_ne e2, upd_ne e2, upd_ne e]
section
variable {X : Cx} {pos tp cp : Pos} {k j : Nat} {n : Int}
theorem pe_disp0 (hu : X.A.units + 65 < cLine) : PE X (.Dict [some (.Tuple [] k tp)] [.Constant (.int n) j cp] pos) (tDisp0 n) := by
  refine ⟨fun pins s σ H Q I h => ?_⟩
  have hn := I.hok.fresh (Nat.le_refl s.heap.objs.size)
  have I1 := I.laid (a := s.heap.objs.size) (o := .dT []) (h' := s.heap.push { cls := .type "dict", data := .dict #[] }) (t' := s.toks) (fun _ _ q => Heap.get?_push_of_some _ q) (Nat.le_refl _) (dt_empty s.heap I.big)
  have big := I.big
  refine wpAny_Dict_any rfl rfl (by simp) (Nat.succ_le_succ (Nat.zero_le 14)) ?_
  refine pairTrees_cons_walk ?_
  refine thn ((pe_tup (pos := tp) (x1 := k) (pa_nil (X := X))).run pins _ σ _ (fun v H' => ∃ q, v = .ref q ∧ upd H s.heap.objs.size (.dT []) q = none ∧ H' = upd (upd H s.heap.objs.size (.dT [])) q (.tup [])) I1 ?_) fun u s1 ⟨x, H1, I2, r1, q, ex, hq, eH⟩ => ?_
  · unfold tTup tNil
    refine ⟨by simp, fun q hq => ⟨q, rfl, hq, rfl⟩⟩
  subst ex eH
  cases (show u = Value.ref q from r1)
  refine wpAny_Constant_int ?_
  refine pairTrees_nil_walk ?_
  have qp : s.heap.objs.size ≠ q := fun e => by rw [← e, upd_same] at hq; cases hq
  have eb : upd (upd H s.heap.objs.size (.dT [])) q (.tup []) q = some (.tup (([] : List Key).map kV)) := upd_same
  have ed : upd (upd H s.heap.objs.size (.dT [])) q (.tup []) s.heap.objs.size = some (.dT []) := by rw [upd_ne qp, upd_same]
  have I3 := I2.tok (s1.toks + 1)
  obtain ⟨z, hd, xs, rel, dd⟩ := dt_of I3.hok ed
  have hz : xs.length ≤ sizeLine := by rw [← Paired.length rel]; exact z
  show wpAny _ _ (storeAll s.heap.objs.size [(Value.ref q, Value.int n s1.toks)]) _ _ _
  unfold storeAll
  rw [List.forIn_cons]
  refine wpAny_bind (wpAny_bind (wpAny_dictSet_heap (hsz := hz) (knd := tupleKind (mixKind X.prog X.w)) (show (tupleKind (mixKind X.prog X.w)).room X.A from (show X.A.units < cLine by omega)) (key_of I3.hok eb) dd fun h' dd' hs => wpAny_pure ?_))
  simp only [List.forIn_nil]
  refine wpAny_pure ?_
  obtain ⟨o, es, ep, g1, g2, g3, g4, _, g5⟩ := dd'
  have I4 := d_write (t' := s1.toks + 1 + (tupleKind (mixKind X.prog X.w)).draws []) (ob := .dT (putK [] ([] : List Key) (.int n))) I3 (by rw [ed]; exact True.intro) hs ⟨o, g1⟩ ⟨by simp [putK]; rw [sizeLine_eq]; omega, hd, _, (rel.put ([] : List Key) eb (show RelV (.int n) (Value.int n s1.toks) from ⟨_, rfl⟩)).keeps fun c ys ec => by
    rw [upd_ne (ne_of ec ed (fun z => nomatch z))]
    exact ec, o, es, ep, g1, g2, g3, g4, g5⟩
  refine ⟨.ref s.heap.objs.size, _, I4, rfl, ?_⟩
  have hq' : H q = none := by rw [upd_ne (Ne.symm qp)] at hq; exact hq
  have := h q hq' s.heap.objs.size (by rw [upd_ne qp]; exact hn)
  rw [upd_swap qp]
  exact this
end
/-- {(): n} as data -/
theorem pd_disp0 [TheK] {X : Cx} {Wx : WX} {pos tp cp : Pos} {k j : Nat} {n : Int} (hu : X.A.units + 65 < cLine) : PD .fd X Wx (.Dict [some (.Tuple [] k tp)] [.Constant (.int n) j cp] pos) (eC (.dic [([], .int n)])) :=
  ⟨_, pe_disp0 hu, fun F O env σ H Q S w q hq => by
    refine new_tup S .nil (Q := fun _ H1 => ∀ p, H1 p = none → Q (.ref p) (upd H1 p (.dT [([], .int n)]))) (fun z H' S' k' po p hp => ?_) hq
    exact new_dic S' (xs := [([], .int n)]) (.cons (.int n) .nil) (fun z H2 S2 k2 p2 => w z H2 S2 (k'.trans k2) (Po.back k' p2)) hp⟩
end AH
namespace AH
open PySem PySem.Spec PyProof.Rows L2
/-! ### sorted(xs, key=len), xs a list of tuples -/
def lenT : D → Int
  | .tup xs => xs.length
  | _ => 0
def isTupD : D → Bool
  | .tup _ => true
  | _ => false
def leLen (x y : D) : Bool := leD (.int (lenT x)) (.int (lenT y))
def dSortLen : D → Rv D
  | .lst xs => if xs.all isTupD then .ok (.lst (isort leLen xs)) else .bad
  | _ => .bad
section
variable {X : Cx}
def rSortLen (K : PySem.W.Frag) : List V → Hp → VK → Prop := fun xs H Q => ∃ (a : Addr) (bs : List (V × D)), xs = [V.ref a] ∧ SqL K H a (bs.map (·.1)) ∧ (∀ b ∈ bs, ∃ (t : Addr) (vs : List V), b.1 = .ref t ∧ lenT b.2 = vs.length ∧ SqT K H t vs) ∧
  ∀ p, H p = none → Q (.ref p) (upd H p (.lst ((isort (fun x y : V × D => leLen x.2 y.2) bs).map (·.1))))
def LenR (h : Heap) (v : Value) (b : V × D) : Prop := RelV b.1 v ∧ ∃ (t : Addr) (its : List Value), v = .ref t ∧ lenT b.2 = its.length ∧ its.length ≤ sizeLine ∧ IsTup h t its.toArray
def tSortLen (K : PySem.W.Frag) (ta : TA) : TE := fun σ H Q => ta σ H fun vs H1 => rSortLen K vs H1 Q
theorem run_sortLen {pins : List (Addr × Obj)} {s : Shared} {σ : L2.St} {H : Hp} {xs : List V} {us : List Value} {Q : VK} (hu : X.A.units + 65 < cLine) (I : Inv X pins σ H s) (r : Vals xs us) (h : rSortLen X.K xs H Q) :
    wpAny (model X.prog X.w) X.A (call (.builtin "sorted") us ([Str.ofString "key"].zip [Value.builtin "len"])) (EP X pins σ Q) X.xe s := by
  obtain ⟨a, bs, rfl, hs, hw, q⟩ := h
  obtain rfl := Vals.ref1 r
  obtain ⟨its, rv, hl, hz⟩ := I.list hs
  rw [List.length_map] at hz
  have each : ∀ {bs : List (V × D)} {its : List Value}, (∀ b ∈ bs, ∃ (t : Addr) (vs : List V), b.1 = .ref t ∧ lenT b.2 = vs.length ∧ SqT X.K H t vs) → Vals (bs.map (·.1)) its → PySem.W.EachIs (LenR s.heap) its bs := by
    intro bs
    induction bs with
    | nil => intro its _ rv; cases rv; exact .nil
    | cons b bs ih =>
      intro its h rv
      cases rv with
      | cons r1 r2 =>
        refine .cons ⟨r1, ?_⟩ (ih (fun c hc => h c (List.mem_cons_of_mem _ hc)) r2)
        obtain ⟨t, vs, e1, e2, e3⟩ := h b List.mem_cons_self
        have r1 : RelV b.1 _ := r1
        rw [e1] at r1
        obtain ⟨its2, rv2, ht, hz2⟩ := I.tuple e3
        exact ⟨t, its2, r1, by rw [e2, rv2.length], by rw [← rv2.length]; exact hz2, ht⟩
  have e := each hw rv
  have hP : ∀ i : Int, (D.int i).toP = .int i := fun i => rfl
  refine PySem.W.sorted_key_data (b := false) (f := .builtin "len") (kw := [(Str.ofString "key", .builtin "len")]) (R := LenR s.heap) (fun b : V × D => (D.int (lenT b.2)).toP) hl.isList e ?_ ?_ hz (fun b hb => ?_) (PyProof.Rows.ksk_s1 _ _) (fun _ => PyProof.Rows.ksk_l1 _ _) (fun _ => PyProof.Rows.ksk_t4 _ _) (fun v b hR hb h tk kp => ?_) fun out c h' tk kp fr hD ho eo => ?_
  · intro d hd d' hd'
    obtain ⟨b, hb, rfl⟩ := List.mem_map.mp hd
    obtain ⟨b', hb', rfl⟩ := List.mem_map.mp hd'
    rfl
  · refine .inr fun d hd => ?_
    obtain ⟨b, hb, rfl⟩ := List.mem_map.mp hd
    exact ⟨fun z => (by cases z), fun xs z => (by cases z)⟩
  · show X.A.units + 2 + (PySem.PyData.int (lenT b.2)).depth < cLine
    have hd : (PySem.PyData.int (lenT b.2)).depth = 0 := rfl
    omega
  · obtain ⟨_, t, its, rfl, e2, hz2, ht⟩ := hR
    have l63 := line63
    refine len_tuple (s := { s with heap := h, toks := tk }) (ht.keeps kp) (by simp only [List.size_toArray]; omega) ?_
    refine ⟨h, _, rfl, fun _ _ e => e, ?_⟩
    show Reads h (Value.int _ _) (PySem.PyData.int (lenT b.2)) []
    rw [e2, List.size_toArray]
    exact Reads.int _ _
  · have tl := PySem.W.sortLe_total (PyProof.Rows.listOrd PyProof.Rows.itemOrd) false fun b : V × D => PySem.W.keyToks (D.int (lenT b.2)).toP
    have em : bs.mergeSort (PySem.W.dataLe false fun b : V × D => (D.int (lenT b.2)).toP) = isort (fun x y : V × D => leLen x.2 y.2) bs := merge_isort tl.trans (fun a b => by
      rcases tl.total a b with h | h
      · rw [h]; rfl
      · rw [h, Bool.or_true]) bs
    rw [em] at eo
    have vo : ∀ {L : List (V × D)} {out : List Value}, PySem.W.EachIs (LenR s.heap) out L → Vals (L.map (·.1)) out := by
      intro L
      induction L with
      | nil => intro out e; cases e; exact .nil
      | cons b L ih => intro out e; cases e with | cons h t => exact .cons h.1 (ih t)
    have hsz : s.heap.objs.size ≤ s.heap.objs.size + 1 := Nat.le_succ _
    refine ⟨.ref (s.heap.objs.size + 1), upd H (s.heap.objs.size + 1) (.lst ((isort (fun x y : V × D => leLen x.2 y.2) bs).map (·.1))), I.laid (t' := tk) (fun b o e => kp b o e) hsz (show ObjOk X.prog X.w _ _ _ (.lst _) from ⟨?_, out, c, vo eo, hD⟩), rfl, q _ (I.hok.fresh hsz)⟩
    rw [List.length_map, ← eo.length, ho]
    exact hz
end
theorem pe_sortLen {X : Cx} {a : Expr} {ta : TE} {p pf pos kpos : Pos} (hu : X.A.units + 65 < cLine) (hb : Bn X "sorted" (.builtin "sorted")) (hl : Bn X "len" (.builtin "len")) (ha : PE X a ta) (hs : starEach [a] X.env = (false, eval a X.env) :: starEach [] X.env := by rfl)
    (he : backTo pos (starEach [a] X.env) = (false, eval a X.env) :: backTo pos (starEach [] X.env) := by rfl) (hpl : (backTo pos (starEach [a] X.env)).any (·.1) = false := by rfl)
    (hall : (backToKw pos (keywordEach [⟨some "key", .Name "len" pf, kpos⟩] X.env)).all (·.1.isSome) = true := by rfl) (hnone : (backToKw pos (keywordEach [⟨some "key", .Name "len" pf, kpos⟩] X.env)).any (·.1.isNone) = false := by rfl) (hks : (backToKw pos (keywordEach [⟨some "key", .Name "len" pf, kpos⟩] X.env)).filterMap (·.1) = [Str.ofString "key"] := by rfl) :
    PE X (.Call (.Name "sorted" p) [a] [⟨some "key", .Name "len" pf, kpos⟩] pos) (tSortLen X.K (tCons ta tNil)) := by
  refine ⟨fun pins s σ H Q I h => ?_⟩
  refine wpAny_Call_Name_kw (ld_blt I hb.gl hb.mg hb.bt ?_ hb.nn hb.nd)
  refine PyProof.Rows.callWith_kw (thn ((pa_cons ha pa_nil hs).run pos pins s σ H _ I h) fun us s1 ⟨vs, H1, I1, r1, q1⟩ => ?_) he hpl hall hnone
  show wpAny _ _ (evalAll ((do let v ← eval (.Name "len" pf) X.env; standAt pos; pure v) :: (backToKw pos (keywordEach [] X.env)).map (·.2))) _ _ s1
  refine wpAny_evalAll_cons (wpAny_bind (ld_blt I1 hl.gl hl.mg hl.bt ?_ hl.nn hl.nd))
  refine wpAny_bind (wpAny_standAt (wpAny_pure ?_))
  refine wpAny_evalAll_nil ?_
  rw [hks]
  exact run_sortLen hu I1 r1 q1
section
variable [TheK] {X : Cx} {Wx : WX} {a : Expr} {ma : DE} {p pf pos kpos : Pos}
theorem isTupD_of {d : D} (h : isTupD d = true) : ∃ xs, d = .tup xs := by
  unfold isTupD at h
  split at h
  · exact ⟨_, rfl⟩
  · cases h
theorem pd_sortLen (hu : X.A.units + 65 < cLine) (hb : Bn X "sorted" (.builtin "sorted")) (hl : Bn X "len" (.builtin "len")) (ha : PD .w X Wx a ma) (hs : starEach [a] X.env = (false, eval a X.env) :: starEach [] X.env := by rfl)
    (he : backTo pos (starEach [a] X.env) = (false, eval a X.env) :: backTo pos (starEach [] X.env) := by rfl) (hpl : (backTo pos (starEach [a] X.env)).any (·.1) = false := by rfl)
    (hall : (backToKw pos (keywordEach [⟨some "key", .Name "len" pf, kpos⟩] X.env)).all (·.1.isSome) = true := by rfl) (hnone : (backToKw pos (keywordEach [⟨some "key", .Name "len" pf, kpos⟩] X.env)).any (·.1.isNone) = false := by rfl) (hks : (backToKw pos (keywordEach [⟨some "key", .Name "len" pf, kpos⟩] X.env)).filterMap (·.1) = [Str.ofString "key"] := by rfl) :
    PD .f X Wx (.Call (.Name "sorted" p) [a] [⟨some "key", .Name "len" pf, kpos⟩] pos) (e1 dSortLen ma) := by
  obtain ⟨ta, pa, qa⟩ := ha
  refine ⟨_, pe_sortLen hu hb hl pa hs he hpl hall hnone hks, fun F' O env σ H Q S w => ?_⟩
  refine qa F' O env σ H _ S (w.bind.imp (fun dx e1 w1 v H1 S1 k1 p1 => ?_) fun _ _ _ z => z)
  obtain ⟨dz, ef, w2⟩ := w1.of
  unfold dSortLen at ef
  split at ef
  · rename_i xs
    obtain ⟨a, vs, rfl, sq, l⟩ := p1.lst'
    obtain ⟨h, rfl⟩ := if_ok ef
    obtain ⟨bs, rfl, rfl, hb⟩ := RepL.zip l
    refine ⟨a, bs, rfl, sq, fun b hb' => ?_, fun p hp => ?_⟩
    · obtain ⟨ds, e2⟩ := isTupD_of (List.all_eq_true.mp h b.2 (List.mem_map.mpr ⟨b, hb', rfl⟩))
      have rb := hb b hb'
      rw [e2] at rb
      obtain ⟨b1, b2⟩ := b
      simp only at e2 rb ⊢
      cases rb with
      | tup n st l => exact ⟨_, _, rfl, by rw [e2]; show ((ds.length : Nat) : Int) = _; rw [RepL.len l], .inl (.inl st)⟩
    · have e := isort_map (f := fun b : V × D => b.2) (le := leLen) bs
      rw [← e] at w2
      refine new_lst S1 (RepL.unzip fun b hb' => hb b (isort_mem hb')) (fun z H' S' k' po => w2 z H' S' (k1.trans k') ?_) hp
      obtain ⟨q, vs, xs, a1, a2, a3, a4, a5, a6⟩ := po
      exact ⟨q, vs, xs, a1, a2, none_back (fun a h => k1.there a h) a3, a4, a5, a6⟩
  · cases ef
end
end AH
namespace AH
open PySem L2
variable [TheK]
/-! ### what a run comes to, exceptions too -/
@[irreducible] def Wn {α : Type} (m : M α) (e : Env) (Q : α → Env → Prop) (E : Str → List D → Env → Prop) : Prop := match m e with
  | .ok a e1 => Q a e1
  | .ex c fs e1 => E c fs e1
  | .bad => False
@[irreducible] def WF (r : Rf) (Q : D → List (List D) → Prop) (E : Str → List D → List (List D) → Prop) : Prop := match r with
  | .ok d bs => Q d bs
  | .ex c fs bs => E c fs bs
  | .bad => False
def WR {α : Type} (r : Rv α) (Q : α → Prop) : Prop := match r with
  | .ok a => Q a
  | .bad => False
abbrev NoE : Str → List D → Env → Prop := fun _ _ _ => False
abbrev NoF : Str → List D → List (List D) → Prop := fun _ _ _ => False
section
variable {α β : Type} {e : Env} {i j : Nat} {a b c d : DE} {t u : DT} {x y z : D} {xs ys : List D} {m n : DS} {g : DG} {E : Str → List D → Env → Prop}
theorem Wn.imp {m : M α} {Q Q' : α → Env → Prop} {E' : Str → List D → Env → Prop} (h : Wn m e Q E) (q : ∀ a e1, Q a e1 → Q' a e1) (x : ∀ c fs e1, E c fs e1 → E' c fs e1 := by intro _ _ _ h; exact h) : Wn m e Q' E' := by
  unfold Wn at h ⊢
  split at h <;> rename_i q1
  · exact q _ _ h
  · exact x _ _ _ h
  · exact h
theorem WF.imp {r : Rf} {Q Q' : D → List (List D) → Prop} {E E' : Str → List D → List (List D) → Prop} (h : WF r Q E) (q : ∀ a e1, Q a e1 → Q' a e1) (x : ∀ c fs e1, E c fs e1 → E' c fs e1 := by intro _ _ _ h; exact h) : WF r Q' E' := by
  unfold WF at h ⊢
  cases r with
  | ok d bs => exact q _ _ h
  | ex c fs bs => exact x _ _ _ h
  | bad => exact h
theorem wn_eq {m : M α} {v : α} {e1 : Env} {Q : α → Env → Prop} (h : m e = .ok v e1) : Wn m e Q E = Q v e1 := by unfold Wn; rw [h]
theorem Wn.eq {m : M α} {v : α} {e1 : Env} (h : Wn m e (fun a e2 => a = v ∧ e2 = e1) NoE) : m e = .ok v e1 := by
  unfold Wn at h
  cases q : m e with
  | ok a e2 => rw [q] at h; obtain ⟨rfl, rfl⟩ := h; rfl
  | ex _ _ _ => rw [q] at h; exact h.elim
  | bad => rw [q] at h; exact h.elim
theorem WF.eq {r : Rf} {v : D} {bs : List (List D)} (h : WF r (fun a b => a = v ∧ b = bs) NoF) : r = .ok v bs := by
  unfold WF at h
  cases r with
  | ok a b => obtain ⟨rfl, rfl⟩ := h; rfl
  | ex _ _ _ => exact h.elim
  | bad => exact h.elim
theorem WF.run {r : Rf} {Q : D → List (List D) → Prop} (h : WF r Q NoF) : ∃ d bs, r = .ok d bs ∧ Q d bs := by
  unfold WF at h
  cases r with
  | ok d bs => exact ⟨d, bs, rfl, h⟩
  | ex _ _ _ => exact h.elim
  | bad => exact h.elim
@[simp] theorem wf_ok {d : D} {bs : List (List D)} {Q : D → List (List D) → Prop} {E : Str → List D → List (List D) → Prop} : WF (.ok d bs) Q E = Q d bs := by unfold WF; rfl
@[simp] theorem wf_ex {c : Str} {fs : List D} {bs : List (List D)} {Q : D → List (List D) → Prop} {E : Str → List D → List (List D) → Prop} : WF (.ex c fs bs) Q E = E c fs bs := by unfold WF; rfl
@[simp] theorem wf_bad {Q : D → List (List D) → Prop} {E : Str → List D → List (List D) → Prop} : WF .bad Q E = False := by unfold WF; rfl
@[simp] theorem wr_ok {v : α} {Q : α → Prop} : WR (.ok v) Q = Q v := nr rfl
@[simp] theorem wr_bad {Q : α → Prop} : WR (.bad : Rv α) Q = False := nr rfl
@[simp] theorem wr_ite {k : Prop} [Decidable k] {r s : Rv α} {Q : α → Prop} : WR (if k then r else s) Q = if k then WR r Q else WR s Q := by split <;> rfl
@[simp] theorem wn_bind {m : M α} {f : α → M β} {Q : β → Env → Prop} : Wn (M.bind m f) e Q E = Wn m e (fun a e1 => Wn (f a) e1 Q E) E := by
  unfold Wn M.bind
  cases m e <;> rfl
@[simp] theorem wn_pure {v : α} {Q : α → Env → Prop} : Wn (M.pure v) e Q E = Q v e := by unfold Wn; rfl
@[simp] theorem wn_of {r : Rv α} {Q : α → Env → Prop} : Wn (M.of r) e Q E = WR r fun v => Q v e := by unfold Wn; cases r <;> rfl
@[simp] theorem wn_bad {Q : α → Env → Prop} : Wn (fun _ => .bad : M α) e Q E = False := by unfold Wn; rfl
@[simp] theorem wn_ite {k : Prop} [Decidable k] {p q : M α} {Q : α → Env → Prop} : Wn (if k then p else q) e Q E = if k then Wn p e Q E else Wn q e Q E := by split <;> rfl
def WS (s : Sl) (Q : D → Prop) : Prop := match s with
  | .val d => Q d
  | _ => False
@[simp] theorem ws_val {Q : D → Prop} : WS (.val x) Q = Q x := nr rfl
def WT (s : Sl) (Q : D → Prop) : Prop := match s with
  | .val d => Q d
  | .ro d => Q d
  | .own xs => Q (.lst xs)
  | .bor xs => Q (.lst xs)
  | .odc kvs => Q (.dic kvs)
  | .ldc kvs => Q (.dic kvs)
  | _ => False
@[simp] theorem wt_val {Q : D → Prop} : WT (.val x) Q = Q x := nr rfl
@[simp] theorem wt_ro {Q : D → Prop} : WT (.ro x) Q = Q x := nr rfl
@[simp] theorem wt_own {Q : D → Prop} : WT (.own xs) Q = Q (.lst xs) := nr rfl
@[simp] theorem wt_bor {Q : D → Prop} : WT (.bor xs) Q = Q (.lst xs) := nr rfl
@[simp] theorem wt_odc {k : List (List Key × D)} {Q : D → Prop} : WT (.odc k) Q = Q (.dic k) := nr rfl
@[simp] theorem wn_var {Q : D → Env → Prop} : Wn (eVar i) e Q E = WS (sl e i) fun v => Q v e := by
  unfold Wn eVar WS
  cases sl e i <;> rfl
@[simp] theorem wn_tmp {Q : D → Env → Prop} : Wn (eTmp i) e Q E = WT (sl e i) fun v => Q v e := by
  unfold Wn eTmp WT
  cases sl e i <;> rfl
@[simp] theorem wn_c {Q : D → Env → Prop} : Wn (eC x) e Q E = Q x e := by unfold Wn; rfl
@[simp] theorem wn_e2 {f : D → D → Rv D} {Q : D → Env → Prop} : Wn (e2 f a b) e Q E = Wn a e (fun x e1 => Wn b e1 (fun y e2 => WR (f x y) fun z => Q z e2) E) E := by simp only [e2, wn_bind, wn_of]
@[simp] theorem wn_e1 {f : D → Rv D} {Q : D → Env → Prop} : Wn (e1 f a) e Q E = Wn a e (fun x e1 => WR (f x) fun z => Q z e1) E := by simp only [e1, wn_bind, wn_of]
@[simp] theorem wn_e2L {f : D → D → Rv D} {Q : D → Env → Prop} : Wn (e2L f i b) e Q E = WT (sl e i) fun _ => Wn b e (fun y e2 => WT (sl e2 i) fun x => WR (f x y) fun z => Q z e2) E := by simp only [e2L, wn_bind, wn_of, wn_tmp]
@[simp] theorem wn_c2 {f : D → D → Rv Bool} {Q : Bool → Env → Prop} : Wn (c2 f a b) e Q E = Wn a e (fun x e1 => Wn b e1 (fun y e2 => WR (f x y) fun z => Q z e2) E) E := by simp only [c2, wn_bind, wn_of]
@[simp] theorem wn_eB {Q : D → Env → Prop} : Wn (eB t) e Q E = Wn t e (fun k e1 => Q (.bl k) e1) E := by simp only [eB, wn_bind, wn_pure]
def WB (d : D) (Q : Bool → Prop) : Prop := match d with
  | .bl k => Q k
  | _ => False
@[simp] theorem wb_bl {k : Bool} {Q : Bool → Prop} : WB (.bl k) Q = Q k := nr rfl
@[simp] theorem wn_tV {Q : Bool → Env → Prop} : Wn (tV a) e Q E = Wn a e (fun x e1 => WB x fun k => Q k e1) E := by
  simp only [tV, wn_bind]
  congr 1
  funext x e1
  unfold Wn; cases x <;> rfl
@[simp] theorem wn_tNot {Q : Bool → Env → Prop} : Wn (tNot t) e Q E = Wn t e (fun k e1 => Q (!k) e1) E := by simp only [tNot, wn_bind, wn_pure]
@[simp] theorem wn_tAnd {Q : Bool → Env → Prop} : Wn (AH.tAnd t u) e Q E = Wn t e (fun k e1 => if k = true then Wn u e1 Q E else Q false e1) E := by simp only [AH.tAnd, wn_bind, wn_ite, wn_pure]
@[simp] theorem wn_tOr {Q : Bool → Env → Prop} : Wn (AH.tOr t u) e Q E = Wn t e (fun k e1 => if k = true then Q true e1 else Wn u e1 Q E) E := by simp only [AH.tOr, wn_bind, wn_ite, wn_pure]
@[simp] theorem wn_tIsN {Q : Bool → Env → Prop} : Wn (tIsN a) e Q E = Wn a e (fun x e1 => Q (dIsN x) e1) E := by simp only [tIsN, wn_bind, wn_pure]
@[simp] theorem wn_c3 {f g : D → D → Rv Bool} {Q : Bool → Env → Prop} : Wn (c3 f g a b c) e Q E = Wn a e (fun x e1 => Wn b e1 (fun y e2 => WR (f x y) fun k => if k = true then Wn c e2 (fun z e3 => WR (g y z) fun l => Q l e3) E else Q false e2) E) E := by simp only [c3, wn_bind, wn_ite, wn_pure, wn_of]
@[simp] theorem wn_c4 {f g h : D → D → Rv Bool} {Q : Bool → Env → Prop} : Wn (c4 f g h a b c d) e Q E = Wn a e (fun x e1 => Wn b e1 (fun y e2 => WR (f x y) fun k => if k = true then Wn c e2 (fun z e3 => WR (g y z) fun l => if l = true then Wn d e3 (fun u e4 => WR (h z u) fun o => Q o e4) E else Q false e3) E else Q false e2) E) E := by simp only [c4, wn_bind, wn_ite, wn_pure, wn_of]
@[simp] theorem wn_eIf {Q : D → Env → Prop} : Wn (eIf t a b) e Q E = Wn t e (fun k e1 => if k = true then Wn a e1 Q E else Wn b e1 Q E) E := by simp only [eIf, wn_bind, wn_ite]
@[simp] theorem wn_eAnd {Q : D → Env → Prop} : Wn (eAnd a b) e Q E = Wn a e (fun x e1 => WB x fun k => if k = true then Wn b e1 Q E else Q (.bl false) e1) E := by simp only [eAnd, wn_bind, wn_ite, wn_pure, wn_tV]
@[simp] theorem wn_eNot {Q : D → Env → Prop} : Wn (eNot a) e Q E = Wn a e (fun x e1 => WB x fun k => Q (.bl (!k)) e1) E := by simp only [eNot, wn_bind, wn_pure, wn_tV]
@[simp] theorem wn_eOrT {Q : D → Env → Prop} : Wn (eOrT a b) e Q E = Wn a e (fun x e1 => WR (truth x) fun k => if k = true then Q x e1 else Wn b e1 Q E) E := by simp only [eOrT, wn_bind, wn_ite, wn_pure, wn_of]
@[simp] theorem wn_aNil {Q : List D → Env → Prop} : Wn aNil e Q E = Q [] e := by unfold Wn; rfl
@[simp] theorem wn_aCons {r : DL} {Q : List D → Env → Prop} : Wn (aCons a r) e Q E = Wn a e (fun x e1 => Wn r e1 (fun xs e2 => Q (x :: xs) e2) E) E := by simp only [aCons, wn_bind, wn_pure]
@[simp] theorem wn_eTup {r : DL} {Q : D → Env → Prop} : Wn (eTup r) e Q E = Wn r e (fun xs e1 => lenOk xs.length = true ∧ Q (.tup xs) e1) E := by
  simp only [eTup, wn_bind, wn_ite, wn_pure, wn_bad]
  congr 1; funext xs e1; split <;> simp [*]
@[simp] theorem wn_eLst {r : DL} {Q : D → Env → Prop} : Wn (eLst r) e Q E = Wn r e (fun xs e1 => lenOk xs.length = true ∧ Q (.lst xs) e1) E := by
  simp only [eLst, wn_bind, wn_ite, wn_pure, wn_bad]
  congr 1; funext xs e1; split <;> simp [*]
@[simp] theorem wn_oNone {Q : Option Int → Env → Prop} : Wn oNone e Q E = Q none e := by unfold Wn; rfl
def WI (d : D) (Q : Int → Prop) : Prop := match d with
  | .int k => Q k
  | _ => False
@[simp] theorem wi_int {k : Int} {Q : Int → Prop} : WI (.int k) Q = Q k := nr rfl
@[simp] theorem wn_oSome {Q : Option Int → Env → Prop} : Wn (oSome a) e Q E = Wn a e (fun x e1 => WI x fun k => Q (some k) e1) E := by
  simp only [oSome, wn_bind]
  congr 1
  funext x e1
  unfold Wn; cases x <;> rfl
@[simp] theorem wn_eSl {lo hi : DO} {Q : D → Env → Prop} : Wn (eSl a lo hi) e Q E = Wn a e (fun x e1 => Wn lo e1 (fun l e2 => Wn hi e2 (fun h e3 => WR (dSl x l h) fun z => Q z e3) E) E) E := by simp only [eSl, wn_bind, wn_of]
@[simp] theorem wn_eSlN {lo hi : DO} {Q : D → Env → Prop} : Wn (eSlN i lo hi) e Q E = WT (sl e i) fun _ => Wn lo e (fun l e2 => Wn hi e2 (fun h e3 => WT (sl e3 i) fun x => WR (dSlL x l h) fun z => Q z e3) E) E := by simp only [eSlN, wn_bind, wn_of, wn_tmp]
@[simp] theorem wn_isi {t : Ty} {Q : D → Env → Prop} : Wn (eIsi t a) e Q E = Wn a e (fun x e1 => isExc x = false ∧ Q (.bl (isi t x)) e1) E := by
  simp only [eIsi, wn_bind, wn_ite, wn_pure, wn_bad]
  congr 1; funext x e1; cases isExc x <;> simp
@[simp] theorem wn_isi2 {t u : Ty} {Q : D → Env → Prop} : Wn (eIsi2 t u a) e Q E = Wn a e (fun x e1 => isPy x = true ∧ Q (.bl (isi t x || isi u x)) e1) E := by
  simp only [eIsi2, wn_bind, wn_ite, wn_pure, wn_bad]
  congr 1; funext x e1; cases isPy x <;> simp
def WL (d : D) (Q : List D → Prop) : Prop := match d with
  | .lst xs => Q xs
  | .tup xs => Q xs
  | _ => False
@[simp] theorem wl_lst {Q : List D → Prop} : WL (.lst xs) Q = Q xs := nr rfl
@[simp] theorem wl_tup {Q : List D → Prop} : WL (.tup xs) Q = Q xs := nr rfl
@[simp] theorem wn_iSeq {Q : List D → Env → Prop} : Wn (iSeq a) e Q E = Wn a e (fun x e1 => WL x fun xs => Q xs e1) E := by
  simp only [iSeq, wn_bind]
  congr 1
  funext x e1
  unfold Wn; cases x <;> rfl
@[simp] theorem wn_iRng1 {Q : List D → Env → Prop} : Wn (AH.iRng1 a) e Q E = Wn a e (fun x e1 => WI x fun k => rngOk 0 k = true ∧ Q (rng 0 k) e1) E := by
  simp only [AH.iRng1, wn_bind]
  congr 1
  funext x e1
  cases x with
  | int k => simp only [wn_ite, wn_pure, wn_bad, wi_int]; cases rngOk 0 k <;> simp
  | _ => unfold Wn; rfl
@[simp] theorem wn_iRng2 {Q : List D → Env → Prop} : Wn (AH.iRng2 a b) e Q E = Wn a e (fun x e1 => Wn b e1 (fun y e2 => WI x fun k => WI y fun l => rngOk k l = true ∧ Q (rng k l) e2) E) E := by
  simp only [AH.iRng2, wn_bind]
  congr 1
  funext x e1
  congr 1
  funext y e2
  cases x with
  | int k => cases y with
    | int l => simp only [wn_ite, wn_pure, wn_bad, wi_int]; cases rngOk k l <;> simp
    | _ => unfold Wn; rfl
  | _ => unfold Wn; rfl
@[simp] theorem seqD_lst : seqD (.lst xs) = some xs := nr rfl
@[simp] theorem seqD_tup : seqD (.tup xs) = some xs := nr rfl
def WZ2 (x y : D) (Q : List D → Prop) : Prop := match seqD x, seqD y with
  | some xs, some ys => Q (pairs xs ys)
  | _, _ => False
@[simp] theorem wz2_ok {Q : List D → Prop} (h1 : seqD x = some xs) (h2 : seqD y = some ys) : WZ2 x y Q = Q (pairs xs ys) := by unfold WZ2; rw [h1, h2]
@[simp] theorem wn_iZip2 {Q : List D → Env → Prop} : Wn (iZip2 a b) e Q E = Wn a e (fun x e1 => Wn b e1 (fun y e2 => WZ2 x y fun zs => Q zs e2) E) E := by
  simp only [iZip2, wn_bind]
  congr 1
  funext x e1
  congr 1
  funext y e2
  unfold WZ2
  cases seqD x <;> cases seqD y <;> (unfold Wn; rfl)
def enumL (xs : List D) : List D := (rng 0 xs.length).zip xs |>.map fun p => D.tup [p.1, p.2]
def WM (d : D) (Q : List D → Prop) : Prop := match d with
  | .lst xs => Q xs
  | _ => False
@[simp] theorem wm_lst {Q : List D → Prop} : WM (.lst xs) Q = Q xs := nr rfl
@[simp] theorem wn_iEnum {Q : List D → Env → Prop} : Wn (iEnumL a) e Q E = Wn a e (fun x e1 => WM x fun xs => Q (enumL xs) e1) E := by
  simp only [iEnumL, wn_bind]
  congr 1
  funext x e1
  cases x <;> (unfold Wn; rfl)
@[simp] theorem wn_gN {Q : Unit → Env → Prop} : Wn (gN i x) e Q E = (isOwn (sl e i) = false ∧ Q () (put e i (.val x))) := by
  unfold Wn gN
  cases isOwn (sl e i) <;> simp
@[simp] theorem wn_gsNil {Q : Unit → Env → Prop} : Wn (gsNil []) e Q E = Q () e := by unfold Wn; rfl
@[simp] theorem wn_gsCons {r : DGs} {Q : Unit → Env → Prop} : Wn (gsCons g r (x :: xs)) e Q E = Wn (g x) e (fun _ e1 => Wn (r xs) e1 Q E) E := by simp only [gsCons, wn_bind]
@[simp] theorem wn_gT {r : DGs} {Q : Unit → Env → Prop} : Wn (gT r x) e Q E = WL x fun xs => Wn (r xs) e Q E := by cases x <;> (unfold Wn; rfl)
/-! ### statements -/
@[simp] theorem wn_sNil {Q : Out → Env → Prop} : Wn sNil e Q E = Q .nx e := by unfold Wn; rfl
def WO (o : Out) (P : Prop) (Q : Out → Prop) : Prop := match o with
  | .nx => P
  | o => Q o
@[simp] theorem wo_nx {P : Prop} {Q : Out → Prop} : WO .nx P Q = P := nr rfl
@[simp] theorem wo_rt {P : Prop} {Q : Out → Prop} : WO (.rt x) P Q = Q (.rt x) := nr rfl
@[simp] theorem wo_bk {P : Prop} {Q : Out → Prop} : WO .bk P Q = Q .bk := nr rfl
@[simp] theorem wo_ct {P : Prop} {Q : Out → Prop} : WO .ct P Q = Q .ct := nr rfl
theorem wn_seq {Q : Out → Env → Prop} : Wn (sSeq m n) e Q E = Wn m e (fun o e1 => WO o (Wn n e1 Q E) fun o => Q o e1) E := by
  simp only [sSeq, wn_bind]
  congr 1
  funext o e1
  cases o <;> (unfold Wn; rfl)
@[simp] theorem wn_sAsg {Q : Out → Env → Prop} : Wn (sAsg a g) e Q E = Wn a e (fun x e1 => Wn (g x) e1 (fun _ e2 => Q .nx e2) E) E := by simp only [sAsg, wn_bind, wn_pure]
@[simp] theorem wn_sAsgN {Q : Out → Env → Prop} : Wn (sAsgN i a) e Q E = Wn a e (fun x e1 => isFix (sl e1 i) = false ∧ Q .nx (put e1 i (.val x))) E := by
  simp only [sAsgN, wn_bind]
  congr 1
  funext x e1
  unfold Wn
  dsimp only
  cases isFix (sl e1 i) <;> simp
@[simp] theorem wn_sOwn {Q : Out → Env → Prop} : Wn (sOwn i a) e Q E = Wn a e (fun x e1 => WM x fun xs => isFix (sl e1 i) = false ∧ i < e1.length ∧ Q .nx (put e1 i (.own xs))) E := by
  simp only [sOwn, wn_bind]
  congr 1
  funext x e1
  cases x with
  | lst xs =>
    unfold Wn
    simp only [wm_lst]
    cases isFix (sl e1 i) <;> by_cases h : i < e1.length <;> simp [h]
  | _ => (unfold Wn; rfl)
@[simp] theorem wn_sRelL {Q : Out → Env → Prop} : Wn (sRelL i) e Q E = (match sl e i with | .own xs => Q .nx (put e i (.val (.lst xs))) | _ => False) := by
  unfold Wn sRelL
  cases sl e i <;> rfl
@[simp] theorem wn_sIf {Q : Out → Env → Prop} : Wn (sIf t m n) e Q E = Wn t e (fun k e1 => if k = true then Wn m e1 Q E else Wn n e1 Q E) E := by simp only [sIf, wn_bind, wn_ite]
@[simp] theorem wn_sRet {Q : Out → Env → Prop} : Wn (sRet a) e Q E = Wn a e (fun x e1 => Q (.rt x) e1) E := by simp only [sRet, wn_bind, wn_pure]
@[simp] theorem wn_sExpr {Q : Out → Env → Prop} : Wn (sExpr a) e Q E = Wn a e (fun _ e1 => Q .nx e1) E := by simp only [sExpr, wn_bind, wn_pure]
@[simp] theorem wn_sRaise {c : Str} {Q : Out → Env → Prop} : Wn (sRaise c) e Q E = E c [] e := by unfold Wn; rfl
@[simp] theorem wn_sRaiseA {c : Str} {n : Nat} {r : DL} {Q : Out → Env → Prop} : Wn (sRaiseA c n r) e Q E = Wn r e (fun xs e1 => xs.length = n ∧ E c xs e1) E := by
  simp only [sRaiseA, wn_bind]
  congr 1; funext xs e1
  by_cases h : xs.length = n <;> (unfold Wn; simp [h])
@[simp] theorem wn_sTryK {c : Str} {Q : Out → Env → Prop} : Wn (sTryK c i j m) e Q E = Wn m e Q (fun c' fs e1 => if c' = c then (isOwn (sl e1 i) = false ∧ isFix (sl e1 j) = false ∧ i < e1.length) ∧ Q .nx (put (put e1 j (.val (.exc c' [] fs))) i .no) else E c' fs e1) := by
  unfold Wn sTryK
  cases m e with
  | ok o e1 => rfl
  | bad => rfl
  | ex c' fs e1 =>
    simp only
    by_cases h : c' = c
    · rw [if_pos h, if_pos h]
      cases h1 : isOwn (sl e1 i) <;> cases h2 : isFix (sl e1 j) <;> by_cases h3 : i < e1.length <;> simp [h3]
    · rw [if_neg h, if_neg h]
def WQ (s : Sl) (Q : List D → Prop) : Prop := match s with
  | .own xs => Q xs
  | .bor xs => Q xs
  | _ => False
@[simp] theorem wq_own {Q : List D → Prop} : WQ (.own xs) Q = Q xs := nr rfl
@[simp] theorem wq_bor {Q : List D → Prop} : WQ (.bor xs) Q = Q xs := nr rfl
@[simp] theorem wn_ownL {Q : List D → Env → Prop} : Wn (ownL i) e Q E = WQ (sl e i) fun xs => Q xs e := by
  unfold Wn ownL
  cases sl e i <;> rfl
@[simp] theorem putL_own : putL (.own xs :: e) 0 ys = .own ys :: e := nr rfl
@[simp] theorem putL_bor : putL (.bor xs :: e) 0 ys = .bor ys :: e := nr rfl
@[simp] theorem putL_S {s : Sl} : putL (s :: e) (i + 1) ys = s :: putL e i ys := by simp [putL]
@[simp] theorem wn_sApp {Q : Out → Env → Prop} : Wn (sApp i a) e Q E = WQ (sl e i) fun _ => Wn a e (fun x e1 => WQ (sl e1 i) fun xs => lenOk (xs.length + 1) = true ∧ Q .nx (putL e1 i (xs ++ [x]))) E := by
  simp only [sApp, wn_bind, wn_ownL]
  congr 1
  funext _
  congr 1
  funext x e1
  congr 1
  funext xs
  unfold Wn
  cases lenOk (xs.length + 1) <;> simp
def WX1 (r : Option Nat) (Q : Nat → Prop) : Prop := match r with
  | some n => Q n
  | none => False
@[simp] theorem wx1_some {n : Nat} {Q : Nat → Prop} : WX1 (some n) Q = Q n := nr rfl
@[simp] theorem wn_sSetL {Q : Out → Env → Prop} : Wn (sSetL i a b) e Q E = Wn b e (fun x e1 => WQ (sl e1 i) fun _ => Wn a e1 (fun k e2 => WQ (sl e2 i) fun xs => WI k fun k => WX1 (ixN xs.length k) fun n => Q .nx (putL e2 i (xs.set n x))) E) E := by
  simp only [sSetL, wn_bind, wn_ownL]
  congr 1
  funext x e1
  congr 1
  funext _
  congr 1
  funext k e2
  congr 1
  funext xs
  cases k with
  | int k =>
    simp only [wi_int]
    cases ixN xs.length k <;> (unfold Wn; rfl)
  | _ => (unfold Wn; rfl)
@[simp] theorem wn_sFor {it : DI} {Q : Out → Env → Prop} : Wn (sFor it g m) e Q E = Wn it e (fun xs e1 => Wn (loop g m xs) e1 Q E) E := by simp only [sFor, wn_bind]
def fgO (vs : List Nat) (o : Out) (e : Env) : Env := match o with
  | .rt _ => e
  | _ => fgt e vs
@[simp] theorem fgO_nx {vs : List Nat} : fgO vs .nx e = fgt e vs := nr rfl
@[simp] theorem fgO_ct {vs : List Nat} : fgO vs .ct e = fgt e vs := nr rfl
@[simp] theorem fgO_bk {vs : List Nat} : fgO vs .bk e = fgt e vs := nr rfl
@[simp] theorem fgO_rt {vs : List Nat} : fgO vs (.rt x) e = e := nr rfl
theorem wn_sFg {vs : List Nat} {Q : Out → Env → Prop} : Wn (sFg vs m) e Q E = Wn m e (fun o e1 => Q o (fgO vs o e1)) E := by
  simp only [sFg, wn_bind]
  congr 1
  funext o e1
  cases o <;> (unfold Wn; rfl)
@[simp] theorem fgt_nil : fgt e [] = e := nr rfl
@[simp] theorem fgt_cons {vs : List Nat} : fgt e (i :: vs) = fgt (fgt1 e i) vs := nr rfl
@[simp] theorem fgt1_S {s : Sl} : fgt1 (s :: e) (i + 1) = s :: fgt1 e i := by
  by_cases h : isFix (sl e i) = true <;> simp [fgt1, h]
@[simp] theorem fgt1_0v : fgt1 (.val x :: e) 0 = .no :: e := nr rfl
@[simp] theorem fgt1_0n : fgt1 (.no :: e) 0 = .no :: e := nr rfl
@[simp] theorem fgt1_0o : fgt1 (.own xs :: e) 0 = .no :: e := nr rfl
@[simp] theorem fgt1_0b : fgt1 (.bor xs :: e) 0 = .bor xs :: e := nr rfl
/-! ### calls -/
theorem wn_call {f : DF} {as : List Arg} {Q : D → Env → Prop} : Wn (eCall f as) e Q E = Wn (argsV as) e (fun vs e1 => (lends as).all (fun i => isL (sl e1 i)) = true ∧ match argsD e1 vs with
    | some ds => WF (f ds) (fun d bs => match giveBack as bs e1 with | some e2 => Q d e2 | none => False) (fun c fs bs => match giveBack as bs e1 with | some e2 => E c fs e2 | none => False)
    | none => False) E := by
  unfold eCall Wn
  dsimp only
  cases argsV as e with
  | ok vs e1 =>
    simp only
    cases (lends as).all fun i => isL (sl e1 i) with
    | false => simp
    | true =>
      simp only [Bool.not_true, Bool.false_eq_true, if_false, true_and]
      cases argsD e1 vs with
      | none => simp
      | some ds =>
        simp only
        cases f ds with
        | ok d bs => simp only [wf_ok]; cases giveBack as bs e1 <;> simp
        | ex c fs bs => simp only [wf_ex]; cases giveBack as bs e1 <;> simp
        | bad => simp
  | ex c fs e1 => rfl
  | bad => rfl
@[simp] theorem wn_call0 {f : DF} {Q : D → Env → Prop} : Wn (eCall f []) e Q E = WF (f []) (fun d bs => bs = [] ∧ Q d e) (fun c fs bs => bs = [] ∧ E c fs e) := by
  rw [wn_call]
  simp only [argsV, wn_pure, lends, List.all_nil, true_and, argsD]
  congr 1
  · funext d bs; cases bs <;> simp [giveBack]
  · funext c fs bs; cases bs <;> simp [giveBack]
@[simp] theorem wn_call1 {f : DF} {Q : D → Env → Prop} : Wn (eCall f [.e a]) e Q E = Wn a e (fun x e1 => WF (f [x]) (fun d bs => bs = [] ∧ Q d e1) (fun c fs bs => bs = [] ∧ E c fs e1)) E := by
  rw [wn_call]
  simp only [argsV, wn_bind, wn_pure, lends, List.all_nil, true_and, argsD, argD]
  congr 1; funext x e1
  congr 1
  · funext d bs; cases bs <;> simp [giveBack]
  · funext c fs bs; cases bs <;> simp [giveBack]
@[simp] theorem wn_call2 {f : DF} {Q : D → Env → Prop} : Wn (eCall f [.e a, .e b]) e Q E = Wn a e (fun x e1 => Wn b e1 (fun y e2 => WF (f [x, y]) (fun d bs => bs = [] ∧ Q d e2) (fun c fs bs => bs = [] ∧ E c fs e2)) E) E := by
  rw [wn_call]
  simp only [argsV, wn_bind, wn_pure, lends, List.all_nil, true_and, argsD, argD]
  congr 1; funext x e1
  congr 1; funext y e2
  congr 1
  · funext d bs; cases bs <;> simp [giveBack]
  · funext c fs bs; cases bs <;> simp [giveBack]
@[simp] theorem wn_call3 {f : DF} {Q : D → Env → Prop} : Wn (eCall f [.e a, .e b, .e c]) e Q E = Wn a e (fun x e1 => Wn b e1 (fun y e2 => Wn c e2 (fun z e3 => WF (f [x, y, z]) (fun d bs => bs = [] ∧ Q d e3) (fun c fs bs => bs = [] ∧ E c fs e3)) E) E) E := by
  rw [wn_call]
  simp only [argsV, wn_bind, wn_pure, lends, List.all_nil, true_and, argsD, argD]
  congr 1; funext x e1
  congr 1; funext y e2
  congr 1; funext z e3
  congr 1
  · funext d bs; cases bs <;> simp [giveBack]
  · funext c fs bs; cases bs <;> simp [giveBack]
@[simp] theorem wn_call4 {f : DF} {Q : D → Env → Prop} : Wn (eCall f [.e a, .e b, .e c, .e d]) e Q E = Wn a e (fun x e1 => Wn b e1 (fun y e2 => Wn c e2 (fun z e3 => Wn d e3 (fun u e4 => WF (f [x, y, z, u]) (fun d bs => bs = [] ∧ Q d e4) (fun c fs bs => bs = [] ∧ E c fs e4)) E) E) E) E := by
  rw [wn_call]
  simp only [argsV, wn_bind, wn_pure, lends, List.all_nil, true_and, argsD, argD]
  congr 1; funext x e1
  congr 1; funext y e2
  congr 1; funext z e3
  congr 1; funext u e4
  congr 1
  · funext d bs; cases bs <;> simp [giveBack]
  · funext c fs bs; cases bs <;> simp [giveBack]
/-- the box in slot 0 is lent -/
@[simp] theorem wn_lend1 {f : DF} {Q : D → Env → Prop} : Wn (eCall f [.lend 0]) (.bor xs :: e) Q E = WF (f [.lst xs]) (fun d bs => ∃ ys, bs = [ys] ∧ Q d (.bor ys :: e)) (fun c fs bs => ∃ ys, bs = [ys] ∧ E c fs (.bor ys :: e)) := by
  rw [wn_call]
  simp only [argsV, wn_bind, wn_pure, wn_tmp, x_sl0, wt_bor, lends, List.all_cons, List.all_nil, Bool.and_true, isL, true_and, argsD, argD, slD]
  congr 1
  · funext d bs
    match bs with
    | [] => simp [giveBack]
    | [ys] => simp [giveBack]
    | _ :: _ :: _ => simp [giveBack]
  · funext c fs bs
    match bs with
    | [] => simp [giveBack]
    | [ys] => simp [giveBack]
    | _ :: _ :: _ => simp [giveBack]
end
/-- an argument leaves the box where it is -/
theorem wn_lendE {f : DF} {a : DE} {xs : List D} {e : Env} {x : D} {Q : D → Env → Prop} {E : Str → List D → Env → Prop} {xs' : List D} {e' : Env} (ha : a (.bor xs :: e) = .ok x (.bor xs' :: e')) : Wn (eCall f [.lend 0, .e a]) (.bor xs :: e) Q E = WF (f [.lst xs', x]) (fun d bs => ∃ ys, bs = [ys] ∧ Q d (.bor ys :: e')) (fun c fs bs => ∃ ys, bs = [ys] ∧ E c fs (.bor ys :: e')) := by
  rw [wn_call]
  simp only [argsV, wn_bind, wn_pure, wn_tmp, x_sl0, wt_bor, wn_eq ha, lends, List.all_cons, List.all_nil, Bool.and_true, isL, true_and, argsD, argD, slD]
  congr 1
  · funext d bs
    match bs with
    | [] => simp [giveBack]
    | [ys] => simp [giveBack]
    | _ :: _ :: _ => simp [giveBack]
  · funext c fs bs
    match bs with
    | [] => simp [giveBack]
    | [ys] => simp [giveBack]
    | _ :: _ :: _ => simp [giveBack]
end AH
namespace AH
open PySem L2
variable [TheK]
def b_law_cells_1 : DS := (sFg [3, 4, 5] (sSeq (sAsgN 5 (e2 dMod (e1 dInt (eVar 3)) (eVar 1))) (sSetL 2 (eVar 5) (e2 dAdd (e2L dIx 2 (eVar 5)) (e2 dMul (eVar 4) (e2 dAdd (eVar 3) (eC (.int 2))))))))
def l_law_cells_1 : DS := (sFor (iEnumL (eSlN 0 (oSome (eVar 1)) (oSome (eC (.int 63))))) (gT (gsCons (gN 3) (gsCons (gN 4) gsNil))) b_law_cells_1)
def m_law_cells : DS := (sSeq (sOwn 2 (eOrT (e1 dList (eSlN 0 oNone (oSome (eVar 1)))) (eLst (aCons (eC (.int 0)) aNil)))) (sSeq l_law_cells_1 (sSeq (sRelL 2) (sRet (eVar 2)))))
def f_law_cells : DF := mkF 6 [.ro, .val] m_law_cells
def c_law_same_1 (n_f : DF) : DE := (eLc [2, 3] (iZip2 (eVar 0) (eVar 1)) (gT (gsCons (gN 2) (gsCons (gN 3) gsNil))) tYes (eCall n_f [.e (eVar 2), .e (eVar 3)]))
def m_law_same (n_f : DF) : DS := (sSeq (sIf (tV (eIsi2 .list .tuple (eVar 1))) (sSeq (sIf (tOr (c2 dNe (eIsi .list (eVar 0)) (eIsi .list (eVar 1))) (c2 dNe (eIsi .tuple (eVar 0)) (eIsi .tuple (eVar 1)))) (sRet (eC (.bl false))) sNil) (sRet (eAnd (eB (c2 dEq (e1 dLen (eVar 0)) (e1 dLen (eVar 1)))) (e1 dAll (c_law_same_1 n_f))))) sNil) (sSeq (sIf (tOr (tIsN (eVar 1)) (tV (eIsi2 .bool .str (eVar 1)))) (sRet (eAnd (eB (c2 dEq (eVar 0) (eVar 1))) (eAnd (eB (c2 dEq (eIsi .bool (eVar 0)) (eIsi .bool (eVar 1)))) (eB (c2 dEq (eB (tIsN (eVar 0))) (eB (tIsN (eVar 1)))))))) sNil) (sRet (eAnd (eIsi .int (eVar 0)) (eAnd (eNot (eIsi .bool (eVar 0))) (eB (c2 dEq (eVar 0) (eVar 1))))))))
def f_law_same : Nat → DF
  | 0 => fun _ => .bad
  | n + 1 => mkF 4 [.val, .val] (m_law_same (f_law_same n))
def m_law_take : DS := (sSeq (sIf (c2 dGt (e2L dIx 0 (eC (.int 0))) (eC (.int 0))) (sSeq (sAsgN 2 (e2 dMod (e1 dInt (e2L dIx 0 (eC (.int 0)))) (eVar 1))) (sSeq (sSetL 0 (eC (.int 0)) (e2 dDiv (e2L dIx 0 (eC (.int 0))) (eVar 1))) (sRet (eVar 2)))) sNil) (sSeq (sSetL 0 (eC (.int 2)) (e2 dAdd (e2L dIx 0 (eC (.int 2))) (eC (.int 1)))) (sSeq (sAsgN 3 (e2 dMod (e1 dInt (e2 dMul (e2 dAdd (e2L dIx 0 (eC (.int 1))) (e2 dMul (eC (.int 48271)) (e2L dIx 0 (eC (.int 2))))) (e2 dAdd (eC (.int 39373)) (e2L dIx 0 (eC (.int 2)))))) (eC (.int 2147483647)))) (sSeq (sAsgN 4 (e2 dAdd (e2 dMod (e1 dInt (eVar 3)) (eC (.int 40009))) (eC (.int 7)))) (sSeq (sAsgN 5 (e2 dMod (e1 dInt (e2 dMul (e2 dAdd (e2 dAdd (eVar 3) (e2L dIx 0 (eC (.int 2)))) (e2 dDiv (e2L dIx 0 (eC (.int 1))) (eC (.int 1000003)))) (eVar 4))) (eC (.int 2147483629)))) (sRet (e2 dMod (e1 dInt (e2 dDiv (e2 dMod (e1 dInt (e2 dAdd (e2 dMul (eVar 5) (eC (.int 48271))) (eVar 3))) (eC (.int 2147483587))) (eC (.int 64)))) (eVar 1))))))))
def f_law_take : DF := mkF 6 [.bor, .val] m_law_take
def m_law_of : DS := (sRet (e2L dIx 1 (eCall f_law_take [.lend 0, .e (e1 dLen (eTmp 1))])))
def f_law_of : DF := mkF 2 [.bor, .ro] m_law_of
def c_law_lists_1 (n_f : DF) : DE := (eLc [1] (iSeq (eVar 0)) (gN 1) tYes (eCall n_f [.e (eVar 1)]))
def m_law_lists (n_f : DF) : DS := (sRet (eIf (tV (eIsi2 .list .tuple (eVar 0))) (c_law_lists_1 n_f) (eVar 0)))
def f_law_lists : Nat → DF
  | 0 => fun _ => .bad
  | n + 1 => mkF 2 [.val] (m_law_lists (f_law_lists n))
def c_law_spans_1 : DE := (eLc [3] (iRng2 (eVar 2) (eVar 0)) (gN 3) tYes (eTup (aCons (eVar 2) (aCons (eVar 3) aNil))))
def b_law_spans_1 : DS := (sFg [2] (sAsgN 1 (e2 dAdd (eVar 1) c_law_spans_1)))
def l_law_spans_1 : DS := (sFor (iRng1 (eVar 0)) (gN 2) b_law_spans_1)
def m_law_spans : DS := (sSeq (sAsgN 1 (eLst aNil)) (sSeq l_law_spans_1 (sRet (eVar 1))))
def f_law_spans : DF := mkF 4 [.val] m_law_spans
def c_law_table_1 : DE := (eLc [2] (iSeq (eCall f_law_spans [.e (e2 dIx (eVar 0) (eC (.int 0)))])) (gN 2) tYes (eTup (aCons (eVar 2) (aCons (eC (.int 0)) aNil))))
def b_law_table_1 : DS := (sFg [2, 3] (sSetD 1 (eVar 2) (eVar 3)))
def l_law_table_1 : DS := (sFor (iSeq (e2 dIx (eVar 0) (eC (.int 1)))) (gT (gsCons (gN 2) (gsCons (gN 3) gsNil))) b_law_table_1)
def m_law_table : DS := (sSeq (sOwnD 1 (e1 dDictP c_law_table_1)) (sSeq l_law_table_1 (sRetOd 1)))
def f_law_table : DF := mkR 4 [.val] m_law_table
def b_law_great_1 : DS := (sFg [3, 4] (sSeq (sAsgN 4 (eCall f_law_take [.lend 0, .e (eCall f_law_of [.lend 0, .e (eLst (aCons (eC (.int 1)) (aCons (eC (.int 2)) (aCons (eC (.int 10)) (aCons (e2 dPow (eC (.int 10)) (eC (.int 6))) (aCons (e2 dPow (eC (.int 10)) (eC (.int 38))) aNil))))))])])) (sIf (c2 dGt (eVar 4) (eC (.int 0))) (sApp 2 (eTup (aCons (eVar 3) (aCons (eVar 4) aNil)))) sNil)))
def l_law_great_1 : DS := (sFor (iSeq (eCall f_law_spans [.e (eVar 1)])) (gN 3) b_law_great_1)
def m_law_great : DS := (sSeq (sOwn 2 (eLst aNil)) (sSeq l_law_great_1 (sSeq (sRelL 2) (sRet (eTup (aCons (eVar 1) (aCons (e1 dTuple (eVar 2)) aNil)))))))
def f_law_great : DF := mkF 5 [.bor, .val] m_law_great
def b_law_lot_1 : DS := (sFg [5, 6] (sSeq (sAsgN 6 (eIf (tOr (c2 dLt (eVar 3) (eC (.int 1))) (c2 dEq (eCall f_law_take [.lend 0, .e (e2 dAdd (eC (.int 1)) (eVar 3))]) (eC (.int 0)))) (eCall f_law_take [.lend 0, .e (e2 dAdd (eVar 2) (eC (.int 1)))]) (eC (.int 0)))) (sIf (c2 dGt (eVar 6) (eC (.int 0))) (sApp 4 (eTup (aCons (eVar 5) (aCons (eVar 6) aNil)))) sNil)))
def l_law_lot_1 : DS := (sFor (iSeq (eCall f_law_spans [.e (eVar 1)])) (gN 5) b_law_lot_1)
def m_law_lot : DS := (sSeq (sPar [(3, false), (4, true)] [.e (eCall f_law_take [.lend 0, .e (eC (.int 4))]), .new (eLst aNil)]) (sSeq l_law_lot_1 (sSeq (sRelL 4) (sRet (eTup (aCons (eVar 1) (aCons (e1 dTuple (eVar 4)) aNil)))))))
def f_law_lot : DF := mkF 7 [.bor, .val, .val] m_law_lot
def c_law_made_1 : DE := (eLc [2] (iSeq (e1 dSortK (eTmp 1))) (gN 2) (c2 dGt (e2L dIx 1 (eVar 2)) (eC (.int 0))) (eTup (aCons (eVar 2) (aCons (e2L dIx 1 (eVar 2)) aNil))))
def m_law_made : DS := (sRet (eTup (aCons (eVar 0) (aCons (e1 dTuple c_law_made_1) aNil))))
def f_law_made : DF := mkF 3 [.val, .ro] m_law_made
def m_check_same : DS := (sIf (c2 dNe (e2 dIx (eVar 0) (eC (.int 0))) (e2 dIx (eVar 1) (eC (.int 0)))) (sRaise "Unlike") sNil)
def f_check_same : DF := mkF 2 [.val, .val] m_check_same
def c_law_moved_1 : DE := (eLc [8] (iSeq (e1 dSortK (eTmp 3))) (gN 8) (c2 dGt (e2L dIx 3 (eVar 8)) (eC (.int 0))) (eVar 8))
def b_law_moved_1 : DS := (sFg [8, 13] (sSetD 3 (eVar 8) (e2 dAdd (e2L dIx 3 (eVar 8)) (eVar 13))))
def l_law_moved_1 : DS := (sFor (iSeq (eTup (aCons (eTup (aCons (eVar 10) (aCons (e1 dNeg (eC (.int 1))) aNil))) (aCons (eTup (aCons (eVar 11) (aCons (e1 dNeg (eC (.int 1))) aNil))) (aCons (eTup (aCons (eVar 12) (aCons (eC (.int 1)) aNil))) (aCons (eTup (aCons (eVar 9) (aCons (eC (.int 1)) aNil))) aNil)))))) (gT (gsCons (gN 8) (gsCons (gN 13) gsNil))) b_law_moved_1)
def b_law_moved_2 : DS := (sFg [5, 6, 7, 8, 9, 10, 11, 12, 13] (sSeq (sAsgN 6 c_law_moved_1) (sSeq (sAsgN 7 (eCall f_law_take [.lend 0, .e (eC (.int 5))])) (sIf (tOr (c2 dEq (eVar 6) (eLst aNil)) (c2 dEq (eVar 7) (eC (.int 0)))) (sSeq (sAsgN 8 (eCall f_law_of [.lend 0, .e (eCall f_law_spans [.e (e2 dIx (eVar 1) (eC (.int 0)))])])) (sSetD 3 (eVar 8) (e2 dAdd (e2 dAdd (e2L dIx 3 (eVar 8)) (eC (.int 1))) (eCall f_law_take [.lend 0, .e (eC (.int 2))])))) (sIf (c2 dEq (eVar 7) (eC (.int 1))) (sSeq (sAsgN 8 (eCall f_law_of [.lend 0, .e (eVar 6)])) (sSetD 3 (eVar 8) (e2 dSub (e2L dIx 3 (eVar 8)) (eC (.int 1))))) (sIf (c2 dEq (eVar 7) (eC (.int 2))) (sSeq (sAsgN 8 (eCall f_law_of [.lend 0, .e (eVar 6)])) (sSeq (sAsgN 9 (eTup (aCons (e2 dMax2 (eC (.int 0)) (e2 dSub (e2 dIx (eVar 8) (eC (.int 0))) (eCall f_law_take [.lend 0, .e (eC (.int 2))]))) (aCons (e2 dMin2 (eVar 4) (e2 dAdd (e2 dIx (eVar 8) (eC (.int 1))) (eCall f_law_take [.lend 0, .e (eC (.int 2))]))) aNil)))) (sSeq (sSetD 3 (eVar 8) (e2 dSub (e2L dIx 3 (eVar 8)) (eC (.int 1)))) (sSetD 3 (eVar 9) (e2 dAdd (e2L dIx 3 (eVar 9)) (eC (.int 1))))))) (sSeq (sPar [(10, false), (11, false)] [.e (eCall f_law_of [.lend 0, .e (eVar 6)]), .e (eCall f_law_of [.lend 0, .e (eVar 6)])]) (sIf (tAnd (c2 dNe (eVar 10) (eVar 11)) (tAnd (c2 dLe (e2 dIx (eVar 10) (eC (.int 0))) (e2 dIx (eVar 11) (eC (.int 1)))) (c2 dLe (e2 dIx (eVar 11) (eC (.int 0))) (e2 dIx (eVar 10) (eC (.int 1)))))) (sSeq (sPar [(12, false), (9, false)] [.e (eTup (aCons (e2 dIx (eVar 10) (eC (.int 0))) (aCons (e2 dIx (eVar 11) (eC (.int 1))) aNil))), .e (eTup (aCons (e2 dIx (eVar 11) (eC (.int 0))) (aCons (e2 dIx (eVar 10) (eC (.int 1))) aNil)))]) l_law_moved_1) sNil))))))))
def l_law_moved_2 : DS := (sFor (iRng1 (eVar 2)) (gN 5) b_law_moved_2)
def m_law_moved : DS := (sSeq (sParK [(3, .d, (eCall f_law_table [.e (eVar 1)])), (4, .v, (e2 dSub (e2 dIx (eVar 1) (eC (.int 0))) (eC (.int 1))))]) (sSeq l_law_moved_2 (sRet (eCall f_law_made [.e (e2 dIx (eVar 1) (eC (.int 0))), .look 3]))))
def f_law_moved : DF := mkF 14 [.bor, .val, .val] m_law_moved
def c_law_cheapest_1 : DE := (eLc [2, 3] (iSeq (e2 dIx (eVar 0) (eC (.int 1)))) (gT (gsCons (gN 2) (gsCons (gN 3) gsNil))) tYes (e2 dMul (eVar 3) (e1 dMinL (eSl (eVar 1) (oSome (e2 dIx (eVar 2) (eC (.int 0)))) (oSome (e2 dAdd (e2 dIx (eVar 2) (eC (.int 1))) (eC (.int 1))))))))
def m_law_cheapest : DS := (sRet (e1 dSumA c_law_cheapest_1))
def f_law_cheapest : DF := mkF 4 [.val, .val] m_law_cheapest
def c_law_rows_1 : DE := (eLc [6] (iRng1 (e2 dAdd (eVar 1) (eC (.int 1)))) (gN 6) tYes (e2 dAdd (eVar 5) (eTup (aCons (eVar 6) aNil))))
def b_law_rows_1 : DS := (sFg [5] (sAsgN 4 (e2 dAdd (eVar 4) c_law_rows_1)))
def l_law_rows_1 : DS := (sFor (iSeq (eVar 2)) (gN 5) b_law_rows_1)
def b_law_rows_2 : DS := (sFg [3, 4, 5] (sSeq (sAsgN 4 (eLst aNil)) (sSeq l_law_rows_1 (sAsgN 2 (eVar 4)))))
def l_law_rows_2 : DS := (sFor (iRng1 (eVar 0)) (gN 3) b_law_rows_2)
def m_law_rows : DS := (sSeq (sAsgN 2 (eLst (aCons (eTup aNil) aNil))) (sSeq l_law_rows_2 (sRet (eVar 2))))
def f_law_rows : DF := mkF 7 [.val, .val] m_law_rows
def b_asked_of_1 : DS := (sFg [2] (sIf (tNot (c3 dLe dLt (eC (.int 0)) (eVar 2) (e2 dIx (eVar 0) (eC (.int 0))))) (sRaiseA "NoHour" 1 (aCons (eVar 2) aNil)) sNil))
def l_asked_of_1 : DS := (sFor (iSeq (eVar 1)) (gN 2) b_asked_of_1)
def c_asked_of_1 : DE := (eLc [2] (iRng2 (eVar 3) (e2 dAdd (eVar 4) (eC (.int 1)))) (gN 2) tYes (eB (c2 dIn (eVar 2) (eVar 1))))
def c_asked_of_2 : DE := (eLc [3, 4, 5] (iSeq (e2 dIx (eVar 0) (eC (.int 1)))) (gT (gsCons (gT (gsCons (gN 3) (gsCons (gN 4) gsNil))) (gsCons (gN 5) gsNil))) (tV (e1 dAll c_asked_of_1)) (eVar 5))
def m_asked_of : DS := (sSeq l_asked_of_1 (sRet (e1 dSumA c_asked_of_2)))
def f_asked_of : DF := mkF 6 [.val, .val] m_asked_of
def m_more_of : DS := (sRet (e2 dSub (eCall f_asked_of [.e (eVar 0), .e (eVar 2)]) (eCall f_asked_of [.e (eVar 1), .e (eVar 2)])))
def f_more_of : DF := mkF 3 [.val, .val, .val] m_more_of
def m_check_order : DS := (sIf (c2 dNe (e1 dSortA (eVar 1)) (lRng1 (eVar 0))) (sRaise "Unfit") sNil)
def f_check_order : DF := mkF 2 [.val, .val] m_check_order
def c_never_dearer_in_1 : DE := (eLc [3] (iRng1 (e2 dIx (eVar 0) (eC (.int 0)))) (gN 3) tYes (eB (c2 dLe (eCall f_more_of [.e (eVar 0), .e (eVar 1), .e (eSl (eVar 2) (oSome (eVar 3)) oNone)]) (eC (.int 0)))))
def m_never_dearer_in : DS := (sSeq (sExpr (eCall f_check_same [.e (eVar 0), .e (eVar 1)])) (sSeq (sExpr (eCall f_check_order [.e (e2 dIx (eVar 0) (eC (.int 0))), .e (eVar 2)])) (sRet (e1 dAll c_never_dearer_in_1))))
def f_never_dearer_in : DF := mkF 4 [.val, .val, .val] m_never_dearer_in
def b_law_mixed_1 : DS := (sFg [4, 5] (sSeq (sAsgN 5 (eCall f_law_take [.lend 0, .e (e1 dLen (eVar 2))])) (sSeq (sApp 3 (e2 dIx (eVar 2) (eVar 5))) (sAsgN 2 (e2 dAdd (eSl (eVar 2) oNone (oSome (eVar 5))) (eSl (eVar 2) (oSome (e2 dAdd (eVar 5) (eC (.int 1)))) oNone))))))
def l_law_mixed_1 : DS := (sFor (iRng1 (e1 dLen (eVar 1))) (gN 4) b_law_mixed_1)
def m_law_mixed : DS := (sSeq (sPar [(2, false), (3, true)] [.e (e1 dList (eVar 1)), .new (eLst aNil)]) (sSeq l_law_mixed_1 (sSeq (sRelL 3) (sRet (eVar 3)))))
def f_law_mixed : DF := mkF 6 [.bor, .val] m_law_mixed
end AH
namespace AH
open PySem L2
variable [TheK]
/-! ### small facts -/
@[simp] theorem lenOk_iff {n : Nat} : lenOk n = true ↔ n ≤ 100000 := by unfold lenOk; simp
@[simp] theorem rngOk_iff {a b : Int} : rngOk a b = true ↔ ((-(2 ^ 62) ≤ a ∧ a < 2 ^ 62) ∧ -(2 ^ 62) ≤ b) ∧ b < 2 ^ 62 := by unfold rngOk; simp
theorem rng_mem {a b : Int} {x : D} (h : x ∈ rng a b) : ∃ i : Int, a ≤ i ∧ i < b ∧ x = .int i := by
  unfold rng at h
  obtain ⟨i, hi, rfl⟩ := List.mem_map.mp h
  have := List.mem_range.mp hi
  exact ⟨a + i, by omega, by omega, rfl⟩
theorem rng_len {a b : Int} : (rng a b).length = (b - a).toNat := by
  unfold rng; rw [List.length_map, List.length_range]
/-- the intsR of a range -/
def intsR (a b : Int) : List Int := (List.range (b - a).toNat).map fun i => a + (i : Nat)
theorem rng_eq {a b : Int} : rng a b = (intsR a b).map D.int := by
  unfold rng intsR; rw [List.map_map]; rfl
theorem mem_intsR {a b i : Int} : i ∈ intsR a b ↔ a ≤ i ∧ i < b := by
  unfold intsR
  rw [List.mem_map]
  constructor
  · rintro ⟨j, hj, rfl⟩
    have := List.mem_range.mp hj
    omega
  · intro h
    exact ⟨(i - a).toNat, List.mem_range.mpr (by omega), by omega⟩
theorem intsR_len {a b : Int} : (intsR a b).length = (b - a).toNat := by
  unfold intsR; rw [List.length_map, List.length_range]
@[simp] theorem dAdd_int {i j : Int} : dAdd (.int i) (.int j) = .ok (.int (i + j)) := nr rfl
@[simp] theorem dAdd_lst {a b : List D} : dAdd (.lst a) (.lst b) = if lenOk (a.length + b.length) then .ok (.lst (a ++ b)) else .bad := nr rfl
@[simp] theorem dAdd_tup {a b : List D} : dAdd (.tup a) (.tup b) = if lenOk (a.length + b.length) then .ok (.tup (a ++ b)) else .bad := nr rfl
@[simp] theorem dSub_int {i j : Int} : dSub (.int i) (.int j) = .ok (.int (i - j)) := nr rfl
@[simp] theorem dNeg_int {i : Int} : dNeg (.int i) = .ok (.int (-i)) := nr rfl
@[simp] theorem dMul_int {i j : Int} : dMul (.int i) (.int j) = if mulOk i j then .ok (.int (i * j)) else .bad := nr rfl
@[simp] theorem dDiv_int {i j : Int} : dDiv (.int i) (.int j) = if divOk j then .ok (.int (i / j)) else .bad := nr rfl
@[simp] theorem dMod_int {i j : Int} : dMod (.int i) (.int j) = if decide (0 < j) then .ok (.int (i % j)) else .bad := nr rfl
@[simp] theorem dInt_int {i : Int} : dInt (.int i) = .ok (.int i) := nr rfl
@[simp] theorem dInt_bl {k : Bool} : dInt (.bl k) = .ok (.int (if k then 1 else 0)) := nr rfl
@[simp] theorem dAbs_int {i : Int} : dAbs (.int i) = .ok (.int (if i < 0 then -i else i)) := nr rfl
@[simp] theorem dLt_int {i j : Int} : dLt (.int i) (.int j) = .ok (decide (i < j)) := nr rfl
@[simp] theorem dLe_int {i j : Int} : dLe (.int i) (.int j) = .ok (decide (i ≤ j)) := nr rfl
@[simp] theorem dGt_int {i j : Int} : dGt (.int i) (.int j) = .ok (decide (j < i)) := nr rfl
@[simp] theorem dGe_int {i j : Int} : dGe (.int i) (.int j) = .ok (decide (j ≤ i)) := nr rfl
@[simp] theorem dEq_int {i j : Int} : dEq (.int i) (.int j) = .ok (i == j) := by simp [dEq, D.plain, D.eqv]
@[simp] theorem dNe_int {i j : Int} : dNe (.int i) (.int j) = .ok (!(i == j)) := by simp [dNe, D.plain, D.eqv]
@[simp] theorem dEq_bl {i j : Bool} : dEq (.bl i) (.bl j) = .ok (i == j) := by simp [dEq, D.plain, D.eqv]
@[simp] theorem dNe_bl {i j : Bool} : dNe (.bl i) (.bl j) = .ok (!(i == j)) := by simp [dNe, D.plain, D.eqv]
@[simp] theorem dEq_non : dEq .non .non = .ok true := nr rfl
theorem dEq_str {s : Str} (h : PySem.PyData.strOk s = true) : dEq (.str s) (.str s) = .ok true := by
  have hp : D.plain 40 (.str s) = true := h
  have he : D.eqv (.str s) (.str s) = true := by show (s == s) = true; simp
  unfold dEq
  rw [hp, he]
  rfl
@[simp] theorem dLen_lst {xs : List D} : dLen (.lst xs) = .ok (.int xs.length) := nr rfl
@[simp] theorem dLen_tup {xs : List D} : dLen (.tup xs) = .ok (.int xs.length) := nr rfl
@[simp] theorem dTuple_lst {xs : List D} : dTuple (.lst xs) = .ok (.tup xs) := nr rfl
@[simp] theorem dTuple_tup {xs : List D} : dTuple (.tup xs) = .ok (.tup xs) := nr rfl
@[simp] theorem dList_lst {xs : List D} : dList (.lst xs) = .ok (.lst xs) := nr rfl
@[simp] theorem dList_tup {xs : List D} : dList (.tup xs) = .ok (.lst xs) := nr rfl
@[simp] theorem dIx_lst {xs : List D} {i : Int} : dIx (.lst xs) (.int i) = (match atI xs i with | some v => .ok v | none => .bad) := nr rfl
@[simp] theorem dIx_tup {xs : List D} {i : Int} : dIx (.tup xs) (.int i) = (match atI xs i with | some v => .ok v | none => .bad) := nr rfl
@[simp] theorem dSl_lst {xs : List D} {l h : Option Int} : dSl (.lst xs) l h = .ok (.lst (cut xs l h)) := nr rfl
@[simp] theorem dSl_tup {xs : List D} {l h : Option Int} : dSl (.tup xs) l h = .ok (.tup (cut xs l h)) := nr rfl
@[simp] theorem dSlL_lst {xs : List D} {l h : Option Int} : dSlL (.lst xs) l h = .ok (.lst (cut xs l h)) := nr rfl
@[simp] theorem dIsN_int {i : Int} : dIsN (.int i) = false := nr rfl
@[simp] theorem dIsN_bl {i : Bool} : dIsN (.bl i) = false := nr rfl
@[simp] theorem dIsN_tup {i : List D} : dIsN (.tup i) = false := nr rfl
@[simp] theorem dIsN_lst {i : List D} : dIsN (.lst i) = false := nr rfl
@[simp] theorem dIsN_str {i : Str} : dIsN (.str i) = false := nr rfl
@[simp] theorem dIsN_exc {c : Str} {ns : List Str} {fs : List D} : dIsN (.exc c ns fs) = false := nr rfl
@[simp] theorem isi_li {xs : List D} : isi .list (.lst xs) = true := nr rfl
@[simp] theorem isi_lt {xs : List D} : isi .list (.tup xs) = false := nr rfl
@[simp] theorem isi_ln {i : Int} : isi .list (.int i) = false := nr rfl
@[simp] theorem isi_tt {xs : List D} : isi .tuple (.tup xs) = true := nr rfl
@[simp] theorem isi_tl {xs : List D} : isi .tuple (.lst xs) = false := nr rfl
@[simp] theorem isi_tn {i : Int} : isi .tuple (.int i) = false := nr rfl
@[simp] theorem isi_ii {i : Int} : isi .int (.int i) = true := nr rfl
@[simp] theorem isi_bi {i : Int} : isi .bool (.int i) = false := nr rfl
theorem atI_nat {xs : List D} {k : Nat} (h : k < xs.length) : atI xs (k : Int) = some xs[k] := by
  have : ixN xs.length (k : Int) = some k := by
    unfold ixN
    rw [if_pos (by omega), if_pos (by omega)]
    rfl
  unfold atI
  rw [this]
  exact List.getElem?_eq_getElem h
theorem atI_of {xs : List D} {i : Int} (h0 : 0 ≤ i) (h1 : i < xs.length) : ∃ x ∈ xs, atI xs i = some x := by
  have e : i = ((i.toNat : Nat) : Int) := by omega
  have hl : i.toNat < xs.length := by omega
  have q := atI_nat hl
  rw [← e] at q
  exact ⟨xs[i.toNat], List.getElem_mem hl, q⟩
theorem cut_to {xs : List D} {i : Nat} (h : i ≤ xs.length) : cut xs none (some (i : Int)) = xs.take i := by
  have h1 : HT.sIx xs.length 0 none = 0 := rfl
  have h2 : HT.sIx xs.length xs.length (some (i : Int)) = i := by rw [HT.sIx_nat]; omega
  unfold cut
  rw [h1, h2]
  rfl
theorem cut_from {xs : List D} {i : Nat} (h : i ≤ xs.length) : cut xs (some (i : Int)) none = xs.drop i := by
  have h1 : HT.sIx xs.length 0 (some (i : Int)) = i := by rw [HT.sIx_nat]; omega
  have h2 : HT.sIx xs.length xs.length none = xs.length := rfl
  unfold cut
  rw [h1, h2, List.take_of_length_le]
  rw [List.length_drop]
  exact Nat.le_refl _
theorem mulOk_r {i j : Int} (h : j.natAbs < 2 ^ 64) : mulOk i j = true := by
  unfold mulOk; rw [decide_eq_true h, Bool.or_true, Bool.or_true]
theorem mulOk_l {i j : Int} (h : i.natAbs < 2 ^ 64) : mulOk i j = true := by
  unfold mulOk; rw [decide_eq_true h, Bool.true_or, Bool.or_true]
theorem bools_map {α : Type} {f : α → Bool} : ∀ xs : List α, bools (xs.map fun x => .bl (f x)) = some (xs.map f)
  | [] => rfl
  | x :: xs => by simp [bools, bools_map xs]
@[simp] theorem dAll_map {α : Type} {f : α → Bool} {xs : List α} : dAll (.lst (xs.map fun x => .bl (f x))) = .ok (.bl (xs.all f)) := by
  simp [dAll, bools_map, Function.comp_def]
theorem intsL_map {α : Type} {f : α → Int} : ∀ xs : List α, intsL (xs.map fun x => .int (f x)) = some (xs.map f)
  | [] => rfl
  | x :: xs => by simp [intsL, intsL_map xs]
@[simp] theorem dSumA_map {α : Type} {f : α → Int} {xs : List α} : dSumA (.lst (xs.map fun x => .int (f x))) = .ok (.int (xs.map f).sum) := by
  simp [dSumA, intsL_map]
@[simp] theorem dSumA_mapT {α : Type} {f : α → Int} {xs : List α} : dSumA (.tup (xs.map fun x => .int (f x))) = .ok (.int (xs.map f).sum) := by
  simp [dSumA, intsL_map]
@[simp] theorem dSumA_ints {xs : List Int} : dSumA (.lst (xs.map D.int)) = .ok (.int xs.sum) := by
  have := dSumA_map (f := fun i : Int => i) (xs := xs)
  rw [List.map_id'] at this; exact this
@[simp] theorem dSumA_intsT {xs : List Int} : dSumA (.tup (xs.map D.int)) = .ok (.int xs.sum) := by
  have := dSumA_mapT (f := fun i : Int => i) (xs := xs)
  rw [List.map_id'] at this; exact this
/-! ### loops -/
section
variable {g : DG} {b : DS} {E : Str → List D → Env → Prop}
@[simp] theorem wn_loop_nil {e : Env} {Q : Out → Env → Prop} : Wn (loop g b []) e Q E = Q .nx e := wn_eq rfl
theorem wn_wipe {α : Type} {m : M α} {vs : List Nat} {e : Env} {Q : α → Env → Prop} : Wn (fun e1 => m (wipeE e1 vs)) e Q E = Wn m (wipeE e vs) Q E := by unfold Wn; rfl
theorem wn_loop (I : List D → Env → Prop) {Q : Out → Env → Prop} (hs : ∀ x r e, I (x :: r) e → Wn (g x) e (fun _ e1 => Wn b e1 (fun o e2 => match o with | .nx => I r e2 | .ct => I r e2 | .bk => Q .nx e2 | .rt d => Q (.rt d) e2) E) E) (hend : ∀ e, I [] e → Q .nx e) :
    ∀ {xs : List D} {e : Env}, I xs e → Wn (loop g b xs) e Q E
  | [], e, h => by rw [wn_loop_nil]; exact hend e h
  | x :: xs, e, h => by
    unfold loop
    rw [wn_bind]
    refine (hs x xs e h).imp fun _ e1 h1 => ?_
    rw [wn_bind]
    refine h1.imp fun o e2 h2 => ?_
    cases o with
    | nx => exact wn_loop I hs hend h2
    | ct => exact wn_loop I hs hend h2
    | bk => exact (wn_eq rfl).mpr h2
    | rt d => exact (wn_eq rfl).mpr h2
theorem loop_cons {x : D} {xs : List D} {e e' : Env} (h : Wn (g x) e (fun _ e1 => Wn b e1 (fun o e2 => o = .nx ∧ e2 = e') NoE) NoE) : loop g b (x :: xs) e = loop g b xs e' := by
  have q : ∃ e1, g x e = .ok () e1 ∧ b e1 = .ok .nx e' := by
    unfold Wn at h
    cases h1 : g x e with
    | ok u e1 =>
      rw [h1] at h
      simp only at h
      exact ⟨e1, rfl, Wn.eq (by unfold Wn; exact h)⟩
    | ex _ _ _ => rw [h1] at h; exact h.elim
    | bad => rw [h1] at h; exact h.elim
  obtain ⟨e1, h1, h2⟩ := q
  show M.bind (g x) _ e = _
  rw [bind_ok h1, bind_ok h2]
/-- a loop over typed things that only carries a state on -/
theorem loop_fold {S T : Type} {st : S → Env} {enc : T → D} (f : S → T → S) : ∀ (L : List T) (s : S), (∀ (s : S) (y : T), y ∈ L → Wn (g (enc y)) (st s) (fun _ e1 => Wn b e1 (fun o e2 => (o = .nx ∨ o = .ct) ∧ e2 = st (f s y)) NoE) NoE) → loop g b (L.map enc) (st s) = .ok .nx (st (L.foldl f s))
  | [], s, _ => rfl
  | y :: L, s, h => by
    have h1 := h s y List.mem_cons_self
    have ih := loop_fold f L (f s y) fun s z hz => h s z (List.mem_cons_of_mem _ hz)
    rw [List.map_cons, List.foldl_cons]
    refine Wn.eq ?_
    unfold loop
    rw [wn_bind]
    refine h1.imp fun _ e1 h2 => ?_
    rw [wn_bind]
    refine h2.imp fun o e2 h3 => ?_
    obtain ⟨ho, rfl⟩ := h3
    rcases ho with rfl | rfl
    · rw [wn_eq ih]; exact ⟨rfl, rfl⟩
    · rw [wn_eq ih]; exact ⟨rfl, rfl⟩
/-! ### comprehensions -/
theorem lc_filter {T : Type} {vs : List Nat} {it : DI} {t : DT} {a : DE} {e : Env} {L : List T} {enc : T → D} (p : T → Bool) (f : T → D) (hi : it e = .ok (L.map enc) e) (hv : (vs.any fun v => isOwn (sl e v)) = false) (hl : L.length ≤ 100000)
    (h : ∀ y ∈ L, Wn (g (enc y)) (wipeE e vs) (fun _ e1 => wipeE e1 vs = wipeE e vs ∧ Wn t e1 (fun k e2 => k = p y ∧ e2 = e1) NoE ∧ (p y = true → Wn a e1 (fun d e2 => d = f y ∧ e2 = e1) NoE)) NoE) : eLc vs it g t a e = .ok (.lst ((L.filter p).map f)) e := by
  have key : ∀ L : List T, (∀ y ∈ L, Wn (g (enc y)) (wipeE e vs) (fun _ e1 => wipeE e1 vs = wipeE e vs ∧ Wn t e1 (fun k e2 => k = p y ∧ e2 = e1) NoE ∧ (p y = true → Wn a e1 (fun d e2 => d = f y ∧ e2 = e1) NoE)) NoE) → compL vs e g t a (L.map enc) (wipeE e vs) = .ok ((L.filter p).map f) (wipeE e vs) := by
    intro L
    induction L with
    | nil => intro _; rfl
    | cons y L ih =>
      intro h
      have h1 := h y List.mem_cons_self
      have ih := ih fun z hz => h z (List.mem_cons_of_mem _ hz)
      refine Wn.eq ?_
      rw [List.map_cons]
      unfold compL
      show Wn (M.bind _ _) _ _ _
      rw [wn_bind]
      refine h1.imp fun _ e1 h2 => ?_
      obtain ⟨hw, ht, ha⟩ := h2
      rw [wn_bind]
      refine ht.imp fun k e2 hk => ?_
      obtain ⟨rfl, rfl⟩ := hk
      rw [wn_bind]
      cases hp : p y with
      | false =>
        simp only [Bool.false_eq_true, if_false, wn_pure]
        rw [wn_wipe, wn_bind, hw, wn_eq ih]
        simp [hp]
      | true =>
        simp only [if_true, wn_bind, wn_pure]
        refine (ha hp).imp fun d e3 hd => ?_
        obtain ⟨rfl, rfl⟩ := hd
        rw [wn_wipe, wn_bind, hw, wn_eq ih]
        simp [hp]
  unfold eLc
  rw [bind_ok hi]
  have hl' : lenOk (L.map enc).length = true := by rw [List.length_map]; exact decide_eq_true hl
  simp only [hv, hl', Bool.not_true, Bool.or_self]
  unfold noX
  rw [key L h]
  show R.ok (D.lst ((L.filter p).map f)) (back e (wipeE e vs) vs) = _
  rw [back_wipe]
theorem lc_map {T : Type} {vs : List Nat} {it : DI} {a : DE} {e : Env} {L : List T} {enc : T → D} (f : T → D) (hi : it e = .ok (L.map enc) e) (hv : (vs.any fun v => isOwn (sl e v)) = false) (hl : L.length ≤ 100000)
    (h : ∀ y ∈ L, Wn (g (enc y)) (wipeE e vs) (fun _ e1 => wipeE e1 vs = wipeE e vs ∧ Wn a e1 (fun d e2 => d = f y ∧ e2 = e1) NoE) NoE) : eLc vs it g tYes a e = .ok (.lst (L.map f)) e := by
  have q := lc_filter (t := tYes) (fun _ => true) f hi hv hl fun y hy => (h y hy).imp fun _ e1 h1 => ⟨h1.1, (wn_eq rfl).mpr ⟨rfl, rfl⟩, fun _ => h1.2⟩
  rw [List.filter_eq_self.mpr fun _ _ => rfl] at q
  exact q
/-- items as they are -/
theorem lc_mapD {vs : List Nat} {it : DI} {a : DE} {e : Env} {L : List D} (f : D → D) (hi : it e = .ok L e) (hv : (vs.any fun v => isOwn (sl e v)) = false) (hl : L.length ≤ 100000)
    (h : ∀ y ∈ L, Wn (g y) (wipeE e vs) (fun _ e1 => wipeE e1 vs = wipeE e vs ∧ Wn a e1 (fun d e2 => d = f y ∧ e2 = e1) NoE) NoE) : eLc vs it g tYes a e = .ok (.lst (L.map f)) e :=
  lc_map (enc := id) f (by rw [List.map_id]; exact hi) hv hl h
end
/-! ### draws -/
def Bx (n : Nat) (xs : List D) : Prop := ∃ a m c : Int, xs = [.int a, .int m, .int c] ∧ 0 ≤ a ∧ 0 ≤ m ∧ m < 2 ^ 62 ∧ 0 ≤ c ∧ c + n ≤ 2 ^ 59
theorem Bx.le {n k : Nat} {xs : List D} (h : Bx n xs) (hk : k ≤ n) : Bx k xs := by
  obtain ⟨a, m, c, e, h1, h2, h3, h4, h5⟩ := h
  exact ⟨a, m, c, e, h1, h2, h3, h4, by omega⟩
theorem take_ok {n : Nat} {xs : List D} {b : Int} (hb : Bx (n + 1) xs) (h1 : 0 < b) (h2 : b.natAbs.log2 < 9000) : ∃ r xs', f_law_take [.lst xs, .int b] = .ok (.int r) [xs'] ∧ 0 ≤ r ∧ r < b ∧ Bx n xs' := by
  obtain ⟨a, m, c, rfl, hn, hm, hm2, hc, hck⟩ := hb
  have d2 : divOk b = true := by unfold divOk; rw [decide_eq_true h1, decide_eq_true h2]; rfl
  by_cases h0 : 0 < a
  · refine ⟨a % b, [.int (a / b), .int m, .int c], ?_, Int.emod_nonneg _ (by omega), Int.emod_lt_of_pos _ h1, a / b, m, c, rfl, Int.ediv_nonneg hn (by omega), hm, hm2, hc, by omega⟩
    simp [f_law_take, m_law_take, mkF, lstsOk, startE, ixN, h0, h1, d2, lentOf]
  · have m1 : ∀ i : Int, mulOk i (39373 + (c + 1)) = true := fun i => mulOk_r (by omega)
    have m2 : ∀ i : Int, mulOk 48271 i = true := fun i => mulOk_l (by decide)
    have m3 : ∀ i j : Int, mulOk i (j % 40009 + 7) = true := fun i j => mulOk_r (by omega)
    have m4 : ∀ i : Int, mulOk i 48271 = true := fun i => mulOk_r (by decide)
    have d3 : divOk 1000003 = true := by decide
    have d4 : divOk 64 = true := by decide
    have key : ∃ r, f_law_take [.lst [.int a, .int m, .int c], .int b] = .ok (.int (r % b)) [[.int a, .int m, .int (c + 1)]] := by
      refine ⟨((((m + 48271 * (c + 1)) * (39373 + (c + 1)) % 2147483647 + (c + 1) + m / 1000003) * ((m + 48271 * (c + 1)) * (39373 + (c + 1)) % 2147483647 % 40009 + 7)) % 2147483629 * 48271 + (m + 48271 * (c + 1)) * (39373 + (c + 1)) % 2147483647) % 2147483587 / 64, ?_⟩
      simp [f_law_take, m_law_take, mkF, lstsOk, startE, ixN, h0, h1, d2, d3, d4, m1, m2, m3, m4, lentOf]
    obtain ⟨r, key⟩ := key
    exact ⟨r % b, [.int a, .int m, .int (c + 1)], key, Int.emod_nonneg _ (by omega), Int.emod_lt_of_pos _ h1, a, m, c + 1, rfl, hn, hm, hm2, by omega, by omega⟩
theorem log_lt {b : Int} (h0 : 0 < b) (h : b < 2 ^ 140) : b.natAbs.log2 < 9000 := by
  have h1 : b.natAbs < 2 ^ 140 := by omega
  have := (Nat.log2_lt (n := b.natAbs) (k := 140) (by omega)).mpr h1
  omega
/-- a draw, as a wish -/
theorem wf_take {n : Nat} {xs : List D} {b : Int} {Q : D → List (List D) → Prop} {E : Str → List D → List (List D) → Prop} (hb : Bx (n + 1) xs) (h1 : 0 < b) (h2 : b < 2 ^ 140) (q : ∀ v ys, 0 ≤ v → v < b → Bx n ys → Q (.int v) [ys]) : WF (f_law_take [.lst xs, .int b]) Q E := by
  obtain ⟨r, xs', h, h3, h4, h5⟩ := take_ok hb h1 (log_lt h1 h2)
  rw [h, wf_ok]
  exact q r xs' h3 h4 h5
theorem wn_take {n : Nat} {xs : List D} {b : Int} {a : DE} {e : Env} {Q : D → Env → Prop} {E : Str → List D → Env → Prop} (ha : a (.bor xs :: e) = .ok (.int b) (.bor xs :: e)) (hb : Bx (n + 1) xs) (h1 : 0 < b) (h2 : b < 2 ^ 140) (q : ∀ v ys, 0 ≤ v → v < b → Bx n ys → Q (.int v) (.bor ys :: e)) : Wn (eCall f_law_take [.lend 0, .e a]) (.bor xs :: e) Q E := by
  rw [wn_lendE ha]
  exact wf_take hb h1 h2 fun v ys h3 h4 h5 => ⟨ys, rfl, q v ys h3 h4 h5⟩
/-- one of a pool -/
theorem of_okK {n : Nat} {xs ps : List D} {d : D} (hd : d = .lst ps ∨ d = .tup ps) (hb : Bx (n + 1) xs) (h1 : 0 < ps.length) (h2 : ps.length ≤ 100000) : ∃ p ∈ ps, ∃ xs', f_law_of [.lst xs, d] = .ok p [xs'] ∧ Bx n xs' := by
  obtain ⟨r, xs', h, h3, h4, h5⟩ := take_ok (b := ps.length) hb (by omega) (log_lt (by omega) (by omega))
  obtain ⟨p, hp, e⟩ := atI_of h3 h4
  refine ⟨p, hp, xs', ?_, h5⟩
  have hl : dLen d = .ok (.int ps.length) := by rcases hd with rfl | rfl <;> rfl
  have hx : dIx d (.int r) = .ok p := by rcases hd with rfl | rfl <;> simp [e]
  have c : eCall f_law_take [.lend 0, .e (e1 dLen (eTmp 1))] [.bor xs, .ro d] = .ok (.int r) [.bor xs', .ro d] := call_ok (args_lend (x := .lst xs) rfl (args_e (x := .int ps.length) (e1 := [.bor xs, .ro d]) (Wn.eq (by simp [hl])) rfl)) rfl rfl h rfl
  refine mkF_rt (by rcases hd with rfl | rfl <;> rfl) (e := [.bor xs', .ro d]) (show m_law_of [.bor xs, .ro d] = _ from ?_) rfl
  unfold m_law_of
  refine Wn.eq ?_
  simp [wn_eq c, hx]
theorem of_ok {n : Nat} {xs ps : List D} (hb : Bx (n + 1) xs) (h1 : 0 < ps.length) (h2 : ps.length ≤ 100000) : ∃ p ∈ ps, ∃ xs', f_law_of [.lst xs, .lst ps] = .ok p [xs'] ∧ Bx n xs' := of_okK (.inl rfl) hb h1 h2
theorem wn_of2 {n : Nat} {xs ps : List D} {a : DE} {e : Env} {Q : D → Env → Prop} {E : Str → List D → Env → Prop} (ha : a (.bor xs :: e) = .ok (.lst ps) (.bor xs :: e)) (hb : Bx (n + 1) xs) (h1 : 0 < ps.length) (h2 : ps.length ≤ 100000) (q : ∀ p ys, p ∈ ps → Bx n ys → Q p (.bor ys :: e)) : Wn (eCall f_law_of [.lend 0, .e a]) (.bor xs :: e) Q E := by
  rw [wn_lendE ha]
  obtain ⟨p, hp, xs', h, h5⟩ := of_ok hb h1 h2
  rw [h, wf_ok]
  exact ⟨xs', rfl, q p xs' hp h5⟩
end AH
namespace AH
open PySem L2
variable [TheK]
/-! ### small plain data -/
mutual
def D.sm : Nat → D → Bool
  | _, .non => true
  | _, .bl _ => true
  | _, .int _ => true
  | _, .str s => PySem.PyData.strOk s
  | n + 1, .tup xs => decide (xs.length ≤ 10000) && D.smL n xs
  | n + 1, .lst xs => decide (xs.length ≤ 10000) && D.smL n xs
  | _, _ => false
def D.smL : Nat → List D → Bool
  | _, [] => true
  | n, x :: xs => D.sm n x && D.smL n xs
end
mutual
def D.li : D → D
  | .tup xs => .lst (D.liL xs)
  | .lst xs => .lst (D.liL xs)
  | d => d
def D.liL : List D → List D
  | [] => []
  | x :: xs => D.li x :: D.liL xs
end
theorem smL_iff {n : Nat} : ∀ {xs : List D}, D.smL n xs = true ↔ ∀ x ∈ xs, D.sm n x = true
  | [] => by simp [D.smL]
  | x :: xs => by simp [D.smL, smL_iff (xs := xs)]
theorem liL_map : ∀ xs : List D, D.liL xs = xs.map D.li
  | [] => rfl
  | x :: xs => by simp [D.liL, liL_map xs]
@[simp] theorem li_tup {xs : List D} : (D.tup xs).li = .lst (xs.map D.li) := by rw [D.li, liL_map]
@[simp] theorem li_lst {xs : List D} : (D.lst xs).li = .lst (xs.map D.li) := by rw [D.li, liL_map]
@[simp] theorem li_int {i : Int} : (D.int i).li = .int i := by simp [D.li]
@[simp] theorem sm_int {n : Nat} {i : Int} : (D.int i).sm n = true := by cases n <;> rfl
@[simp] theorem sm_bl {n : Nat} {i : Bool} : (D.bl i).sm n = true := by cases n <;> rfl
@[simp] theorem sm_non {n : Nat} : D.non.sm n = true := by cases n <;> rfl
@[simp] theorem sm_tup {n : Nat} {xs : List D} : (D.tup xs).sm (n + 1) = true ↔ xs.length ≤ 10000 ∧ ∀ x ∈ xs, x.sm n = true := by
  rw [D.sm, Bool.and_eq_true, decide_eq_true_eq, smL_iff]
@[simp] theorem sm_lst {n : Nat} {xs : List D} : (D.lst xs).sm (n + 1) = true ↔ xs.length ≤ 10000 ∧ ∀ x ∈ xs, x.sm n = true := by
  rw [D.sm, Bool.and_eq_true, decide_eq_true_eq, smL_iff]
/-! ### the same again -/
theorem same_lc {nf : DF} {xs : List D} {d1 d2 : D} (hd : (d1 = .tup xs ∧ d2 = .tup xs) ∨ (d1 = .lst xs ∧ d2 = .lst xs)) (hl : xs.length ≤ 10000) (h : ∀ x ∈ xs, nf [x, x] = .ok (.bl true) []) :
    c_law_same_1 nf [.val d1, .val d2, .no, .no] = .ok (.lst ((xs.zip xs).map fun _ => .bl true)) [.val d1, .val d2, .no, .no] := by
  unfold c_law_same_1
  refine lc_map (L := xs.zip xs) (enc := fun p => .tup [p.1, p.2]) (fun _ => .bl true) ?_ rfl (by rw [List.length_zip]; omega) fun y hy => ?_
  · rcases hd with ⟨rfl, rfl⟩ | ⟨rfl, rfl⟩ <;> rfl
  · have e : ∀ {xs : List D} {p : D × D}, p ∈ xs.zip xs → p.1 = p.2 ∧ p.1 ∈ xs := by
      intro xs
      induction xs with
      | nil => intro p h; cases h
      | cons x xs ih =>
        intro p h
        rw [List.zip_cons_cons] at h
        rcases List.mem_cons.mp h with rfl | h
        · exact ⟨rfl, List.mem_cons_self⟩
        · exact ⟨(ih h).1, List.mem_cons_of_mem _ (ih h).2⟩
    obtain ⟨h1, h2⟩ := e hy
    have h3 := h _ h2
    rw [h1] at h3
    simp [wipeE, h1, h3]
theorem same_refl : ∀ {k n : Nat} {d : D}, d.sm n = true → n + 1 ≤ k → f_law_same k [d, d] = .ok (.bl true) [] := by
  intro k
  induction k with
  | zero => intro n d _ h; omega
  | succ k ih =>
    intro n d hd hk
    cases d with
    | tup xs =>
      cases n with
      | zero => cases hd
      | succ n =>
        rw [sm_tup] at hd
        have lc := same_lc (nf := f_law_same k) (d1 := .tup xs) (d2 := .tup xs) (.inl ⟨rfl, rfl⟩) hd.1 fun x hx => ih (hd.2 x hx) (by omega)
        have al : dAll (.lst ((xs.zip xs).map fun _ => .bl true)) = .ok (.bl true) := by rw [dAll_map (f := fun _ => true)]; simp
        refine mkF_rt rfl (e := [.val (.tup xs), .val (.tup xs), .no, .no]) (show m_law_same (f_law_same k) [.val (.tup xs), .val (.tup xs), .no, .no] = _ from ?_) rfl
        simp [m_law_same, lc, al]
    | lst xs =>
      cases n with
      | zero => cases hd
      | succ n =>
        rw [sm_lst] at hd
        have lc := same_lc (nf := f_law_same k) (d1 := .lst xs) (d2 := .lst xs) (.inr ⟨rfl, rfl⟩) hd.1 fun x hx => ih (hd.2 x hx) (by omega)
        have al : dAll (.lst ((xs.zip xs).map fun _ => .bl true)) = .ok (.bl true) := by rw [dAll_map (f := fun _ => true)]; simp
        refine mkF_rt rfl (e := [.val (.lst xs), .val (.lst xs), .no, .no]) (show m_law_same (f_law_same k) [.val (.lst xs), .val (.lst xs), .no, .no] = _ from ?_) rfl
        simp [m_law_same, lc, al]
    | ktp _ => cases n <;> cases hd
    | int i => simp [f_law_same, m_law_same, mkF, lstsOk, startE, lentOf, isi]
    | bl i => simp [f_law_same, m_law_same, mkF, lstsOk, startE, lentOf, isi]
    | non => simp [f_law_same, m_law_same, mkF, lstsOk, startE, lentOf, isi]
    | str s =>
      have h : PySem.PyData.strOk s = true := by cases n <;> exact hd
      simp [f_law_same, m_law_same, mkF, lstsOk, startE, lentOf, isi, dEq_str h]
    | dic _ => cases n <;> cases hd
    | exc _ _ _ => cases n <;> cases hd
    | obj _ => cases n <;> cases hd
/-- a check by the law's own word: both sides are the same small thing -/
theorem same_eq {n : Nat} {x y : D} (h : x = y) (hs : y.sm n = true) (hn : n ≤ 29 := by decide) : f_law_same 30 [x, y] = .ok (.bl true) [] := by
  subst h
  exact same_refl hs (by omega)
/-! ### with lists; with tuples -/
theorem lists_ok : ∀ {k n : Nat} {d : D}, d.sm n = true → n + 1 ≤ k → f_law_lists k [d] = .ok d.li [] := by
  intro k
  induction k with
  | zero => intro n d _ h; omega
  | succ k ih =>
    intro n d hd hk
    have lc : ∀ {xs : List D} {d : D} {m : Nat}, (d = .tup xs ∨ d = .lst xs) → xs.length ≤ 10000 → (∀ x ∈ xs, f_law_lists k [x] = .ok x.li []) → c_law_lists_1 (f_law_lists k) [.val d, .no] = .ok (.lst (xs.map D.li)) [.val d, .no] := by
      intro xs d m hd hl h
      unfold c_law_lists_1
      refine lc_mapD D.li ?_ rfl (by omega) fun y hy => ?_
      · rcases hd with rfl | rfl <;> rfl
      · simp [wipeE, h y hy]
    cases d with
    | tup xs =>
      cases n with
      | zero => cases hd
      | succ n =>
        rw [sm_tup] at hd
        have l := lc (d := .tup xs) (m := n) (.inl rfl) hd.1 fun x hx => ih (hd.2 x hx) (by omega)
        refine mkF_rt rfl (e := [.val (.tup xs), .no]) (show m_law_lists (f_law_lists k) [.val (.tup xs), .no] = _ from ?_) rfl
        simp [m_law_lists, l]
    | lst xs =>
      cases n with
      | zero => cases hd
      | succ n =>
        rw [sm_lst] at hd
        have l := lc (d := .lst xs) (m := n) (.inr rfl) hd.1 fun x hx => ih (hd.2 x hx) (by omega)
        refine mkF_rt rfl (e := [.val (.lst xs), .no]) (show m_law_lists (f_law_lists k) [.val (.lst xs), .no] = _ from ?_) rfl
        simp [m_law_lists, l]
    | ktp _ => cases n <;> cases hd
    | int i => simp [f_law_lists, m_law_lists, mkF, lstsOk, startE, lentOf, isi, D.li]
    | bl i => simp [f_law_lists, m_law_lists, mkF, lstsOk, startE, lentOf, isi, D.li]
    | non => simp [f_law_lists, m_law_lists, mkF, lstsOk, startE, lentOf, isi, D.li]
    | str s => simp [f_law_lists, m_law_lists, mkF, lstsOk, startE, lentOf, isi, D.li]
    | dic _ => cases n <;> cases hd
    | exc _ _ _ => cases n <;> cases hd
    | obj _ => cases n <;> cases hd
/-! ### the script's cells -/
theorem cells_fold {ns cs : List Int} {m : Nat} (hm : 1 ≤ m) (hm3 : m ≤ 3) (S : List D) (L : List (Int × Int)) (hL : ∀ p ∈ L, 0 ≤ p.1 ∧ p.1 < 100) (hc : cs.length = m) :
    ∃ cs' : List Int, cs'.length = m ∧ loop (gT (gsCons (gN 3) (gsCons (gN 4) gsNil))) b_law_cells_1 (L.map fun p => .tup [.int p.1, .int p.2]) [.ro (.lst S), .val (.int m), .own (cs.map D.int), .no, .no, .no] = .ok .nx [.ro (.lst S), .val (.int m), .own (cs'.map D.int), .no, .no, .no] := by
  induction L generalizing cs with
  | nil => exact ⟨cs, hc, rfl⟩
  | cons p L ih =>
    obtain ⟨h0, h1⟩ := hL p List.mem_cons_self
    have hmod : 0 ≤ p.1 % (m : Int) ∧ p.1 % (m : Int) < m := ⟨Int.emod_nonneg _ (by omega), Int.emod_lt_of_pos _ (by omega)⟩
    obtain ⟨i, hi⟩ : ∃ i : Nat, p.1 % (m : Int) = i := ⟨(p.1 % (m : Int)).toNat, by omega⟩
    have hil : i < cs.length := by omega
    have hm0 : (0 : Int) < m := by omega
    have hmul : mulOk p.2 (p.1 + 2) = true := mulOk_r (by omega)
    have hat : atI (cs.map D.int) (i : Int) = some (.int cs[i]) := by rw [atI_nat (by rw [List.length_map]; exact hil), List.getElem_map]
    have hix : ixN (cs.map D.int).length (i : Int) = some i := by
      unfold ixN
      rw [if_pos (by omega), if_pos (by rw [List.length_map]; omega)]
      rfl
    rw [List.length_map] at hix
    obtain ⟨cs', hl', e'⟩ := ih (cs := cs.set i (cs[i] + p.2 * (p.1 + 2))) (fun q hq => hL q (List.mem_cons_of_mem _ hq)) (by rw [List.length_set]; exact hc)
    refine ⟨cs', hl', ?_⟩
    rw [List.map_cons, loop_cons (e' := [.ro (.lst S), .val (.int m), .own ((cs.set i (cs[i] + p.2 * (p.1 + 2))).map D.int), .no, .no, .no])]
    · exact e'
    · simp [b_law_cells_1, wn_sFg, wn_seq, hm0, hi, hat, hix, hmul, List.map_set]
      omega
theorem enum_ints (ns : List Int) : enumL (ns.map D.int) = ((intsR 0 ns.length).zip ns).map fun p => .tup [.int p.1, .int p.2] := by
  unfold enumL
  rw [rng_eq, List.length_map, List.zip_map, List.map_map]
  rfl
theorem cut_ints (ns : List Int) (lo hi : Option Int) : cut (ns.map D.int) lo hi = (cut ns lo hi).map D.int := by
  unfold cut
  simp
theorem cells_ok (ns : List Int) (hn : ns.length ≤ 63) (m : Nat) (hm : 1 ≤ m) (hm3 : m ≤ 3) : ∃ cs : List Int, 1 ≤ cs.length ∧ cs.length ≤ 3 ∧ f_law_cells [.lst (ns.map D.int), .int m] = .ok (.lst (cs.map D.int)) [] := by
  obtain ⟨c0, h1, h2, h3, h4⟩ : ∃ c0 : List Int, 1 ≤ c0.length ∧ c0.length ≤ 3 ∧ (c0.length = m ∨ ns.length ≤ m) ∧ (if cut ns none (some (m : Int)) = [] then [0] else cut ns none (some (m : Int))) = c0 := by
    refine ⟨_, ?_, ?_, ?_, rfl⟩
    · split
      · simp
      · rename_i h; exact List.length_pos_iff.mpr h
    · split
      · simp
      · have : (cut ns none (some (m : Int))).length ≤ m := by
          unfold cut
          rw [List.length_take, show HT.sIx ns.length 0 none = 0 from rfl, HT.sIx_nat]
          omega
        omega
    · by_cases h : ns.length ≤ m
      · exact .inr h
      · refine .inl ?_
        have e : (cut ns none (some (m : Int))).length = m := by
          unfold cut
          rw [List.length_take, List.length_drop, show HT.sIx ns.length 0 none = 0 from rfl, HT.sIx_nat]
          omega
        rw [if_neg (fun z => by rw [z] at e; simp at e; omega)]
        exact e
  have hcut : (cut ns (some (m : Int)) (some 63)).length ≤ 63 := by
    unfold cut
    rw [List.length_take, List.length_drop]
    omega
  have fin : ∀ cs' : List Int, cs'.length ≤ 3 → 1 ≤ cs'.length → loop (gT (gsCons (gN 3) (gsCons (gN 4) gsNil))) b_law_cells_1 (enumL (cut (ns.map D.int) (some (m : Int)) (some 63))) [.ro (.lst (ns.map D.int)), .val (.int m), .own (c0.map D.int), .no, .no, .no] = .ok .nx [.ro (.lst (ns.map D.int)), .val (.int m), .own (cs'.map D.int), .no, .no, .no] →
      ∃ cs : List Int, 1 ≤ cs.length ∧ cs.length ≤ 3 ∧ f_law_cells [.lst (ns.map D.int), .int m] = .ok (.lst (cs.map D.int)) [] := by
    intro cs' hl h0 he
    refine ⟨cs', h0, hl, ?_⟩
    refine mkF_rt rfl (e := [.ro (.lst (ns.map D.int)), .val (.int m), .val (.lst (cs'.map D.int)), .no, .no, .no]) (show m_law_cells [.ro (.lst (ns.map D.int)), .val (.int m), .no, .no, .no, .no] = _ from ?_) rfl
    refine Wn.eq ?_
    unfold m_law_cells
    rw [wn_seq]
    have tr : ∀ Q, WR (truth (.lst (cut (ns.map D.int) none (some (m : Int))))) Q = Q (!(cut ns none (some (m : Int))).isEmpty) := fun Q => by
      rw [cut_ints]
      show Q _ = _
      rw [List.isEmpty_map]
    have first : Wn (sOwn 2 (eOrT (e1 dList (eSlN 0 oNone (oSome (eVar 1)))) (eLst (aCons (eC (.int 0)) aNil)))) [.ro (.lst (ns.map D.int)), .val (.int m), .no, .no, .no, .no] (fun o e1 => o = .nx ∧ e1 = [.ro (.lst (ns.map D.int)), .val (.int m), .own (c0.map D.int), .no, .no, .no]) NoE := by
      simp [tr]
      by_cases hz : cut ns none (some (m : Int)) = []
      · rw [if_pos hz] at h4
        simp [hz, ← h4]
      · rw [if_neg hz] at h4
        simp [hz, cut_ints, h4]
        intro z
        rw [z] at h1
        simp at h1
    refine first.imp fun o e1 h => ?_
    obtain ⟨rfl, rfl⟩ := h
    rw [wo_nx, wn_seq]
    unfold l_law_cells_1
    simp only [wn_sFor, wn_iEnum, wn_eSlN, x_sl0, wt_ro, wn_oSome, wn_var, x_slS, ws_val, wi_int, wn_c, dSlL_lst, wr_ok, wm_lst]
    rw [wn_eq he]
    simp [wn_seq]
  rw [cut_ints, enum_ints] at fin
  rcases h3 with h3 | h3
  · obtain ⟨cs', hl, he⟩ := cells_fold (ns := ns) (cs := c0) hm hm3 (ns.map D.int) ((intsR 0 (cut ns (some (m : Int)) (some 63)).length).zip (cut ns (some (m : Int)) (some 63))) (fun p hp => by
      have := mem_intsR.mp (List.of_mem_zip hp).1
      omega) h3
    exact fin cs' (by omega) (by omega) he
  · have e : cut ns (some (m : Int)) (some 63) = [] := by
      unfold cut
      rw [HT.sIx_nat]
      apply List.eq_nil_of_length_eq_zero
      rw [List.length_take, List.length_drop]
      omega
    rw [e] at fin
    exact fin c0 h2 h1 rfl
end AH
namespace AH
open PySem L2
variable [TheK]
/-! ### the source of draws -/
def M_box (K : Int) : DS := (sSeq (sAsgN 2 (eIf (c2 dLt (eVar 1) (e1 dLen (eVar 0))) (e2 dIx (eVar 0) (eVar 1)) (eC (.int 0)))) (sRet (eLst (aCons (e2 dMul (e1 dAbs (eVar 2)) (e1 dInt (eB (c2 dGe (e1 dAbs (eVar 2)) (e2 dPow (eC (.int 10)) (eC (.int 18))))))) (aCons (e2 dAdd (e2 dAdd (e2 dMod (e1 dInt (eVar 2)) (eC (.int 2305843009213693951))) (e2 dMul (eC (.int 39373)) (eVar 1))) (eC (.int K))) (aCons (eC (.int 0)) aNil))))))
theorem pow18 : dPow (.int 10) (.int 18) = .ok (.int 1000000000000000000) := by kernel_rfl
theorem box_ok {K : Int} (hK0 : 0 ≤ K) (hK : K < 2 ^ 60) {cs : List Int} {i : Nat} (hi : i < cs.length) (hl : cs.length ≤ 3) : ∃ bx, mkR 3 [.val, .val] (M_box K) [.lst (cs.map D.int), .int i] = .ok (.lst bx) [] ∧ Bx (2 ^ 59) bx := by
  obtain ⟨c, hc⟩ : ∃ c, atI (cs.map D.int) (i : Int) = some (.int c) := ⟨_, by rw [atI_nat (by rw [List.length_map]; exact hi), List.getElem_map]⟩
  obtain ⟨a, ha, ha0⟩ : ∃ a : Int, (if c < 0 then -c else c) = a ∧ 0 ≤ a := ⟨_, rfl, by split <;> omega⟩
  have hm : ∀ x : Int, ∀ b : Bool, mulOk x (if b = true then 1 else 0) = true := fun x b => mulOk_r (by cases b <;> decide)
  have hm0 : ∀ x : Int, mulOk x 0 = true := fun x => mulOk_r (by decide)
  have hm1 : ∀ x : Int, mulOk x 1 = true := fun x => mulOk_r (by decide)
  have h39 : mulOk 39373 (i : Int) = true := mulOk_l (by decide)
  have h62 : (2 : Int) ^ 62 = 4611686018427387904 := by decide
  have h60 : (2 : Int) ^ 60 = 1152921504606846976 := by decide
  refine ⟨[.int (a * (if decide ((1000000000000000000 : Int) ≤ a) = true then 1 else 0)), .int (c % 2305843009213693951 + 39373 * (i : Int) + K), .int 0], ?_, _, _, _, rfl, ?_, ?_, ?_, by omega, by omega⟩
  · refine mkR_rt rfl (e := [.val (.lst (cs.map D.int)), .val (.int i), .val (.int c)]) (show M_box K [.val (.lst (cs.map D.int)), .val (.int i), .no] = _ from ?_) rfl
    refine Wn.eq ?_
    unfold M_box
    rw [wn_seq]
    simp only [wn_sAsgN, wn_eIf, wn_c2, wn_var, x_sl0, x_slS, ws_val, wn_e1, dLen_lst, wr_ok, dLt_int, List.length_map]
    rw [if_pos (by rw [decide_eq_true_eq]; omega)]
    simp [hc, ha, pow18, hm, h39, hm0, hm1]
    split <;> first | exact hm1 a | exact hm0 a
  · split <;> omega
  · have := Int.emod_nonneg c (b := 2305843009213693951) (by decide)
    omega
  · have := Int.emod_lt_of_pos c (b := 2305843009213693951) (by decide)
    omega
/-! ### the law -/
def C_law (fr fb : DF) : DE := (eLc [2] (iRng1 (e1 dLen (eVar 1))) (gN 2) tYes (eCall fr [.new (eCall fb [.e (eVar 1), .e (eVar 2)])]))
def M_law (fh fr fb : DF) : DS := (sSeq (sIf (tNot (tV (eCall fh []))) (sRet (eC (.bl false))) sNil) (sSeq (sAsgN 1 (eCall f_law_cells [.look 0, .e (eC (.int 3))])) (sRet (e1 dAll (C_law fr fb)))))
def Right (fr : DF) : Prop := ∀ xs, Bx (2 ^ 59) xs → WF (fr [.lst xs]) (fun d bs => d = .bl true ∧ ∃ ys, bs = [ys]) NoF
theorem law_lc {K : Int} (hK0 : 0 ≤ K) (hK : K < 2 ^ 60) {fr : DF} (hr : Right fr) {S : D} {cs : List Int} (h1 : 1 ≤ cs.length) (h3 : cs.length ≤ 3) : C_law fr (mkR 3 [.val, .val] (M_box K)) [.ro S, .val (.lst (cs.map D.int)), .no] = .ok (.lst ((intsR 0 cs.length).map fun _ => .bl true)) [.ro S, .val (.lst (cs.map D.int)), .no] := by
  unfold C_law
  refine lc_map (L := intsR 0 cs.length) (enc := D.int) (fun _ => .bl true) ?_ rfl (by rw [intsR_len]; omega) fun y hy => ?_
  · refine Wn.eq ?_
    simp only [wn_iRng1, wn_e1, wn_var, x_slS, x_sl0, ws_val, dLen_lst, wr_ok, wi_int, List.length_map, rng_eq]
    refine ⟨?_, by simp⟩
    rw [rngOk_iff]
    omega
  · obtain ⟨y0, y1⟩ := mem_intsR.mp hy
    obtain ⟨i, rfl⟩ : ∃ i : Nat, y = i := ⟨y.toNat, by omega⟩
    obtain ⟨bx, b1, b2⟩ := box_ok hK0 hK (cs := cs) (i := i) (by omega) h3
    obtain ⟨d, bs, r1, rfl, ys, rfl⟩ := (hr bx b2).run
    have c : eCall fr [.new (eCall (mkR 3 [.val, .val] (M_box K)) [.e (eVar 1), .e (eVar 2)])] [.ro S, .val (.lst (cs.map D.int)), .val (.int i)] = .ok (.bl true) [.ro S, .val (.lst (cs.map D.int)), .val (.int i)] :=
      call_ok (args_new (x := .lst bx) (call2 (x := .lst (cs.map D.int)) (y := .int i) (e1 := [.ro S, .val (.lst (cs.map D.int)), .val (.int i)]) rfl rfl b1) rfl) rfl rfl r1 rfl
    simp [wipeE, wn_eq c]
theorem law_end {K : Int} (hK0 : 0 ≤ K) (hK : K < 2 ^ 60) {fh fr : DF} (hh : fh [] = .ok (.bl true) []) (hr : Right fr) (ns : List Int) (hn : ns.length ≤ 63) : mkF 3 [.ro] (M_law fh fr (mkR 3 [.val, .val] (M_box K))) [.lst (ns.map D.int)] = .ok (.bl true) [] := by
  obtain ⟨cs, h1, h2, hc⟩ := cells_ok ns hn 3 (by omega) (by omega)
  refine mkF_rt rfl (e := [.ro (.lst (ns.map D.int)), .val (.lst (cs.map D.int)), .no]) (show M_law fh fr _ [.ro (.lst (ns.map D.int)), .no, .no] = _ from ?_) rfl
  have a1 : eCall f_law_cells [.look 0, .e (eC (.int 3))] [.ro (.lst (ns.map D.int)), .no, .no] = .ok (.lst (cs.map D.int)) [.ro (.lst (ns.map D.int)), .no, .no] := call_ok (args_look (x := .lst (ns.map D.int)) rfl (args_e (a := eC (.int 3)) (as := []) (x := .int 3) (e1 := [.ro (.lst (ns.map D.int)), .no, .no]) (xs := []) rfl rfl)) rfl rfl hc rfl
  have al : dAll (.lst ((intsR 0 cs.length).map fun _ => .bl true)) = .ok (.bl true) := by rw [dAll_map (f := fun _ => true)]; simp
  refine Wn.eq ?_
  unfold M_law
  rw [wn_seq]
  simp [hh, wn_seq, wn_eq a1, wn_eq (law_lc hK0 hK hr h1 h2), al]
end AH
namespace AH
open PySem L2
variable [TheK]
/-! ### defs, as wishes -/
def WE (ms : List Md) (o : Out) (e : Env) (Q : D → List (List D) → Prop) : Prop := match lentOf ms e with
  | some bs => (match o with
    | .rt d => Q d bs
    | .nx => Q .non bs
    | _ => False)
  | none => False
theorem wf_mkF {n : Nat} {ms : List Md} {b : DS} {ds : List D} {Q : D → List (List D) → Prop} {E : Str → List D → List (List D) → Prop} (h : lstsOk ms ds = true) : WF (mkF n ms b ds) Q E = Wn b (startE ms ds ++ List.replicate (n - ms.length) .no) (fun o e => WE ms o e Q) (fun c fs e => match lentOf ms e with | some bs => E c fs bs | none => False) := by
  unfold mkF
  simp only [h, Bool.not_true, Bool.false_eq_true, if_false]
  unfold Wn WE
  cases b (startE ms ds ++ List.replicate (n - ms.length) .no) with
  | ok o e =>
    simp only
    cases o with
    | rt d => simp only; cases lentOf ms e <;> (unfold WF; rfl)
    | nx => simp only; cases lentOf ms e <;> (unfold WF; rfl)
    | bk => simp only; cases lentOf ms e <;> (unfold WF; rfl)
    | ct => simp only; cases lentOf ms e <;> (unfold WF; rfl)
  | ex c fs e => simp only; cases lentOf ms e <;> (unfold WF; rfl)
  | bad => (unfold WF; rfl)
@[simp] theorem we_nil {o : Out} {e : Env} {Q : D → List (List D) → Prop} : WE [] o e Q = (match o with | .rt d => Q d [] | .nx => Q .non [] | _ => False) := by
  unfold WE; cases e <;> rfl
@[simp] theorem we_val {ms : List Md} {s : Sl} {o : Out} {e : Env} {Q : D → List (List D) → Prop} : WE (.val :: ms) o (s :: e) Q = WE ms o e Q := by
  have h : lentOf (.val :: ms) (s :: e) = lentOf ms e := by cases s <;> rfl
  unfold WE; rw [h]
@[simp] theorem we_ro {ms : List Md} {s : Sl} {o : Out} {e : Env} {Q : D → List (List D) → Prop} : WE (.ro :: ms) o (s :: e) Q = WE ms o e Q := by
  have h : lentOf (.ro :: ms) (s :: e) = lentOf ms e := by cases s <;> rfl
  unfold WE; rw [h]
@[simp] theorem we_bor {ms : List Md} {xs : List D} {o : Out} {e : Env} {Q : D → List (List D) → Prop} : WE (.bor :: ms) o (.bor xs :: e) Q = WE ms o e (fun d bs => Q d (xs :: bs)) := by
  unfold WE
  rw [lentOf]
  cases lentOf ms e <;> rfl
/-! ### loops that look for a thing that is not so -/
theorem wn_all {g : DG} {b : DS} {p : D → Bool} {e : Env} {Q : Out → Env → Prop} {E : Str → List D → Env → Prop} : ∀ {xs : List D}, (∀ x ∈ xs, Wn (g x) e (fun _ e1 => Wn b e1 (fun o e2 => (p x = true → o = .nx ∧ e2 = e) ∧ (p x = false → o = .rt (.bl false) ∧ e2.length = e.length)) NoE) NoE) →
    (xs.all p = true → Q .nx e) → (xs.all p = false → ∀ e2 : Env, e2.length = e.length → Q (.rt (.bl false)) e2) → Wn (loop g b xs) e Q E
  | [], _, h1, _ => by rw [wn_loop_nil]; exact h1 rfl
  | x :: xs, h, h1, h2 => by
    unfold loop
    rw [wn_bind]
    refine (h x List.mem_cons_self).imp (fun _ e1 h3 => ?_) fun _ _ _ z => z.elim
    rw [wn_bind]
    refine h3.imp (fun o e2 h4 => ?_) fun _ _ _ z => z.elim
    cases hp : p x with
    | true =>
      obtain ⟨rfl, rfl⟩ := h4.1 hp
      exact wn_all (fun y hy => h y (List.mem_cons_of_mem _ hy)) (fun z => h1 (by rw [List.all_cons, hp, z]; rfl)) fun z => h2 (by rw [List.all_cons, hp, z]; rfl)
    | false =>
      obtain ⟨rfl, hl⟩ := h4.2 hp
      exact (wn_eq rfl).mpr (h2 (by rw [List.all_cons, hp]; rfl) e2 hl)
/-- a loop with draws: the box stands first, each turn takes at most c of it -/
theorem wn_turns {g : DG} {b : DS} {c : Nat} {r : Env} {Q : Out → Env → Prop} {E : Str → List D → Env → Prop} (hs : ∀ (n : Nat) (x : D) (bx : List D), Bx (n + c) bx → Wn (g x) (.bor bx :: r) (fun _ e1 => Wn b e1 (fun o e2 => o = .nx ∧ ∃ by_, e2 = .bor by_ :: r ∧ Bx n by_) NoE) NoE) :
    ∀ {xs : List D} {n : Nat} {bx : List D}, Bx (n + c * xs.length) bx → (∀ by_, Bx n by_ → Q .nx (.bor by_ :: r)) → Wn (loop g b xs) (.bor bx :: r) Q E
  | [], n, bx, hb, q => by rw [wn_loop_nil]; exact q bx hb
  | x :: xs, n, bx, hb, q => by
    unfold loop
    rw [wn_bind]
    refine (hs (n + c * xs.length) x bx (by rw [List.length_cons] at hb; exact hb.le (by rw [Nat.mul_succ]; omega))).imp (fun _ e1 h1 => ?_) fun _ _ _ z => z.elim
    rw [wn_bind]
    refine h1.imp (fun o e2 h2 => ?_) fun _ _ _ z => z.elim
    obtain ⟨rfl, by_, rfl, h3⟩ := h2
    exact wn_turns hs h3 q
/-- .. that appends drawn things to a list in slot j -/
@[simp] theorem we_rt_bor {xs : List D} {d : D} {e : Env} {Q : D → List (List D) → Prop} : WE [.bor] (.rt d) (.bor xs :: e) Q = Q d [xs] := by simp
end AH
namespace AH
open PySem L2
variable [TheK]
section
variable {e : Env} {i j l : Nat} {a b c : DE} {E : Str → List D → Env → Prop} {Q : Out → Env → Prop}
@[simp] theorem wn_par_vv : Wn (sPar [(i, false), (j, false)] [.e a, .e b]) e Q E = Wn a e (fun x e1 => Wn b e1 (fun y e2 => isFix (sl e2 i) = false ∧ isFix (sl (put e2 i (.val x)) j) = false ∧ Q .nx (put (put e2 i (.val x)) j (.val y))) E) E := by
  simp only [sPar, argsV, wn_bind, wn_pure, allL, Option.map]
  congr 1; funext x e1; congr 1; funext y e2
  unfold Wn
  simp only [parPut]
  cases isFix (sl e2 i) <;> cases isFix (sl (put e2 i (.val x)) j) <;> simp
@[simp] theorem wn_par_vn : Wn (sPar [(i, false), (j, true)] [.e a, .new b]) e Q E = Wn a e (fun x e1 => Wn b e1 (fun y e2 => WM y fun ys => isFix (sl e2 i) = false ∧ isFix (sl (put e2 i (.val x)) j) = false ∧ j < e2.length ∧ Q .nx (put (put e2 i (.val x)) j (.own ys))) E) E := by
  simp only [sPar, argsV, wn_bind, wn_pure, allL, Option.map]
  congr 1; funext x e1; congr 1; funext y e2
  cases y with
  | lst ys =>
    unfold Wn
    simp only [parPut, wm_lst, put_len]
    cases isFix (sl e2 i) <;> cases isFix (sl (put e2 i (.val x)) j) <;> by_cases h : j < e2.length <;> simp [h]
  | _ =>
    unfold Wn
    simp only [parPut]
    cases isFix (sl e2 i) <;> rfl
@[simp] theorem wn_par_nv : Wn (sPar [(i, true), (j, false)] [.new a, .e b]) e Q E = Wn a e (fun x e1 => Wn b e1 (fun y e2 => WM x fun xs => isFix (sl e2 i) = false ∧ i < e2.length ∧ isFix (sl (put e2 i (.own xs)) j) = false ∧ Q .nx (put (put e2 i (.own xs)) j (.val y))) E) E := by
  simp only [sPar, argsV, wn_bind, wn_pure, allL, Option.map]
  congr 1; funext x e1; congr 1; funext y e2
  cases x with
  | lst xs =>
    unfold Wn
    simp only [parPut, wm_lst]
    cases isFix (sl e2 i) <;> cases isFix (sl (put e2 i (.own xs)) j) <;> by_cases h : i < e2.length <;> simp [h]
  | _ => (unfold Wn; rfl)
@[simp] theorem wn_par_vvv : Wn (sPar [(i, false), (j, false), (l, false)] [.e a, .e b, .e c]) e Q E = Wn a e (fun x e1 => Wn b e1 (fun y e2 => Wn c e2 (fun z e3 => isFix (sl e3 i) = false ∧ isFix (sl (put e3 i (.val x)) j) = false ∧ isFix (sl (put (put e3 i (.val x)) j (.val y)) l) = false ∧ Q .nx (put (put (put e3 i (.val x)) j (.val y)) l (.val z))) E) E) E := by
  simp only [sPar, argsV, wn_bind, wn_pure, allL, Option.map]
  congr 1; funext x e1; congr 1; funext y e2; congr 1; funext z e3
  unfold Wn
  simp only [parPut]
  cases isFix (sl e3 i) <;> cases isFix (sl (put e3 i (.val x)) j) <;> cases isFix (sl (put (put e3 i (.val x)) j (.val y)) l) <;> simp
end
/-! ### plain data; few items -/
theorem plainL_iff {n : Nat} : ∀ {xs : List D}, D.plainL n xs = true ↔ ∀ x ∈ xs, D.plain n x = true
  | [] => by simp [D.plainL]
  | x :: xs => by simp [D.plainL, plainL_iff (xs := xs)]
theorem sm_plain : ∀ {n m : Nat} {d : D}, d.sm n = true → n ≤ m → d.plain m = true := by
  intro n
  induction n with
  | zero => intro m d h _; cases d <;> first | (cases m <;> rfl) | (cases m <;> exact h) | (cases h)
  | succ n ih =>
    intro m d h hm
    cases m with
    | zero => omega
    | succ m =>
      cases d with
      | tup xs =>
        rw [sm_tup] at h
        show D.plainL m xs = true
        exact plainL_iff.mpr fun x hx => ih (h.2 x hx) (by omega)
      | lst xs =>
        rw [sm_lst] at h
        show D.plainL m xs = true
        exact plainL_iff.mpr fun x hx => ih (h.2 x hx) (by omega)
      | dic _ => cases h
      | exc _ _ _ => cases h
      | obj _ => cases h
      | ktp _ => cases h
      | str s => exact h
      | _ => rfl
end AH
namespace AH
open PySem L2
variable [TheK]
/-! ### numbers, rows of numbers -/
/-! ### drawn rows -/
/-- a row of numbers from 0, below a bound -/
theorem wn_lendE3 {f : DF} {a b c : DE} {xs : List D} {e : Env} {x y z : D} {Q : D → Env → Prop} {E : Str → List D → Env → Prop} (ha : a (.bor xs :: e) = .ok x (.bor xs :: e)) (hb : b (.bor xs :: e) = .ok y (.bor xs :: e)) : Wn (eCall f [.lend 0, .e a, .e b]) (.bor xs :: e) Q E = WF (f [.lst xs, x, y]) (fun d bs => ∃ ys, bs = [ys] ∧ Q d (.bor ys :: e)) (fun c fs bs => ∃ ys, bs = [ys] ∧ E c fs (.bor ys :: e)) := by
  rw [wn_call]
  simp only [argsV, wn_bind, wn_pure, wn_tmp, x_sl0, wt_bor, wn_eq ha, wn_eq hb, lends, List.all_cons, List.all_nil, Bool.and_true, isL, true_and, argsD, argD, slD]
  congr 1
  · funext d bs
    match bs with
    | [] => simp [giveBack]
    | [ys] => simp [giveBack]
    | _ :: _ :: _ => simp [giveBack]
  · funext c fs bs
    match bs with
    | [] => simp [giveBack]
    | [ys] => simp [giveBack]
    | _ :: _ :: _ => simp [giveBack]
theorem lend2 {f : DF} {a : DE} {xs xs' : List D} {e e' : Env} {x : D} {Q : D → Env → Prop} {E : Str → List D → Env → Prop} (ha : a (.bor xs :: e) = .ok x (.bor xs' :: e')) (h : WF (f [.lst xs', x]) (fun d bs => ∃ ys, bs = [ys] ∧ Q d (.bor ys :: e')) (fun c fs bs => ∃ ys, bs = [ys] ∧ E c fs (.bor ys :: e'))) : Wn (eCall f [.lend 0, .e a]) (.bor xs :: e) Q E := by
  rw [wn_lendE ha]; exact h
theorem lend3 {f : DF} {a b : DE} {xs : List D} {e : Env} {x y : D} {Q : D → Env → Prop} {E : Str → List D → Env → Prop} (ha : a (.bor xs :: e) = .ok x (.bor xs :: e)) (hb : b (.bor xs :: e) = .ok y (.bor xs :: e)) (h : WF (f [.lst xs, x, y]) (fun d bs => ∃ ys, bs = [ys] ∧ Q d (.bor ys :: e)) (fun c fs bs => ∃ ys, bs = [ys] ∧ E c fs (.bor ys :: e))) : Wn (eCall f [.lend 0, .e a, .e b]) (.bor xs :: e) Q E := by
  rw [wn_lendE3 (c := eC .non) (z := .non) ha hb]; exact h
end AH
namespace AH
open PySem L2
variable [TheK]
/-! ### drawn ranges -/
def encR (p : Int × Int) : D := .tup [.int p.1, .int p.2]
end AH
namespace AH
open PySem L2
variable [TheK]
@[simp] theorem wn_lRng1 {a : DE} {e : Env} {Q : D → Env → Prop} {E : Str → List D → Env → Prop} : Wn (lRng1 a) e Q E = Wn a e (fun x e1 => WI x fun k => (rngOk 0 k = true ∧ k ≤ 100000) ∧ Q (.lst (rng 0 k)) e1) E := by
  simp only [lRng1, wn_bind]
  congr 1; funext x e1
  cases x with
  | int k =>
    simp only [wi_int, wn_ite, wn_pure, wn_bad]
    cases rngOk 0 k <;> by_cases h : k ≤ 100000 <;> simp [h]
  | _ => unfold Wn; rfl
@[simp] theorem wn_callK {f : DF} {ix : List Nat} {a : DL} {e : Env} {Q : D → Env → Prop} {E : Str → List D → Env → Prop} : Wn (eCallK f ix a) e Q E = Wn a e (fun ds e1 => WF (f (perm ix ds)) (fun d bs => bs = [] ∧ Q d e1) (fun c fs bs => bs = [] ∧ E c fs e1)) E := by
  simp only [eCallK, wn_bind]
  congr 1; funext ds e1
  unfold Wn
  cases f (perm ix ds) with
  | ok d bs => cases bs <;> simp
  | ex c fs bs => cases bs <;> simp
  | bad => simp
@[simp] theorem perm_nil {α : Type} {l : List α} : perm [] l = [] := rfl
@[simp] theorem perm_cons {α : Type} {l : List α} {i : Nat} {ix : List Nat} : perm (i :: ix) l = (match l[i]? with | some x => x :: perm ix l | none => perm ix l) := by
  unfold perm
  rw [List.filterMap_cons]
  cases l[i]? <;> rfl
/-! ### stretches -/
@[simp] theorem isx_ns {fs : List D} : dIsX false (.exc "NoStretch" [] fs) = .ok (.bl true) := rfl
@[simp] theorem isx_nh {fs : List D} : dIsX false (.exc "NoHour" [] fs) = .ok (.bl true) := rfl
@[simp] theorem isx_tf {fs : List D} : dIsX true (.exc "TooFew" [] fs) = .ok (.bl true) := rfl
@[simp] theorem isx_bl {fs : List D} : dIsX true (.exc "BadLine" [] fs) = .ok (.bl true) := rfl
@[simp] theorem isx_ul {fs : List D} : dIsX true (.exc "Unlike" [] fs) = .ok (.bl true) := rfl
@[simp] theorem isx_uf {fs : List D} : dIsX true (.exc "Unfit" [] fs) = .ok (.bl true) := rfl
@[simp] theorem isx_nm {fs : List D} : dIsX true (.exc "NoMove" [] fs) = .ok (.bl true) := rfl
def spansL (s : Int) : List (Int × Int) := (intsR 0 s).flatMap fun a => (intsR a s).map fun b => (a, b)
theorem mem_spansL {s : Int} {p : Int × Int} : p ∈ spansL s ↔ 0 ≤ p.1 ∧ p.1 ≤ p.2 ∧ p.2 < s := by
  unfold spansL
  rw [List.mem_flatMap]
  constructor
  · rintro ⟨a, ha, hp⟩
    obtain ⟨b, hb, rfl⟩ := List.mem_map.mp hp
    rw [mem_intsR] at ha hb
    exact ⟨ha.1, hb.1, hb.2⟩
  · rintro ⟨h0, h1, h2⟩
    exact ⟨p.1, mem_intsR.mpr ⟨h0, by omega⟩, List.mem_map.mpr ⟨p.2, mem_intsR.mpr ⟨h1, h2⟩, rfl⟩⟩
theorem flat_len {α β : Type} {f : α → List β} {m : Nat} : ∀ {L : List α}, (∀ x ∈ L, (f x).length ≤ m) → (L.flatMap f).length ≤ L.length * m
  | [], _ => by simp
  | x :: L, h => by
    have h1 := h x List.mem_cons_self
    have h2 := flat_len (L := L) fun y hy => h y (List.mem_cons_of_mem _ hy)
    rw [List.flatMap_cons, List.length_append, List.length_cons, Nat.succ_mul]
    omega
theorem spansL_len {s : Int} (h : 0 ≤ s) : (spansL s).length ≤ s.toNat * s.toNat := by
  have := flat_len (L := intsR 0 s) (f := fun a => (intsR a s).map fun b => (a, b)) (m := s.toNat) fun x hx => by
    have := mem_intsR.mp hx
    rw [List.length_map, intsR_len]
    omega
  rw [intsR_len] at this
  have e : (s - 0).toNat = s.toNat := by rw [Int.sub_zero]
  rw [e] at this
  exact this
theorem spans_ok {s : Int} (h0 : 0 ≤ s) (h1 : s ≤ 100) : f_law_spans [.int s] = .ok (.lst ((spansL s).map encR)) [] := by
  have sq : s.toNat * s.toNat ≤ 10000 := Nat.mul_le_mul (show s.toNat ≤ 100 by omega) (show s.toNat ≤ 100 by omega)
  have pre : ∀ (L : List Int) (M : List Int), M ++ L = intsR 0 s → ((M.flatMap fun a => (intsR a s).map fun b => (a, b)).length ≤ 10000) := fun L M e => by
    have : (spansL s).length ≤ 10000 := Nat.le_trans (spansL_len h0) sq
    unfold spansL at this
    rw [← e, List.flatMap_append, List.length_append] at this
    omega
  have key : ∀ (L M : List Int), M ++ L = intsR 0 s → loop (gN 2) b_law_spans_1 (L.map D.int) [.val (.int s), .val (.lst ((M.flatMap fun a => (intsR a s).map fun b => (a, b)).map encR)), .no, .no] = .ok .nx [.val (.int s), .val (.lst ((spansL s).map encR)), .no, .no] := by
    intro L
    induction L with
    | nil =>
      intro M e
      rw [List.append_nil] at e
      subst e
      rfl
    | cons x L ih =>
      intro M e
      rw [List.map_cons]
      have hx : 0 ≤ x ∧ x < s := mem_intsR.mp (by rw [← e]; simp)
      have ih := ih (M ++ [x]) (by rw [List.append_assoc]; exact e)
      have pl := pre L (M ++ [x]) (by rw [List.append_assoc]; exact e)
      rw [loop_cons (e' := [.val (.int s), .val (.lst (((M ++ [x]).flatMap fun a => (intsR a s).map fun b => (a, b)).map encR)), .no, .no]), ih]
      have lc : c_law_spans_1 [.val (.int s), .val (.lst ((M.flatMap fun a => (intsR a s).map fun b => (a, b)).map encR)), .val (.int x), .no] = .ok (.lst ((intsR x s).map fun b => encR (x, b))) [.val (.int s), .val (.lst ((M.flatMap fun a => (intsR a s).map fun b => (a, b)).map encR)), .val (.int x), .no] := by
        unfold c_law_spans_1
        refine lc_map (L := intsR x s) (enc := D.int) (fun b => encR (x, b)) ?_ rfl (by rw [intsR_len]; omega) fun y hy => ?_
        · refine Wn.eq ?_
          simp [rng_eq]
          omega
        · simp [wipeE, encR]
      have ee : ((M ++ [x]).flatMap fun a => (intsR a s).map fun b => (a, b)).map encR = (M.flatMap fun a => (intsR a s).map fun b => (a, b)).map encR ++ (intsR x s).map fun b => encR (x, b) := by
        rw [List.flatMap_append, List.map_append]
        congr 1
        simp [Function.comp_def]
      have ln : ((M.flatMap fun a => (intsR a s).map fun b => (a, b)).map encR).length + ((intsR x s).map fun b => encR (x, b)).length ≤ 100000 := by
        have := congrArg List.length ee
        rw [List.length_append, List.length_map] at this
        omega
      rw [ee]
      unfold b_law_spans_1
      simp only [wn_gN, x_slS, x_sl0, x_isOwn1, true_and, x_putS, x_put0, wn_sFg, wn_sAsgN, wn_e2, wn_var, ws_val, wn_eq lc, dAdd_lst, lenOk_iff.mpr ln, if_true, wr_ok, x_isFix1, wo_nx]
      simp
  have k0 := key (intsR 0 s) [] rfl
  refine WF.eq ?_
  rw [f_law_spans, wf_mkF rfl]
  simp only [startE, m_law_spans, wn_seq]
  simp [l_law_spans_1, rng_eq]
  refine ⟨by omega, ?_⟩
  have k0 : loop (gN 2) b_law_spans_1 ((intsR 0 s).map D.int) [.val (.int s), .val (.lst []), .no, .no] = .ok .nx [.val (.int s), .val (.lst ((spansL s).map encR)), .no, .no] := k0
  rw [wn_eq k0]
  simp
/-! ### rows, by index -/
def sq (k : Bool) (xs : List D) : D := if k then .tup xs else .lst xs
@[simp] theorem seqD_sq {k : Bool} {xs : List D} : seqD (sq k xs) = some xs := by cases k <;> rfl
@[simp] theorem dLen_sq {k : Bool} {xs : List D} : dLen (sq k xs) = .ok (.int xs.length) := by cases k <;> rfl
@[simp] theorem wl_sq {k : Bool} {xs : List D} {Q : List D → Prop} : WL (sq k xs) Q = Q xs := by cases k <;> rfl
@[simp] theorem dSl_sq {k : Bool} {xs : List D} {l h : Option Int} : dSl (sq k xs) l h = .ok (sq k (cut xs l h)) := by cases k <;> rfl
@[simp] theorem dSumA_sq {k : Bool} {ns : List Int} : dSumA (sq k (ns.map D.int)) = .ok (.int ns.sum) := by cases k <;> simp [sq]
@[simp] theorem dIx_sq {k : Bool} {xs : List D} {i : Int} : dIx (sq k xs) (.int i) = (match atI xs i with | some v => .ok v | none => .bad) := by cases k <;> rfl
@[simp] theorem dList_sq {k : Bool} {xs : List D} : dList (sq k xs) = .ok (.lst xs) := by cases k <;> rfl
@[simp] theorem dTuple_sq {k : Bool} {xs : List D} : dTuple (sq k xs) = .ok (.tup xs) := by cases k <;> rfl
theorem sq_true {xs : List D} : sq true xs = .tup xs := rfl
theorem sq_false {xs : List D} : sq false xs = .lst xs := rfl
def getI (ns : List Int) (i : Int) : Int := ns.getD i.toNat 0
theorem atI_ints {ns : List Int} {i : Int} (h0 : 0 ≤ i) (h1 : i < ns.length) : atI (ns.map D.int) i = some (.int (getI ns i)) := by
  obtain ⟨k, rfl⟩ : ∃ k : Nat, i = k := ⟨i.toNat, by omega⟩
  rw [atI_nat (by rw [List.length_map]; omega), List.getElem_map]
  unfold getI
  rw [Int.toNat_natCast, List.getD_eq_getElem?_getD, List.getElem?_eq_getElem (by omega)]
  rfl
theorem sIx_in {n d : Nat} {i : Int} (h0 : 0 ≤ i) (h1 : i ≤ n) : HT.sIx n d (some i) = i.toNat := by
  unfold HT.sIx
  simp only
  split <;> omega
theorem cut_get {ns : List Int} {a b : Int} (h0 : 0 ≤ a) (h1 : a ≤ b) (h2 : b ≤ ns.length) : cut ns (some a) (some b) = (intsR a b).map (getI ns) := by
  unfold cut
  rw [sIx_in h0 (by omega), sIx_in (by omega) h2]
  apply List.ext_getElem
  · rw [List.length_take, List.length_drop, List.length_map, intsR_len]
    omega
  · intro i q1 q2
    rw [List.getElem_take, List.getElem_drop, List.getElem_map]
    unfold getI intsR
    rw [List.getElem_map, List.getElem_range]
    rw [List.length_take, List.length_drop] at q1
    rw [List.getD_eq_getElem?_getD, List.getElem?_eq_getElem (by omega)]
    show ns[a.toNat + i] = ns[(a + (i : Int)).toNat]
    congr 1
    omega
/-- a loop each of whose turns leaves all as it was -/
theorem wn_each {g : DG} {b : DS} {e : Env} {Q : Out → Env → Prop} {E : Str → List D → Env → Prop} : ∀ {xs : List D}, (∀ x ∈ xs, Wn (g x) e (fun _ e1 => Wn b e1 (fun o e2 => o = .nx ∧ e2 = e) NoE) NoE) → Q .nx e → Wn (loop g b xs) e Q E
  | [], _, q => by rw [wn_loop_nil]; exact q
  | x :: xs, h, q => by
    unfold loop
    rw [wn_bind]
    refine (h x List.mem_cons_self).imp (fun _ e1 h1 => ?_) fun _ _ _ z => z.elim
    rw [wn_bind]
    refine h1.imp (fun o e2 h2 => ?_) fun _ _ _ z => z.elim
    obtain ⟨rfl, rfl⟩ := h2
    exact wn_each (fun y hy => h y (List.mem_cons_of_mem _ hy)) q
/-- the box is lent, an argument draws from it -/
theorem lend3w {f : DF} {a b : DE} {xs : List D} {e : Env} {x : D} {Q : D → Env → Prop} {E : Str → List D → Env → Prop} (ha : a (.bor xs :: e) = .ok x (.bor xs :: e))
    (hb : Wn b (.bor xs :: e) (fun y e1 => ∃ xs', e1 = .bor xs' :: e ∧ WF (f [.lst xs', x, y]) (fun d bs => ∃ ys, bs = [ys] ∧ Q d (.bor ys :: e)) (fun c fs bs => ∃ ys, bs = [ys] ∧ E c fs (.bor ys :: e))) E) : Wn (eCall f [.lend 0, .e a, .e b]) (.bor xs :: e) Q E := by
  rw [wn_call]
  simp only [argsV, wn_bind, wn_pure, wn_tmp, x_sl0, wt_bor, wn_eq ha]
  refine hb.imp fun y e1 h => ?_
  obtain ⟨xs', rfl, h⟩ := h
  simp only [x_sl0, lends, List.all_cons, List.all_nil, Bool.and_true, isL, true_and, argsD, argD, slD]
  refine h.imp (fun d bs h => ?_) fun c fs bs h => ?_
  · obtain ⟨ys, rfl, h⟩ := h
    simp [giveBack]
    exact h
  · obtain ⟨ys, rfl, h⟩ := h
    simp [giveBack]
    exact h
theorem eqvL_refl {xs : List D} (h : ∀ x ∈ xs, D.eqv x x = true) : D.eqvL xs xs = true := by
  induction xs with
  | nil => rfl
  | cons x xs ih =>
    show (D.eqv x x && D.eqvL xs xs) = true
    rw [h x List.mem_cons_self, ih fun y hy => h y (List.mem_cons_of_mem _ hy)]
    rfl
theorem eqv_refl : ∀ {n : Nat} {d : D}, d.sm n = true → D.eqv d d = true := by
  intro n
  induction n with
  | zero =>
    intro d h
    cases d with
    | str s => show (s == s) = true; simp
    | int i => show (i == i) = true; simp
    | bl b => show (b == b) = true; simp
    | non => rfl
    | _ => cases h
  | succ n ih =>
    intro d h
    cases d with
    | str s => show (s == s) = true; simp
    | int i => show (i == i) = true; simp
    | bl b => show (b == b) = true; simp
    | non => rfl
    | tup xs => exact eqvL_refl fun x hx => ih ((sm_tup.mp h).2 x hx)
    | lst xs => exact eqvL_refl fun x hx => ih ((sm_lst.mp h).2 x hx)
    | _ => cases h
theorem sm_row {ns : List Int} {k : Bool} (h : ns.length ≤ 1000) : (sq k (ns.map D.int)).sm 1 = true := by
  have : ∀ x ∈ ns.map D.int, x.sm 0 = true := fun x hx => by
    obtain ⟨r, _, rfl⟩ := List.mem_map.mp hx
    rfl
  cases k
  · exact sm_lst.mpr ⟨by rw [List.length_map]; omega, this⟩
  · exact sm_tup.mpr ⟨by rw [List.length_map]; omega, this⟩
theorem dEq_nilL {n : Nat} {xs : List D} (h : (D.lst xs).sm n = true) (hn : n ≤ 40) : dEq (.lst xs) (.lst []) = .ok xs.isEmpty := by
  have h1 : D.plain 40 (.lst xs) = true := sm_plain h hn
  have h2 : D.plain 40 (.lst []) = true := rfl
  have h3 : D.eqv (.lst xs) (.lst []) = xs.isEmpty := by cases xs <;> rfl
  unfold dEq
  rw [h1, h2, h3]
  rfl
end AH
namespace AH
open PySem L2
variable [TheK]
/-! ### comprehensions over two sources -/
/-! ### all stretches -/
end AH
namespace AH
open PySem L2
variable [TheK]
/-! ### lots -/
abbrev Er := (Int × Int) × Int
def encE (k : Bool) (it : Er) : D := sq k [sq k [.int it.1.1, .int it.1.2], .int it.2]
def lotD (k : Bool) (s : Int) (its : List Er) : D := sq k [.int s, sq k (its.map (encE k))]
structure Lot (s : Int) (t : Int) (its : List Er) : Prop where
  sub : (its.map (·.1)).Sublist (spansL s)
  pos : ∀ it ∈ its, 0 < it.2 ∧ it.2 ≤ t
theorem Lot.mem {s t : Int} {its : List Er} (h : Lot s t its) {it : Er} (hi : it ∈ its) : 0 ≤ it.1.1 ∧ it.1.1 ≤ it.1.2 ∧ it.1.2 < s := mem_spansL.mp (h.sub.mem (List.mem_map.mpr ⟨it, hi, rfl⟩))
theorem Lot.len {s t : Int} {its : List Er} (h : Lot s t its) : its.length ≤ (spansL s).length := by
  have := h.sub.length_le
  rwa [List.length_map] at this
theorem spans8 {s : Int} (h0 : 0 ≤ s) (h1 : s ≤ 8) : (spansL s).length ≤ 36 := by
  have : s = 0 ∨ s = 1 ∨ s = 2 ∨ s = 3 ∨ s = 4 ∨ s = 5 ∨ s = 6 ∨ s = 7 ∨ s = 8 := by omega
  rcases this with rfl | rfl | rfl | rfl | rfl | rfl | rfl | rfl | rfl <;> decide +kernel
/-- a loop that puts things, one or none a turn, to a list -/
theorem fillS {T α : Type} {g : DG} {b : DS} {c m : Nat} {enc : T → D} {en : α → D} {key : α → T} {P : α → Prop} {st : List D → List D → Env} {E : Str → List D → Env → Prop} :
    ∀ {L : List T} {n : Nat} {bx : List D} {M : List α} {Q : Out → Env → Prop}, (∀ (n : Nat) (y : T) (bx fs : List D), y ∈ L → fs.length < m → Bx (n + c) bx → Wn (g (enc y)) (st bx fs) (fun _ e1 => Wn b e1 (fun o e2 => o = .nx ∧ ∃ by_, Bx n by_ ∧ (e2 = st by_ fs ∨ ∃ z, key z = y ∧ P z ∧ e2 = st by_ (fs ++ [en z]))) NoE) NoE) →
      L.length + M.length ≤ m → Bx (n + c * L.length) bx → (∀ (by_ : List D) (zs : List α), (zs.map key).Sublist L → (∀ z ∈ zs, P z) → Bx n by_ → Q .nx (st by_ ((M ++ zs).map en))) → Wn (loop g b (L.map enc)) (st bx (M.map en)) Q E
  | [], n, bx, M, Q, hs, hl, hb, q => by
    rw [List.map_nil, wn_loop_nil]
    have := q bx [] (by simp) (by simp) (hb.le (by simp))
    rwa [List.append_nil] at this
  | y :: L, n, bx, M, Q, hs, hl, hb, q => by
    rw [List.length_cons] at hl hb
    rw [List.map_cons]
    unfold loop
    rw [wn_bind]
    refine (hs (n + c * L.length) y bx (M.map en) List.mem_cons_self (by rw [List.length_map]; omega) (hb.le (by rw [Nat.mul_succ]; omega))).imp (fun _ e1 h1 => ?_) fun _ _ _ z => z.elim
    rw [wn_bind]
    refine h1.imp (fun o e2 h2 => ?_) fun _ _ _ z => z.elim
    have hs' : ∀ (n : Nat) (z : T) (bx fs : List D), z ∈ L → fs.length < m → Bx (n + c) bx → Wn (g (enc z)) (st bx fs) (fun _ e1 => Wn b e1 (fun o e2 => o = .nx ∧ ∃ by_, Bx n by_ ∧ (e2 = st by_ fs ∨ ∃ w, key w = z ∧ P w ∧ e2 = st by_ (fs ++ [en w]))) NoE) NoE := fun n z bx fs hz => hs n z bx fs (List.mem_cons_of_mem _ hz)
    obtain ⟨rfl, by_, h3, rfl | ⟨z, hz, hP, rfl⟩⟩ := h2
    · exact fillS hs' (by omega) h3 fun by2 zs s1 s2 s3 => q by2 zs (s1.cons y) s2 s3
    · have e : M.map en ++ [en z] = (M ++ [z]).map en := by simp
      rw [e]
      refine fillS hs' (by rw [List.length_append]; simp; omega) h3 fun by2 zs s1 s2 s3 => ?_
      have := q by2 (z :: zs) (by rw [List.map_cons, hz]; exact s1.cons₂ y) (fun w hw => by
        rcases List.mem_cons.mp hw with rfl | hw
        · exact hP
        · exact s2 w hw) s3
      rw [List.append_assoc]
      exact this
theorem rel_sp {i : Nat} {e : Env} {Q : Out → Env → Prop} {E : Str → List D → Env → Prop} {xs : List D} (h : sl e i = .own xs) : Wn (sRelL i) e Q E = Q .nx (put e i (.val (.lst xs))) := by
  refine wn_eq ?_
  unfold sRelL
  rw [h]
theorem lot_ok {n : Nat} {s t : Int} {xs : List D} {Q : D → List (List D) → Prop} {E : Str → List D → List (List D) → Prop} (h0 : 0 ≤ s) (hs : s ≤ 8) (ht : 0 ≤ t) (ht2 : t < 2 ^ 139) (hb : Bx (n + 73) xs) (q : ∀ its ys, Lot s t its → Bx n ys → Q (lotD true s its) [ys]) : WF (f_law_lot [.lst xs, .int s, .int t]) Q E := by
  have sl36 := spans8 h0 hs
  have sp := spans_ok h0 (by omega)
  rw [f_law_lot, wf_mkF rfl]
  simp only [startE, m_law_lot, wn_seq, wn_par_vn]
  refine wn_take (n := n + 72) (b := 4) rfl hb (by omega) (by omega) fun v b1 v0 v1 hb1 => ?_
  simp [l_law_lot_1, sp]
  refine fillS (T := Int × Int) (α := Er) (enc := encR) (en := encE true) (key := (·.1)) (P := fun z => 0 < z.2 ∧ z.2 ≤ t) (c := 2) (m := 100) (M := []) (n := n) (st := fun bx fs => [.bor bx, .val (.int s), .val (.int t), .val (.int v), .own fs, .no, .no]) (fun k y bx fs hy hf hbx => ?_) (by simp; omega) (hb1.le (by omega)) fun by_ zs z1 z2 z3 => ?_
  · simp only [b_law_lot_1, wn_sFg, wn_seq]
    simp only [wn_gN, x_slS, x_sl0, x_isOwn1, true_and, x_putS, x_put0, wn_sAsgN, wn_eIf, wn_tOr, wn_c2, wn_var, ws_val, wn_c, dLt_int, wr_ok]
    have last : ∀ (u : Int) (zs : List D), 0 ≤ u → u ≤ t → Bx k zs → isFix (sl [.bor zs, .val (.int s), .val (.int t), .val (.int v), .own fs, .val (encR y), .no] 6) = false ∧ WO .nx (Wn (sIf (c2 dGt (eVar 6) (eC (.int 0))) (sApp 4 (eTup (aCons (eVar 5) (aCons (eVar 6) aNil)))) sNil) (put [.bor zs, .val (.int s), .val (.int t), .val (.int v), .own fs, .val (encR y), .no] 6 (.val (.int u)))
        (fun o e1 => o = .nx ∧ ∃ by_, Bx k by_ ∧ (fgO [5, 6] o e1 = [.bor by_, .val (.int s), .val (.int t), .val (.int v), .own fs, .no, .no] ∨ ∃ z : Er, z.1 = y ∧ (0 < z.2 ∧ z.2 ≤ t) ∧ fgO [5, 6] o e1 = [.bor by_, .val (.int s), .val (.int t), .val (.int v), .own (fs ++ [encE true z]), .no, .no])) NoE)
        (fun o => o = .nx ∧ ∃ by_, Bx k by_ ∧ (fgO [5, 6] o (put [.bor zs, .val (.int s), .val (.int t), .val (.int v), .own fs, .val (encR y), .no] 6 (.val (.int u))) = [.bor by_, .val (.int s), .val (.int t), .val (.int v), .own fs, .no, .no] ∨ ∃ z : Er, z.1 = y ∧ (0 < z.2 ∧ z.2 ≤ t) ∧ fgO [5, 6] o (put [.bor zs, .val (.int s), .val (.int t), .val (.int v), .own fs, .val (encR y), .no] 6 (.val (.int u))) = [.bor by_, .val (.int s), .val (.int t), .val (.int v), .own (fs ++ [encE true z]), .no, .no])) := by
      intro u zs u0 u1 hz
      by_cases hu : 0 < u
      · simp [hu]
        exact ⟨by omega, zs, hz, u, ⟨hu, u1⟩, rfl, rfl⟩
      · simp [hu]
        exact hz
    by_cases c1 : v < 1
    · simp only [c1, decide_true, if_true]
      refine wn_take (n := k) (b := t + 1) (Wn.eq (by simp)) (hbx.le (by omega)) (by omega) (by omega) fun u zs u0 u1 hz => ?_
      exact last u zs u0 (by omega) hz
    · simp only [c1, decide_false, Bool.false_eq_true, if_false]
      refine wn_take (n := k + 1) (b := 1 + v) (Wn.eq (by simp)) hbx (by omega) (by omega) fun u zs u0 u1 hz => ?_
      simp only [wn_c, dEq_int, wr_ok]
      by_cases c2 : u = 0
      · subst c2
        simp only [show ((0 : Int) == 0) = true from rfl, if_true]
        refine wn_take (n := k) (b := t + 1) (Wn.eq (by simp)) hz (by omega) (by omega) fun u2 zs2 w0 w1 hz2 => ?_
        exact last u2 zs2 w0 (by omega) hz2
      · simp only [show (u == 0) = false by simpa using c2, Bool.false_eq_true, if_false, wn_c]
        exact last 0 zs (by omega) ht (hz.le (by omega))
  · rw [List.nil_append]
    simp [rel_sp]
    exact q zs by_ ⟨z1, z2⟩ z3
theorem pow6 : dPow (.int 10) (.int 6) = .ok (.int 1000000) := by kernel_rfl
theorem pow38 : dPow (.int 10) (.int 38) = .ok (.int 100000000000000000000000000000000000000) := by kernel_rfl
theorem lend2w {f : DF} {b : DE} {xs : List D} {e : Env} {Q : D → Env → Prop} {E : Str → List D → Env → Prop}
    (hb : Wn b (.bor xs :: e) (fun y e1 => ∃ xs', e1 = .bor xs' :: e ∧ WF (f [.lst xs', y]) (fun d bs => ∃ ys, bs = [ys] ∧ Q d (.bor ys :: e)) (fun c fs bs => ∃ ys, bs = [ys] ∧ E c fs (.bor ys :: e))) E) : Wn (eCall f [.lend 0, .e b]) (.bor xs :: e) Q E := by
  rw [wn_call]
  simp only [argsV, wn_bind, wn_pure, wn_tmp, x_sl0, wt_bor]
  refine hb.imp fun y e1 h => ?_
  obtain ⟨xs', rfl, h⟩ := h
  simp only [x_sl0, lends, List.all_cons, List.all_nil, Bool.and_true, isL, true_and, argsD, argD, slD]
  refine h.imp (fun d bs h => ?_) fun c fs bs h => ?_
  · obtain ⟨ys, rfl, h⟩ := h
    simp [giveBack]
    exact h
  · obtain ⟨ys, rfl, h⟩ := h
    simp [giveBack]
    exact h
theorem great_ok {n : Nat} {s : Int} {xs : List D} {Q : D → List (List D) → Prop} {E : Str → List D → List (List D) → Prop} (h0 : 0 ≤ s) (hs : s ≤ 8) (hb : Bx (n + 72) xs) (q : ∀ its ys, Lot s 100000000000000000000000000000000000000 its → Bx n ys → Q (lotD true s its) [ys]) : WF (f_law_great [.lst xs, .int s]) Q E := by
  have sl36 := spans8 h0 hs
  have sp := spans_ok h0 (by omega)
  rw [f_law_great, wf_mkF rfl]
  simp only [startE, m_law_great, wn_seq]
  simp [l_law_great_1, sp]
  refine fillS (T := Int × Int) (α := Er) (enc := encR) (en := encE true) (key := (·.1)) (P := fun z => 0 < z.2 ∧ z.2 ≤ 100000000000000000000000000000000000000) (c := 2) (m := 100) (M := []) (n := n) (st := fun bx fs => [.bor bx, .val (.int s), .own fs, .no, .no]) (fun k y bx fs hy hf hbx => ?_) (by simp; omega) (hb.le (by omega)) fun by_ zs z1 z2 z3 => ?_
  · simp only [b_law_great_1, wn_sFg, wn_seq]
    simp only [wn_gN, x_slS, x_sl0, x_isOwn1, true_and, x_putS, x_put0, wn_sAsgN]
    refine lend2w ?_
    refine wn_of2 (n := k + 1) (ps := [.int 1, .int 2, .int 10, .int 1000000, .int 100000000000000000000000000000000000000]) (Wn.eq (by simp [pow6, pow38])) hbx (by simp) (by simp) fun d b1 hd hb1 => ⟨b1, rfl, ?_⟩
    obtain ⟨w, rfl, w0, w1⟩ : ∃ w : Int, d = .int w ∧ 0 < w ∧ w ≤ 100000000000000000000000000000000000000 := by
      simp only [List.mem_cons, List.not_mem_nil, or_false] at hd
      rcases hd with rfl | rfl | rfl | rfl | rfl <;> exact ⟨_, rfl, by decide, by decide⟩
    refine wf_take hb1 w0 (Int.lt_of_le_of_lt w1 (by decide +kernel)) fun u zs u0 u1 hz => ⟨zs, rfl, ?_⟩
    by_cases hu : 0 < u
    · simp [hu]
      exact ⟨by omega, zs, hz, u, ⟨hu, by omega⟩, rfl, rfl⟩
    · simp [hu]
      exact hz
  · rw [List.nil_append]
    simp [rel_sp]
    exact q zs by_ ⟨z1, z2⟩ z3
/-! ### what a stretch asks -/
theorem ix0 {k : Bool} {x y : D} : dIx (sq k [x, y]) (.int 0) = .ok x := by cases k <;> rfl
theorem ix1 {k : Bool} {x y : D} : dIx (sq k [x, y]) (.int 1) = .ok y := by cases k <;> rfl
@[simp] theorem lot_ix0 {k : Bool} {s : Int} {its : List Er} : dIx (lotD k s its) (.int 0) = .ok (.int s) := ix0
@[simp] theorem lot_ix1 {k : Bool} {s : Int} {its : List Er} : dIx (lotD k s its) (.int 1) = .ok (sq k (its.map (encE k))) := ix1
end AH
namespace AH
open PySem L2
variable [TheK]
/-! ### wishes for dicts -/
section
variable {e : Env} {i j l : Nat} {a b c : DE} {E : Str → List D → Env → Prop} {kvs : List (List Key × D)} {xs : List D}
def WDc (s : Sl) (Q : List (List Key × D) → Prop) : Prop := match s with
  | .odc kvs => Q kvs
  | _ => False
@[simp] theorem wdc_odc {Q : List (List Key × D) → Prop} : WDc (.odc kvs) Q = Q kvs := nr rfl
def WDi (d : D) (Q : List (List Key × D) → Prop) : Prop := match d with
  | .dic kvs => Q kvs
  | _ => False
@[simp] theorem wdi_dic {Q : List (List Key × D) → Prop} : WDi (.dic kvs) Q = Q kvs := nr rfl
def WKy (d : D) (Q : List Key → Prop) : Prop := match keyD d with
  | some k => Q k
  | none => False
theorem wky_of {d : D} {k : List Key} {Q : List Key → Prop} (h : keyD d = some k) : WKy d Q = Q k := by unfold WKy; rw [h]
@[simp] theorem wky_two {x y : Int} {Q : List Key → Prop} : WKy (.tup [.int x, .int y]) Q = Q [.inl x, .inl y] := wky_of rfl
@[simp] theorem wt_ldc {Q : D → Prop} : WT (.ldc kvs) Q = Q (.dic kvs) := nr rfl
@[simp] theorem wn_sOwnD {Q : Out → Env → Prop} : Wn (sOwnD i a) e Q E = Wn a e (fun x e1 => WDi x fun kvs => isFix (sl e1 i) = false ∧ i < e1.length ∧ Q .nx (put e1 i (.odc kvs))) E := by
  simp only [sOwnD, wn_bind]
  congr 1
  funext x e1
  cases x with
  | dic xs =>
    unfold Wn
    simp only [wdi_dic]
    cases isFix (sl e1 i) <;> by_cases h : i < e1.length <;> simp [h]
  | _ => (unfold Wn; rfl)
@[simp] theorem wn_ownD {Q : List (List Key × D) → Env → Prop} : Wn (ownD i) e Q E = WDc (sl e i) fun xs => Q xs e := by
  unfold Wn ownD
  cases sl e i <;> rfl
@[simp] theorem wn_sSetD {Q : Out → Env → Prop} : Wn (sSetD i a b) e Q E = Wn b e (fun x e1 => WDc (sl e1 i) fun _ => Wn a e1 (fun k e2 => WDc (sl e2 i) fun kvs => WKy k fun k => lenOk (kvs.length + 1) = true ∧ Q .nx (put e2 i (.odc (dput kvs k x)))) E) E := by
  simp only [sSetD, wn_bind, wn_ownD]
  congr 1
  funext x e1
  congr 1
  funext _
  congr 1
  funext k e2
  congr 1
  funext kvs
  unfold WKy
  cases keyD k with
  | none => unfold Wn; rfl
  | some k =>
    unfold Wn
    simp only
    cases lenOk (kvs.length + 1) <;> simp
@[simp] theorem wn_sRetOd {Q : Out → Env → Prop} : Wn (sRetOd i) e Q E = WDc (sl e i) fun kvs => Q (.rt (.dic kvs)) e := by
  unfold Wn sRetOd
  cases sl e i <;> rfl
@[simp] theorem wn_aStar {r : DL} {Q : List D → Env → Prop} : Wn (aStar a r) e Q E = Wn a e (fun x e1 => WL x fun xs => Wn r e1 (fun ys e2 => Q (xs ++ ys) e2) E) E := by
  simp only [aStar, wn_bind]
  congr 1
  funext x e1
  cases x <;> first | (simp only [wn_bind, wn_pure, wl_lst, wl_tup]; done) | (unfold Wn; rfl)
@[simp] theorem wn_eAddO {Q : D → Env → Prop} : Wn (eAddO i b) e Q E = WQ (sl e i) fun _ => Wn b e (fun y e1 => WQ (sl e1 i) fun xs => WR (dAddL (.lst xs) y) fun z => Q z e1) E := by
  simp only [eAddO, wn_bind, wn_ownL, wn_of]
@[simp] theorem dAddL_lst {a b : List D} : dAddL (.lst a) (.lst b) = if lenOk (a.length + b.length) then .ok (.lst (a ++ b)) else .bad := nr rfl
@[simp] theorem wn_parK_dv {Q : Out → Env → Prop} : Wn (sParK [(i, .d, a), (j, .v, b)]) e Q E = Wn a e (fun x e1 => Wn b e1 (fun y e2 => WDi x fun kvs => isFix (sl e2 i) = false ∧ i < e2.length ∧ isFix (sl (put e2 i (.odc kvs)) j) = false ∧ Q .nx (put (put e2 i (.odc kvs)) j (.val y))) E) E := by
  simp only [sParK, List.map, parV, wn_bind, wn_pure]
  congr 1; funext x e1; congr 1; funext y e2
  cases x with
  | dic ys =>
    unfold Wn
    simp only [parPutK, wdi_dic]
    cases isFix (sl e2 i) <;> cases isFix (sl (put e2 i (.odc ys)) j) <;> by_cases h : i < e2.length <;> simp [h]
  | _ => (unfold Wn; simp only [parPutK]; rfl)
@[simp] theorem wn_parK_dl {Q : Out → Env → Prop} : Wn (sParK [(i, .d, a), (j, .l, b)]) e Q E = Wn a e (fun x e1 => Wn b e1 (fun y e2 => WDi x fun kvs => WM y fun ys => (isFix (sl e2 i) = false ∧ i < e2.length) ∧ (isFix (sl (put e2 i (.odc kvs)) j) = false ∧ j < e2.length) ∧ Q .nx (put (put e2 i (.odc kvs)) j (.own ys))) E) E := by
  simp only [sParK, List.map, parV, wn_bind, wn_pure]
  congr 1; funext x e1; congr 1; funext y e2
  cases x with
  | dic ys => cases y with
    | lst zs =>
      unfold Wn
      simp only [parPutK, wdi_dic, wm_lst, put_len]
      cases isFix (sl e2 i) <;> cases isFix (sl (put e2 i (.odc ys)) j) <;> by_cases h : i < e2.length <;> by_cases h' : j < e2.length <;> simp [h, h']
    | _ => (unfold Wn WM; simp only [parPutK, wdi_dic]; cases isFix (sl e2 i) <;> by_cases h : i < e2.length <;> simp [h])
  | _ => (unfold Wn; simp only [parPutK]; rfl)
theorem wf_mkR {n : Nat} {ms : List Md} {b : DS} {ds : List D} {Q : D → List (List D) → Prop} {E : Str → List D → List (List D) → Prop} (h : lstsOk ms ds = true) : WF (mkR n ms b ds) Q E = Wn b (startE ms ds ++ List.replicate (n - ms.length) .no) (fun o e => match o with | .rt d => WE ms (.rt d) e Q | _ => False) (fun c fs e => match lentOf ms e with | some bs => E c fs bs | none => False) := by
  unfold mkR
  simp only [h, Bool.not_true, Bool.false_eq_true, if_false]
  unfold Wn WE
  cases b (startE ms ds ++ List.replicate (n - ms.length) .no) with
  | ok o e =>
    simp only
    cases o with
    | rt d => simp only; cases lentOf ms e <;> (unfold WF; rfl)
    | nx => (unfold WF; rfl)
    | bk => (unfold WF; rfl)
    | ct => (unfold WF; rfl)
  | ex c fs e => simp only; cases lentOf ms e <;> (unfold WF; rfl)
  | bad => (unfold WF; rfl)
end
/-! ### dicts by windows -/
def keyR (p : Int × Int) : List Key := [.inl p.1, .inl p.2]
theorem keyR_inj {p q : Int × Int} : keyR p = keyR q ↔ p = q := by
  unfold keyR
  constructor
  · intro h
    simp at h
    exact Prod.ext h.1 h.2
  · intro h; rw [h]
theorem keyD_encR {p : Int × Int} : keyD (encR p) = some (keyR p) := rfl
@[simp] theorem wky_encR {p : Int × Int} {Q : List Key → Prop} : WKy (encR p) Q = Q (keyR p) := wky_of rfl
def tabD (L : List (Int × Int)) (f : Int × Int → Int) : List (List Key × D) := L.map fun p => (keyR p, .int (f p))
theorem tabD_len {L : List (Int × Int)} {f : Int × Int → Int} : (tabD L f).length = L.length := by unfold tabD; rw [List.length_map]
theorem tabD_congr {L : List (Int × Int)} {f g : Int × Int → Int} (h : ∀ p ∈ L, f p = g p) : tabD L f = tabD L g := by
  unfold tabD
  apply List.map_congr_left
  intro p hp
  rw [h p hp]
theorem dget_tab {L : List (Int × Int)} {f : Int × Int → Int} {q : Int × Int} : dget (tabD L f) (keyR q) = if q ∈ L then some (.int (f q)) else none := by
  induction L with
  | nil => rfl
  | cons p L ih =>
    unfold dget tabD at ih ⊢
    rw [List.map_cons, List.find?_cons]
    by_cases h : p = q
    · subst h
      simp
    · have hk : decide (keyR p = keyR q) = false := by simpa [keyR_inj] using h
      simp only [hk]
      rw [ih]
      have : (q ∈ p :: L) ↔ q ∈ L := by
        rw [List.mem_cons]
        exact ⟨fun z => z.elim (fun z => absurd z.symm h) id, .inr⟩
      simp only [this]
theorem dput_in {L : List (Int × Int)} {f : Int × Int → Int} {q : Int × Int} {v : Int} (h : q ∈ L) : dput (tabD L f) (keyR q) (.int v) = tabD L fun p => if p = q then v else f p := by
  unfold dput
  have ha : ((tabD L f).any fun p => decide (p.1 = keyR q)) = true := by
    rw [List.any_eq_true]
    exact ⟨(keyR q, .int (f q)), List.mem_map.mpr ⟨q, h, rfl⟩, by simp⟩
  rw [ha, if_pos rfl]
  unfold tabD
  rw [List.map_map]
  apply List.map_congr_left
  intro p _
  show (if keyR p = keyR q then (keyR p, D.int v) else (keyR p, .int (f p))) = _
  by_cases hp : p = q
  · subst hp; simp
  · rw [if_neg (fun z => hp (keyR_inj.mp z))]
    simp [hp]
theorem dput_out {L : List (Int × Int)} {f : Int × Int → Int} {q : Int × Int} {v : Int} (h : q ∉ L) : dput (tabD L f) (keyR q) (.int v) = tabD (L ++ [q]) fun p => if p = q then v else f p := by
  unfold dput
  have ha : ((tabD L f).any fun p => decide (p.1 = keyR q)) = false := by
    rw [List.any_eq_false]
    intro x hx
    obtain ⟨p, hp, rfl⟩ := List.mem_map.mp hx
    simp [keyR_inj]
    exact fun z => h (z ▸ hp)
  rw [ha, if_neg (by simp)]
  unfold tabD
  rw [List.map_append]
  congr 1
  · apply List.map_congr_left
    intro p hp
    have : p ≠ q := fun z => h (z ▸ hp)
    simp [this]
  · simp
theorem dIx_tab {L : List (Int × Int)} {f : Int × Int → Int} {q : Int × Int} (h : q ∈ L) : dIx (.dic (tabD L f)) (encR q) = .ok (.int (f q)) := by
  show (match keyD (encR q) with | some k => (match dget (tabD L f) k with | some v => Rv.ok v | none => .bad) | none => .bad) = _
  rw [keyD_encR]
  simp only
  rw [dget_tab, if_pos h]
/-- dict of pairs -/
theorem pairsD_tab {L : List (Int × Int)} {f : Int × Int → Int} : pairsD (L.map fun p => D.tup [encR p, .int (f p)]) = some (tabD L f) := by
  induction L with
  | nil => rfl
  | cons p L ih =>
    show (match keyD (encR p), pairsD (L.map fun p => D.tup [encR p, .int (f p)]) with | some k, some r => some ((k, D.int (f p)) :: r) | _, _ => none) = _
    rw [ih, keyD_encR]
    rfl
theorem dmerge_nodup : ∀ (L M : List (Int × Int)) (f : Int × Int → Int), (M ++ L).Nodup → dmerge (tabD M f) (tabD L f) = tabD (M ++ L) f
  | [], M, f, _ => by rw [List.append_nil]; rfl
  | p :: L, M, f, h => by
    show dmerge (dput (tabD M f) (keyR p) (.int (f p))) (tabD L f) = _
    have hp : p ∉ M := fun z => by
      rw [List.nodup_append] at h
      exact h.2.2 p z p List.mem_cons_self rfl
    rw [dput_out hp]
    have e : tabD (M ++ [p]) (fun q => if q = p then f p else f q) = tabD (M ++ [p]) f := tabD_congr fun q _ => by
      split
      · rename_i z; rw [z]
      · rfl
    rw [e, dmerge_nodup L (M ++ [p]) f (by rw [List.append_assoc]; exact h), List.append_assoc]
    rfl
theorem dDictP_tab {L : List (Int × Int)} {f : Int × Int → Int} (h : L.Nodup) : dDictP (.lst (L.map fun p => D.tup [encR p, .int (f p)])) = .ok (.dic (tabD L f)) := by
  unfold dDictP
  simp only
  rw [pairsD_tab]
  simp only
  have := dmerge_nodup L [] f h
  simp only [List.nil_append] at this
  rw [show dmerge [] (tabD L f) = dmerge (tabD [] f) (tabD L f) from rfl, this]
end AH
namespace AH
open PySem L2
/-! ### sorting windows -/
theorem sorted_unique {α : Type} {le : α → α → Bool} : ∀ {L M : List α}, L.Perm M → L.Pairwise (fun a b => le a b = true) → M.Pairwise (fun a b => le a b = true) → (∀ a ∈ L, ∀ b ∈ L, le a b = true → le b a = true → a = b) → L = M
  | [], M, h, _, _, _ => h.nil_eq
  | a :: L, [], h, _, _, _ => absurd h.symm.nil_eq (by simp)
  | a :: L, b :: M, h, h1, h2, an => by
    have e : a = b := by
      by_cases z : a = b
      · exact z
      · have ha : a ∈ M := by
          have := h.subset List.mem_cons_self
          rcases List.mem_cons.mp this with q | q
          · exact absurd q z
          · exact q
        have hb : b ∈ L := by
          have := h.symm.subset List.mem_cons_self
          rcases List.mem_cons.mp this with q | q
          · exact absurd q.symm z
          · exact q
        exact an a List.mem_cons_self b (List.mem_cons_of_mem _ hb) ((List.pairwise_cons.mp h1).1 b hb) ((List.pairwise_cons.mp h2).1 a ha)
    subst e
    rw [sorted_unique ((List.perm_cons a).mp h) (List.pairwise_cons.mp h1).2 (List.pairwise_cons.mp h2).2 fun x hx y hy => an x (List.mem_cons_of_mem _ hx) y (List.mem_cons_of_mem _ hy)]
theorem leD_tot : (∀ a b c, leD a b = true → leD b c = true → leD a c = true) ∧ (∀ a b, (leD a b || leD b a) = true) := by
  have tl := PySem.W.sortLe_total (PyProof.Rows.listOrd PyProof.Rows.itemOrd) false fun b : D => PySem.W.keyToks b.toP
  refine ⟨tl.trans, fun a b => ?_⟩
  rcases tl.total a b with h | h
  · have h : leD a b = true := h
    rw [h]; rfl
  · have h : leD b a = true := h
    rw [h, Bool.or_true]
theorem isort_eq {L M : List D} (h : L.Perm M) (hM : M.Pairwise (fun a b => leD a b = true)) (an : ∀ a ∈ L, ∀ b ∈ L, leD a b = true → leD b a = true → a = b) : isort leD L = M := by
  rw [← merge_isort leD_tot.1 leD_tot.2]
  refine sorted_unique ((List.mergeSort_perm L leD).trans h) (List.pairwise_mergeSort leD_tot.1 leD_tot.2 L) hM fun a ha b hb => ?_
  exact an a ((List.mergeSort_perm L leD).subset ha) b ((List.mergeSort_perm L leD).subset hb)
def lxP (p q : Int × Int) : Prop := p.1 < q.1 ∨ (p.1 = q.1 ∧ p.2 < q.2)
theorem leD_encR {p q : Int × Int} : leD (encR p) (encR q) = true ↔ lxP p q ∨ p = q := by
  unfold leD PySem.W.dataLe PySem.W.sortLe encR lxP
  simp [D.toP, D.toPs, PySem.W.keyToks, PySem.W.keyToksAll, PyProof.Rows.lexLt, PyProof.Rows.itemLt]
  obtain ⟨p1, p2⟩ := p
  obtain ⟨q1, q2⟩ := q
  simp only [Prod.mk.injEq]
  omega
theorem intsR_sorted {a b : Int} : (intsR a b).Pairwise (· < ·) := by
  unfold intsR
  rw [List.pairwise_map]
  exact List.pairwise_lt_range.imp fun {x y} h => by omega
theorem spansL_sorted {s : Int} : (spansL s).Pairwise lxP := by
  unfold spansL
  rw [List.pairwise_flatMap]
  refine ⟨fun a _ => ?_, intsR_sorted.imp fun {x y} h p hp q hq => ?_⟩
  · rw [List.pairwise_map]
    exact intsR_sorted.imp fun {x y} h => .inr ⟨rfl, h⟩
  · obtain ⟨_, _, rfl⟩ := List.mem_map.mp hp
    obtain ⟨_, _, rfl⟩ := List.mem_map.mp hq
    exact .inl h
theorem lxP_ne {p q : Int × Int} (h : lxP p q) : p ≠ q := fun z => by
  subst z
  unfold lxP at h
  omega
theorem lxP_asymm {p q : Int × Int} (h : lxP p q) (h' : lxP q p) : False := by unfold lxP at *; omega
theorem spansL_nodup {s : Int} : (spansL s).Nodup := spansL_sorted.imp fun h => lxP_ne h
theorem isort_win {L M : List (Int × Int)} (h : L.Perm M) (hM : M.Pairwise lxP) : isort leD (L.map encR) = M.map encR := by
  refine isort_eq (h.map encR) ?_ ?_
  · rw [List.pairwise_map]
    exact hM.imp fun z => leD_encR.mpr (.inl z)
  · intro a ha b hb h1 h2
    obtain ⟨p, _, rfl⟩ := List.mem_map.mp ha
    obtain ⟨q, _, rfl⟩ := List.mem_map.mp hb
    rcases leD_encR.mp h1 with z | z
    · rcases leD_encR.mp h2 with z' | z'
      · exact (lxP_asymm z z').elim
      · rw [z']
    · rw [z]
theorem sortOk_all {xs : List D} (h1 : ∀ x ∈ xs, x.plain 40 = true ∧ x.toP.depth ≤ 60) (h2 : ∀ x ∈ xs, ∀ y ∈ xs, PySem.W.alike x.toP y.toP = true) (h3 : ∀ x ∈ xs, tup1 x = true) : sortOk xs = true := by
  unfold sortOk
  rw [Bool.and_eq_true, Bool.and_eq_true, Bool.or_eq_true]
  refine ⟨List.all_eq_true.mpr fun x hx => ?_, List.all_eq_true.mpr fun x hx => List.all_eq_true.mpr fun y hy => h2 x hx y hy, .inl (List.all_eq_true.mpr h3)⟩
  rw [(h1 x hx).1, decide_eq_true (h1 x hx).2]
  rfl
theorem sortOk_win {L : List (Int × Int)} : sortOk (L.map encR) = true := by
  refine sortOk_all (fun x hx => ?_) (fun x hx y hy => ?_) fun x hx => ?_
  · obtain ⟨p, _, rfl⟩ := List.mem_map.mp hx
    exact ⟨rfl, by show (1 : Nat) ≤ 60; decide⟩
  · obtain ⟨p, _, rfl⟩ := List.mem_map.mp hx
    obtain ⟨q, _, rfl⟩ := List.mem_map.mp hy
    rfl
  · obtain ⟨p, _, rfl⟩ := List.mem_map.mp hx
    rfl
theorem dSortK_tab {L M : List (Int × Int)} {f : Int × Int → Int} (h : L.Perm M) (hM : M.Pairwise lxP) : dSortK (.dic (tabD L f)) = .ok (.lst (M.map encR)) := by
  have e : ((tabD L f).map fun k => keyT k.1) = L.map encR := by
    unfold tabD
    rw [List.map_map]
    rfl
  unfold dSortK
  simp only
  rw [e, sortOk_win, if_pos rfl, isort_win h hM]
/-! ### the work of a window; lots by it -/
def wkI (its : List Er) (p : Int × Int) : Int := ((its.filter fun it => decide (it.1 = p)).map (·.2)).sum
theorem wkI_nil {p : Int × Int} : wkI [] p = 0 := rfl
theorem wkI_cons {it : Er} {its : List Er} {p : Int × Int} : wkI (it :: its) p = (if it.1 = p then it.2 else 0) + wkI its p := by
  unfold wkI
  rw [List.filter_cons]
  by_cases h : it.1 = p <;> simp [h]
theorem wkI_app {xs ys : List Er} {p : Int × Int} : wkI (xs ++ ys) p = wkI xs p + wkI ys p := by
  unfold wkI
  rw [List.filter_append, List.map_append, List.sum_append]
theorem wkI_out {its : List Er} {p : Int × Int} (h : p ∉ its.map (·.1)) : wkI its p = 0 := by
  unfold wkI
  rw [List.filter_eq_nil_iff.mpr fun it hi => ?_]
  · rfl
  · simp
    exact fun z => h (z ▸ List.mem_map.mpr ⟨it, hi, rfl⟩)
def canon (s : Int) (f : Int × Int → Int) : List Er := ((spansL s).filter fun p => decide (0 < f p)).map fun p => (p, f p)
theorem canon_map {s : Int} {f : Int × Int → Int} : (canon s f).map (·.1) = (spansL s).filter fun p => decide (0 < f p) := by
  unfold canon
  rw [List.map_map]
  exact List.map_id'' (fun _ => rfl) _
theorem canon_is {s t : Int} {f : Int × Int → Int} (h : ∀ p ∈ spansL s, f p ≤ t) : Lot s t (canon s f) where
  sub := by rw [canon_map]; exact List.filter_sublist
  pos := fun it hi => by
    obtain ⟨p, hp, rfl⟩ := List.mem_map.mp hi
    obtain ⟨h1, h2⟩ := List.mem_filter.mp hp
    exact ⟨of_decide_eq_true h2, h p h1⟩
end AH
namespace AH
open PySem L2
variable [TheK]
@[simp] theorem gd_sq {k : Bool} {r : DGs} {xs : List D} {e : Env} {Q : Unit → Env → Prop} {E : Str → List D → Env → Prop} : Wn (gT r (sq k xs)) e Q E = Wn (r xs) e Q E := by rw [wn_gT, wl_sq]
/-! ### the law's own table -/
def putF (f : Int × Int → Int) (y : Er) : Int × Int → Int := fun p => if p = y.1 then y.2 else f p
theorem putF_fold : ∀ (its : List Er) (f : Int × Int → Int), (its.map (·.1)).Nodup → ∀ p, its.foldl putF f p = if p ∈ its.map (·.1) then wkI its p else f p
  | [], f, _, p => by simp
  | y :: its, f, nd, p => by
    rw [List.map_cons] at nd ⊢
    obtain ⟨na, nd'⟩ := List.nodup_cons.mp nd
    rw [List.foldl_cons, putF_fold its _ nd' p, wkI_cons]
    by_cases h : p = y.1
    · subst h
      rw [if_neg na, if_pos List.mem_cons_self, if_pos rfl, wkI_out na, Int.add_zero]
      simp [putF]
    · have : (p ∈ y.1 :: its.map (·.1)) ↔ p ∈ its.map (·.1) := by
        rw [List.mem_cons]
        exact ⟨fun z => z.elim (fun z => absurd z h) id, .inr⟩
      simp only [this]
      rw [if_neg (c := y.1 = p) (fun z => h z.symm), Int.zero_add]
      simp [putF, h]
theorem Lot.nd {s t : Int} {its : List Er} (h : Lot s t its) : (its.map (·.1)).Nodup := spansL_nodup.sublist h.sub
theorem dput_in' {L : List (Int × Int)} {f : Int × Int → Int} {x y v : Int} (h : (x, y) ∈ L) : dput (tabD L f) [.inl x, .inl y] (.int v) = tabD L (putF f ((x, y), v)) := dput_in (q := (x, y)) h
theorem table_law {s t : Int} {its : List Er} (hL : Lot s t its) (h0 : 0 ≤ s) (h1 : s ≤ 100) : f_law_table [lotD true s its] = .ok (.dic (tabD (spansL s) (wkI its))) [] := by
  have sp := spans_ok h0 h1
  have sq2 : s.toNat * s.toNat ≤ 10000 := Nat.mul_le_mul (show s.toNat ≤ 100 by omega) (show s.toNat ≤ 100 by omega)
  have ln := spansL_len h0
  have l1 : c_law_table_1 [.val (lotD true s its), .no, .no, .no] = .ok (.lst ((spansL s).map fun p => .tup [encR p, .int 0])) [.val (lotD true s its), .no, .no, .no] := by
    unfold c_law_table_1
    refine lc_map (T := Int × Int) (L := spansL s) (enc := encR) (fun p => .tup [encR p, .int 0]) (Wn.eq (by simp [sp])) rfl (by omega) fun y hy => ?_
    simp [wipeE]
  have dd := dDictP_tab (L := spansL s) (f := fun _ => 0) spansL_nodup
  have q : ∀ (L : List Er) (f : Int × Int → Int), (∀ y ∈ L, y.1 ∈ spansL s) → loop (gT (gsCons (gN 2) (gsCons (gN 3) gsNil))) b_law_table_1 (L.map (encE true)) [.val (lotD true s its), .odc (tabD (spansL s) f), .no, .no] = .ok .nx [.val (lotD true s its), .odc (tabD (spansL s) (L.foldl putF f)), .no, .no] := by
    intro L f hy
    refine loop_fold (st := fun f => [.val (lotD true s its), .odc (tabD (spansL s) f), .no, .no]) putF L f fun f y hyL => ?_
    have hm : (y.1.1, y.1.2) ∈ spansL s := hy y hyL
    unfold b_law_table_1
    simp [encE, sq_true, wn_sFg, dput_in' hm, tabD_len]
    omega
  have hall : ∀ y ∈ its, y.1 ∈ spansL s := fun y hy => hL.sub.subset (List.mem_map.mpr ⟨y, hy, rfl⟩)
  have e : tabD (spansL s) (its.foldl putF fun _ => 0) = tabD (spansL s) (wkI its) := tabD_congr fun p _ => by
    rw [putF_fold its _ hL.nd]
    split
    · rfl
    · rename_i z; rw [wkI_out z]
  refine WF.eq ?_
  rw [f_law_table, wf_mkR rfl]
  simp only [startE, m_law_table, wn_seq]
  simp [wn_eq l1, dd, l_law_table_1, sq_true]
  rw [wn_eq (q its _ hall), e]
  simp
/-! ### the lot of a table -/
theorem law_made_ok {s : Int} {L : List (Int × Int)} {f : Int × Int → Int} (hp : L.Perm (spansL s)) (hs : L.length ≤ 10000) : f_law_made [.int s, .dic (tabD L f)] = .ok (lotD true s (canon s f)) [] := by
  have so := dSortK_tab (f := f) hp spansL_sorted
  have l1 : c_law_made_1 [.val (.int s), .ro (.dic (tabD L f)), .no] = .ok (.lst (((spansL s).filter fun p => decide (0 < f p)).map fun p => encE true (p, f p))) [.val (.int s), .ro (.dic (tabD L f)), .no] := by
    unfold c_law_made_1
    refine lc_filter (T := Int × Int) (L := spansL s) (enc := encR) (fun p => decide (0 < f p)) (fun p => encE true (p, f p)) (Wn.eq (by simp [so])) rfl (by rw [← hp.length_eq]; omega) fun y hy => ?_
    have ix := dIx_tab (f := f) (hp.symm.subset hy)
    have ee : encE true (y, f y) = .tup [encR y, .int (f y)] := rfl
    simp [wipeE, ix, ee]
  refine WF.eq ?_
  rw [f_law_made, wf_mkF rfl]
  simp [startE, m_law_made, wn_eq l1]
  unfold lotD canon
  simp [sq_true, List.map_map]
/-! ### made_lot -/
end AH
namespace AH
open PySem L2
variable [TheK]
theorem eqv_encR {p q : Int × Int} : D.eqv (encR p) (encR q) = decide (p = q) := by
  obtain ⟨x, y⟩ := p
  obtain ⟨a, b⟩ := q
  show (x == a && (y == b && true)) = _
  by_cases h1 : x = a <;> by_cases h2 : y = b <;> simp [h1, h2]
theorem sm_str {n : Nat} {s : Str} (h : PySem.PyData.strOk s = true) : (D.str s).sm n = true := by cases n <;> exact h
@[simp] theorem sm_none {n : Nat} : (D.str "none").sm n = true := sm_str (by kernel_rfl)
@[simp] theorem sm_unlike {n : Nat} : (D.str "unlike").sm n = true := sm_str (by kernel_rfl)
@[simp] theorem sm_unfit {n : Nat} : (D.str "unfit").sm n = true := sm_str (by kernel_rfl)
@[simp] theorem sm_alike {n : Nat} : (D.str "alike").sm n = true := sm_str (by kernel_rfl)
@[simp] theorem sm_lighter {n : Nat} : (D.str "lighter").sm n = true := sm_str (by kernel_rfl)
@[simp] theorem sm_heavier {n : Nat} : (D.str "heavier").sm n = true := sm_str (by kernel_rfl)
@[simp] theorem sm_neither {n : Nat} : (D.str "neither").sm n = true := sm_str (by kernel_rfl)
/-! ### lots as lists; their size -/
theorem li_lot {s : Int} {its : List Er} : (lotD true s its).li = lotD false s its := by
  unfold lotD
  rw [sq_true, sq_true, sq_false, sq_false, li_tup]
  simp [li_tup, List.map_map]
  intro a b c _
  simp [encE, sq_true, sq_false]
theorem sm_encE {k : Bool} {it : Er} : (encE k it).sm 2 = true := by cases k <;> simp [encE, sq]
theorem sm_sq {k : Bool} {n : Nat} {xs : List D} (h1 : xs.length ≤ 10000) (h2 : ∀ x ∈ xs, x.sm n = true) : (sq k xs).sm (n + 1) = true := by
  cases k
  · exact sm_lst.mpr ⟨h1, h2⟩
  · exact sm_tup.mpr ⟨h1, h2⟩
theorem sm_errs {k j : Bool} {its : List Er} (h : its.length ≤ 10000) : (sq j (its.map (encE k))).sm 3 = true := sm_sq (by rw [List.length_map]; omega) fun x hx => by
  obtain ⟨r, _, rfl⟩ := List.mem_map.mp hx
  exact sm_encE
theorem sm_lot {k : Bool} {s : Int} {its : List Er} (h : its.length ≤ 10000) : (lotD k s its).sm 4 = true := sm_sq (by simp) fun x hx => by
  simp only [List.mem_cons, List.not_mem_nil, or_false] at hx
  rcases hx with rfl | rfl
  · rfl
  · exact sm_errs h
theorem lists_lot {s : Int} {its : List Er} (h : its.length ≤ 10000) : f_law_lists 30 [lotD true s its] = .ok (lotD false s its) [] := by
  have := lists_ok (k := 30) (d := lotD true s its) (sm_lot h) (by omega)
  rwa [li_lot] at this
theorem er_ix0 {p : Int × Int} : dIx (encR p) (.int 0) = .ok (.int p.1) := rfl
theorem er_ix1 {p : Int × Int} : dIx (encR p) (.int 1) = .ok (.int p.2) := rfl
/-! ### all work -/
/-! ### the turns of a law -/
theorem right_turns {n : Nat} {c m : Nat} {b : DS} {fs : List Sl} (hm : c * m ≤ 2 ^ 59) (hm1 : m ≤ 1000) (hf : fs = List.replicate n .no)
    (ht : ∀ (k : Nat) (x : Int) (bx : List D), 0 ≤ x → x < m → Bx (k + c) bx → Wn b (.bor bx :: .val (.int x) :: fs) (fun o e => o = .nx ∧ ∃ by_, e = .bor by_ :: .no :: fs ∧ Bx k by_) NoE) :
    Right (mkF (n + 2) [.bor] (sSeq (sFor (iRng1 (eC (.int m))) (gN 1) b) (sRet (eC (.bl true))))) := by
  intro xs hb
  rw [wf_mkF rfl]
  simp only [startE, wn_seq]
  have e0 : [Sl.bor xs] ++ List.replicate (n + 2 - [Md.bor].length) Sl.no = .bor xs :: .no :: fs := by
    rw [hf]
    show Sl.bor xs :: List.replicate (n + 1) Sl.no = _
    rw [List.replicate_succ]
  rw [e0]
  simp only [wn_sFor, wn_iRng1, wn_c, wi_int]
  refine ⟨by simp; omega, ?_⟩
  refine wn_loop (fun xs e => ∃ by_, e = .bor by_ :: .no :: fs ∧ Bx (c * xs.length) by_ ∧ ∀ y ∈ xs, ∃ i : Int, 0 ≤ i ∧ i < m ∧ y = .int i) (fun y r e hI => ?_) (fun e hI => ?_) ⟨xs, rfl, hb.le (by rw [rng_len]; simpa using hm), fun y hy => by obtain ⟨i, h0, h1, rfl⟩ := rng_mem hy; exact ⟨i, h0, h1, rfl⟩⟩
  · obtain ⟨by_, rfl, h1, h2⟩ := hI
    obtain ⟨i, i0, i1, rfl⟩ := h2 y List.mem_cons_self
    rw [List.length_cons, Nat.mul_succ] at h1
    simp only [wn_gN, x_slS, x_sl0, x_isOwn1, true_and, x_putS, x_put0]
    refine (ht (c * r.length) i by_ i0 i1 h1).imp (fun o e h => ?_) fun _ _ _ z => z.elim
    obtain ⟨rfl, by2, rfl, g1⟩ := h
    exact ⟨by2, rfl, g1, fun z hz => h2 z (List.mem_cons_of_mem _ hz)⟩
  · obtain ⟨by_, rfl, h1, _⟩ := hI
    simp
end AH
namespace AH
/-! ### sums over a list -/
def sg {α : Type} (S : List α) (f : α → Int) : Int := (S.map f).sum
section
variable {α : Type} {S : List α} {f g : α → Int}
@[simp] theorem sg_nil : sg ([] : List α) f = 0 := rfl
@[simp] theorem sg_cons {x : α} : sg (x :: S) f = f x + sg S f := by simp [sg]
theorem sg_add : sg S (fun x => f x + g x) = sg S f + sg S g := by
  induction S with
  | nil => rfl
  | cons x S ih => simp only [sg_cons, ih]; omega
theorem sg_sub : sg S (fun x => f x - g x) = sg S f - sg S g := by
  induction S with
  | nil => rfl
  | cons x S ih => simp only [sg_cons, ih]; omega
theorem sg_le (h : ∀ x ∈ S, f x ≤ g x) : sg S f ≤ sg S g := by
  induction S with
  | nil => exact Int.le_refl _
  | cons x S ih =>
    have h1 := h x List.mem_cons_self
    have h2 := ih fun y hy => h y (List.mem_cons_of_mem _ hy)
    simp only [sg_cons]
    omega
theorem sg_congr (h : ∀ x ∈ S, f x = g x) : sg S f = sg S g :=
  Int.le_antisymm (sg_le fun x hx => Int.le_of_eq (h x hx)) (sg_le fun x hx => Int.le_of_eq (h x hx).symm)
theorem sg_zero : sg S (fun _ => 0) = 0 := by
  induction S with
  | nil => rfl
  | cons x S ih => simp only [sg_cons, ih]; omega
theorem sg_z (h : ∀ x ∈ S, f x = 0) : sg S f = 0 := (sg_congr h).trans sg_zero
end
/-! ### what is due first -/
abbrev Wd := Int × Int
/-- an hour, from what is left ahead of it to what is left behind it -/
structure EStep (S : List Wd) (h : Int) (c : Int) (r r' : Wd → Int) : Prop where
  lo : ∀ w ∈ S, 0 ≤ r' w
  le : ∀ w ∈ S, r' w ≤ r w
  off : ∀ w ∈ S, ¬ (w.1 ≤ h ∧ h ≤ w.2) → r' w = r w
  use : sg S (fun w => r w - r' w) ≤ c
  pri : ∀ w ∈ S, w.1 ≤ h → h ≤ w.2 → 0 < r' w → sg S (fun v => if v.2 ≤ w.2 then r v - r' v else 0) = c
def pre (c : Nat → Int) : Nat → Int
  | 0 => 0
  | n + 1 => pre c n + c n
structure ERun (S : List Wd) (n : Nat) (c : Nat → Int) (R : Nat → Wd → Int) : Prop where
  win : ∀ w ∈ S, 0 ≤ w.1 ∧ w.1 ≤ w.2 ∧ w.2 < n
  nn : ∀ w ∈ S, 0 ≤ R 0 w
  st : ∀ h : Nat, h < n → EStep S h (c h) (R h) (R (h + 1))
def askW (S : List Wd) (r : Wd → Int) (i j : Nat) : Int := sg S fun w => if (i : Int) ≤ w.1 ∧ w.2 < j then r w else 0
def undW (S : List Wd) (r : Wd → Int) (j : Nat) : Int := sg S fun w => if w.2 < (j : Int) then r w else 0
def lackW (S : List Wd) (c : Nat → Int) (r : Wd → Int) (i j : Nat) : Int := askW S r i j - (pre c j - pre c i)
namespace ERun
variable {S : List Wd} {n : Nat} {c : Nat → Int} {R : Nat → Wd → Int}
theorem nn' (E : ERun S n c R) {h : Nat} (hn : h ≤ n) {w : Wd} (hw : w ∈ S) : 0 ≤ R h w := by
  cases h with
  | zero => exact E.nn w hw
  | succ h => exact (E.st h hn).lo w hw
theorem mono (E : ERun S n c R) {h : Nat} {w : Wd} (hw : w ∈ S) : ∀ {k : Nat}, h ≤ k → k ≤ n → R k w ≤ R h w := by
  intro k
  induction k with
  | zero => intro h1 _; rw [Nat.le_zero.mp h1]; exact Int.le_refl _
  | succ k ih =>
    intro h1 h2
    by_cases e : h = k + 1
    · rw [e]; exact Int.le_refl _
    · have := ih (by omega) (by omega)
      have := (E.st k h2).le w hw
      omega
theorem early (E : ERun S n c R) {w : Wd} (hw : w ∈ S) : ∀ {h : Nat}, (h : Int) ≤ w.1 → h ≤ n → R h w = R 0 w := by
  intro h
  induction h with
  | zero => intro _ _; rfl
  | succ h ih =>
    intro h1 h2
    rw [(E.st h h2).off w hw (by omega), ih (by omega) (by omega)]
theorem late (E : ERun S n c R) {w : Wd} (hw : w ∈ S) {h : Nat} (hl : w.2 < h) : ∀ {k : Nat}, h ≤ k → k ≤ n → R k w = R h w := by
  intro k
  induction k with
  | zero => intro h1 _; rw [Nat.le_zero.mp h1]
  | succ k ih =>
    intro h1 h2
    by_cases e : h = k + 1
    · rw [e]
    · rw [(E.st k h2).off w hw (by omega), ih (by omega) (by omega)]
/-- what is left within a stretch -/
theorem least (E : ERun S n c R) {i j : Nat} (hij : i ≤ j) (hj : j ≤ n) : lackW S c (R 0) i j ≤ askW S (R n) i j := by
  have key : ∀ k, i ≤ k → k ≤ j → sg S (fun w => if (i : Int) ≤ w.1 ∧ w.2 < j then R i w - R k w else 0) ≤ pre c k - pre c i := by
    intro k
    induction k with
    | zero =>
      intro h1 _
      have e : i = 0 := by omega
      subst e
      rw [sg_z fun w _ => by split <;> omega]
      omega
    | succ k ih =>
      intro h1 h2
      by_cases e : i = k + 1
      · subst e
        rw [sg_z fun w _ => by split <;> omega]
        omega
      · have h3 := ih (by omega) (by omega)
        have st := E.st k (by omega)
        have h4 : sg S (fun w => if (i : Int) ≤ w.1 ∧ w.2 < j then R i w - R (k + 1) w else 0) ≤ sg S (fun w => (if (i : Int) ≤ w.1 ∧ w.2 < j then R i w - R k w else 0) + (R k w - R (k + 1) w)) := sg_le fun w hw => by
          have := st.le w hw
          split <;> omega
        rw [sg_add] at h4
        have := st.use
        show _ ≤ pre c k + c k - pre c i
        omega
  have h1 := key j hij (Nat.le_refl _)
  have h2 : sg S (fun w => if (i : Int) ≤ w.1 ∧ w.2 < j then R i w - R j w else 0) = askW S (R 0) i j - askW S (R n) i j := by
    unfold askW
    rw [← sg_sub]
    refine sg_congr fun w hw => ?_
    split
    · rename_i z
      rw [E.early hw z.1 (by omega), E.late hw z.2 hj (Nat.le_refl _)]
    · omega
  unfold lackW
  omega
/-- where something is left at an hour, a stretch that lacks just as much ends with it -/
theorem most (E : ERun S n c R) {j : Nat} (hj : j < n) : undW S (R n) (j + 1) = undW S (R n) j ∨ ∃ i, i ≤ j ∧ undW S (R n) (j + 1) = undW S (R n) i + lackW S c (R 0) i (j + 1) := by
  by_cases hw : ∃ w ∈ S, w.2 = j ∧ 0 < R n w
  · obtain ⟨w0, hw0, e0, p0⟩ := hw
    have wb := E.win w0 hw0
    let Full : Nat → Prop := fun h => sg S (fun v => if v.2 < (j : Int) + 1 then R h v - R (h + 1) v else 0) = c h
    have full : ∀ h : Nat, w0.1.toNat ≤ h → h ≤ j → Full h := fun h h1 h2 => by
      have m := E.mono hw0 (h := h + 1) (k := n) (by omega) (Nat.le_refl _)
      have p := (E.st h (by omega)).pri w0 hw0 (by omega) (by omega) (by omega)
      rw [e0] at p
      show sg S _ = c h
      rw [← p]
      exact sg_congr fun v _ => by
        by_cases z : v.2 ≤ (j : Int)
        · rw [if_pos z, if_pos (by omega)]
        · rw [if_neg z, if_neg (by omega)]
    have down : ∀ e : Nat, (∀ h, e ≤ h → h ≤ j → Full h) → ∃ i, i ≤ e ∧ (∀ h, i ≤ h → h ≤ j → Full h) ∧ (i = 0 ∨ ¬ Full (i - 1)) := by
      intro e
      induction e with
      | zero => intro f; exact ⟨0, Nat.le_refl _, f, .inl rfl⟩
      | succ e ih =>
        intro f
        by_cases z : Full e
        · obtain ⟨i, h1, h2⟩ := ih fun h h1 h2 => by
            by_cases q : h = e
            · rw [q]; exact z
            · exact f h (by omega) h2
          exact ⟨i, by omega, h2⟩
        · exact ⟨e + 1, Nat.le_refl _, f, .inr z⟩
    obtain ⟨i, hie, hf, hmin⟩ := down w0.1.toNat full
    have hij : i ≤ j := by omega
    have zero : ∀ v ∈ S, v.1 < i → (i : Int) ≤ v.2 → v.2 < (j : Int) + 1 → R i v = 0 := by
      intro v hv h1 h2 h3
      have vb := E.win v hv
      obtain ⟨k, rfl⟩ : ∃ k, i = k + 1 := ⟨i - 1, by omega⟩
      have nf := hmin.resolve_left (by omega)
      have nn := E.nn' (h := k + 1) (by omega) hv
      refine Int.le_antisymm (Int.not_lt.mp fun pos => nf ?_) nn
      have st := E.st k (by omega)
      have p := st.pri v hv (by omega) (by omega) pos
      have u := st.use
      have g1 : sg S (fun u => if u.2 ≤ v.2 then R k u - R (k + 1) u else 0) ≤ sg S (fun u => if u.2 < (j : Int) + 1 then R k u - R (k + 1) u else 0) := sg_le fun u hu => by
        have := st.le u hu
        split <;> split <;> omega
      have g2 : sg S (fun u => if u.2 < (j : Int) + 1 then R k u - R (k + 1) u else 0) ≤ sg S (fun u => R k u - R (k + 1) u) := sg_le fun u hu => by
        have := st.le u hu
        split <;> omega
      show sg S _ = c (k + 1 - 1)
      show sg S (fun u => if u.2 < (j : Int) + 1 then R k u - R (k + 1) u else 0) = c k
      omega
    have zero' : ∀ v ∈ S, v.1 < i → (i : Int) ≤ v.2 → v.2 < (j : Int) + 1 → ∀ h, i ≤ h → h ≤ n → R h v = 0 := fun v hv h1 h2 h3 h h4 h5 => by
      have z := zero v hv h1 h2 h3
      have := E.mono hv h4 h5
      have := E.nn' h5 hv
      omega
    have hour : ∀ h, i ≤ h → h ≤ j → c h = sg S (fun v => if (i : Int) ≤ v.1 ∧ v.2 < (j : Int) + 1 then R h v - R (h + 1) v else 0) := by
      intro h h1 h2
      rw [← hf h h1 h2]
      refine sg_congr fun v hv => ?_
      have vb := E.win v hv
      by_cases z : v.2 < (j : Int) + 1
      · rw [if_pos z]
        by_cases y : (i : Int) ≤ v.1
        · rw [if_pos ⟨y, z⟩]
        · rw [if_neg fun q => y q.1]
          by_cases x : (i : Int) ≤ v.2
          · rw [zero' v hv (by omega) x z h h1 (by omega), zero' v hv (by omega) x z (h + 1) (by omega) (by omega)]
            omega
          · rw [(E.st h (by omega)).off v hv (by omega)]
            omega
      · rw [if_neg z, if_neg fun q => z q.2]
    have tele : ∀ k, i ≤ k → k ≤ j + 1 → pre c k - pre c i = sg S (fun v => if (i : Int) ≤ v.1 ∧ v.2 < (j : Int) + 1 then R i v - R k v else 0) := by
      intro k
      induction k with
      | zero =>
        intro h1 _
        have e : i = 0 := by omega
        subst e
        rw [sg_z fun w _ => by split <;> omega]
        omega
      | succ k ih =>
        intro h1 h2
        by_cases e : i = k + 1
        · subst e
          rw [sg_z fun w _ => by split <;> omega]
          omega
        · have h3 := ih (by omega) (by omega)
          have h4 := hour k (by omega) (by omega)
          show pre c k + c k - pre c i = _
          have h5 : sg S (fun v => if (i : Int) ≤ v.1 ∧ v.2 < (j : Int) + 1 then R i v - R (k + 1) v else 0) = sg S (fun v => (if (i : Int) ≤ v.1 ∧ v.2 < (j : Int) + 1 then R i v - R k v else 0) + (if (i : Int) ≤ v.1 ∧ v.2 < (j : Int) + 1 then R k v - R (k + 1) v else 0)) := sg_congr fun v _ => by split <;> omega
          rw [sg_add] at h5
          omega
    refine .inr ⟨i, hij, ?_⟩
    have t := tele (j + 1) (by omega) (Nat.le_refl _)
    have h6 : undW S (R n) (j + 1) = undW S (R n) i + askW S (R n) i (j + 1) := by
      unfold undW askW
      rw [← sg_add]
      refine sg_congr fun v hv => ?_
      have vb := E.win v hv
      push_cast
      by_cases z : v.2 < (j : Int) + 1
      · rw [if_pos z]
        by_cases x : v.2 < (i : Int)
        · rw [if_pos x, if_neg (by omega)]
          omega
        · rw [if_neg x]
          by_cases y : (i : Int) ≤ v.1
          · rw [if_pos ⟨y, z⟩]
            omega
          · rw [if_neg fun q => y q.1, zero' v hv (by omega) (by omega) z n (by omega) (Nat.le_refl _)]
            omega
      · rw [if_neg z, if_neg (by omega), if_neg fun q => z q.2]
        omega
    have h7 : sg S (fun v => if (i : Int) ≤ v.1 ∧ v.2 < (j : Int) + 1 then R i v - R (j + 1) v else 0) = askW S (R 0) i (j + 1) - askW S (R n) i (j + 1) := by
      unfold askW
      rw [← sg_sub]
      refine sg_congr fun v hv => ?_
      push_cast
      split
      · rename_i z
        rw [E.early hv z.1 (by omega), E.late hv (h := j + 1) (by omega) (k := n) (by omega) (Nat.le_refl _)]
      · omega
    unfold lackW
    omega
  · refine .inl (sg_congr fun v hv => ?_)
    have nn := E.nn' (h := n) (Nat.le_refl _) hv
    push_cast
    by_cases z : v.2 < (j : Int)
    · rw [if_pos z, if_pos (by omega)]
    · rw [if_neg z]
      by_cases y : v.2 < (j : Int) + 1
      · rw [if_pos y]
        refine Int.le_antisymm (Int.not_lt.mp fun pos => hw ⟨v, hv, by omega, pos⟩) nn
      · rw [if_neg y]
end ERun
end AH
namespace AH
open PySem L2
variable [TheK]
/-! ### dicts that grow -/
structure Grow (M : List Er) (W : List (Int × Int)) (f : Int × Int → Int) : Prop where
  nd : W.Nodup
  mem : ∀ p, p ∈ W ↔ p ∈ M.map (·.1)
  val : ∀ p ∈ W, f p = wkI M p
  len : W.length ≤ M.length
theorem Grow.nil : Grow [] [] fun _ => 0 := ⟨List.nodup_nil, by simp, by simp, Nat.le_refl _⟩
theorem Grow.add {M : List Er} {W : List (Int × Int)} {f : Int × Int → Int} (G : Grow M W f) (y : Er) : ∃ W' f', dput (tabD W f) (keyR y.1) (.int ((if y.1 ∈ W then f y.1 else 0) + y.2)) = tabD W' f' ∧ Grow (M ++ [y]) W' f' := by
  by_cases hw : y.1 ∈ W
  · refine ⟨W, _, by rw [if_pos hw]; exact dput_in hw, G.nd, fun p => ?_, fun p hp => ?_, by have := G.len; simp; omega⟩
    · rw [G.mem p, List.map_append, List.mem_append]
      refine ⟨.inl, fun z => z.elim id fun z => ?_⟩
      have : p = y.1 := by simpa using z
      rw [this]; exact (G.mem _).mp hw
    · rw [wkI_app, wkI_cons, wkI_nil]
      by_cases hpy : p = y.1
      · subst hpy; simp [G.val _ hp]
      · have hpy' : y.1 ≠ p := fun z => hpy z.symm
        simp [hpy, hpy', G.val p hp]
  · refine ⟨W ++ [y.1], _, by rw [if_neg hw]; exact dput_out hw, ?_, fun p => ?_, fun p hp => ?_, by have := G.len; simp; omega⟩
    · rw [List.nodup_append]
      exact ⟨G.nd, by simp, fun a ha b hb => by rw [List.mem_singleton.mp hb]; exact fun z => hw (z ▸ ha)⟩
    · rw [List.mem_append, G.mem p, List.map_append, List.mem_append]
      simp
    · rw [wkI_app, wkI_cons, wkI_nil]
      by_cases hpy : p = y.1
      · subst hpy
        have : wkI M y.1 = 0 := wkI_out fun z => hw ((G.mem _).mpr z)
        simp [this]
      · have hpW : p ∈ W := by
          rcases List.mem_append.mp hp with z | z
          · exact z
          · exact absurd (List.mem_singleton.mp z) hpy
        have hpy' : y.1 ≠ p := fun z => hpy z.symm
        simp [hpy, hpy', G.val p hpW]
theorem Grow.set {M : List Er} {W : List (Int × Int)} {f : Int × Int → Int} (G : Grow M W f) (y : Er) (hy : y.1 ∉ M.map (·.1)) : ∃ W' f', dput (tabD W f) (keyR y.1) (.int y.2) = tabD W' f' ∧ Grow (M ++ [y]) W' f' := by
  obtain ⟨W', f', h1, h2⟩ := G.add y
  rw [if_neg (fun z => hy ((G.mem _).mp z)), Int.zero_add] at h1
  exact ⟨W', f', h1, h2⟩
/-! ### hours counted otherwise -/
end AH
namespace AH
open PySem L2
variable [TheK]
/-! ### two lots of as many hours -/
theorem same_in {k j : Bool} {s : Int} {its its' : List Er} : f_check_same [lotD k s its, lotD j s its'] = .ok .non [] := by
  refine WF.eq ?_
  rw [f_check_same, wf_mkF rfl]
  simp [startE, m_check_same]
end AH
namespace AH
open PySem L2
variable [TheK]
/-! ### what stretches ask more -/
/-! ### the least, the greatest -/
theorem least_iff {c : Int} : ∀ {L : List Int}, L ≠ [] → (c ≤ leastOf L ↔ ∀ x ∈ L, c ≤ x)
  | [], h => absurd rfl h
  | [x], _ => by simp [leastOf]
  | x :: y :: r, _ => by
    have ih := least_iff (c := c) (L := y :: r) (by simp)
    have e : leastOf (x :: y :: r) = if leastOf (y :: r) < x then leastOf (y :: r) else x := rfl
    rw [e, List.forall_mem_cons, ← ih]
    split <;> omega
theorem dMinL_map {α : Type} {f : α → Int} {L : List α} (h : L ≠ []) : dMinL (.lst (L.map fun x => .int (f x))) = .ok (.int (leastOf (L.map f))) := by
  unfold dMinL
  simp only [intsL_map]
  cases L with
  | nil => exact absurd rfl h
  | cons x L => rfl
theorem spansL_ne {s : Int} (h : 1 ≤ s) : spansL s ≠ [] := fun z => by
  have : ((0 : Int), (0 : Int)) ∈ spansL s := mem_spansL.mpr ⟨by simp, by simp, by simp; omega⟩
  rw [z] at this
  cases this
end AH
namespace AH
open PySem L2
variable [TheK]
/-! ### drawn moves of a lot -/
theorem fit_lot {s : Int} (f : Int × Int → Int) : ∃ t, Lot s t (canon s f) := by
  have : ∀ L : List (Int × Int), ∃ t : Int, ∀ p ∈ L, f p ≤ t := by
    intro L
    induction L with
    | nil => exact ⟨0, by simp⟩
    | cons p L ih =>
      obtain ⟨t, ht⟩ := ih
      refine ⟨max t (f p), fun q hq => ?_⟩
      rcases List.mem_cons.mp hq with rfl | hq
      · omega
      · have := ht q hq
        omega
  obtain ⟨t, ht⟩ := this (spansL s)
  exact ⟨t, canon_is ht⟩
abbrev mvE (bx : List D) (s m : Int) (its : List Er) (f : Int × Int → Int) (r : List Sl) : Env := .bor bx :: .val (lotD true s its) :: .val (.int m) :: .odc (tabD (spansL s) f) :: .val (.int (s - 1)) :: r
theorem dput_sp {s : Int} {f : Int × Int → Int} {q : Int × Int} {v : Int} (h : q ∈ spansL s) : ∃ g, dput (tabD (spansL s) f) (keyR q) (.int v) = tabD (spansL s) g := ⟨_, dput_in h⟩
theorem some_ok {bx : List D} {s m : Int} {its : List Er} {f : Int × Int → Int} {x : Sl} (hs : (spansL s).length ≤ 1000) : c_law_moved_1 (mvE bx s m its f [x, .no, .no, .no, .no, .no, .no, .no, .no]) = .ok (.lst (((spansL s).filter fun p => decide (0 < f p)).map encR)) (mvE bx s m its f [x, .no, .no, .no, .no, .no, .no, .no, .no]) := by
  have so := dSortK_tab (f := f) (List.Perm.refl (spansL s)) spansL_sorted
  unfold c_law_moved_1
  refine lc_filter (T := Int × Int) (L := spansL s) (enc := encR) (fun p => decide (0 < f p)) encR (Wn.eq (by simp [so])) rfl (by omega) fun y hy => ?_
  have ix := dIx_tab (f := f) hy
  simp [wipeE, ix]
theorem dEq_nilL' {L : List (Int × Int)} (h : L.length ≤ 1000) : dEq (.lst (L.map encR)) (.lst []) = .ok L.isEmpty := by
  have := dEq_nilL (xs := L.map encR) (n := 2) (sm_lst.mpr ⟨by rw [List.length_map]; omega, fun x hx => by
    obtain ⟨p, _, rfl⟩ := List.mem_map.mp hx
    simp [encR]⟩) (by omega)
  rwa [List.isEmpty_map] at this
theorem wn_ofw {n : Nat} {xs : List D} {L : List (Int × Int)} {a : DE} {e : Env} {Q : D → Env → Prop} {E : Str → List D → Env → Prop} (ha : a (.bor xs :: e) = .ok (.lst (L.map encR)) (.bor xs :: e)) (hb : Bx (n + 1) xs) (h1 : L ≠ []) (h2 : L.length ≤ 1000) (q : ∀ p ys, p ∈ L → Bx n ys → Q (encR p) (.bor ys :: e)) : Wn (eCall f_law_of [.lend 0, .e a]) (.bor xs :: e) Q E := by
  refine wn_of2 ha hb (by rw [List.length_map]; exact List.length_pos_iff.mpr h1) (by rw [List.length_map]; omega) fun d ys hd hy => ?_
  obtain ⟨p, hp, rfl⟩ := List.mem_map.mp hd
  exact q p ys hp hy
@[simp] theorem dMax2_int {i j : Int} : dMax2 (.int i) (.int j) = .ok (.int (if j > i then j else i)) := nr rfl
@[simp] theorem dMin2_int {i j : Int} : dMin2 (.int i) (.int j) = .ok (.int (if j < i then j else i)) := nr rfl
theorem dNe_encR {p q : Int × Int} : dNe (encR p) (encR q) = .ok (!decide (p = q)) := by
  unfold dNe
  rw [eqv_encR]
  rfl
theorem lap_mv {bx : List D} {s m : Int} {its : List Er} {x6 x7 x10 x11 x12 : Sl} {x5 : Sl} {x9 : Int × Int} {L : List ((Int × Int) × Int)} {f : Int × Int → Int} (hs : (spansL s).length ≤ 1000) (hL : ∀ y ∈ L, y.1 ∈ spansL s) : ∃ g, loop (gT (gsCons (gN 8) (gsCons (gN 13) gsNil))) b_law_moved_1 (L.map fun y => D.tup [encR y.1, .int y.2]) (mvE bx s m its f [x5, x6, x7, .no, .val (encR x9), x10, x11, x12, .no]) = .ok .nx (mvE bx s m its g [x5, x6, x7, .no, .val (encR x9), x10, x11, x12, .no]) := by
  induction L generalizing f with
  | nil => exact ⟨f, rfl⟩
  | cons y L ih =>
    have hy := hL y List.mem_cons_self
    obtain ⟨g, hg⟩ := dput_sp (f := f) (v := f y.1 + y.2) hy
    obtain ⟨g', h'⟩ := ih (f := g) fun z hz => hL z (List.mem_cons_of_mem _ hz)
    refine ⟨g', ?_⟩
    rw [List.map_cons, loop_cons (e' := mvE bx s m its g [x5, x6, x7, .no, .val (encR x9), x10, x11, x12, .no])]
    · exact h'
    · have ix := dIx_tab (f := f) hy
      unfold b_law_moved_1
      simp [wn_sFg, ix, tabD_len, hg]
      omega
def MvP (n : Nat) (s m : Int) (its : List Er) (o : Out) (e : Env) : Prop := o = .nx ∧ ∃ by_ g, fgO [5, 6, 7, 8, 9, 10, 11, 12, 13] o e = mvE by_ s m its g [.no, .no, .no, .no, .no, .no, .no, .no, .no] ∧ Bx n by_
theorem MvP.of {n : Nat} {s m : Int} {its : List Er} {e : Env} {by_ : List D} {g : Int × Int → Int} (h : fgO [5, 6, 7, 8, 9, 10, 11, 12, 13] .nx e = mvE by_ s m its g [.no, .no, .no, .no, .no, .no, .no, .no, .no]) (hb : Bx n by_) : MvP n s m its .nx e := ⟨rfl, by_, g, h, hb⟩
theorem turn_mv {n : Nat} {bx : List D} {s m x : Int} {its : List Er} {f : Int × Int → Int} (hs1 : 1 ≤ s) (hs : s ≤ 8) (hb : Bx (n + 4) bx) :
    Wn b_law_moved_2 (mvE bx s m its f [.val (.int x), .no, .no, .no, .no, .no, .no, .no, .no]) (fun o e => o = .nx ∧ ∃ by_ g, e = mvE by_ s m its g [.no, .no, .no, .no, .no, .no, .no, .no, .no] ∧ Bx n by_) NoE := by
  have s36 := spans8 (s := s) (by omega) hs
  have sp := spans_ok (s := s) (by omega) (by omega)
  unfold b_law_moved_2
  rw [wn_sFg]
  show Wn _ _ (MvP n s m its) NoE
  rw [wn_seq]
  have so := some_ok (bx := bx) (s := s) (m := m) (its := its) (f := f) (x := .val (.int x)) (by omega)
  simp only [wn_sAsgN, wn_eq so, x_slS, x_sl0, x_isFix1, true_and, x_putS, x_put0, wo_nx]
  obtain ⟨S, hS⟩ : ∃ S, (spansL s).filter (fun p => decide (0 < f p)) = S := ⟨_, rfl⟩
  rw [hS]
  have hSl : S.length ≤ 36 := by rw [← hS]; exact Nat.le_trans (List.length_filter_le _ _) s36
  have hSm : ∀ p ∈ S, p ∈ spansL s := fun p hp => by rw [← hS] at hp; exact (List.mem_filter.mp hp).1
  rw [wn_seq]
  simp only [wn_sAsgN]
  refine wn_take (n := n + 3) (b := 5) rfl hb (by omega) (by omega) fun v b1 v0 v1 hb1 => ?_
  simp only [x_slS, x_sl0, x_isFix1, true_and, x_putS, x_put0, wo_nx, wn_sIf, wn_tOr, wn_c2, wn_var, ws_val, wn_eLst, wn_aNil, List.length_nil, lenOk_iff, Nat.zero_le, dEq_nilL' (show S.length ≤ 1000 by omega), wr_ok, wn_c, dEq_int]
  by_cases hz : S.isEmpty = true ∨ v = 0
  · have hc : (if S.isEmpty = true then True else v = 0) := by rcases hz with hz | hz <;> simp [hz]
    have first : Wn (sSeq (sAsgN 8 (eCall f_law_of [.lend 0, .e (eCall f_law_spans [.e (e2 dIx (eVar 1) (eC (.int 0)))])])) (sSetD 3 (eVar 8) (e2 dAdd (e2 dAdd (e2L dIx 3 (eVar 8)) (eC (.int 1))) (eCall f_law_take [.lend 0, .e (eC (.int 2))])))) (mvE b1 s m its f [.val (.int x), .val (.lst (S.map encR)), .val (.int v), .no, .no, .no, .no, .no, .no]) (MvP n s m its) NoE := by
      rw [wn_seq]
      simp only [wn_sAsgN]
      refine wn_ofw (n := n + 2) (L := spansL s) (Wn.eq (by simp [sp])) hb1 (spansL_ne hs1) (by omega) fun p b2 hp hb2 => ?_
      have ix := dIx_tab (f := f) hp
      simp only [x_slS, x_sl0, x_isFix1, true_and, x_putS, x_put0, wo_nx, wn_sSetD, wn_e2, wn_e2L, wt_odc, wn_var, ws_val, ix, wr_ok, wn_c, dAdd_int]
      refine wn_take (n := n + 1) (b := 2) rfl hb2 (by omega) (by omega) fun u b3 u0 u1 hb3 => ?_
      obtain ⟨g, hg⟩ := dput_sp (f := f) (v := f p + 1 + u) hp
      simp [hg, tabD_len]
      exact ⟨by omega, MvP.of (g := g) (by simp) (hb3.le (by omega))⟩
    rcases hz with hz | hz
    · simp only [hz, if_true]
      exact first
    · subst hz
      cases hE : S.isEmpty with
      | true => simp only [if_true]; exact first
      | false => simp only [Bool.false_eq_true, if_false, beq_self_eq_true, if_true]; exact first
  · have hne : S.isEmpty = false := by
      cases hE : S.isEmpty with
      | true => exact absurd (.inl hE) hz
      | false => rfl
    have hSn : S ≠ [] := fun z => by rw [z] at hne; cases hne
    have hv : v ≠ 0 := fun z => hz (.inr z)
    simp only [hne, Bool.false_eq_true, if_false, show (v == 0) = false by simpa using hv, wn_sIf, wn_c2, wn_var, x_slS, x_sl0, ws_val, wn_c, dEq_int, wr_ok]
    by_cases h1 : v = 1
    · subst h1
      simp only [beq_self_eq_true, if_true]
      rw [wn_seq]
      simp only [wn_sAsgN]
      refine wn_ofw (n := n + 2) (L := S) (Wn.eq (by simp)) hb1 hSn (by omega) fun p b2 hp hb2 => ?_
      have ix := dIx_tab (f := f) (hSm p hp)
      obtain ⟨g, hg⟩ := dput_sp (f := f) (v := f p - 1) (hSm p hp)
      simp [ix, hg, tabD_len]
      exact ⟨by omega, MvP.of (g := g) (by simp) (hb2.le (by omega))⟩
    · simp only [show (v == 1) = false by simpa using h1, Bool.false_eq_true, if_false]
      by_cases h2 : v = 2
      · subst h2
        simp only [beq_self_eq_true, if_true]
        rw [wn_seq]
        simp only [wn_sAsgN]
        refine wn_ofw (n := n + 2) (L := S) (Wn.eq (by simp)) hb1 hSn (by omega) fun p b2 hp hb2 => ?_
        have hpS := hSm p hp
        obtain ⟨p0, p1, p2⟩ := mem_spansL.mp hpS
        simp only [x_slS, x_sl0, x_isFix1, true_and, x_putS, x_put0, wo_nx]
        rw [wn_seq]
        simp only [wn_sAsgN, wn_eTup, wn_aCons, wn_e2, wn_c, wn_var, x_slS, x_sl0, ws_val, er_ix0, er_ix1, wr_ok]
        refine wn_take (n := n + 1) (b := 2) rfl hb2 (by omega) (by omega) fun u b3 u0 u1 hb3 => ?_
        simp only [dSub_int, wr_ok, dMax2_int, x_slS, x_sl0, ws_val, er_ix0, er_ix1, wn_aCons, wn_e2, wn_var]
        refine wn_take (n := n) (b := 2) rfl hb3 (by omega) (by omega) fun w b4 w0 w1 hb4 => ?_
        obtain ⟨x1, hx1, g1⟩ : ∃ x1, (if p.1 - u > 0 then p.1 - u else 0) = x1 ∧ 0 ≤ x1 ∧ x1 ≤ p.1 := ⟨_, rfl, by split <;> omega⟩
        obtain ⟨x2, hx2, g2⟩ : ∃ x2, (if p.2 + w < s - 1 then p.2 + w else s - 1) = x2 ∧ p.2 ≤ x2 ∧ x2 < s := ⟨_, rfl, by split <;> omega⟩
        have hqm : (x1, x2) ∈ spansL s := mem_spansL.mpr ⟨by simp; omega, by simp; omega, by simp; omega⟩
        have hq : D.tup [.int x1, .int x2] = encR (x1, x2) := rfl
        generalize (x1, x2) = q at hq hqm
        simp only [dAdd_int, wr_ok, dMin2_int, wn_aNil, List.length_cons, List.length_nil, lenOk_iff, hx1, hx2, hq, x_slS, x_sl0, x_isFix1, true_and, x_putS, x_put0, wo_nx]
        refine ⟨by decide, ?_⟩
        have ix := dIx_tab (f := f) hpS
        obtain ⟨g, hg⟩ := dput_sp (f := f) (v := f p - 1) hpS
        obtain ⟨g2, hg2⟩ := dput_sp (f := g) (v := g q + 1) hqm
        have ix2 := dIx_tab (f := g) hqm
        rw [wn_seq]
        simp [ix, hg, ix2, hg2, tabD_len]
        exact ⟨by omega, MvP.of (g := g2) (by simp) hb4⟩
      · simp only [show (v == 2) = false by simpa using h2, Bool.false_eq_true, if_false]
        rw [wn_seq]
        simp only [wn_par_vv]
        refine wn_ofw (n := n + 2) (L := S) (Wn.eq (by simp)) hb1 hSn (by omega) fun p b2 hp hb2 => ?_
        refine wn_ofw (n := n + 1) (L := S) (Wn.eq (by simp)) hb2 hSn (by omega) fun q b3 hq hb3 => ?_
        obtain ⟨p0, p1, p2⟩ := mem_spansL.mp (hSm p hp)
        obtain ⟨q0, q1, q2⟩ := mem_spansL.mp (hSm q hq)
        simp only [x_slS, x_sl0, x_isFix1, true_and, x_putS, x_put0, wo_nx, wn_sIf, wn_tAnd, wn_c2, wn_var, ws_val, dNe_encR, wr_ok, wn_e2, wn_c, er_ix0, er_ix1, dLe_int]
        by_cases ov : p ≠ q ∧ p.1 ≤ q.2 ∧ q.1 ≤ p.2
        · obtain ⟨o1, o2, o3⟩ := ov
          simp only [o1, o2, o3, decide_true, decide_false, Bool.not_false, if_true]
          rw [wn_seq]
          have m1 : (p.1, q.2) ∈ spansL s := mem_spansL.mpr ⟨by simp; omega, by simp; omega, by simp; omega⟩
          have m2 : (q.1, p.2) ∈ spansL s := mem_spansL.mpr ⟨by simp; omega, by simp; omega, by simp; omega⟩
          obtain ⟨g, hg⟩ := lap_mv (bx := b3) (s := s) (m := m) (its := its) (x5 := .val (.int x)) (x6 := .val (.lst (S.map encR))) (x7 := .val (.int v)) (x10 := .val (encR p)) (x11 := .val (encR q)) (x12 := .val (encR (p.1, q.2))) (x9 := (q.1, p.2)) (L := [(p, -1), (q, -1), ((p.1, q.2), 1), ((q.1, p.2), 1)]) (f := f) (by omega) (by
            intro y hy
            simp only [List.mem_cons, List.not_mem_nil, or_false] at hy
            rcases hy with rfl | rfl | rfl | rfl
            · exact hSm _ hp
            · exact hSm _ hq
            · exact m1
            · exact m2)
          simp only [List.map_cons, List.map_nil] at hg
          have ee : ∀ a b : Int, D.tup [.int a, .int b] = encR (a, b) := fun _ _ => rfl
          simp only [wn_par_vv, wn_eTup, wn_aCons, wn_e2, wn_var, x_slS, x_sl0, ws_val, wn_c, er_ix0, er_ix1, wr_ok, wn_aNil, List.length_cons, List.length_nil, lenOk_iff, x_isFix1, true_and, x_putS, x_put0, wo_nx, ee, l_law_moved_1, wn_sFor, wn_iSeq, wn_e1, dNeg_int, wl_tup]
          refine ⟨by decide, by decide, by decide, by decide, by decide, by decide, by decide, ?_⟩
          rw [wn_eq hg]
          exact MvP.of (g := g) (by simp) (hb3.le (by omega))
        · have done : MvP n s m its .nx (mvE b3 s m its f [.val (.int x), .val (.lst (S.map encR)), .val (.int v), .no, .no, .val (encR p), .val (encR q), .no, .no]) := MvP.of (g := f) (by simp) (hb3.le (by omega))
          by_cases o1 : p = q
          · subst o1
            simp only [decide_true, Bool.not_true, Bool.false_eq_true, if_false, wn_sNil]
            exact done
          · by_cases o2 : p.1 ≤ q.2
            · have o3 : ¬ q.1 ≤ p.2 := fun z => ov ⟨o1, o2, z⟩
              simp only [o1, o2, o3, decide_true, decide_false, Bool.not_false, Bool.false_eq_true, if_true, if_false, wn_sNil]
              exact done
            · simp only [o1, o2, decide_true, decide_false, Bool.not_false, Bool.false_eq_true, if_true, if_false, wn_sNil]
              exact done
theorem moved_ok {n m : Nat} {s t : Int} {xs : List D} {its : List Er} {Q : D → List (List D) → Prop} {E : Str → List D → List (List D) → Prop} (hs1 : 1 ≤ s) (hs : s ≤ 8) (hL : Lot s t its) (hm : m ≤ 1000) (hb : Bx (n + 4 * m) xs) (q : ∀ its' t' ys, Lot s t' its' → Bx n ys → Q (lotD true s its') [ys]) : WF (f_law_moved [.lst xs, lotD true s its, .int m]) Q E := by
  have tb := table_law hL (by omega) (by omega)
  have s36 := spans8 (s := s) (by omega) hs
  rw [f_law_moved, wf_mkF rfl]
  simp only [startE, m_law_moved, wn_seq]
  simp [tb, l_law_moved_2]
  refine ⟨by omega, ?_⟩
  refine wn_loop (fun r e => ∃ by_ g, e = mvE by_ s m its g [.no, .no, .no, .no, .no, .no, .no, .no, .no] ∧ Bx (n + 4 * r.length) by_ ∧ ∀ y ∈ r, ∃ i : Int, y = .int i) (fun y r e hI => ?_) (fun e hI => ?_) ⟨xs, _, rfl, hb.le (by rw [rng_len]; simp), fun y hy => by obtain ⟨i, _, _, rfl⟩ := rng_mem hy; exact ⟨i, rfl⟩⟩
  · obtain ⟨by_, g, rfl, h1, h2⟩ := hI
    obtain ⟨i, rfl⟩ := h2 y List.mem_cons_self
    rw [List.length_cons] at h1
    simp only [wn_gN, x_slS, x_sl0, x_isOwn1, true_and, x_putS, x_put0]
    refine (turn_mv (n := n + 4 * r.length) hs1 hs (h1.le (by omega))).imp (fun o e h => ?_) fun _ _ _ z => z.elim
    obtain ⟨rfl, by2, g2, rfl, h3⟩ := h
    exact ⟨by2, g2, rfl, h3, fun z hz => h2 z (List.mem_cons_of_mem _ hz)⟩
  · obtain ⟨by_, g, rfl, h1, _⟩ := hI
    obtain ⟨t', ht⟩ := fit_lot (s := s) g
    have mk := law_made_ok (s := s) (L := spansL s) (f := g) (List.Perm.refl _) (by omega)
    have c : eCall f_law_made [.e (e2 dIx (eVar 1) (eC (.int 0))), .look 3] (mvE by_ s m its g [.no, .no, .no, .no, .no, .no, .no, .no, .no]) = .ok (lotD true s (canon s g)) (mvE by_ s m its g [.no, .no, .no, .no, .no, .no, .no, .no, .no]) :=
      call_ok (args_e (x := .int s) (e1 := mvE by_ s m its g [.no, .no, .no, .no, .no, .no, .no, .no, .no]) (Wn.eq (by simp)) (args_look (x := .dic (tabD (spansL s) g)) rfl rfl)) rfl rfl mk rfl
    simp [wn_eq c]
    exact q _ _ by_ ht (h1.le (by simp))
end AH
namespace AH
open PySem L2
variable [TheK]
/-! ### an hour: what is due first -/
abbrev GS := Int × (Wd → Int) × Int
structure FillOk (S L : List Wd) (m : Int) (r : Wd → Int) (d : Int) (s : GS) : Prop where
  lo : ∀ w ∈ S, 0 ≤ s.2.1 w
  le : ∀ w ∈ S, s.2.1 w ≤ r w
  off : ∀ w, w ∉ L → s.2.1 w = r w
  rest : 0 ≤ s.1
  sum : sg S (fun w => r w - s.2.1 w) = m - s.1
  don : s.2.2 - d = m - s.1
  pri : ∀ w ∈ L, 0 < s.2.1 w → s.1 = 0 ∧ sg S (fun v => if v.2 ≤ w.2 then r v - s.2.1 v else 0) = m
/-! the hour's windows, what is due first ahead -/
/-! hour by hour -/
end AH
namespace AH
open PySem L2
variable [TheK]
end AH
namespace AH
open PySem L2
variable [TheK]
/-! ### long rows of statements, run to some place -/
def seqs : List DS → DS → DS
  | [], r => r
  | s :: l, r => sSeq s (seqs l r)
theorem seqs_run : ∀ {l : List DS} {r : DS} {e e1 : Env}, seqs l sNil e = .ok .nx e1 → seqs l r e = r e1
  | [], r, e, e1, h => by cases h; rfl
  | s :: l, r, e, e1, h => by
    show sSeq s (seqs l r) e = _
    have h : sSeq s (seqs l sNil) e = .ok .nx e1 := h
    unfold sSeq M.bind at h ⊢
    cases q : s e with
    | ok o e2 =>
      rw [q] at h
      simp only at h ⊢
      cases o with
      | nx => exact seqs_run (l := l) h
      | rt d => cases h
      | bk => cases h
      | ct => cases h
    | ex c fs e2 => rw [q] at h; cases h
    | bad => rw [q] at h; cases h
end AH
namespace AH
open PySem L2
variable [TheK]
/-! ### list(zip(..)), the block x = [..]; if ..; x[0].append(..) -/
section
variable {e : Env} {i : Nat} {a b : DE} {E : Str → List D → Env → Prop}
end
end AH
namespace AH
open PySem L2
variable [TheK]
/-! ### of lots -/
structure Cal (s : Int) (ns : List Int) : Prop where
  len : (ns.length : Int) = s
  nn : ∀ n ∈ ns, 0 ≤ n
end AH
namespace AH
open PySem L2
variable [TheK]
/-! ### a dict by a comprehension over windows -/
end AH
namespace AH
open PySem L2
variable [TheK]
/-! ### [f, g][i](..); a def that ends by return -/
end AH
namespace AH
open PySem L2
variable [TheK]
end AH
namespace AH
open PySem L2
variable [TheK]
/-! ### stretches apart: the greatest sum of worths -/
/-! ### a loop over a range, hour by hour -/
theorem intsR_cons {k n : Int} (h : k < n) : intsR k n = k :: intsR (k + 1) n := by
  unfold intsR
  rw [show (n - k).toNat = (n - (k + 1)).toNat + 1 by omega, List.range_succ_eq_map, List.map_cons, List.map_map]
  congr 1
  · simp
  · refine List.map_congr_left fun i _ => ?_
    simp
    omega
theorem intsR_nil {k n : Int} (h : n ≤ k) : intsR k n = [] := by
  unfold intsR
  rw [show (n - k).toNat = 0 by omega]
  rfl
theorem loop_rng {g : DG} {b : DS} {n : Nat} (st : Nat → Env) (h : ∀ k : Nat, k < n → Wn (g (.int (k : Int))) (st k) (fun _ e1 => Wn b e1 (fun o e2 => o = .nx ∧ e2 = st (k + 1)) NoE) NoE) : loop g b (rng 0 (n : Int)) (st 0) = .ok .nx (st n) := by
  have key : ∀ m k : Nat, k + m = n → loop g b ((intsR (k : Int) (n : Int)).map D.int) (st k) = .ok .nx (st n) := by
    intro m
    induction m with
    | zero =>
      intro k hk
      have : k = n := by omega
      subst this
      rw [intsR_nil (Int.le_refl _)]
      rfl
    | succ m ih =>
      intro k hk
      rw [intsR_cons (by omega), List.map_cons, loop_cons (h k (by omega))]
      exact ih (k + 1) (by omega)
  rw [rng_eq]
  exact key n 0 (by omega)
/-! ### rows that are told by index -/
end AH
namespace AH
open PySem L2
variable [TheK]
/-! ### drawn moves: how great the work can get -/
/-- a loop that carries a state on, with what holds of it -/
theorem loop_foldQ {S T : Type} {g : DG} {b : DS} {st : S → Env} {enc : T → D} (f : S → T → S) (P : S → List T → Prop) : ∀ (L : List T) (s : S), P s L → (∀ (s : S) (y : T) (R : List T), P s (y :: R) → P (f s y) R ∧ Wn (g (enc y)) (st s) (fun _ e1 => Wn b e1 (fun o e2 => o = .nx ∧ e2 = st (f s y)) NoE) NoE) → loop g b (L.map enc) (st s) = .ok .nx (st (L.foldl f s))
  | [], s, _, _ => rfl
  | y :: L, s, h, q => by
    obtain ⟨h1, h2⟩ := q s y L h
    rw [List.map_cons, List.foldl_cons, loop_cons h2]
    exact loop_foldQ f P L (f s y) h1 q
def MvQ (B : Int) (n : Nat) (s m : Int) (its : List Er) (o : Out) (e : Env) : Prop := o = .nx ∧ ∃ by_ g, fgO [5, 6, 7, 8, 9, 10, 11, 12, 13] o e = mvE by_ s m its g [.no, .no, .no, .no, .no, .no, .no, .no, .no] ∧ Bx n by_ ∧ ∀ p, g p ≤ B
theorem MvQ.of {B : Int} {n : Nat} {s m : Int} {its : List Er} {e : Env} {by_ : List D} {g : Int × Int → Int} (h : fgO [5, 6, 7, 8, 9, 10, 11, 12, 13] .nx e = mvE by_ s m its g [.no, .no, .no, .no, .no, .no, .no, .no, .no]) (hb : Bx n by_) (hg : ∀ p, g p ≤ B) : MvQ B n s m its .nx e := ⟨rfl, by_, g, h, hb, hg⟩
end AH
namespace AH
open PySem L2
variable [TheK]
/-! ### tupled(thing) as dict() takes it: a new tuple, if the thing is a list or a tuple -/
end AH
namespace LW
open PySem PySem.Spec PyProof.Rows L2 AH
variable [TheK]
def top (i : Nat) : Stmt := PySem.Challenge.pw_anyhands_k33_orders_of_prices.main.body.getD i (.Pass ⟨0, 0, 0, 0⟩)
abbrev s_law_cells : Stmt := top 16
abbrev s_check_same : Stmt := top 5
abbrev s_check_order : Stmt := top 10
abbrev s_asked_ofK : Stmt := top 7
abbrev s_more_ofK : Stmt := top 9
abbrev s_never_dearer_in : Stmt := top 11
abbrev s_sets_ofE : Stmt := top 8
abbrev s_how_many_orders : Stmt := top 12
abbrev s_law_same : Stmt := top 19
abbrev s_law_heard : Stmt := top 30
abbrev s_law_refused : Stmt := top 31
abbrev s_law_doors_right : Stmt := top 34
abbrev s_law_lists : Stmt := top 18
abbrev s_law_by_hand_right : Stmt := top 35
abbrev s_law_made : Stmt := top 25
abbrev s_law_spans : Stmt := top 21
abbrev s_law_table : Stmt := top 24
abbrev s_law_take : Stmt := top 15
abbrev s_law_of : Stmt := top 17
abbrev s_law_moved : Stmt := top 26
abbrev s_law_great : Stmt := top 23
abbrev s_law_lot : Stmt := top 22
abbrev s_law_in_setK : Stmt := top 28
abbrev s_law_is_fine : Stmt := top 33
abbrev s_law_orders : Stmt := top 32
abbrev s_law_rows : Stmt := top 29
abbrev s_law_cheapest : Stmt := top 27
abbrev s_law_small_right : Stmt := top 36
abbrev s_law_mixed : Stmt := top 20
abbrev s_law_right : Stmt := top 37
abbrev s_law_box : Stmt := top 14
abbrev s_law : Stmt := top 38
/-- what is asked of the module -/
structure Bf (K : PySem.W.Frag) (mg : Str → Option Value) : Prop where
  ValueError : mg "ValueError" = none
  abs : mg "abs" = none
  all : mg "all" = none
  bool : mg "bool" = none
  dict : mg "dict" = none
  enumerate : mg "enumerate" = none
  int : mg "int" = none
  isinstance : mg "isinstance" = none
  len : mg "len" = none
  list : mg "list" = none
  max : mg "max" = none
  min : mg "min" = none
  range : mg "range" = none
  sorted : mg "sorted" = none
  str : mg "str" = none
  sum : mg "sum" = none
  tuple : mg "tuple" = none
  zip : mg "zip" = none
  xc_Unfit : XcF K mg "Unfit"
  xc_Unlike : XcF K mg "Unlike"
  xx_NoHour : ("NoHour" : Str) ∈ TheK.xs
  xx_Unfit : ("Unfit" : Str) ∈ TheK.xs
  xx_Unlike : ("Unlike" : Str) ∈ TheK.xs
  xk_Unlike : XkF K mg "Unlike"
  xg_Unfit : mg "Unfit" = some (.ref (He.ga K "Unfit"))
  xm_Unfit : ∀ c' ∈ TheK.xs, PySem.W.exmOne K (.ref (He.ga K c')) (.ref (He.ga K "Unfit")) = some (decide (c' = "Unfit"))
  xg_Unlike : mg "Unlike" = some (.ref (He.ga K "Unlike"))
  xm_Unlike : ∀ c' ∈ TheK.xs, PySem.W.exmOne K (.ref (He.ga K c')) (.ref (He.ga K "Unlike")) = some (decide (c' = "Unlike"))
  xv : ∀ c ∈ TheK.xs, XvF K c
abbrev n_law_cells : List Str := ["_law_script", "_law_most_so", "_law_cells_here", "_law_k", "_law_cell", "_law_at_so"]
abbrev p_law_cells : List Str := ["_law_script", "_law_most_so"]
theorem sc_law_cells : FnScope n_law_cells p_law_cells (defScope s_law_cells) := ⟨rfl, rfl, rfl, by decide +kernel, rfl, by decide +kernel, by decide +kernel⟩
theorem b_law_cells : BindsOk "_law_cells" s_law_cells p_law_cells := fun _ _ _ _ _ _ us hl => match us, hl with | [_, _], _ => rfl
theorem ok_law_cells {P : Program} {w : World} {K : PySem.W.Frag} {mg : Str → Option Value} {base : Heap} (hK : K = TheK.K) (B : Bf K mg) (F : Fu K mg "_law_cells" s_law_cells) : Kn P w K mg base .s "_law_cells" s_law_cells n_law_cells p_law_cells [.ro, .val] f_law_cells 1 := kn_of F sc_law_cells rfl b_law_cells (.inl ⟨rfl, rfl⟩) fun f cdv A outer s H E hr tk hp => by
  have nd : n_law_cells.Nodup := sc_law_cells.nd
  have hc : (cxD P w K mg base n_law_cells "_law_cells" (defScope s_law_cells) f cdv A outer s H E).calm = true := rfl
  have hu := room_u hr
  exact (ss_cons (sd_own (i := 2) nd rfl (.inl rfl) (pd_orT (pd_list (bn_any rfl B.list boot_list) (PD.weak (PD.str (pd_slN (i := 0) rfl (.inl rfl) od_none (od_some (pd_var (i := 1) rfl (.inl rfl))))))) (pd_lst (ad_cons pd_int ad_nil)) (.inl rfl))) (ss_cons (sd_for hp hc (id_enum (bn_any rfl B.enumerate boot_enumerate) (PD.str (pd_slN (i := 0) rfl (.inl rfl) (od_some (pd_var (i := 1) rfl (.inl rfl))) (od_some pd_int)))) (gd_tup (n := 2) hc (gsd_cons (gd_name (i := 3) nd rfl (.inl rfl)) (gsd_cons (gd_name (i := 4) nd rfl (.inl rfl)) gsd_nil)) (gs_lenS (gs_lenS gs_len0))) (ss_fg (vs := [3, 4, 5]) (ss_cons (sd_asgN (i := 5) nd rfl (.inl rfl) (pd_mod (pd_toint (bn_any rfl B.int boot_int) (pd_var (i := 3) rfl (.inl rfl))) (pd_var (i := 1) rfl (.inl rfl)))) (ss_one (sd_setL (i := 2) rfl (.inl rfl) (pd_var (i := 5) rfl (.inl rfl)) (pd_add (pd_ixL (i := 2) hu rfl (.inl rfl) (pd_var (i := 5) rfl (.inl rfl))) (pd_mul (pd_var (i := 4) rfl (.inl rfl)) (pd_add (pd_var (i := 3) rfl (.inl rfl)) pd_int)))))))) (ss_rel (i := 2) (ss_one (sd_ret (pd_var (i := 2) rfl (.inl rfl)))))))
abbrev n_check_same : List Str := ["one", "other"]
abbrev p_check_same : List Str := ["one", "other"]
theorem sc_check_same : FnScope n_check_same p_check_same (defScope s_check_same) := ⟨rfl, rfl, rfl, by decide +kernel, rfl, by decide +kernel, by decide +kernel⟩
theorem b_check_same : BindsOk "check_same" s_check_same p_check_same := fun _ _ _ _ _ _ us hl => match us, hl with | [_, _], _ => rfl
theorem ok_check_same {P : Program} {w : World} {K : PySem.W.Frag} {mg : Str → Option Value} {base : Heap} (hK : K = TheK.K) (B : Bf K mg) (F : Fu K mg "check_same" s_check_same) : Kn P w K mg base .s "check_same" s_check_same n_check_same p_check_same [.val, .val] f_check_same 3 := kn_of F sc_check_same rfl b_check_same (.inl ⟨rfl, rfl⟩) fun f cdv A outer s H E hr tk hp => by
  have nd : n_check_same.Nodup := sc_check_same.nd
  have hc : (cxD P w K mg base n_check_same "check_same" (defScope s_check_same) f cdv A outer s H E).calm = true := rfl
  have hu := room_u hr
  exact (ss_one (sd_if (td_cmp (ck_ne hu) (pd_ix hu (pd_var (i := 0) rfl (.inl rfl)) pd_int) (PD.weak (pd_ix hu (pd_var (i := 1) rfl (.inl rfl)) pd_int)) rfl) (ss_one (sd_raise0 hc tk B.xx_Unlike B.xc_Unlike rfl)) ss_nil))
abbrev n_check_order : List Str := ["hours", "order"]
abbrev p_check_order : List Str := ["hours", "order"]
theorem sc_check_order : FnScope n_check_order p_check_order (defScope s_check_order) := ⟨rfl, rfl, rfl, by decide +kernel, rfl, by decide +kernel, by decide +kernel⟩
theorem b_check_order : BindsOk "check_order" s_check_order p_check_order := fun _ _ _ _ _ _ us hl => match us, hl with | [_, _], _ => rfl
def m_check_order : DS := (sIf (c2 dNe (e1 dSortU (eW (eVar 1))) (lRng1 (eVar 0))) (sRaise "Unfit") sNil)
def f_check_order : DF := mkF 2 [.val, .val] m_check_order
theorem ok_check_order {P : Program} {w : World} {K : PySem.W.Frag} {mg : Str → Option Value} {base : Heap} (hK : K = TheK.K) (B : Bf K mg) (F : Fu K mg "check_order" s_check_order) : Kn P w K mg base .s "check_order" s_check_order n_check_order p_check_order [.val, .val] f_check_order 3 := kn_of F sc_check_order rfl b_check_order (.inl ⟨rfl, rfl⟩) fun f cdv A outer s H E hr tk hp => by
  have nd : n_check_order.Nodup := sc_check_order.nd
  have hc : (cxD P w K mg base n_check_order "check_order" (defScope s_check_order) f cdv A outer s H E).calm = true := rfl
  have hu := room_u hr
  exact (ss_one (sd_if (td_cmp (ck_ne hu) (PD.str (pd_sortU hu (bn_any rfl B.sorted boot_sorted) (pd_eW (pd_var (i := 1) rfl (.inl rfl))))) (PD.weak (PD.str (pd_listR1 hc (bn_any rfl B.list boot_list) (bn_any rfl B.range boot_range) (pd_var (i := 0) rfl (.inl rfl))))) rfl) (ss_one (sd_raise0 hc tk B.xx_Unfit B.xc_Unfit rfl)) ss_nil))
abbrev n_asked_ofK : List Str := ["lot", "some", "hour", "first", "last", "work"]
abbrev p_asked_ofK : List Str := ["lot", "some"]
theorem sc_asked_ofK : FnScope n_asked_ofK p_asked_ofK (defScope s_asked_ofK) := ⟨rfl, rfl, rfl, by decide +kernel, rfl, by decide +kernel, by decide +kernel⟩
theorem b_asked_ofK : BindsOk "asked_of" s_asked_ofK p_asked_ofK := fun _ _ _ _ _ _ us hl => match us, hl with | [_, _], _ => rfl
def b_asked_ofK_1 : DS := (sFg [2] (sIf (tNot (c3 dLe dLt (eC (.int 0)) (eVar 2) (e2 dIx (eVar 0) (eC (.int 0))))) (sRaiseA "NoHour" 1 (aCons (eVar 2) aNil)) sNil))
def l_asked_ofK_1 : DS := (sFor (iSeq (eW (eVar 1))) (gN 2) b_asked_ofK_1)
def c_asked_ofK_1 : DE := (eLc [2] (iRng2 (eVar 3) (e2 dAdd (eVar 4) (eC (.int 1)))) (gN 2) tYes (eB (c2 dIn (eVar 2) (eW (eVar 1)))))
def c_asked_ofK_2 : DE := (eLc [3, 4, 5] (iSeq (e2 dIx (eVar 0) (eC (.int 1)))) (gT (gsCons (gT (gsCons (gN 3) (gsCons (gN 4) gsNil))) (gsCons (gN 5) gsNil))) (tV (e1 dAll c_asked_ofK_1)) (eVar 5))
def m_asked_ofK : DS := (sSeq l_asked_ofK_1 (sRet (e1 dSumA c_asked_ofK_2)))
def f_asked_ofK : DF := mkF 6 [.val, .val] m_asked_ofK
theorem ok_asked_ofK {P : Program} {w : World} {K : PySem.W.Frag} {mg : Str → Option Value} {base : Heap} (hK : K = TheK.K) (B : Bf K mg) (XA_NoHour : XcA P w K mg base "NoHour") (F : Fu K mg "asked_of" s_asked_ofK) : Kn P w K mg base .s "asked_of" s_asked_ofK n_asked_ofK p_asked_ofK [.val, .val] f_asked_ofK 3 := kn_of F sc_asked_ofK rfl b_asked_ofK (.inl ⟨rfl, rfl⟩) fun f cdv A outer s H E hr tk hp => by
  have nd : n_asked_ofK.Nodup := sc_asked_ofK.nd
  have hc : (cxD P w K mg base n_asked_ofK "asked_of" (defScope s_asked_ofK) f cdv A outer s H E).calm = true := rfl
  have hu := room_u hr
  exact (ss_cons (sd_for hp hc (id_seqK (pd_var (i := 1) rfl (.inr (.inl rfl)))) (gd_name (i := 2) nd rfl (.inl rfl)) (ss_fg (vs := [2]) (ss_one (sd_if (td_not (td_chain (ck_le hu) (ck_lt hu) pd_int (pd_var (i := 2) rfl (.inl rfl)) (PD.weak (pd_ix hu (pd_var (i := 0) rfl (.inl rfl)) pd_int)))) (ss_one (sd_raiseA hc tk hr B.xx_NoHour XA_NoHour rfl rfl (ad_cons (pd_var (i := 2) rfl (.inl rfl)) ad_nil))) ss_nil)))) (ss_one (sd_ret (pd_sumA hc (bn_any rfl B.sum boot_sum) (PD.weak (PD.str (pd_lc (own := [("first", 3), ("last", 4), ("work", 5)]) hc nd (by kernel_rfl) rfl (id_seq (pd_ix hu (pd_var (i := 0) rfl (.inl rfl)) pd_int)) (fun s H C cl fp => (gd_tup (n := 2) hc (gsd_cons (gd_tup (n := 2) hc (gsd_cons (gd_name (i := 3) nd rfl (.inl rfl)) (gsd_cons (gd_name (i := 4) nd rfl (.inl rfl)) gsd_nil)) (gs_lenS (gs_lenS gs_len0))) (gsd_cons (gd_name (i := 5) nd rfl (.inl rfl)) gsd_nil)) (gs_lenS (gs_lenS gs_len0)))) (fun s H C cl fp => (cd_one (td_val (pd_all hc (bn_any rfl B.all boot_all) (PD.weak (PD.str (pd_lc (own := [("hour", 2)]) hc nd (by kernel_rfl) rfl (id_range2 (bn_any rfl B.range boot_range) (pd_var (i := 3) rfl (.inl rfl)) (pd_add (pd_var (i := 4) rfl (.inl rfl)) pd_int)) (fun s H C cl fp => (gd_name (i := 2) nd rfl (.inl rfl))) (fun s H C cl fp => cd_nil) (fun s H C cl fp => (pd_in (ik_in hu) (pd_var (i := 2) rfl (.inl rfl)) (pd_eW (pd_var (i := 1) rfl (.inr (.inl rfl)))) rfl))))))))) (fun s H C cl fp => (pd_var (i := 5) rfl (.inl rfl))))))))))
abbrev n_more_ofK : List Str := ["one", "other", "some"]
abbrev p_more_ofK : List Str := ["one", "other", "some"]
theorem sc_more_ofK : FnScope n_more_ofK p_more_ofK (defScope s_more_ofK) := ⟨rfl, rfl, rfl, by decide +kernel, rfl, by decide +kernel, by decide +kernel⟩
theorem b_more_ofK : BindsOk "more_of" s_more_ofK p_more_ofK := fun _ _ _ _ _ _ us hl => match us, hl with | [_, _, _], _ => rfl
def m_more_ofK : DS := (sRet (e2 dSub (eCall f_asked_ofK [.e (eVar 0), .e (eVar 2)]) (eCall f_asked_ofK [.e (eVar 1), .e (eVar 2)])))
def f_more_ofK : DF := mkF 3 [.val, .val, .val] m_more_ofK
theorem ok_more_ofK {P : Program} {w : World} {K : PySem.W.Frag} {mg : Str → Option Value} {base : Heap} (hK : K = TheK.K) (B : Bf K mg) (F : Fu K mg "more_of" s_more_ofK) (k_asked_ofK : Kn P w K mg base .s "asked_of" s_asked_ofK n_asked_ofK p_asked_ofK [.val, .val] f_asked_ofK 3) : Kn P w K mg base .s "more_of" s_more_ofK n_more_ofK p_more_ofK [.val, .val, .val] f_more_ofK 4 := kn_of F sc_more_ofK rfl b_more_ofK (.inl ⟨rfl, rfl⟩) fun f cdv A outer s H E hr tk hp => by
  have nd : n_more_ofK.Nodup := sc_more_ofK.nd
  have hc : (cxD P w K mg base n_more_ofK "more_of" (defScope s_more_ofK) f cdv A outer s H E).calm = true := rfl
  have hu := room_u hr
  exact (ss_one (sd_ret (pd_sub (pd_call (k_asked_ofK.fn hr) tk rfl (ga_val (pd_var (i := 0) rfl (.inl rfl)) (ga_val (pd_var (i := 2) rfl (.inl rfl)) ga_nil))) (pd_call (k_asked_ofK.fn hr) tk rfl (ga_val (pd_var (i := 1) rfl (.inl rfl)) (ga_val (pd_var (i := 2) rfl (.inl rfl)) ga_nil))))))
abbrev n_never_dearer_in : List Str := ["one", "other", "order", "place"]
abbrev p_never_dearer_in : List Str := ["one", "other", "order"]
theorem sc_never_dearer_in : FnScope n_never_dearer_in p_never_dearer_in (defScope s_never_dearer_in) := ⟨rfl, rfl, rfl, by decide +kernel, rfl, by decide +kernel, by decide +kernel⟩
theorem b_never_dearer_in : BindsOk "never_dearer_in" s_never_dearer_in p_never_dearer_in := fun _ _ _ _ _ _ us hl => match us, hl with | [_, _, _], _ => rfl
theorem kb_never_dearer_in_0_order_other_one : KBindsOk "never_dearer_in" s_never_dearer_in p_never_dearer_in 0 ["order", "other", "one"] [2, 1, 0] := fun _ _ _ _ _ _ us ws h1 h2 => match us, ws, h1, h2 with | [], [_, _, _], _, _ => rfl
def c_never_dearer_in_1 : DE := (eLc [3] (iRng1 (e2 dIx (eVar 0) (eC (.int 0)))) (gN 3) tYes (eB (c2 dLe (eCall f_more_ofK [.e (eVar 0), .e (eVar 1), .e (eSlK (eVar 2) (oSome (eVar 3)) oNone)]) (eC (.int 0)))))
def m_never_dearer_in : DS := (sSeq (sExpr (eCall f_check_same [.e (eVar 0), .e (eVar 1)])) (sSeq (sExpr (eCall f_check_order [.e (e2 dIx (eVar 0) (eC (.int 0))), .e (eVar 2)])) (sRet (e1 dAll c_never_dearer_in_1))))
def f_never_dearer_in : DF := mkF 4 [.val, .val, .val] m_never_dearer_in
theorem ok_never_dearer_in {P : Program} {w : World} {K : PySem.W.Frag} {mg : Str → Option Value} {base : Heap} (hK : K = TheK.K) (B : Bf K mg) (F : Fu K mg "never_dearer_in" s_never_dearer_in) (k_check_same : Kn P w K mg base .s "check_same" s_check_same n_check_same p_check_same [.val, .val] f_check_same 3) (k_check_order : Kn P w K mg base .s "check_order" s_check_order n_check_order p_check_order [.val, .val] f_check_order 3) (k_more_ofK : Kn P w K mg base .s "more_of" s_more_ofK n_more_ofK p_more_ofK [.val, .val, .val] f_more_ofK 4) : Kn P w K mg base .s "never_dearer_in" s_never_dearer_in n_never_dearer_in p_never_dearer_in [.val, .val, .val] f_never_dearer_in 5 := kn_of F sc_never_dearer_in rfl b_never_dearer_in (.inl ⟨rfl, rfl⟩) fun f cdv A outer s H E hr tk hp => by
  have nd : n_never_dearer_in.Nodup := sc_never_dearer_in.nd
  have hc : (cxD P w K mg base n_never_dearer_in "never_dearer_in" (defScope s_never_dearer_in) f cdv A outer s H E).calm = true := rfl
  have hu := room_u hr
  exact (ss_cons (sd_expr (pd_call (k_check_same.fn hr) tk rfl (ga_val (pd_var (i := 0) rfl (.inr (.inl rfl))) (ga_val (pd_var (i := 1) rfl (.inr (.inl rfl))) ga_nil)))) (ss_cons (sd_expr (pd_call (k_check_order.fn hr) tk rfl (ga_val (pd_ix hu (pd_var (i := 0) rfl (.inr (.inl rfl))) pd_int) (ga_val (pd_var (i := 2) rfl (.inr (.inl rfl))) ga_nil)))) (ss_one (sd_ret (pd_all hc (bn_any rfl B.all boot_all) (PD.weak (PD.str (pd_lc (own := [("place", 3)]) hc nd (by kernel_rfl) rfl (id_range1 (bn_any rfl B.range boot_range) (pd_ix hu (pd_var (i := 0) rfl (.inr (.inl rfl))) pd_int)) (fun s H C cl fp => (gd_name (i := 3) nd rfl (.inl rfl))) (fun s H C cl fp => cd_nil) (fun s H C cl fp => (pd_cmp (ck_le hu) (pd_call (k_more_ofK.fn hr) tkNone rfl (ga_val (pd_var (i := 0) rfl (.inr (.inl rfl))) (ga_val (pd_var (i := 1) rfl (.inr (.inl rfl))) (ga_val (pd_slK (pd_var (i := 2) rfl (.inr (.inl rfl))) (od_some (pd_var (i := 3) rfl (.inl rfl))) od_none) ga_nil)))) (PD.weak pd_int) rfl))))))))))
abbrev n_sets_ofE : List Str := ["hours", "found", "hour", "own"]
abbrev p_sets_ofE : List Str := ["hours"]
theorem sc_sets_ofE : FnScope n_sets_ofE p_sets_ofE (defScope s_sets_ofE) := ⟨rfl, rfl, rfl, by decide +kernel, rfl, by decide +kernel, by decide +kernel⟩
theorem b_sets_ofE : BindsOk "sets_of" s_sets_ofE p_sets_ofE := fun _ _ _ _ _ _ us hl => match us, hl with | [_], _ => rfl
def c_sets_ofE_1 : DE := (eLc [3] (iSeq (eVar 1)) (gN 3) tYes (eTup (aStar (eVar 3) (aCons (eVar 2) aNil))))
def b_sets_ofE_1 : DS := (sFg [2] (sAsgN 1 (e2 dAdd (eVar 1) c_sets_ofE_1)))
def l_sets_ofE_1 : DS := (sFor (iRng1 (eVar 0)) (gN 2) b_sets_ofE_1)
def m_sets_ofE : DS := (sSeq (sAsgN 1 (eLst (aCons (eTup aNil) aNil))) (sSeq l_sets_ofE_1 (sRet (e1 dSortE0 (eVar 1)))))
def f_sets_ofE : DF := mkF 4 [.val] m_sets_ofE
theorem ok_sets_ofE {P : Program} {w : World} {K : PySem.W.Frag} {mg : Str → Option Value} {base : Heap} (hK : K = TheK.K) (B : Bf K mg) (F : Fu K mg "sets_of" s_sets_ofE) : Kn P w K mg base .s "sets_of" s_sets_ofE n_sets_ofE p_sets_ofE [.val] f_sets_ofE 1 := kn_of F sc_sets_ofE rfl b_sets_ofE (.inl ⟨rfl, rfl⟩) fun f cdv A outer s H E hr tk hp => by
  have nd : n_sets_ofE.Nodup := sc_sets_ofE.nd
  have hc : (cxD P w K mg base n_sets_ofE "sets_of" (defScope s_sets_ofE) f cdv A outer s H E).calm = true := rfl
  have hu := room_u hr
  exact (ss_cons (sd_asgN (i := 1) nd rfl (.inl rfl) (PD.str (pd_lst (ad_cons (pd_tup ad_nil) ad_nil)))) (ss_cons (sd_for hp hc (id_range1 (bn_any rfl B.range boot_range) (pd_var (i := 0) rfl (.inl rfl))) (gd_name (i := 2) nd rfl (.inr rfl)) (ss_fg (vs := [2]) (ss_one (sd_asgN (i := 1) nd rfl (.inl rfl) (pd_add (pd_var (i := 1) rfl (.inl rfl)) (PD.str (pd_lc (own := [("own", 3)]) hc nd (by kernel_rfl) rfl (id_seq (pd_var (i := 1) rfl (.inl rfl))) (fun s H C cl fp => (gd_name (i := 3) nd rfl (.inl rfl))) (fun s H C cl fp => cd_nil) (fun s H C cl fp => (pd_tup (ad_star (PD.weak (pd_var (i := 3) rfl (.inl rfl))) (ad_cons (pd_var (i := 2) rfl (.inr (.inl rfl))) ad_nil))))))))))) (ss_one (sd_ret (PD.str (pd_sortE0 hu (bn_any rfl B.sorted boot_sorted) (PD.weak (pd_var (i := 1) rfl (.inl rfl)))))))))
abbrev n_how_many_orders : List Str := ["one", "other", "ways", "some", "fewer", "place"]
abbrev p_how_many_orders : List Str := ["one", "other"]
theorem sc_how_many_orders : FnScope n_how_many_orders p_how_many_orders (defScope s_how_many_orders) := ⟨rfl, rfl, rfl, by decide +kernel, rfl, by decide +kernel, by decide +kernel⟩
theorem b_how_many_orders : BindsOk "how_many_orders" s_how_many_orders p_how_many_orders := fun _ _ _ _ _ _ us hl => match us, hl with | [_, _], _ => rfl
theorem kb_how_many_orders_0_other_one : KBindsOk "how_many_orders" s_how_many_orders p_how_many_orders 0 ["other", "one"] [1, 0] := fun _ _ _ _ _ _ us ws h1 h2 => match us, ws, h1, h2 with | [], [_, _], _, _ => rfl
def c_how_many_orders_1 : DE := (eLc [5] (iRng1 (e1 dLen (eVar 3))) (gN 5) tYes (e2L dIx 2 (e2 dAdd (eSl (eVar 3) oNone (oSome (eVar 5))) (eSl (eVar 3) (oSome (e2 dAdd (eVar 5) (eC (.int 1)))) oNone))))
def b_how_many_orders_1 : DS := (sFg [3, 4] (sIf (c2 dGt (e1 dLen (eVar 3)) (eC (.int 0))) (sSeq (sAsgN 4 c_how_many_orders_1) (sSetD 2 (eVar 3) (eIf (c2 dLe (eCall f_more_ofK [.e (eVar 0), .e (eVar 1), .e (eVar 3)]) (eC (.int 0))) (e1 dSumA (eVar 4)) (eC (.int 0))))) sNil))
def l_how_many_orders_1 : DS := (sFor (iSeq (e1 dSortLen (eCall f_sets_ofE [.e (e2 dIx (eVar 0) (eC (.int 0)))]))) (gN 3) b_how_many_orders_1)
def m_how_many_orders : DS := (sSeq (sExpr (eCall f_check_same [.e (eVar 0), .e (eVar 1)])) (sSeq (sOwnD 2 (eC (.dic [([], .int 1)]))) (sSeq l_how_many_orders_1 (sRet (e2L dIx 2 (tRng1 (e2 dIx (eVar 0) (eC (.int 0)))))))))
def f_how_many_orders : DF := mkF 6 [.val, .val] m_how_many_orders
theorem ok_how_many_orders {P : Program} {w : World} {K : PySem.W.Frag} {mg : Str → Option Value} {base : Heap} (hK : K = TheK.K) (B : Bf K mg) (F : Fu K mg "how_many_orders" s_how_many_orders) (k_check_same : Kn P w K mg base .s "check_same" s_check_same n_check_same p_check_same [.val, .val] f_check_same 3) (k_sets_ofE : Kn P w K mg base .s "sets_of" s_sets_ofE n_sets_ofE p_sets_ofE [.val] f_sets_ofE 1) (k_more_ofK : Kn P w K mg base .s "more_of" s_more_ofK n_more_ofK p_more_ofK [.val, .val, .val] f_more_ofK 4) : Kn P w K mg base .s "how_many_orders" s_how_many_orders n_how_many_orders p_how_many_orders [.val, .val] f_how_many_orders 5 := kn_of F sc_how_many_orders rfl b_how_many_orders (.inl ⟨rfl, rfl⟩) fun f cdv A outer s H E hr tk hp => by
  have nd : n_how_many_orders.Nodup := sc_how_many_orders.nd
  have hc : (cxD P w K mg base n_how_many_orders "how_many_orders" (defScope s_how_many_orders) f cdv A outer s H E).calm = true := rfl
  have hu := room_u hr
  exact (ss_cons (sd_expr (pd_call (k_check_same.fn hr) tk rfl (ga_val (pd_var (i := 0) rfl (.inl rfl)) (ga_val (pd_var (i := 1) rfl (.inl rfl)) ga_nil)))) (ss_cons (sd_ownD (i := 2) nd rfl (.inr rfl) (pd_disp0 hu)) (ss_cons (sd_for hp hc (id_seq (PD.str (pd_sortLen hu (bn_any rfl B.sorted boot_sorted) (bn_any rfl B.len boot_len) (PD.weak (pd_call (k_sets_ofE.fn hr) tk rfl (ga_val (pd_ix hu (pd_var (i := 0) rfl (.inl rfl)) pd_int) ga_nil)))))) (gd_name (i := 3) nd rfl (.inr rfl)) (ss_fg (vs := [3, 4]) (ss_one (sd_if (td_cmp ck_gt (pd_len (bn_any rfl B.len boot_len) (PD.weak (pd_var (i := 3) rfl (.inr (.inl rfl))))) (PD.weak pd_int) rfl) (ss_cons (sd_lc (i := 4) (own := [("place", 5)]) hc nd rfl rfl rfl rfl (by kernel_rfl) (by kernel_rfl) rfl (id_range1 (bn_any rfl B.range boot_range) (pd_len (bn_any rfl B.len boot_len) (PD.weak (pd_var (i := 3) rfl (.inr (.inl rfl)))))) (fun s H C cl fp => (gd_name (i := 5) nd rfl (.inl rfl))) (fun s H C cl fp => cd_nil) (fun s H C cl fp => (pd_ixL (i := 2) hu rfl (.inr (.inl rfl)) (pd_add (pd_sl (pd_var (i := 3) rfl (.inr (.inl rfl))) od_none (od_some (pd_var (i := 5) rfl (.inl rfl)))) (pd_sl (pd_var (i := 3) rfl (.inr (.inl rfl))) (od_some (pd_add (pd_var (i := 5) rfl (.inl rfl)) pd_int)) od_none))))) (ss_one (sd_setD (i := 2) hu rfl (.inr (.inl rfl)) (pd_var (i := 3) rfl (.inr (.inl rfl))) (pd_if (td_cmp (ck_le hu) (pd_call (k_more_ofK.fn hr) tk rfl (ga_val (pd_var (i := 0) rfl (.inl rfl)) (ga_val (pd_var (i := 1) rfl (.inl rfl)) (ga_val (pd_var (i := 3) rfl (.inr (.inl rfl))) ga_nil)))) (PD.weak pd_int) rfl) (pd_sumA hc (bn_any rfl B.sum boot_sum) (PD.weak (pd_var (i := 4) rfl (.inl rfl)))) pd_int)))) ss_nil)))) (ss_one (sd_ret (pd_ixL (i := 2) hu rfl (.inr (.inl rfl)) (pd_tupR1 hc (bn_any rfl B.tuple boot_tuple) (bn_any rfl B.range boot_range) (pd_ix hu (pd_var (i := 0) rfl (.inl rfl)) pd_int))))))))
abbrev n_law_same : List Str := ["_law_got", "_law_due_so", "_law_mine", "_law_its"]
abbrev p_law_same : List Str := ["_law_got", "_law_due_so"]
theorem sc_law_same : FnScope n_law_same p_law_same (defScope s_law_same) := ⟨rfl, rfl, rfl, by decide +kernel, rfl, by decide +kernel, by decide +kernel⟩
theorem b_law_same : BindsOk "_law_same" s_law_same p_law_same := fun _ _ _ _ _ _ us hl => match us, hl with | [_, _], _ => rfl
theorem ok_law_same {P : Program} {w : World} {K : PySem.W.Frag} {mg : Str → Option Value} {base : Heap} (hK : K = TheK.K) (B : Bf K mg) (F : Fu K mg "_law_same" s_law_same) : ∀ n : Nat, Kn P w K mg base .s "_law_same" s_law_same n_law_same p_law_same [.val, .val] (f_law_same n) (1 + n)
  | 0 => kn_bad F rfl b_law_same
  | n + 1 => kn_of F sc_law_same rfl b_law_same (.inl ⟨rfl, rfl⟩) fun f cdv A outer s H E hr tk hp => by
    have k_law_same := ok_law_same (P := P) (w := w) (base := base) hK B F n
    have nd : n_law_same.Nodup := sc_law_same.nd
    have hc : (cxD P w K mg base n_law_same "_law_same" (defScope s_law_same) f cdv A outer s H E).calm = true := rfl
    have hu := room_u hr
    exact (ss_cons (sd_if (td_val (pd_isi2 (t := .list) (u := .tuple) (bn_any rfl B.isinstance boot_isinstance) (bn_any rfl B.list boot_list) (bn_any rfl B.tuple boot_tuple) (pd_var (i := 1) rfl (.inl rfl)))) (ss_cons (sd_if (WD.td (wd_or (td_cmp (ck_ne hu) (pd_isi (t := .list) hK (bn_any rfl B.isinstance boot_isinstance) (bn_any rfl B.list boot_list) (pd_var (i := 0) rfl (.inl rfl))) (PD.weak (pd_isi (t := .list) hK (bn_any rfl B.isinstance boot_isinstance) (bn_any rfl B.list boot_list) (pd_var (i := 1) rfl (.inl rfl)))) rfl) (wd_or1 (td_cmp (ck_ne hu) (pd_isi (t := .tuple) hK (bn_any rfl B.isinstance boot_isinstance) (bn_any rfl B.tuple boot_tuple) (pd_var (i := 0) rfl (.inl rfl))) (PD.weak (pd_isi (t := .tuple) hK (bn_any rfl B.isinstance boot_isinstance) (bn_any rfl B.tuple boot_tuple) (pd_var (i := 1) rfl (.inl rfl)))) rfl)))) (ss_one (sd_ret pd_bl)) ss_nil) (ss_one (sd_ret (pd_and (pd_cmp (ck_eq hu) (pd_len (bn_any rfl B.len boot_len) (PD.weak (pd_var (i := 0) rfl (.inl rfl)))) (PD.weak (pd_len (bn_any rfl B.len boot_len) (PD.weak (pd_var (i := 1) rfl (.inl rfl))))) rfl) (pd_one (pd_all hc (bn_any rfl B.all boot_all) (PD.weak (PD.str (pd_lc (own := [("_law_mine", 2), ("_law_its", 3)]) hc nd (by kernel_rfl) rfl (id_zip2 (bn_any rfl B.zip boot_zip) (pd_var (i := 0) rfl (.inl rfl)) (pd_var (i := 1) rfl (.inl rfl))) (fun s H C cl fp => (gd_tup (n := 2) hc (gsd_cons (gd_name (i := 2) nd rfl (.inl rfl)) (gsd_cons (gd_name (i := 3) nd rfl (.inl rfl)) gsd_nil)) (gs_lenS (gs_lenS gs_len0)))) (fun s H C cl fp => cd_nil) (fun s H C cl fp => (pd_call (k_law_same.fn hr (Nat.le_refl _)) tkNone rfl (ga_val (pd_var (i := 2) rfl (.inl rfl)) (ga_val (pd_var (i := 3) rfl (.inl rfl)) ga_nil))))))))))))) ss_nil) (ss_cons (sd_if (WD.td (wd_or (td_isN (PD.weak (pd_var (i := 1) rfl (.inl rfl)))) (wd_or1 (td_val (pd_isi2 (t := .bool) (u := .str) (bn_any rfl B.isinstance boot_isinstance) (bn_any rfl B.bool boot_bool) (bn_any rfl B.str boot_str) (pd_var (i := 1) rfl (.inl rfl))))))) (ss_one (sd_ret (pd_and (pd_cmp (ck_eq hu) (pd_var (i := 0) rfl (.inl rfl)) (PD.weak (pd_var (i := 1) rfl (.inl rfl))) rfl) (pd_and (pd_cmp (ck_eq hu) (pd_isi (t := .bool) hK (bn_any rfl B.isinstance boot_isinstance) (bn_any rfl B.bool boot_bool) (pd_var (i := 0) rfl (.inl rfl))) (PD.weak (pd_isi (t := .bool) hK (bn_any rfl B.isinstance boot_isinstance) (bn_any rfl B.bool boot_bool) (pd_var (i := 1) rfl (.inl rfl)))) rfl) (pd_one (pd_cmp (ck_eq hu) (pd_isN (PD.weak (pd_var (i := 0) rfl (.inl rfl)))) (PD.weak (pd_isN (PD.weak (pd_var (i := 1) rfl (.inl rfl))))) rfl)))))) ss_nil) (ss_one (sd_ret (pd_and (pd_isi (t := .int) hK (bn_any rfl B.isinstance boot_isinstance) (bn_any rfl B.int boot_int) (pd_var (i := 0) rfl (.inl rfl))) (pd_and (pd_not (pd_isi (t := .bool) hK (bn_any rfl B.isinstance boot_isinstance) (bn_any rfl B.bool boot_bool) (pd_var (i := 0) rfl (.inl rfl)))) (pd_one (pd_cmp (ck_eq hu) (pd_var (i := 0) rfl (.inl rfl)) (PD.weak (pd_var (i := 1) rfl (.inl rfl))) rfl))))))))
abbrev n_law_heard : List Str := ["_law_one_so", "_law_two_so", "_law_order_so", "_law_caught", "_law_told_so", "error"]
abbrev p_law_heard : List Str := ["_law_one_so", "_law_two_so", "_law_order_so"]
theorem sc_law_heard : FnScope n_law_heard p_law_heard (defScope s_law_heard) := ⟨rfl, rfl, rfl, by decide +kernel, rfl, by decide +kernel, by decide +kernel⟩
theorem b_law_heard : BindsOk "_law_heard" s_law_heard p_law_heard := fun _ _ _ _ _ _ us hl => match us, hl with | [_, _, _], _ => rfl
def t_law_heard_1 : DS := (sAsgN 4 (eCall f_never_dearer_in [.e (eVar 0), .e (eVar 1), .e (eVar 2)]))
def m_law_heard : DS := (sSeq (sAsg (eTup (aCons (eC .non) (aCons (eC .non) aNil))) (gT (gsCons (gN 3) (gsCons (gN 4) gsNil)))) (sSeq (sTryNX [("Unfit", (sAsgN 3 (eVar 5))), ("Unlike", (sAsgN 3 (eVar 5)))] 5 t_law_heard_1) (sSeq (sIf (tIsN (eVar 3)) (sRet (eVar 4)) sNil) (sRet (eIf (tV (e1 (dIsK "Unlike") (eVar 3))) (eC (.str "unlike")) (eC (.str "unfit")))))))
def f_law_heard : DF := mkF 6 [.val, .val, .val] m_law_heard
theorem ok_law_heard {P : Program} {w : World} {K : PySem.W.Frag} {mg : Str → Option Value} {base : Heap} (hK : K = TheK.K) (B : Bf K mg) (F : Fu K mg "_law_heard" s_law_heard) (k_never_dearer_in : Kn P w K mg base .s "never_dearer_in" s_never_dearer_in n_never_dearer_in p_never_dearer_in [.val, .val, .val] f_never_dearer_in 5) : Kn P w K mg base .s "_law_heard" s_law_heard n_law_heard p_law_heard [.val, .val, .val] f_law_heard 6 := kn_of F sc_law_heard rfl b_law_heard (.inl ⟨rfl, rfl⟩) fun f cdv A outer s H E hr tk hp => by
  have nd : n_law_heard.Nodup := sc_law_heard.nd
  have hc : (cxD P w K mg base n_law_heard "_law_heard" (defScope s_law_heard) f cdv A outer s H E).calm = true := rfl
  have hu := room_u hr
  exact (ss_cons (sd_asgT (pd_tup (ad_cons pd_non (ad_cons pd_non ad_nil))) (gd_tup (n := 2) hc (gsd_cons (gd_name (i := 3) nd rfl (.inl rfl)) (gsd_cons (gd_name (i := 4) nd rfl (.inl rfl)) gsd_nil)) (gs_lenS (gs_lenS gs_len0)))) (ss_cons (sd_tryTX (i := 5) rfl rfl rfl nd rfl rfl hK tk (fun W pn xe tk hp => (ss_one (sd_asgN (i := 4) nd rfl (.inl rfl) (pd_call (k_never_dearer_in.fn hr) tk rfl (ga_val (pd_var (i := 0) rfl (.inl rfl)) (ga_val (pd_var (i := 1) rfl (.inl rfl)) (ga_val (pd_var (i := 2) rfl (.inl rfl)) ga_nil))))))) (.cons (cs := ["Unfit", "Unlike"]) (test_two ⟨rfl, by decide, .inl B.xg_Unfit⟩ ⟨rfl, by decide, .inl B.xg_Unlike⟩) (exm_all2 B.xm_Unfit B.xm_Unlike) (fun a pns => ss_one (sd_asgN (i := 3) nd rfl (.inl rfl) (pd_var (i := 5) rfl (.inl rfl)))) .nil)) (ss_cons (sd_if (td_isN (PD.weak (pd_var (i := 3) rfl (.inl rfl)))) (ss_one (sd_ret (pd_var (i := 4) rfl (.inl rfl)))) ss_nil) (ss_one (sd_ret (pd_if (td_val (pd_isK hK B.xk_Unlike (bn_any rfl B.isinstance boot_isinstance) rfl (pd_var (i := 3) rfl (.inl rfl)))) pd_str pd_str))))))
abbrev n_law_refused : List Str := ["_law_one_so", "_law_two_so", "_law_caught", "error"]
abbrev p_law_refused : List Str := ["_law_one_so", "_law_two_so"]
theorem sc_law_refused : FnScope n_law_refused p_law_refused (defScope s_law_refused) := ⟨rfl, rfl, rfl, by decide +kernel, rfl, by decide +kernel, by decide +kernel⟩
theorem b_law_refused : BindsOk "_law_refused" s_law_refused p_law_refused := fun _ _ _ _ _ _ us hl => match us, hl with | [_, _], _ => rfl
def t_law_refused_1 : DS := (sExpr (eCall f_how_many_orders [.e (eVar 0), .e (eVar 1)]))
def m_law_refused : DS := (sSeq (sAsgN 2 (eC .non)) (sSeq (sTryK "Unlike" 3 2 t_law_refused_1) (sRet (e1 (dIsX true) (eVar 2)))))
def f_law_refused : DF := mkF 4 [.val, .val] m_law_refused
theorem ok_law_refused {P : Program} {w : World} {K : PySem.W.Frag} {mg : Str → Option Value} {base : Heap} (hK : K = TheK.K) (B : Bf K mg) (F : Fu K mg "_law_refused" s_law_refused) (k_how_many_orders : Kn P w K mg base .s "how_many_orders" s_how_many_orders n_how_many_orders p_how_many_orders [.val, .val] f_how_many_orders 5) : Kn P w K mg base .s "_law_refused" s_law_refused n_law_refused p_law_refused [.val, .val] f_law_refused 6 := kn_of F sc_law_refused rfl b_law_refused (.inl ⟨rfl, rfl⟩) fun f cdv A outer s H E hr tk hp => by
  have nd : n_law_refused.Nodup := sc_law_refused.nd
  have hc : (cxD P w K mg base n_law_refused "_law_refused" (defScope s_law_refused) f cdv A outer s H E).calm = true := rfl
  have hu := room_u hr
  exact (ss_cons (sd_asgN (i := 2) nd rfl (.inl rfl) pd_non) (ss_cons (sd_tryK (i := 3) (j := 2) rfl rfl rfl nd rfl rfl rfl rfl (by decide) hK rfl (by decide) B.xg_Unlike B.xm_Unlike tk (fun W pn xe tk hp => (ss_one (sd_expr (pd_call (k_how_many_orders.fn hr) tk rfl (ga_val (pd_var (i := 0) rfl (.inl rfl)) (ga_val (pd_var (i := 1) rfl (.inl rfl)) ga_nil))))))) (ss_one (sd_ret (pd_isX (v := true) hK B.xv (bn_any rfl B.isinstance boot_isinstance) (bn_any rfl B.ValueError boot_ValueError) (pd_var (i := 2) rfl (.inl rfl)))))))
abbrev n_law_doors_right : List Str := ["_law_near_so", "_law_nest_so", "_law_one_so", "_law_odd_so", "_law_got", "_law_due_so", "_law_own"]
abbrev p_law_doors_right : List Str := ["_law_near_so", "_law_nest_so", "_law_one_so"]
theorem sc_law_doors_right : FnScope n_law_doors_right p_law_doors_right (defScope s_law_doors_right) := ⟨rfl, rfl, rfl, by decide +kernel, rfl, by decide +kernel, by decide +kernel⟩
theorem b_law_doors_right : BindsOk "_law_doors_right" s_law_doors_right p_law_doors_right := fun _ _ _ _ _ _ us hl => match us, hl with | [_, _, _], _ => rfl
def c_law_doors_right_1 : DE := (eLc [6] (iSeq (eVar 3)) (gN 6) tYes (eCall f_law_heard [.e (eVar 1), .e (eVar 0), .e (eVar 6)]))
def c_law_doors_right_2 : DE := (eLc [6] (iSeq (eVar 3)) (gN 6) tYes (eCall f_law_heard [.e (eVar 0), .e (eVar 0), .e (eVar 6)]))
def c_law_doors_right_3 : DE := (eLc [6] (iSeq (eVar 3)) (gN 6) tYes (eCall f_law_heard [.e (eTup (aCons (eC (.int 3)) (aCons (eTup aNil) aNil))), .e (eTup (aCons (eC (.int 3)) (aCons (eTup aNil) aNil))), .e (eVar 6)]))
def m_law_doors_right : DS := (sSeq (sAsgN 3 (eLst (aCons (eTup (aCons (eC (.int 0)) (aCons (eC (.int 1)) aNil))) (aCons (eTup (aCons (eC (.int 0)) (aCons (eC (.int 1)) (aCons (eC (.int 1)) aNil)))) (aCons (eTup (aCons (eC (.int 0)) (aCons (eC (.int 1)) (aCons (eC (.int 3)) aNil)))) (aCons (eTup (aCons (eC (.int 1)) (aCons (eC (.int 2)) (aCons (eC (.int 3)) aNil)))) (aCons (eTup aNil) (aCons (eTup (aCons (eC (.int 0)) (aCons (eC (.int 1)) (aCons (eC (.int 2)) (aCons (eC (.int 0)) aNil))))) (aCons (eTup (aCons (e1 dNeg (eC (.int 1))) (aCons (eC (.int 0)) (aCons (eC (.int 1)) aNil)))) (aCons (eTup (aCons (eC (.int 0)) (aCons (eC (.int 1)) (aCons (eC (.int 2)) (aCons (eC (.int 3)) aNil))))) aNil)))))))))) (sSeq (sOwn 4 (eLst (aCons c_law_doors_right_1 (aCons c_law_doors_right_2 aNil)))) (sSeq (sAsgN 5 (eLst (aCons (e2 dMul (eLst (aCons (eC (.str "unfit")) aNil)) (eC (.int 8))) (aCons (e2 dMul (eLst (aCons (eC (.str "unfit")) aNil)) (eC (.int 8))) (aCons (e2 dMul (eLst (aCons (eC (.str "unfit")) aNil)) (eC (.int 8))) aNil))))) (sSeq (sApp 4 c_law_doors_right_3) (sSeq (sRelL 4) (sSeq (sOwn 4 (e2 dAddL (eVar 4) (eLst (aCons (eCall f_law_heard [.e (eVar 0), .e (eVar 2), .e (eTup (aCons (eC (.int 0)) (aCons (eC (.int 1)) (aCons (eC (.int 2)) aNil))))]) (aCons (eCall f_law_heard [.e (eVar 0), .e (eVar 2), .e (eTup (aCons (eC (.int 0)) aNil))]) (aCons (eCall f_law_heard [.e (eVar 0), .e (eVar 2), .e (eTup (aCons (eC (.int 5)) (aCons (eC (.int 5)) aNil)))]) aNil)))))) (sSeq (sRelL 4) (sSeq (sAsgN 5 (e2 dAdd (eVar 5) (e2 dMul (eLst (aCons (eC (.str "unlike")) aNil)) (eC (.int 3))))) (sRet (eCall (f_law_same 30) [.e (e2 dAdd (eVar 4) (eLst (aCons (eCall f_law_refused [.e (eVar 0), .e (eVar 2)]) (aCons (eCall f_law_refused [.e (eVar 0), .e (eVar 1)]) aNil)))), .e (e2 dAdd (eVar 5) (eLst (aCons (eC (.bl true)) (aCons (eC (.bl false)) aNil))))]))))))))))
def f_law_doors_right : DF := mkF 7 [.val, .val, .val] m_law_doors_right
theorem ok_law_doors_right {P : Program} {w : World} {K : PySem.W.Frag} {mg : Str → Option Value} {base : Heap} (hK : K = TheK.K) (B : Bf K mg) (F : Fu K mg "_law_doors_right" s_law_doors_right) (k_law_same : Kn P w K mg base .s "_law_same" s_law_same n_law_same p_law_same [.val, .val] (f_law_same 30) 31) (k_law_heard : Kn P w K mg base .s "_law_heard" s_law_heard n_law_heard p_law_heard [.val, .val, .val] f_law_heard 6) (k_law_refused : Kn P w K mg base .s "_law_refused" s_law_refused n_law_refused p_law_refused [.val, .val] f_law_refused 6) : Kn P w K mg base .s "_law_doors_right" s_law_doors_right n_law_doors_right p_law_doors_right [.val, .val, .val] f_law_doors_right 32 := kn_of F sc_law_doors_right rfl b_law_doors_right (.inl ⟨rfl, rfl⟩) fun f cdv A outer s H E hr tk hp => by
  have nd : n_law_doors_right.Nodup := sc_law_doors_right.nd
  have hc : (cxD P w K mg base n_law_doors_right "_law_doors_right" (defScope s_law_doors_right) f cdv A outer s H E).calm = true := rfl
  have hu := room_u hr
  exact (ss_cons (sd_asgN (i := 3) nd rfl (.inl rfl) (PD.str (pd_lst (ad_cons (pd_tup (ad_cons pd_int (ad_cons pd_int ad_nil))) (ad_cons (pd_tup (ad_cons pd_int (ad_cons pd_int (ad_cons pd_int ad_nil)))) (ad_cons (pd_tup (ad_cons pd_int (ad_cons pd_int (ad_cons pd_int ad_nil)))) (ad_cons (pd_tup (ad_cons pd_int (ad_cons pd_int (ad_cons pd_int ad_nil)))) (ad_cons (pd_tup ad_nil) (ad_cons (pd_tup (ad_cons pd_int (ad_cons pd_int (ad_cons pd_int (ad_cons pd_int ad_nil))))) (ad_cons (pd_tup (ad_cons (pd_neg pd_int) (ad_cons pd_int (ad_cons pd_int ad_nil)))) (ad_cons (pd_tup (ad_cons pd_int (ad_cons pd_int (ad_cons pd_int (ad_cons pd_int ad_nil))))) ad_nil))))))))))) (ss_cons (sd_own (i := 4) nd rfl (.inl rfl) (pd_lst (ad_cons (PD.str (pd_lc (own := [("_law_own", 6)]) hc nd (by kernel_rfl) rfl (id_seq (pd_var (i := 3) rfl (.inl rfl))) (fun s H C cl fp => (gd_name (i := 6) nd rfl (.inl rfl))) (fun s H C cl fp => cd_nil) (fun s H C cl fp => (pd_call (k_law_heard.fn hr) tkNone rfl (ga_val (pd_var (i := 1) rfl (.inr (.inl rfl))) (ga_val (pd_var (i := 0) rfl (.inr (.inl rfl))) (ga_val (pd_var (i := 6) rfl (.inl rfl)) ga_nil))))))) (ad_cons (PD.str (pd_lc (own := [("_law_own", 6)]) hc nd (by kernel_rfl) rfl (id_seq (pd_var (i := 3) rfl (.inl rfl))) (fun s H C cl fp => (gd_name (i := 6) nd rfl (.inl rfl))) (fun s H C cl fp => cd_nil) (fun s H C cl fp => (pd_call (k_law_heard.fn hr) tkNone rfl (ga_val (pd_var (i := 0) rfl (.inr (.inl rfl))) (ga_val (pd_var (i := 0) rfl (.inr (.inl rfl))) (ga_val (pd_var (i := 6) rfl (.inl rfl)) ga_nil))))))) ad_nil)))) (ss_cons (sd_asgN (i := 5) nd rfl (.inl rfl) (PD.str (pd_lst (ad_cons (pd_mul (PD.str (pd_lst (ad_cons pd_str ad_nil))) pd_int) (ad_cons (pd_mul (PD.str (pd_lst (ad_cons pd_str ad_nil))) pd_int) (ad_cons (pd_mul (PD.str (pd_lst (ad_cons pd_str ad_nil))) pd_int) ad_nil)))))) (ss_cons (sd_app (i := 4) rfl (.inl rfl) (PD.str (pd_lc (own := [("_law_own", 6)]) hc nd (by kernel_rfl) rfl (id_seq (pd_var (i := 3) rfl (.inl rfl))) (fun s H C cl fp => (gd_name (i := 6) nd rfl (.inl rfl))) (fun s H C cl fp => cd_nil) (fun s H C cl fp => (pd_call (k_law_heard.fn hr) tkNone rfl (ga_val (pd_tup (ad_cons pd_int (ad_cons (pd_tup ad_nil) ad_nil))) (ga_val (pd_tup (ad_cons pd_int (ad_cons (pd_tup ad_nil) ad_nil))) (ga_val (pd_var (i := 6) rfl (.inl rfl)) ga_nil)))))))) (ss_rel (i := 4) (ss_cons (sd_own (i := 4) nd rfl (.inl rfl) (pd_addL (pd_var (i := 4) rfl (.inl rfl)) (PD.str (pd_lst (ad_cons (pd_call (k_law_heard.fn hr) tk rfl (ga_val (pd_var (i := 0) rfl (.inr (.inl rfl))) (ga_val (pd_var (i := 2) rfl (.inl rfl)) (ga_val (pd_tup (ad_cons pd_int (ad_cons pd_int (ad_cons pd_int ad_nil)))) ga_nil)))) (ad_cons (pd_call (k_law_heard.fn hr) tk rfl (ga_val (pd_var (i := 0) rfl (.inr (.inl rfl))) (ga_val (pd_var (i := 2) rfl (.inl rfl)) (ga_val (pd_tup (ad_cons pd_int ad_nil)) ga_nil)))) (ad_cons (pd_call (k_law_heard.fn hr) tk rfl (ga_val (pd_var (i := 0) rfl (.inr (.inl rfl))) (ga_val (pd_var (i := 2) rfl (.inl rfl)) (ga_val (pd_tup (ad_cons pd_int (ad_cons pd_int ad_nil))) ga_nil)))) ad_nil))))))) (ss_rel (i := 4) (ss_cons (sd_asgN (i := 5) nd rfl (.inl rfl) (pd_add (pd_var (i := 5) rfl (.inl rfl)) (pd_mul (PD.str (pd_lst (ad_cons pd_str ad_nil))) pd_int))) (ss_one (sd_ret (pd_call (k_law_same.fn hr) tk rfl (ga_val (pd_add (pd_var (i := 4) rfl (.inl rfl)) (PD.str (pd_lst (ad_cons (pd_call (k_law_refused.fn hr) tk rfl (ga_val (pd_var (i := 0) rfl (.inr (.inl rfl))) (ga_val (pd_var (i := 2) rfl (.inl rfl)) ga_nil))) (ad_cons (pd_call (k_law_refused.fn hr) tk rfl (ga_val (pd_var (i := 0) rfl (.inr (.inl rfl))) (ga_val (pd_var (i := 1) rfl (.inr (.inl rfl))) ga_nil))) ad_nil))))) (ga_val (pd_add (pd_var (i := 5) rfl (.inl rfl)) (PD.str (pd_lst (ad_cons pd_bl (ad_cons pd_bl ad_nil))))) ga_nil)))))))))))))
abbrev n_law_lists : List Str := ["_law_matter", "_law_bit"]
abbrev p_law_lists : List Str := ["_law_matter"]
theorem sc_law_lists : FnScope n_law_lists p_law_lists (defScope s_law_lists) := ⟨rfl, rfl, rfl, by decide +kernel, rfl, by decide +kernel, by decide +kernel⟩
theorem b_law_lists : BindsOk "_law_lists" s_law_lists p_law_lists := fun _ _ _ _ _ _ us hl => match us, hl with | [_], _ => rfl
theorem ok_law_lists {P : Program} {w : World} {K : PySem.W.Frag} {mg : Str → Option Value} {base : Heap} (hK : K = TheK.K) (B : Bf K mg) (F : Fu K mg "_law_lists" s_law_lists) : ∀ n : Nat, Kn P w K mg base .s "_law_lists" s_law_lists n_law_lists p_law_lists [.val] (f_law_lists n) (1 + n)
  | 0 => kn_bad F rfl b_law_lists
  | n + 1 => kn_of F sc_law_lists rfl b_law_lists (.inl ⟨rfl, rfl⟩) fun f cdv A outer s H E hr tk hp => by
    have k_law_lists := ok_law_lists (P := P) (w := w) (base := base) hK B F n
    have nd : n_law_lists.Nodup := sc_law_lists.nd
    have hc : (cxD P w K mg base n_law_lists "_law_lists" (defScope s_law_lists) f cdv A outer s H E).calm = true := rfl
    have hu := room_u hr
    exact (ss_one (sd_ret (pd_if (td_val (pd_isi2 (t := .list) (u := .tuple) (bn_any rfl B.isinstance boot_isinstance) (bn_any rfl B.list boot_list) (bn_any rfl B.tuple boot_tuple) (pd_var (i := 0) rfl (.inl rfl)))) (PD.str (pd_lc (own := [("_law_bit", 1)]) hc nd (by kernel_rfl) rfl (id_seq (pd_var (i := 0) rfl (.inl rfl))) (fun s H C cl fp => (gd_name (i := 1) nd rfl (.inl rfl))) (fun s H C cl fp => cd_nil) (fun s H C cl fp => (pd_call (k_law_lists.fn hr (Nat.le_refl _)) tkNone rfl (ga_val (pd_var (i := 1) rfl (.inl rfl)) ga_nil))))) (pd_var (i := 0) rfl (.inl rfl)))))
abbrev n_law_by_hand_right : List Str := ["_law_near_so", "_law_nest_so", "_law_far_so", "_law_rows_so", "_law_got", "_law_due_so", "_law_early_so", "_law_late_so", "_law_one_so", "_law_eight_so", "_law_wide_so", "_law_own"]
abbrev p_law_by_hand_right : List Str := []
theorem sc_law_by_hand_right : FnScope n_law_by_hand_right p_law_by_hand_right (defScope s_law_by_hand_right) := ⟨rfl, rfl, rfl, by decide +kernel, rfl, by decide +kernel, by decide +kernel⟩
theorem b_law_by_hand_right : BindsOk "_law_by_hand_right" s_law_by_hand_right p_law_by_hand_right := fun _ _ _ _ _ _ us hl => match us, hl with | [], _ => rfl
def c_law_by_hand_right_1 : DE := (eLc [11] (iSeq (eVar 3)) (gN 11) tYes (eCall f_never_dearer_in [.e (eVar 1), .e (eVar 0), .e (eVar 11)]))
def c_law_by_hand_right_2 : DE := (eLc [11] (iSeq (eVar 3)) (gN 11) tYes (eCall f_never_dearer_in [.e (eVar 0), .e (eVar 1), .e (eVar 11)]))
def c_law_by_hand_right_3 : DE := (eLc [11] (iSeq (eVar 3)) (gN 11) tYes (eCall f_never_dearer_in [.e (eVar 6), .e (eVar 7), .e (eVar 11)]))
def m_law_by_hand_right : DS := (sSeq (sAsg (eTup (aCons (eTup (aCons (eC (.int 3)) (aCons (eTup (aCons (eTup (aCons (eTup (aCons (eC (.int 0)) (aCons (eC (.int 1)) aNil))) (aCons (eC (.int 1)) aNil))) (aCons (eTup (aCons (eTup (aCons (eC (.int 1)) (aCons (eC (.int 2)) aNil))) (aCons (eC (.int 1)) aNil))) aNil))) aNil))) (aCons (eTup (aCons (eC (.int 3)) (aCons (eTup (aCons (eTup (aCons (eTup (aCons (eC (.int 0)) (aCons (eC (.int 2)) aNil))) (aCons (eC (.int 1)) aNil))) (aCons (eTup (aCons (eTup (aCons (eC (.int 1)) (aCons (eC (.int 1)) aNil))) (aCons (eC (.int 1)) aNil))) aNil))) aNil))) (aCons (e2 dPow (eC (.int 10)) (eC (.int 40))) aNil)))) (gT (gsCons (gN 0) (gsCons (gN 1) (gsCons (gN 2) gsNil))))) (sSeq (sAsgN 3 (eLst (aCons (eTup (aCons (eC (.int 0)) (aCons (eC (.int 1)) (aCons (eC (.int 2)) aNil)))) (aCons (eTup (aCons (eC (.int 0)) (aCons (eC (.int 2)) (aCons (eC (.int 1)) aNil)))) (aCons (eTup (aCons (eC (.int 1)) (aCons (eC (.int 0)) (aCons (eC (.int 2)) aNil)))) (aCons (eTup (aCons (eC (.int 1)) (aCons (eC (.int 2)) (aCons (eC (.int 0)) aNil)))) (aCons (eTup (aCons (eC (.int 2)) (aCons (eC (.int 0)) (aCons (eC (.int 1)) aNil)))) (aCons (eTup (aCons (eC (.int 2)) (aCons (eC (.int 1)) (aCons (eC (.int 0)) aNil)))) aNil)))))))) (sSeq (sOwn 4 (eLst (aCons c_law_by_hand_right_1 (aCons c_law_by_hand_right_2 aNil)))) (sSeq (sAsgN 5 (eLst (aCons (eLst (aCons (eC (.bl true)) (aCons (eC (.bl false)) (aCons (eC (.bl true)) (aCons (eC (.bl true)) (aCons (eC (.bl false)) (aCons (eC (.bl true)) aNil))))))) (aCons (e2 dMul (eLst (aCons (eC (.bl true)) aNil)) (eC (.int 6))) aNil)))) (sSeq (sOwn 4 (eAddO 4 (eLst (aCons (eCall f_how_many_orders [.e (eVar 1), .e (eVar 0)]) (aCons (eCall f_how_many_orders [.e (eVar 0), .e (eVar 1)]) (aCons (eCall f_how_many_orders [.e (eVar 0), .e (eVar 0)]) aNil)))))) (sSeq (sAsgN 5 (e2 dAdd (eVar 5) (eLst (aCons (eC (.int 4)) (aCons (eC (.int 6)) (aCons (eC (.int 6)) aNil)))))) (sSeq (sAsg (eTup (aCons (eTup (aCons (eC (.int 3)) (aCons (eTup (aCons (eTup (aCons (eTup (aCons (eC (.int 0)) (aCons (eC (.int 0)) aNil))) (aCons (eC (.int 1)) aNil))) aNil)) aNil))) (aCons (eTup (aCons (eC (.int 3)) (aCons (eTup (aCons (eTup (aCons (eTup (aCons (eC (.int 2)) (aCons (eC (.int 2)) aNil))) (aCons (eC (.int 1)) aNil))) aNil)) aNil))) (aCons (eTup (aCons (eC (.int 1)) (aCons (eTup (aCons (eTup (aCons (eTup (aCons (eC (.int 0)) (aCons (eC (.int 0)) aNil))) (aCons (eVar 2) aNil))) aNil)) aNil))) aNil)))) (gT (gsCons (gN 6) (gsCons (gN 7) (gsCons (gN 8) gsNil))))) (sSeq (sOwn 4 (eAddO 4 (eLst (aCons c_law_by_hand_right_3 (aCons (eCall f_how_many_orders [.e (eVar 6), .e (eVar 7)]) aNil))))) (sSeq (sAsgN 5 (e2 dAdd (eVar 5) (eLst (aCons (eLst (aCons (eC (.bl true)) (aCons (eC (.bl true)) (aCons (eC (.bl true)) (aCons (eC (.bl false)) (aCons (eC (.bl false)) (aCons (eC (.bl false)) aNil))))))) (aCons (eC (.int 3)) aNil))))) (sSeq (sOwn 4 (eAddO 4 (eLst (aCons (eCall f_how_many_orders [.e (eTup (aCons (eC (.int 3)) (aCons (eTup (aCons (eTup (aCons (eTup (aCons (eC (.int 0)) (aCons (eC (.int 2)) aNil))) (aCons (eC (.int 3)) aNil))) aNil)) aNil))), .e (eVar 0)]) (aCons (eCall f_how_many_orders [.e (eTup (aCons (eC (.int 6)) (aCons (eTup aNil) aNil))), .e (eTup (aCons (eC (.int 6)) (aCons (eTup aNil) aNil)))]) (aCons (eCall f_how_many_orders [.e (eTup (aCons (eC (.int 6)) (aCons (eTup (aCons (eTup (aCons (eTup (aCons (eC (.int 0)) (aCons (eC (.int 5)) aNil))) (aCons (eC (.int 1)) aNil))) aNil)) aNil))), .e (eTup (aCons (eC (.int 6)) (aCons (eTup aNil) aNil)))]) aNil)))))) (sSeq (sAsgN 5 (e2 dAdd (eVar 5) (eLst (aCons (eC (.int 0)) (aCons (eC (.int 720)) (aCons (eC (.int 0)) aNil)))))) (sSeq (sPar [(9, false), (10, false)] [.e (eTup (aCons (eC (.int 8)) (aCons (eTup (aCons (eTup (aCons (eTup (aCons (eC (.int 3)) (aCons (eC (.int 3)) aNil))) (aCons (eVar 2) aNil))) aNil)) aNil))), .e (eTup (aCons (eC (.int 8)) (aCons (eTup (aCons (eTup (aCons (eTup (aCons (eC (.int 2)) (aCons (eC (.int 4)) aNil))) (aCons (eVar 2) aNil))) aNil)) aNil)))]) (sSeq (sOwn 4 (eAddO 4 (eLst (aCons (eCall f_how_many_orders [.e (eVar 9), .e (eVar 10)]) (aCons (eCall f_how_many_orders [.e (eTup (aCons (eC (.int 6)) (aCons (e2 dIx (eVar 10) (eC (.int 1))) aNil))), .e (eTup (aCons (eC (.int 6)) (aCons (e2 dIx (eVar 9) (eC (.int 1))) aNil)))]) (aCons (eCall f_how_many_orders [.e (eVar 8), .e (eVar 8)]) aNil)))))) (sSeq (sAsgN 5 (e2 dAdd (eVar 5) (eLst (aCons (eC (.int 13440)) (aCons (eC (.int 720)) (aCons (eC (.int 1)) aNil)))))) (sSeq (sOwn 4 (eAddO 4 (eLst (aCons (eCall f_never_dearer_in [.e (eVar 8), .e (eTup (aCons (eC (.int 1)) (aCons (eTup aNil) aNil))), .e (eTup (aCons (eC (.int 0)) aNil))]) (aCons (eCall f_never_dearer_in [.e (eTup (aCons (eC (.int 1)) (aCons (eTup aNil) aNil))), .e (eVar 8), .e (eTup (aCons (eC (.int 0)) aNil))]) (aCons (eCall f_how_many_orders [.e (eVar 8), .e (eTup (aCons (eC (.int 1)) (aCons (eTup aNil) aNil)))]) aNil)))))) (sSeq (sAsgN 5 (e2 dAdd (eVar 5) (eLst (aCons (eC (.bl false)) (aCons (eC (.bl true)) (aCons (eC (.int 0)) aNil)))))) (sSeq (sApp 4 (eCallK f_never_dearer_in [2, 1, 0] (aCons (eLst (aCons (eC (.int 0)) (aCons (eC (.int 1)) (aCons (eC (.int 2)) aNil)))) (aCons (eCall (f_law_lists 30) [.e (eVar 0)]) (aCons (eCall (f_law_lists 30) [.e (eVar 1)]) aNil))))) (sSeq (sApp 4 (eCallK f_how_many_orders [1, 0] (aCons (eCall (f_law_lists 30) [.e (eVar 0)]) (aCons (eCall (f_law_lists 30) [.e (eVar 1)]) aNil)))) (sSeq (sRelL 4) (sSeq (sAsgN 5 (e2 dAdd (eVar 5) (eLst (aCons (eC (.bl true)) (aCons (eC (.int 4)) aNil))))) (sRet (eAnd (eCall (f_law_same 30) [.e (eVar 4), .e (eVar 5)]) (eCall f_law_doors_right [.e (eVar 0), .e (eVar 1), .e (eVar 8)])))))))))))))))))))))))
def f_law_by_hand_right : DF := mkF 12 [] m_law_by_hand_right
theorem ok_law_by_hand_right {P : Program} {w : World} {K : PySem.W.Frag} {mg : Str → Option Value} {base : Heap} (hK : K = TheK.K) (B : Bf K mg) (F : Fu K mg "_law_by_hand_right" s_law_by_hand_right) (k_never_dearer_in : Kn P w K mg base .s "never_dearer_in" s_never_dearer_in n_never_dearer_in p_never_dearer_in [.val, .val, .val] f_never_dearer_in 5) (k_how_many_orders : Kn P w K mg base .s "how_many_orders" s_how_many_orders n_how_many_orders p_how_many_orders [.val, .val] f_how_many_orders 5) (k_law_same : Kn P w K mg base .s "_law_same" s_law_same n_law_same p_law_same [.val, .val] (f_law_same 30) 31) (k_law_doors_right : Kn P w K mg base .s "_law_doors_right" s_law_doors_right n_law_doors_right p_law_doors_right [.val, .val, .val] f_law_doors_right 32) (k_law_lists : Kn P w K mg base .s "_law_lists" s_law_lists n_law_lists p_law_lists [.val] (f_law_lists 30) 31) : Kn P w K mg base .s "_law_by_hand_right" s_law_by_hand_right n_law_by_hand_right p_law_by_hand_right [] f_law_by_hand_right 33 := kn_of F sc_law_by_hand_right rfl b_law_by_hand_right (.inl ⟨rfl, rfl⟩) fun f cdv A outer s H E hr tk hp => by
  have nd : n_law_by_hand_right.Nodup := sc_law_by_hand_right.nd
  have hc : (cxD P w K mg base n_law_by_hand_right "_law_by_hand_right" (defScope s_law_by_hand_right) f cdv A outer s H E).calm = true := rfl
  have hu := room_u hr
  exact (ss_cons (sd_asgT (pd_tup (ad_cons (pd_tup (ad_cons pd_int (ad_cons (pd_tup (ad_cons (pd_tup (ad_cons (pd_tup (ad_cons pd_int (ad_cons pd_int ad_nil))) (ad_cons pd_int ad_nil))) (ad_cons (pd_tup (ad_cons (pd_tup (ad_cons pd_int (ad_cons pd_int ad_nil))) (ad_cons pd_int ad_nil))) ad_nil))) ad_nil))) (ad_cons (pd_tup (ad_cons pd_int (ad_cons (pd_tup (ad_cons (pd_tup (ad_cons (pd_tup (ad_cons pd_int (ad_cons pd_int ad_nil))) (ad_cons pd_int ad_nil))) (ad_cons (pd_tup (ad_cons (pd_tup (ad_cons pd_int (ad_cons pd_int ad_nil))) (ad_cons pd_int ad_nil))) ad_nil))) ad_nil))) (ad_cons (pd_pow pd_int pd_int) ad_nil)))) (gd_tup (n := 3) hc (gsd_cons (gd_name (i := 0) nd rfl (.inr rfl)) (gsd_cons (gd_name (i := 1) nd rfl (.inr rfl)) (gsd_cons (gd_name (i := 2) nd rfl (.inl rfl)) gsd_nil))) (gs_lenS (gs_lenS (gs_lenS gs_len0))))) (ss_cons (sd_asgN (i := 3) nd rfl (.inl rfl) (PD.str (pd_lst (ad_cons (pd_tup (ad_cons pd_int (ad_cons pd_int (ad_cons pd_int ad_nil)))) (ad_cons (pd_tup (ad_cons pd_int (ad_cons pd_int (ad_cons pd_int ad_nil)))) (ad_cons (pd_tup (ad_cons pd_int (ad_cons pd_int (ad_cons pd_int ad_nil)))) (ad_cons (pd_tup (ad_cons pd_int (ad_cons pd_int (ad_cons pd_int ad_nil)))) (ad_cons (pd_tup (ad_cons pd_int (ad_cons pd_int (ad_cons pd_int ad_nil)))) (ad_cons (pd_tup (ad_cons pd_int (ad_cons pd_int (ad_cons pd_int ad_nil)))) ad_nil))))))))) (ss_cons (sd_own (i := 4) nd rfl (.inl rfl) (pd_lst (ad_cons (PD.str (pd_lc (own := [("_law_own", 11)]) hc nd (by kernel_rfl) rfl (id_seq (pd_var (i := 3) rfl (.inl rfl))) (fun s H C cl fp => (gd_name (i := 11) nd rfl (.inl rfl))) (fun s H C cl fp => cd_nil) (fun s H C cl fp => (pd_call (k_never_dearer_in.fn hr) tkNone rfl (ga_val (pd_var (i := 1) rfl (.inr (.inl rfl))) (ga_val (pd_var (i := 0) rfl (.inr (.inl rfl))) (ga_val (pd_var (i := 11) rfl (.inl rfl)) ga_nil))))))) (ad_cons (PD.str (pd_lc (own := [("_law_own", 11)]) hc nd (by kernel_rfl) rfl (id_seq (pd_var (i := 3) rfl (.inl rfl))) (fun s H C cl fp => (gd_name (i := 11) nd rfl (.inl rfl))) (fun s H C cl fp => cd_nil) (fun s H C cl fp => (pd_call (k_never_dearer_in.fn hr) tkNone rfl (ga_val (pd_var (i := 0) rfl (.inr (.inl rfl))) (ga_val (pd_var (i := 1) rfl (.inr (.inl rfl))) (ga_val (pd_var (i := 11) rfl (.inl rfl)) ga_nil))))))) ad_nil)))) (ss_cons (sd_asgN (i := 5) nd rfl (.inl rfl) (PD.str (pd_lst (ad_cons (PD.str (pd_lst (ad_cons pd_bl (ad_cons pd_bl (ad_cons pd_bl (ad_cons pd_bl (ad_cons pd_bl (ad_cons pd_bl ad_nil)))))))) (ad_cons (pd_mul (PD.str (pd_lst (ad_cons pd_bl ad_nil))) pd_int) ad_nil))))) (ss_cons (sd_own (i := 4) nd rfl (.inl rfl) (pd_addO (i := 4) rfl (.inl rfl) (PD.str (pd_lst (ad_cons (pd_call (k_how_many_orders.fn hr) tk rfl (ga_val (pd_var (i := 1) rfl (.inr (.inl rfl))) (ga_val (pd_var (i := 0) rfl (.inr (.inl rfl))) ga_nil))) (ad_cons (pd_call (k_how_many_orders.fn hr) tk rfl (ga_val (pd_var (i := 0) rfl (.inr (.inl rfl))) (ga_val (pd_var (i := 1) rfl (.inr (.inl rfl))) ga_nil))) (ad_cons (pd_call (k_how_many_orders.fn hr) tk rfl (ga_val (pd_var (i := 0) rfl (.inr (.inl rfl))) (ga_val (pd_var (i := 0) rfl (.inr (.inl rfl))) ga_nil))) ad_nil))))))) (ss_cons (sd_asgN (i := 5) nd rfl (.inl rfl) (pd_add (pd_var (i := 5) rfl (.inl rfl)) (PD.str (pd_lst (ad_cons pd_int (ad_cons pd_int (ad_cons pd_int ad_nil))))))) (ss_cons (sd_asgT (pd_tup (ad_cons (pd_tup (ad_cons pd_int (ad_cons (pd_tup (ad_cons (pd_tup (ad_cons (pd_tup (ad_cons pd_int (ad_cons pd_int ad_nil))) (ad_cons pd_int ad_nil))) ad_nil)) ad_nil))) (ad_cons (pd_tup (ad_cons pd_int (ad_cons (pd_tup (ad_cons (pd_tup (ad_cons (pd_tup (ad_cons pd_int (ad_cons pd_int ad_nil))) (ad_cons pd_int ad_nil))) ad_nil)) ad_nil))) (ad_cons (pd_tup (ad_cons pd_int (ad_cons (pd_tup (ad_cons (pd_tup (ad_cons (pd_tup (ad_cons pd_int (ad_cons pd_int ad_nil))) (ad_cons (pd_var (i := 2) rfl (.inl rfl)) ad_nil))) ad_nil)) ad_nil))) ad_nil)))) (gd_tup (n := 3) hc (gsd_cons (gd_name (i := 6) nd rfl (.inr rfl)) (gsd_cons (gd_name (i := 7) nd rfl (.inr rfl)) (gsd_cons (gd_name (i := 8) nd rfl (.inl rfl)) gsd_nil))) (gs_lenS (gs_lenS (gs_lenS gs_len0))))) (ss_cons (sd_own (i := 4) nd rfl (.inl rfl) (pd_addO (i := 4) rfl (.inl rfl) (PD.str (pd_lst (ad_cons (PD.str (pd_lc (own := [("_law_own", 11)]) hc nd (by kernel_rfl) rfl (id_seq (pd_var (i := 3) rfl (.inl rfl))) (fun s H C cl fp => (gd_name (i := 11) nd rfl (.inl rfl))) (fun s H C cl fp => cd_nil) (fun s H C cl fp => (pd_call (k_never_dearer_in.fn hr) tkNone rfl (ga_val (pd_var (i := 6) rfl (.inr (.inl rfl))) (ga_val (pd_var (i := 7) rfl (.inr (.inl rfl))) (ga_val (pd_var (i := 11) rfl (.inl rfl)) ga_nil))))))) (ad_cons (pd_call (k_how_many_orders.fn hr) tk rfl (ga_val (pd_var (i := 6) rfl (.inr (.inl rfl))) (ga_val (pd_var (i := 7) rfl (.inr (.inl rfl))) ga_nil))) ad_nil)))))) (ss_cons (sd_asgN (i := 5) nd rfl (.inl rfl) (pd_add (pd_var (i := 5) rfl (.inl rfl)) (PD.str (pd_lst (ad_cons (PD.str (pd_lst (ad_cons pd_bl (ad_cons pd_bl (ad_cons pd_bl (ad_cons pd_bl (ad_cons pd_bl (ad_cons pd_bl ad_nil)))))))) (ad_cons pd_int ad_nil)))))) (ss_cons (sd_own (i := 4) nd rfl (.inl rfl) (pd_addO (i := 4) rfl (.inl rfl) (PD.str (pd_lst (ad_cons (pd_call (k_how_many_orders.fn hr) tk rfl (ga_val (pd_tup (ad_cons pd_int (ad_cons (pd_tup (ad_cons (pd_tup (ad_cons (pd_tup (ad_cons pd_int (ad_cons pd_int ad_nil))) (ad_cons pd_int ad_nil))) ad_nil)) ad_nil))) (ga_val (pd_var (i := 0) rfl (.inr (.inl rfl))) ga_nil))) (ad_cons (pd_call (k_how_many_orders.fn hr) tk rfl (ga_val (pd_tup (ad_cons pd_int (ad_cons (pd_tup ad_nil) ad_nil))) (ga_val (pd_tup (ad_cons pd_int (ad_cons (pd_tup ad_nil) ad_nil))) ga_nil))) (ad_cons (pd_call (k_how_many_orders.fn hr) tk rfl (ga_val (pd_tup (ad_cons pd_int (ad_cons (pd_tup (ad_cons (pd_tup (ad_cons (pd_tup (ad_cons pd_int (ad_cons pd_int ad_nil))) (ad_cons pd_int ad_nil))) ad_nil)) ad_nil))) (ga_val (pd_tup (ad_cons pd_int (ad_cons (pd_tup ad_nil) ad_nil))) ga_nil))) ad_nil))))))) (ss_cons (sd_asgN (i := 5) nd rfl (.inl rfl) (pd_add (pd_var (i := 5) rfl (.inl rfl)) (PD.str (pd_lst (ad_cons pd_int (ad_cons pd_int (ad_cons pd_int ad_nil))))))) (ss_cons (sd_par2 (i := 9) (j := 10) hc nd rfl rfl (by decide) rfl rfl (ga_val (pd_tup (ad_cons pd_int (ad_cons (pd_tup (ad_cons (pd_tup (ad_cons (pd_tup (ad_cons pd_int (ad_cons pd_int ad_nil))) (ad_cons (pd_var (i := 2) rfl (.inl rfl)) ad_nil))) ad_nil)) ad_nil))) (ga_val (pd_tup (ad_cons pd_int (ad_cons (pd_tup (ad_cons (pd_tup (ad_cons (pd_tup (ad_cons pd_int (ad_cons pd_int ad_nil))) (ad_cons (pd_var (i := 2) rfl (.inl rfl)) ad_nil))) ad_nil)) ad_nil))) ga_nil)) rfl rfl) (ss_cons (sd_own (i := 4) nd rfl (.inl rfl) (pd_addO (i := 4) rfl (.inl rfl) (PD.str (pd_lst (ad_cons (pd_call (k_how_many_orders.fn hr) tk rfl (ga_val (pd_var (i := 9) rfl (.inl rfl)) (ga_val (pd_var (i := 10) rfl (.inl rfl)) ga_nil))) (ad_cons (pd_call (k_how_many_orders.fn hr) tk rfl (ga_val (pd_tup (ad_cons pd_int (ad_cons (pd_ix hu (pd_var (i := 10) rfl (.inl rfl)) pd_int) ad_nil))) (ga_val (pd_tup (ad_cons pd_int (ad_cons (pd_ix hu (pd_var (i := 9) rfl (.inl rfl)) pd_int) ad_nil))) ga_nil))) (ad_cons (pd_call (k_how_many_orders.fn hr) tk rfl (ga_val (pd_var (i := 8) rfl (.inl rfl)) (ga_val (pd_var (i := 8) rfl (.inl rfl)) ga_nil))) ad_nil))))))) (ss_cons (sd_asgN (i := 5) nd rfl (.inl rfl) (pd_add (pd_var (i := 5) rfl (.inl rfl)) (PD.str (pd_lst (ad_cons pd_int (ad_cons pd_int (ad_cons pd_int ad_nil))))))) (ss_cons (sd_own (i := 4) nd rfl (.inl rfl) (pd_addO (i := 4) rfl (.inl rfl) (PD.str (pd_lst (ad_cons (pd_call (k_never_dearer_in.fn hr) tk rfl (ga_val (pd_var (i := 8) rfl (.inl rfl)) (ga_val (pd_tup (ad_cons pd_int (ad_cons (pd_tup ad_nil) ad_nil))) (ga_val (pd_tup (ad_cons pd_int ad_nil)) ga_nil)))) (ad_cons (pd_call (k_never_dearer_in.fn hr) tk rfl (ga_val (pd_tup (ad_cons pd_int (ad_cons (pd_tup ad_nil) ad_nil))) (ga_val (pd_var (i := 8) rfl (.inl rfl)) (ga_val (pd_tup (ad_cons pd_int ad_nil)) ga_nil)))) (ad_cons (pd_call (k_how_many_orders.fn hr) tk rfl (ga_val (pd_var (i := 8) rfl (.inl rfl)) (ga_val (pd_tup (ad_cons pd_int (ad_cons (pd_tup ad_nil) ad_nil))) ga_nil))) ad_nil))))))) (ss_cons (sd_asgN (i := 5) nd rfl (.inl rfl) (pd_add (pd_var (i := 5) rfl (.inl rfl)) (PD.str (pd_lst (ad_cons pd_bl (ad_cons pd_bl (ad_cons pd_int ad_nil))))))) (ss_cons (sd_app (i := 4) rfl (.inl rfl) (pd_callK0 (k_never_dearer_in.fnK hr kb_never_dearer_in_0_order_other_one) tk rfl (kd_cons (PD.str (pd_lst (ad_cons pd_int (ad_cons pd_int (ad_cons pd_int ad_nil))))) (kd_cons (pd_call (k_law_lists.fn hr) tk rfl (ga_val (pd_var (i := 0) rfl (.inr (.inl rfl))) ga_nil)) (kd_cons (pd_call (k_law_lists.fn hr) tk rfl (ga_val (pd_var (i := 1) rfl (.inr (.inl rfl))) ga_nil)) kd_nil))) (fun e ds e2 h => have l := (aLenS (aLenS (aLenS (fun _ _ _ h => aLen0 h)))) e ds e2 h; ⟨l, permL l rfl⟩))) (ss_cons (sd_app (i := 4) rfl (.inl rfl) (pd_callK0 (k_how_many_orders.fnK hr kb_how_many_orders_0_other_one) tk rfl (kd_cons (pd_call (k_law_lists.fn hr) tk rfl (ga_val (pd_var (i := 0) rfl (.inr (.inl rfl))) ga_nil)) (kd_cons (pd_call (k_law_lists.fn hr) tk rfl (ga_val (pd_var (i := 1) rfl (.inr (.inl rfl))) ga_nil)) kd_nil)) (fun e ds e2 h => have l := (aLenS (aLenS (fun _ _ _ h => aLen0 h))) e ds e2 h; ⟨l, permL l rfl⟩))) (ss_rel (i := 4) (ss_cons (sd_asgN (i := 5) nd rfl (.inl rfl) (pd_add (pd_var (i := 5) rfl (.inl rfl)) (PD.str (pd_lst (ad_cons pd_bl (ad_cons pd_int ad_nil)))))) (ss_one (sd_ret (pd_and (pd_call (k_law_same.fn hr) tk rfl (ga_val (pd_var (i := 4) rfl (.inl rfl)) (ga_val (pd_var (i := 5) rfl (.inl rfl)) ga_nil))) (pd_one (pd_call (k_law_doors_right.fn hr) tk rfl (ga_val (pd_var (i := 0) rfl (.inr (.inl rfl))) (ga_val (pd_var (i := 1) rfl (.inr (.inl rfl))) (ga_val (pd_var (i := 8) rfl (.inl rfl)) ga_nil))))))))))))))))))))))))))))
abbrev n_law_made : List Str := ["_law_size_so", "_law_table_so", "_law_own"]
abbrev p_law_made : List Str := ["_law_size_so", "_law_table_so"]
theorem sc_law_made : FnScope n_law_made p_law_made (defScope s_law_made) := ⟨rfl, rfl, rfl, by decide +kernel, rfl, by decide +kernel, by decide +kernel⟩
theorem b_law_made : BindsOk "_law_made" s_law_made p_law_made := fun _ _ _ _ _ _ us hl => match us, hl with | [_, _], _ => rfl
theorem ok_law_made {P : Program} {w : World} {K : PySem.W.Frag} {mg : Str → Option Value} {base : Heap} (hK : K = TheK.K) (B : Bf K mg) (F : Fu K mg "_law_made" s_law_made) : Kn P w K mg base .s "_law_made" s_law_made n_law_made p_law_made [.val, .ro] f_law_made 1 := kn_of F sc_law_made rfl b_law_made (.inl ⟨rfl, rfl⟩) fun f cdv A outer s H E hr tk hp => by
  have nd : n_law_made.Nodup := sc_law_made.nd
  have hc : (cxD P w K mg base n_law_made "_law_made" (defScope s_law_made) f cdv A outer s H E).calm = true := rfl
  have hu := room_u hr
  exact (ss_one (sd_ret (pd_tup (ad_cons (pd_var (i := 0) rfl (.inl rfl)) (ad_cons (pd_tuple (bn_any rfl B.tuple boot_tuple) (PD.str (pd_lc (own := [("_law_own", 2)]) hc nd (by kernel_rfl) rfl (id_seq (PD.str (pd_sortK hc hu (bn_any rfl B.sorted boot_sorted) (pd_tmp (i := 1) rfl (.inr (.inl rfl)))))) (fun s H C cl fp => (gd_name (i := 2) nd rfl (.inl rfl))) (fun s H C cl fp => (cd_one (td_cmp ck_gt (pd_ixL (i := 1) hu rfl (.inr (.inl rfl)) (pd_var (i := 2) rfl (.inl rfl))) (PD.weak pd_int) rfl))) (fun s H C cl fp => (pd_tup (ad_cons (pd_var (i := 2) rfl (.inl rfl)) (ad_cons (pd_ixL (i := 1) hu rfl (.inr (.inl rfl)) (pd_var (i := 2) rfl (.inl rfl))) ad_nil))))))) ad_nil)))))
abbrev n_law_spans : List Str := ["_law_size_so", "_law_found", "_law_near_so", "_law_far_so"]
abbrev p_law_spans : List Str := ["_law_size_so"]
theorem sc_law_spans : FnScope n_law_spans p_law_spans (defScope s_law_spans) := ⟨rfl, rfl, rfl, by decide +kernel, rfl, by decide +kernel, by decide +kernel⟩
theorem b_law_spans : BindsOk "_law_spans" s_law_spans p_law_spans := fun _ _ _ _ _ _ us hl => match us, hl with | [_], _ => rfl
theorem ok_law_spans {P : Program} {w : World} {K : PySem.W.Frag} {mg : Str → Option Value} {base : Heap} (hK : K = TheK.K) (B : Bf K mg) (F : Fu K mg "_law_spans" s_law_spans) : Kn P w K mg base .s "_law_spans" s_law_spans n_law_spans p_law_spans [.val] f_law_spans 1 := kn_of F sc_law_spans rfl b_law_spans (.inl ⟨rfl, rfl⟩) fun f cdv A outer s H E hr tk hp => by
  have nd : n_law_spans.Nodup := sc_law_spans.nd
  have hc : (cxD P w K mg base n_law_spans "_law_spans" (defScope s_law_spans) f cdv A outer s H E).calm = true := rfl
  have hu := room_u hr
  exact (ss_cons (sd_asgN (i := 1) nd rfl (.inl rfl) (PD.str (pd_lst ad_nil))) (ss_cons (sd_for hp hc (id_range1 (bn_any rfl B.range boot_range) (pd_var (i := 0) rfl (.inl rfl))) (gd_name (i := 2) nd rfl (.inr rfl)) (ss_fg (vs := [2]) (ss_one (sd_asgN (i := 1) nd rfl (.inl rfl) (pd_add (pd_var (i := 1) rfl (.inl rfl)) (PD.str (pd_lc (own := [("_law_far_so", 3)]) hc nd (by kernel_rfl) rfl (id_range2 (bn_any rfl B.range boot_range) (pd_var (i := 2) rfl (.inr (.inl rfl))) (pd_var (i := 0) rfl (.inl rfl))) (fun s H C cl fp => (gd_name (i := 3) nd rfl (.inl rfl))) (fun s H C cl fp => cd_nil) (fun s H C cl fp => (pd_tup (ad_cons (pd_var (i := 2) rfl (.inr (.inl rfl))) (ad_cons (pd_var (i := 3) rfl (.inl rfl)) ad_nil))))))))))) (ss_one (sd_ret (pd_var (i := 1) rfl (.inl rfl))))))
abbrev n_law_table : List Str := ["_law_lot_so", "_law_found", "_law_span_so", "_law_many_so"]
abbrev p_law_table : List Str := ["_law_lot_so"]
theorem sc_law_table : FnScope n_law_table p_law_table (defScope s_law_table) := ⟨rfl, rfl, rfl, by decide +kernel, rfl, by decide +kernel, by decide +kernel⟩
theorem b_law_table : BindsOk "_law_table" s_law_table p_law_table := fun _ _ _ _ _ _ us hl => match us, hl with | [_], _ => rfl
theorem ok_law_table {P : Program} {w : World} {K : PySem.W.Frag} {mg : Str → Option Value} {base : Heap} (hK : K = TheK.K) (B : Bf K mg) (F : Fu K mg "_law_table" s_law_table) (k_law_spans : Kn P w K mg base .s "_law_spans" s_law_spans n_law_spans p_law_spans [.val] f_law_spans 1) : Kn P w K mg base .fd "_law_table" s_law_table n_law_table p_law_table [.val] f_law_table 2 := kn_of F sc_law_table rfl b_law_table (.inr rfl) fun f cdv A outer s H E hr tk hp => by
  have nd : n_law_table.Nodup := sc_law_table.nd
  have hc : (cxD P w K mg base n_law_table "_law_table" (defScope s_law_table) f cdv A outer s H E).calm = true := rfl
  have hu := room_u hr
  exact (ss_cons (sd_ownD (i := 1) nd rfl (.inl rfl) (pd_dictP hc hu (bn_any rfl B.dict boot_dict) (PD.weak (PD.str (pd_lc (own := [("_law_span_so", 2)]) hc nd (by kernel_rfl) rfl (id_seq (pd_call (k_law_spans.fn hr) tk rfl (ga_val (pd_ix hu (pd_var (i := 0) rfl (.inl rfl)) pd_int) ga_nil))) (fun s H C cl fp => (gd_name (i := 2) nd rfl (.inl rfl))) (fun s H C cl fp => cd_nil) (fun s H C cl fp => (pd_tup (ad_cons (pd_var (i := 2) rfl (.inl rfl)) (ad_cons pd_int ad_nil))))))))) (ss_cons (sd_for hp hc (id_seq (pd_ix hu (pd_var (i := 0) rfl (.inl rfl)) pd_int)) (gd_tup (n := 2) hc (gsd_cons (gd_name (i := 2) nd rfl (.inl rfl)) (gsd_cons (gd_name (i := 3) nd rfl (.inl rfl)) gsd_nil)) (gs_lenS (gs_lenS gs_len0))) (ss_fg (vs := [2, 3]) (ss_one (sd_setD (i := 1) hu rfl (.inl rfl) (pd_var (i := 2) rfl (.inl rfl)) (pd_var (i := 3) rfl (.inl rfl)))))) (ss_one (sd_retOd (i := 1) rfl (.inl rfl)))))
abbrev n_law_take : List Str := ["_law_box_here", "_law_below_so", "_law_drawn_so", "_law_once", "_law_far_so", "_law_twice_so"]
abbrev p_law_take : List Str := ["_law_box_here", "_law_below_so"]
theorem sc_law_take : FnScope n_law_take p_law_take (defScope s_law_take) := ⟨rfl, rfl, rfl, by decide +kernel, rfl, by decide +kernel, by decide +kernel⟩
theorem b_law_take : BindsOk "_law_take" s_law_take p_law_take := fun _ _ _ _ _ _ us hl => match us, hl with | [_, _], _ => rfl
theorem ok_law_take {P : Program} {w : World} {K : PySem.W.Frag} {mg : Str → Option Value} {base : Heap} (hK : K = TheK.K) (B : Bf K mg) (F : Fu K mg "_law_take" s_law_take) : Kn P w K mg base .s "_law_take" s_law_take n_law_take p_law_take [.bor, .val] f_law_take 1 := kn_of F sc_law_take rfl b_law_take (.inl ⟨rfl, rfl⟩) fun f cdv A outer s H E hr tk hp => by
  have nd : n_law_take.Nodup := sc_law_take.nd
  have hc : (cxD P w K mg base n_law_take "_law_take" (defScope s_law_take) f cdv A outer s H E).calm = true := rfl
  have hu := room_u hr
  exact (ss_cons (sd_if (td_cmp ck_gt (pd_ixL (i := 0) hu rfl (.inl rfl) pd_int) (PD.weak pd_int) rfl) (ss_cons (sd_asgN (i := 2) nd rfl (.inl rfl) (pd_mod (pd_toint (bn_any rfl B.int boot_int) (pd_ixL (i := 0) hu rfl (.inl rfl) pd_int)) (pd_var (i := 1) rfl (.inl rfl)))) (ss_cons (sd_setL (i := 0) rfl (.inl rfl) pd_int (pd_div (pd_ixL (i := 0) hu rfl (.inl rfl) pd_int) (pd_var (i := 1) rfl (.inl rfl)))) (ss_one (sd_ret (pd_var (i := 2) rfl (.inl rfl)))))) ss_nil) (ss_cons (sd_setL (i := 0) rfl (.inl rfl) pd_int (pd_add (pd_ixL (i := 0) hu rfl (.inl rfl) pd_int) pd_int)) (ss_cons (sd_asgN (i := 3) nd rfl (.inl rfl) (pd_mod (pd_toint (bn_any rfl B.int boot_int) (pd_mul (pd_add (pd_ixL (i := 0) hu rfl (.inl rfl) pd_int) (pd_mul pd_int (pd_ixL (i := 0) hu rfl (.inl rfl) pd_int))) (pd_add pd_int (pd_ixL (i := 0) hu rfl (.inl rfl) pd_int)))) pd_int)) (ss_cons (sd_asgN (i := 4) nd rfl (.inl rfl) (pd_add (pd_mod (pd_toint (bn_any rfl B.int boot_int) (pd_var (i := 3) rfl (.inl rfl))) pd_int) pd_int)) (ss_cons (sd_asgN (i := 5) nd rfl (.inl rfl) (pd_mod (pd_toint (bn_any rfl B.int boot_int) (pd_mul (pd_add (pd_add (pd_var (i := 3) rfl (.inl rfl)) (pd_ixL (i := 0) hu rfl (.inl rfl) pd_int)) (pd_div (pd_ixL (i := 0) hu rfl (.inl rfl) pd_int) pd_int)) (pd_var (i := 4) rfl (.inl rfl)))) pd_int)) (ss_one (sd_ret (pd_mod (pd_toint (bn_any rfl B.int boot_int) (pd_div (pd_mod (pd_toint (bn_any rfl B.int boot_int) (pd_add (pd_mul (pd_var (i := 5) rfl (.inl rfl)) pd_int) (pd_var (i := 3) rfl (.inl rfl)))) pd_int) pd_int)) (pd_var (i := 1) rfl (.inl rfl))))))))))
abbrev n_law_of : List Str := ["_law_box_here", "_law_pool_so"]
abbrev p_law_of : List Str := ["_law_box_here", "_law_pool_so"]
theorem sc_law_of : FnScope n_law_of p_law_of (defScope s_law_of) := ⟨rfl, rfl, rfl, by decide +kernel, rfl, by decide +kernel, by decide +kernel⟩
theorem b_law_of : BindsOk "_law_of" s_law_of p_law_of := fun _ _ _ _ _ _ us hl => match us, hl with | [_, _], _ => rfl
theorem ok_law_of {P : Program} {w : World} {K : PySem.W.Frag} {mg : Str → Option Value} {base : Heap} (hK : K = TheK.K) (B : Bf K mg) (F : Fu K mg "_law_of" s_law_of) (k_law_take : Kn P w K mg base .s "_law_take" s_law_take n_law_take p_law_take [.bor, .val] f_law_take 1) : Kn P w K mg base .s "_law_of" s_law_of n_law_of p_law_of [.bor, .ro] f_law_of 2 := kn_of F sc_law_of rfl b_law_of (.inl ⟨rfl, rfl⟩) fun f cdv A outer s H E hr tk hp => by
  have nd : n_law_of.Nodup := sc_law_of.nd
  have hc : (cxD P w K mg base n_law_of "_law_of" (defScope s_law_of) f cdv A outer s H E).calm = true := rfl
  have hu := room_u hr
  exact (ss_one (sd_ret (pd_ixL (i := 1) hu rfl (.inl rfl) (pd_call (k_law_take.fn hr) tk rfl (ga_lend (i := 0) rfl (.inl rfl) (ga_val (pd_len (bn_any rfl B.len boot_len) (pd_tmp (i := 1) rfl (.inl rfl))) ga_nil))))))
abbrev n_law_moved : List Str := ["_law_box_here", "_law_lot_so", "_law_laps_so", "_law_table_so", "_law_last_so", "_law_turn", "_law_some", "_law_sort_so", "_law_own", "_law_far_so", "_law_one_so", "_law_two_so", "_law_near_so", "_law_sign_so"]
abbrev p_law_moved : List Str := ["_law_box_here", "_law_lot_so", "_law_laps_so"]
theorem sc_law_moved : FnScope n_law_moved p_law_moved (defScope s_law_moved) := ⟨rfl, rfl, rfl, by decide +kernel, rfl, by decide +kernel, by decide +kernel⟩
theorem b_law_moved : BindsOk "_law_moved" s_law_moved p_law_moved := fun _ _ _ _ _ _ us hl => match us, hl with | [_, _, _], _ => rfl
theorem ok_law_moved {P : Program} {w : World} {K : PySem.W.Frag} {mg : Str → Option Value} {base : Heap} (hK : K = TheK.K) (B : Bf K mg) (F : Fu K mg "_law_moved" s_law_moved) (k_law_made : Kn P w K mg base .s "_law_made" s_law_made n_law_made p_law_made [.val, .ro] f_law_made 1) (k_law_table : Kn P w K mg base .fd "_law_table" s_law_table n_law_table p_law_table [.val] f_law_table 2) (k_law_take : Kn P w K mg base .s "_law_take" s_law_take n_law_take p_law_take [.bor, .val] f_law_take 1) (k_law_of : Kn P w K mg base .s "_law_of" s_law_of n_law_of p_law_of [.bor, .ro] f_law_of 2) (k_law_spans : Kn P w K mg base .s "_law_spans" s_law_spans n_law_spans p_law_spans [.val] f_law_spans 1) : Kn P w K mg base .s "_law_moved" s_law_moved n_law_moved p_law_moved [.bor, .val, .val] f_law_moved 3 := kn_of F sc_law_moved rfl b_law_moved (.inl ⟨rfl, rfl⟩) fun f cdv A outer s H E hr tk hp => by
  have nd : n_law_moved.Nodup := sc_law_moved.nd
  have hc : (cxD P w K mg base n_law_moved "_law_moved" (defScope s_law_moved) f cdv A outer s H E).calm = true := rfl
  have hu := room_u hr
  exact (ss_cons (sd_parT2 (i := 3) (j := 4) hc nd rfl rfl (.inr rfl) (.inl rfl) (gp_dic (pd_call (k_law_table.fn hr) tk rfl (ga_val (pd_var (i := 1) rfl (.inl rfl)) ga_nil)) (gp_val (pd_sub (pd_ix hu (pd_var (i := 1) rfl (.inl rfl)) pd_int) pd_int) gp_nil))) (ss_cons (sd_for hp hc (id_range1 (bn_any rfl B.range boot_range) (pd_var (i := 2) rfl (.inl rfl))) (gd_name (i := 5) nd rfl (.inl rfl)) (ss_fg (vs := [5, 6, 7, 8, 9, 10, 11, 12, 13]) (ss_cons (sd_lc (i := 6) (own := [("_law_own", 8)]) hc nd rfl rfl rfl rfl (by kernel_rfl) (by kernel_rfl) rfl (id_seq (PD.str (pd_sortK hc hu (bn_any rfl B.sorted boot_sorted) (pd_tmp (i := 3) rfl (.inr (.inl rfl)))))) (fun s H C cl fp => (gd_name (i := 8) nd rfl (.inl rfl))) (fun s H C cl fp => (cd_one (td_cmp ck_gt (pd_ixL (i := 3) hu rfl (.inr (.inl rfl)) (pd_var (i := 8) rfl (.inl rfl))) (PD.weak pd_int) rfl))) (fun s H C cl fp => (pd_var (i := 8) rfl (.inl rfl)))) (ss_cons (sd_asgN (i := 7) nd rfl (.inl rfl) (pd_call (k_law_take.fn hr) tk rfl (ga_lend (i := 0) rfl (.inl rfl) (ga_val pd_int ga_nil)))) (ss_one (sd_if (WD.td (wd_or (td_cmp (ck_eq hu) (pd_var (i := 6) rfl (.inl rfl)) (PD.weak (PD.str (pd_lst ad_nil))) rfl) (wd_or1 (td_cmp (ck_eq hu) (pd_var (i := 7) rfl (.inl rfl)) (PD.weak pd_int) rfl)))) (ss_cons (sd_asgN (i := 8) nd rfl (.inl rfl) (pd_call (k_law_of.fn hr) tk rfl (ga_lend (i := 0) rfl (.inl rfl) (ga_rov (pd_call (k_law_spans.fn hr) tk rfl (ga_val (pd_ix hu (pd_var (i := 1) rfl (.inl rfl)) pd_int) ga_nil)) ga_nil)))) (ss_one (sd_setD (i := 3) hu rfl (.inr (.inl rfl)) (pd_var (i := 8) rfl (.inl rfl)) (pd_add (pd_add (pd_ixL (i := 3) hu rfl (.inr (.inl rfl)) (pd_var (i := 8) rfl (.inl rfl))) pd_int) (pd_call (k_law_take.fn hr) tk rfl (ga_lend (i := 0) rfl (.inl rfl) (ga_val pd_int ga_nil))))))) (ss_one (sd_if (td_cmp (ck_eq hu) (pd_var (i := 7) rfl (.inl rfl)) (PD.weak pd_int) rfl) (ss_cons (sd_asgN (i := 8) nd rfl (.inl rfl) (pd_call (k_law_of.fn hr) tk rfl (ga_lend (i := 0) rfl (.inl rfl) (ga_rov (pd_var (i := 6) rfl (.inl rfl)) ga_nil)))) (ss_one (sd_setD (i := 3) hu rfl (.inr (.inl rfl)) (pd_var (i := 8) rfl (.inl rfl)) (pd_sub (pd_ixL (i := 3) hu rfl (.inr (.inl rfl)) (pd_var (i := 8) rfl (.inl rfl))) pd_int)))) (ss_one (sd_if (td_cmp (ck_eq hu) (pd_var (i := 7) rfl (.inl rfl)) (PD.weak pd_int) rfl) (ss_cons (sd_asgN (i := 8) nd rfl (.inl rfl) (pd_call (k_law_of.fn hr) tk rfl (ga_lend (i := 0) rfl (.inl rfl) (ga_rov (pd_var (i := 6) rfl (.inl rfl)) ga_nil)))) (ss_cons (sd_asgN (i := 9) nd rfl (.inl rfl) (pd_tup (ad_cons (pd_max2 hc (bn_any rfl B.max boot_max) pd_int (pd_sub (pd_ix hu (pd_var (i := 8) rfl (.inl rfl)) pd_int) (pd_call (k_law_take.fn hr) tk rfl (ga_lend (i := 0) rfl (.inl rfl) (ga_val pd_int ga_nil))))) (ad_cons (pd_min2 hc (bn_any rfl B.min boot_min) (pd_var (i := 4) rfl (.inl rfl)) (pd_add (pd_ix hu (pd_var (i := 8) rfl (.inl rfl)) pd_int) (pd_call (k_law_take.fn hr) tk rfl (ga_lend (i := 0) rfl (.inl rfl) (ga_val pd_int ga_nil))))) ad_nil)))) (ss_cons (sd_setD (i := 3) hu rfl (.inr (.inl rfl)) (pd_var (i := 8) rfl (.inl rfl)) (pd_sub (pd_ixL (i := 3) hu rfl (.inr (.inl rfl)) (pd_var (i := 8) rfl (.inl rfl))) pd_int)) (ss_one (sd_setD (i := 3) hu rfl (.inr (.inl rfl)) (pd_var (i := 9) rfl (.inl rfl)) (pd_add (pd_ixL (i := 3) hu rfl (.inr (.inl rfl)) (pd_var (i := 9) rfl (.inl rfl))) pd_int)))))) (ss_cons (sd_par2 (i := 10) (j := 11) hc nd rfl rfl (by decide) rfl rfl (ga_val (pd_call (k_law_of.fn hr) tk rfl (ga_lend (i := 0) rfl (.inl rfl) (ga_rov (pd_var (i := 6) rfl (.inl rfl)) ga_nil))) (ga_val (pd_call (k_law_of.fn hr) tk rfl (ga_lend (i := 0) rfl (.inl rfl) (ga_rov (pd_var (i := 6) rfl (.inl rfl)) ga_nil))) ga_nil)) rfl rfl) (ss_one (sd_if (WD.td (wd_and (td_cmp (ck_ne hu) (pd_var (i := 10) rfl (.inl rfl)) (PD.weak (pd_var (i := 11) rfl (.inl rfl))) rfl) (wd_and (td_cmp (ck_le hu) (pd_ix hu (pd_var (i := 10) rfl (.inl rfl)) pd_int) (PD.weak (pd_ix hu (pd_var (i := 11) rfl (.inl rfl)) pd_int)) rfl) (wd_and1 (td_cmp (ck_le hu) (pd_ix hu (pd_var (i := 11) rfl (.inl rfl)) pd_int) (PD.weak (pd_ix hu (pd_var (i := 10) rfl (.inl rfl)) pd_int)) rfl))))) (ss_cons (sd_par2 (i := 12) (j := 9) hc nd rfl rfl (by decide) rfl rfl (ga_val (pd_tup (ad_cons (pd_ix hu (pd_var (i := 10) rfl (.inl rfl)) pd_int) (ad_cons (pd_ix hu (pd_var (i := 11) rfl (.inl rfl)) pd_int) ad_nil))) (ga_val (pd_tup (ad_cons (pd_ix hu (pd_var (i := 11) rfl (.inl rfl)) pd_int) (ad_cons (pd_ix hu (pd_var (i := 10) rfl (.inl rfl)) pd_int) ad_nil))) ga_nil)) rfl rfl) (ss_one (sd_for hp hc (id_seq (pd_tup (ad_cons (pd_tup (ad_cons (pd_var (i := 10) rfl (.inl rfl)) (ad_cons (pd_neg pd_int) ad_nil))) (ad_cons (pd_tup (ad_cons (pd_var (i := 11) rfl (.inl rfl)) (ad_cons (pd_neg pd_int) ad_nil))) (ad_cons (pd_tup (ad_cons (pd_var (i := 12) rfl (.inl rfl)) (ad_cons pd_int ad_nil))) (ad_cons (pd_tup (ad_cons (pd_var (i := 9) rfl (.inl rfl)) (ad_cons pd_int ad_nil))) ad_nil)))))) (gd_tup (n := 2) hc (gsd_cons (gd_name (i := 8) nd rfl (.inl rfl)) (gsd_cons (gd_name (i := 13) nd rfl (.inl rfl)) gsd_nil)) (gs_lenS (gs_lenS gs_len0))) (ss_fg (vs := [8, 13]) (ss_one (sd_setD (i := 3) hu rfl (.inr (.inl rfl)) (pd_var (i := 8) rfl (.inl rfl)) (pd_add (pd_ixL (i := 3) hu rfl (.inr (.inl rfl)) (pd_var (i := 8) rfl (.inl rfl))) (pd_var (i := 13) rfl (.inl rfl))))))))) ss_nil))))))))))))) (ss_one (sd_ret (pd_call (k_law_made.fn hr) tk rfl (ga_val (pd_ix hu (pd_var (i := 1) rfl (.inl rfl)) pd_int) (ga_look (i := 3) rfl (.inr (.inl rfl)) ga_nil)))))))
abbrev n_law_great : List Str := ["_law_box_here", "_law_size_so", "_law_found", "_law_span_so", "_law_many_so"]
abbrev p_law_great : List Str := ["_law_box_here", "_law_size_so"]
theorem sc_law_great : FnScope n_law_great p_law_great (defScope s_law_great) := ⟨rfl, rfl, rfl, by decide +kernel, rfl, by decide +kernel, by decide +kernel⟩
theorem b_law_great : BindsOk "_law_great" s_law_great p_law_great := fun _ _ _ _ _ _ us hl => match us, hl with | [_, _], _ => rfl
theorem ok_law_great {P : Program} {w : World} {K : PySem.W.Frag} {mg : Str → Option Value} {base : Heap} (hK : K = TheK.K) (B : Bf K mg) (F : Fu K mg "_law_great" s_law_great) (k_law_spans : Kn P w K mg base .s "_law_spans" s_law_spans n_law_spans p_law_spans [.val] f_law_spans 1) (k_law_take : Kn P w K mg base .s "_law_take" s_law_take n_law_take p_law_take [.bor, .val] f_law_take 1) (k_law_of : Kn P w K mg base .s "_law_of" s_law_of n_law_of p_law_of [.bor, .ro] f_law_of 2) : Kn P w K mg base .s "_law_great" s_law_great n_law_great p_law_great [.bor, .val] f_law_great 3 := kn_of F sc_law_great rfl b_law_great (.inl ⟨rfl, rfl⟩) fun f cdv A outer s H E hr tk hp => by
  have nd : n_law_great.Nodup := sc_law_great.nd
  have hc : (cxD P w K mg base n_law_great "_law_great" (defScope s_law_great) f cdv A outer s H E).calm = true := rfl
  have hu := room_u hr
  exact (ss_cons (sd_own (i := 2) nd rfl (.inl rfl) (pd_lst ad_nil)) (ss_cons (sd_for hp hc (id_seq (pd_call (k_law_spans.fn hr) tk rfl (ga_val (pd_var (i := 1) rfl (.inl rfl)) ga_nil))) (gd_name (i := 3) nd rfl (.inl rfl)) (ss_fg (vs := [3, 4]) (ss_cons (sd_asgN (i := 4) nd rfl (.inl rfl) (pd_call (k_law_take.fn hr) tk rfl (ga_lend (i := 0) rfl (.inl rfl) (ga_val (pd_call (k_law_of.fn hr) tk rfl (ga_lend (i := 0) rfl (.inl rfl) (ga_rov (PD.str (pd_lst (ad_cons pd_int (ad_cons pd_int (ad_cons pd_int (ad_cons (pd_pow pd_int pd_int) (ad_cons (pd_pow pd_int pd_int) ad_nil))))))) ga_nil))) ga_nil)))) (ss_one (sd_if (td_cmp ck_gt (pd_var (i := 4) rfl (.inl rfl)) (PD.weak pd_int) rfl) (ss_one (sd_app (i := 2) rfl (.inl rfl) (pd_tup (ad_cons (pd_var (i := 3) rfl (.inl rfl)) (ad_cons (pd_var (i := 4) rfl (.inl rfl)) ad_nil))))) ss_nil))))) (ss_rel (i := 2) (ss_one (sd_ret (pd_tup (ad_cons (pd_var (i := 1) rfl (.inl rfl)) (ad_cons (pd_tuple (bn_any rfl B.tuple boot_tuple) (pd_var (i := 2) rfl (.inl rfl))) ad_nil))))))))
abbrev n_law_lot : List Str := ["_law_box_here", "_law_size_so", "_law_top_so", "_law_sort_so", "_law_found", "_law_span_so", "_law_many_so"]
abbrev p_law_lot : List Str := ["_law_box_here", "_law_size_so", "_law_top_so"]
theorem sc_law_lot : FnScope n_law_lot p_law_lot (defScope s_law_lot) := ⟨rfl, rfl, rfl, by decide +kernel, rfl, by decide +kernel, by decide +kernel⟩
theorem b_law_lot : BindsOk "_law_lot" s_law_lot p_law_lot := fun _ _ _ _ _ _ us hl => match us, hl with | [_, _, _], _ => rfl
theorem ok_law_lot {P : Program} {w : World} {K : PySem.W.Frag} {mg : Str → Option Value} {base : Heap} (hK : K = TheK.K) (B : Bf K mg) (F : Fu K mg "_law_lot" s_law_lot) (k_law_spans : Kn P w K mg base .s "_law_spans" s_law_spans n_law_spans p_law_spans [.val] f_law_spans 1) (k_law_take : Kn P w K mg base .s "_law_take" s_law_take n_law_take p_law_take [.bor, .val] f_law_take 1) : Kn P w K mg base .s "_law_lot" s_law_lot n_law_lot p_law_lot [.bor, .val, .val] f_law_lot 2 := kn_of F sc_law_lot rfl b_law_lot (.inl ⟨rfl, rfl⟩) fun f cdv A outer s H E hr tk hp => by
  have nd : n_law_lot.Nodup := sc_law_lot.nd
  have hc : (cxD P w K mg base n_law_lot "_law_lot" (defScope s_law_lot) f cdv A outer s H E).calm = true := rfl
  have hu := room_u hr
  exact (ss_cons (sd_par2 (i := 3) (j := 4) hc nd rfl rfl (by decide) rfl rfl (ga_val (pd_call (k_law_take.fn hr) tk rfl (ga_lend (i := 0) rfl (.inl rfl) (ga_val pd_int ga_nil))) (ga_new (pd_lst ad_nil) ga_nil)) rfl rfl) (ss_cons (sd_for hp hc (id_seq (pd_call (k_law_spans.fn hr) tk rfl (ga_val (pd_var (i := 1) rfl (.inl rfl)) ga_nil))) (gd_name (i := 5) nd rfl (.inl rfl)) (ss_fg (vs := [5, 6]) (ss_cons (sd_asgN (i := 6) nd rfl (.inl rfl) (pd_if (WD.td (wd_or (td_cmp (ck_lt hu) (pd_var (i := 3) rfl (.inl rfl)) (PD.weak pd_int) rfl) (wd_or1 (td_cmp (ck_eq hu) (pd_call (k_law_take.fn hr) tk rfl (ga_lend (i := 0) rfl (.inl rfl) (ga_val (pd_add pd_int (pd_var (i := 3) rfl (.inl rfl))) ga_nil))) (PD.weak pd_int) rfl)))) (pd_call (k_law_take.fn hr) tk rfl (ga_lend (i := 0) rfl (.inl rfl) (ga_val (pd_add (pd_var (i := 2) rfl (.inl rfl)) pd_int) ga_nil))) pd_int)) (ss_one (sd_if (td_cmp ck_gt (pd_var (i := 6) rfl (.inl rfl)) (PD.weak pd_int) rfl) (ss_one (sd_app (i := 4) rfl (.inl rfl) (pd_tup (ad_cons (pd_var (i := 5) rfl (.inl rfl)) (ad_cons (pd_var (i := 6) rfl (.inl rfl)) ad_nil))))) ss_nil))))) (ss_rel (i := 4) (ss_one (sd_ret (pd_tup (ad_cons (pd_var (i := 1) rfl (.inl rfl)) (ad_cons (pd_tuple (bn_any rfl B.tuple boot_tuple) (pd_var (i := 4) rfl (.inl rfl))) ad_nil))))))))
abbrev n_law_in_setK : List Str := ["_law_lot_so", "_law_some_so", "_law_found", "_law_own", "_law_many_so", "_law_hour_so"]
abbrev p_law_in_setK : List Str := ["_law_lot_so", "_law_some_so"]
theorem sc_law_in_setK : FnScope n_law_in_setK p_law_in_setK (defScope s_law_in_setK) := ⟨rfl, rfl, rfl, by decide +kernel, rfl, by decide +kernel, by decide +kernel⟩
theorem b_law_in_setK : BindsOk "_law_in_set" s_law_in_setK p_law_in_setK := fun _ _ _ _ _ _ us hl => match us, hl with | [_, _], _ => rfl
def c_law_in_setK_1 : DE := (eLc [5] (iRng2 (e2 dIx (eVar 3) (eC (.int 0))) (e2 dAdd (e2 dIx (eVar 3) (eC (.int 1))) (eC (.int 1)))) (gN 5) (c2 dNotIn (eVar 5) (eW (eVar 1))) (eVar 5))
def b_law_in_setK_1 : DS := (sFg [3, 4] (sIf (c2 dEq c_law_in_setK_1 (eLst aNil)) (sAsgN 2 (e2 dAdd (eVar 2) (eVar 4))) sNil))
def l_law_in_setK_1 : DS := (sFor (iSeq (e2 dIx (eVar 0) (eC (.int 1)))) (gT (gsCons (gN 3) (gsCons (gN 4) gsNil))) b_law_in_setK_1)
def m_law_in_setK : DS := (sSeq (sAsgN 2 (eC (.int 0))) (sSeq l_law_in_setK_1 (sRet (eVar 2))))
def f_law_in_setK : DF := mkF 6 [.val, .val] m_law_in_setK
theorem ok_law_in_setK {P : Program} {w : World} {K : PySem.W.Frag} {mg : Str → Option Value} {base : Heap} (hK : K = TheK.K) (B : Bf K mg) (F : Fu K mg "_law_in_set" s_law_in_setK) : Kn P w K mg base .s "_law_in_set" s_law_in_setK n_law_in_setK p_law_in_setK [.val, .val] f_law_in_setK 1 := kn_of F sc_law_in_setK rfl b_law_in_setK (.inl ⟨rfl, rfl⟩) fun f cdv A outer s H E hr tk hp => by
  have nd : n_law_in_setK.Nodup := sc_law_in_setK.nd
  have hc : (cxD P w K mg base n_law_in_setK "_law_in_set" (defScope s_law_in_setK) f cdv A outer s H E).calm = true := rfl
  have hu := room_u hr
  exact (ss_cons (sd_asgN (i := 2) nd rfl (.inl rfl) pd_int) (ss_cons (sd_for hp hc (id_seq (pd_ix hu (pd_var (i := 0) rfl (.inl rfl)) pd_int)) (gd_tup (n := 2) hc (gsd_cons (gd_name (i := 3) nd rfl (.inl rfl)) (gsd_cons (gd_name (i := 4) nd rfl (.inl rfl)) gsd_nil)) (gs_lenS (gs_lenS gs_len0))) (ss_fg (vs := [3, 4]) (ss_one (sd_if (td_cmp (ck_eq hu) (PD.str (pd_lc (own := [("_law_hour_so", 5)]) hc nd (by kernel_rfl) rfl (id_range2 (bn_any rfl B.range boot_range) (pd_ix hu (pd_var (i := 3) rfl (.inl rfl)) pd_int) (pd_add (pd_ix hu (pd_var (i := 3) rfl (.inl rfl)) pd_int) pd_int)) (fun s H C cl fp => (gd_name (i := 5) nd rfl (.inl rfl))) (fun s H C cl fp => (cd_one (td_in (ik_notIn hu) (pd_var (i := 5) rfl (.inl rfl)) (pd_eW (pd_var (i := 1) rfl (.inr (.inl rfl)))) rfl))) (fun s H C cl fp => (pd_var (i := 5) rfl (.inl rfl))))) (PD.weak (PD.str (pd_lst ad_nil))) rfl) (ss_one (sd_asgN (i := 2) nd rfl (.inl rfl) (pd_add (pd_var (i := 2) rfl (.inl rfl)) (pd_var (i := 4) rfl (.inl rfl))))) ss_nil)))) (ss_one (sd_ret (pd_var (i := 2) rfl (.inl rfl))))))
abbrev n_law_is_fine : List Str := ["_law_mine_so", "_law_its_so", "_law_order_so", "_law_k"]
abbrev p_law_is_fine : List Str := ["_law_mine_so", "_law_its_so", "_law_order_so"]
theorem sc_law_is_fine : FnScope n_law_is_fine p_law_is_fine (defScope s_law_is_fine) := ⟨rfl, rfl, rfl, by decide +kernel, rfl, by decide +kernel, by decide +kernel⟩
theorem b_law_is_fine : BindsOk "_law_is_fine" s_law_is_fine p_law_is_fine := fun _ _ _ _ _ _ us hl => match us, hl with | [_, _, _], _ => rfl
def b_law_is_fine_1 : DS := (sFg [3] (sIf (c2 dGt (eCall f_law_in_setK [.e (eVar 0), .e (eSlK (eVar 2) (oSome (eVar 3)) oNone)]) (eCall f_law_in_setK [.e (eVar 1), .e (eSlK (eVar 2) (oSome (eVar 3)) oNone)])) (sRet (eC (.bl false))) sNil))
def l_law_is_fine_1 : DS := (sFor (iRng1 (e1 dLen (eW (eVar 2)))) (gN 3) b_law_is_fine_1)
def m_law_is_fine : DS := (sSeq l_law_is_fine_1 (sRet (eC (.bl true))))
def f_law_is_fine : DF := mkF 4 [.val, .val, .val] m_law_is_fine
theorem ok_law_is_fine {P : Program} {w : World} {K : PySem.W.Frag} {mg : Str → Option Value} {base : Heap} (hK : K = TheK.K) (B : Bf K mg) (F : Fu K mg "_law_is_fine" s_law_is_fine) (k_law_in_setK : Kn P w K mg base .s "_law_in_set" s_law_in_setK n_law_in_setK p_law_in_setK [.val, .val] f_law_in_setK 1) : Kn P w K mg base .s "_law_is_fine" s_law_is_fine n_law_is_fine p_law_is_fine [.val, .val, .val] f_law_is_fine 2 := kn_of F sc_law_is_fine rfl b_law_is_fine (.inl ⟨rfl, rfl⟩) fun f cdv A outer s H E hr tk hp => by
  have nd : n_law_is_fine.Nodup := sc_law_is_fine.nd
  have hc : (cxD P w K mg base n_law_is_fine "_law_is_fine" (defScope s_law_is_fine) f cdv A outer s H E).calm = true := rfl
  have hu := room_u hr
  exact (ss_cons (sd_for hp hc (id_range1 (bn_any rfl B.range boot_range) (pd_len (bn_any rfl B.len boot_len) (pd_eW (pd_var (i := 2) rfl (.inl rfl))))) (gd_name (i := 3) nd rfl (.inl rfl)) (ss_fg (vs := [3]) (ss_one (sd_if (td_cmp ck_gt (pd_call (k_law_in_setK.fn hr) tk rfl (ga_val (pd_var (i := 0) rfl (.inl rfl)) (ga_val (pd_slK (pd_var (i := 2) rfl (.inl rfl)) (od_some (pd_var (i := 3) rfl (.inl rfl))) od_none) ga_nil))) (PD.weak (pd_call (k_law_in_setK.fn hr) tk rfl (ga_val (pd_var (i := 1) rfl (.inl rfl)) (ga_val (pd_slK (pd_var (i := 2) rfl (.inl rfl)) (od_some (pd_var (i := 3) rfl (.inl rfl))) od_none) ga_nil)))) rfl) (ss_one (sd_ret pd_bl)) ss_nil)))) (ss_one (sd_ret pd_bl)))
abbrev n_law_orders : List Str := ["_law_size_so", "_law_found", "_law_turn", "_law_longer_so", "_law_own", "_law_hour_so"]
abbrev p_law_orders : List Str := ["_law_size_so"]
theorem sc_law_orders : FnScope n_law_orders p_law_orders (defScope s_law_orders) := ⟨rfl, rfl, rfl, by decide +kernel, rfl, by decide +kernel, by decide +kernel⟩
theorem b_law_orders : BindsOk "_law_orders" s_law_orders p_law_orders := fun _ _ _ _ _ _ us hl => match us, hl with | [_], _ => rfl
def c_law_orders_1 : DE := (eLc [5] (iRng1 (eVar 0)) (gN 5) (c2 dNotIn (eVar 5) (eW (eVar 4))) (e2 dAddK (eVar 4) (eTupK (aCons (eVar 5) aNil))))
def b_law_orders_1 : DS := (sFg [4] (sAsgN 3 (e2 dAdd (eVar 3) c_law_orders_1)))
def l_law_orders_1 : DS := (sFor (iSeq (eVar 1)) (gN 4) b_law_orders_1)
def b_law_orders_2 : DS := (sFg [2, 3, 4] (sSeq (sAsgN 3 (eLst aNil)) (sSeq l_law_orders_1 (sAsgN 1 (eVar 3)))))
def l_law_orders_2 : DS := (sFor (iRng1 (eVar 0)) (gN 2) b_law_orders_2)
def m_law_orders : DS := (sSeq (sAsgN 1 (eLst (aCons (eTup aNil) aNil))) (sSeq l_law_orders_2 (sRet (eVar 1))))
def f_law_orders : DF := mkF 6 [.val] m_law_orders
theorem ok_law_orders {P : Program} {w : World} {K : PySem.W.Frag} {mg : Str → Option Value} {base : Heap} (hK : K = TheK.K) (B : Bf K mg) (F : Fu K mg "_law_orders" s_law_orders) : Kn P w K mg base .s "_law_orders" s_law_orders n_law_orders p_law_orders [.val] f_law_orders 1 := kn_of F sc_law_orders rfl b_law_orders (.inl ⟨rfl, rfl⟩) fun f cdv A outer s H E hr tk hp => by
  have nd : n_law_orders.Nodup := sc_law_orders.nd
  have hc : (cxD P w K mg base n_law_orders "_law_orders" (defScope s_law_orders) f cdv A outer s H E).calm = true := rfl
  have hu := room_u hr
  exact (ss_cons (sd_asgN (i := 1) nd rfl (.inl rfl) (PD.str (pd_lst (ad_cons (pd_tup ad_nil) ad_nil)))) (ss_cons (sd_for hp hc (id_range1 (bn_any rfl B.range boot_range) (pd_var (i := 0) rfl (.inl rfl))) (gd_name (i := 2) nd rfl (.inl rfl)) (ss_fg (vs := [2, 3, 4]) (ss_cons (sd_asgN (i := 3) nd rfl (.inl rfl) (PD.str (pd_lst ad_nil))) (ss_cons (sd_for hp hc (id_seq (pd_var (i := 1) rfl (.inl rfl))) (gd_name (i := 4) nd rfl (.inr rfl)) (ss_fg (vs := [4]) (ss_one (sd_asgN (i := 3) nd rfl (.inl rfl) (pd_add (pd_var (i := 3) rfl (.inl rfl)) (PD.str (pd_lc (own := [("_law_hour_so", 5)]) hc nd (by kernel_rfl) rfl (id_range1 (bn_any rfl B.range boot_range) (pd_var (i := 0) rfl (.inl rfl))) (fun s H C cl fp => (gd_name (i := 5) nd rfl (.inl rfl))) (fun s H C cl fp => (cd_one (td_in (ik_notIn hu) (pd_var (i := 5) rfl (.inl rfl)) (pd_eW (pd_var (i := 4) rfl (.inr (.inl rfl)))) rfl))) (fun s H C cl fp => (pd_addK (pd_var (i := 4) rfl (.inr (.inl rfl))) (pd_tupK (ad_cons (pd_var (i := 5) rfl (.inl rfl)) ad_nil))))))))))) (ss_one (sd_asgN (i := 1) nd rfl (.inl rfl) (pd_var (i := 3) rfl (.inl rfl)))))))) (ss_one (sd_ret (pd_var (i := 1) rfl (.inl rfl))))))
abbrev n_law_rows : List Str := ["_law_size_so", "_law_top_so", "_law_found", "_law_turn", "_law_longer_so", "_law_own", "_law_many_so"]
abbrev p_law_rows : List Str := ["_law_size_so", "_law_top_so"]
theorem sc_law_rows : FnScope n_law_rows p_law_rows (defScope s_law_rows) := ⟨rfl, rfl, rfl, by decide +kernel, rfl, by decide +kernel, by decide +kernel⟩
theorem b_law_rows : BindsOk "_law_rows" s_law_rows p_law_rows := fun _ _ _ _ _ _ us hl => match us, hl with | [_, _], _ => rfl
theorem ok_law_rows {P : Program} {w : World} {K : PySem.W.Frag} {mg : Str → Option Value} {base : Heap} (hK : K = TheK.K) (B : Bf K mg) (F : Fu K mg "_law_rows" s_law_rows) : Kn P w K mg base .s "_law_rows" s_law_rows n_law_rows p_law_rows [.val, .val] f_law_rows 1 := kn_of F sc_law_rows rfl b_law_rows (.inl ⟨rfl, rfl⟩) fun f cdv A outer s H E hr tk hp => by
  have nd : n_law_rows.Nodup := sc_law_rows.nd
  have hc : (cxD P w K mg base n_law_rows "_law_rows" (defScope s_law_rows) f cdv A outer s H E).calm = true := rfl
  have hu := room_u hr
  exact (ss_cons (sd_asgN (i := 2) nd rfl (.inl rfl) (PD.str (pd_lst (ad_cons (pd_tup ad_nil) ad_nil)))) (ss_cons (sd_for hp hc (id_range1 (bn_any rfl B.range boot_range) (pd_var (i := 0) rfl (.inl rfl))) (gd_name (i := 3) nd rfl (.inl rfl)) (ss_fg (vs := [3, 4, 5]) (ss_cons (sd_asgN (i := 4) nd rfl (.inl rfl) (PD.str (pd_lst ad_nil))) (ss_cons (sd_for hp hc (id_seq (pd_var (i := 2) rfl (.inl rfl))) (gd_name (i := 5) nd rfl (.inr rfl)) (ss_fg (vs := [5]) (ss_one (sd_asgN (i := 4) nd rfl (.inl rfl) (pd_add (pd_var (i := 4) rfl (.inl rfl)) (PD.str (pd_lc (own := [("_law_many_so", 6)]) hc nd (by kernel_rfl) rfl (id_range1 (bn_any rfl B.range boot_range) (pd_add (pd_var (i := 1) rfl (.inl rfl)) pd_int)) (fun s H C cl fp => (gd_name (i := 6) nd rfl (.inl rfl))) (fun s H C cl fp => cd_nil) (fun s H C cl fp => (pd_add (pd_var (i := 5) rfl (.inr (.inl rfl))) (pd_tup (ad_cons (pd_var (i := 6) rfl (.inl rfl)) ad_nil))))))))))) (ss_one (sd_asgN (i := 2) nd rfl (.inl rfl) (pd_var (i := 4) rfl (.inl rfl)))))))) (ss_one (sd_ret (pd_var (i := 2) rfl (.inl rfl))))))
abbrev n_law_cheapest : List Str := ["_law_lot_so", "_law_fees_so", "_law_own", "_law_many_so"]
abbrev p_law_cheapest : List Str := ["_law_lot_so", "_law_fees_so"]
theorem sc_law_cheapest : FnScope n_law_cheapest p_law_cheapest (defScope s_law_cheapest) := ⟨rfl, rfl, rfl, by decide +kernel, rfl, by decide +kernel, by decide +kernel⟩
theorem b_law_cheapest : BindsOk "_law_cheapest" s_law_cheapest p_law_cheapest := fun _ _ _ _ _ _ us hl => match us, hl with | [_, _], _ => rfl
def c_law_cheapest_1 : DE := (eLc [2, 3] (iSeq (e2 dIx (eVar 0) (eC (.int 1)))) (gT (gsCons (gN 2) (gsCons (gN 3) gsNil))) tYes (e2 dMul (eVar 3) (e1 dMinA (eSl (eVar 1) (oSome (e2 dIx (eVar 2) (eC (.int 0)))) (oSome (e2 dAdd (e2 dIx (eVar 2) (eC (.int 1))) (eC (.int 1))))))))
def m_law_cheapest : DS := (sRet (e1 dSumA c_law_cheapest_1))
def f_law_cheapest : DF := mkF 4 [.val, .val] m_law_cheapest
theorem ok_law_cheapest {P : Program} {w : World} {K : PySem.W.Frag} {mg : Str → Option Value} {base : Heap} (hK : K = TheK.K) (B : Bf K mg) (F : Fu K mg "_law_cheapest" s_law_cheapest) : Kn P w K mg base .s "_law_cheapest" s_law_cheapest n_law_cheapest p_law_cheapest [.val, .val] f_law_cheapest 1 := kn_of F sc_law_cheapest rfl b_law_cheapest (.inl ⟨rfl, rfl⟩) fun f cdv A outer s H E hr tk hp => by
  have nd : n_law_cheapest.Nodup := sc_law_cheapest.nd
  have hc : (cxD P w K mg base n_law_cheapest "_law_cheapest" (defScope s_law_cheapest) f cdv A outer s H E).calm = true := rfl
  have hu := room_u hr
  exact (ss_one (sd_ret (pd_sumA hc (bn_any rfl B.sum boot_sum) (PD.weak (PD.str (pd_lc (own := [("_law_own", 2), ("_law_many_so", 3)]) hc nd (by kernel_rfl) rfl (id_seq (pd_ix hu (pd_var (i := 0) rfl (.inl rfl)) pd_int)) (fun s H C cl fp => (gd_tup (n := 2) hc (gsd_cons (gd_name (i := 2) nd rfl (.inl rfl)) (gsd_cons (gd_name (i := 3) nd rfl (.inl rfl)) gsd_nil)) (gs_lenS (gs_lenS gs_len0)))) (fun s H C cl fp => cd_nil) (fun s H C cl fp => (pd_mul (pd_var (i := 3) rfl (.inl rfl)) (pd_minA hc (bn_any rfl B.min boot_min) (PD.weak (pd_sl (pd_var (i := 1) rfl (.inr (.inl rfl))) (od_some (pd_ix hu (pd_var (i := 2) rfl (.inl rfl)) pd_int)) (od_some (pd_add (pd_ix hu (pd_var (i := 2) rfl (.inl rfl)) pd_int) pd_int)))))))))))))
abbrev n_law_small_right : List Str := ["_law_box_here", "_law_size_so", "_law_mine_so", "_law_its_so", "_law_steps_so", "_law_many_so", "_law_order_so", "_law_is_so", "_law_own", "_law_fees_so", "_law_hour_so"]
abbrev p_law_small_right : List Str := ["_law_box_here"]
theorem sc_law_small_right : FnScope n_law_small_right p_law_small_right (defScope s_law_small_right) := ⟨rfl, rfl, rfl, by decide +kernel, rfl, by decide +kernel, by decide +kernel⟩
theorem b_law_small_right : BindsOk "_law_small_right" s_law_small_right p_law_small_right := fun _ _ _ _ _ _ us hl => match us, hl with | [_], _ => rfl
def c_law_small_right_1 : DE := (eLc [8] (iSeq (eCall f_law_rows [.e (eVar 1), .e (eC (.int 2))])) (gN 8) (c2 dEq (e1 dList (eVar 8)) (e1 dSortU (eVar 8))) (eVar 8))
def c_law_small_right_2 : DE := (eLc [10] (iRng1 (eVar 1)) (gN 10) tYes (e2 dIx (eVar 8) (eIndexK (eVar 6) (eVar 10))))
def b_law_small_right_1 : DS := (sFg [8, 9] (sSeq (sAsgN 9 c_law_small_right_2) (sAsgN 7 (eAnd (eVar 7) (eB (c2 dLe (eCall f_law_cheapest [.e (eVar 2), .e (eVar 9)]) (eCall f_law_cheapest [.e (eVar 3), .e (eVar 9)])))))))
def l_law_small_right_1 : DS := (sFor (iSeq (eVar 4)) (gN 8) b_law_small_right_1)
def b_law_small_right_2 : DS := (sFg [6, 7, 8, 9] (sSeq (sAsgN 7 (eC (.bl true))) (sSeq l_law_small_right_1 (sSeq (sIf (tNot (tV (eCall (f_law_same 30) [.e (eCall f_never_dearer_in [.e (eVar 2), .e (eVar 3), .e (eVar 6)]), .e (eVar 7)]))) (sRet (eC (.bl false))) sNil) (sAsgN 5 (e2 dAdd (eVar 5) (e1 dInt (eVar 7))))))))
def l_law_small_right_2 : DS := (sFor (iSeq (eCall f_law_orders [.e (eVar 1)])) (gN 6) b_law_small_right_2)
def m_law_small_right : DS := (sSeq (sAsgN 1 (e2 dAdd (eC (.int 1)) (eCall f_law_take [.lend 0, .e (eC (.int 4))]))) (sSeq (sAsgN 2 (eCall f_law_lot [.lend 0, .e (eVar 1), .e (eC (.int 3))])) (sSeq (sAsgN 3 (eCall f_law_moved [.lend 0, .e (eVar 2), .e (e2 dAdd (eC (.int 1)) (eCall f_law_take [.lend 0, .e (eC (.int 6))]))])) (sSeq (sPar [(4, false), (5, false)] [.e c_law_small_right_1, .e (eC (.int 0))]) (sSeq l_law_small_right_2 (sRet (eCall (f_law_same 30) [.e (eCall f_how_many_orders [.e (eVar 2), .e (eVar 3)]), .e (eVar 5)])))))))
def f_law_small_right : DF := mkF 11 [.bor] m_law_small_right
theorem ok_law_small_right {P : Program} {w : World} {K : PySem.W.Frag} {mg : Str → Option Value} {base : Heap} (hK : K = TheK.K) (B : Bf K mg) (F : Fu K mg "_law_small_right" s_law_small_right) (k_law_lot : Kn P w K mg base .s "_law_lot" s_law_lot n_law_lot p_law_lot [.bor, .val, .val] f_law_lot 2) (k_law_moved : Kn P w K mg base .s "_law_moved" s_law_moved n_law_moved p_law_moved [.bor, .val, .val] f_law_moved 3) (k_law_orders : Kn P w K mg base .s "_law_orders" s_law_orders n_law_orders p_law_orders [.val] f_law_orders 1) (k_law_same : Kn P w K mg base .s "_law_same" s_law_same n_law_same p_law_same [.val, .val] (f_law_same 30) 31) (k_law_take : Kn P w K mg base .s "_law_take" s_law_take n_law_take p_law_take [.bor, .val] f_law_take 1) (k_how_many_orders : Kn P w K mg base .s "how_many_orders" s_how_many_orders n_how_many_orders p_how_many_orders [.val, .val] f_how_many_orders 5) (k_law_rows : Kn P w K mg base .s "_law_rows" s_law_rows n_law_rows p_law_rows [.val, .val] f_law_rows 1) (k_never_dearer_in : Kn P w K mg base .s "never_dearer_in" s_never_dearer_in n_never_dearer_in p_never_dearer_in [.val, .val, .val] f_never_dearer_in 5) (k_law_cheapest : Kn P w K mg base .s "_law_cheapest" s_law_cheapest n_law_cheapest p_law_cheapest [.val, .val] f_law_cheapest 1) : Kn P w K mg base .s "_law_small_right" s_law_small_right n_law_small_right p_law_small_right [.bor] f_law_small_right 32 := kn_of F sc_law_small_right rfl b_law_small_right (.inl ⟨rfl, rfl⟩) fun f cdv A outer s H E hr tk hp => by
  have nd : n_law_small_right.Nodup := sc_law_small_right.nd
  have hc : (cxD P w K mg base n_law_small_right "_law_small_right" (defScope s_law_small_right) f cdv A outer s H E).calm = true := rfl
  have hu := room_u hr
  exact (ss_cons (sd_asgN (i := 1) nd rfl (.inl rfl) (pd_add pd_int (pd_call (k_law_take.fn hr) tk rfl (ga_lend (i := 0) rfl (.inl rfl) (ga_val pd_int ga_nil))))) (ss_cons (sd_asgN (i := 2) nd rfl (.inl rfl) (pd_call (k_law_lot.fn hr) tk rfl (ga_lend (i := 0) rfl (.inl rfl) (ga_val (pd_var (i := 1) rfl (.inl rfl)) (ga_val pd_int ga_nil))))) (ss_cons (sd_asgN (i := 3) nd rfl (.inl rfl) (pd_call (k_law_moved.fn hr) tk rfl (ga_lend (i := 0) rfl (.inl rfl) (ga_val (pd_var (i := 2) rfl (.inl rfl)) (ga_val (pd_add pd_int (pd_call (k_law_take.fn hr) tk rfl (ga_lend (i := 0) rfl (.inl rfl) (ga_val pd_int ga_nil)))) ga_nil))))) (ss_cons (sd_par2 (i := 4) (j := 5) hc nd rfl rfl (by decide) rfl rfl (ga_val (PD.str (pd_lc (own := [("_law_own", 8)]) hc nd (by kernel_rfl) rfl (id_seq (pd_call (k_law_rows.fn hr) tk rfl (ga_val (pd_var (i := 1) rfl (.inl rfl)) (ga_val pd_int ga_nil)))) (fun s H C cl fp => (gd_name (i := 8) nd rfl (.inl rfl))) (fun s H C cl fp => (cd_one (td_cmp (ck_eq hu) (PD.str (pd_list (bn_any rfl B.list boot_list) (PD.weak (pd_var (i := 8) rfl (.inl rfl))))) (PD.weak (PD.str (pd_sortU hu (bn_any rfl B.sorted boot_sorted) (PD.weak (pd_var (i := 8) rfl (.inl rfl)))))) rfl))) (fun s H C cl fp => (pd_var (i := 8) rfl (.inl rfl))))) (ga_val pd_int ga_nil)) rfl rfl) (ss_cons (sd_for hp hc (id_seq (pd_call (k_law_orders.fn hr) tk rfl (ga_val (pd_var (i := 1) rfl (.inl rfl)) ga_nil))) (gd_name (i := 6) nd rfl (.inr rfl)) (ss_fg (vs := [6, 7, 8, 9]) (ss_cons (sd_asgN (i := 7) nd rfl (.inl rfl) pd_bl) (ss_cons (sd_for hp hc (id_seq (pd_var (i := 4) rfl (.inl rfl))) (gd_name (i := 8) nd rfl (.inr rfl)) (ss_fg (vs := [8, 9]) (ss_cons (sd_lc (i := 9) (own := [("_law_hour_so", 10)]) hc nd rfl rfl rfl rfl (by kernel_rfl) (by kernel_rfl) rfl (id_range1 (bn_any rfl B.range boot_range) (pd_var (i := 1) rfl (.inl rfl))) (fun s H C cl fp => (gd_name (i := 10) nd rfl (.inl rfl))) (fun s H C cl fp => cd_nil) (fun s H C cl fp => (pd_ix hu (pd_var (i := 8) rfl (.inr (.inl rfl))) (pd_indexK (pd_var (i := 6) rfl (.inr (.inl rfl))) (pd_var (i := 10) rfl (.inl rfl)))))) (ss_one (sd_asgN (i := 7) nd rfl (.inl rfl) (pd_and (pd_var (i := 7) rfl (.inl rfl)) (pd_one (pd_cmp (ck_le hu) (pd_call (k_law_cheapest.fn hr) tk rfl (ga_val (pd_var (i := 2) rfl (.inl rfl)) (ga_val (pd_var (i := 9) rfl (.inl rfl)) ga_nil))) (PD.weak (pd_call (k_law_cheapest.fn hr) tk rfl (ga_val (pd_var (i := 3) rfl (.inl rfl)) (ga_val (pd_var (i := 9) rfl (.inl rfl)) ga_nil)))) rfl)))))))) (ss_cons (sd_if (td_not (td_val (pd_call (k_law_same.fn hr) tk rfl (ga_val (pd_call (k_never_dearer_in.fn hr) tk rfl (ga_val (pd_var (i := 2) rfl (.inl rfl)) (ga_val (pd_var (i := 3) rfl (.inl rfl)) (ga_val (pd_var (i := 6) rfl (.inr (.inl rfl))) ga_nil)))) (ga_val (pd_var (i := 7) rfl (.inl rfl)) ga_nil))))) (ss_one (sd_ret pd_bl)) ss_nil) (ss_one (sd_asgN (i := 5) nd rfl (.inl rfl) (pd_add (pd_var (i := 5) rfl (.inl rfl)) (pd_toint (bn_any rfl B.int boot_int) (pd_var (i := 7) rfl (.inl rfl))))))))))) (ss_one (sd_ret (pd_call (k_law_same.fn hr) tk rfl (ga_val (pd_call (k_how_many_orders.fn hr) tk rfl (ga_val (pd_var (i := 2) rfl (.inl rfl)) (ga_val (pd_var (i := 3) rfl (.inl rfl)) ga_nil))) (ga_val (pd_var (i := 5) rfl (.inl rfl)) ga_nil))))))))))
abbrev n_law_mixed : List Str := ["_law_box_here", "_law_rows_so", "_law_rest_so", "_law_found", "_law_turn", "_law_at_so"]
abbrev p_law_mixed : List Str := ["_law_box_here", "_law_rows_so"]
theorem sc_law_mixed : FnScope n_law_mixed p_law_mixed (defScope s_law_mixed) := ⟨rfl, rfl, rfl, by decide +kernel, rfl, by decide +kernel, by decide +kernel⟩
theorem b_law_mixed : BindsOk "_law_mixed" s_law_mixed p_law_mixed := fun _ _ _ _ _ _ us hl => match us, hl with | [_, _], _ => rfl
theorem ok_law_mixed {P : Program} {w : World} {K : PySem.W.Frag} {mg : Str → Option Value} {base : Heap} (hK : K = TheK.K) (B : Bf K mg) (F : Fu K mg "_law_mixed" s_law_mixed) (k_law_take : Kn P w K mg base .s "_law_take" s_law_take n_law_take p_law_take [.bor, .val] f_law_take 1) : Kn P w K mg base .s "_law_mixed" s_law_mixed n_law_mixed p_law_mixed [.bor, .val] f_law_mixed 2 := kn_of F sc_law_mixed rfl b_law_mixed (.inl ⟨rfl, rfl⟩) fun f cdv A outer s H E hr tk hp => by
  have nd : n_law_mixed.Nodup := sc_law_mixed.nd
  have hc : (cxD P w K mg base n_law_mixed "_law_mixed" (defScope s_law_mixed) f cdv A outer s H E).calm = true := rfl
  have hu := room_u hr
  exact (ss_cons (sd_par2 (i := 2) (j := 3) hc nd rfl rfl (by decide) rfl rfl (ga_val (PD.str (pd_list (bn_any rfl B.list boot_list) (PD.weak (pd_var (i := 1) rfl (.inl rfl))))) (ga_new (pd_lst ad_nil) ga_nil)) rfl rfl) (ss_cons (sd_for hp hc (id_range1 (bn_any rfl B.range boot_range) (pd_len (bn_any rfl B.len boot_len) (PD.weak (pd_var (i := 1) rfl (.inl rfl))))) (gd_name (i := 4) nd rfl (.inl rfl)) (ss_fg (vs := [4, 5]) (ss_cons (sd_asgN (i := 5) nd rfl (.inl rfl) (pd_call (k_law_take.fn hr) tk rfl (ga_lend (i := 0) rfl (.inl rfl) (ga_val (pd_len (bn_any rfl B.len boot_len) (PD.weak (pd_var (i := 2) rfl (.inl rfl)))) ga_nil)))) (ss_cons (sd_app (i := 3) rfl (.inl rfl) (pd_ix hu (pd_var (i := 2) rfl (.inl rfl)) (pd_var (i := 5) rfl (.inl rfl)))) (ss_one (sd_asgN (i := 2) nd rfl (.inl rfl) (pd_add (pd_sl (pd_var (i := 2) rfl (.inl rfl)) od_none (od_some (pd_var (i := 5) rfl (.inl rfl)))) (pd_sl (pd_var (i := 2) rfl (.inl rfl)) (od_some (pd_add (pd_var (i := 5) rfl (.inl rfl)) pd_int)) od_none)))))))) (ss_rel (i := 3) (ss_one (sd_ret (pd_var (i := 3) rfl (.inl rfl)))))))
abbrev n_law_right : List Str := ["_law_box_here", "_law_turn", "_law_size_so", "_law_mine_so", "_law_its_so", "_law_lap", "_law_order_so", "_law_due_so", "_law_got", "_law_own"]
abbrev p_law_right : List Str := ["_law_box_here"]
theorem sc_law_right : FnScope n_law_right p_law_right (defScope s_law_right) := ⟨rfl, rfl, rfl, by decide +kernel, rfl, by decide +kernel, by decide +kernel⟩
theorem b_law_right : BindsOk "_law_right" s_law_right p_law_right := fun _ _ _ _ _ _ us hl => match us, hl with | [_], _ => rfl
def b_law_right_1 : DS := (sFg [5, 6, 7, 8] (sSeq (sAsgN 6 (e1 dTuple (eCall f_law_mixed [.lend 0, .e (lRng1 (eVar 2))]))) (sSeq (sAsgN 7 (eCall f_law_is_fine [.e (eVar 3), .e (eVar 4), .e (eVar 6)])) (sSeq (sAsgN 8 (eLst (aCons (eCall f_never_dearer_in [.e (eVar 3), .e (eVar 4), .e (eVar 6)]) (aCons (eCall f_never_dearer_in [.e (eCall (f_law_lists 30) [.e (eVar 3)]), .e (eVar 4), .e (e1 dList (eVar 6))]) aNil)))) (sIf (tNot (tV (eCall (f_law_same 30) [.e (eVar 8), .e (eLst (aCons (eVar 7) (aCons (eVar 7) aNil)))]))) (sRet (eC (.bl false))) sNil)))))
def l_law_right_1 : DS := (sFor (iRng1 (eC (.int 6))) (gN 5) b_law_right_1)
def c_law_right_1 : DE := (eLc [9] (iSeq (eCall f_law_orders [.e (eVar 2)])) (gN 9) (tV (eCall f_law_is_fine [.e (eVar 3), .e (eVar 4), .e (eVar 9)])) (eVar 9))
def b_law_right_2 : DS := (sFg [1, 2, 3, 4, 5, 6, 7, 8] (sSeq (sAsgN 2 (e2 dAdd (eC (.int 1)) (eCall f_law_take [.lend 0, .e (eC (.int 8))]))) (sSeq (sAsgN 3 (eIf (c2 dEq (eVar 1) (eC (.int 5))) (eCall f_law_great [.lend 0, .e (eVar 2)]) (eCall f_law_lot [.lend 0, .e (eVar 2), .e (eC (.int 4))]))) (sSeq (sAsgN 4 (eCall f_law_moved [.lend 0, .e (eVar 3), .e (e2 dAdd (eC (.int 1)) (eCall f_law_take [.lend 0, .e (eC (.int 8))]))])) (sSeq l_law_right_1 (sSeq (sIf (c2 dLt (eVar 2) (eC (.int 6))) (sSeq (sAsgN 7 c_law_right_1) (sIf (tNot (tV (eCall (f_law_same 30) [.e (eCall f_how_many_orders [.e (eVar 3), .e (eVar 4)]), .e (e1 dLen (eVar 7))]))) (sRet (eC (.bl false))) sNil)) sNil) (sIf (tNot (tV (eCall f_law_small_right [.lend 0]))) (sRet (eC (.bl false))) sNil)))))))
def l_law_right_2 : DS := (sFor (iRng1 (eC (.int 6))) (gN 1) b_law_right_2)
def m_law_right : DS := (sSeq l_law_right_2 (sRet (eC (.bl true))))
def f_law_right : DF := mkF 10 [.bor] m_law_right
theorem ok_law_right {P : Program} {w : World} {K : PySem.W.Frag} {mg : Str → Option Value} {base : Heap} (hK : K = TheK.K) (B : Bf K mg) (F : Fu K mg "_law_right" s_law_right) (k_law_moved : Kn P w K mg base .s "_law_moved" s_law_moved n_law_moved p_law_moved [.bor, .val, .val] f_law_moved 3) (k_law_take : Kn P w K mg base .s "_law_take" s_law_take n_law_take p_law_take [.bor, .val] f_law_take 1) (k_law_great : Kn P w K mg base .s "_law_great" s_law_great n_law_great p_law_great [.bor, .val] f_law_great 3) (k_law_lot : Kn P w K mg base .s "_law_lot" s_law_lot n_law_lot p_law_lot [.bor, .val, .val] f_law_lot 2) (k_law_is_fine : Kn P w K mg base .s "_law_is_fine" s_law_is_fine n_law_is_fine p_law_is_fine [.val, .val, .val] f_law_is_fine 2) (k_law_small_right : Kn P w K mg base .s "_law_small_right" s_law_small_right n_law_small_right p_law_small_right [.bor] f_law_small_right 32) (k_law_mixed : Kn P w K mg base .s "_law_mixed" s_law_mixed n_law_mixed p_law_mixed [.bor, .val] f_law_mixed 2) (k_never_dearer_in : Kn P w K mg base .s "never_dearer_in" s_never_dearer_in n_never_dearer_in p_never_dearer_in [.val, .val, .val] f_never_dearer_in 5) (k_law_same : Kn P w K mg base .s "_law_same" s_law_same n_law_same p_law_same [.val, .val] (f_law_same 30) 31) (k_law_lists : Kn P w K mg base .s "_law_lists" s_law_lists n_law_lists p_law_lists [.val] (f_law_lists 30) 31) (k_law_orders : Kn P w K mg base .s "_law_orders" s_law_orders n_law_orders p_law_orders [.val] f_law_orders 1) (k_how_many_orders : Kn P w K mg base .s "how_many_orders" s_how_many_orders n_how_many_orders p_how_many_orders [.val, .val] f_how_many_orders 5) : Kn P w K mg base .s "_law_right" s_law_right n_law_right p_law_right [.bor] f_law_right 33 := kn_of F sc_law_right rfl b_law_right (.inl ⟨rfl, rfl⟩) fun f cdv A outer s H E hr tk hp => by
  have nd : n_law_right.Nodup := sc_law_right.nd
  have hc : (cxD P w K mg base n_law_right "_law_right" (defScope s_law_right) f cdv A outer s H E).calm = true := rfl
  have hu := room_u hr
  exact (ss_cons (sd_for hp hc (id_range1 (bn_any rfl B.range boot_range) pd_int) (gd_name (i := 1) nd rfl (.inl rfl)) (ss_fg (vs := [1, 2, 3, 4, 5, 6, 7, 8]) (ss_cons (sd_asgN (i := 2) nd rfl (.inl rfl) (pd_add pd_int (pd_call (k_law_take.fn hr) tk rfl (ga_lend (i := 0) rfl (.inl rfl) (ga_val pd_int ga_nil))))) (ss_cons (sd_asgN (i := 3) nd rfl (.inr rfl) (pd_if (td_cmp (ck_eq hu) (pd_var (i := 1) rfl (.inl rfl)) (PD.weak pd_int) rfl) (pd_call (k_law_great.fn hr) tk rfl (ga_lend (i := 0) rfl (.inl rfl) (ga_val (pd_var (i := 2) rfl (.inl rfl)) ga_nil))) (pd_call (k_law_lot.fn hr) tk rfl (ga_lend (i := 0) rfl (.inl rfl) (ga_val (pd_var (i := 2) rfl (.inl rfl)) (ga_val pd_int ga_nil)))))) (ss_cons (sd_asgN (i := 4) nd rfl (.inr rfl) (pd_call (k_law_moved.fn hr) tk rfl (ga_lend (i := 0) rfl (.inl rfl) (ga_val (pd_var (i := 3) rfl (.inr (.inl rfl))) (ga_val (pd_add pd_int (pd_call (k_law_take.fn hr) tk rfl (ga_lend (i := 0) rfl (.inl rfl) (ga_val pd_int ga_nil)))) ga_nil))))) (ss_cons (sd_for hp hc (id_range1 (bn_any rfl B.range boot_range) pd_int) (gd_name (i := 5) nd rfl (.inl rfl)) (ss_fg (vs := [5, 6, 7, 8]) (ss_cons (sd_asgN (i := 6) nd rfl (.inl rfl) (pd_tuple (bn_any rfl B.tuple boot_tuple) (pd_call (k_law_mixed.fn hr) tk rfl (ga_lend (i := 0) rfl (.inl rfl) (ga_val (PD.str (pd_listR1 hc (bn_any rfl B.list boot_list) (bn_any rfl B.range boot_range) (pd_var (i := 2) rfl (.inl rfl)))) ga_nil))))) (ss_cons (sd_asgN (i := 7) nd rfl (.inl rfl) (pd_call (k_law_is_fine.fn hr) tk rfl (ga_val (pd_var (i := 3) rfl (.inr (.inl rfl))) (ga_val (pd_var (i := 4) rfl (.inr (.inl rfl))) (ga_val (pd_var (i := 6) rfl (.inl rfl)) ga_nil))))) (ss_cons (sd_asgN (i := 8) nd rfl (.inl rfl) (PD.str (pd_lst (ad_cons (pd_call (k_never_dearer_in.fn hr) tk rfl (ga_val (pd_var (i := 3) rfl (.inr (.inl rfl))) (ga_val (pd_var (i := 4) rfl (.inr (.inl rfl))) (ga_val (pd_var (i := 6) rfl (.inl rfl)) ga_nil)))) (ad_cons (pd_call (k_never_dearer_in.fn hr) tk rfl (ga_val (pd_call (k_law_lists.fn hr) tk rfl (ga_val (pd_var (i := 3) rfl (.inr (.inl rfl))) ga_nil)) (ga_val (pd_var (i := 4) rfl (.inr (.inl rfl))) (ga_val (PD.str (pd_list (bn_any rfl B.list boot_list) (PD.weak (pd_var (i := 6) rfl (.inl rfl))))) ga_nil)))) ad_nil))))) (ss_one (sd_if (td_not (td_val (pd_call (k_law_same.fn hr) tk rfl (ga_val (pd_var (i := 8) rfl (.inl rfl)) (ga_val (PD.str (pd_lst (ad_cons (pd_var (i := 7) rfl (.inl rfl)) (ad_cons (pd_var (i := 7) rfl (.inl rfl)) ad_nil)))) ga_nil))))) (ss_one (sd_ret pd_bl)) ss_nil))))))) (ss_cons (sd_if (td_cmp (ck_lt hu) (pd_var (i := 2) rfl (.inl rfl)) (PD.weak pd_int) rfl) (ss_cons (sd_lc (i := 7) (own := [("_law_own", 9)]) hc nd rfl rfl rfl rfl (by kernel_rfl) (by kernel_rfl) rfl (id_seq (pd_call (k_law_orders.fn hr) tk rfl (ga_val (pd_var (i := 2) rfl (.inl rfl)) ga_nil))) (fun s H C cl fp => (gd_name (i := 9) nd rfl (.inl rfl))) (fun s H C cl fp => (cd_one (td_val (pd_call (k_law_is_fine.fn hr) tkNone rfl (ga_val (pd_var (i := 3) rfl (.inr (.inl rfl))) (ga_val (pd_var (i := 4) rfl (.inr (.inl rfl))) (ga_val (pd_var (i := 9) rfl (.inl rfl)) ga_nil))))))) (fun s H C cl fp => (pd_var (i := 9) rfl (.inl rfl)))) (ss_one (sd_if (td_not (td_val (pd_call (k_law_same.fn hr) tk rfl (ga_val (pd_call (k_how_many_orders.fn hr) tk rfl (ga_val (pd_var (i := 3) rfl (.inr (.inl rfl))) (ga_val (pd_var (i := 4) rfl (.inr (.inl rfl))) ga_nil))) (ga_val (pd_len (bn_any rfl B.len boot_len) (PD.weak (pd_var (i := 7) rfl (.inl rfl)))) ga_nil))))) (ss_one (sd_ret pd_bl)) ss_nil))) ss_nil) (ss_one (sd_if (td_not (td_val (pd_call (k_law_small_right.fn hr) tk rfl (ga_lend (i := 0) rfl (.inl rfl) ga_nil)))) (ss_one (sd_ret pd_bl)) ss_nil))))))))) (ss_one (sd_ret pd_bl)))
abbrev n_law_box : List Str := ["_law_script", "_law_k", "_law_cell"]
abbrev p_law_box : List Str := ["_law_script", "_law_k"]
theorem sc_law_box : FnScope n_law_box p_law_box (defScope s_law_box) := ⟨rfl, rfl, rfl, by decide +kernel, rfl, by decide +kernel, by decide +kernel⟩
theorem b_law_box : BindsOk "_law_box" s_law_box p_law_box := fun _ _ _ _ _ _ us hl => match us, hl with | [_, _], _ => rfl
def m_law_box : DS := (sSeq (sAsgN 2 (eIf (c2 dLt (eVar 1) (e1 dLen (eVar 0))) (e2 dIx (eVar 0) (eVar 1)) (eC (.int 0)))) (sRet (eLst (aCons (e2 dMul (e1 dAbs (eVar 2)) (e1 dInt (eB (c2 dGe (e1 dAbs (eVar 2)) (e2 dPow (eC (.int 10)) (eC (.int 18))))))) (aCons (e2 dAdd (e2 dAdd (e2 dMod (e1 dInt (eVar 2)) (eC (.int 2305843009213693951))) (e2 dMul (eC (.int 39373)) (eVar 1))) (eC (.int 35229))) (aCons (eC (.int 0)) aNil))))))
def f_law_box : DF := mkR 3 [.val, .val] m_law_box
theorem ok_law_box {P : Program} {w : World} {K : PySem.W.Frag} {mg : Str → Option Value} {base : Heap} (hK : K = TheK.K) (B : Bf K mg) (F : Fu K mg "_law_box" s_law_box) : Kn P w K mg base .f "_law_box" s_law_box n_law_box p_law_box [.val, .val] f_law_box 1 := kn_of F sc_law_box rfl b_law_box (.inr rfl) fun f cdv A outer s H E hr tk hp => by
  have nd : n_law_box.Nodup := sc_law_box.nd
  have hc : (cxD P w K mg base n_law_box "_law_box" (defScope s_law_box) f cdv A outer s H E).calm = true := rfl
  have hu := room_u hr
  exact (ss_cons (sd_asgN (i := 2) nd rfl (.inl rfl) (pd_if (td_cmp (ck_lt hu) (pd_var (i := 1) rfl (.inl rfl)) (PD.weak (pd_len (bn_any rfl B.len boot_len) (PD.weak (pd_var (i := 0) rfl (.inl rfl))))) rfl) (pd_ix hu (pd_var (i := 0) rfl (.inl rfl)) (pd_var (i := 1) rfl (.inl rfl))) pd_int)) (ss_one (sd_retF (pd_lst (ad_cons (pd_mul (pd_abs (bn_any rfl B.abs boot_abs) (pd_var (i := 2) rfl (.inl rfl))) (pd_toint (bn_any rfl B.int boot_int) (pd_cmp ck_ge (pd_abs (bn_any rfl B.abs boot_abs) (pd_var (i := 2) rfl (.inl rfl))) (PD.weak (pd_pow pd_int pd_int)) rfl))) (ad_cons (pd_add (pd_add (pd_mod (pd_toint (bn_any rfl B.int boot_int) (pd_var (i := 2) rfl (.inl rfl))) pd_int) (pd_mul pd_int (pd_var (i := 1) rfl (.inl rfl)))) pd_int) (ad_cons pd_int ad_nil)))))))
abbrev n_law : List Str := ["_law_script", "_law_cells_here", "_law_k"]
abbrev p_law : List Str := ["_law_script"]
theorem sc_law : FnScope n_law p_law (defScope s_law) := ⟨rfl, rfl, rfl, by decide +kernel, rfl, by decide +kernel, by decide +kernel⟩
theorem b_law : BindsOk "law" s_law p_law := fun _ _ _ _ _ _ us hl => match us, hl with | [_], _ => rfl
def c_law_1 : DE := (eLc [2] (iRng1 (e1 dLen (eVar 1))) (gN 2) tYes (eCall f_law_right [.new (eCall f_law_box [.e (eVar 1), .e (eVar 2)])]))
def m_law : DS := (sSeq (sIf (tNot (tV (eCall f_law_by_hand_right []))) (sRet (eC (.bl false))) sNil) (sSeq (sAsgN 1 (eCall f_law_cells [.look 0, .e (eC (.int 3))])) (sRet (e1 dAll c_law_1))))
def f_law : DF := mkF 3 [.ro] m_law
theorem ok_law {P : Program} {w : World} {K : PySem.W.Frag} {mg : Str → Option Value} {base : Heap} (hK : K = TheK.K) (B : Bf K mg) (F : Fu K mg "law" s_law) (k_law_cells : Kn P w K mg base .s "_law_cells" s_law_cells n_law_cells p_law_cells [.ro, .val] f_law_cells 1) (k_law_by_hand_right : Kn P w K mg base .s "_law_by_hand_right" s_law_by_hand_right n_law_by_hand_right p_law_by_hand_right [] f_law_by_hand_right 33) (k_law_right : Kn P w K mg base .s "_law_right" s_law_right n_law_right p_law_right [.bor] f_law_right 33) (k_law_box : Kn P w K mg base .f "_law_box" s_law_box n_law_box p_law_box [.val, .val] f_law_box 1) : Kn P w K mg base .s "law" s_law n_law p_law [.ro] f_law 34 := kn_of F sc_law rfl b_law (.inl ⟨rfl, rfl⟩) fun f cdv A outer s H E hr tk hp => by
  have nd : n_law.Nodup := sc_law.nd
  have hc : (cxD P w K mg base n_law "law" (defScope s_law) f cdv A outer s H E).calm = true := rfl
  have hu := room_u hr
  exact (ss_cons (sd_if (td_not (td_val (pd_call0 (k_law_by_hand_right.fn hr) tk rfl))) (ss_one (sd_ret pd_bl)) ss_nil) (ss_cons (sd_asgN (i := 1) nd rfl (.inr rfl) (pd_call (k_law_cells.fn hr) tk rfl (ga_look (i := 0) rfl (.inl rfl) (ga_val pd_int ga_nil)))) (ss_one (sd_ret (pd_all hc (bn_any rfl B.all boot_all) (PD.weak (PD.str (pd_lc (own := [("_law_k", 2)]) hc nd (by kernel_rfl) rfl (id_range1 (bn_any rfl B.range boot_range) (pd_len (bn_any rfl B.len boot_len) (PD.weak (pd_var (i := 1) rfl (.inr (.inl rfl)))))) (fun s H C cl fp => (gd_name (i := 2) nd rfl (.inl rfl))) (fun s H C cl fp => cd_nil) (fun s H C cl fp => (pd_call (k_law_right.fn hr) tkNone rfl (ga_new (pd_call (k_law_box.fn hr) tkNone rfl (ga_val (pd_var (i := 1) rfl (.inr (.inl rfl))) (ga_val (pd_var (i := 2) rfl (.inl rfl)) ga_nil))) ga_nil)))))))))))
end LW
namespace AH
open LW PySem L2
variable [TheK]
theorem leastOf_mem : ∀ {L : List Int}, L ≠ [] → leastOf L ∈ L
  | [], h => absurd rfl h
  | [x], _ => List.mem_singleton.mpr rfl
  | x :: y :: r, _ => by
    have e : leastOf (x :: y :: r) = if leastOf (y :: r) < x then leastOf (y :: r) else x := rfl
    rw [e]
    split
    · exact List.mem_cons_of_mem _ (leastOf_mem (by simp))
    · exact List.mem_cons_self
theorem ints_nd9 {a b : Int} : (intsR a b).Nodup := by
  unfold intsR List.Nodup
  rw [List.pairwise_map]
  exact List.nodup_range.imp fun h e => h (by omega)
def minI (ns : List Int) (it : Er) : Int := leastOf ((intsR it.1.1 (it.1.2 + 1)).map (getI ns))
def cpI9 (its : List Er) (ns : List Int) : Int := (its.map fun it => it.2 * minI ns it).sum
theorem ints_ne {a b : Int} (h : a ≤ b) : intsR a (b + 1) ≠ [] := fun e => by
  have := intsR_len (a := a) (b := b + 1)
  rw [e] at this
  simp at this
  omega
theorem getI_b {ns : List Int} (h : ∀ n ∈ ns, 0 ≤ n ∧ n < 1000) {i : Int} (h0 : 0 ≤ i) (h1 : i < ns.length) : 0 ≤ getI ns i ∧ getI ns i < 1000 := by
  unfold getI
  rw [List.getD_eq_getElem?_getD, List.getElem?_eq_getElem (by omega)]
  exact h _ (List.getElem_mem _)
theorem min_b {ns : List Int} {it : Er} (h : ∀ n ∈ ns, 0 ≤ n ∧ n < 1000) (h0 : 0 ≤ it.1.1) (h1 : it.1.1 ≤ it.1.2) (h2 : it.1.2 < ns.length) : 0 ≤ minI ns it ∧ minI ns it < 1000 := by
  have m := leastOf_mem (L := (intsR it.1.1 (it.1.2 + 1)).map (getI ns)) (fun e => ints_ne h1 (List.map_eq_nil_iff.mp e))
  obtain ⟨i, hi, e⟩ := List.mem_map.mp m
  have := mem_intsR.mp hi
  unfold minI
  rw [← e]
  exact getI_b h (by omega) (by omega)
theorem dMinA_cut9 {k : Bool} {ns : List Int} {a b : Int} (h0 : 0 ≤ a) (h1 : a ≤ b) (h2 : b < ns.length) : dMinA (sq k ((cut ns (some a) (some (b + 1))).map D.int)) = .ok (.int (leastOf ((intsR a (b + 1)).map (getI ns)))) := by
  have m := dMinL_map (f := getI ns) (ints_ne h1)
  rw [cut_get h0 (by omega) (by omega), List.map_map]
  cases k <;> exact m
section
variable {k j : Bool} {s t h : Int} {its : List Er} {ns : List Int}
theorem lawch33 (hL : Lot s t its) (hs : ∀ n ∈ ns, 0 ≤ n ∧ n < 1000) (hl : its.length ≤ 1000) (hn : (ns.length : Int) = s) : LW.f_law_cheapest [lotD true s its, sq j (ns.map D.int)] = .ok (.int (cpI9 its ns)) [] := by
  have lc : LW.c_law_cheapest_1 [.val (lotD true s its), .val (sq j (ns.map D.int)), .no, .no] = .ok (.lst (its.map fun it => .int (it.2 * minI ns it))) [.val (lotD true s its), .val (sq j (ns.map D.int)), .no, .no] := by
    unfold LW.c_law_cheapest_1
    have ix : dIx (lotD true s its) (.int 1) = .ok (.tup (its.map (encE true))) := rfl
    refine lc_map (T := Er) (L := its) (enc := encE true) (fun it => .int (it.2 * minI ns it)) (Wn.eq (by simp)) rfl (by omega) fun y hy => ?_
    have m := hL.mem hy
    have po := hL.pos y hy
    have mn := dMinA_cut9 (k := j) (ns := ns) m.1 m.2.1 (by omega)
    have mb := min_b hs m.1 m.2.1 (by omega)
    have mo : mulOk y.2 (minI ns y) = true := mulOk_r (by omega)
    unfold minI at mo ⊢
    cases j
    · simp only [sq_false] at mn ⊢
      simp [wipeE, encE, sq_true, cut_ints, atI, ixN, mn, mo]
    · simp only [sq_true] at mn ⊢
      simp [wipeE, encE, sq_true, cut_ints, atI, ixN, mn, mo]
  refine WF.eq ?_
  rw [LW.f_law_cheapest, wf_mkF rfl]
  simp [startE, LW.m_law_cheapest, wn_eq lc]
  simp [cpI9]
end
@[simp] theorem wn_eW {m : DE} {e : Env} {Q : D → Env → Prop} {E : Str → List D → Env → Prop} : Wn (eW m) e Q E = Wn m e (fun d e1 => Q (unK d) e1) E := by
  unfold eW
  simp only [wn_bind, wn_pure]
@[simp] theorem unK_tup {xs : List D} : unK (.tup xs) = .tup xs := rfl
@[simp] theorem unK_lst {xs : List D} : unK (.lst xs) = .lst xs := rfl
@[simp] theorem unK_ktp {xs : List D} : unK (.ktp xs) = .tup xs := rfl
/-! ### what hours ask -/
def insB (some : List Int) (it : Er) : Bool := (intsR it.1.1 (it.1.2 + 1)).all fun x => decide (x ∈ some)
def asI (some : List Int) (its : List Er) : Int := (its.map fun it => if insB some it = true then it.2 else 0).sum
theorem dIn_ints {j : Bool} {some : List Int} {x : Int} : dIn (.int x) (sq j (some.map D.int)) = .ok (decide (x ∈ some)) := by
  have pl : D.plainL 39 (some.map D.int) = true := plainL_iff.mpr fun y hy => by
    obtain ⟨p, _, rfl⟩ := List.mem_map.mp hy
    rfl
  have an : ((some.map D.int).any fun y => y.eqv (.int x)) = decide (x ∈ some) := by
    rw [List.any_map, Bool.eq_iff_iff, List.any_eq_true, decide_eq_true_eq]
    have ev : ∀ q : Int, D.eqv (.int q) (.int x) = (q == x) := fun _ => rfl
    constructor
    · rintro ⟨q, hq, e⟩
      simp only [Function.comp, ev, beq_iff_eq] at e
      exact e ▸ hq
    · intro h
      exact ⟨x, h, by simp [Function.comp, ev]⟩
  have key : (if (D.int x).plain 40 && D.plainL 39 (some.map D.int) then Rv.ok ((some.map D.int).any fun y => y.eqv (.int x)) else .bad) = Rv.ok (decide (x ∈ some)) := by
    rw [pl, an]
    rfl
  cases j <;> exact key
theorem dNotIn_ints {j : Bool} {some : List Int} {x : Int} : dNotIn (.int x) (sq j (some.map D.int)) = .ok (!decide (x ∈ some)) := by
  unfold dNotIn
  rw [dIn_ints]
theorem filt_if {p : Er → Bool} : ∀ {L : List Er}, ((L.filter p).map fun it => it.2).sum = (L.map fun it => if p it = true then it.2 else 0).sum
  | [] => rfl
  | x :: L => by
    rw [List.filter_cons, List.map_cons, List.sum_cons, ← filt_if]
    split
    · rw [List.map_cons, List.sum_cons]
    · omega
section
variable {k j : Bool} {s : Int} {its : List Er} {some : List Int}
theorem asked31 {d : D} (hd : unK d = sq j (some.map D.int)) (hl : its.length ≤ 1000) (hs : some.length ≤ 1000) (hb : ∀ x ∈ some, 0 ≤ x ∧ x < s) (hw : ∀ it ∈ its, 0 ≤ it.1.1 ∧ it.1.1 ≤ it.1.2 ∧ it.1.2 < 1000) : f_asked_ofK [lotD k s its, d] = .ok (.int (asI some its)) [] := by
  have ix0 : dIx (lotD k s its) (.int 0) = .ok (.int s) := by cases k <;> rfl
  have ix : dIx (lotD k s its) (.int 1) = .ok (sq k (its.map (encE k))) := by cases k <;> rfl
  have lp : ∀ {Q : Out → Env → Prop} {E : Str → List D → Env → Prop}, Q .nx [.val (lotD k s its), .val (d), .no, .no, .no, .no] → Wn (loop (gN 2) b_asked_ofK_1 (some.map D.int)) [.val (lotD k s its), .val (d), .no, .no, .no, .no] Q E := by
    intro Q E q
    refine wn_each (fun y hy => ?_) q
    obtain ⟨x, hx, rfl⟩ := List.mem_map.mp hy
    have b := hb x hx
    unfold b_asked_ofK_1
    rw [wn_gN]
    simp [wn_sFg, ix0, b.1, b.2]
  have lc : c_asked_ofK_2 [.val (lotD k s its), .val (d), .no, .no, .no, .no] = .ok (.lst ((its.filter (insB some)).map fun it => .int it.2)) [.val (lotD k s its), .val (d), .no, .no, .no, .no] := by
    unfold c_asked_ofK_2
    refine lc_filter (T := Er) (L := its) (enc := encE k) (insB some) (fun it => .int it.2) (Wn.eq (by simp [ix])) rfl (by omega) fun y hy => ?_
    have yb := hw y hy
    have inn : c_asked_ofK_1 [.val (lotD k s its), .val (d), .no, .val (.int y.1.1), .val (.int y.1.2), .val (.int y.2)] = .ok (.lst ((intsR y.1.1 (y.1.2 + 1)).map fun x => .bl (decide (x ∈ some)))) [.val (lotD k s its), .val (d), .no, .val (.int y.1.1), .val (.int y.1.2), .val (.int y.2)] := by
      unfold c_asked_ofK_1
      refine lc_map (T := Int) (L := intsR y.1.1 (y.1.2 + 1)) (enc := D.int) (fun x => .bl (decide (x ∈ some))) (Wn.eq (by simp [rng_eq]; omega)) rfl (by rw [intsR_len]; omega) fun x hx => ?_
      simp [wipeE, hd, dIn_ints]
    cases k <;> simp [wipeE, encE, sq_true, sq_false] <;> rw [wn_eq inn] <;> simp [insB]
  refine WF.eq ?_
  rw [f_asked_ofK, wf_mkF rfl]
  simp only [startE, m_asked_ofK, wn_seq]
  simp [l_asked_ofK_1, hd]
  refine lp ?_
  simp [wn_eq lc, asI]
  exact filt_if
end
section
variable {k j : Bool} {s t : Int} {its : List Er} {ns some : List Int}
theorem inset31 {d : D} (hd : unK d = sq j (some.map D.int)) (hl : its.length ≤ 1000) (hw : ∀ it ∈ its, 0 ≤ it.1.1 ∧ it.1.1 ≤ it.1.2 ∧ it.1.2 < 1000) : f_law_in_setK [lotD true s its, d] = .ok (.int (asI some its)) [] := by
  have lp := loop_foldQ (T := Er) (S := Int) (g := gT (gsCons (gN 3) (gsCons (gN 4) gsNil))) (b := b_law_in_setK_1) (st := fun a => [.val (lotD true s its), .val (d), .val (.int a), .no, .no, .no]) (enc := encE true) (fun a it => a + if insB some it = true then it.2 else 0) (fun _ R => ∀ it ∈ R, 0 ≤ it.1.1 ∧ it.1.1 ≤ it.1.2 ∧ it.1.2 < 1000) its 0 hw fun a it R hR => by
    have ib := hR it List.mem_cons_self
    refine ⟨fun y hy => hR y (List.mem_cons_of_mem _ hy), ?_⟩
    have lc : c_law_in_setK_1 [.val (lotD true s its), .val (d), .val (.int a), .val (.tup [.int it.1.1, .int it.1.2]), .val (.int it.2), .no] = .ok (.lst (((intsR it.1.1 (it.1.2 + 1)).filter fun x => !decide (x ∈ some)).map D.int)) [.val (lotD true s its), .val (d), .val (.int a), .val (.tup [.int it.1.1, .int it.1.2]), .val (.int it.2), .no] := by
      unfold c_law_in_setK_1
      refine lc_filter (T := Int) (L := intsR it.1.1 (it.1.2 + 1)) (enc := D.int) (fun x => !decide (x ∈ some)) D.int (Wn.eq (by simp [rng_eq, atI, ixN]; omega)) rfl (by rw [intsR_len]; omega) fun x hx => ?_
      simp [wipeE, hd, dNotIn_ints]
    have sm : (D.lst (((intsR it.1.1 (it.1.2 + 1)).filter fun x => !decide (x ∈ some)).map D.int)).sm 1 = true := sm_row (k := false) (Nat.le_trans (List.length_filter_le _ _) (by rw [intsR_len]; omega))
    have dn := dEq_nilL sm (by omega)
    have em : (((intsR it.1.1 (it.1.2 + 1)).filter fun x => !decide (x ∈ some)).map D.int).isEmpty = insB some it := by
      rw [List.isEmpty_map]
      unfold insB
      rw [Bool.eq_iff_iff, List.isEmpty_iff, List.filter_eq_nil_iff, List.all_eq_true]
      simp
    rw [em] at dn
    unfold b_law_in_setK_1
    simp only [encE, sq_true]
    simp [wn_sFg]
    rw [wn_eq lc]
    cases hi : insB some it <;> rw [hi] at dn <;> simp [dn]
  have ix : dIx (lotD true s its) (.int 1) = .ok (.tup (its.map (encE true))) := rfl
  have fs : ∀ (L : List Er) (a : Int), L.foldl (fun a it => a + if insB some it = true then it.2 else 0) a = a + asI some L := by
    intro L
    induction L with
    | nil => intro a; show a = a + 0; omega
    | cons x L ih =>
      intro a
      rw [List.foldl_cons, ih]
      have e : asI some (x :: L) = (if insB some x = true then x.2 else 0) + asI some L := by simp [asI]
      rw [e]
      omega
  rw [fs] at lp
  refine WF.eq ?_
  rw [f_law_in_setK, wf_mkF rfl]
  simp only [startE, m_law_in_setK, wn_seq]
  simp [l_law_in_setK_1, ix]
  rw [wn_eq lp]
  simp
end
end AH
namespace AH
open PySem L2
/-! ### orders of hours -/
def without (h : Int) (S : List Int) : List Int := S.filter fun x => decide (x ≠ h)
def pf : Nat → List Int → List (List Int)
  | 0, _ => [[]]
  | k + 1, S => S.flatMap fun h => (pf k (without h S)).map (h :: ·)
theorem without_perm {h : Int} {S : List Int} (nd : S.Nodup) (hS : h ∈ S) : (h :: without h S).Perm S := by
  have e : without h S = S.erase h := by
    rw [nd.erase_eq_filter]
    unfold without
    refine List.filter_congr fun x _ => ?_
    by_cases z : x = h <;> simp [z]
  rw [e]
  exact (List.perm_cons_erase hS).symm
theorem without_nd {h : Int} {S : List Int} (nd : S.Nodup) : (without h S).Nodup := nd.sublist List.filter_sublist
theorem without_len {h : Int} {S : List Int} {k : Nat} (nd : S.Nodup) (hS : h ∈ S) (hl : S.length = k + 1) : (without h S).length = k := by
  have := (without_perm nd hS).length_eq
  rw [List.length_cons] at this
  omega
theorem pf_perm : ∀ {k : Nat} {S o : List Int}, S.Nodup → S.length = k → o ∈ pf k S → o.Perm S
  | 0, S, o, _, hl, h => by
    rw [List.eq_nil_of_length_eq_zero hl, List.mem_singleton.mp h]
  | k + 1, S, o, nd, hl, h => by
    obtain ⟨x, hx, h⟩ := List.mem_flatMap.mp h
    obtain ⟨p, hp, rfl⟩ := List.mem_map.mp h
    have ih := pf_perm (without_nd nd) (without_len nd hx hl) hp
    exact (ih.cons x).trans (without_perm nd hx)
def fineL (ok : List Int → Bool) : List Int → Bool
  | [] => true
  | h :: t => ok (h :: t) && fineL ok t
def cntL (ok : List Int → Bool) (S : List Int) : Nat := ((pf S.length S).filter (fineL ok)).length
theorem sum_zero {S : List Int} : (S.map fun _ => 0).sum = 0 := by
  induction S with
  | nil => rfl
  | cons x S ih => rw [List.map_cons, List.sum_cons, ih]
theorem cnt_step {ok : List Int → Bool} {S : List Int} (hok : ∀ a b : List Int, a.Perm b → ok a = ok b) (nd : S.Nodup) (ne : S ≠ []) : cntL ok S = if ok S = true then (S.map fun h => cntL ok (without h S)).sum else 0 := by
  obtain ⟨k, hk⟩ : ∃ k, S.length = k + 1 := ⟨S.length - 1, by have := List.length_pos_iff.mpr ne; omega⟩
  have each : ∀ h ∈ S, (((pf k (without h S)).map (h :: ·)).filter (fineL ok)).length = if ok S = true then cntL ok (without h S) else 0 := fun h hS => by
    rw [List.filter_map, List.length_map]
    unfold cntL
    rw [without_len nd hS hk]
    have e : ∀ o ∈ pf k (without h S), (fineL ok ∘ (h :: ·)) o = (ok S && fineL ok o) := fun o ho => by
      show (ok (h :: o) && fineL ok o) = _
      rw [hok _ _ (((pf_perm (without_nd nd) (without_len nd hS hk) ho).cons h).trans (without_perm nd hS))]
    rw [List.filter_congr e]
    cases c : ok S with
    | true => simp
    | false => simp
  unfold cntL
  rw [hk]
  show ((S.flatMap fun h => (pf k (without h S)).map (h :: ·)).filter (fineL ok)).length = _
  rw [List.filter_flatMap, List.length_flatMap]
  rw [List.map_congr_left each]
  cases c : ok S with
  | true =>
    simp only [if_true]
    refine congrArg List.sum (List.map_congr_left fun h hS => ?_)
    unfold cntL
    rfl
  | false => simpa using sum_zero
/-! ### the law's orders -/
def ordStep (N : List Int) (L : List (List Int)) : List (List Int) := L.foldl (fun m own => m ++ (N.filter fun h => !decide (h ∈ own)).map fun h => own ++ [h]) []
def ordL (N : List Int) : Nat → List (List Int)
  | 0 => [[]]
  | k + 1 => ordStep N (ordL N k)
theorem fold_flat {α β : Type} {f : β → List α} : ∀ {L : List β} {a : List α}, L.foldl (fun m b => m ++ f b) a = a ++ L.flatMap f
  | [], a => by simp
  | y :: L, a => by rw [List.foldl_cons, fold_flat]; simp
theorem ordStep_eq {N : List Int} {L : List (List Int)} : ordStep N L = L.flatMap fun own => (N.filter fun h => !decide (h ∈ own)).map fun h => own ++ [h] := by
  unfold ordStep
  rw [fold_flat]
  rfl
def stepN (N : List Int) : Nat → List (List Int) → List (List Int)
  | 0, X => X
  | k + 1, X => stepN N k (ordStep N X)
theorem stepN_end {N : List Int} : ∀ {k : Nat} {X : List (List Int)}, stepN N (k + 1) X = ordStep N (stepN N k X)
  | 0, X => rfl
  | k + 1, X => by
    show stepN N (k + 1) (ordStep N X) = _
    rw [stepN_end]
    rfl
theorem ord_stepN {N : List Int} : ∀ {k : Nat}, ordL N k = stepN N k [[]]
  | 0 => rfl
  | k + 1 => by rw [stepN_end, ← ord_stepN]; rfl
theorem stepN_pf {N : List Int} : ∀ {k : Nat} {X : List (List Int)}, stepN N k X = X.flatMap fun own => (pf k (N.filter fun h => !decide (h ∈ own))).map (own ++ ·)
  | 0, X => by
    show X = _
    induction X with
    | nil => rfl
    | cons x X ih =>
      rw [List.flatMap_cons, ← ih]
      simp [pf]
  | k + 1, X => by
    show stepN N k (ordStep N X) = _
    rw [stepN_pf, ordStep_eq, List.flatMap_assoc]
    have e : ∀ own : List Int, (((N.filter fun h => !decide (h ∈ own)).map fun h => own ++ [h]).flatMap fun own => (pf k (N.filter fun h => !decide (h ∈ own))).map (own ++ ·)) = (pf (k + 1) (N.filter fun h => !decide (h ∈ own))).map (own ++ ·) := fun own => by
      rw [List.flatMap_map]
      show _ = ((N.filter fun h => !decide (h ∈ own)).flatMap fun h => (pf k (without h (N.filter fun h => !decide (h ∈ own)))).map (h :: ·)).map (own ++ ·)
      rw [List.map_flatMap]
      refine congrArg (fun f => List.flatMap f (N.filter fun h => !decide (h ∈ own))) (funext fun h => ?_)
      rw [List.map_map]
      have w : without h (N.filter fun h => !decide (h ∈ own)) = N.filter fun x => !decide (x ∈ own ++ [h]) := by
        unfold without
        rw [List.filter_filter]
        refine List.filter_congr fun x _ => ?_
        by_cases a : x ∈ own <;> by_cases b : x = h <;> simp [a, b]
      rw [w]
      refine List.map_congr_left fun o _ => ?_
      simp
    exact congrArg (fun f => List.flatMap f X) (funext e)
theorem ord_pf {N : List Int} {k : Nat} : ordL N k = pf k N := by
  rw [ord_stepN, stepN_pf]
  have e : (N.filter fun h => !decide (h ∈ ([] : List Int))) = N := List.filter_eq_self.mpr fun a _ => by simp
  rw [List.flatMap_cons, e]
  simp
theorem ord_cnt {ok : List Int → Bool} {N : List Int} : ((ordL N N.length).filter (fineL ok)).length = cntL ok N := by
  rw [ord_pf]; rfl
theorem flat_le {α β : Type} {f : β → List α} {c : Nat} : ∀ {L : List β}, (∀ b ∈ L, (f b).length ≤ c) → (L.flatMap f).length ≤ c * L.length
  | [], _ => by simp
  | y :: L, h => by
    have := flat_le (L := L) fun b hb => h b (List.mem_cons_of_mem _ hb)
    have := h y List.mem_cons_self
    rw [List.flatMap_cons, List.length_append, List.length_cons, Nat.mul_succ]
    omega
theorem ord_len {N : List Int} : ∀ {k : Nat}, (ordL N k).length ≤ N.length ^ k
  | 0 => Nat.le_refl _
  | k + 1 => by
    have ih := ord_len (N := N) (k := k)
    show (ordStep N (ordL N k)).length ≤ _
    rw [ordStep_eq]
    refine Nat.le_trans (flat_le (c := N.length) fun b _ => ?_) ?_
    · rw [List.length_map]; exact List.length_filter_le _ _
    · rw [Nat.pow_succ, Nat.mul_comm]
      exact Nat.mul_le_mul_right _ ih
theorem ordL_own {N : List Int} : ∀ {k : Nat} {o : List Int}, o ∈ ordL N k → o.length = k
  | 0, o, h => by rw [List.mem_singleton.mp h]; rfl
  | k + 1, o, h => by
    have h : o ∈ ordStep N (ordL N k) := h
    rw [ordStep_eq] at h
    obtain ⟨p, hp, h⟩ := List.mem_flatMap.mp h
    obtain ⟨x, _, rfl⟩ := List.mem_map.mp h
    rw [List.length_append, ordL_own hp]
    rfl
/-! ### sets of hours, by how many they are -/
theorem all_drop {ok : List Int → Bool} : ∀ {o : List Int}, ((List.range o.length).all fun p => ok (o.drop p)) = fineL ok o
  | [] => rfl
  | h :: t => by
    show _ = (ok (h :: t) && fineL ok t)
    rw [← all_drop (o := t), List.length_cons, List.range_succ_eq_map, List.all_cons, List.all_map]
    rfl
theorem fine_iff {ok : List Int → Bool} {o : List Int} : fineL ok o = true ↔ ∀ p, p < o.length → ok (o.drop p) = true := by
  rw [← all_drop, List.all_eq_true]
  exact ⟨fun h p hp => h p (List.mem_range.mpr hp), fun h p hp => h p (List.mem_range.mp hp)⟩
variable [TheK]
/-- what the one asks in some hours beyond the other -/
def moreI (one other : List Er) (S : List Int) : Int := asI S one - asI S other
def okM (one other : List Er) (S : List Int) : Bool := decide (moreI one other S ≤ 0)
theorem asI_congr {a b : List Int} {its : List Er} (h : ∀ it ∈ its, ∀ x, it.1.1 ≤ x → x ≤ it.1.2 → (x ∈ a ↔ x ∈ b)) : asI a its = asI b its := by
  unfold asI
  refine congrArg List.sum (List.map_congr_left fun it hi => ?_)
  have e : insB a it = insB b it := by
    unfold insB
    rw [Bool.eq_iff_iff, List.all_eq_true, List.all_eq_true]
    constructor
    · intro g x hx
      have m := mem_intsR.mp hx
      have := g x hx
      rw [decide_eq_true_eq] at this ⊢
      exact (h it hi x (by omega) (by omega)).mp this
    · intro g x hx
      have m := mem_intsR.mp hx
      have := g x hx
      rw [decide_eq_true_eq] at this ⊢
      exact (h it hi x (by omega) (by omega)).mpr this
  rw [e]
theorem okM_perm {one other : List Er} (a b : List Int) (h : a.Perm b) : okM one other a = okM one other b := by
  unfold okM moreI
  rw [asI_congr (its := one) fun _ _ x _ _ => h.mem_iff, asI_congr (its := other) fun _ _ x _ _ => h.mem_iff]
theorem asI_nil {its : List Er} (hw : ∀ it ∈ its, it.1.1 ≤ it.1.2) : asI [] its = 0 := by
  unfold asI
  have : ∀ it ∈ its, (if insB [] it = true then it.2 else 0) = 0 := fun it hi => by
    rw [if_neg]
    intro c
    have := List.all_eq_true.mp c it.1.1 (mem_intsR.mpr ⟨Int.le_refl _, by have := hw it hi; omega⟩)
    simp at this
  rw [List.map_congr_left this]
  clear this
  induction its with
  | nil => rfl
  | cons x its ih => rw [List.map_cons, List.sum_cons, ih fun it hi => hw it (List.mem_cons_of_mem _ hi)]; rfl
end AH
namespace AH
open PySem L2
variable [TheK]
/-! ### rows of prices that do not fall along an order -/
def jP (own : List Int) (t : Int) : Nat := (own.filter fun v => decide (v < t)).length
theorem jP_iff : ∀ {own : List Int} {t : Int}, own.Pairwise (· ≤ ·) → ∀ {i : Nat} (h : i < own.length), own[i] < t ↔ i < jP own t
  | [], t, hp, i, h => by cases h
  | v :: r, t, hp, i, h => by
    obtain ⟨h1, h2⟩ := List.pairwise_cons.mp hp
    have hl : (v :: r).length = r.length + 1 := rfl
    by_cases c : v < t
    · have e : jP (v :: r) t = jP r t + 1 := by
        unfold jP
        rw [List.filter_cons_of_pos (by simpa using c)]
        rfl
      rw [e]
      cases i with
      | zero => simp [c]
      | succ i =>
        rw [List.getElem_cons_succ, jP_iff h2 (by omega)]
        omega
    · have z : ∀ x ∈ r, ¬ x < t := fun x hx => by have := h1 x hx; omega
      have e : jP (v :: r) t = 0 := by
        unfold jP
        rw [List.filter_eq_nil_iff.mpr fun x hx => by
          rcases List.mem_cons.mp hx with rfl | hx
          · simpa using c
          · simpa using z x hx]
        rfl
      rw [e]
      refine ⟨fun q => ?_, fun q => by omega⟩
      cases i with
      | zero => exact absurd q c
      | succ i => exact absurd q (z _ (List.getElem_mem _))
theorem drop_mem : ∀ {l : List Int}, l.Nodup → ∀ {j : Nat} {x : Int}, x ∈ l → (x ∈ l.drop j ↔ j ≤ l.idxOf x)
  | [], _, j, x, hx => by cases hx
  | y :: r, nd, 0, x, hx => by simp [hx]
  | y :: r, nd, j + 1, x, hx => by
    obtain ⟨n1, n2⟩ := List.nodup_cons.mp nd
    rw [List.drop_succ_cons]
    by_cases e : y = x
    · subst e
      rw [List.idxOf_cons_self]
      exact ⟨fun q => absurd (List.mem_of_mem_drop q) n1, fun q => by omega⟩
    · have hr : x ∈ r := (List.mem_cons.mp hx).resolve_left fun z => e z.symm
      have ie : (y :: r).idxOf x = r.idxOf x + 1 := by
        rw [List.idxOf_cons, beq_eq_false_iff_ne.mpr e]
        rfl
      rw [drop_mem n2 hr, ie]
      omega
/-- the price of each hour -/
def feeL (order own : List Int) (n : Nat) : List Int := (intsR 0 n).map fun h => getI own ((order.idxOf h : Nat) : Int)
theorem feeL_len {order own : List Int} {n : Nat} : (feeL order own n).length = n := by
  unfold feeL
  rw [List.length_map, intsR_len]
  omega
theorem feeL_get {order own : List Int} {n : Nat} {h : Int} (h0 : 0 ≤ h) (h1 : h < n) : getI (feeL order own n) h = getI own ((order.idxOf h : Nat) : Int) := by
  unfold feeL
  conv => lhs; unfold getI
  rw [List.getD_eq_getElem?_getD, List.getElem?_map]
  unfold intsR
  rw [List.getElem?_map, List.getElem?_range (by omega)]
  simp only [Option.map_some, Option.getD_some]
  have e : (0 : Int) + ((h.toNat : Nat) : Int) = h := by omega
  rw [e]
  rfl
section
variable {n : Nat} {t u : Int} {mine its : List Er} {order own : List Int}
theorem idx_lt (hp : order.Perm (intsR 0 n)) {h : Int} (h0 : 0 ≤ h) (h1 : h < n) : h ∈ order ∧ order.idxOf h < n ∧ order.length = n := by
  have hm : h ∈ order := hp.mem_iff.mpr (mem_intsR.mpr ⟨h0, h1⟩)
  have hl : order.length = n := by rw [hp.length_eq, intsR_len]; omega
  exact ⟨hm, by rw [← hl]; exact List.idxOf_lt_length_iff.mpr hm, hl⟩
theorem getI_nat {i : Nat} (h : i < own.length) : getI own (i : Int) = own[i] := by
  unfold getI
  rw [List.getD_eq_getElem?_getD, Int.toNat_natCast, List.getElem?_eq_getElem h]
  rfl
theorem set_at (hp : order.Perm (intsR 0 n)) (ho : own.length = n) (as : own.Pairwise (· ≤ ·)) {x : Int} (h0 : 0 ≤ x) (h1 : x < n) (t : Int) : x ∈ order.drop (jP own t) ↔ t ≤ getI (feeL order own n) x := by
  obtain ⟨hm, hi, hl⟩ := idx_lt hp h0 h1
  have nd : order.Nodup := hp.nodup_iff.mpr ints_nd9
  have hi2 : order.idxOf x < own.length := by omega
  rw [drop_mem nd hm, feeL_get h0 h1, getI_nat hi2]
  have := jP_iff (t := t) as hi2
  omega
theorem ins_at (hp : order.Perm (intsR 0 n)) (ho : own.length = n) (as : own.Pairwise (· ≤ ·)) {it : Er} (h0 : 0 ≤ it.1.1) (h1 : it.1.1 ≤ it.1.2) (h2 : it.1.2 < n) (t : Int) : insB (order.drop (jP own t)) it = decide (t ≤ minI (feeL order own n) it) := by
  unfold insB
  rw [Bool.eq_iff_iff, List.all_eq_true, decide_eq_true_eq]
  unfold minI
  rw [least_iff (fun e => ints_ne h1 (List.map_eq_nil_iff.mp e))]
  constructor
  · intro g y hy
    obtain ⟨x, hx, rfl⟩ := List.mem_map.mp hy
    have b := mem_intsR.mp hx
    have := of_decide_eq_true (g x hx)
    exact (set_at hp ho as (by omega) (by omega) t).mp this
  · intro g x hx
    have b := mem_intsR.mp hx
    exact decide_eq_true ((set_at hp ho as (by omega) (by omega) t).mpr (g _ (List.mem_map.mpr ⟨x, hx, rfl⟩)))
theorem sum_add2 {L : List Er} {f g h : Er → Int} (e : ∀ it ∈ L, f it = g it + h it) : (L.map f).sum = (L.map g).sum + (L.map h).sum := by
  induction L with
  | nil => rfl
  | cons x L ih =>
    rw [List.map_cons, List.sum_cons, List.map_cons, List.sum_cons, List.map_cons, List.sum_cons, ih fun it hi => e it (List.mem_cons_of_mem _ hi), e x List.mem_cons_self]
    omega
theorem cp_two (hL : Lot (n : Int) t its) (hp : order.Perm (intsR 0 n)) (ho : own.length = n) (as : own.Pairwise (· ≤ ·)) (hv : ∀ v ∈ own, 0 ≤ v ∧ v ≤ 2) : cpI9 its (feeL order own n) = asI (order.drop (jP own 1)) its + asI (order.drop (jP own 2)) its := by
  unfold cpI9 asI
  refine sum_add2 fun it hi => ?_
  have m := hL.mem hi
  rw [ins_at hp ho as m.1 m.2.1 m.2.2 1, ins_at hp ho as m.1 m.2.1 m.2.2 2]
  have mm := leastOf_mem (L := (intsR it.1.1 (it.1.2 + 1)).map (getI (feeL order own n))) (fun e => ints_ne m.2.1 (List.map_eq_nil_iff.mp e))
  obtain ⟨x, hx, e⟩ := List.mem_map.mp mm
  have b := mem_intsR.mp hx
  have hb : 0 ≤ minI (feeL order own n) it ∧ minI (feeL order own n) it ≤ 2 := by
    unfold minI
    rw [← e, feeL_get (by omega) (by omega)]
    obtain ⟨_, hi, _⟩ := idx_lt hp (h := x) (by omega) (by omega)
    rw [getI_nat (by omega)]
    exact hv _ (List.getElem_mem _)
  obtain ⟨v, hv⟩ : ∃ v, minI (feeL order own n) it = v := ⟨_, rfl⟩
  rw [hv] at hb ⊢
  have c : v = 0 ∨ v = 1 ∨ v = 2 := by omega
  rcases c with rfl | rfl | rfl <;> simp <;> omega
end
/-! ### all rows to 2 -/
def rowStep (t : Int) (F : List (List Int)) : List (List Int) := F.foldl (fun m own => m ++ (intsR 0 (t + 1)).map fun v => own ++ [v]) []
def rowsL (t : Int) : Nat → List (List Int)
  | 0 => [[]]
  | n + 1 => rowStep t (rowsL t n)
def encI (own : List Int) : D := .tup (own.map D.int)
theorem rowStep_eq {t : Int} {F : List (List Int)} : rowStep t F = F.flatMap fun own => (intsR 0 (t + 1)).map fun v => own ++ [v] := by
  unfold rowStep
  rw [fold_flat]
  rfl
theorem rowsL_iff {t : Int} : ∀ {n : Nat} {own : List Int}, own ∈ rowsL t n ↔ own.length = n ∧ ∀ v ∈ own, 0 ≤ v ∧ v ≤ t
  | 0, own => by
    show own ∈ [[]] ↔ _
    rw [List.mem_singleton]
    exact ⟨fun e => by subst e; exact ⟨rfl, fun _ h => by cases h⟩, fun h => List.eq_nil_of_length_eq_zero h.1⟩
  | n + 1, own => by
    show own ∈ rowStep t (rowsL t n) ↔ _
    rw [rowStep_eq, List.mem_flatMap]
    constructor
    · rintro ⟨o, ho, h⟩
      obtain ⟨v, hv, rfl⟩ := List.mem_map.mp h
      have vb := mem_intsR.mp hv
      obtain ⟨h1, h2⟩ := rowsL_iff.mp ho
      refine ⟨by rw [List.length_append, h1]; rfl, fun u hu => ?_⟩
      rcases List.mem_append.mp hu with hu | hu
      · exact h2 u hu
      · rw [List.mem_singleton.mp hu]; omega
    · rintro ⟨h1, h2⟩
      have ne : own ≠ [] := fun e => by rw [e] at h1; cases h1
      refine ⟨own.dropLast, rowsL_iff.mpr ⟨by rw [List.length_dropLast, h1]; rfl, fun v hv => h2 v (List.dropLast_subset _ hv)⟩, List.mem_map.mpr ⟨own.getLast ne, ?_, List.dropLast_concat_getLast ne⟩⟩
      have := h2 _ (List.getLast_mem ne)
      exact mem_intsR.mpr (by omega)
theorem rowsL_len : ∀ {n : Nat}, (rowsL 2 n).length ≤ 3 ^ n
  | 0 => by simp [rowsL]
  | n + 1 => by
    have ih := rowsL_len (n := n)
    show (rowStep 2 (rowsL 2 n)).length ≤ _
    rw [rowStep_eq]
    refine Nat.le_trans (flat_le (c := 3) fun b _ => ?_) ?_
    · rw [List.length_map, intsR_len]; decide
    · rw [Nat.pow_succ]; omega
def ascB (own : List Int) : Bool := decide (own.Pairwise (· ≤ ·))
def stepsL (n : Nat) : List (List Int) := (rowsL 2 n).filter ascB
section
variable {n : Nat} {t u : Int} {mine its : List Er} {order : List Int}
theorem more_nil (hL : Lot (n : Int) t mine) (hL' : Lot (n : Int) u its) : moreI mine its [] = 0 := by
  unfold moreI
  rw [asI_nil fun it hi => (hL.mem hi).2.1, asI_nil fun it hi => (hL'.mem hi).2.1]
  rfl
theorem more_drop (hL : Lot (n : Int) t mine) (hL' : Lot (n : Int) u its) (h : fineL (okM mine its) order = true) (p : Nat) : moreI mine its (order.drop p) ≤ 0 := by
  by_cases c : p < order.length
  · exact of_decide_eq_true (fine_iff.mp h p c)
  · rw [List.drop_eq_nil_of_le (by omega), more_nil hL hL']
    exact Int.le_refl _
/-- by all prices to 2 that do not fall along it, just if by the sets of the dearest hours -/
theorem steps_iff (hL : Lot (n : Int) t mine) (hL' : Lot (n : Int) u its) (hp : order.Perm (intsR 0 n)) :
    ((stepsL n).all fun own => decide (cpI9 mine (feeL order own n) ≤ cpI9 its (feeL order own n))) = fineL (okM mine its) order := by
  have hl : order.length = n := by rw [hp.length_eq, intsR_len]; omega
  rw [Bool.eq_iff_iff, List.all_eq_true]
  constructor
  · intro h
    refine fine_iff.mpr fun p hpn => ?_
    obtain ⟨own, hown⟩ : ∃ own : List Int, own = List.replicate p 0 ++ List.replicate (n - p) 2 := ⟨_, rfl⟩
    have lo : own.length = n := by rw [hown, List.length_append, List.length_replicate, List.length_replicate]; omega
    have vo : ∀ v ∈ own, 0 ≤ v ∧ v ≤ 2 := fun v hv => by
      rw [hown] at hv
      rcases List.mem_append.mp hv with hv | hv
      · have := (List.mem_replicate.mp hv).2; omega
      · have := (List.mem_replicate.mp hv).2; omega
    have as : own.Pairwise (· ≤ ·) := by
      rw [hown]
      refine List.pairwise_append.mpr ⟨?_, ?_, fun a ha b hb => ?_⟩
      · exact List.pairwise_replicate.mpr (.inr (Int.le_refl _))
      · exact List.pairwise_replicate.mpr (.inr (Int.le_refl _))
      · have := (List.mem_replicate.mp ha).2; have := (List.mem_replicate.mp hb).2; omega
    have hm : own ∈ stepsL n := List.mem_filter.mpr ⟨rowsL_iff.mpr ⟨lo, vo⟩, decide_eq_true as⟩
    have g := of_decide_eq_true (h own hm)
    rw [cp_two hL hp lo as vo, cp_two hL' hp lo as vo] at g
    have jj : ∀ t : Int, 0 < t → t ≤ 2 → jP own t = p := fun t t0 t2 => by
      unfold jP
      rw [hown, List.filter_append, List.filter_eq_self.mpr fun v hv => by have := (List.mem_replicate.mp hv).2; exact decide_eq_true (by omega), List.filter_eq_nil_iff.mpr fun v hv => by have := (List.mem_replicate.mp hv).2; simp; omega]
      simp
    rw [jj 1 (by omega) (by omega), jj 2 (by omega) (by omega)] at g
    exact decide_eq_true (by unfold moreI; omega)
  · intro h own hm
    obtain ⟨h1, h2⟩ := List.mem_filter.mp hm
    obtain ⟨lo, vo⟩ := rowsL_iff.mp h1
    have as := of_decide_eq_true h2
    have a := more_drop hL hL' h (jP own 1)
    have b := more_drop hL hL' h (jP own 2)
    rw [cp_two hL hp lo as vo, cp_two hL' hp lo as vo]
    unfold moreI at a b
    exact decide_eq_true (by omega)
end
end AH
namespace AH
open LW PySem L2
variable [TheK]
theorem leD_int {a b : Int} : leD (.int a) (.int b) = true ↔ a ≤ b := by
  unfold leD PySem.W.dataLe PySem.W.sortLe
  simp [D.toP, PySem.W.keyToks, PyProof.Rows.listOrd, PyProof.Rows.itemOrd, PyProof.Rows.lexLt, PyProof.Rows.itemLt]
theorem sortOk_ints {L : List Int} : sortOk (L.map D.int) = true := by
  unfold sortOk
  rw [Bool.and_eq_true, Bool.and_eq_true, Bool.or_eq_true]
  refine ⟨List.all_eq_true.mpr fun x hx => ?_, List.all_eq_true.mpr fun x hx => List.all_eq_true.mpr fun y hy => ?_, .inr (List.all_eq_true.mpr fun x hx => ?_)⟩
  · obtain ⟨p, _, rfl⟩ := List.mem_map.mp hx
    rfl
  · obtain ⟨p, _, rfl⟩ := List.mem_map.mp hx
    obtain ⟨q, _, rfl⟩ := List.mem_map.mp hy
    rfl
  · obtain ⟨p, _, rfl⟩ := List.mem_map.mp hx
    rfl
theorem isort_ints {L M : List Int} (h : L.Perm M) (hM : M.Pairwise (· ≤ ·)) : isort leD (L.map D.int) = M.map D.int := by
  refine isort_eq (h.map D.int) ?_ ?_
  · rw [List.pairwise_map]
    exact hM.imp fun z => leD_int.mpr z
  · intro a ha b hb h1 h2
    obtain ⟨p, _, rfl⟩ := List.mem_map.mp ha
    obtain ⟨q, _, rfl⟩ := List.mem_map.mp hb
    have := leD_int.mp h1
    have := leD_int.mp h2
    congr 1
    omega
theorem perm_sorted {n : Nat} {order : List Int} (hp : order.Perm (intsR 0 n)) {j : Bool} : dSortU (sq j (order.map D.int)) = .ok (.lst ((intsR 0 n).map D.int)) := by
  have e : dSortA (.lst (order.map D.int)) = .ok (.lst ((intsR 0 n).map D.int)) := by
    show (if sortOk (order.map D.int) = true then Rv.ok (D.lst (isort leD (order.map D.int))) else .bad) = _
    rw [if_pos sortOk_ints, isort_ints hp (intsR_sorted.imp fun h => by omega)]
  cases j <;> exact e
theorem dNe_ii {L : List Int} (hl : (L.map D.int).length ≤ 10000) : dNe (.lst (L.map D.int)) (.lst (L.map D.int)) = .ok false := by
  have p : (D.lst (L.map D.int)).plain 40 = true := by
    show D.plainL 39 (L.map D.int) = true
    exact plainL_iff.mpr fun y hy => by
      obtain ⟨p, _, rfl⟩ := List.mem_map.mp hy
      rfl
  unfold dNe
  rw [p, eqv_refl (n := 1) (sm_lst.mpr ⟨hl, fun y hy => by
    obtain ⟨p, _, rfl⟩ := List.mem_map.mp hy
    rfl⟩)]
  rfl
/-! ### some hours as a list, a tuple, a known tuple -/
inductive Kd where
  | l | t | k
def Kd.j : Kd → Bool
  | .l => false
  | _ => true
def sk : Kd → List Int → D
  | .l, xs => .lst (xs.map D.int)
  | .t, xs => .tup (xs.map D.int)
  | .k, xs => .ktp (xs.map D.int)
@[simp] theorem unK_sk {q : Kd} {xs : List Int} : unK (sk q xs) = sq q.j (xs.map D.int) := by cases q <;> rfl
theorem slK_sk {q : Kd} {xs : List Int} {p : Nat} (h : p ≤ xs.length) : ∃ q' : Kd, dSlK (sk q xs) (some (p : Int)) none = .ok (sk q' (xs.drop p)) := by
  have c := cut_from (xs := xs.map D.int) (i := p) (by simpa using h)
  rw [← List.map_drop] at c
  cases q with
  | l => exact ⟨.l, by show Rv.ok (D.lst (cut (xs.map D.int) (some (p : Int)) none)) = _; rw [c]; rfl⟩
  | t => exact ⟨.t, by show Rv.ok (D.tup (cut (xs.map D.int) (some (p : Int)) none)) = _; rw [c]; rfl⟩
  | k =>
    by_cases w : HT.sIx (xs.map D.int).length 0 (some (p : Int)) = 0 ∧ HT.sIx (xs.map D.int).length (xs.map D.int).length none = (xs.map D.int).length
    · have e := cut_whole w
      rw [c] at e
      refine ⟨.k, ?_⟩
      show (if decide _ && decide _ then Rv.ok (D.ktp (xs.map D.int)) else _) = _
      rw [if_pos (by rw [decide_eq_true w.1, decide_eq_true w.2]; rfl), ← e]
      rfl
    · refine ⟨.t, ?_⟩
      show (if decide _ && decide _ then Rv.ok (D.ktp (xs.map D.int)) else Rv.ok (D.tup (cut (xs.map D.int) (some (p : Int)) none))) = _
      rw [if_neg (fun z => w (by have := Bool.and_eq_true_iff.mp z; exact ⟨of_decide_eq_true this.1, of_decide_eq_true this.2⟩)), c]
      rfl
@[simp] theorem wn_eSlK {a : DE} {lo hi : DO} {e : Env} {Q : D → Env → Prop} {E : Str → List D → Env → Prop} : Wn (eSlK a lo hi) e Q E = Wn a e (fun x e1 => Wn lo e1 (fun l e2 => Wn hi e2 (fun h e3 => WR (dSlK x l h) fun z => Q z e3) E) E) E := by simp only [eSlK, wn_bind, wn_of]
section
variable {k j : Bool} {n : Nat} {t u : Int} {one other : List Er} {order some : List Int} {q : Kd}
theorem check_ok (hp : order.Perm (intsR 0 n)) (h9 : n ≤ 1000) : LW.f_check_order [.int n, sk q order] = .ok .non [] := by
  have so := perm_sorted hp (j := q.j)
  have ne := dNe_ii (L := intsR 0 n) (by rw [List.length_map, intsR_len]; omega)
  refine WF.eq ?_
  rw [LW.f_check_order, wf_mkF rfl]
  simp [startE, LW.m_check_order, so, rng_eq, ne]
  omega
theorem lot_w {v : Int} {its : List Er} (hL : Lot (n : Int) v its) (h8 : n ≤ 8) : its.length ≤ 1000 ∧ ∀ it ∈ its, 0 ≤ it.1.1 ∧ it.1.1 ≤ it.1.2 ∧ it.1.2 < 1000 := by
  refine ⟨?_, fun it hi => by have := hL.mem hi; omega⟩
  have := hL.len
  have := spans8 (s := (n : Int)) (by omega) (by omega)
  omega
theorem more_ok (h1 : Lot (n : Int) t one) (h2 : Lot (n : Int) u other) (h8 : n ≤ 8) (hs : some.length ≤ 1000) (hb : ∀ x ∈ some, 0 ≤ x ∧ x < (n : Int)) : f_more_ofK [lotD k n one, lotD j n other, sk q some] = .ok (.int (moreI one other some)) [] := by
  have a := asked31 (k := k) (d := sk q some) (j := q.j) unK_sk (lot_w h1 (by omega)).1 hs hb (lot_w h1 (by omega)).2
  have b := asked31 (k := j) (d := sk q some) (j := q.j) unK_sk (lot_w h2 (by omega)).1 hs hb (lot_w h2 (by omega)).2
  refine WF.eq ?_
  rw [f_more_ofK, wf_mkF rfl]
  simp [startE, m_more_ofK, a, b, moreI]
theorem drop_in (hp : order.Perm (intsR 0 n)) {p : Nat} : (order.drop p).length ≤ n ∧ ∀ x ∈ order.drop p, 0 ≤ x ∧ x < (n : Int) := by
  have hl : order.length = n := by rw [hp.length_eq, intsR_len]; omega
  refine ⟨by rw [List.length_drop]; omega, fun x hx => ?_⟩
  exact mem_intsR.mp (hp.mem_iff.mp (List.mem_of_mem_drop hx))
theorem all_dropI {ok : List Int → Bool} {o : List Int} (h : o.length = n) : ((intsR 0 n).all fun p => ok (o.drop p.toNat)) = fineL ok o := by
  rw [← all_drop, h]
  unfold intsR
  rw [List.all_map, show ((n : Int) - 0).toNat = n by omega]
  congr 1
  funext p
  show ok (o.drop ((0 : Int) + (p : Nat)).toNat) = _
  rw [show ((0 : Int) + ((p : Nat) : Int)).toNat = p by omega]
theorem never_ok (h1 : Lot (n : Int) t one) (h2 : Lot (n : Int) u other) (h8 : n ≤ 8) (hp : order.Perm (intsR 0 n)) : LW.f_never_dearer_in [lotD k n one, lotD j n other, sk q order] = .ok (.bl (fineL (okM one other) order)) [] := by
  have hl : order.length = n := by rw [hp.length_eq, intsR_len]; omega
  have ix0 : dIx (lotD k n one) (.int 0) = .ok (.int n) := by cases k <;> rfl
  have sa := same_in (k := k) (j := j) (s := n) (its := one) (its' := other)
  have ch := check_ok (q := q) hp (by omega)
  have lc : LW.c_never_dearer_in_1 [.val (lotD k n one), .val (lotD j n other), .val (sk q order), .no] = .ok (.lst ((intsR 0 n).map fun p => .bl (okM one other (order.drop p.toNat)))) [.val (lotD k n one), .val (lotD j n other), .val (sk q order), .no] := by
    unfold LW.c_never_dearer_in_1
    refine lc_map (T := Int) (L := intsR 0 n) (enc := D.int) (fun p => .bl (okM one other (order.drop p.toNat))) (Wn.eq (by simp [ix0, rng_eq]; omega)) rfl (by rw [intsR_len]; omega) fun p hx => ?_
    have b := mem_intsR.mp hx
    obtain ⟨m, rfl⟩ : ∃ m : Nat, p = m := ⟨p.toNat, by omega⟩
    obtain ⟨q', s⟩ := slK_sk (q := q) (xs := order) (p := m) (by omega)
    have mo := more_ok (k := k) (j := j) (q := q') h1 h2 h8 (by have := (drop_in hp (p := m)).1; omega) (drop_in hp (p := m)).2
    simp [wipeE, s, mo, okM]
  refine WF.eq ?_
  rw [LW.f_never_dearer_in, wf_mkF rfl]
  simp only [startE, LW.m_never_dearer_in, wn_seq]
  simp [sa, ix0, ch, wn_eq lc]
  exact all_dropI hl
theorem fine_ok (h1 : Lot (n : Int) t one) (h2 : Lot (n : Int) u other) (h8 : n ≤ 8) (hl : order.length = n) : LW.f_law_is_fine [lotD true n one, lotD true n other, sk q order] = .ok (.bl (fineL (okM one other) order)) [] := by
  have w1 := lot_w h1 (by omega)
  have w2 := lot_w h2 (by omega)
  refine WF.eq ?_
  rw [LW.f_law_is_fine, wf_mkF rfl]
  simp only [startE, LW.m_law_is_fine, wn_seq]
  have ln : dLen (sq q.j (order.map D.int)) = .ok (.int n) := by
    cases q <;> (show Rv.ok _ = _; rw [List.length_map, hl])
  unfold LW.l_law_is_fine_1
  simp [ln, rng_eq]
  refine ⟨by omega, ?_⟩
  have al := all_dropI (n := n) (ok := okM one other) hl
  let p : D → Bool := fun d => match d with
    | .int i => okM one other (order.drop i.toNat)
    | _ => true
  have e : ((intsR 0 n).map D.int).all p = fineL (okM one other) order := by
    rw [List.all_map, ← al]
    rfl
  refine wn_all (p := p) (fun y hy => ?_) (fun z => ?_) fun z e2 he => ?_
  · obtain ⟨i, hi, rfl⟩ := List.mem_map.mp hy
    have b := mem_intsR.mp hi
    obtain ⟨m, rfl⟩ : ∃ m : Nat, i = m := ⟨i.toNat, by omega⟩
    obtain ⟨q', s⟩ := slK_sk (q := q) (xs := order) (p := m) (by omega)
    have a1 := inset31 (j := q'.j) (d := sk q' (order.drop m)) (s := (n : Int)) unK_sk w1.1 w1.2
    have a2 := inset31 (j := q'.j) (d := sk q' (order.drop m)) (s := (n : Int)) unK_sk w2.1 w2.2
    have pe : p (.int (m : Int)) = decide (moreI one other (order.drop m) ≤ 0) := rfl
    rw [pe]
    unfold LW.b_law_is_fine_1
    rw [wn_gN]
    simp [wn_sFg, s, a1, a2]
    unfold moreI
    by_cases c : asI (order.drop m) other < asI (order.drop m) one
    · have c1 : ¬ asI (order.drop m) one - asI (order.drop m) other ≤ 0 := by omega
      simp [c, c1]
    · have c1 : asI (order.drop m) one - asI (order.drop m) other ≤ 0 := by omega
      simp [c, c1]
  · rw [e] at z
    simp [z]
  · rw [e] at z
    rw [z]
    match e2, he with
    | [a, b, c, d], _ => simp [lentOf]
end
end AH
namespace AH
open LW PySem L2
variable [TheK]
theorem rows33 {n : Nat} (hn : n ≤ 4) : f_law_rows [.int (n : Int), .int 2] = .ok (.lst ((rowsL 2 n).map encI)) [] := by
  have small : ∀ k : Nat, k < n → (rowsL 2 k).length ≤ 27 := fun k hk => by
    have h1 := rowsL_len (n := k)
    have h2 : 3 ^ k ≤ 3 ^ 3 := Nat.pow_le_pow_right (by decide) (by omega)
    omega
  have lp := loop_rng (g := gN 3) (b := b_law_rows_2) (n := n) (fun k => [.val (.int n), .val (.int 2), .val (.lst ((rowsL 2 k).map encI)), .no, .no, .no, .no]) fun k hk => by
    have inn := loop_foldQ (T := List Int) (S := List (List Int)) (g := gN 5) (b := b_law_rows_1) (st := fun M => [.val (.int n), .val (.int 2), .val (.lst ((rowsL 2 k).map encI)), .val (.int k), .val (.lst (M.map encI)), .no, .no]) (enc := encI) (fun m own => m ++ (intsR 0 (2 + 1)).map fun v => own ++ [v]) (fun M R => M.length + 3 * R.length ≤ 100 ∧ ∀ own ∈ R, own.length ≤ 10) (rowsL 2 k) [] ⟨by have := small k hk; simp; omega, fun own ho => by have := (rowsL_iff.mp ho).1; omega⟩ fun M own R h => by
      obtain ⟨a, b⟩ := h
      have ol := b own List.mem_cons_self
      rw [List.length_cons] at a
      refine ⟨⟨by rw [List.length_append, List.length_map, intsR_len]; simp; omega, fun x hx => b x (List.mem_cons_of_mem _ hx)⟩, ?_⟩
      have lc : c_law_rows_1 [.val (.int n), .val (.int 2), .val (.lst ((rowsL 2 k).map encI)), .val (.int k), .val (.lst (M.map encI)), .val (encI own), .no] = .ok (.lst (((intsR 0 (2 + 1)).map fun v => own ++ [v]).map encI)) [.val (.int n), .val (.int 2), .val (.lst ((rowsL 2 k).map encI)), .val (.int k), .val (.lst (M.map encI)), .val (encI own), .no] := by
        unfold c_law_rows_1
        rw [List.map_map]
        refine lc_map (T := Int) (L := intsR 0 (2 + 1)) (enc := D.int) (fun m => encI (own ++ [m])) (Wn.eq (by simp [rng_eq])) rfl (by rw [intsR_len]; decide) fun y hy => ?_
        simp [wipeE, encI]
        omega
      unfold b_law_rows_1
      rw [wn_gN]
      simp [wn_sFg]
      rw [wn_eq lc]
      have l3 : (intsR 0 3).length = 3 := rfl
      simp [l3]
      omega
    have er : List.foldl (fun m own => m ++ List.map (fun v => own ++ [v]) (intsR 0 (2 + 1))) [] (rowsL 2 k) = rowsL 2 (k + 1) := rfl
    rw [er] at inn
    simp only [List.map_nil] at inn
    unfold b_law_rows_2 l_law_rows_1
    rw [wn_gN]
    simp [wn_sFg, wn_seq]
    rw [wn_eq inn]
    simp
  refine WF.eq ?_
  rw [f_law_rows, wf_mkF rfl]
  simp only [startE, m_law_rows, wn_seq]
  simp [l_law_rows_2]
  refine ⟨by omega, ?_⟩
  rw [show [D.tup []] = (rowsL 2 0).map encI from rfl, wn_eq lp]
  simp
/-! ### all orders -/
@[simp] theorem wn_eTupK {a : DL} {e : Env} {Q : D → Env → Prop} {E : Str → List D → Env → Prop} : Wn (eTupK a) e Q E = Wn a e (fun xs e1 => lenOk xs.length = true ∧ Q (.ktp xs) e1) E := by
  simp only [eTupK, wn_bind, wn_ite, wn_pure, wn_bad]
  congr 1; funext xs e1; split <;> simp [*]
def encO (k : Nat) (own : List Int) : D := if k = 0 then .tup (own.map D.int) else .ktp (own.map D.int)
theorem unK_encO {k : Nat} {own : List Int} : unK (encO k own) = sq true (own.map D.int) := by
  unfold encO
  split <;> rfl
theorem addK_encO {k : Nat} {own : List Int} {h : Int} (hl : own.length ≤ 100) : dAddK (encO k own) (.ktp [.int h]) = .ok (encO (k + 1) (own ++ [h])) := by
  have l : lenOk ((own.map D.int).length + [D.int h].length) = true := by
    unfold lenOk
    exact decide_eq_true (by simp; omega)
  have e : encO (k + 1) (own ++ [h]) = .ktp (own.map D.int ++ [D.int h]) := by
    unfold encO
    rw [if_neg (by omega), List.map_append]
    rfl
  rw [e]
  unfold encO
  split
  · show (if _ then _ else _) = _
    rw [if_pos l]
  · show (if _ then _ else _) = _
    rw [if_pos l]
theorem orders33 {n : Nat} (hn : n ≤ 5) : LW.f_law_orders [.int (n : Int)] = .ok (.lst ((ordL (intsR 0 n) n).map (encO n))) [] := by
  have small : ∀ k : Nat, k < n → (ordL (intsR 0 n) k).length ≤ 625 := fun k hk => by
    have h1 := ord_len (N := intsR 0 n) (k := k)
    rw [intsR_len, show ((n : Int) - 0).toNat = n by omega] at h1
    have h2 : n ^ k ≤ 5 ^ 4 := Nat.le_trans (Nat.pow_le_pow_left hn k) (Nat.pow_le_pow_right (by decide) (by omega))
    omega
  have lp := loop_rng (g := gN 2) (b := LW.b_law_orders_2) (n := n) (fun k => [.val (.int n), .val (.lst ((ordL (intsR 0 n) k).map (encO k))), .no, .no, .no, .no]) fun k hk => by
    have inn := loop_foldQ (T := List Int) (S := List (List Int)) (g := gN 4) (b := LW.b_law_orders_1) (st := fun M => [.val (.int n), .val (.lst ((ordL (intsR 0 n) k).map (encO k))), .val (.int k), .val (.lst (M.map (encO (k + 1)))), .no, .no]) (enc := encO k) (fun m own => m ++ ((intsR 0 n).filter fun h => !decide (h ∈ own)).map fun h => own ++ [h]) (fun M R => M.length + 5 * R.length ≤ 4000 ∧ ∀ own ∈ R, own.length ≤ 10) (ordL (intsR 0 n) k) [] ⟨by have := small k hk; simp; omega, fun own ho => by have := ordL_own ho; omega⟩ fun M own R h => by
      obtain ⟨a, b⟩ := h
      have ol := b own List.mem_cons_self
      rw [List.length_cons] at a
      have fl : ((intsR 0 (n : Int)).filter fun h => !decide (h ∈ own)).length ≤ 5 := Nat.le_trans (List.length_filter_le _ _) (by rw [intsR_len]; omega)
      refine ⟨⟨by rw [List.length_append, List.length_map]; omega, fun x hx => b x (List.mem_cons_of_mem _ hx)⟩, ?_⟩
      have lc : LW.c_law_orders_1 [.val (.int n), .val (.lst ((ordL (intsR 0 n) k).map (encO k))), .val (.int k), .val (.lst (M.map (encO (k + 1)))), .val (encO k own), .no] = .ok (.lst ((((intsR 0 (n : Int)).filter fun h => !decide (h ∈ own)).map fun h => own ++ [h]).map (encO (k + 1)))) [.val (.int n), .val (.lst ((ordL (intsR 0 n) k).map (encO k))), .val (.int k), .val (.lst (M.map (encO (k + 1)))), .val (encO k own), .no] := by
        unfold LW.c_law_orders_1
        rw [List.map_map]
        refine lc_filter (T := Int) (L := intsR 0 n) (enc := D.int) (fun h => !decide (h ∈ own)) (fun h => encO (k + 1) (own ++ [h])) (Wn.eq (by simp [rng_eq]; omega)) rfl (by rw [intsR_len]; omega) fun y hy => ?_
        simp [wipeE, unK_encO, dNotIn_ints, addK_encO (k := k) (own := own) (h := y) (by omega)]
      unfold LW.b_law_orders_1
      rw [wn_gN]
      simp [wn_sFg]
      rw [wn_eq lc]
      simp
      omega
    have er : List.foldl (fun m own => m ++ ((intsR 0 (n : Int)).filter fun h => !decide (h ∈ own)).map fun h => own ++ [h]) [] (ordL (intsR 0 n) k) = ordL (intsR 0 n) (k + 1) := rfl
    rw [er] at inn
    simp only [List.map_nil] at inn
    unfold LW.b_law_orders_2 LW.l_law_orders_1
    rw [wn_gN]
    simp [wn_sFg, wn_seq]
    rw [wn_eq inn]
    simp
  refine WF.eq ?_
  rw [LW.f_law_orders, wf_mkF rfl]
  simp only [startE, LW.m_law_orders, wn_seq]
  simp [LW.l_law_orders_2]
  refine ⟨by omega, ?_⟩
  rw [show [D.tup []] = (ordL (intsR 0 n) 0).map (encO 0) from rfl, wn_eq lp]
  simp
end AH
namespace AH
open PySem L2
variable [TheK]
/-! ### all sets of hours -/
def subsL : Nat → List (List Int)
  | 0 => [[]]
  | n + 1 => subsL n ++ (subsL n).map (· ++ [(n : Int)])
theorem subs_len : ∀ {n : Nat}, (subsL n).length = 2 ^ n
  | 0 => rfl
  | n + 1 => by
    show (subsL n ++ (subsL n).map _).length = _
    rw [List.length_append, List.length_map, subs_len, Nat.pow_succ]
    omega
theorem subs_mem : ∀ {n : Nat} {L : List Int}, L ∈ subsL n → L.length ≤ n ∧ (∀ x ∈ L, 0 ≤ x ∧ x < n) ∧ L.Pairwise (· < ·)
  | 0, L, h => by
    rw [List.mem_singleton.mp h]
    exact ⟨Nat.le_refl _, fun _ h => (by cases h), List.Pairwise.nil⟩
  | n + 1, L, h => by
    rcases List.mem_append.mp h with h | h
    · have := subs_mem h
      exact ⟨by omega, fun x hx => by have := this.2.1 x hx; omega, this.2.2⟩
    · obtain ⟨M, hM, rfl⟩ := List.mem_map.mp h
      have := subs_mem hM
      refine ⟨by simp; omega, fun x hx => ?_, List.pairwise_append.mpr ⟨this.2.2, List.pairwise_singleton _ _, fun a ha b hb => ?_⟩⟩
      · rcases List.mem_append.mp hx with hx | hx
        · have := this.2.1 x hx; omega
        · rw [List.mem_singleton.mp hx]; omega
      · rw [List.mem_singleton.mp hb]
        exact (this.2.1 a ha).2
theorem subs_nd {n : Nat} {L : List Int} (h : L ∈ subsL n) : L.Nodup := (subs_mem h).2.2.imp fun h e => by omega
theorem subs_filter {p : Int → Bool} : ∀ {n : Nat} {L : List Int}, L ∈ subsL n → L.filter p ∈ subsL n
  | 0, L, h => by
    rw [List.mem_singleton.mp h]
    exact List.mem_singleton.mpr rfl
  | n + 1, L, h => by
    rcases List.mem_append.mp h with h | h
    · exact List.mem_append_left _ (subs_filter h)
    · obtain ⟨M, hM, rfl⟩ := List.mem_map.mp h
      rw [List.filter_append]
      cases c : p (n : Int) with
      | true => rw [List.filter_cons_of_pos c, List.filter_nil]; exact List.mem_append_right _ (List.mem_map.mpr ⟨_, subs_filter hM, rfl⟩)
      | false => rw [List.filter_cons_of_neg (by simp [c]), List.filter_nil, List.append_nil]; exact List.mem_append_left _ (subs_filter hM)
theorem subs_nodup : ∀ {n : Nat}, (subsL n).Nodup
  | 0 => by simp [subsL]
  | n + 1 => by
    refine List.nodup_append.mpr ⟨subs_nodup, ?_, fun a ha b hb e => ?_⟩
    · unfold List.Nodup
      rw [List.pairwise_map]
      exact subs_nodup.imp fun h e => h (List.append_cancel_right e)
    · subst e
      obtain ⟨M, hM, rfl⟩ := List.mem_map.mp hb
      have := (subs_mem ha).2.1 (n : Int) (List.mem_append_right _ (List.mem_singleton.mpr rfl))
      omega
theorem subs_head : ∀ {n : Nat}, ∃ r, subsL n = [] :: r
  | 0 => ⟨[], rfl⟩
  | n + 1 => by
    obtain ⟨r, e⟩ := subs_head (n := n)
    exact ⟨_, by show subsL n ++ _ = _; rw [e, List.cons_append]⟩
theorem ints_snoc {n : Nat} : intsR 0 ((n : Int) + 1) = intsR 0 n ++ [(n : Int)] := by
  unfold intsR
  rw [show ((n : Int) + 1 - 0).toNat = n + 1 by omega, show ((n : Int) - 0).toNat = n by omega, List.range_succ, List.map_append]
  simp
theorem subs_all : ∀ {n : Nat}, intsR 0 (n : Int) ∈ subsL n
  | 0 => List.mem_singleton.mpr rfl
  | n + 1 => by
    rw [show ((n + 1 : Nat) : Int) = (n : Int) + 1 by omega, ints_snoc]
    exact List.mem_append_right _ (List.mem_map.mpr ⟨_, subs_all, rfl⟩)
/-! ### sorting -/
theorem ins_perm {α : Type} {le : α → α → Bool} {a : α} : ∀ {l : List α}, (ins le a l).Perm (a :: l)
  | [] => .refl _
  | b :: l => by
    unfold ins
    split
    · exact .refl _
    · exact (ins_perm.cons b).trans (.swap a b l)
theorem isort_perm {α : Type} {le : α → α → Bool} : ∀ {l : List α}, (isort le l).Perm l
  | [] => .refl _
  | a :: l => ins_perm.trans (isort_perm.cons a)
theorem ins_pw {α : Type} {le : α → α → Bool} (tr : ∀ a b c, le a b = true → le b c = true → le a c = true) (to : ∀ a b, le a b = false → le b a = true) {a : α} : ∀ {l : List α}, l.Pairwise (fun x y => le x y = true) → (ins le a l).Pairwise (fun x y => le x y = true)
  | [], _ => List.pairwise_singleton _ _
  | b :: l, h => by
    obtain ⟨h1, h2⟩ := List.pairwise_cons.mp h
    unfold ins
    cases c : le a b with
    | true =>
      rw [if_pos rfl]
      refine List.pairwise_cons.mpr ⟨fun x hx => ?_, h⟩
      rcases List.mem_cons.mp hx with rfl | hx
      · exact c
      · exact tr _ _ _ c (h1 x hx)
    | false =>
      rw [if_neg (by simp)]
      refine List.pairwise_cons.mpr ⟨fun x hx => ?_, ins_pw tr to h2⟩
      rcases List.mem_cons.mp (ins_perm.mem_iff.mp hx) with rfl | hx
      · exact to _ _ c
      · exact h1 x hx
theorem isort_pw {α : Type} {le : α → α → Bool} (tr : ∀ a b c, le a b = true → le b c = true → le a c = true) (to : ∀ a b, le a b = false → le b a = true) : ∀ {l : List α}, (isort le l).Pairwise (fun x y => le x y = true)
  | [] => .nil
  | a :: l => ins_pw tr to (isort_pw tr to)
/-- the sets, the smaller ones first -/
def bySize (n : Nat) : List (List Int) := isort (fun a b => leLen (encI a) (encI b)) (isort (fun a b => leD (encI a) (encI b)) (subsL n))
theorem leLen_enc {a b : List Int} : leLen (encI a) (encI b) = true ↔ a.length ≤ b.length := by
  show leD (.int (((a.map D.int).length : Nat) : Int)) (.int (((b.map D.int).length : Nat) : Int)) = true ↔ _
  rw [leD_int, List.length_map, List.length_map]
  omega
theorem bySize_perm {n : Nat} : (bySize n).Perm (subsL n) := isort_perm.trans isort_perm
theorem bySize_pw {n : Nat} : (bySize n).Pairwise (fun a b => a.length ≤ b.length) := by
  refine (isort_pw (fun a b c h1 h2 => ?_) (fun a b h => ?_)).imp fun h => leLen_enc.mp h
  · have := leLen_enc.mp h1
    have := leLen_enc.mp h2
    exact leLen_enc.mpr (by omega)
  · refine leLen_enc.mpr ?_
    by_cases c : a.length ≤ b.length
    · rw [leLen_enc.mpr c] at h; cases h
    · omega
/-! ### a set less an hour -/
theorem without_eq : ∀ {S : List Int}, S.Nodup → ∀ {p : Nat} (h : p < S.length), without S[p] S = S.take p ++ S.drop (p + 1)
  | x :: r, nd, 0, h => by
    obtain ⟨n1, n2⟩ := List.nodup_cons.mp nd
    unfold without
    rw [List.getElem_cons_zero, List.filter_cons_of_neg (by simp), List.filter_eq_self.mpr fun a ha => by
      simp
      exact fun e => n1 (e ▸ ha)]
    rfl
  | x :: r, nd, p + 1, h => by
    obtain ⟨n1, n2⟩ := List.nodup_cons.mp nd
    have h' : p < r.length := by simpa using h
    have ih := without_eq n2 h'
    unfold without at ih ⊢
    rw [List.getElem_cons_succ, List.filter_cons_of_pos (by
      simp
      exact fun e => n1 (e ▸ List.getElem_mem h')), ih]
    rfl
theorem sum_places {S : List Int} {f : List Int → Nat} (nd : S.Nodup) : (((intsR 0 (S.length : Int)).map fun p => ((f (S.take p.toNat ++ S.drop (p.toNat + 1)) : Nat) : Int)).sum : Int) = (((S.map fun h => f (without h S)).sum : Nat) : Int) := by
  have e : (intsR 0 (S.length : Int)).map (fun p => ((f (S.take p.toNat ++ S.drop (p.toNat + 1)) : Nat) : Int)) = (S.map fun h => f (without h S)).map fun x : Nat => (x : Int) := by
    apply List.ext_getElem
    · rw [List.length_map, List.length_map, List.length_map, intsR_len]; omega
    · intro i h1 h2
      rw [List.length_map, intsR_len] at h1
      have hi : i < S.length := by omega
      rw [List.getElem_map, List.getElem_map, List.getElem_map, without_eq nd hi]
      unfold intsR
      rw [List.getElem_map, List.getElem_range, show ((0 : Int) + ((i : Nat) : Int)).toNat = i by omega]
  rw [e]
  generalize (S.map fun h => f (without h S)) = L
  induction L with
  | nil => rfl
  | cons x L ih => rw [List.map_cons, List.sum_cons, List.sum_cons, ih]; omega
end AH
namespace AH
open LW PySem L2
variable [TheK]
theorem toPs_ints : ∀ S : List Int, D.toPs (S.map D.int) = S.map PyData.int
  | [] => rfl
  | x :: S => by
    show D.toP (.int x) :: D.toPs (S.map D.int) = _
    rw [toPs_ints S]
    rfl
theorem encI_plain {S : List Int} : (encI S).plain 40 = true := by
  show D.plainL 39 (S.map D.int) = true
  exact plainL_iff.mpr fun y hy => by
    obtain ⟨p, _, rfl⟩ := List.mem_map.mp hy
    rfl
theorem sortOkE_subs {n : Nat} : sortOkE0 ((subsL n).map encI) = true := by
  unfold sortOkE0
  rw [Bool.and_eq_true, Bool.and_eq_true, Bool.and_eq_true]
  refine ⟨List.all_eq_true.mpr fun x hx => ?_, List.all_eq_true.mpr fun x hx => List.all_eq_true.mpr fun y hy => ?_, List.all_eq_true.mpr fun x hx => ?_, ?_⟩
  · obtain ⟨S, _, rfl⟩ := List.mem_map.mp hx
    rw [encI_plain]
    exact decide_eq_true (Nat.le_trans (D.can_toP (n := 40) encI_plain).2 (by decide))
  · obtain ⟨S, _, rfl⟩ := List.mem_map.mp hx
    obtain ⟨S', _, rfl⟩ := List.mem_map.mp hy
    show PySem.W.alike (.tuple (D.toPs (S.map D.int))) (.tuple (D.toPs (S'.map D.int))) = true
    rw [toPs_ints, toPs_ints]
    simp only [PySem.W.alike]
    exact PySem.W.alike_ints S S'
  · obtain ⟨S, _, rfl⟩ := List.mem_map.mp hx
    rfl
  · obtain ⟨r, e⟩ := subs_head (n := n)
    rw [e]
    rfl
theorem sets_ok {n : Nat} (hn : n ≤ 8) : f_sets_ofE [.int (n : Int)] = .ok (.lst ((isort (fun a b => leD (encI a) (encI b)) (subsL n)).map encI)) [] := by
  have small : ∀ k : Nat, k < n → (subsL k).length ≤ 128 := fun k hk => by
    rw [subs_len]
    exact Nat.pow_le_pow_right (n := 2) (by decide) (by omega : k ≤ 7)
  have lp := loop_rng (g := gN 2) (b := b_sets_ofE_1) (n := n) (fun k => [.val (.int n), .val (.lst ((subsL k).map encI)), .no, .no]) fun k hk => by
    have sm := small k hk
    have lc : c_sets_ofE_1 [.val (.int n), .val (.lst ((subsL k).map encI)), .val (.int k), .no] = .ok (.lst (((subsL k).map (· ++ [(k : Int)])).map encI)) [.val (.int n), .val (.lst ((subsL k).map encI)), .val (.int k), .no] := by
      unfold c_sets_ofE_1
      rw [List.map_map]
      refine lc_map (T := List Int) (L := subsL k) (enc := encI) (fun S => encI (S ++ [(k : Int)])) (Wn.eq (by simp)) rfl (by omega) fun y hy => ?_
      have := (subs_mem hy).1
      have l : lenOk (y.length + 1) = true := by unfold lenOk; exact decide_eq_true (by omega)
      simp [wipeE, encI]
      omega
    have l2 : lenOk ((subsL k).length + (subsL k).length) = true := by unfold lenOk; exact decide_eq_true (by omega)
    have e : (subsL k).map encI ++ ((subsL k).map (· ++ [(k : Int)])).map encI = (subsL (k + 1)).map encI := by
      rw [← List.map_append]; rfl
    unfold b_sets_ofE_1
    rw [wn_gN]
    simp only [x_slS, x_sl0, x_isOwn1, true_and, x_putS, x_put0]
    rw [wn_sFg, wn_sAsgN, wn_e2]
    simp only [wn_var, ws_val, x_slS, x_sl0]
    rw [wn_eq lc]
    simp only [dAdd_lst, List.length_map, l2, if_true, wr_ok, e]
    simp
  have so : dSortE0 (.lst ((subsL n).map encI)) = .ok (.lst ((isort (fun a b => leD (encI a) (encI b)) (subsL n)).map encI)) := by
    show (if sortOkE0 _ = true then Rv.ok (D.lst (isort leD ((subsL n).map encI))) else .bad) = _
    rw [if_pos sortOkE_subs, isort_map]
  refine WF.eq ?_
  rw [f_sets_ofE, wf_mkF rfl]
  simp only [startE, m_sets_ofE, wn_seq]
  simp [l_sets_ofE_1]
  refine ⟨by omega, ?_⟩
  rw [show [D.tup []] = (subsL 0).map encI from rfl, wn_eq lp]
  simp [so]
theorem by_size {n : Nat} : dSortLen (.lst ((isort (fun a b => leD (encI a) (encI b)) (subsL n)).map encI)) = .ok (.lst ((bySize n).map encI)) := by
  have al : ((isort (fun a b => leD (encI a) (encI b)) (subsL n)).map encI).all isTupD = true := List.all_eq_true.mpr fun x hx => by
    obtain ⟨S, _, rfl⟩ := List.mem_map.mp hx
    rfl
  show (if _ = true then Rv.ok (D.lst (isort leLen _)) else .bad) = _
  rw [if_pos al]
  unfold bySize
  rw [isort_map (f := encI) (le := leLen) (isort (fun a b => leD (encI a) (encI b)) (subsL n))]
/-! ### the table -/
def kyS (S : List Int) : List Key := S.map fun i => .inl i
theorem kyS_inj {S S' : List Int} (h : kyS S = kyS S') : S = S' := by
  unfold kyS at h
  exact (List.map_inj_right (fun a b e => Sum.inl.inj e)).mp h
theorem keyD_enc : ∀ {S : List Int}, keysL (S.map D.int) = some (kyS S)
  | [] => rfl
  | x :: S => by
    rw [List.map_cons]
    unfold keysL
    rw [keyD_enc]
    rfl
@[simp] theorem wky_encI {S : List Int} {Q : List Key → Prop} : WKy (.tup (S.map D.int)) Q = Q (kyS S) := wky_of keyD_enc
def tabK (L : List (List Int)) (f : List Int → Int) : List (List Key × D) := L.map fun S => (kyS S, .int (f S))
theorem dget_tabK {L : List (List Int)} {f : List Int → Int} {S : List Int} (h : S ∈ L) : dget (tabK L f) (kyS S) = some (.int (f S)) := by
  induction L with
  | nil => cases h
  | cons p L ih =>
    unfold dget tabK at ih ⊢
    rw [List.map_cons, List.find?_cons]
    by_cases e : p = S
    · subst e
      simp
    · have hk : decide (kyS p = kyS S) = false := decide_eq_false fun z => e (kyS_inj z)
      simp only [hk]
      exact ih ((List.mem_cons.mp h).resolve_left fun z => e z.symm)
theorem dput_tabK {L : List (List Int)} {f : List Int → Int} {S : List Int} (h : S ∉ L) : dput (tabK L f) (kyS S) (.int (f S)) = tabK (L ++ [S]) f := by
  unfold dput
  have ha : ((tabK L f).any fun p => decide (p.1 = kyS S)) = false := by
    rw [List.any_eq_false]
    intro x hx
    obtain ⟨p, hp, rfl⟩ := List.mem_map.mp hx
    simp
    exact fun z => h (kyS_inj z ▸ hp)
  rw [ha, if_neg (by simp)]
  unfold tabK
  rw [List.map_append]
  rfl
theorem dIx_tabK {L : List (List Int)} {f : List Int → Int} {S : List Int} (h : S ∈ L) : dIx (.dic (tabK L f)) (.tup (S.map D.int)) = .ok (.int (f S)) := by
  show (match keysL (S.map D.int) with | some k => (match dget (tabK L f) k with | some v => Rv.ok v | none => .bad) | none => .bad) = _
  rw [keyD_enc]
  simp only
  rw [dget_tabK h]
end AH
namespace AH
open LW PySem L2
variable [TheK]
/-! ### how_many_orders -/
@[simp] theorem wn_tRng1 {a : DE} {e : Env} {Q : D → Env → Prop} {E : Str → List D → Env → Prop} : Wn (tRng1 a) e Q E = Wn a e (fun x e1 => WI x fun k => (rngOk 0 k = true ∧ k ≤ 100000) ∧ Q (.tup (rng 0 k)) e1) E := by
  simp only [tRng1, wn_bind]
  congr 1; funext x e1
  cases x with
  | int k =>
    simp only [wi_int, wn_ite, wn_pure, wn_bad]
    cases rngOk 0 k <;> by_cases h : k ≤ 100000 <;> simp [h]
  | _ => unfold Wn; rfl
section
variable {k j : Bool} {n : Nat} {t u : Int} {one other : List Er}
def cW (one other : List Er) (S : List Int) : Int := ((cntL (okM one other) S : Nat) : Int)
structure HInv (n : Nat) (Ks R : List (List Int)) : Prop where
  all : ∀ S ∈ subsL n, S ∈ Ks ∨ S ∈ R
  pw : R.Pairwise (fun a b => a.length ≤ b.length)
  nil : [] ∈ Ks
  sub : ∀ S ∈ R, S ∈ subsL n ∧ (S ≠ [] → S ∉ Ks)
  nd : R.Nodup
  len : Ks.length + R.length ≤ 300
def addK (Ks : List (List Int)) (S : List Int) : List (List Int) := if S = [] then Ks else Ks ++ [S]
theorem HInv.next {n : Nat} {Ks R : List (List Int)} {S : List Int} (h : HInv n Ks (S :: R)) : HInv n (addK Ks S) R := by
  have n2 := List.nodup_cons.mp h.nd
  have len := h.len
  rw [List.length_cons] at len
  unfold addK
  by_cases e : S = []
  · rw [if_pos e]
    refine ⟨fun S' hs => ?_, (List.pairwise_cons.mp h.pw).2, h.nil, fun S' hs => h.sub S' (List.mem_cons_of_mem _ hs), n2.2, by omega⟩
    rcases h.all S' hs with q | q
    · exact .inl q
    · rcases List.mem_cons.mp q with q | q
      · exact .inl (by rw [q, e]; exact h.nil)
      · exact .inr q
  · rw [if_neg e]
    refine ⟨fun S' hs => ?_, (List.pairwise_cons.mp h.pw).2, List.mem_append_left _ h.nil, fun S' hs => ⟨(h.sub S' (List.mem_cons_of_mem _ hs)).1, fun ne q => ?_⟩, n2.2, by rw [List.length_append, List.length_singleton]; omega⟩
    · rcases h.all S' hs with q | q
      · exact .inl (List.mem_append_left _ q)
      · rcases List.mem_cons.mp q with q | q
        · exact .inl (List.mem_append_right _ (List.mem_singleton.mpr q))
        · exact .inr q
    · rcases List.mem_append.mp q with q | q
      · exact (h.sub S' (List.mem_cons_of_mem _ hs)).2 ne q
      · rw [List.mem_singleton.mp q] at hs
        exact n2.1 hs
theorem HInv.there {n : Nat} {Ks R : List (List Int)} {S : List Int} (h : HInv n Ks (S :: R)) {p : Nat} (hp : p < S.length) : S.take p ++ S.drop (p + 1) ∈ Ks := by
  have hs := (h.sub S List.mem_cons_self).1
  rw [← without_eq (subs_nd hs) hp]
  have hw : without S[p] S ∈ subsL n := subs_filter hs
  have hl : (without S[p] S).length < S.length := by
    have := (without_perm (subs_nd hs) (List.getElem_mem hp)).length_eq
    rw [List.length_cons] at this
    omega
  rcases h.all _ hw with q | q
  · exact q
  · rcases List.mem_cons.mp q with q | q
    · rw [q] at hl; omega
    · have := (List.pairwise_cons.mp h.pw).1 _ q
      omega
theorem addK_mem {S : List Int} : ∀ {L Ks : List (List Int)}, [] ∈ Ks → S ∈ Ks ∨ S ∈ L → S ∈ L.foldl addK Ks
  | [], Ks, _, h => h.elim id fun z => by cases z
  | x :: L, Ks, hn, h => by
    rw [List.foldl_cons]
    have sub : ∀ y ∈ Ks, y ∈ addK Ks x := fun y hy => by
      unfold addK
      split
      · exact hy
      · exact List.mem_append_left _ hy
    refine addK_mem (sub _ hn) ?_
    rcases h with h | h
    · exact .inl (sub _ h)
    · rcases List.mem_cons.mp h with rfl | h
      · refine .inl ?_
        unfold addK
        split
        · rename_i e; rw [e]; exact hn
        · exact List.mem_append_right _ (List.mem_singleton.mpr rfl)
      · exact .inr h
theorem cW_eq {n : Nat} {S : List Int} (hs : S ∈ subsL n) (ne : S ≠ []) : (if moreI one other S ≤ 0 then ((intsR 0 (S.length : Int)).map fun p => cW one other (S.take p.toNat ++ S.drop (p.toNat + 1))).sum else 0) = cW one other S := by
  have st := cnt_step (ok := okM one other) (S := S) (fun a b h => okM_perm a b h) (subs_nd hs) ne
  have sp := sum_places (f := cntL (okM one other)) (subs_nd hs)
  unfold cW
  rw [sp, st]
  by_cases c : moreI one other S ≤ 0
  · have : okM one other S = true := decide_eq_true c
    rw [if_pos c, if_pos this]
  · have : okM one other S = false := decide_eq_false c
    rw [if_neg c, this]
    rfl
theorem how_ok (h1 : Lot (n : Int) t one) (h2 : Lot (n : Int) u other) (h8 : n ≤ 8) : LW.f_how_many_orders [lotD k n one, lotD j n other] = .ok (.int (cW one other (intsR 0 n))) [] := by
  have ix0 : dIx (lotD k n one) (.int 0) = .ok (.int n) := by cases k <;> rfl
  have sa := same_in (k := k) (j := j) (s := n) (its := one) (its' := other)
  have so := sets_ok (n := n) h8
  have bs := by_size (n := n)
  have init : HInv n [[]] (bySize n) := by
    refine ⟨fun S hs => .inr (bySize_perm.mem_iff.mpr hs), bySize_pw, List.mem_singleton.mpr rfl, fun S hs => ⟨bySize_perm.mem_iff.mp hs, fun ne q => ne (List.mem_singleton.mp q)⟩, bySize_perm.nodup_iff.mpr subs_nodup, ?_⟩
    rw [bySize_perm.length_eq, subs_len]
    have := Nat.pow_le_pow_right (n := 2) (by decide) h8
    simp
    omega
  have lp := loop_foldQ (T := List Int) (S := List (List Int)) (g := gN 3) (b := LW.b_how_many_orders_1) (st := fun Ks => [.val (lotD k n one), .val (lotD j n other), .odc (tabK Ks (cW one other)), .no, .no, .no]) (enc := encI) addK (HInv n) (bySize n) [[]] init fun Ks S R h => by
    refine ⟨h.next, ?_⟩
    have hs := (h.sub S List.mem_cons_self).1
    have hm := subs_mem hs
    have ln : dLen (.tup (S.map D.int)) = .ok (.int S.length) := by show Rv.ok _ = _; rw [List.length_map]
    by_cases e : S = []
    · subst e
      have e2 : addK Ks [] = Ks := if_pos rfl
      rw [e2]
      unfold LW.b_how_many_orders_1 encI
      rw [wn_gN]
      simp [wn_sFg]
    · have e2 : addK Ks S = Ks ++ [S] := if_neg e
      have pos : 0 < S.length := List.length_pos_iff.mpr e
      rw [e2]
      have mo := more_ok (k := k) (j := j) (q := .t) (some := S) h1 h2 h8 (by omega) hm.2.1
      have dp := dput_tabK (f := cW one other) ((h.sub S List.mem_cons_self).2 e)
      have cw := cW_eq (one := one) (other := other) hs e
      have kl : (tabK Ks (cW one other)).length ≤ 99999 := by
        have := h.len
        unfold tabK
        rw [List.length_map]
        omega
      have lc : LW.c_how_many_orders_1 [.val (lotD k n one), .val (lotD j n other), .odc (tabK Ks (cW one other)), .val (.tup (S.map D.int)), .no, .no] = .ok (.lst ((intsR 0 (S.length : Int)).map fun p => .int (cW one other (S.take p.toNat ++ S.drop (p.toNat + 1))))) [.val (lotD k n one), .val (lotD j n other), .odc (tabK Ks (cW one other)), .val (.tup (S.map D.int)), .no, .no] := by
        unfold LW.c_how_many_orders_1
        refine lc_map (T := Int) (L := intsR 0 (S.length : Int)) (enc := D.int) (fun p => .int (cW one other (S.take p.toNat ++ S.drop (p.toNat + 1)))) (Wn.eq (by simp [ln, rng_eq]; omega)) rfl (by rw [intsR_len]; omega) fun p hx => ?_
        have b := mem_intsR.mp hx
        obtain ⟨m, rfl⟩ : ∃ m : Nat, p = m := ⟨p.toNat, by omega⟩
        have t1 := cut_to (xs := S.map D.int) (i := m) (by simp; omega)
        have t2 := cut_from (xs := S.map D.int) (i := m + 1) (by simp; omega)
        push_cast at t2
        have ix := dIx_tabK (f := cW one other) (h.there (p := m) (by omega))
        rw [List.map_append, List.map_take, List.map_drop] at ix
        simp [wipeE, t1, t2, ix]
        omega
      unfold LW.b_how_many_orders_1
      show Wn (gN 3 (.tup (S.map D.int))) _ _ _
      rw [wn_gN]
      simp only [x_slS, x_sl0, x_isOwn1, true_and, x_putS, x_put0]
      rw [wn_sFg]
      simp [ln, pos]
      rw [wn_seq, wn_sAsgN, wn_eq lc]
      simp
      have mo' : f_more_ofK [lotD k n one, lotD j n other, .tup (S.map D.int)] = .ok (.int (moreI one other S)) [] := mo
      simp [mo']
      by_cases c : moreI one other S ≤ 0
      · rw [if_pos c] at cw
        simp [c, cw, dp, kl]
      · rw [if_neg c] at cw
        rw [← cw] at dp
        simp [c, dp, kl]
  refine WF.eq ?_
  rw [LW.f_how_many_orders, wf_mkF rfl]
  simp only [startE, LW.m_how_many_orders, wn_seq]
  simp [sa, ix0, LW.l_how_many_orders_1, so, bs]
  have t0 : [(([] : List Key), D.int 1)] = tabK [[]] (cW one other) := rfl
  rw [t0, wn_eq lp]
  have fin := dIx_tabK (f := cW one other) (addK_mem (S := intsR 0 (n : Int)) (List.mem_singleton.mpr rfl) (.inr (bySize_perm.mem_iff.mpr subs_all)) : intsR 0 (n : Int) ∈ (bySize n).foldl addK [[]])
  simp [ix0, rng_eq, fin]
  omega
end
end AH
namespace AH
open LW PySem L2
variable [TheK]
/-! ### rows in order -/
theorem eqvL_ints : ∀ {a b : List Int}, D.eqvL (a.map D.int) (b.map D.int) = decide (a = b)
  | [], [] => rfl
  | [], _ :: _ => rfl
  | _ :: _, [] => rfl
  | x :: a, y :: b => by
    show (x == y && D.eqvL (a.map D.int) (b.map D.int)) = _
    rw [eqvL_ints, Bool.eq_iff_iff]
    simp
theorem dEq_ints {a b : List Int} : dEq (.lst (a.map D.int)) (.lst (b.map D.int)) = .ok (decide (a = b)) := by
  have pl : ∀ c : List Int, (D.lst (c.map D.int)).plain 40 = true := fun c => by
    show D.plainL 39 (c.map D.int) = true
    exact plainL_iff.mpr fun y hy => by
      obtain ⟨p, _, rfl⟩ := List.mem_map.mp hy
      rfl
  unfold dEq
  rw [pl a, pl b]
  show Rv.ok (D.eqvL (a.map D.int) (b.map D.int)) = _
  rw [eqvL_ints]
theorem asc_eq {own : List Int} : decide (own = own.mergeSort fun a b => decide (a ≤ b)) = ascB own := by
  have pw := List.pairwise_mergeSort (le := fun a b : Int => decide (a ≤ b)) (fun a b c h1 h2 => by simp at *; omega) (fun a b => by simp; omega) own
  have pw : (own.mergeSort fun a b => decide (a ≤ b)).Pairwise (· ≤ ·) := pw.imp fun h => of_decide_eq_true h
  unfold ascB
  rw [Bool.eq_iff_iff, decide_eq_true_eq, decide_eq_true_eq]
  constructor
  · intro e
    rw [e]; exact pw
  · intro h
    have p := (List.mergeSort_perm own (fun a b : Int => decide (a ≤ b))).symm
    exact p.eq_of_pairwise (fun a b _ _ h1 h2 => Int.le_antisymm h1 h2) h pw
theorem sortU_row {own : List Int} : dSortU (.tup (own.map D.int)) = .ok (.lst ((own.mergeSort fun a b => decide (a ≤ b)).map D.int)) := by
  have pw := List.pairwise_mergeSort (le := fun a b : Int => decide (a ≤ b)) (fun a b c h1 h2 => by simp at *; omega) (fun a b => by simp; omega) own
  show (if sortOk (own.map D.int) = true then Rv.ok (D.lst (isort leD (own.map D.int))) else .bad) = _
  rw [if_pos sortOk_ints, isort_ints (List.mergeSort_perm own _).symm (pw.imp fun h => of_decide_eq_true h)]
theorem wn_indexK {a b : DE} {e : Env} {xs : List D} {Q : D → Env → Prop} {E : Str → List D → Env → Prop} (ha : a e = .ok (.ktp xs) e) : Wn (eIndexK a b) e Q E = Wn b e (fun k e2 => WR (dIndexT (.ktp xs) k) fun z => Q z e2) E := by
  unfold eIndexK
  rw [wn_bind, wn_eq ha]
  show Wn (b.bind fun k => M.of (dIndexT (.ktp xs) k)) e Q E = _
  simp only [wn_bind, wn_of]
theorem dIndexT_ints {order : List Int} {h : Int} (hm : h ∈ order) : dIndexT (.ktp (order.map D.int)) (.int h) = .ok (.int (order.idxOf h : Nat)) := by
  have il : intsL (order.map D.int) = some order := by
    have := intsL_map (f := fun i : Int => i) order
    rw [List.map_id'] at this
    exact this
  show (match intsL (order.map D.int) with | some ns => if decide (h ∈ ns) = true then Rv.ok (D.int (ns.idxOf h : Nat)) else .bad | none => .bad) = _
  rw [il]
  show (if decide (h ∈ order) = true then Rv.ok (D.int (order.idxOf h : Nat)) else .bad) = _
  rw [if_pos (decide_eq_true hm)]
section
variable {n : Nat} {t u : Int} {mine its : List Er} {bx : List D}
/-- one order, all the rows -/
theorem rows_turn {order : List Int} {m : Int} (hL : Lot (n : Int) t mine) (hL' : Lot (n : Int) u its) (n1 : 1 ≤ n) (n8 : n ≤ 4) (hp : order.Perm (intsR 0 n)) :
    Wn LW.l_law_small_right_1 [.bor bx, .val (.int n), .val (lotD true n mine), .val (lotD true n its), .val (.lst ((stepsL n).map encI)), .val (.int m), .val (.ktp (order.map D.int)), .val (.bl true), .no, .no, .no]
      (fun o e => o = .nx ∧ e = [.bor bx, .val (.int n), .val (lotD true n mine), .val (lotD true n its), .val (.lst ((stepsL n).map encI)), .val (.int m), .val (.ktp (order.map D.int)), .val (.bl (fineL (okM mine its) order)), .no, .no, .no]) NoE := by
  have lp := loop_foldQ (T := List Int) (S := Bool) (g := gN 8) (b := LW.b_law_small_right_1) (st := fun b => [.bor bx, .val (.int n), .val (lotD true n mine), .val (lotD true n its), .val (.lst ((stepsL n).map encI)), .val (.int m), .val (.ktp (order.map D.int)), .val (.bl b), .no, .no, .no]) (enc := encI) (fun b own => b && decide (cpI9 mine (feeL order own n) ≤ cpI9 its (feeL order own n))) (fun _ R => ∀ own ∈ R, own ∈ stepsL n) (stepsL n) true (fun own h => h) fun b own R hR => by
    refine ⟨fun x hx => hR x (List.mem_cons_of_mem _ hx), ?_⟩
    obtain ⟨h1, h2⟩ := List.mem_filter.mp (hR own List.mem_cons_self)
    obtain ⟨lo, vo⟩ := rowsL_iff.mp h1
    have lc : LW.c_law_small_right_2 [.bor bx, .val (.int n), .val (lotD true n mine), .val (lotD true n its), .val (.lst ((stepsL n).map encI)), .val (.int m), .val (.ktp (order.map D.int)), .val (.bl b), .val (encI own), .no, .no] = .ok (.lst ((feeL order own n).map D.int)) [.bor bx, .val (.int n), .val (lotD true n mine), .val (lotD true n its), .val (.lst ((stepsL n).map encI)), .val (.int m), .val (.ktp (order.map D.int)), .val (.bl b), .val (encI own), .no, .no] := by
      unfold LW.c_law_small_right_2 feeL
      rw [List.map_map]
      refine lc_map (T := Int) (L := intsR 0 n) (enc := D.int) (fun h => .int (getI own ((order.idxOf h : Nat) : Int))) (Wn.eq (by simp [rng_eq]; omega)) rfl (by rw [intsR_len]; omega) fun h hh => ?_
      have b := mem_intsR.mp hh
      obtain ⟨hm, hi, _⟩ := idx_lt hp b.1 b.2
      have at1 := atI_ints (ns := own) (i := ((order.idxOf h : Nat) : Int)) (by omega) (by omega)
      have dx := dIndexT_ints hm
      rw [wn_gN]
      simp only [wipeE, x_slS, x_sl0, x_isOwn1, true_and, x_putS, x_put0]
      simp [encI]
      rw [wn_indexK (xs := order.map D.int) (by simp)]
      simp [dx, at1]
    have fv : ∀ v ∈ feeL order own n, 0 ≤ v ∧ v < 1000 := fun v hv => by
      unfold feeL at hv
      obtain ⟨h, hh, rfl⟩ := List.mem_map.mp hv
      have b := mem_intsR.mp hh
      obtain ⟨hm, hi, _⟩ := idx_lt hp b.1 b.2
      rw [getI_nat (by omega)]
      have := vo _ (List.getElem_mem (l := own) (n := order.idxOf h) (by omega))
      omega
    have fl : ((feeL order own n).length : Int) = n := by rw [feeL_len]
    have c1 := lawch33 (j := false) hL fv (lot_w hL (by omega)).1 fl
    have c2 := lawch33 (j := false) hL' fv (lot_w hL' (by omega)).1 fl
    rw [sq_false] at c1 c2
    unfold LW.b_law_small_right_1
    rw [wn_gN]
    simp only [x_slS, x_sl0, x_isOwn1, true_and, x_putS, x_put0]
    rw [wn_sFg, wn_seq, wn_sAsgN, wn_eq lc]
    simp only [x_slS, x_sl0, x_isFix1, true_and, x_putS, x_put0, wo_nx]
    cases b with
    | true => simp [c1, c2]
    | false => simp
  have fo : ∀ (L : List (List Int)) (b : Bool), L.foldl (fun b own => b && decide (cpI9 mine (feeL order own n) ≤ cpI9 its (feeL order own n))) b = (b && L.all fun own => decide (cpI9 mine (feeL order own n) ≤ cpI9 its (feeL order own n))) := by
    intro L
    induction L with
    | nil => intro b; simp
    | cons x L ih => intro b; rw [List.foldl_cons, ih, List.all_cons, Bool.and_assoc]
  rw [fo, Bool.true_and, steps_iff hL hL' hp] at lp
  unfold LW.l_law_small_right_1
  simp
  rw [wn_eq lp]
  exact ⟨rfl, rfl⟩
theorem order_turn {order : List Int} {m : Nat} (hL : Lot (n : Int) t mine) (hL' : Lot (n : Int) u its) (n1 : 1 ≤ n) (n8 : n ≤ 4) (hp : order.Perm (intsR 0 n)) :
    Wn (gN 6 (encO n order)) [.bor bx, .val (.int n), .val (lotD true n mine), .val (lotD true n its), .val (.lst ((stepsL n).map encI)), .val (.int m), .no, .no, .no, .no, .no]
      (fun _ e1 => Wn LW.b_law_small_right_2 e1 (fun o e => o = .nx ∧ e = [.bor bx, .val (.int n), .val (lotD true n mine), .val (lotD true n its), .val (.lst ((stepsL n).map encI)), .val (.int ((m + if fineL (okM mine its) order = true then 1 else 0 : Nat) : Int)), .no, .no, .no, .no, .no]) NoE) NoE := by
  have eo : encO n order = .ktp (order.map D.int) := by unfold encO; rw [if_neg (by omega)]
  have nv := never_ok (k := true) (j := true) (q := .k) hL hL' (by omega) hp
  have nv : LW.f_never_dearer_in [lotD true n mine, lotD true n its, .ktp (order.map D.int)] = .ok (.bl (fineL (okM mine its) order)) [] := nv
  have rt := rows_turn (bx := bx) (m := (m : Int)) hL hL' n1 n8 hp
  rw [eo, wn_gN]
  simp only [x_slS, x_sl0, x_isOwn1, true_and, x_putS, x_put0]
  unfold LW.b_law_small_right_2
  rw [wn_sFg, wn_seq]
  simp only [wn_sAsgN, wn_c, x_slS, x_sl0, x_isFix1, true_and, x_putS, x_put0, wo_nx]
  rw [wn_seq]
  refine rt.imp (fun o e h => ?_) fun _ _ _ z => z.elim
  obtain ⟨rfl, rfl⟩ := h
  simp only [wo_nx]
  obtain ⟨b, hb⟩ : ∃ b, fineL (okM mine its) order = b := ⟨_, rfl⟩
  rw [hb] at nv ⊢
  have sm : f_law_same 30 [.bl b, .bl b] = .ok (.bl true) [] := same_eq (n := 0) rfl (by simp)
  rw [wn_seq]
  simp [nv, sm]
  cases b <;> simp
theorem count_fold {ok : List Int → Bool} : ∀ (L : List (List Int)) (m : Nat), L.foldl (fun m o => m + if fineL ok o = true then 1 else 0) m = m + (L.filter (fineL ok)).length
  | [], m => by simp
  | x :: L, m => by
    rw [List.foldl_cons, count_fold, List.filter_cons]
    cases fineL ok x <;> simp <;> omega
theorem ord_perm {o : List Int} (h : o ∈ ordL (intsR 0 (n : Int)) n) : o.Perm (intsR 0 n) := by
  rw [ord_pf] at h
  exact pf_perm ints_nd9 (by rw [intsR_len]; omega) h
theorem ord_cntN {ok : List Int → Bool} : ((ordL (intsR 0 (n : Int)) n).filter (fineL ok)).length = cntL ok (intsR 0 n) := by
  have := ord_cnt (ok := ok) (N := intsR 0 (n : Int))
  rw [intsR_len, show ((n : Int) - 0).toNat = n by omega] at this
  exact this
end
theorem small_ok {n : Nat} {xs : List D} {Q : D → List (List D) → Prop} {E : Str → List D → List (List D) → Prop} (hb : Bx (n + 200) xs) (q : ∀ ys, Bx n ys → Q (.bl true) [ys]) : WF (LW.f_law_small_right [.lst xs]) Q E := by
  rw [LW.f_law_small_right, wf_mkF rfl]
  show Wn LW.m_law_small_right [.bor xs, .no, .no, .no, .no, .no, .no, .no, .no, .no, .no] _ _
  unfold LW.m_law_small_right
  rw [wn_seq]
  simp only [wn_sAsgN, wn_e2, wn_c]
  refine wn_take (n := n + 199) (b := 4) rfl hb (by omega) (by omega) fun v b1 v0 v1 hb1 => ?_
  simp only [dAdd_int, wr_ok, x_slS, x_sl0, x_isFix1, true_and, x_putS, x_put0, wo_nx]
  obtain ⟨s, hs⟩ : ∃ s : Nat, 1 + v = s := ⟨(1 + v).toNat, by omega⟩
  rw [hs, wn_seq]
  simp only [wn_sAsgN]
  refine lend3 (x := .int s) (y := .int 3) (by simp) (by simp) ?_
  refine lot_ok (n := n + 100) (s := s) (t := 3) (by omega) (by omega) (by omega) (by decide +kernel) (hb1.le (by omega)) fun mine b2 hL hb2 => ⟨b2, rfl, ?_⟩
  simp only [x_slS, x_sl0, x_isFix1, true_and, x_putS, x_put0, wo_nx]
  rw [wn_seq]
  simp only [wn_sAsgN]
  refine lend3w (x := lotD true s mine) (by simp) ?_
  simp only [wn_e2, wn_c]
  refine wn_take (n := n + 50) (b := 6) rfl (hb2.le (by omega)) (by omega) (by omega) fun w b3 w0 w1 hb3 => ?_
  simp only [dAdd_int, wr_ok]
  refine ⟨b3, rfl, ?_⟩
  obtain ⟨m, hm⟩ : ∃ m : Nat, 1 + w = m := ⟨(1 + w).toNat, by omega⟩
  rw [hm]
  refine moved_ok (n := n) (m := m) (by omega) (by omega) hL (by omega) (hb3.le (by omega)) fun its t' b4 hL' hb4 => ⟨b4, rfl, ?_⟩
  simp only [x_slS, x_sl0, x_isFix1, true_and, x_putS, x_put0, wo_nx]
  have ro := rows33 (n := s) (by omega)
  have rl : (rowsL 2 s).length ≤ 100 := by
    have h1 := rowsL_len (n := s)
    have h2 : 3 ^ s ≤ 3 ^ 4 := Nat.pow_le_pow_right (by decide) (by omega)
    omega
  have lc : LW.c_law_small_right_1 [.bor b4, .val (.int s), .val (lotD true s mine), .val (lotD true s its), .no, .no, .no, .no, .no, .no, .no] = .ok (.lst ((stepsL s).map encI)) [.bor b4, .val (.int s), .val (lotD true s mine), .val (lotD true s its), .no, .no, .no, .no, .no, .no, .no] := by
    unfold LW.c_law_small_right_1 stepsL
    refine lc_filter (T := List Int) (L := rowsL 2 s) (enc := encI) ascB encI (Wn.eq (by simp [ro])) rfl (by omega) fun own ho => ?_
    have so := sortU_row (own := own)
    have de := dEq_ints (a := own) (b := own.mergeSort fun a b => decide (a ≤ b))
    rw [asc_eq] at de
    simp [wipeE, encI, so, de]
  rw [wn_seq, wn_par_vv]
  simp only [wn_c]
  rw [wn_eq lc]
  simp only [x_slS, x_sl0, x_isFix1, true_and, x_putS, x_put0, wo_nx]
  have od := orders33 (n := s) (by omega)
  have lp := loop_foldQ (T := List Int) (S := Nat) (g := gN 6) (b := LW.b_law_small_right_2) (st := fun c => [.bor b4, .val (.int s), .val (lotD true s mine), .val (lotD true s its), .val (.lst ((stepsL s).map encI)), .val (.int c), .no, .no, .no, .no, .no]) (enc := encO s) (fun c o => c + if fineL (okM mine its) o = true then 1 else 0) (fun _ R => ∀ o ∈ R, o.Perm (intsR 0 s)) (ordL (intsR 0 s) s) 0 (fun o ho => ord_perm ho) fun c o R hR =>
    ⟨fun x hx => hR x (List.mem_cons_of_mem _ hx), order_turn hL hL' (by omega) (by omega) (hR o List.mem_cons_self)⟩
  rw [count_fold, ord_cntN, Nat.zero_add, show ((0 : Nat) : Int) = 0 from rfl] at lp
  have ho := how_ok (k := true) (j := true) hL hL' (by omega)
  have ho : LW.f_how_many_orders [lotD true s mine, lotD true s its] = .ok (.int ((cntL (okM mine its) (intsR 0 s) : Nat) : Int)) [] := ho
  have sm : f_law_same 30 [.int ((cntL (okM mine its) (intsR 0 s) : Nat) : Int), .int ((cntL (okM mine its) (intsR 0 s) : Nat) : Int)] = .ok (.bl true) [] := same_eq (n := 0) rfl (by simp)
  unfold LW.l_law_small_right_2
  rw [wn_seq]
  simp [od]
  rw [wn_eq lp]
  simp [ho, sm]
  exact q _ hb4
end AH
namespace AH
open LW PySem L2
variable [TheK]
/-! ### drawn orders -/
theorem perm_pick {R : List Int} {v : Nat} (h : v < R.length) : (R[v] :: (R.take v ++ R.drop (v + 1))).Perm R := by
  have e : R = R.take v ++ R[v] :: R.drop (v + 1) := by
    rw [List.getElem_cons_drop, List.take_append_drop]
  conv => rhs; rw [e]
  exact List.perm_middle.symm
theorem mixed_ok {k : Nat} {L : List Int} {bx : List D} (hl : L.length ≤ 100) (hb : Bx (k + L.length) bx) : WF (f_law_mixed [.lst bx, .lst (L.map D.int)]) (fun d bs => ∃ (M : List Int) (ys : List D), d = .lst (M.map D.int) ∧ M.Perm L ∧ bs = [ys] ∧ Bx k ys) NoF := by
  rw [f_law_mixed, wf_mkF rfl]
  simp only [startE, m_law_mixed, wn_seq]
  show Wn _ [.bor bx, .val (.lst (L.map D.int)), .no, .no, .no, .no] _ _
  simp only [wn_par_vn, wn_e1, wn_var, ws_val, x_slS, x_sl0]
  have dl : dList (.lst (L.map D.int)) = .ok (.lst (L.map D.int)) := rfl
  simp only [dl, wr_ok]
  have body : Wn l_law_mixed_1 [.bor bx, .val (.lst (L.map D.int)), .val (.lst (L.map D.int)), .own [], .no, .no] (fun o e => o = .nx ∧ ∃ (b : List D) (F R0 : List Int), e = [.bor b, .val (.lst (L.map D.int)), .val (.lst (R0.map D.int)), .own (F.map D.int), .no, .no] ∧ Bx k b ∧ (F ++ R0).Perm L ∧ R0 = []) NoE := by
    unfold l_law_mixed_1
    simp only [wn_sFor, wn_iRng1, wn_e1, wn_var, ws_val, x_slS, x_sl0]
    have ln : dLen (.lst (L.map D.int)) = .ok (.int L.length) := by show Rv.ok _ = _; rw [List.length_map]
    simp only [ln, wr_ok, wi_int]
    refine ⟨by simp; omega, ?_⟩
    refine wn_loop (fun r e => ∃ (b : List D) (F R0 : List Int), e = [.bor b, .val (.lst (L.map D.int)), .val (.lst (R0.map D.int)), .own (F.map D.int), .no, .no] ∧ Bx (k + r.length) b ∧ (F ++ R0).Perm L ∧ R0.length = r.length ∧ ∀ y ∈ r, ∃ i : Int, y = .int i) (fun y r e hI => ?_) (fun e hI => ?_) ⟨bx, [], L, rfl, by rw [rng_len]; simpa using hb, List.Perm.refl _, by rw [rng_len]; simp, fun y hy => by obtain ⟨i, h0, h1, rfl⟩ := rng_mem hy; exact ⟨i, rfl⟩⟩
    · obtain ⟨b, F, R0, rfl, h1, h2, h3, h4⟩ := hI
      obtain ⟨i, rfl⟩ := h4 y List.mem_cons_self
      rw [List.length_cons] at h1 h3
      have rl : R0.length ≤ 100 := by
        have := h2.length_eq
        rw [List.length_append] at this
        omega
      have fl : F.length ≤ 100 := by
        have := h2.length_eq
        rw [List.length_append] at this
        omega
      have ln : dLen (.lst (R0.map D.int)) = .ok (.int R0.length) := by show Rv.ok _ = _; rw [List.length_map]
      simp only [wn_gN, x_slS, x_sl0, x_isOwn1, true_and, x_putS, x_put0]
      unfold b_law_mixed_1
      rw [wn_sFg, wn_seq]
      simp only [wn_sAsgN]
      refine wn_take (n := k + r.length) (b := R0.length) (Wn.eq (by simp [ln])) (h1.le (by omega)) (by omega) (by omega) fun v ys v0 v1 hb1 => ?_
      obtain ⟨w, rfl⟩ : ∃ w : Nat, v = w := ⟨v.toNat, by omega⟩
      have wl : w < R0.length := by omega
      have a1 : atI (R0.map D.int) (w : Int) = some (.int R0[w]) := by rw [atI_nat (by simpa using wl), List.getElem_map]
      have t1 := cut_to (xs := R0.map D.int) (i := w) (by simp; omega)
      have t2 := cut_from (xs := R0.map D.int) (i := w + 1) (by simp; omega)
      push_cast at t2
      simp [wn_seq, a1, t1, t2]
      refine ⟨by omega, by omega, ys, F ++ [R0[w]], R0.take w ++ R0.drop (w + 1), ⟨rfl, by rw [List.map_append, List.map_take, List.map_drop], by rw [List.map_append]; rfl⟩, hb1, ?_, by rw [List.length_append, List.length_take, List.length_drop]; omega, fun y hy => h4 y (List.mem_cons_of_mem _ hy)⟩
      rw [List.append_assoc]
      exact ((perm_pick wl).append_left F).trans h2
    · obtain ⟨b, F, R0, rfl, h1, h2, h3, h4⟩ := hI
      exact ⟨rfl, b, F, R0, rfl, by simpa using h1, h2, List.eq_nil_of_length_eq_zero h3⟩
  simp
  refine body.imp (fun o e h => ?_) fun _ _ _ z => z.elim
  obtain ⟨rfl, b, F, R0, rfl, h1, h2, h3⟩ := h
  subst h3
  rw [List.append_nil] at h2
  simp
  exact ⟨F, rfl, h2, h1⟩
section
variable {n : Nat} {t u : Int} {mine its : List Er}
theorem lap_ok {m : Nat} {bx : List D} {turn : Int} {y : D} (hL : Lot (n : Int) t mine) (hL' : Lot (n : Int) u its) (n8 : n ≤ 8) (hb : Bx (m + 8) bx) :
    Wn LW.b_law_right_1 [.bor bx, .val (.int turn), .val (.int n), .val (lotD true n mine), .val (lotD true n its), .val y, .no, .no, .no, .no]
      (fun o e => o = .nx ∧ ∃ by_, e = .bor by_ :: [.val (.int turn), .val (.int n), .val (lotD true n mine), .val (lotD true n its), .no, .no, .no, .no, .no] ∧ Bx m by_) NoE := by
  unfold LW.b_law_right_1
  rw [wn_sFg, wn_seq]
  simp only [wn_sAsgN, wn_e1]
  refine lend2w ?_
  simp only [wn_lRng1, wn_var, ws_val, x_slS, x_sl0, wi_int]
  refine ⟨by simp; omega, bx, rfl, ?_⟩
  rw [rng_eq]
  refine (mixed_ok (k := m) (L := intsR 0 n) (by rw [intsR_len]; omega) (hb.le (by rw [intsR_len]; omega))).imp (fun d bs h => ?_) fun _ _ _ z => z.elim
  obtain ⟨order, ys, rfl, hp, rfl, hy⟩ := h
  refine ⟨ys, rfl, ?_⟩
  have hl : order.length = n := by rw [hp.length_eq, intsR_len]; omega
  have fi := fine_ok (q := .t) hL hL' n8 hl
  have n1 := never_ok (k := true) (j := true) (q := .t) hL hL' n8 hp
  have n2 := never_ok (k := false) (j := true) (q := .l) hL hL' n8 hp
  have fi : LW.f_law_is_fine [lotD true n mine, lotD true n its, .tup (order.map D.int)] = .ok (.bl (fineL (okM mine its) order)) [] := fi
  have n1 : LW.f_never_dearer_in [lotD true n mine, lotD true n its, .tup (order.map D.int)] = .ok (.bl (fineL (okM mine its) order)) [] := n1
  have n2 : LW.f_never_dearer_in [lotD false n mine, lotD true n its, .lst (order.map D.int)] = .ok (.bl (fineL (okM mine its) order)) [] := n2
  have li := lists_lot (s := (n : Int)) (its := mine) (by have := (lot_w hL n8).1; omega)
  obtain ⟨b, hb'⟩ : ∃ b, fineL (okM mine its) order = b := ⟨_, rfl⟩
  rw [hb'] at fi n1 n2
  have sm : f_law_same 30 [.lst [.bl b, .bl b], .lst [.bl b, .bl b]] = .ok (.bl true) [] := same_eq (n := 1) rfl rfl
  simp only [dTuple_lst, wr_ok, x_slS, x_sl0, x_isFix1, true_and, x_putS, x_put0, wo_nx]
  rw [wn_seq]
  simp [fi]
  rw [wn_seq]
  simp [n1, li, n2]
  simp [sm]
  exact hy
theorem laps_ok {m : Nat} {bx : List D} {turn : Int} {Q : Out → Env → Prop} {E : Str → List D → Env → Prop} (hL : Lot (n : Int) t mine) (hL' : Lot (n : Int) u its) (n8 : n ≤ 8) (hb : Bx (m + 48) bx)
    (q : ∀ ys, Bx m ys → Q .nx [.bor ys, .val (.int turn), .val (.int n), .val (lotD true n mine), .val (lotD true n its), .no, .no, .no, .no, .no]) :
    Wn LW.l_law_right_1 [.bor bx, .val (.int turn), .val (.int n), .val (lotD true n mine), .val (lotD true n its), .no, .no, .no, .no, .no] Q E := by
  unfold LW.l_law_right_1
  simp only [wn_sFor, wn_iRng1, wn_c, wi_int]
  refine ⟨rfl, ?_⟩
  refine wn_turns (c := 8) (r := [.val (.int turn), .val (.int n), .val (lotD true n mine), .val (lotD true n its), .no, .no, .no, .no, .no]) (n := m) (fun k x bx hb => ?_) hb q
  rw [wn_gN]
  simp only [x_slS, x_sl0, x_isOwn1, true_and, x_putS, x_put0]
  exact lap_ok hL hL' n8 hb
theorem turn_ok {m : Nat} {bx : List D} {x : Int} (hb : Bx (m + 500) bx) :
    Wn LW.b_law_right_2 (.bor bx :: .val (.int x) :: List.replicate 8 .no) (fun o e => o = .nx ∧ ∃ by_, e = .bor by_ :: .no :: List.replicate 8 .no ∧ Bx m by_) NoE := by
  show Wn LW.b_law_right_2 [.bor bx, .val (.int x), .no, .no, .no, .no, .no, .no, .no, .no] _ _
  unfold LW.b_law_right_2
  rw [wn_sFg, wn_seq]
  simp only [wn_sAsgN, wn_e2, wn_c]
  refine wn_take (n := m + 499) (b := 8) rfl hb (by omega) (by omega) fun v b1 v0 v1 hb1 => ?_
  simp only [dAdd_int, wr_ok, x_slS, x_sl0, x_isFix1, true_and, x_putS, x_put0, wo_nx]
  obtain ⟨s, hs⟩ : ∃ s : Nat, 1 + v = s := ⟨(1 + v).toNat, by omega⟩
  rw [hs, wn_seq]
  have rest : ∀ (t : Int) (mine : List Er) (b2 : List D), Lot (s : Int) t mine → Bx (m + 400) b2 → Wn (sSeq (sAsgN 4 (eCall f_law_moved [.lend 0, .e (eVar 3), .e (e2 dAdd (eC (.int 1)) (eCall f_law_take [.lend 0, .e (eC (.int 8))]))])) (sSeq LW.l_law_right_1 (sSeq (sIf (c2 dLt (eVar 2) (eC (.int 6))) (sSeq (sAsgN 7 LW.c_law_right_1) (sIf (tNot (tV (eCall (f_law_same 30) [.e (eCall LW.f_how_many_orders [.e (eVar 3), .e (eVar 4)]), .e (e1 dLen (eVar 7))]))) (sRet (eC (.bl false))) sNil)) sNil) (sIf (tNot (tV (eCall LW.f_law_small_right [.lend 0]))) (sRet (eC (.bl false))) sNil)))) [.bor b2, .val (.int x), .val (.int s), .val (lotD true s mine), .no, .no, .no, .no, .no, .no]
      (fun o e => o = .nx ∧ ∃ by_ l4 s7, e = [.bor by_, .val (.int x), .val (.int s), .val (lotD true s mine), .val l4, .no, .no, s7, .no, .no] ∧ (s7 = .no ∨ ∃ d, s7 = .val d) ∧ Bx m by_) NoE := fun t mine b2 hL hb2 => by
    rw [wn_seq]
    simp only [wn_sAsgN]
    refine lend3w (x := lotD true s mine) (by simp) ?_
    simp only [wn_e2, wn_c]
    refine wn_take (n := m + 399) (b := 8) rfl hb2 (by omega) (by omega) fun w b3 w0 w1 hb3 => ?_
    simp only [dAdd_int, wr_ok]
    refine ⟨b3, rfl, ?_⟩
    obtain ⟨c, hc⟩ : ∃ c : Nat, 1 + w = c := ⟨(1 + w).toNat, by omega⟩
    rw [hc]
    refine moved_ok (n := m + 300) (m := c) (by omega) (by omega) hL (by omega) (hb3.le (by omega)) fun its t' b4 hL' hb4 => ⟨b4, rfl, ?_⟩
    simp only [x_slS, x_sl0, x_isFix1, true_and, x_putS, x_put0, wo_nx]
    rw [wn_seq]
    refine laps_ok (m := m + 200) hL hL' (by omega) (hb4.le (by omega)) fun b5 hb5 => ?_
    simp only [wo_nx]
    rw [wn_seq]
    have ho := how_ok (k := true) (j := true) hL hL' (by omega)
    have ho : LW.f_how_many_orders [lotD true s mine, lotD true s its] = .ok (.int ((cntL (okM mine its) (intsR 0 s) : Nat) : Int)) [] := ho
    have sm : f_law_same 30 [.int ((cntL (okM mine its) (intsR 0 s) : Nat) : Int), .int ((cntL (okM mine its) (intsR 0 s) : Nat) : Int)] = .ok (.bl true) [] := same_eq (n := 0) rfl (by simp)
    by_cases c6 : s < 6
    · have od := orders33 (n := s) (by omega)
      have ol : (ordL (intsR 0 (s : Int)) s).length ≤ 3125 := by
        have h1 := ord_len (N := intsR 0 (s : Int)) (k := s)
        rw [intsR_len, show ((s : Int) - 0).toNat = s by omega] at h1
        have h2 : s ^ s ≤ 5 ^ 5 := Nat.le_trans (Nat.pow_le_pow_left (by omega : s ≤ 5) s) (Nat.pow_le_pow_right (by decide) (by omega))
        omega
      have lc : LW.c_law_right_1 [.bor b5, .val (.int x), .val (.int s), .val (lotD true s mine), .val (lotD true s its), .no, .no, .no, .no, .no] = .ok (.lst (((ordL (intsR 0 (s : Int)) s).filter (fineL (okM mine its))).map (encO s))) [.bor b5, .val (.int x), .val (.int s), .val (lotD true s mine), .val (lotD true s its), .no, .no, .no, .no, .no] := by
        unfold LW.c_law_right_1
        refine lc_filter (T := List Int) (L := ordL (intsR 0 (s : Int)) s) (enc := encO s) (fineL (okM mine its)) (encO s) (Wn.eq (by simp [od])) rfl (by omega) fun o ho => ?_
        have fi := fine_ok (q := .k) hL hL' (by omega) (ordL_own ho)
        have eo : encO s o = sk .k o := by unfold encO; rw [if_neg (by omega)]; rfl
        rw [eo]
        simp [wipeE, fi]
      have c7 : (s : Int) < 6 := by omega
      simp [c7]
      rw [wn_seq, wn_sAsgN, wn_eq lc]
      simp [ho, ord_cntN, c7]
      simp [sm]
      refine small_ok (n := m) (hb5.le (by omega)) fun ys hy => ⟨ys, rfl, ?_⟩
      exact ⟨rfl, ys, _, _, ⟨rfl, rfl, rfl⟩, .inr ⟨_, rfl⟩, hy⟩
    · have c7 : ¬ (s : Int) < 6 := by omega
      simp [c7]
      refine small_ok (n := m) (hb5.le (by omega)) fun ys hy => ⟨ys, rfl, ?_⟩
      exact ⟨rfl, ys, _, _, ⟨rfl, rfl, rfl⟩, .inl rfl, hy⟩
  have fin : ∀ {o : Out} {e : Env}, (o = .nx ∧ ∃ mine by_ l4 s7, e = [.bor by_, .val (.int x), .val (.int s), .val (lotD true (s : Int) mine), .val l4, .no, .no, s7, .no, .no] ∧ (s7 = .no ∨ ∃ d, s7 = .val d) ∧ Bx m by_) → o = .nx ∧ ∃ by_, fgO [1, 2, 3, 4, 5, 6, 7, 8] o e = .bor by_ :: .no :: List.replicate 8 .no ∧ Bx m by_ := fun h => by
    obtain ⟨rfl, mine, by_, l4, s7, rfl, h7, hy⟩ := h
    refine ⟨rfl, by_, ?_, hy⟩
    rcases h7 with rfl | ⟨d, rfl⟩ <;> rfl
  simp only [wn_sAsgN, wn_eIf, wn_c2, wn_var, ws_val, wn_c, x_slS, x_sl0, dEq_int, wr_ok]
  by_cases c5 : x = 5
  · subst c5
    simp only [beq_self_eq_true, if_true]
    refine lend2 (x := .int s) rfl ?_
    refine great_ok (n := m + 400) (s := s) (by omega) (by omega) (hb1.le (by omega)) fun mine b2 hL hb2 => ⟨b2, rfl, ?_⟩
    simp only [x_slS, x_sl0, x_isFix1, true_and, x_putS, x_put0, wo_nx]
    exact (rest _ mine b2 hL hb2).imp (fun o e h => fin ⟨h.1, mine, h.2⟩) fun _ _ _ z => z
  · rw [if_neg (by simpa using c5)]
    refine lend3 (x := .int s) (y := .int 4) (by simp) (by simp) ?_
    refine lot_ok (n := m + 400) (s := s) (t := 4) (by omega) (by omega) (by omega) (by decide +kernel) (hb1.le (by omega)) fun mine b2 hL hb2 => ⟨b2, rfl, ?_⟩
    simp only [x_slS, x_sl0, x_isFix1, true_and, x_putS, x_put0, wo_nx]
    exact (rest _ mine b2 hL hb2).imp (fun o e h => fin ⟨h.1, mine, h.2⟩) fun _ _ _ z => z
theorem right33 : Right LW.f_law_right := right_turns (n := 8) (c := 500) (m := 6) (by decide) (by decide) rfl fun k x bx _ _ hb => turn_ok hb
end
end AH
namespace AH
open LW PySem L2
variable [TheK]
/-! ### the count, by a table -/
def lookN : List (List Int × Nat) → List Int → Nat
  | [], _ => 0
  | (K, v) :: r, S => if K = S then v else lookN r S
def dpStep (ok : List Int → Bool) (T : List (List Int × Nat)) (S : List Int) : List (List Int × Nat) := if S = [] then T else T ++ [(S, if ok S = true then ((List.range S.length).map fun p => lookN T (S.take p ++ S.drop (p + 1))).sum else 0)]
def byLen (n : Nat) : List (List Int) := isort (fun a b => decide (a.length ≤ b.length)) (subsL n)
def dpN (ok : List Int → Bool) (n : Nat) : Nat := lookN ((byLen n).foldl (dpStep ok) [([], 1)]) (intsR 0 n)
theorem byLen_pw {n : Nat} : (byLen n).Pairwise (fun a b => a.length ≤ b.length) := by
  refine (isort_pw (fun a b c h1 h2 => ?_) (fun a b h => ?_)).imp fun h => of_decide_eq_true h
  · have := of_decide_eq_true h1
    have := of_decide_eq_true h2
    exact decide_eq_true (by omega)
  · have := of_decide_eq_false h
    exact decide_eq_true (by omega)
theorem look_map {ok : List Int → Bool} {S : List Int} : ∀ {Ks : List (List Int)}, S ∈ Ks → lookN (Ks.map fun S => (S, cntL ok S)) S = cntL ok S
  | K :: Ks, h => by
    rw [List.map_cons]
    unfold lookN
    by_cases e : K = S
    · rw [if_pos e, e]
    · rw [if_neg e]
      exact look_map ((List.mem_cons.mp h).resolve_left fun z => e z.symm)
theorem sum_placesN {S : List Int} {f : List Int → Nat} (nd : S.Nodup) : ((List.range S.length).map fun p => f (S.take p ++ S.drop (p + 1))).sum = (S.map fun h => f (without h S)).sum := by
  refine congrArg List.sum ?_
  apply List.ext_getElem
  · rw [List.length_map, List.length_map, List.length_range]
  · intro i h1 h2
    rw [List.length_map, List.length_range] at h1
    rw [List.getElem_map, List.getElem_map, List.getElem_range, without_eq nd h1]
theorem dp_fold {ok : List Int → Bool} {n : Nat} (hok : ∀ a b : List Int, a.Perm b → ok a = ok b) : ∀ {R Ks : List (List Int)}, HInv n Ks R → R.foldl (dpStep ok) (Ks.map fun S => (S, cntL ok S)) = (R.foldl addK Ks).map fun S => (S, cntL ok S)
  | [], Ks, _ => rfl
  | S :: R, Ks, h => by
    rw [List.foldl_cons, List.foldl_cons, ← dp_fold hok h.next]
    congr 1
    unfold dpStep addK
    by_cases e : S = []
    · rw [if_pos e, if_pos e]
    · rw [if_neg e, if_neg e, List.map_append]
      congr 1
      show [(S, _)] = [(S, cntL ok S)]
      have hs := (h.sub S List.mem_cons_self).1
      rw [cnt_step hok (subs_nd hs) e, ← sum_placesN (subs_nd hs)]
      have e2 : (List.range S.length).map (fun p => lookN (Ks.map fun S => (S, cntL ok S)) (S.take p ++ S.drop (p + 1))) = (List.range S.length).map fun p => cntL ok (S.take p ++ S.drop (p + 1)) := List.map_congr_left fun p hp => look_map (h.there (List.mem_range.mp hp))
      rw [e2]
theorem dp_eq {ok : List Int → Bool} {n : Nat} (h8 : n ≤ 8) (hok : ∀ a b : List Int, a.Perm b → ok a = ok b) : dpN ok n = cntL ok (intsR 0 n) := by
  have pm : (byLen n).Perm (subsL n) := isort_perm
  have init : HInv n [[]] (byLen n) := by
    refine ⟨fun S hs => .inr (pm.mem_iff.mpr hs), byLen_pw, List.mem_singleton.mpr rfl, fun S hs => ⟨pm.mem_iff.mp hs, fun ne q => ne (List.mem_singleton.mp q)⟩, pm.nodup_iff.mpr subs_nodup, ?_⟩
    rw [pm.length_eq, subs_len]
    have := Nat.pow_le_pow_right (n := 2) (by decide) h8
    simp
    omega
  have f := dp_fold (ok := ok) hok init
  have e : ([[]] : List (List Int)).map (fun S => (S, cntL ok S)) = [([], 1)] := rfl
  rw [e] at f
  unfold dpN
  rw [f]
  exact look_map (addK_mem (List.mem_singleton.mpr rfl) (.inr (pm.mem_iff.mpr subs_all)))
def eight : List Er := [((3, 3), 10000000000000000000000000000000000000000)]
def wide : List Er := [((2, 4), 10000000000000000000000000000000000000000)]
theorem dp8 : dpN (okM eight wide) 8 = 13440 := by kernel_rfl
theorem how8 : LW.f_how_many_orders [lotD true 8 eight, lotD true 8 wide] = .ok (.int 13440) [] := by
  have h1 : Lot ((8 : Nat) : Int) 10000000000000000000000000000000000000000 eight := ⟨by decide +kernel, by decide +kernel⟩
  have h2 : Lot ((8 : Nat) : Int) 10000000000000000000000000000000000000000 wide := ⟨by decide +kernel, by decide +kernel⟩
  have h := how_ok (k := true) (j := true) h1 h2 (by decide)
  unfold cW at h
  rw [← dp_eq (by decide) (fun a b h => okM_perm a b h), dp8] at h
  exact h
end AH
namespace LW
open PySem AH
variable [TheK]
def hA : List AH.DS := [
  (sAsg (eTup (aCons (eTup (aCons (eC (.int 3)) (aCons (eTup (aCons (eTup (aCons (eTup (aCons (eC (.int 0)) (aCons (eC (.int 1)) aNil))) (aCons (eC (.int 1)) aNil))) (aCons (eTup (aCons (eTup (aCons (eC (.int 1)) (aCons (eC (.int 2)) aNil))) (aCons (eC (.int 1)) aNil))) aNil))) aNil))) (aCons (eTup (aCons (eC (.int 3)) (aCons (eTup (aCons (eTup (aCons (eTup (aCons (eC (.int 0)) (aCons (eC (.int 2)) aNil))) (aCons (eC (.int 1)) aNil))) (aCons (eTup (aCons (eTup (aCons (eC (.int 1)) (aCons (eC (.int 1)) aNil))) (aCons (eC (.int 1)) aNil))) aNil))) aNil))) (aCons (e2 dPow (eC (.int 10)) (eC (.int 40))) aNil)))) (gT (gsCons (gN 0) (gsCons (gN 1) (gsCons (gN 2) gsNil))))),
  (sAsgN 3 (eLst (aCons (eTup (aCons (eC (.int 0)) (aCons (eC (.int 1)) (aCons (eC (.int 2)) aNil)))) (aCons (eTup (aCons (eC (.int 0)) (aCons (eC (.int 2)) (aCons (eC (.int 1)) aNil)))) (aCons (eTup (aCons (eC (.int 1)) (aCons (eC (.int 0)) (aCons (eC (.int 2)) aNil)))) (aCons (eTup (aCons (eC (.int 1)) (aCons (eC (.int 2)) (aCons (eC (.int 0)) aNil)))) (aCons (eTup (aCons (eC (.int 2)) (aCons (eC (.int 0)) (aCons (eC (.int 1)) aNil)))) (aCons (eTup (aCons (eC (.int 2)) (aCons (eC (.int 1)) (aCons (eC (.int 0)) aNil)))) aNil)))))))),
  (sOwn 4 (eLst (aCons c_law_by_hand_right_1 (aCons c_law_by_hand_right_2 aNil)))),
  (sAsgN 5 (eLst (aCons (eLst (aCons (eC (.bl true)) (aCons (eC (.bl false)) (aCons (eC (.bl true)) (aCons (eC (.bl true)) (aCons (eC (.bl false)) (aCons (eC (.bl true)) aNil))))))) (aCons (e2 dMul (eLst (aCons (eC (.bl true)) aNil)) (eC (.int 6))) aNil)))),
  (sOwn 4 (eAddO 4 (eLst (aCons (eCall f_how_many_orders [.e (eVar 1), .e (eVar 0)]) (aCons (eCall f_how_many_orders [.e (eVar 0), .e (eVar 1)]) (aCons (eCall f_how_many_orders [.e (eVar 0), .e (eVar 0)]) aNil)))))),
  (sAsgN 5 (e2 dAdd (eVar 5) (eLst (aCons (eC (.int 4)) (aCons (eC (.int 6)) (aCons (eC (.int 6)) aNil)))))),
  (sAsg (eTup (aCons (eTup (aCons (eC (.int 3)) (aCons (eTup (aCons (eTup (aCons (eTup (aCons (eC (.int 0)) (aCons (eC (.int 0)) aNil))) (aCons (eC (.int 1)) aNil))) aNil)) aNil))) (aCons (eTup (aCons (eC (.int 3)) (aCons (eTup (aCons (eTup (aCons (eTup (aCons (eC (.int 2)) (aCons (eC (.int 2)) aNil))) (aCons (eC (.int 1)) aNil))) aNil)) aNil))) (aCons (eTup (aCons (eC (.int 1)) (aCons (eTup (aCons (eTup (aCons (eTup (aCons (eC (.int 0)) (aCons (eC (.int 0)) aNil))) (aCons (eVar 2) aNil))) aNil)) aNil))) aNil)))) (gT (gsCons (gN 6) (gsCons (gN 7) (gsCons (gN 8) gsNil))))),
  (sOwn 4 (eAddO 4 (eLst (aCons c_law_by_hand_right_3 (aCons (eCall f_how_many_orders [.e (eVar 6), .e (eVar 7)]) aNil))))),
  (sAsgN 5 (e2 dAdd (eVar 5) (eLst (aCons (eLst (aCons (eC (.bl true)) (aCons (eC (.bl true)) (aCons (eC (.bl true)) (aCons (eC (.bl false)) (aCons (eC (.bl false)) (aCons (eC (.bl false)) aNil))))))) (aCons (eC (.int 3)) aNil))))),
  (sOwn 4 (eAddO 4 (eLst (aCons (eCall f_how_many_orders [.e (eTup (aCons (eC (.int 3)) (aCons (eTup (aCons (eTup (aCons (eTup (aCons (eC (.int 0)) (aCons (eC (.int 2)) aNil))) (aCons (eC (.int 3)) aNil))) aNil)) aNil))), .e (eVar 0)]) (aCons (eCall f_how_many_orders [.e (eTup (aCons (eC (.int 6)) (aCons (eTup aNil) aNil))), .e (eTup (aCons (eC (.int 6)) (aCons (eTup aNil) aNil)))]) (aCons (eCall f_how_many_orders [.e (eTup (aCons (eC (.int 6)) (aCons (eTup (aCons (eTup (aCons (eTup (aCons (eC (.int 0)) (aCons (eC (.int 5)) aNil))) (aCons (eC (.int 1)) aNil))) aNil)) aNil))), .e (eTup (aCons (eC (.int 6)) (aCons (eTup aNil) aNil)))]) aNil)))))),
  (sAsgN 5 (e2 dAdd (eVar 5) (eLst (aCons (eC (.int 0)) (aCons (eC (.int 720)) (aCons (eC (.int 0)) aNil)))))),
  (sPar [(9, false), (10, false)] [.e (eTup (aCons (eC (.int 8)) (aCons (eTup (aCons (eTup (aCons (eTup (aCons (eC (.int 3)) (aCons (eC (.int 3)) aNil))) (aCons (eVar 2) aNil))) aNil)) aNil))), .e (eTup (aCons (eC (.int 8)) (aCons (eTup (aCons (eTup (aCons (eTup (aCons (eC (.int 2)) (aCons (eC (.int 4)) aNil))) (aCons (eVar 2) aNil))) aNil)) aNil)))])]
def hB : List AH.DS := [
  (sAsgN 5 (e2 dAdd (eVar 5) (eLst (aCons (eC (.int 13440)) (aCons (eC (.int 720)) (aCons (eC (.int 1)) aNil)))))),
  (sOwn 4 (eAddO 4 (eLst (aCons (eCall f_never_dearer_in [.e (eVar 8), .e (eTup (aCons (eC (.int 1)) (aCons (eTup aNil) aNil))), .e (eTup (aCons (eC (.int 0)) aNil))]) (aCons (eCall f_never_dearer_in [.e (eTup (aCons (eC (.int 1)) (aCons (eTup aNil) aNil))), .e (eVar 8), .e (eTup (aCons (eC (.int 0)) aNil))]) (aCons (eCall f_how_many_orders [.e (eVar 8), .e (eTup (aCons (eC (.int 1)) (aCons (eTup aNil) aNil)))]) aNil)))))),
  (sAsgN 5 (e2 dAdd (eVar 5) (eLst (aCons (eC (.bl false)) (aCons (eC (.bl true)) (aCons (eC (.int 0)) aNil)))))),
  (sApp 4 (eCallK f_never_dearer_in [2, 1, 0] (aCons (eLst (aCons (eC (.int 0)) (aCons (eC (.int 1)) (aCons (eC (.int 2)) aNil)))) (aCons (eCall (f_law_lists 30) [.e (eVar 0)]) (aCons (eCall (f_law_lists 30) [.e (eVar 1)]) aNil))))),
  (sApp 4 (eCallK f_how_many_orders [1, 0] (aCons (eCall (f_law_lists 30) [.e (eVar 0)]) (aCons (eCall (f_law_lists 30) [.e (eVar 1)]) aNil)))),
  (sRelL 4),
  (sAsgN 5 (e2 dAdd (eVar 5) (eLst (aCons (eC (.bl true)) (aCons (eC (.int 4)) aNil)))))]
def hR13 : AH.DS := (sOwn 4 (eAddO 4 (eLst (aCons (eCall f_how_many_orders [.e (eVar 9), .e (eVar 10)]) (aCons (eCall f_how_many_orders [.e (eTup (aCons (eC (.int 6)) (aCons (e2 dIx (eVar 10) (eC (.int 1))) aNil))), .e (eTup (aCons (eC (.int 6)) (aCons (e2 dIx (eVar 9) (eC (.int 1))) aNil)))]) (aCons (eCall f_how_many_orders [.e (eVar 8), .e (eVar 8)]) aNil))))))
def hEnd : AH.DS := (sRet (eAnd (eCall (f_law_same 30) [.e (eVar 4), .e (eVar 5)]) (eCall f_law_doors_right [.e (eVar 0), .e (eVar 1), .e (eVar 8)])))
def hE1 : AH.Env := [.val (.tup [.int 3, .tup [.tup [.tup [.int 0, .int 1], .int 1], .tup [.tup [.int 1, .int 2], .int 1]]]), .val (.tup [.int 3, .tup [.tup [.tup [.int 0, .int 2], .int 1], .tup [.tup [.int 1, .int 1], .int 1]]]), .val (.int 10000000000000000000000000000000000000000), .val (.lst [.tup [.int 0, .int 1, .int 2], .tup [.int 0, .int 2, .int 1], .tup [.int 1, .int 0, .int 2], .tup [.int 1, .int 2, .int 0], .tup [.int 2, .int 0, .int 1], .tup [.int 2, .int 1, .int 0]]), .own [.lst [.bl true, .bl false, .bl true, .bl true, .bl false, .bl true], .lst [.bl true, .bl true, .bl true, .bl true, .bl true, .bl true], .int 4, .int 6, .int 6, .lst [.bl true, .bl true, .bl true, .bl false, .bl false, .bl false], .int 3, .int 0, .int 720, .int 0], .val (.lst [.lst [.bl true, .bl false, .bl true, .bl true, .bl false, .bl true], .lst [.bl true, .bl true, .bl true, .bl true, .bl true, .bl true], .int 4, .int 6, .int 6, .lst [.bl true, .bl true, .bl true, .bl false, .bl false, .bl false], .int 3, .int 0, .int 720, .int 0]), .val (.tup [.int 3, .tup [.tup [.tup [.int 0, .int 0], .int 1]]]), .val (.tup [.int 3, .tup [.tup [.tup [.int 2, .int 2], .int 1]]]), .val (.tup [.int 1, .tup [.tup [.tup [.int 0, .int 0], .int 10000000000000000000000000000000000000000]]]), .val (.tup [.int 8, .tup [.tup [.tup [.int 3, .int 3], .int 10000000000000000000000000000000000000000]]]), .val (.tup [.int 8, .tup [.tup [.tup [.int 2, .int 4], .int 10000000000000000000000000000000000000000]]]), .no]
def hE2 : AH.Env := [.val (.tup [.int 3, .tup [.tup [.tup [.int 0, .int 1], .int 1], .tup [.tup [.int 1, .int 2], .int 1]]]), .val (.tup [.int 3, .tup [.tup [.tup [.int 0, .int 2], .int 1], .tup [.tup [.int 1, .int 1], .int 1]]]), .val (.int 10000000000000000000000000000000000000000), .val (.lst [.tup [.int 0, .int 1, .int 2], .tup [.int 0, .int 2, .int 1], .tup [.int 1, .int 0, .int 2], .tup [.int 1, .int 2, .int 0], .tup [.int 2, .int 0, .int 1], .tup [.int 2, .int 1, .int 0]]), .own [.lst [.bl true, .bl false, .bl true, .bl true, .bl false, .bl true], .lst [.bl true, .bl true, .bl true, .bl true, .bl true, .bl true], .int 4, .int 6, .int 6, .lst [.bl true, .bl true, .bl true, .bl false, .bl false, .bl false], .int 3, .int 0, .int 720, .int 0, .int 13440, .int 720, .int 1], .val (.lst [.lst [.bl true, .bl false, .bl true, .bl true, .bl false, .bl true], .lst [.bl true, .bl true, .bl true, .bl true, .bl true, .bl true], .int 4, .int 6, .int 6, .lst [.bl true, .bl true, .bl true, .bl false, .bl false, .bl false], .int 3, .int 0, .int 720, .int 0]), .val (.tup [.int 3, .tup [.tup [.tup [.int 0, .int 0], .int 1]]]), .val (.tup [.int 3, .tup [.tup [.tup [.int 2, .int 2], .int 1]]]), .val (.tup [.int 1, .tup [.tup [.tup [.int 0, .int 0], .int 10000000000000000000000000000000000000000]]]), .val (.tup [.int 8, .tup [.tup [.tup [.int 3, .int 3], .int 10000000000000000000000000000000000000000]]]), .val (.tup [.int 8, .tup [.tup [.tup [.int 2, .int 4], .int 10000000000000000000000000000000000000000]]]), .no]
def hRA : AH.R AH.Out := seqs hA sNil (List.replicate 12 .no)
theorem hA_ok : hRA = .ok .nx hE1 := by kernel_rfl
def okT (r : AH.R AH.Out) : Bool := match r with
  | .ok (.rt (.bl true)) _ => true
  | _ => false
def hRB : Bool := okT (seqs hB hEnd hE2)
theorem hB_ok : hRB = true := by kernel_rfl
def hc2 : AH.R AH.D := (eCall f_how_many_orders [.e (eTup (aCons (eC (.int 6)) (aCons (e2 dIx (eVar 10) (eC (.int 1))) aNil))), .e (eTup (aCons (eC (.int 6)) (aCons (e2 dIx (eVar 9) (eC (.int 1))) aNil)))]) hE1
theorem hc2_ok : hc2 = .ok (.int 720) hE1 := by kernel_rfl
def hc3 : AH.R AH.D := (eCall f_how_many_orders [.e (eVar 8), .e (eVar 8)]) hE1
theorem hc3_ok : hc3 = .ok (.int 1) hE1 := by kernel_rfl
end LW
namespace AH
open LW PySem L2
variable [TheK]
theorem hc1_ok : (eCall LW.f_how_many_orders [.e (eVar 9), .e (eVar 10)]) hE1 = .ok (.int 13440) hE1 :=
  call_ok (args_e (x := lotD true 8 eight) rfl (args_e (x := lotD true 8 wide) rfl rfl)) rfl rfl how8 rfl
theorem r13_ok : hR13 hE1 = .ok .nx hE2 := by
  refine Wn.eq ?_
  have c2 : (eCall LW.f_how_many_orders [.e (eTup (aCons (eC (.int 6)) (aCons (e2 dIx (eVar 10) (eC (.int 1))) aNil))), .e (eTup (aCons (eC (.int 6)) (aCons (e2 dIx (eVar 9) (eC (.int 1))) aNil)))]) hE1 = .ok (.int 720) hE1 := hc2_ok
  have c3 : (eCall LW.f_how_many_orders [.e (eVar 8), .e (eVar 8)]) hE1 = .ok (.int 1) hE1 := hc3_ok
  unfold hR13
  simp only [wn_sOwn, wn_eAddO, wn_eLst, wn_aCons, wn_eq hc1_ok, wn_eq c2, wn_eq c3, wn_aNil]
  simp [hE1, hE2, dAddL, lenOk]
theorem by_hand33 : LW.f_law_by_hand_right [] = .ok (.bl true) [] := by
  have hm : LW.m_law_by_hand_right = seqs hA (sSeq hR13 (seqs hB hEnd)) := rfl
  have run : LW.m_law_by_hand_right (List.replicate 12 .no) = (sSeq hR13 (seqs hB hEnd)) hE1 := (congrFun hm _).trans (seqs_run hA_ok)
  have ob := hB_ok
  unfold hRB at ob
  obtain ⟨r, hr⟩ : ∃ r, seqs hB hEnd hE2 = r := ⟨_, rfl⟩
  rw [hr] at ob
  have fin : ∃ e, r = .ok (.rt (.bl true)) e := by
    unfold okT at ob
    split at ob
    · exact ⟨_, rfl⟩
    · cases ob
  obtain ⟨e, rfl⟩ := fin
  have step : (sSeq hR13 (seqs hB hEnd)) hE1 = .ok (.rt (.bl true)) e := by
    refine (seqs_run (l := [hR13]) (r := seqs hB hEnd) (e := hE1) (e1 := hE2) ?_).trans hr
    show sSeq hR13 sNil hE1 = _
    exact Wn.eq (by rw [wn_seq, wn_eq r13_ok]; simp)
  refine WF.eq ?_
  rw [LW.f_law_by_hand_right, wf_mkF rfl]
  show Wn LW.m_law_by_hand_right (List.replicate 12 .no) _ _
  rw [wn_eq (run.trans step)]
  simp
theorem law_true (ns : List Int) (hn : ns.length ≤ 63) : LW.f_law [.lst (ns.map D.int)] = .ok (.bl true) [] :=
  law_end (K := 35229) (by decide) (by decide) (fh := LW.f_law_by_hand_right) (fr := LW.f_law_right) by_hand33 right33 ns hn
end AH
namespace LW
open PySem PySem.Spec PyProof.Rows L2 AH
def d_law_cells : He.DefD := ⟨("_law_cells", none), "_law_cells", "_law_cells", defArgs s_law_cells, defBody s_law_cells, defScope s_law_cells, [], []⟩
def d_check_same : He.DefD := ⟨("check_same", none), "check_same", "check_same", defArgs s_check_same, defBody s_check_same, defScope s_check_same, [], []⟩
def d_check_order : He.DefD := ⟨("check_order", none), "check_order", "check_order", defArgs s_check_order, defBody s_check_order, defScope s_check_order, [], []⟩
def d_asked_ofK : He.DefD := ⟨("asked_of", none), "asked_of", "asked_of", defArgs s_asked_ofK, defBody s_asked_ofK, defScope s_asked_ofK, [], []⟩
def d_more_ofK : He.DefD := ⟨("more_of", none), "more_of", "more_of", defArgs s_more_ofK, defBody s_more_ofK, defScope s_more_ofK, [], []⟩
def d_never_dearer_in : He.DefD := ⟨("never_dearer_in", none), "never_dearer_in", "never_dearer_in", defArgs s_never_dearer_in, defBody s_never_dearer_in, defScope s_never_dearer_in, [], []⟩
def d_sets_ofE : He.DefD := ⟨("sets_of", none), "sets_of", "sets_of", defArgs s_sets_ofE, defBody s_sets_ofE, defScope s_sets_ofE, [], []⟩
def d_how_many_orders : He.DefD := ⟨("how_many_orders", none), "how_many_orders", "how_many_orders", defArgs s_how_many_orders, defBody s_how_many_orders, defScope s_how_many_orders, [], []⟩
def d_law_same : He.DefD := ⟨("_law_same", none), "_law_same", "_law_same", defArgs s_law_same, defBody s_law_same, defScope s_law_same, [], []⟩
def d_law_heard : He.DefD := ⟨("_law_heard", none), "_law_heard", "_law_heard", defArgs s_law_heard, defBody s_law_heard, defScope s_law_heard, [], []⟩
def d_law_refused : He.DefD := ⟨("_law_refused", none), "_law_refused", "_law_refused", defArgs s_law_refused, defBody s_law_refused, defScope s_law_refused, [], []⟩
def d_law_doors_right : He.DefD := ⟨("_law_doors_right", none), "_law_doors_right", "_law_doors_right", defArgs s_law_doors_right, defBody s_law_doors_right, defScope s_law_doors_right, [], []⟩
def d_law_lists : He.DefD := ⟨("_law_lists", none), "_law_lists", "_law_lists", defArgs s_law_lists, defBody s_law_lists, defScope s_law_lists, [], []⟩
def d_law_by_hand_right : He.DefD := ⟨("_law_by_hand_right", none), "_law_by_hand_right", "_law_by_hand_right", defArgs s_law_by_hand_right, defBody s_law_by_hand_right, defScope s_law_by_hand_right, [], []⟩
def d_law_made : He.DefD := ⟨("_law_made", none), "_law_made", "_law_made", defArgs s_law_made, defBody s_law_made, defScope s_law_made, [], []⟩
def d_law_spans : He.DefD := ⟨("_law_spans", none), "_law_spans", "_law_spans", defArgs s_law_spans, defBody s_law_spans, defScope s_law_spans, [], []⟩
def d_law_table : He.DefD := ⟨("_law_table", none), "_law_table", "_law_table", defArgs s_law_table, defBody s_law_table, defScope s_law_table, [], []⟩
def d_law_take : He.DefD := ⟨("_law_take", none), "_law_take", "_law_take", defArgs s_law_take, defBody s_law_take, defScope s_law_take, [], []⟩
def d_law_of : He.DefD := ⟨("_law_of", none), "_law_of", "_law_of", defArgs s_law_of, defBody s_law_of, defScope s_law_of, [], []⟩
def d_law_moved : He.DefD := ⟨("_law_moved", none), "_law_moved", "_law_moved", defArgs s_law_moved, defBody s_law_moved, defScope s_law_moved, [], []⟩
def d_law_great : He.DefD := ⟨("_law_great", none), "_law_great", "_law_great", defArgs s_law_great, defBody s_law_great, defScope s_law_great, [], []⟩
def d_law_lot : He.DefD := ⟨("_law_lot", none), "_law_lot", "_law_lot", defArgs s_law_lot, defBody s_law_lot, defScope s_law_lot, [], []⟩
def d_law_in_setK : He.DefD := ⟨("_law_in_set", none), "_law_in_set", "_law_in_set", defArgs s_law_in_setK, defBody s_law_in_setK, defScope s_law_in_setK, [], []⟩
def d_law_is_fine : He.DefD := ⟨("_law_is_fine", none), "_law_is_fine", "_law_is_fine", defArgs s_law_is_fine, defBody s_law_is_fine, defScope s_law_is_fine, [], []⟩
def d_law_orders : He.DefD := ⟨("_law_orders", none), "_law_orders", "_law_orders", defArgs s_law_orders, defBody s_law_orders, defScope s_law_orders, [], []⟩
def d_law_rows : He.DefD := ⟨("_law_rows", none), "_law_rows", "_law_rows", defArgs s_law_rows, defBody s_law_rows, defScope s_law_rows, [], []⟩
def d_law_cheapest : He.DefD := ⟨("_law_cheapest", none), "_law_cheapest", "_law_cheapest", defArgs s_law_cheapest, defBody s_law_cheapest, defScope s_law_cheapest, [], []⟩
def d_law_small_right : He.DefD := ⟨("_law_small_right", none), "_law_small_right", "_law_small_right", defArgs s_law_small_right, defBody s_law_small_right, defScope s_law_small_right, [], []⟩
def d_law_mixed : He.DefD := ⟨("_law_mixed", none), "_law_mixed", "_law_mixed", defArgs s_law_mixed, defBody s_law_mixed, defScope s_law_mixed, [], []⟩
def d_law_right : He.DefD := ⟨("_law_right", none), "_law_right", "_law_right", defArgs s_law_right, defBody s_law_right, defScope s_law_right, [], []⟩
def d_law_box : He.DefD := ⟨("_law_box", none), "_law_box", "_law_box", defArgs s_law_box, defBody s_law_box, defScope s_law_box, [], []⟩
def d_law : He.DefD := ⟨("law", none), "law", "law", defArgs s_law, defBody s_law, defScope s_law, [], []⟩
abbrev s_XNoHour : Stmt := clsAt (top 1) 0
def x_NoHour : XiD := ⟨"NoHour", "NoHour.__init__", defArgs s_XNoHour, defBody s_XNoHour, defScope s_XNoHour⟩
def fx : List XiD := [x_NoHour]
def fn : List He.DefD := [d_law_cells, d_check_same, d_check_order, d_asked_ofK, d_more_ofK, d_never_dearer_in, d_sets_ofE, d_how_many_orders, d_law_same, d_law_heard, d_law_refused, d_law_doors_right, d_law_lists, d_law_by_hand_right, d_law_made, d_law_spans, d_law_table, d_law_take, d_law_of, d_law_moved, d_law_great, d_law_lot, d_law_in_setK, d_law_is_fine, d_law_orders, d_law_rows, d_law_cheapest, d_law_small_right, d_law_mixed, d_law_right, d_law_box, d_law]
def fa : List He.Fa := [.glo "_law_cells", .glo "check_same", .glo "check_order", .glo "asked_of", .glo "more_of", .glo "never_dearer_in", .glo "sets_of", .glo "how_many_orders", .glo "_law_same", .glo "_law_heard", .glo "_law_refused", .glo "_law_doors_right", .glo "_law_lists", .glo "_law_by_hand_right", .glo "_law_made", .glo "_law_spans", .glo "_law_table", .glo "_law_take", .glo "_law_of", .glo "_law_moved", .glo "_law_great", .glo "_law_lot", .glo "_law_in_set", .glo "_law_is_fine", .glo "_law_orders", .glo "_law_rows", .glo "_law_cheapest", .glo "_law_small_right", .glo "_law_mixed", .glo "_law_right", .glo "_law_box", .glo "law", .free "ValueError", .free "abs", .free "all", .free "bool", .free "dict", .free "enumerate", .free "int", .free "isinstance", .free "len", .free "list", .free "max", .free "min", .free "range", .free "sorted", .free "str", .free "sum", .free "tuple", .free "zip", .glo "NoHour", .glo "Unfit", .glo "Unlike", .free "super"]
def xs : List Str := ["NoHour", "Unfit", "Unlike"]
abbrev tkI (K : PySem.W.Frag) : TheK := ⟨K, xs⟩
def ck (K : PySem.W.Frag) : Bool := xcB K "Unfit" && (xcB K "Unlike" && (xkB K xs "Unlike" && (xiB K PySem.Challenge.pw_anyhands_k33_orders_of_prices.main.file "LookupError" "LookupError.__new__" "LookupError.__init__" lT x_NoHour && (xmB K xs "Unfit" && (xmB K xs "Unlike" && (xvB K "NoHour" && (xvB K "Unfit" && (xvB K "Unlike" && (true)))))))))
abbrev lawR : PySem.W.OpenRow := PySem.W.OpenLaw.row PySem.Challenge.rw_anyhands_k33_orders_of_prices
abbrev hk : PySem.W.Hook := hookY 4 ck fx fa fn
def ob (s : PySem.W.SharedT) : Bool × He.AlD × List XiV := obsY 4 ck fx fa fn (HandSHeadRun.getT s)
theorem ob_eq (s : PySem.W.SharedT) : ob s = hk.obs s.abs := obsY_eq (HandSHeadRun.getT_eq s)
def names0 : List PySem.Str := ["NoHour", "Unlike", "Unfit", "check_same", "asked_of", "sets_of", "more_of", "check_order", "never_dearer_in", "how_many_orders", "_law_box", "_law_take", "_law_cells", "_law_of", "_law_lists", "_law_same", "_law_mixed", "_law_spans", "_law_lot", "_law_great", "_law_table", "_law_made", "_law_moved", "_law_cheapest", "_law_in_set", "_law_rows", "_law_heard", "_law_refused", "_law_orders", "_law_is_fine"]
def names1 : List PySem.Str := ["_law_doors_right", "_law_by_hand_right", "_law_small_right", "_law_right"]
def names : List PySem.Str := names0 ++ names1
theorem run (w : World) : HandSHeadRun.RunEq lawR (PySem.W.view lawR.prog [38]) hk ob 9000 names w := by
  intro os
  kernel_rfl
theorem facts {P : Program} {w : World} {K : PySem.W.Frag} {h : Heap} {mg : Str → Option Value} {f : Addr} (X : K.In h) (G : h.Ns mainGlobals mg) (hfa : mg ("law" : Str) = some (.ref f)) (c : He.SaysD fa fn K) (hck : ck K = true) (hfx : fx.map (xiW K) = fx.map XiD.val) (hT : (P.main.scope.names.lookup ("super" : Str)).isSome = false) (hFl : P.main.file = PySem.Challenge.pw_anyhands_k33_orders_of_prices.main.file) :
    ∃ fd : FuncData, (∀ (s : Shared) (v : Value), BindsTo s fd ⟨[v], []⟩ [("_law_script", v)]) ∧ ∀ base : Heap, K.In base → base.Ns mainGlobals mg → FnOk P w K mg base (L2.CX P w) 34 f fd p_law (@spD (tkI K) .s K n_law [.ro] f_law) := by
  letI : TheK := tkI K
  have hK : K = TheK.K := rfl
  unfold ck at hck
  obtain ⟨ck0, hck⟩ := He.ba hck
  obtain ⟨ck1, hck⟩ := He.ba hck
  obtain ⟨ck2, hck⟩ := He.ba hck
  obtain ⟨ck3, hck⟩ := He.ba hck
  obtain ⟨ck4, hck⟩ := He.ba hck
  obtain ⟨ck5, hck⟩ := He.ba hck
  obtain ⟨ck6, hck⟩ := He.ba hck
  obtain ⟨ck7, hck⟩ := He.ba hck
  obtain ⟨ck8, hck⟩ := He.ba hck
  have F_law_cells : Fu K mg "_law_cells" s_law_cells := by
    obtain ⟨fd, F⟩ := c.def_ 0 (d := d_law_cells) rfl
    exact ⟨_, fd, F, He.glo_ok X G (c.fact 0 (f := .glo "_law_cells") rfl)⟩
  have F_check_same : Fu K mg "check_same" s_check_same := by
    obtain ⟨fd, F⟩ := c.def_ 1 (d := d_check_same) rfl
    exact ⟨_, fd, F, He.glo_ok X G (c.fact 1 (f := .glo "check_same") rfl)⟩
  have F_check_order : Fu K mg "check_order" s_check_order := by
    obtain ⟨fd, F⟩ := c.def_ 2 (d := d_check_order) rfl
    exact ⟨_, fd, F, He.glo_ok X G (c.fact 2 (f := .glo "check_order") rfl)⟩
  have F_asked_ofK : Fu K mg "asked_of" s_asked_ofK := by
    obtain ⟨fd, F⟩ := c.def_ 3 (d := d_asked_ofK) rfl
    exact ⟨_, fd, F, He.glo_ok X G (c.fact 3 (f := .glo "asked_of") rfl)⟩
  have F_more_ofK : Fu K mg "more_of" s_more_ofK := by
    obtain ⟨fd, F⟩ := c.def_ 4 (d := d_more_ofK) rfl
    exact ⟨_, fd, F, He.glo_ok X G (c.fact 4 (f := .glo "more_of") rfl)⟩
  have F_never_dearer_in : Fu K mg "never_dearer_in" s_never_dearer_in := by
    obtain ⟨fd, F⟩ := c.def_ 5 (d := d_never_dearer_in) rfl
    exact ⟨_, fd, F, He.glo_ok X G (c.fact 5 (f := .glo "never_dearer_in") rfl)⟩
  have F_sets_ofE : Fu K mg "sets_of" s_sets_ofE := by
    obtain ⟨fd, F⟩ := c.def_ 6 (d := d_sets_ofE) rfl
    exact ⟨_, fd, F, He.glo_ok X G (c.fact 6 (f := .glo "sets_of") rfl)⟩
  have F_how_many_orders : Fu K mg "how_many_orders" s_how_many_orders := by
    obtain ⟨fd, F⟩ := c.def_ 7 (d := d_how_many_orders) rfl
    exact ⟨_, fd, F, He.glo_ok X G (c.fact 7 (f := .glo "how_many_orders") rfl)⟩
  have F_law_same : Fu K mg "_law_same" s_law_same := by
    obtain ⟨fd, F⟩ := c.def_ 8 (d := d_law_same) rfl
    exact ⟨_, fd, F, He.glo_ok X G (c.fact 8 (f := .glo "_law_same") rfl)⟩
  have F_law_heard : Fu K mg "_law_heard" s_law_heard := by
    obtain ⟨fd, F⟩ := c.def_ 9 (d := d_law_heard) rfl
    exact ⟨_, fd, F, He.glo_ok X G (c.fact 9 (f := .glo "_law_heard") rfl)⟩
  have F_law_refused : Fu K mg "_law_refused" s_law_refused := by
    obtain ⟨fd, F⟩ := c.def_ 10 (d := d_law_refused) rfl
    exact ⟨_, fd, F, He.glo_ok X G (c.fact 10 (f := .glo "_law_refused") rfl)⟩
  have F_law_doors_right : Fu K mg "_law_doors_right" s_law_doors_right := by
    obtain ⟨fd, F⟩ := c.def_ 11 (d := d_law_doors_right) rfl
    exact ⟨_, fd, F, He.glo_ok X G (c.fact 11 (f := .glo "_law_doors_right") rfl)⟩
  have F_law_lists : Fu K mg "_law_lists" s_law_lists := by
    obtain ⟨fd, F⟩ := c.def_ 12 (d := d_law_lists) rfl
    exact ⟨_, fd, F, He.glo_ok X G (c.fact 12 (f := .glo "_law_lists") rfl)⟩
  have F_law_by_hand_right : Fu K mg "_law_by_hand_right" s_law_by_hand_right := by
    obtain ⟨fd, F⟩ := c.def_ 13 (d := d_law_by_hand_right) rfl
    exact ⟨_, fd, F, He.glo_ok X G (c.fact 13 (f := .glo "_law_by_hand_right") rfl)⟩
  have F_law_made : Fu K mg "_law_made" s_law_made := by
    obtain ⟨fd, F⟩ := c.def_ 14 (d := d_law_made) rfl
    exact ⟨_, fd, F, He.glo_ok X G (c.fact 14 (f := .glo "_law_made") rfl)⟩
  have F_law_spans : Fu K mg "_law_spans" s_law_spans := by
    obtain ⟨fd, F⟩ := c.def_ 15 (d := d_law_spans) rfl
    exact ⟨_, fd, F, He.glo_ok X G (c.fact 15 (f := .glo "_law_spans") rfl)⟩
  have F_law_table : Fu K mg "_law_table" s_law_table := by
    obtain ⟨fd, F⟩ := c.def_ 16 (d := d_law_table) rfl
    exact ⟨_, fd, F, He.glo_ok X G (c.fact 16 (f := .glo "_law_table") rfl)⟩
  have F_law_take : Fu K mg "_law_take" s_law_take := by
    obtain ⟨fd, F⟩ := c.def_ 17 (d := d_law_take) rfl
    exact ⟨_, fd, F, He.glo_ok X G (c.fact 17 (f := .glo "_law_take") rfl)⟩
  have F_law_of : Fu K mg "_law_of" s_law_of := by
    obtain ⟨fd, F⟩ := c.def_ 18 (d := d_law_of) rfl
    exact ⟨_, fd, F, He.glo_ok X G (c.fact 18 (f := .glo "_law_of") rfl)⟩
  have F_law_moved : Fu K mg "_law_moved" s_law_moved := by
    obtain ⟨fd, F⟩ := c.def_ 19 (d := d_law_moved) rfl
    exact ⟨_, fd, F, He.glo_ok X G (c.fact 19 (f := .glo "_law_moved") rfl)⟩
  have F_law_great : Fu K mg "_law_great" s_law_great := by
    obtain ⟨fd, F⟩ := c.def_ 20 (d := d_law_great) rfl
    exact ⟨_, fd, F, He.glo_ok X G (c.fact 20 (f := .glo "_law_great") rfl)⟩
  have F_law_lot : Fu K mg "_law_lot" s_law_lot := by
    obtain ⟨fd, F⟩ := c.def_ 21 (d := d_law_lot) rfl
    exact ⟨_, fd, F, He.glo_ok X G (c.fact 21 (f := .glo "_law_lot") rfl)⟩
  have F_law_in_setK : Fu K mg "_law_in_set" s_law_in_setK := by
    obtain ⟨fd, F⟩ := c.def_ 22 (d := d_law_in_setK) rfl
    exact ⟨_, fd, F, He.glo_ok X G (c.fact 22 (f := .glo "_law_in_set") rfl)⟩
  have F_law_is_fine : Fu K mg "_law_is_fine" s_law_is_fine := by
    obtain ⟨fd, F⟩ := c.def_ 23 (d := d_law_is_fine) rfl
    exact ⟨_, fd, F, He.glo_ok X G (c.fact 23 (f := .glo "_law_is_fine") rfl)⟩
  have F_law_orders : Fu K mg "_law_orders" s_law_orders := by
    obtain ⟨fd, F⟩ := c.def_ 24 (d := d_law_orders) rfl
    exact ⟨_, fd, F, He.glo_ok X G (c.fact 24 (f := .glo "_law_orders") rfl)⟩
  have F_law_rows : Fu K mg "_law_rows" s_law_rows := by
    obtain ⟨fd, F⟩ := c.def_ 25 (d := d_law_rows) rfl
    exact ⟨_, fd, F, He.glo_ok X G (c.fact 25 (f := .glo "_law_rows") rfl)⟩
  have F_law_cheapest : Fu K mg "_law_cheapest" s_law_cheapest := by
    obtain ⟨fd, F⟩ := c.def_ 26 (d := d_law_cheapest) rfl
    exact ⟨_, fd, F, He.glo_ok X G (c.fact 26 (f := .glo "_law_cheapest") rfl)⟩
  have F_law_small_right : Fu K mg "_law_small_right" s_law_small_right := by
    obtain ⟨fd, F⟩ := c.def_ 27 (d := d_law_small_right) rfl
    exact ⟨_, fd, F, He.glo_ok X G (c.fact 27 (f := .glo "_law_small_right") rfl)⟩
  have F_law_mixed : Fu K mg "_law_mixed" s_law_mixed := by
    obtain ⟨fd, F⟩ := c.def_ 28 (d := d_law_mixed) rfl
    exact ⟨_, fd, F, He.glo_ok X G (c.fact 28 (f := .glo "_law_mixed") rfl)⟩
  have F_law_right : Fu K mg "_law_right" s_law_right := by
    obtain ⟨fd, F⟩ := c.def_ 29 (d := d_law_right) rfl
    exact ⟨_, fd, F, He.glo_ok X G (c.fact 29 (f := .glo "_law_right") rfl)⟩
  have F_law_box : Fu K mg "_law_box" s_law_box := by
    obtain ⟨fd, F⟩ := c.def_ 30 (d := d_law_box) rfl
    exact ⟨_, fd, F, He.glo_ok X G (c.fact 30 (f := .glo "_law_box") rfl)⟩
  have F_law : Fu K mg "law" s_law := by
    obtain ⟨fd, F⟩ := c.def_ 31 (d := d_law) rfl
    exact ⟨_, fd, F, He.glo_ok X G (c.fact 31 (f := .glo "law") rfl)⟩
  have g_NoHour : mg "NoHour" = some (.ref (He.ga K "NoHour")) := He.glo_ok X G (c.fact 50 (f := .glo "NoHour") rfl)
  have g_Unfit : mg "Unfit" = some (.ref (He.ga K "Unfit")) := He.glo_ok X G (c.fact 51 (f := .glo "Unfit") rfl)
  have g_Unlike : mg "Unlike" = some (.ref (He.ga K "Unlike")) := He.glo_ok X G (c.fact 52 (f := .glo "Unlike") rfl)
  have XV : ∀ c ∈ TheK.xs, XvF K c := (fun c hc => by
    have hc : c ∈ [("NoHour" : Str), ("Unfit" : Str), ("Unlike" : Str)] := hc
    simp only [List.mem_cons, List.not_mem_nil, or_false] at hc
    rcases hc with rfl | rfl | rfl
    · exact xvB_ok ck6
    · exact xvB_ok ck7
    · exact xvB_ok ck8)
  have B : Bf K mg := ⟨He.free_ok X G (c.fact 32 (f := .free "ValueError") rfl), He.free_ok X G (c.fact 33 (f := .free "abs") rfl), He.free_ok X G (c.fact 34 (f := .free "all") rfl), He.free_ok X G (c.fact 35 (f := .free "bool") rfl), He.free_ok X G (c.fact 36 (f := .free "dict") rfl), He.free_ok X G (c.fact 37 (f := .free "enumerate") rfl), He.free_ok X G (c.fact 38 (f := .free "int") rfl), He.free_ok X G (c.fact 39 (f := .free "isinstance") rfl), He.free_ok X G (c.fact 40 (f := .free "len") rfl), He.free_ok X G (c.fact 41 (f := .free "list") rfl), He.free_ok X G (c.fact 42 (f := .free "max") rfl), He.free_ok X G (c.fact 43 (f := .free "min") rfl), He.free_ok X G (c.fact 44 (f := .free "range") rfl), He.free_ok X G (c.fact 45 (f := .free "sorted") rfl), He.free_ok X G (c.fact 46 (f := .free "str") rfl), He.free_ok X G (c.fact 47 (f := .free "sum") rfl), He.free_ok X G (c.fact 48 (f := .free "tuple") rfl), He.free_ok X G (c.fact 49 (f := .free "zip") rfl), xcB_ok g_Unfit ck0, xcB_ok g_Unlike ck1, (show ("NoHour" : Str) ∈ xs by decide), (show ("Unfit" : Str) ∈ xs by decide), (show ("Unlike" : Str) ∈ xs by decide), xkB_ok g_Unlike ck2 XV, g_Unfit, xmB_ok ck4, g_Unlike, xmB_ok ck5, XV⟩
  have XAo_NoHour : ∀ base : Heap, XcA P w K mg base "NoHour" := fun base => by
    have O := xiB_ok (P := P) (K := K) (mg := mg) (d := x_NoHour) (by rw [hFl]; exact ck3) (List.map_inj_left.mp hfx x_NoHour (List.mem_of_getElem? (i := 0) rfl)) hT (He.free_ok X G (c.fact 53 (f := .free "super") rfl))
    obtain ⟨fd, FX⟩ := O.x
    refine ⟨⟨_, _, _, _, _, fd, _, xb_L, O.t, O.i, O.k, fn_xi1 xb_L O.t O.u ⟨rfl, rfl, rfl, by decide +kernel, by decide +kernel, rfl, rfl, by decide +kernel, fun x h => (show ∀ y ∈ (defScope s_XNoHour).names, y.2 = .free → y.1 = "__class__" by decide +kernel) _ (PySem.mem_of_lookup h) rfl⟩ FX rfl rfl rfl (fun env => rfl) (O.f _ (by decide)) (by decide) (by decide), FX.binds fun _ _ _ _ _ _ _ us hl => match us, hl with | [_, _], _ => rfl⟩, g_NoHour⟩
  have all : ∀ base : Heap, Kn P w K mg base .s "law" s_law n_law p_law [.ro] f_law 34 := fun base => by
    have XA_NoHour := XAo_NoHour base
    have k_law_cells := ok_law_cells (P := P) (w := w) (base := base) hK B F_law_cells
    have k_check_same := ok_check_same (P := P) (w := w) (base := base) hK B F_check_same
    have k_check_order := ok_check_order (P := P) (w := w) (base := base) hK B F_check_order
    have k_asked_ofK := ok_asked_ofK (P := P) (w := w) (base := base) hK B XA_NoHour F_asked_ofK
    have k_more_ofK := ok_more_ofK (P := P) (w := w) (base := base) hK B F_more_ofK k_asked_ofK
    have k_never_dearer_in := ok_never_dearer_in (P := P) (w := w) (base := base) hK B F_never_dearer_in k_check_same k_check_order k_more_ofK
    have k_sets_ofE := ok_sets_ofE (P := P) (w := w) (base := base) hK B F_sets_ofE
    have k_how_many_orders := ok_how_many_orders (P := P) (w := w) (base := base) hK B F_how_many_orders k_check_same k_sets_ofE k_more_ofK
    have k_law_same := ok_law_same (P := P) (w := w) (base := base) hK B F_law_same 30
    have k_law_heard := ok_law_heard (P := P) (w := w) (base := base) hK B F_law_heard k_never_dearer_in
    have k_law_refused := ok_law_refused (P := P) (w := w) (base := base) hK B F_law_refused k_how_many_orders
    have k_law_doors_right := ok_law_doors_right (P := P) (w := w) (base := base) hK B F_law_doors_right k_law_same k_law_heard k_law_refused
    have k_law_lists := ok_law_lists (P := P) (w := w) (base := base) hK B F_law_lists 30
    have k_law_by_hand_right := ok_law_by_hand_right (P := P) (w := w) (base := base) hK B F_law_by_hand_right k_never_dearer_in k_how_many_orders k_law_same k_law_doors_right k_law_lists
    have k_law_made := ok_law_made (P := P) (w := w) (base := base) hK B F_law_made
    have k_law_spans := ok_law_spans (P := P) (w := w) (base := base) hK B F_law_spans
    have k_law_table := ok_law_table (P := P) (w := w) (base := base) hK B F_law_table k_law_spans
    have k_law_take := ok_law_take (P := P) (w := w) (base := base) hK B F_law_take
    have k_law_of := ok_law_of (P := P) (w := w) (base := base) hK B F_law_of k_law_take
    have k_law_moved := ok_law_moved (P := P) (w := w) (base := base) hK B F_law_moved k_law_made k_law_table k_law_take k_law_of k_law_spans
    have k_law_great := ok_law_great (P := P) (w := w) (base := base) hK B F_law_great k_law_spans k_law_take k_law_of
    have k_law_lot := ok_law_lot (P := P) (w := w) (base := base) hK B F_law_lot k_law_spans k_law_take
    have k_law_in_setK := ok_law_in_setK (P := P) (w := w) (base := base) hK B F_law_in_setK
    have k_law_is_fine := ok_law_is_fine (P := P) (w := w) (base := base) hK B F_law_is_fine k_law_in_setK
    have k_law_orders := ok_law_orders (P := P) (w := w) (base := base) hK B F_law_orders
    have k_law_rows := ok_law_rows (P := P) (w := w) (base := base) hK B F_law_rows
    have k_law_cheapest := ok_law_cheapest (P := P) (w := w) (base := base) hK B F_law_cheapest
    have k_law_small_right := ok_law_small_right (P := P) (w := w) (base := base) hK B F_law_small_right k_law_lot k_law_moved k_law_orders k_law_same k_law_take k_how_many_orders k_law_rows k_never_dearer_in k_law_cheapest
    have k_law_mixed := ok_law_mixed (P := P) (w := w) (base := base) hK B F_law_mixed k_law_take
    have k_law_right := ok_law_right (P := P) (w := w) (base := base) hK B F_law_right k_law_moved k_law_take k_law_great k_law_lot k_law_is_fine k_law_small_right k_law_mixed k_never_dearer_in k_law_same k_law_lists k_law_orders k_how_many_orders
    have k_law_box := ok_law_box (P := P) (w := w) (base := base) hK B F_law_box
    have k_law := ok_law (P := P) (w := w) (base := base) hK B F_law k_law_cells k_law_by_hand_right k_law_right k_law_box
    exact k_law
  obtain ⟨fd, FL⟩ := c.def_ 31 (d := d_law) rfl
  have e := hfa.symm.trans (He.glo_ok X G (c.fact 31 (f := .glo "law") rfl))
  cases e
  have b := FunD.bindsA (ps := p_law) FL b_law
  refine ⟨fd, fun s v => b s [v] rfl, fun base _ _ => ?_⟩
  obtain ⟨⟨f', fd', a1, a2, a3, a4⟩, _, _⟩ := all base
  cases hfa.symm.trans a2
  obtain rfl : fd = fd' := fund_eq FL a3
  exact a1
end LW
open PySem PySem.W PySem.Calls PyProof.Rows
theorem PySem.Challenge.cw_anyhands_k33_orders_of_prices_holds : PySem.Challenge.rw_anyhands_k33_orders_of_prices.Holds := by
  w_on; o_law
  refine HandSHeadRun.head_any (r := OpenLaw.row PySem.Challenge.rw_anyhands_k33_orders_of_prices) (q := view (OpenLaw.row PySem.Challenge.rw_anyhands_k33_orders_of_prices).prog [38]) (H := LW.hk) (ob := LW.ob) (M := 9000) (loose := LW.names) (d := HandSHeadRun.topDef (OpenLaw.row PySem.Challenge.rw_anyhands_k33_orders_of_prices).prog 38) (kwd := []) LW.ob_eq
    (by kernel_rfl) (fun s => by kernel_rfl) LW.run (by kernel_rfl) (by kernel_rfl) (by kernel_rfl) (by rfl) (by first | assumption | decide +kernel) (by decide +kernel) ⟨rfl, rfl, rfl, rfl, rfl, by decide +kernel⟩ ?hw ?hc
  case hw => w_witness2
  case hc =>
    refine @AH.walk_ofW ⟨[], []⟩ PySem.Challenge.rw_anyhands_k33_orders_of_prices 63 34 _ _ _ _ _ "_law_script" rfl (by decide) (by kernel_rfl) ⟨rfl, by decide, by decide⟩ ?F
    intro w mg fa h Y G hmg0
    obtain ⟨K, KX, c, hck, hfx⟩ := Y
    have hmg : mg ("law" : PySem.Str) = some (.ref fa) := by
      have e : (HandSHeadRun.topDef (OpenLaw.row PySem.Challenge.rw_anyhands_k33_orders_of_prices).prog 38).name = ("law" : PySem.Str) := by kernel_rfl
      rw [← e]
      exact hmg0
    obtain ⟨fd, hb, hF⟩ := LW.facts (P := (PySem.Challenge.rw_anyhands_k33_orders_of_prices).prog) (w := w) KX G hmg c hck hfx (by kernel_rfl) rfl
    exact ⟨K, fd, @AH.spD (LW.tkI K) .s K LW.n_law [.ro] LW.f_law, KX, hb, fun H a ns hl _ hS => @AH.law_sp (LW.tkI K) _ _ _ _ _ _ hS (by decide) (@AH.law_true (LW.tkI K) ns hl), hF⟩
