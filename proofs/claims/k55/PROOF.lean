import PyProof.Rows.All
import Wide.All
import OpenK.AllK
import Wide.FinOn
import HandS.ForMost
import HandS.TupLe
import HandS.HeadHook1
import HandS.Exc
import HandS.Slots
import HandS.SlotsOwn
import HandS.Wide
import HandS.TupAny
import HandS.TupMul
import HandS.Deep
import HandS.Flow
import HandS.Style
import HandS.Conv
import HandS.IsInst
import HandS.NoneIn
import HandS.Zip
import HandS.Walk
import HandS.ExcOwn
import HandS.Defaults
import KE.KRevSl
import HandS.More
import HandS.Words
import HandS.ExcIs
import HandS.ExcField
import HandS.ExcValue
import KE.KExcIs
import KE.GoesMore
import HandS.HeadEnd
import HandS.HeadHook2
import HandS.ExcInit
import KE.KSuper
import KE.KExcSuper
import KE.KTupSum
import HandS.Sort
import KE.KDictPairs
import KE.SortData
import KE.KDictCopyH
import KE.KDictSum
import HandS.Star
import KE.GoesEnum
import KE.KDictZip
import KE.KDictItemsList
import HandS.ListItems
import HandS.DictComp
import HandS.SetFor
import KE.DataMinMax
import HandS.Strs
import KE.KDictWalk
import HandS.CallSlots
import KE.SortKeyHeap
import HandS.SortKw
import HandS.Text
import HandS.StrSplit
import HandS.Iter
import HandS.TupSets
import HandS.TryOnly
import PyProof.Rows.StrMeet
import HandS.Dict
import KE.KIntText
import PyProof.Rows.StrSplitJoin
import PyProof.Rows.StrSplitAre
import PyProof.StrLawsTight
import KE.KStateDown
import HandS.Head0
import HandS.Head1
import HandS.Head2
import HandS.WordsExc
import PySem.Challenge.RW_anyhands_k55_what_is_no_such_text
set_option Elab.async false
set_option linter.all false
set_option maxRecDepth 100000
set_option maxHeartbeats 0
/-! A layer of data over the hand layer: values as trees, a small semantics of defs in plain Lean. -/
namespace AH
open PySem L2
/-- data -/
inductive D where
  | non | bl (b : Bool) | int (i : Int) | str (s : Str) | tup (xs : List D) | lst (xs : List D)
  | dic (kvs : List (List Key × D)) | exc (c : Str) (ns : List Str) (fs : List D) | obj (c : Str)
/-! Python, == of plain data -/
mutual
def D.eqv : D → D → Bool
  | .non, .non => true
  | .bl a, .bl b => a == b
  | .bl a, .int b => (if a then 1 else 0) == b
  | .int a, .bl b => a == (if b then 1 else 0)
  | .int a, .int b => a == b
  | .str a, .str b => a == b
  | .tup a, .tup b => D.eqvL a b
  | .lst a, .lst b => D.eqvL a b
  | _, _ => false
def D.eqvL : List D → List D → Bool
  | [], [] => true
  | a :: as, b :: bs => D.eqv a b && D.eqvL as bs
  | _, _ => false
end
/-! plain data of at most so many levels: none, bools, ints, texts, lists, tuples -/
mutual
def D.plain : Nat → D → Bool
  | _, .non => true
  | _, .bl _ => true
  | _, .int _ => true
  | _, .str s => PySem.PyData.strOk s
  | n + 1, .tup xs => D.plainL n xs
  | n + 1, .lst xs => D.plainL n xs
  | _, _ => false
def D.plainL : Nat → List D → Bool
  | _, [] => true
  | n, x :: xs => D.plain n x && D.plainL n xs
end
/-- a slot of a def's frame -/
inductive Sl where
  | no | val (d : D) | ro (d : D) | own (xs : List D) | bor (xs : List D) | odc (kvs : List (List Key × D)) | ldc (kvs : List (List Key × D))
abbrev Env := List Sl
def sl : Env → Nat → Sl
  | [], _ => .no
  | x :: _, 0 => x
  | _ :: r, n + 1 => sl r n
def put : Env → Nat → Sl → Env
  | [], _, _ => []
  | _ :: r, 0, y => y :: r
  | x :: r, n + 1, y => x :: put r n y
/-- what comes of running: a value and the frame; an exception of a class with its fields; nothing known -/
inductive R (α : Type) where
  | ok (a : α) (e : Env) | ex (c : Str) (fs : List D) (e : Env) | bad
abbrev M (α : Type) := Env → R α
def M.bind {α β : Type} (m : M α) (f : α → M β) : M β := fun e => match m e with
  | .ok a e1 => f a e1
  | .ex c fs e1 => .ex c fs e1
  | .bad => .bad
def M.pure {α : Type} (a : α) : M α := fun e => .ok a e
/-- a plain outcome -/
inductive Rv (α : Type) where
  | ok (a : α) | bad
def M.of {α : Type} : Rv α → M α
  | .ok a => M.pure a
  | .bad => fun _ => .bad
abbrev DE := M D
abbrev DT := M Bool
abbrev DL := M (List D)
/-- what a statement comes to -/
inductive Out where
  | nx | rt (d : D) | bk | ct
abbrev DS := M Out
/-! ### names, constants -/
def eVar (i : Nat) : DE := fun e => match sl e i with
  | .val d => .ok d e
  | _ => .bad
/-- a name whose object may be the frame's own, just looked at -/
def eTmp (i : Nat) : DE := fun e => match sl e i with
  | .val d => .ok d e
  | .ro d => .ok d e
  | .own xs => .ok (.lst xs) e
  | .bor xs => .ok (.lst xs) e
  | .odc kvs => .ok (.dic kvs) e
  | .ldc kvs => .ok (.dic kvs) e
  | .no => .bad
def eC (d : D) : DE := M.pure d
/-! ### operators -/
def e2 (f : D → D → Rv D) (a b : DE) : DE := a.bind fun x => b.bind fun y => M.of (f x y)
def e1 (f : D → Rv D) (a : DE) : DE := a.bind fun x => M.of (f x)
def mulOk (i j : Int) : Bool := decide (i.natAbs.log2 + j.natAbs.log2 < 1000000) || (decide (i.natAbs < 2 ^ 64) || decide (j.natAbs < 2 ^ 64))
def divOk (j : Int) : Bool := decide (0 < j) && decide (j.natAbs.log2 < 9000)
def powOk (i j : Int) : Bool := decide (0 ≤ j) && decide (j ≤ 1000000) && decide (i.natAbs < 2 ^ 64)
def lenOk (n : Nat) : Bool := decide (n ≤ 100000)
def dAdd : D → D → Rv D
  | .int i, .int j => .ok (.int (i + j))
  | .lst a, .lst b => if lenOk (a.length + b.length) then .ok (.lst (a ++ b)) else .bad
  | .tup a, .tup b => if lenOk (a.length + b.length) then .ok (.tup (a ++ b)) else .bad
  | .str a, .str b => if lenOk (a.length + b.length) then .ok (.str (a ++ b)) else .bad
  | _, _ => .bad
def rep {α : Type} (xs : List α) (k : Int) : List α := (List.replicate k.toNat xs).flatten
def dMul : D → D → Rv D
  | .int i, .int j => if mulOk i j then .ok (.int (i * j)) else .bad
  | .lst a, .int k => if lenOk k.natAbs && lenOk (a.length * k.toNat) then .ok (.lst (rep a k)) else .bad
  | .tup a, .int k => if (decide (1 ≤ k) && decide (k ≤ 1000)) && (decide (0 < a.length) && decide (a.length ≤ 1000)) then .ok (.tup (rep a k)) else .bad
  | _, _ => .bad
def dDiv : D → D → Rv D
  | .int i, .int j => if divOk j then .ok (.int (i / j)) else .bad
  | _, _ => .bad
def dMod : D → D → Rv D
  | .int i, .int j => if decide (0 < j) then .ok (.int (i % j)) else .bad
  | _, _ => .bad
def dPow : D → D → Rv D
  | .int i, .int j => if powOk i j then .ok (.int (i ^ j.toNat)) else .bad
  | _, _ => .bad
def dNeg : D → Rv D
  | .int i => .ok (.int (-i))
  | _ => .bad
/-! ### comparisons -/
def dEq (x y : D) : Rv Bool := if x.plain 40 && y.plain 40 then .ok (x.eqv y) else .bad
def dNe (x y : D) : Rv Bool := if x.plain 40 && y.plain 40 then .ok (!x.eqv y) else .bad
/-- tuples of ints -/
def intsL : List D → Option (List Int)
  | [] => some []
  | .int i :: r => (intsL r).map (i :: ·)
  | _ :: _ => none
def dLt : D → D → Rv Bool
  | .int i, .int j => .ok (decide (i < j))
  | .tup a, .tup b => (match intsL a, intsL b with
    | some ns, some ms => .ok (HT.lexLt ns ms)
    | _, _ => .bad)
  | _, _ => .bad
def dLe : D → D → Rv Bool
  | .int i, .int j => .ok (decide (i ≤ j))
  | .tup a, .tup b => (match intsL a, intsL b with
    | some ns, some ms => .ok (L2.lexLeI ns ms)
    | _, _ => .bad)
  | _, _ => .bad
def dGt : D → D → Rv Bool
  | .int i, .int j => .ok (decide (j < i))
  | _, _ => .bad
def dGe : D → D → Rv Bool
  | .int i, .int j => .ok (decide (j ≤ i))
  | _, _ => .bad
def dIsN (x : D) : Bool := match x with
  | .non => true
  | _ => false
def keyI : D → Option Key
  | .int i => some (.inl i)
  | .str s => some (.inr s)
  | _ => none
def keysL : List D → Option (List Key)
  | [] => some []
  | x :: r => (match keyI x, keysL r with
    | some k, some ks => some (k :: ks)
    | _, _ => none)
def keyD : D → Option (List Key)
  | .tup xs => keysL xs
  | _ => none
def dget (kvs : List (List Key × D)) (k : List Key) : Option D := (kvs.find? fun p => decide (p.1 = k)).map (·.2)
def dput (kvs : List (List Key × D)) (k : List Key) (v : D) : List (List Key × D) :=
  if (kvs.any fun p => decide (p.1 = k)) then kvs.map fun p => if p.1 = k then (p.1, v) else p else kvs ++ [(k, v)]
def dIn (x : D) : D → Rv Bool
  | .lst ys => if x.plain 40 && D.plainL 39 ys then .ok (ys.any fun y => y.eqv x) else .bad
  | .tup ys => if x.plain 40 && D.plainL 39 ys then .ok (ys.any fun y => y.eqv x) else .bad
  | .dic kvs => (match keyD x with
    | some k => .ok (dget kvs k).isSome
    | none => .bad)
  | _ => .bad
def c2 (f : D → D → Rv Bool) (a b : DE) : DT := a.bind fun x => b.bind fun y => M.of (f x y)
def eB (t : DT) : DE := t.bind fun b => M.pure (.bl b)
/-- a value that is a bool, as a test -/
def tV (a : DE) : DT := a.bind fun x => match x with
  | .bl b => M.pure b
  | _ => fun _ => .bad
def tNot (a : DT) : DT := a.bind fun b => M.pure (!b)
def tAnd (a b : DT) : DT := a.bind fun x => if x then b else M.pure false
def tOr (a b : DT) : DT := a.bind fun x => if x then M.pure true else b
def tIsN (a : DE) : DT := a.bind fun x => M.pure (dIsN x)
def tNotN (a : DE) : DT := a.bind fun x => M.pure (!dIsN x)
/-- a < b < c: the middle once -/
def c3 (f g : D → D → Rv Bool) (a b c : DE) : DT := a.bind fun x => b.bind fun y => (M.of (f x y)).bind fun k => if k then c.bind fun z => M.of (g y z) else M.pure false
def c4 (f g h : D → D → Rv Bool) (a b c d : DE) : DT := a.bind fun x => b.bind fun y => (M.of (f x y)).bind fun k => if k then c.bind fun z => (M.of (g y z)).bind fun l => if l then d.bind fun u => M.of (h z u) else M.pure false else M.pure false
def eIf (t : DT) (a b : DE) : DE := t.bind fun k => if k then a else b
/-- and, or of bools as values -/
def eAnd (a b : DE) : DE := (tV a).bind fun k => if k then b else M.pure (.bl false)
def eNot (a : DE) : DE := (tV a).bind fun k => M.pure (.bl (!k))
def truth : D → Rv Bool
  | .bl b => .ok b
  | .non => .ok false
  | .int i => .ok (i != 0)
  | .lst xs => .ok (!xs.isEmpty)
  | .tup xs => .ok (!xs.isEmpty)
  | _ => .bad
/-- x or y by truth -/
def eOrT (a b : DE) : DE := a.bind fun x => (M.of (truth x)).bind fun k => if k then M.pure x else b
/-- the left one a name whose object is looked at behind the right one -/
def e2L (f : D → D → Rv D) (i : Nat) (b : DE) : DE := (eTmp i).bind fun _ => b.bind fun y => (eTmp i).bind fun x => M.of (f x y)
def c2L (f : D → D → Rv Bool) (i : Nat) (b : DE) : DT := (eTmp i).bind fun _ => b.bind fun y => (eTmp i).bind fun x => M.of (f x y)
/-! ### displays, items, slices -/
def aNil : DL := M.pure []
def aCons (a : DE) (r : DL) : DL := a.bind fun x => r.bind fun xs => M.pure (x :: xs)
def eTup (a : DL) : DE := a.bind fun xs => if lenOk xs.length then M.pure (.tup xs) else fun _ => .bad
def eLst (a : DL) : DE := a.bind fun xs => if lenOk xs.length then M.pure (.lst xs) else fun _ => .bad
def dIx : D → D → Rv D
  | .lst xs, .int i => (match atI xs i with
    | some v => .ok v
    | none => .bad)
  | .tup xs, .int i => (match atI xs i with
    | some v => .ok v
    | none => .bad)
  | .dic kvs, k => (match keyD k with
    | some k => (match dget kvs k with
      | some v => .ok v
      | none => .bad)
    | none => .bad)
  | _, _ => .bad
def cut {α : Type} (xs : List α) (lo hi : Option Int) : List α := (xs.drop (HT.sIx xs.length 0 lo)).take (HT.sIx xs.length xs.length hi - HT.sIx xs.length 0 lo)
def dSl (x : D) (lo hi : Option Int) : Rv D := match x with
  | .lst xs => .ok (.lst (cut xs lo hi))
  | .tup xs => .ok (.tup (cut xs lo hi))
  | _ => .bad
abbrev DO := M (Option Int)
def oNone : DO := M.pure none
def oSome (a : DE) : DO := a.bind fun x => match x with
  | .int i => M.pure (some i)
  | _ => fun _ => .bad
def eSl (a : DE) (lo hi : DO) : DE := a.bind fun x => lo.bind fun l => hi.bind fun h => M.of (dSl x l h)
/-! ### built-in functions of one value, of two -/
def dLen : D → Rv D
  | .lst xs => .ok (.int xs.length)
  | .tup xs => .ok (.int xs.length)
  | _ => .bad
def dAbs : D → Rv D
  | .int i => .ok (.int (if i < 0 then -i else i))
  | _ => .bad
def dInt : D → Rv D
  | .int i => .ok (.int i)
  | .bl b => .ok (.int (if b then 1 else 0))
  | _ => .bad
def bools : List D → Option (List Bool)
  | [] => some []
  | .bl i :: r => (bools r).map (i :: ·)
  | _ :: _ => none
def dAll : D → Rv D
  | .lst xs => (match bools xs with
    | some bs => .ok (.bl (bs.all id))
    | none => .bad)
  | _ => .bad
def dAny : D → Rv D
  | .lst xs => (match bools xs with
    | some bs => .ok (.bl (bs.any id))
    | none => .bad)
  | _ => .bad
def dTuple : D → Rv D
  | .lst xs => .ok (.tup xs)
  | .tup xs => .ok (.tup xs)
  | _ => .bad
def dList : D → Rv D
  | .lst xs => .ok (.lst xs)
  | .tup xs => .ok (.lst xs)
  | _ => .bad
/-! ### what is walked -/
abbrev DI := M (List D)
def rng (a b : Int) : List D := (List.range (b - a).toNat).map fun i => D.int (a + (i : Nat))
def rngOk (a b : Int) : Bool := decide (-(2 ^ 62) ≤ a) && decide (a < 2 ^ 62) && decide (-(2 ^ 62) ≤ b) && decide (b < 2 ^ 62)
def iSeq (a : DE) : DI := a.bind fun x => match x with
  | .lst xs => M.pure xs
  | .tup xs => M.pure xs
  | _ => fun _ => .bad
def iRng1 (a : DE) : DI := a.bind fun x => match x with
  | .int j => if rngOk 0 j then M.pure (rng 0 j) else fun _ => .bad
  | _ => fun _ => .bad
def iRng2 (a b : DE) : DI := a.bind fun x => b.bind fun y => match x, y with
  | .int i, .int j => if rngOk i j then M.pure (rng i j) else fun _ => .bad
  | _, _ => fun _ => .bad
def pairs (xs ys : List D) : List D := (xs.zip ys).map fun p => .tup [p.1, p.2]
/-! ### targets -/
abbrev DG := D → M Unit
def isOwn : Sl → Bool
  | .own _ => true
  | .bor _ => true
  | .odc _ => true
  | .ldc _ => true
  | _ => false
def gN (i : Nat) : DG := fun d e => if isOwn (sl e i) then .bad else .ok () (put e i (.val d))
abbrev DGs := List D → M Unit
def gsNil : DGs := fun xs => match xs with
  | [] => M.pure ()
  | _ => fun _ => .bad
def gsCons (g : DG) (r : DGs) : DGs := fun xs => match xs with
  | x :: xs => (g x).bind fun _ => r xs
  | [] => fun _ => .bad
def gT (r : DGs) : DG := fun d => match d with
  | .tup xs => r xs
  | .lst xs => r xs
  | _ => fun _ => .bad
/-! ### statements -/
def sNil : DS := M.pure .nx
def sSeq (a b : DS) : DS := a.bind fun o => match o with
  | .nx => b
  | o => M.pure o
def sAsg (a : DE) (g : DG) : DS := a.bind fun x => (g x).bind fun _ => M.pure .nx
def isFix : Sl → Bool
  | .bor _ => true
  | .ldc _ => true
  | _ => false
/-- a new list kept as the frame's own -/
def sOwn (i : Nat) (a : DE) : DS := a.bind fun x => match x with
  | .lst xs => fun e => if isFix (sl e i) || !decide (i < e.length) then .bad else .ok .nx (put e i (.own xs))
  | _ => fun _ => .bad
/-- the frame's own list is let go: a value from now on -/
def sRelL (i : Nat) : DS := fun e => match sl e i with
  | .own xs => .ok .nx (put e i (.val (.lst xs)))
  | _ => .bad
def sIf (t : DT) (a b : DS) : DS := t.bind fun k => if k then a else b
def sRet (a : DE) : DS := a.bind fun x => M.pure (.rt x)
/-- the slot holds a list of the frame's own (lent or not), its items -/
def ownL (i : Nat) : M (List D) := fun e => match sl e i with
  | .own xs => .ok xs e
  | .bor xs => .ok xs e
  | _ => .bad
def putL (e : Env) (i : Nat) (ys : List D) : Env := put e i (match sl e i with
  | .own _ => .own ys
  | .bor _ => .bor ys
  | s => s)
def sApp (i : Nat) (a : DE) : DS := (ownL i).bind fun _ => a.bind fun x => (ownL i).bind fun xs => fun e =>
  if lenOk (xs.length + 1) then .ok .nx (putL e i (xs ++ [x])) else .bad
/-- xs[j] = v: the value first -/
def sSetL (i : Nat) (j : DE) (a : DE) : DS := a.bind fun x => (ownL i).bind fun _ => j.bind fun k => (ownL i).bind fun xs => match k with
  | .int k => (match ixN xs.length k with
    | some n => fun e => .ok .nx (putL e i (xs.set n x))
    | none => fun _ => .bad)
  | _ => fun _ => .bad
/-- a loop's turns -/
def loop (g : DG) (b : DS) : List D → DS
  | [] => M.pure .nx
  | x :: xs => (g x).bind fun _ => b.bind fun o => match o with
    | .nx => loop g b xs
    | .ct => loop g b xs
    | .bk => M.pure .nx
    | .rt d => M.pure (.rt d)
def sFor (it : DI) (g : DG) (b : DS) : DS := it.bind fun xs => loop g b xs
/-! ### comprehensions -/
def wipeE (e : Env) : List Nat → Env
  | [] => e
  | v :: vs => put (wipeE e vs) v .no
/-- the slots vs as they were -/
def back (e0 e : Env) : List Nat → Env
  | [] => e
  | v :: vs => put (back e0 e vs) v (sl e0 v)
def noX {α : Type} (m : M α) : M α := fun e => match m e with
  | .ex _ _ _ => .bad
  | r => r
def compL (vs : List Nat) (e0 : Env) (g : DG) (t : DT) (a : DE) : List D → M (List D)
  | [] => M.pure []
  | x :: xs => fun e => ((g x).bind fun _ => t.bind fun k =>
      (if k then a.bind fun y => M.pure [y] else M.pure []).bind fun ys =>
      fun e1 => ((compL vs e0 g t a xs).bind fun zs => M.pure (ys ++ zs)) (wipeE e1 vs)) e
def eLc (vs : List Nat) (it : DI) (g : DG) (t : DT) (a : DE) : DE := it.bind fun xs => fun e =>
  if (vs.any fun v => isOwn (sl e v)) || !lenOk xs.length then .bad else
  match noX (compL vs e g t a xs) (wipeE e vs) with
  | .ok ys e1 => .ok (.lst ys) (back e e1 vs)
  | _ => .bad
def tYes : DT := M.pure true
/-! ### defs -/
inductive Md where
  | val | ro | bor
  deriving DecidableEq
/-- an argument: an expression; a name's own object that is lent (to be changed); .. that is looked at -/
inductive Arg where
  | e (a : DE) | lend (i : Nat) | look (i : Nat) | new (a : DE)
/-- a def: from the arguments' data to its answer and the lent lists' new items -/
inductive Rf where
  | ok (d : D) (bs : List (List D)) | ex (c : Str) (fs : List D) (bs : List (List D)) | bad
abbrev DF := List D → Rf
def startE : List Md → List D → Env
  | .val :: ms, d :: ds => .val d :: startE ms ds
  | .ro :: ms, d :: ds => .ro d :: startE ms ds
  | .bor :: ms, .lst xs :: ds => .bor xs :: startE ms ds
  | _, _ => []
def lentOf : List Md → Env → Option (List (List D))
  | .bor :: ms, .bor xs :: e => (lentOf ms e).map (xs :: ·)
  | .bor :: _, _ => none
  | _ :: ms, _ :: e => lentOf ms e
  | _ :: _, [] => none
  | [], _ => some []
def lstsOk : List Md → List D → Bool
  | .bor :: ms, .lst _ :: ds => lstsOk ms ds
  | .bor :: _, _ => false
  | _ :: ms, _ :: ds => lstsOk ms ds
  | [], [] => true
  | _, _ => false
/-- a def of n slots, its parameters' ways, its body -/
def mkF (n : Nat) (ms : List Md) (b : DS) : DF := fun ds =>
  if !lstsOk ms ds then .bad else
  match b (startE ms ds ++ List.replicate (n - ms.length) .no) with
  | .ok (.rt d) e => (match lentOf ms e with
    | some bs => .ok d bs
    | none => .bad)
  | .ok .nx e => (match lentOf ms e with
    | some bs => .ok .non bs
    | none => .bad)
  | .ok _ _ => .bad
  | .ex c fs e => (match lentOf ms e with
    | some bs => .ex c fs bs
    | none => .bad)
  | .bad => .bad
/-- the arguments from the left; a lent name is read behind all of them -/
def argsV : List Arg → M (List (D ⊕ Nat))
  | [] => M.pure []
  | .e a :: r => a.bind fun x => (argsV r).bind fun xs => M.pure (.inl x :: xs)
  | .lend i :: r => (eTmp i).bind fun _ => (argsV r).bind fun xs => M.pure (.inr i :: xs)
  | .look i :: r => (eTmp i).bind fun _ => (argsV r).bind fun xs => M.pure (.inr i :: xs)
  | .new a :: r => a.bind fun x => (argsV r).bind fun xs => M.pure (.inl x :: xs)
def slD : Sl → Option D
  | .own xs => some (.lst xs)
  | .bor xs => some (.lst xs)
  | .odc kvs => some (.dic kvs)
  | .ldc kvs => some (.dic kvs)
  | .ro d => some d
  | .val d => some d
  | .no => none
def argD (e : Env) : D ⊕ Nat → Option D
  | .inl d => some d
  | .inr i => slD (sl e i)
def argsD (e : Env) : List (D ⊕ Nat) → Option (List D)
  | [] => some []
  | x :: r => (match argD e x, argsD e r with
    | some d, some ds => some (d :: ds)
    | _, _ => none)
def lends : List Arg → List Nat
  | [] => []
  | .lend i :: r => i :: lends r
  | _ :: r => lends r
def looks : List Arg → List Nat
  | [] => []
  | .look i :: r => i :: looks r
  | _ :: r => looks r
/-- no object twice -/
def argsOk (as : List Arg) : Bool := decide (lends as).Nodup && (looks as).all fun i => !(lends as).contains i
def isL : Sl → Bool
  | .own _ => true
  | .bor _ => true
  | _ => false
def giveBack : List Arg → List (List D) → Env → Option Env
  | .lend i :: r, xs :: bs, e => giveBack r bs (putL e i xs)
  | .lend _ :: _, [], _ => none
  | .new _ :: r, _ :: bs, e => giveBack r bs e
  | .new _ :: _, [], _ => none
  | _ :: r, bs, e => giveBack r bs e
  | [], [], e => some e
  | [], _ :: _, _ => none
def eCall (f : DF) (as : List Arg) : DE := fun e => match argsV as e with
  | .ok vs e1 => if !(lends as).all (fun i => isL (sl e1 i)) then .bad else (match argsD e1 vs with
    | some ds => (match f ds with
      | .ok d bs => (match giveBack as bs e1 with
        | some e2 => .ok d e2
        | none => .bad)
      | .ex c fs bs => (match giveBack as bs e1 with
        | some e2 => .ex c fs e2
        | none => .bad)
      | .bad => .bad)
    | none => .bad)
  | .ex c fs e1 => .ex c fs e1
  | .bad => .bad
end AH
namespace AH
open PySem PySem.Spec PyProof.Rows L2
abbrev Pr := Addr → Prop
/-- the text's own fragment -/
class TheK where
  K : PySem.W.Frag
  xs : List Str
variable [TheK]
/-- a class of the text whose instances are just looked at -/
structure ObjF (K : PySem.W.Frag) (C : Addr) : Prop where
  sc : SlX.SCls K C
  si : SlX.SIsi K C
  no : ∀ n ∈ ["int", "bool", "str", "list", "tuple", "dict"], PySem.W.kitOne K (.ref C) (.type n) = some false
def fieldsOf (c : Str) : List Str :=
  if c = "NoStretch" then ["first", "last"] else if c = "TooFew" then ["first", "last"] else if c = "NoHour" then ["hour"] else if c = "NoMove" then ["move"] else if c = "BadLine" then ["number"] else []
/-- a caught exception that is kept: its class, its dict -/
def CgO (cls : Value) (d : Option Addr) (a : Addr) : HO := .ext fun h => ∃ (oe : Obj) (vs : Array Value), h.get? a = some oe ∧ Zc cls d oe ∧ oe.data = .fields vs
/-! ### data in the heap -/
mutual
inductive Rep [TheK] (O : Pr) (H : Hp) : V → D → Prop
  | non : Rep O H .non .non
  | bl (b : Bool) : Rep O H (.bl b) (.bl b)
  | int (i : Int) : Rep O H (.int i) (.int i)
  | str (s : Str) : Rep O H (.str s) (.str s)
  | tup {a : Addr} {vs : List V} {xs : List D} : ¬ O a → H a = some (.tup vs) → RepL O H vs xs → Rep O H (.ref a) (.tup xs)
  | lst {a : Addr} {vs : List V} {xs : List D} : ¬ O a → H a = some (.lst vs) → RepL O H vs xs → Rep O H (.ref a) (.lst xs)
  | dic {a : Addr} {ks : List (List Key × V)} {kvs : List (List Key × D)} : ¬ O a → H a = some (.dT ks) → RepK O H ks kvs → Rep O H (.ref a) (.dic kvs)
  | obj {a dx C : Addr} {vs : List (Option V)} {c : Str} : ¬ O a → ¬ O dx → H a = some (SlX.SlO a C dx vs) → H dx = some (.xd []) → ObjF TheK.K C → Rep O H (.ref a) (.obj c)
  | exc {a : Addr} {dd : Option Addr} {c : Str} {fs : List D} {vs : List V} : ¬ O a → c ∈ TheK.xs → H a = some (CgO (.ref (He.ga TheK.K c)) dd a) → (dd = none → vs = []) → (∀ d, dd = some d → ¬ O d ∧ H d = some (.xd ((fieldsOf c).zip vs)) ∧ vs.length = (fieldsOf c).length) → RepL O H vs fs → Rep O H (.ref a) (.exc c [] fs)
inductive RepL [TheK] (O : Pr) (H : Hp) : List V → List D → Prop
  | nil : RepL O H [] []
  | cons {v : V} {d : D} {vs : List V} {ds : List D} : Rep O H v d → RepL O H vs ds → RepL O H (v :: vs) (d :: ds)
inductive RepK [TheK] (O : Pr) (H : Hp) : List (List Key × V) → List (List Key × D) → Prop
  | nil : RepK O H [] []
  | cons {k : List Key} {v : V} {d : D} {vs : List (List Key × V)} {ds : List (List Key × D)} : Rep O H v d → RepK O H vs ds → RepK O H ((k, v) :: vs) ((k, d) :: ds)
end
/-- what is not in W stays, and what is there is there -/
structure Ke (W : Pr) (H H' : Hp) : Prop where
  stay : ∀ a o, ¬ W a → H a = some o → H' a = some o
  there : ∀ a, H a ≠ none → H' a ≠ none
theorem Ke.refl {W : Pr} {H : Hp} : Ke W H H := ⟨fun _ _ _ h => h, fun _ h => h⟩
theorem Ke.trans {W : Pr} {H H1 H2 : Hp} (a : Ke W H H1) (b : Ke W H1 H2) : Ke W H H2 :=
  ⟨fun x o n h => b.stay x o n (a.stay x o n h), fun x h => b.there x (a.there x h)⟩
theorem Ke.new {W : Pr} {H : Hp} {p : Addr} {o : HO} (h : H p = none) : Ke W H (upd H p o) := by
  refine ⟨fun a u _ e => ?_, fun a e => ?_⟩
  · rw [upd_ne (ne_of_none e h)]; exact e
  · by_cases q : a = p
    · subst q; exact absurd h e
    · rw [upd_ne q]; exact e
theorem Ke.mut {W : Pr} {H : Hp} {p : Addr} {o : HO} (h : W p) : Ke W H (upd H p o) := by
  refine ⟨fun a u n e => ?_, fun a e => ?_⟩
  · have q : a ≠ p := fun z => n (z ▸ h)
    rw [upd_ne q]; exact e
  · by_cases q : a = p
    · subst q; rw [upd_same]; simp
    · rw [upd_ne q]; exact e
theorem Ke.imp {W W' : Pr} {H H' : Hp} (a : Ke W H H') (h : ∀ x, W x → H x ≠ none → W' x) : Ke W' H H' :=
  ⟨fun x o n e => a.stay x o (fun z => n (h x z (by rw [e]; simp))) e, a.there⟩
theorem al_of {H : Hp} {a : Addr} {u : HO} (r : H a = some u) : H a ≠ none := by rw [r]; simp
mutual
theorem Rep.ke {W W' : Pr} {H H' : Hp} (k : Ke W H H') (g : ∀ a, W' a → W a ∨ H a = none) : ∀ {v : V} {d : D}, Rep W H v d → Rep W' H' v d
  | _, _, .non => .non
  | _, _, .bl b => .bl b
  | _, _, .int i => .int i
  | _, _, .str s => .str s
  | _, _, .tup n r l => .tup (fun z => (g _ z).elim n (al_of r)) (k.stay _ _ n r) (RepL.ke k g l)
  | _, _, .lst n r l => .lst (fun z => (g _ z).elim n (al_of r)) (k.stay _ _ n r) (RepL.ke k g l)
  | _, _, .dic n r l => .dic (fun z => (g _ z).elim n (al_of r)) (k.stay _ _ n r) (RepK.ke k g l)
  | _, _, .obj n m r q f => .obj (fun z => (g _ z).elim n (al_of r)) (fun z => (g _ z).elim m (al_of q)) (k.stay _ _ n r) (k.stay _ _ m q) f
  | _, _, .exc n m r h1 h2 l => .exc (fun z => (g _ z).elim n (al_of r)) m (k.stay _ _ n r) h1 (fun d e => ⟨fun z => (g _ z).elim (h2 d e).1 (al_of (h2 d e).2.1), k.stay _ _ (h2 d e).1 (h2 d e).2.1, (h2 d e).2.2⟩) (RepL.ke k g l)
theorem RepL.ke {W W' : Pr} {H H' : Hp} (k : Ke W H H') (g : ∀ a, W' a → W a ∨ H a = none) : ∀ {vs : List V} {ds : List D}, RepL W H vs ds → RepL W' H' vs ds
  | _, _, .nil => .nil
  | _, _, .cons r l => .cons (Rep.ke k g r) (RepL.ke k g l)
theorem RepK.ke {W W' : Pr} {H H' : Hp} (k : Ke W H H') (g : ∀ a, W' a → W a ∨ H a = none) : ∀ {vs : List (List Key × V)} {ds : List (List Key × D)}, RepK W H vs ds → RepK W' H' vs ds
  | _, _, .nil => .nil
  | _, _, .cons r l => .cons (Rep.ke k g r) (RepK.ke k g l)
end
theorem Rep.mono {W : Pr} {H H' : Hp} {v : V} {d : D} (k : Ke W H H') (r : Rep W H v d) : Rep W H' v d := r.ke k fun _ z => .inl z
theorem RepL.mono {W : Pr} {H H' : Hp} {v : List V} {d : List D} (k : Ke W H H') (r : RepL W H v d) : RepL W H' v d := r.ke k fun _ z => .inl z
theorem RepK.mono {W : Pr} {H H' : Hp} {v : List (List Key × V)} {d : List (List Key × D)} (k : Ke W H H') (r : RepK W H v d) : RepK W H' v d := r.ke k fun _ z => .inl z
theorem Rep.sub {W W' : Pr} {H : Hp} {v : V} {d : D} (g : ∀ a, W' a → W a ∨ H a = none) (r : Rep W H v d) : Rep W' H v d := r.ke Ke.refl g
theorem RepL.sub {W W' : Pr} {H : Hp} {v : List V} {d : List D} (g : ∀ a, W' a → W a ∨ H a = none) (r : RepL W H v d) : RepL W' H v d := r.ke Ke.refl g
theorem RepK.sub {W W' : Pr} {H : Hp} {v : List (List Key × V)} {d : List (List Key × D)} (g : ∀ a, W' a → W a ∨ H a = none) (r : RepK W H v d) : RepK W' H v d := r.ke Ke.refl g
/-- the top object may be one that changes -/
inductive RepW (K : PySem.W.Frag) (O : Pr) (H : Hp) : V → D → Prop
  | of {v : V} {d : D} : Rep O H v d → RepW K O H v d
  | tup {a : Addr} {vs : List V} {xs : List D} : SqT K H a vs → RepL O H vs xs → RepW K O H (.ref a) (.tup xs)
  | lst {a : Addr} {vs : List V} {xs : List D} : SqL K H a vs → RepL O H vs xs → RepW K O H (.ref a) (.lst xs)
  | dic {a : Addr} {ks : List (List Key × V)} {kvs : List (List Key × D)} : Rd H a (.dT ks) → RepK O H ks kvs → RepW K O H (.ref a) (.dic kvs)
section
variable {K : PySem.W.Frag} {O : Pr} {H : Hp}
theorem RepW.lst' {v : V} {xs : List D} (r : RepW K O H v (.lst xs)) : ∃ a vs, v = .ref a ∧ SqL K H a vs ∧ RepL O H vs xs := by
  cases r with
  | of r => cases r with | lst n r l => exact ⟨_, _, rfl, .inl (.inl r), l⟩
  | lst s l => exact ⟨_, _, rfl, s, l⟩
theorem RepW.tup' {v : V} {xs : List D} (r : RepW K O H v (.tup xs)) : ∃ a vs, v = .ref a ∧ SqT K H a vs ∧ RepL O H vs xs := by
  cases r with
  | of r => cases r with | tup n r l => exact ⟨_, _, rfl, .inl (.inl r), l⟩
  | tup s l => exact ⟨_, _, rfl, s, l⟩
theorem RepW.dic' {v : V} {kvs : List (List Key × D)} (r : RepW K O H v (.dic kvs)) : ∃ a ks, v = .ref a ∧ Rd H a (.dT ks) ∧ RepK O H ks kvs := by
  cases r with
  | of r => cases r with | dic n r l => exact ⟨_, _, rfl, .inl r, l⟩
  | dic s l => exact ⟨_, _, rfl, s, l⟩
theorem RepW.int' {v : V} {i : Int} (r : RepW K O H v (.int i)) : v = .int i := by
  cases r with | of r => cases r; rfl
theorem RepW.bl' {v : V} {i : Bool} (r : RepW K O H v (.bl i)) : v = .bl i := by
  cases r with | of r => cases r; rfl
theorem RepW.str' {v : V} {i : Str} (r : RepW K O H v (.str i)) : v = .str i := by
  cases r with | of r => cases r; rfl
theorem RepL.len : ∀ {vs : List V} {xs : List D}, RepL O H vs xs → vs.length = xs.length
  | _, _, .nil => rfl
  | _, _, .cons _ l => by rw [List.length_cons, List.length_cons, RepL.len l]
theorem RepL.get : ∀ {vs : List V} {xs : List D} {i : Nat} {d : D}, RepL O H vs xs → xs[i]? = some d → ∃ v, vs[i]? = some v ∧ Rep O H v d
  | _, _, _, _, .nil, e => by simp at e
  | _, _, 0, _, .cons r _, e => by simp at e; subst e; exact ⟨_, rfl, r⟩
  | _, _, i + 1, d, .cons _ t, e => by
    obtain ⟨u, h1, h2⟩ := RepL.get (i := i) (d := d) t (by simpa using e)
    exact ⟨u, by simpa using h1, h2⟩
theorem RepL.app : ∀ {vs : List V} {xs : List D} {ws : List V} {ys : List D}, RepL O H vs xs → RepL O H ws ys → RepL O H (vs ++ ws) (xs ++ ys)
  | _, _, _, _, .nil, s => s
  | _, _, _, _, .cons r l, s => .cons r (RepL.app l s)
theorem RepL.take : ∀ {vs : List V} {xs : List D} (n : Nat), RepL O H vs xs → RepL O H (vs.take n) (xs.take n)
  | _, _, 0, _ => .nil
  | _, _, _ + 1, .nil => .nil
  | _, _, n + 1, .cons r t => .cons r (RepL.take n t)
theorem RepL.drop : ∀ {vs : List V} {xs : List D} (n : Nat), RepL O H vs xs → RepL O H (vs.drop n) (xs.drop n)
  | _, _, 0, r => r
  | _, _, _ + 1, .nil => .nil
  | _, _, n + 1, .cons _ t => RepL.drop n t
theorem RepL.set {v : V} {d : D} (r : Rep O H v d) : ∀ {vs : List V} {xs : List D} (i : Nat), RepL O H vs xs → RepL O H (vs.set i v) (xs.set i d)
  | _, _, _, .nil => .nil
  | _, _, 0, .cons _ t => .cons r t
  | _, _, i + 1, .cons q t => .cons q (RepL.set r i t)
theorem RepL.rep {vs : List V} {xs : List D} (r : RepL O H vs xs) : ∀ k : Nat, RepL O H (List.replicate k vs).flatten (List.replicate k xs).flatten
  | 0 => .nil
  | k + 1 => by
    rw [List.replicate_succ, List.flatten_cons, List.replicate_succ, List.flatten_cons]
    exact r.app (RepL.rep r k)
theorem RepL.at {vs : List V} {xs : List D} {i : Int} {d : D} (r : RepL O H vs xs) (e : atI xs i = some d) : ∃ v, atI vs i = some v ∧ Rep O H v d := by
  unfold atI at e ⊢
  rw [r.len]
  cases h : ixN xs.length i with
  | none => rw [h] at e; cases e
  | some j =>
    rw [h] at e
    exact r.get (show xs[j]? = some d from e)
theorem RepL.ints : ∀ {vs : List V} {xs : List D} {ns : List Int}, RepL O H vs xs → intsL xs = some ns → vs = ns.map V.int
  | _, _, _, .nil, e => by cases e; rfl
  | _, _, ns, .cons r l, e => by
    cases r with
    | int i =>
      rename_i vs ds
      unfold intsL at e
      cases h : intsL ds with
      | none => rw [h] at e; cases e
      | some ms =>
        rw [h] at e
        cases e
        rw [List.map_cons, RepL.ints l h]
    | _ => cases e
theorem RepL.bools : ∀ {vs : List V} {xs : List D} {ns : List Bool}, RepL O H vs xs → AH.bools xs = some ns → vs = ns.map V.bl
  | _, _, _, .nil, e => by cases e; rfl
  | _, _, ns, .cons r l, e => by
    cases r with
    | bl i =>
      rename_i vs ds
      unfold AH.bools at e
      cases h : AH.bools ds with
      | none => rw [h] at e; cases e
      | some ms =>
        rw [h] at e
        cases e
        rw [List.map_cons, RepL.bools l h]
    | _ => cases e
end
/-! ### the frame of a def -/
structure Fm where
  P : Pr
  N : Pr
  H0 : Hp
  ba : Nat → Option Addr
def Fm.bo (F : Fm) : Pr := fun a => ∃ i, F.ba i = some a
def Fm.ad (F : Fm) (p : Addr) : Fm := { F with P := fun a => F.P a ∨ a = p, N := fun a => F.N a ∨ a = p }
def Ow (F : Fm) (O : Nat → Option Addr) : Pr := fun a => F.P a ∨ ∃ i, O i = some a
def Jo (O : Nat → Option Addr) : Pr := fun a => ∃ i, O i = some a
/-- what is just looked at: an object that does not change meanwhile; a list of ints of the module -/
inductive RoR (K : PySem.W.Frag) (F : Fm) (O : Nat → Option Addr) (H : Hp) : V → D → Prop
  | of {v : V} {d : D} : Rep (Ow F O) H v d → RoR K F O H v d
  | tup {a : Addr} {vs : List V} {xs : List D} : ¬ (Jo O a ∨ F.N a) → Rd H a (.tup vs) → RepL (Ow F O) H vs xs → RoR K F O H (.ref a) (.tup xs)
  | lst {a : Addr} {vs : List V} {xs : List D} : ¬ (Jo O a ∨ F.N a) → Rd H a (.lst vs) → RepL (Ow F O) H vs xs → RoR K F O H (.ref a) (.lst xs)
  | dic {a : Addr} {ks : List (List Key × V)} {kvs : List (List Key × D)} : ¬ (Jo O a ∨ F.N a) → Rd H a (.dT ks) → RepK (Ow F O) H ks kvs → RoR K F O H (.ref a) (.dic kvs)
  | kl {a : Addr} {ns : List Int} : SqL K (fun _ => none) a (ns.map V.int) → RoR K F O H (.ref a) (.lst (ns.map D.int))
theorem rd_al {H : Hp} {a : Addr} {u : HO} (r : Rd H a u) : H a ≠ none := by
  rcases r with r | ⟨o, r⟩ <;> (rw [r]; simp)
theorem rd_keep {H H' : Hp} {a : Addr} {u : HO} (k : ∀ o, H a = some o → H' a = some o) (r : Rd H a u) : Rd H' a u := by
  rcases r with r | ⟨o, r⟩
  · exact .inl (k _ r)
  · exact .inr ⟨o, k _ r⟩
theorem repL_ints {W : Pr} {H : Hp} : ∀ ns : List Int, RepL W H (ns.map V.int) (ns.map D.int)
  | [] => .nil
  | n :: ns => .cons (.int n) (repL_ints ns)
theorem RoR.w {K : PySem.W.Frag} {F : Fm} {O : Nat → Option Addr} {H : Hp} {v : V} {d : D} (r : RoR K F O H v d) : RepW K (Ow F O) H v d := by
  cases r with
  | of r => exact .of r
  | tup n h l => exact .tup (.inl h) l
  | lst n h l => exact .lst (.inl h) l
  | dic n h l => exact .dic h l
  | kl s =>
    refine .lst ?_ (repL_ints _)
    rcases s with s | s
    · exact absurd rfl (rd_al s)
    · exact .inr s
/-- .. through a step of the heap, of the owners -/
theorem RoR.go {K : PySem.W.Frag} {F F' : Fm} {O O' : Nat → Option Addr} {H H' : Hp} {v : V} {d : D} (k : Ke (Jo O) H H') (g : ∀ a, Ow F' O' a → Ow F O a ∨ H a = none) (gn : ∀ a, Jo O' a ∨ F'.N a → (Jo O a ∨ F.N a) ∨ H a = none) (r : RoR K F O H v d) : RoR K F' O' H' v d := by
  have ke : Ke (Ow F O) H H' := k.imp fun _ z _ => .inr z
  cases r with
  | of r => exact .of (r.ke ke g)
  | tup n h l => exact .tup (fun z => (gn _ z).elim n (rd_al h)) (rd_keep (fun o e => k.stay _ _ (fun z => n (.inl z)) e) h) (l.ke ke g)
  | lst n h l => exact .lst (fun z => (gn _ z).elim n (rd_al h)) (rd_keep (fun o e => k.stay _ _ (fun z => n (.inl z)) e) h) (l.ke ke g)
  | dic n h l => exact .dic (fun z => (gn _ z).elim n (rd_al h)) (rd_keep (fun o e => k.stay _ _ (fun z => n (.inl z)) e) h) (l.ke ke g)
  | kl s => exact .kl s
theorem Ke.ow {F : Fm} {O : Nat → Option Addr} {H H' : Hp} (k : Ke (Jo O) H H') : Ke (Ow F O) H H' := k.imp fun _ z _ => .inr z
theorem Rep.mj {F : Fm} {O : Nat → Option Addr} {H H' : Hp} {v : V} {d : D} (k : Ke (Jo O) H H') (r : Rep (Ow F O) H v d) : Rep (Ow F O) H' v d := r.mono k.ow
theorem RepL.mj {F : Fm} {O : Nat → Option Addr} {H H' : Hp} {v : List V} {d : List D} (k : Ke (Jo O) H H') (r : RepL (Ow F O) H v d) : RepL (Ow F O) H' v d := r.mono k.ow
theorem RepK.mj {F : Fm} {O : Nat → Option Addr} {H H' : Hp} {v : List (List Key × V)} {d : List (List Key × D)} (k : Ke (Jo O) H H') (r : RepK (Ow F O) H v d) : RepK (Ow F O) H' v d := r.mono k.ow
def SlR (K : PySem.W.Frag) (F : Fm) (O : Nat → Option Addr) (H : Hp) (i : Nat) (ov : Option V) : Sl → Prop
  | .no => O i = none
  | .val d => O i = none ∧ ∃ v, ov = some v ∧ Rep (Ow F O) H v d
  | .ro d => O i = none ∧ ∃ v, ov = some v ∧ RoR K F O H v d
  | .own xs => ∃ a vs, O i = some a ∧ (F.H0 a = none ∧ ¬ F.P a) ∧ ov = some (.ref a) ∧ H a = some (.lst vs) ∧ RepL (Ow F O) H vs xs
  | .bor xs => ∃ a vs, O i = some a ∧ F.ba i = some a ∧ ov = some (.ref a) ∧ H a = some (.lst vs) ∧ RepL (Ow F O) H vs xs
  | .odc kvs => ∃ a ks, O i = some a ∧ (F.H0 a = none ∧ ¬ F.P a) ∧ ov = some (.ref a) ∧ H a = some (.dT ks) ∧ RepK (Ow F O) H ks kvs
  | .ldc kvs => O i = none ∧ ∃ a ks o, ¬ (Jo O a ∨ F.N a) ∧ ov = some (.ref a) ∧ H a = some (.frz o (.dT ks)) ∧ RepK (Ow F O) H ks kvs
def get1 (σ : L2.St) (i : Nat) : Option V := (σ[i]?).join
structure SR (K : PySem.W.Frag) (F : Fm) (O : Nat → Option Addr) (env : Env) (σ : L2.St) (H : Hp) : Prop where
  slot : ∀ i, SlR K F O H i (get1 σ i) (sl env i)
  inj : ∀ i j a, O i = some a → O j = some a → i = j
  prot : ∀ a, Ow F O a → H a ≠ none
  keep : ∀ a o, F.H0 a = some o → ¬ F.bo a → H a = some o
  al : ∀ a, F.H0 a ≠ none → H a ≠ none
  len : env.length = σ.length
  nal : ∀ a, F.N a → H a ≠ none
  pt : ∀ a xs, F.P a → H a ≠ some (.tup xs)
/-- an exception of a class with its fields -/
def XR (K : PySem.W.Frag) (W : Pr) (c : Str) (fs : List D) (cls : Value) (dd : Option Addr) (H : Hp) : Prop :=
  (cls = .ref (He.ga K c) ∧ c ∈ TheK.xs) ∧ match dd with
    | none => fs = []
    | some d => ¬ W d ∧ ∃ vs, H d = some (.xd ((fieldsOf c).zip vs)) ∧ vs.length = (fieldsOf c).length ∧ RepL W H vs fs
/-! ### judgements -/
def Want {α : Type} (m : M α) (env : Env) (Q : α → Env → Prop) (E : Str → List D → Env → Prop) : Prop := match m env with
  | .ok a e => Q a e
  | .ex c fs e => E c fs e
  | .bad => False
theorem Want.bind {α β : Type} {m : M α} {f : α → M β} {env : Env} {Q : β → Env → Prop} {E : Str → List D → Env → Prop} (h : Want (m.bind f) env Q E) : Want m env (fun a e => Want (f a) e Q E) E := by
  unfold Want at h ⊢
  unfold M.bind at h
  cases hm : m env with
  | ok a e => rw [hm] at h; exact h
  | ex c fs e => rw [hm] at h; exact h
  | bad => rw [hm] at h; exact h
theorem Want.imp {α : Type} {m : M α} {env : Env} {Q Q' : α → Env → Prop} {E E' : Str → List D → Env → Prop} (h : Want m env Q E) (q : ∀ a e, Q a e → Q' a e) (x : ∀ c fs e, E c fs e → E' c fs e) : Want m env Q' E' := by
  unfold Want at h ⊢
  cases hm : m env with
  | ok a e => rw [hm] at h; exact q a e h
  | ex c fs e => rw [hm] at h; exact x c fs e h
  | bad => rw [hm] at h; exact h
theorem Want.of {α : Type} {r : Rv α} {env : Env} {Q : α → Env → Prop} {E : Str → List D → Env → Prop} (h : Want (M.of r) env Q E) : ∃ a, r = .ok a ∧ Q a env := by
  cases r with
  | ok a => exact ⟨a, rfl, h⟩
  | bad => exact h.elim
/-- a tuple without a dict of its own -/
def TuO (a : Addr) (vs : List V) : HO := .ext fun h => vs.length ≤ sizeLine ∧ ∃ (its : List Value) (n : Nat), Vals vs its ∧ h.get? a = some { cls := .type "tuple", data := .seq its.toArray n }
inductive Fl where
  | w | s | f | fd | ft
def Po (fl : Fl) (K : PySem.W.Frag) (F : Fm) (O : Nat → Option Addr) (e1 : Env) (σ : L2.St) (H H' : Hp) (v : V) (d : D) : Prop := match fl with
  | .w => RepW K (Ow F O) H' v d
  | .s => Rep (Ow F O) H' v d
  | .f => ∃ p vs xs, v = .ref p ∧ d = .lst xs ∧ H p = none ∧ H' p = some (.lst vs) ∧ RepL (Ow (F.ad p) O) H' vs xs ∧ SR K (F.ad p) O e1 σ H'
  | .fd => ∃ p ks kvs, v = .ref p ∧ d = .dic kvs ∧ H p = none ∧ H' p = some (.dT ks) ∧ RepK (Ow (F.ad p) O) H' ks kvs ∧ SR K (F.ad p) O e1 σ H'
  | .ft => ∃ p vs xs, v = .ref p ∧ d = .tup xs ∧ H' p = some (TuO p vs) ∧ RepL (Ow F O) H' vs xs
/-- what is wished of an exception -/
def XW (K : PySem.W.Frag) (F : Fm) (O : Nat → Option Addr) (σ : L2.St) (H : Hp) (Wx : WX) : Str → List D → Env → Prop := fun c fs e1 =>
  ∀ cls d H', SR K F O e1 σ H' → Ke (Jo O) H H' → XR K (Ow F O) c fs cls d H' → Wx cls d σ H'
theorem XW.later {K : PySem.W.Frag} {F : Fm} {O : Nat → Option Addr} {σ : L2.St} {H H1 : Hp} {Wx : WX} (k : Ke (Jo O) H H1) : ∀ c fs e, XW K F O σ H Wx c fs e → XW K F O σ H1 Wx c fs e :=
  fun _ _ _ h cls d H' S k1 x => h cls d H' S (k.trans k1) x
/-- an expression -/
def PD (fl : Fl) (X : Cx) (Wx : WX) (e : Expr) (m : DE) : Prop := ∃ t : TE, PE X e t ∧ ∀ (F : Fm) (O : Nat → Option Addr) (env : Env) (σ : L2.St) (H : Hp) (Q : VK), SR X.K F O env σ H →
  Want m env (fun d e1 => ∀ v H', SR X.K F O e1 σ H' → Ke (Jo O) H H' → Po fl X.K F O e1 σ H H' v d → Q v H') (XW X.K F O σ H Wx) → t σ H Q
/-- a test -/
def TD (X : Cx) (Wx : WX) (e : Expr) (m : DT) : Prop := ∃ t : TT, PT X e t ∧ ∀ (F : Fm) (O : Nat → Option Addr) (env : Env) (σ : L2.St) (H : Hp) (Q : Bool → Hp → Prop), SR X.K F O env σ H →
  Want m env (fun b e1 => ∀ H', SR X.K F O e1 σ H' → Ke (Jo O) H H' → Q b H') (XW X.K F O σ H Wx) → t σ H Q
def WD (X : Cx) (Wx : WX) (e : Expr) (m : DT) : Prop := ∃ t : TT, PW X e t ∧ ∀ (F : Fm) (O : Nat → Option Addr) (env : Env) (σ : L2.St) (H : Hp) (Q : Bool → Hp → Prop), SR X.K F O env σ H →
  Want m env (fun b e1 => ∀ H', SR X.K F O e1 σ H' → Ke (Jo O) H H' → Q b H') (XW X.K F O σ H Wx) → t σ H Q
/-- an argument list of values that stay -/
def AD (X : Cx) (Wx : WX) (es : List Expr) (m : DL) : Prop := ∃ t : TA, PA X es t ∧ ∀ (F : Fm) (O : Nat → Option Addr) (env : Env) (σ : L2.St) (H : Hp) (Q : List V → Hp → Prop), SR X.K F O env σ H →
  Want m env (fun ds e1 => ∀ vs H', SR X.K F O e1 σ H' → Ke (Jo O) H H' → RepL (Ow F O) H' vs ds → Q vs H') (XW X.K F O σ H Wx) → t σ H Q
theorem WD.td {X : Cx} {Wx : WX} {e : Expr} {m : DT} (h : WD X Wx e m) : TD X Wx e m := let ⟨t, p, q⟩ := h; ⟨t, p.pt, q⟩
section
variable {K : PySem.W.Frag} {F : Fm} {O : Nat → Option Addr} {env : Env} {σ : L2.St} {H H' : Hp}
theorem RepW.all {W : Pr} {v : V} {d : D} (k : ∀ a o, H a = some o → H' a = some o) (r : RepW K W H v d) : RepW K W H' v d := by
  have ke : Ke W H H' := ⟨fun a o _ e => k a o e, fun a e => by
    cases q : H a with
    | none => exact absurd q e
    | some o => rw [k a o q]; simp⟩
  cases r with
  | of r => exact .of (r.mono ke)
  | tup s l =>
    refine .tup ?_ (l.mono ke)
    rcases s with s | s
    · rcases s with s | ⟨o, s⟩
      · exact .inl (.inl (k _ _ s))
      · exact .inl (.inr ⟨o, k _ _ s⟩)
    · exact .inr s
  | lst s l =>
    refine .lst ?_ (l.mono ke)
    rcases s with s | s
    · rcases s with s | ⟨o, s⟩
      · exact .inl (.inl (k _ _ s))
      · exact .inl (.inr ⟨o, k _ _ s⟩)
    · exact .inr s
  | dic s l =>
    refine .dic ?_ (l.mono ke)
    rcases s with s | ⟨o, s⟩
    · exact .inl (k _ _ s)
    · exact .inr ⟨o, k _ _ s⟩
/-- .. and fewer, or new, objects are kept apart -/
theorem RepW.sub {W W' : Pr} {v : V} {d : D} (g : ∀ a, W' a → W a ∨ H a = none) (r : RepW K W H v d) : RepW K W' H v d := by
  cases r with
  | of r => exact .of (r.sub g)
  | tup s l => exact .tup s (l.sub g)
  | lst s l => exact .lst s (l.sub g)
  | dic s l => exact .dic s (l.sub g)
theorem ke_all {W : Pr} (k : ∀ a o, H a = some o → H' a = some o) : Ke W H H' := ⟨fun a o _ e => k a o e, fun a e => by
    cases q : H a with
    | none => exact absurd q e
    | some o => rw [k a o q]; simp⟩
theorem SlR.ext {i : Nat} {ov : Option V} (k : ∀ a o, H a = some o → H' a = some o) : ∀ {s : Sl}, SlR K F O H i ov s → SlR K F O H' i ov s := by
  have ke : Ke (Ow F O) H H' := ⟨fun a o _ e => k a o e, fun a e => by
    cases q : H a with
    | none => exact absurd q e
    | some o => rw [k a o q]; simp⟩
  intro s h
  cases s with
  | no => exact h
  | val d => obtain ⟨h, v, e, r⟩ := h; exact ⟨h, v, e, r.mono ke⟩
  | ro d => obtain ⟨h, v, e, r⟩ := h; exact ⟨h, v, e, r.go (ke_all k) (fun _ z => .inl z) fun _ z => .inl z⟩
  | own xs => obtain ⟨a, vs, h, h0, e, q, r⟩ := h; exact ⟨a, vs, h, h0, e, k _ _ q, r.mono ke⟩
  | bor xs => obtain ⟨a, vs, h, h0, e, q, r⟩ := h; exact ⟨a, vs, h, h0, e, k _ _ q, r.mono ke⟩
  | odc kvs => obtain ⟨a, vs, h, h0, e, q, r⟩ := h; exact ⟨a, vs, h, h0, e, k _ _ q, r.mono ke⟩
  | ldc kvs => obtain ⟨h, a, vs, o, h0, e, q, r⟩ := h; exact ⟨h, a, vs, o, h0, e, k _ _ q, r.mono ke⟩
/-- another set of objects that are kept apart -/
theorem SlR.sub {F' : Fm} {i : Nat} {ov : Option V} (hb : F'.ba = F.ba) (h0 : F'.H0 = F.H0) (gp : ∀ a, F'.P a → F.P a ∨ H a = none) (gn : ∀ a, F'.N a → F.N a ∨ H a = none) : ∀ {s : Sl}, SlR K F O H i ov s → SlR K F' O H i ov s := by
  have g : ∀ a, Ow F' O a → Ow F O a ∨ H a = none := fun a w => w.elim (fun w => (gp a w).elim (fun z => .inl (.inl z)) .inr) fun w => .inl (.inr w)
  have al : ∀ {a : Addr} {o : HO}, H a = some o → ¬ F.P a → ¬ F'.P a := fun {a o} e n w => (gp a w).elim n fun z => by rw [z] at e; cases e
  intro s h
  cases s with
  | no => exact h
  | val d => obtain ⟨h, v, e, r⟩ := h; exact ⟨h, v, e, r.sub g⟩
  | ro d => obtain ⟨h, v, e, r⟩ := h; exact ⟨h, v, e, r.go Ke.refl g fun a z => z.elim (fun z => .inl (.inl z)) fun z => (gn a z).elim (fun z => .inl (.inr z)) .inr⟩
  | own xs => obtain ⟨a, vs, h, hz, e, q, r⟩ := h; exact ⟨a, vs, h, ⟨by rw [h0]; exact hz.1, al q hz.2⟩, e, q, r.sub g⟩
  | bor xs => obtain ⟨a, vs, h, hz, e, q, r⟩ := h; exact ⟨a, vs, h, by rw [hb]; exact hz, e, q, r.sub g⟩
  | odc kvs => obtain ⟨a, vs, h, hz, e, q, r⟩ := h; exact ⟨a, vs, h, ⟨by rw [h0]; exact hz.1, al q hz.2⟩, e, q, r.sub g⟩
  | ldc kvs => obtain ⟨h, a, vs, o, hz, e, q, r⟩ := h; exact ⟨h, a, vs, o, fun z => z.elim (fun z => hz (.inl z)) fun z => (gn a z).elim (fun z => hz (.inr z)) (al_of q), e, q, r.sub g⟩
/-- all that stood stands -/
theorem SR.ext (S : SR K F O env σ H) (k : ∀ a o, H a = some o → H' a = some o) : SR K F O env σ H' where
  slot := fun i => (S.slot i).ext k
  inj := S.inj
  prot := fun a w => by
    cases q : H a with
    | none => exact absurd q (S.prot a w)
    | some o => rw [k a o q]; simp
  keep := fun a o e n => k a o (S.keep a o e n)
  al := fun a e => by
    cases q : H a with
    | none => exact absurd q (S.al a e)
    | some o => rw [k a o q]; simp
  len := S.len
  nal := fun a e => by
    cases q : H a with
    | none => exact absurd q (S.nal a e)
    | some o => rw [k a o q]; simp
  pt := fun a xs w => by
    cases q : H a with
    | none => exact absurd q (S.prot a (.inl w))
    | some o => rw [k a o q, ← q]; exact S.pt a xs w
/-- a new object is kept apart -/
theorem SR.ad (S : SR K F O env σ H) {p : Addr} {o : HO} (h : H p = none) (ho : ∀ xs, o ≠ .tup xs := by intro _ z; cases z) : SR K (F.ad p) O env σ (upd H p o) := by
  have S1 : SR K F O env σ (upd H p o) := S.ext fun a u e => by rw [upd_ne (ne_of_none e h)]; exact e
  refine ⟨fun i => ?_, S.inj, fun a w => ?_, S1.keep, S1.al, S.len, fun a w => w.elim (S1.nal a) fun z => by rw [z, upd_same]; simp, fun a xs w => w.elim (S1.pt a xs) fun z => by rw [z, upd_same]; exact fun y => ho xs (Option.some.inj y)⟩
  · refine SlR.ext (H := H) (fun a u e => by rw [upd_ne (ne_of_none e h)]; exact e) (SlR.sub (F := F) (F' := F.ad p) rfl rfl (fun a w => ?_) (fun a w => ?_) (S.slot i))
    · rcases w with w | rfl
      · exact .inl w
      · exact .inr h
    · rcases w with w | rfl
      · exact .inl w
      · exact .inr h
  · rcases w with (w | rfl) | w
    · exact S1.prot a (.inl w)
    · rw [upd_same]; simp
    · exact S1.prot a (.inr w)
theorem SR.unad {p : Addr} (S : SR K (F.ad p) O env σ H) : SR K F O env σ H := by
  refine ⟨fun i => SlR.sub (F := F.ad p) (F' := F) rfl rfl (fun a w => .inl (.inl w)) (fun a w => .inl (.inl w)) (S.slot i), S.inj, fun a w => S.prot a ?_, S.keep, S.al, S.len, fun a w => S.nal a (.inl w), fun a xs w => S.pt a xs (.inl w)⟩
  · exact w.elim (fun z => .inl (.inl z)) .inr
theorem SR.new' (S : SR K F O env σ H) {p : Addr} {o : HO} (h : H p = none) : SR K F O env σ (upd H p o) := S.ext fun a u e => by
  rw [upd_ne (ne_of_none e h)]; exact e
theorem SR.noW (S : SR K F O env σ H) {p : Addr} (h : H p = none) : ¬ Ow F O p := fun w => S.prot p w h
theorem ke_ext {W : Pr} (k : ∀ a o, H a = some o → H' a = some o) : Ke W H H' := ⟨fun a o _ e => k a o e, fun a e => by
    cases q : H a with
    | none => exact absurd q e
    | some o => rw [k a o q]; simp⟩
theorem new_ext {p : Addr} {o : HO} (h : H p = none) : ∀ a u, H a = some u → upd H p o a = some u := fun a u e => by
  rw [upd_ne (ne_of_none e h)]; exact e
end
/-- from new to staying to looked at -/
theorem Po.s_of_f {K : PySem.W.Frag} {F : Fm} {O : Nat → Option Addr} {e1 : Env} {σ : L2.St} {H H' : Hp} {v : V} {d : D} (n : ∀ p, H p = none → ¬ Ow F O p) (h : Po .f K F O e1 σ H H' v d) : Po .s K F O e1 σ H H' v d := by
  obtain ⟨p, vs, xs, rfl, rfl, hp, hp', l, _⟩ := h
  exact .lst (n p hp) hp' (l.sub fun a z => .inl (z.elim (fun z => .inl (.inl z)) .inr))
theorem PD.weak {X : Cx} {Wx : WX} {e : Expr} {m : DE} (h : PD .s X Wx e m) : PD .w X Wx e m := by
  obtain ⟨t, p, q⟩ := h
  exact ⟨t, p, fun F O env σ H Q S w => q F O env σ H Q S (w.imp (fun d e1 z v H' S' k r => z v H' S' k (.of r)) fun _ _ _ z => z)⟩
theorem PD.str {X : Cx} {Wx : WX} {e : Expr} {m : DE} (h : PD .f X Wx e m) : PD .s X Wx e m := by
  obtain ⟨t, p, q⟩ := h
  exact ⟨t, p, fun F O env σ H Q S w => q F O env σ H Q S (w.imp (fun d e1 z v H' S' k r => z v H' S' k (Po.s_of_f (K := X.K) (fun p hp => S.noW hp) r)) fun _ _ _ z => z)⟩
theorem SR.own_tup {K : PySem.W.Frag} {F : Fm} {O : Nat → Option Addr} {env : Env} {σ : L2.St} {H : Hp} {i : Nat} {a : Addr} {xs : List V} (S : SR K F O env σ H) (h : O i = some a) : H a ≠ some (.tup xs) := by
  have s := S.slot i
  intro z
  cases q : sl env i with
  | no => rw [q] at s; have s : O i = none := s; rw [h] at s; cases s
  | val d => rw [q] at s; obtain ⟨s, _⟩ := s; rw [h] at s; cases s
  | ro d => rw [q] at s; obtain ⟨s, _⟩ := s; rw [h] at s; cases s
  | own xs => rw [q] at s; obtain ⟨b, vs, s1, _, _, s2, _⟩ := s; rw [h] at s1; cases s1; rw [z] at s2; cases s2
  | bor xs => rw [q] at s; obtain ⟨b, vs, s1, _, _, s2, _⟩ := s; rw [h] at s1; cases s1; rw [z] at s2; cases s2
  | odc xs => rw [q] at s; obtain ⟨b, vs, s1, _, _, s2, _⟩ := s; rw [h] at s1; cases s1; rw [z] at s2; cases s2
  | ldc xs => rw [q] at s; obtain ⟨s1, _⟩ := s; rw [h] at s1; cases s1
theorem SR.ow_tup {K : PySem.W.Frag} {F : Fm} {O : Nat → Option Addr} {env : Env} {σ : L2.St} {H : Hp} {a : Addr} {xs : List V} (S : SR K F O env σ H) (h : Ow F O a) : H a ≠ some (.tup xs) := by
  rcases h with h | ⟨i, h⟩
  · exact S.pt a xs h
  · exact S.own_tup h
theorem SR.prot2 {K : PySem.W.Frag} {F : Fm} {O : Nat → Option Addr} {env : Env} {σ : L2.St} {H : Hp} (S : SR K F O env σ H) : ∀ a, Ow F O a → H a ≠ none ∧ ∀ xs, H a ≠ some (.tup xs) := fun a w => ⟨S.prot a w, fun _ => S.ow_tup w⟩
end AH
namespace AH
open PySem PySem.Spec PyProof.Rows L2
variable [TheK]
section
variable {X : Cx} {Wx : WX} {e a b c : Expr} {ma mb mc : DE} {pos : Pos}
theorem get1_some {σ : L2.St} {i : Nat} {v : V} (h : get1 σ i = some v) : σ[i]? = some (some v) := by
  unfold get1 at h
  cases q : σ[i]? with
  | none => rw [q] at h; cases h
  | some o => rw [q] at h; cases o with
    | none => cases h
    | some u => cases h; rfl
theorem Po.back {fl : Fl} {K : PySem.W.Frag} {F : Fm} {O : Nat → Option Addr} {e1 : Env} {σ : L2.St} {H H1 H' : Hp} {v : V} {d : D} (k : Ke (Jo O) H H1) (h : Po fl K F O e1 σ H1 H' v d) : Po fl K F O e1 σ H H' v d := by
  have bk : ∀ p, H1 p = none → H p = none := fun p hp => by
    cases q : H p with
    | none => rfl
    | some o => exact absurd hp (k.there p (by rw [q]; simp))
  cases fl with
  | w => exact h
  | s => exact h
  | f => obtain ⟨p, vs, xs, e1, e2, hp, r⟩ := h; exact ⟨p, vs, xs, e1, e2, bk p hp, r⟩
  | fd => obtain ⟨p, vs, xs, e1, e2, hp, r⟩ := h; exact ⟨p, vs, xs, e1, e2, bk p hp, r⟩
  | ft => exact h
/-! ### names, constants -/
theorem pd_var {i : Nat} {x : Str} (hN : X.N[i]? = some x) (hv : Vis X.env.scope x) (hd : (x == ("__debug__" : Str)) = false := by decide) (hcd : (x == ("__classdict__" : Str)) = false := by decide) : PD .s X Wx (.Name x pos) (eVar i) := by
  refine ⟨_, pe_var hN hv hd hcd, fun F O env σ H Q S w => ?_⟩
  have s := S.slot i
  unfold Want eVar at w
  cases h : sl env i with
  | val d =>
    rw [h] at w s
    obtain ⟨_, v, e, r⟩ := s
    exact ⟨v, get1_some e, w v H S Ke.refl r⟩
  | _ => rw [h] at w; exact w.elim
theorem tmp_rep {K : PySem.W.Frag} {F : Fm} {O : Nat → Option Addr} {env : Env} {σ : L2.St} {H : Hp} {i : Nat} {d : D} {e' : Env} (S : SR K F O env σ H) (h : eTmp i env = .ok d e') : e' = env ∧ ∃ v, get1 σ i = some v ∧ RepW K (Ow F O) H v d := by
  have s := S.slot i
  unfold eTmp at h
  cases q : sl env i with
  | no => rw [q] at h; cases h
  | val d =>
    rw [q] at h s; cases h
    obtain ⟨_, v, e, r⟩ := s
    exact ⟨rfl, v, e, .of r⟩
  | ro d =>
    rw [q] at h s; cases h
    obtain ⟨_, v, e, r⟩ := s
    exact ⟨rfl, v, e, r.w⟩
  | own xs =>
    rw [q] at h s; cases h
    obtain ⟨a, vs, e1, e0, e2, e3, r⟩ := s
    exact ⟨rfl, _, e2, .lst (.inl (.inl e3)) r⟩
  | bor xs =>
    rw [q] at h s; cases h
    obtain ⟨a, vs, e1, e0, e2, e3, r⟩ := s
    exact ⟨rfl, _, e2, .lst (.inl (.inl e3)) r⟩
  | odc kvs =>
    rw [q] at h s; cases h
    obtain ⟨a, vs, e1, e0, e2, e3, r⟩ := s
    exact ⟨rfl, _, e2, .dic (.inl e3) r⟩
  | ldc kvs =>
    rw [q] at h s; cases h
    obtain ⟨e1, a, vs, o, e0, e2, e3, r⟩ := s
    exact ⟨rfl, _, e2, .dic (.inr ⟨o, e3⟩) r⟩
theorem Want.tmp {K : PySem.W.Frag} {F : Fm} {O : Nat → Option Addr} {env : Env} {σ : L2.St} {H : Hp} {i : Nat} {Q : D → Env → Prop} {E : Str → List D → Env → Prop} (S : SR K F O env σ H) (h : Want (eTmp i) env Q E) : ∃ v d, get1 σ i = some v ∧ RepW K (Ow F O) H v d ∧ Q d env := by
  unfold Want at h
  cases q : eTmp i env with
  | ok d e' =>
    rw [q] at h
    obtain ⟨rfl, v, e, r⟩ := tmp_rep S q
    exact ⟨v, d, e, r, h⟩
  | ex c fs e' =>
    unfold eTmp at q
    split at q <;> cases q
  | bad => rw [q] at h; exact h.elim
theorem pd_tmp {i : Nat} {x : Str} (hN : X.N[i]? = some x) (hv : Vis X.env.scope x) (hd : (x == ("__debug__" : Str)) = false := by decide) (hcd : (x == ("__classdict__" : Str)) = false := by decide) : PD .w X Wx (.Name x pos) (eTmp i) := by
  refine ⟨_, pe_var hN hv hd hcd, fun F O env σ H Q S w => ?_⟩
  obtain ⟨v, d, e, r, w⟩ := w.tmp S
  exact ⟨v, get1_some e, w v H S Ke.refl r⟩
theorem pd_int {i j} : PD .s X Wx (.Constant (.int i) j pos) (eC (.int i)) := ⟨_, pe_int, fun F O env σ H Q S w => w _ H S Ke.refl (.int i)⟩
theorem pd_bl {i j} : PD .s X Wx (.Constant (.bool i) j pos) (eC (.bl i)) := ⟨_, pe_bl, fun F O env σ H Q S w => w _ H S Ke.refl (.bl i)⟩
theorem pd_non {j} : PD .s X Wx (.Constant .none j pos) (eC .non) := ⟨_, pe_non, fun F O env σ H Q S w => w _ H S Ke.refl .non⟩
theorem pd_str {i j} : PD .s X Wx (.Constant (.str i) j pos) (eC (.str i)) := ⟨_, pe_str, fun F O env σ H Q S w => w _ H S Ke.refl (.str i)⟩
/-- a module's constant -/
theorem pd_gstr {x : Str} {i : Str} (hg : Gl X x) (hm : ∃ t, X.mg x = some (.str i t)) (hd : (x == ("__debug__" : Str)) = false := by decide) : PD .s X Wx (.Name x pos) (eC (.str i)) := by
  obtain ⟨t, hm⟩ := hm
  exact ⟨_, pe_glob (v := .str i) hg hm ⟨t, rfl⟩ hd, fun F O env σ H Q S w => w _ H S Ke.refl (.str i)⟩
/-! ### operations by values -/
/-- r does f -/
def Op1 (fl : Fl) (K : PySem.W.Frag) (r : V → Hp → VK → Prop) (f : D → Rv D) : Prop := ∀ (F : Fm) (O : Nat → Option Addr) (env : Env) (σ : L2.St) (H : Hp) (x : V) (dx dz : D) (Q : VK), SR K F O env σ H →
  RepW K (Ow F O) H x dx → f dx = .ok dz → (∀ z H', SR K F O env σ H' → Ke (Jo O) H H' → Po fl K F O env σ H H' z dz → Q z H') → r x H Q
theorem pd_e1 {fl : Fl} {f : D → Rv D} {r : V → Hp → VK → Prop} (hop : Op1 fl X.K r f) (ha : PD .w X Wx a ma) (pe : ∀ {ta : TE}, PE X a ta → PE X e (tUn r ta)) : PD fl X Wx e (e1 f ma) := by
  obtain ⟨ta, pa, qa⟩ := ha
  refine ⟨_, pe pa, fun F O env σ H Q S w => ?_⟩
  refine qa F O env σ H _ S (w.bind.imp (fun dx e1 w1 x H1 S1 k1 p1 => ?_) fun _ _ _ z => z)
  obtain ⟨dz, ef, q⟩ := w1.of
  exact hop F O e1 σ H1 x dx dz Q S1 p1 ef fun z H' S' k3 p3 => q z H' S' (k1.trans k3) (p3.back k1)
/-! ### the operators -/
theorem lenOk_of {n : Nat} (h : lenOk n = true) : n ≤ sizeLine := Nat.le_trans (of_decide_eq_true h) (by rw [sizeLine_eq]; decide)
theorem if_ok {c : Bool} {α : Type} {x y : α} (h : (if c = true then Rv.ok x else Rv.bad) = .ok y) : c = true ∧ x = y := by
  cases c with
  | true => rw [if_pos rfl] at h; cases h; exact ⟨rfl, rfl⟩
  | false => rw [if_neg Bool.false_ne_true] at h; cases h
/-- r does f, of values that stay -/
def Op2s (fl : Fl) (K : PySem.W.Frag) (r : R2) (f : D → D → Rv D) : Prop := ∀ (F : Fm) (O : Nat → Option Addr) (env : Env) (σ : L2.St) (H : Hp) (x y : V) (dx dy dz : D) (Q : VK), SR K F O env σ H →
  Rep (Ow F O) H x dx → Rep (Ow F O) H y dy → f dx dy = .ok dz → (∀ z H', SR K F O env σ H' → Ke (Jo O) H H' → Po fl K F O env σ H H' z dz → Q z H') → r x y H Q
theorem pd_e2s {fl : Fl} {f : D → D → Rv D} {r : R2} (hop : Op2s fl X.K r f) (ha : PD .s X Wx a ma) (hb : PD .s X Wx b mb) (pe : ∀ {ta tb : TE}, PE X a ta → PE X b tb → PE X e (tOp r ta tb)) : PD fl X Wx e (e2 f ma mb) := by
  obtain ⟨ta, pa, qa⟩ := ha
  obtain ⟨tb, pb, qb⟩ := hb
  refine ⟨_, pe pa pb, fun F O env σ H Q S w => ?_⟩
  refine qa F O env σ H _ S (w.bind.imp (fun dx e1 w1 x H1 S1 k1 p1 => ?_) fun _ _ _ z => z)
  refine qb F O e1 σ H1 _ S1 (w1.bind.imp (fun dy e2 w2 y H2 S2 k2 p2 => ?_) (XW.later k1))
  obtain ⟨dz, ef, q⟩ := w2.of
  exact hop F O e2 σ H2 x y dx dy dz Q S2 (Rep.mj k2 p1) p2 ef fun z H' S' k3 p3 => q z H' S' (k1.trans (k2.trans k3)) (p3.back (k1.trans k2))
section
variable {K : PySem.W.Frag} {F : Fm} {O : Nat → Option Addr} {env : Env} {σ : L2.St} {H : Hp}
/-- a new tuple, a new list -/
theorem new_tup {Q : VK} {vs : List V} {xs : List D} (S : SR K F O env σ H) (l : RepL (Ow F O) H vs xs) (q : ∀ z H', SR K F O env σ H' → Ke (Jo O) H H' → Rep (Ow F O) H' z (.tup xs) → Q z H') {p : Addr} (hp : H p = none) : Q (.ref p) (upd H p (.tup vs)) :=
  q _ _ (S.new' hp) (Ke.new hp) (.tup (S.noW hp) upd_same (l.mono (Ke.new hp)))
theorem RepL.grow1 {vs : List V} {xs : List D} {o : HO} {p : Addr} (l : RepL (Ow F O) H vs xs) (hp : H p = none) : RepL (Ow (F.ad p) O) (upd H p o) vs xs :=
  l.ke (Ke.new hp) fun a z => by
    rcases z with (z | z) | z
    · exact .inl (.inl z)
    · exact .inr (by rw [z]; exact hp)
    · exact .inl (.inr z)
theorem RepK.grow1 {vs : List (List Key × V)} {xs : List (List Key × D)} {o : HO} {p : Addr} (l : RepK (Ow F O) H vs xs) (hp : H p = none) : RepK (Ow (F.ad p) O) (upd H p o) vs xs :=
  l.ke (Ke.new hp) fun a z => by
    rcases z with (z | z) | z
    · exact .inl (.inl z)
    · exact .inr (by rw [z]; exact hp)
    · exact .inl (.inr z)
theorem new_lst {Q : VK} {vs : List V} {xs : List D} (S : SR K F O env σ H) (l : RepL (Ow F O) H vs xs) (q : ∀ z H', SR K F O env σ H' → Ke (Jo O) H H' → Po .f K F O env σ H H' z (.lst xs) → Q z H') {p : Addr} (hp : H p = none) : Q (.ref p) (upd H p (.lst vs)) :=
  q _ _ (S.new' hp) (Ke.new hp) ⟨p, vs, xs, rfl, rfl, hp, upd_same, l.grow1 hp, S.ad hp⟩
end
def rStrCat : R2 := fun x y H Q => ∃ i j, x = .str i ∧ y = .str j ∧ i.length + j.length ≤ sizeLine ∧ Q (.str (i ++ j)) H
def rAddA (K : PySem.W.Frag) : R2 := fun x y H Q => rI0 (fun i j => .int (i + j)) x y H Q ∨ rCat x y H Q ∨ rCatA K x y H Q ∨ rStrCat x y H Q
theorem op_addA : OpR X (binaryOp .Add) (rAddA X.K) := op_add.or (op_cat.or (op_catA.or op_add_str))
theorem o_add : Op2s .s X.K (rAddA X.K) dAdd := by
  intro F O env σ H x y dx dy dz Q S rx ry ef q
  unfold dAdd at ef
  cases rx with
  | int i => cases ry with
    | int j => cases ef; exact .inl ⟨i, j, rfl, rfl, q _ H S Ke.refl (.int _)⟩
    | _ => cases ef
  | str i => cases ry with
    | str j => obtain ⟨h, rfl⟩ := if_ok ef; exact .inr (.inr (.inr ⟨i, j, rfl, rfl, lenOk_of h, q _ H S Ke.refl (.str _)⟩))
    | _ => cases ef
  | lst n1 h1 l1 => cases ry with
    | lst n2 h2 l2 =>
      obtain ⟨h, rfl⟩ := if_ok ef
      refine .inr (.inl ⟨_, _, _, _, rfl, rfl, h1, h2, ?_, fun p hp => ?_⟩)
      · rw [l1.len, l2.len]; exact lenOk_of h
      · exact new_lst S (l1.app l2) (fun z H' S' k r => q z H' S' k (Po.s_of_f (K := X.K) (fun p hp => S.noW hp) r)) hp
    | _ => cases ef
  | tup n1 h1 l1 => cases ry with
    | tup n2 h2 l2 =>
      obtain ⟨h, rfl⟩ := if_ok ef
      refine .inr (.inr (.inl ⟨_, _, _, _, rfl, rfl, .inl (.inl h1), .inl (.inl h2), ?_, fun e => ?_, fun _ e => ?_, fun _ _ p hp => ?_⟩))
      · rw [l1.len, l2.len]; exact lenOk_of h
      · subst e
        cases l1
        exact q _ H S Ke.refl (.tup n2 h2 l2)
      · subst e
        cases l2
        rename_i xs
        exact q _ H S Ke.refl (by rw [List.append_nil]; exact .tup n1 h1 l1)
      · exact new_tup S (l1.app l2) q hp
    | _ => cases ef
  | _ => cases ef
theorem pd_add (ha : PD .s X Wx a ma) (hb : PD .s X Wx b mb) : PD .s X Wx (.BinOp a .Add b pos) (e2 dAdd ma mb) := pd_e2s o_add ha hb fun p q => pe_op op_addA p q
/-- a sum of lists is a new list -/
theorem tuple_mul1 (l : Addr) (items : Array Value) (n : Nat) (dd : Option Addr) (sl : Array (Option Value)) (u : Tok) :
    Meets (Builtin.«tuple.__mul__» ⟨[.ref l, .int 1 u], []⟩) (fun _ R s => s.heap.get? l = some { cls := .type "tuple", dict := dd, data := .seq items n, slots := sl } ∧ R (.ok (.ret (Value.ref l))) s) :=
  .of_wp fun prog w A R s h => by
    obtain ⟨hp, g, d, tk, os⟩ := s
    obtain ⟨hl, h⟩ := h
    have f1 := AutoSeq1.idx_int
    wp_walk using wpAny_loadPart' hl
    have c0 : (decide ((1 : Int) < -(2 ^ 63)) || decide ((1 : Int) ≥ 2 ^ 63)) = false := by decide
    have c1 : (items.isEmpty || (1 : Int) == 1) = true := by simp
    repeat (first
      | (refine wpAny_ite_false (decide_eq_false (by rw [c0]; exact Bool.false_ne_true)) ?_; wp_walk using wpAny_loadPart' hl)
      | (refine wpAny_ite_true (decide_eq_true (by rw [c1])) ?_; wp_walk using wpAny_loadPart' hl))
    exact ⟨_, rfl, h⟩
def rRepT1 (K : PySem.W.Frag) : R2 := fun x y H Q => ∃ l xs, x = .ref l ∧ y = .int 1 ∧ SqT K H l xs ∧ Q (.ref l) H
theorem op_repT1 : OpR X (binaryOp .Mult) (rRepT1 X.K) := by
  intro pins s σ H x y v u Q I rx ry h
  obtain ⟨l, xs, rfl, rfl, hT, q⟩ := h
  cases rx
  obtain ⟨t, rfl⟩ := ry
  obtain ⟨its, r, ⟨⟨cls, dd, data, sl⟩, ho, hc, n, hd⟩, hs⟩ := I.tuple hT
  simp only at hc hd
  subst hc hd
  refine wpAny_binaryOp_repeat_ref (T := "tuple") (U := "int") (by decide) ⟨_, ho, rfl⟩ (fun s' => typeIs_int s' 1 t) noFill_tuple_mul F.fills_int_mul F.slot_int_rmul repeat_tuple F.slot_int_index.lookup
    (call_meets F.slot_int_rmul (typeIs_int s 1 t) F.entry_int_rmul (F.args_int_rmul_2 _ _) (int_rmul_tuple 1 t l its.toArray n dd sl)
      ⟨ho, rfl, ⟨_, ho, rfl⟩, call_meets F.slot_tuple_mul ⟨_, ho, rfl⟩ F.entry_tuple_mul (F.args_tuple_mul_2 _ _) (tuple_mul1 l its.toArray n dd sl t) ⟨ho, ?_⟩⟩)
  exact ⟨.ref l, H, I, rfl, q⟩
def CMulX (i j : Int) : Prop := CMulW i j ∨ CMul i j
theorem op_mulX : OpR X (binaryOp .Mult) (rI CMulX fun i j => .int (i * j)) := opI fun _ _ _ _ _ _ _ hc q => mul_int q (hc.elim CMulW.ok CMul.ok)
theorem mulOk_of {i j : Int} (h : mulOk i j = true) : CMulX i j := by
  unfold mulOk at h
  rw [Bool.or_eq_true, Bool.or_eq_true] at h
  rcases h with h | h | h
  · exact .inl (of_decide_eq_true h : i.natAbs.log2 + j.natAbs.log2 < 1000000)
  · have := of_decide_eq_true h; exact .inr (.inl (by omega))
  · have := of_decide_eq_true h; exact .inr (.inr (by omega))
def rMulA (K : PySem.W.Frag) : R2 := fun x y H Q => rI CMulX (fun i j => .int (i * j)) x y H Q ∨ rRep x y H Q ∨ rRepT K x y H Q ∨ rRepT1 K x y H Q
theorem op_mulA : OpR X (binaryOp .Mult) (rMulA X.K)   := op_mulX.or (op_rep.or (op_repT.or op_repT1))
theorem o_mul : Op2s .s X.K (rMulA X.K) dMul := by
  intro F O env σ H x y dx dy dz Q S rx ry ef q
  unfold dMul at ef
  cases rx with
  | int i => cases ry with
    | int j => obtain ⟨h, rfl⟩ := if_ok ef; exact .inl ⟨i, j, rfl, rfl, mulOk_of h, q _ H S Ke.refl (.int _)⟩
    | _ => cases ef
  | lst n1 h1 l1 => cases ry with
    | int k =>
      obtain ⟨h, rfl⟩ := if_ok ef
      obtain ⟨h2, h3⟩ := Bool.and_eq_true_iff.mp h
      have h4 : k.natAbs ≤ 100000 := of_decide_eq_true h2
      refine .inr (.inl ⟨_, k, _, rfl, rfl, h1, by omega, by omega, ?_, fun p hp => ?_⟩)
      · rw [l1.len]; exact lenOk_of h3
      · exact new_lst S (l1.rep k.toNat) (fun z H' S' k r => q z H' S' k (Po.s_of_f (K := X.K) (fun p hp => S.noW hp) r)) hp
    | _ => cases ef
  | tup n1 h1 l1 => cases ry with
    | int k =>
      obtain ⟨h, rfl⟩ := if_ok ef
      obtain ⟨h2, h3⟩ := Bool.and_eq_true_iff.mp h
      obtain ⟨h4, h5⟩ := Bool.and_eq_true_iff.mp h2
      have h6 : 1 ≤ k := of_decide_eq_true h4
      have h7 : k ≤ 1000 := of_decide_eq_true h5
      rename_i a vs xs
      have h8 : 0 < xs.length ∧ xs.length ≤ 1000 := by
        obtain ⟨z1, z2⟩ := Bool.and_eq_true_iff.mp h3
        exact ⟨of_decide_eq_true z1, of_decide_eq_true z2⟩
      by_cases hk : k = 1
      · subst hk
        refine .inr (.inr (.inr ⟨_, _, rfl, rfl, .inl (.inl h1), q _ H S Ke.refl ?_⟩))
        have e : rep xs 1 = xs := by unfold rep; simp
        rw [e]
        exact .tup n1 h1 l1
      · refine .inr (.inr (.inl ⟨_, k, _, rfl, rfl, .inl (.inl h1), ?_, by omega, h7, ?_, fun p hp => ?_⟩))
        · intro z
          have := l1.len
          rw [z] at this
          simp at this
          omega
        · rw [l1.len]; exact h8.2
        · exact new_tup S (l1.rep k.toNat) q hp
    | _ => cases ef
  | _ => cases ef
theorem pd_mul (ha : PD .s X Wx a ma) (hb : PD .s X Wx b mb) : PD .s X Wx (.BinOp a .Mult b pos) (e2 dMul ma mb) := pd_e2s o_mul ha hb fun p q => pe_op op_mulA p q
theorem o_int {C : Int → Int → Prop} {g : Int → Int → Int} {f : D → D → Rv D} (h : ∀ dx dy dz, f dx dy = .ok dz → ∃ i j, dx = .int i ∧ dy = .int j ∧ C i j ∧ dz = .int (g i j)) : Op2s .s X.K (rI C fun i j => .int (g i j)) f := by
  intro F O env σ H x y dx dy dz Q S rx ry ef q
  obtain ⟨i, j, rfl, rfl, hc, rfl⟩ := h dx dy dz ef
  cases rx
  cases ry
  exact ⟨i, j, rfl, rfl, hc, q _ H S Ke.refl (.int _)⟩
theorem o_div : Op2s .s X.K (rI CDivW fun i j => .int (i / j)) dDiv := o_int fun dx dy dz h => by
  unfold dDiv at h
  split at h
  · rename_i i j
    obtain ⟨h1, rfl⟩ := if_ok h
    obtain ⟨h2, h3⟩ := Bool.and_eq_true_iff.mp h1
    exact ⟨i, j, rfl, rfl, ⟨of_decide_eq_true h2, of_decide_eq_true h3⟩, rfl⟩
  · cases h
theorem pd_div (ha : PD .s X Wx a ma) (hb : PD .s X Wx b mb) : PD .s X Wx (.BinOp a .FloorDiv b pos) (e2 dDiv ma mb) := pd_e2s o_div ha hb fun p q => pe_op op_fdivW p q
theorem o_mod : Op2s .s X.K (rI (fun _ j => 0 < j) fun i j => .int (i % j)) dMod := o_int fun dx dy dz h => by
  unfold dMod at h
  split at h
  · rename_i i j
    obtain ⟨h1, rfl⟩ := if_ok h
    exact ⟨i, j, rfl, rfl, of_decide_eq_true h1, rfl⟩
  · cases h
theorem pd_mod (ha : PD .s X Wx a ma) (hb : PD .s X Wx b mb) : PD .s X Wx (.BinOp a .Mod b pos) (e2 dMod ma mb) := pd_e2s o_mod ha hb fun p q => pe_op op_mod p q
theorem o_pow : Op2s .s X.K (rI CPow fun i j => .int (i ^ j.toNat)) dPow := o_int fun dx dy dz h => by
  unfold dPow at h
  split at h
  · rename_i i j
    obtain ⟨h1, rfl⟩ := if_ok h
    obtain ⟨h2, h3⟩ := Bool.and_eq_true_iff.mp h1
    obtain ⟨h4, h5⟩ := Bool.and_eq_true_iff.mp h2
    exact ⟨i, j, rfl, rfl, ⟨of_decide_eq_true h4, of_decide_eq_true h5, of_decide_eq_true h3⟩, rfl⟩
  · cases h
theorem pd_pow (ha : PD .s X Wx a ma) (hb : PD .s X Wx b mb) : PD .s X Wx (.BinOp a .Pow b pos) (e2 dPow ma mb) := pd_e2s o_pow ha hb fun p q => pe_op op_pow p q
theorem o_neg : Op1 .s X.K (rU fun i => .int (-i)) dNeg := by
  intro F O env σ H x dx dz Q S rx ef q
  unfold dNeg at ef
  split at ef
  · rename_i i
    cases ef
    exact ⟨i, rx.int', q _ H S Ke.refl (.int _)⟩
  · cases ef
theorem pd_neg (ha : PD .s X Wx a ma) : PD .s X Wx (.UnaryOp .USub a pos) (e1 dNeg ma) := pd_e1 o_neg ha.weak fun p => pe_un un_neg p
end
end AH
namespace AH
open PySem PySem.Spec PyProof.Rows L2
variable [TheK]
/-! ### data as the library's -/
mutual
def D.toP : D → PyData
  | .non => .none
  | .bl b => .bool b
  | .int i => .int i
  | .str s => .str s
  | .tup xs => .tuple (D.toPs xs)
  | .lst xs => .list (D.toPs xs)
  | _ => .none
def D.toPs : List D → List PyData
  | [] => []
  | x :: xs => D.toP x :: D.toPs xs
end
mutual
theorem D.eqv_toP : ∀ {n m : Nat} {x y : D}, x.plain n = true → y.plain m = true → PyData.eqv x.toP y.toP = x.eqv y
  | n, m, .non, y, h, h' => by cases y <;> first | rfl | (cases m <;> cases h')
  | n, m, .bl _, y, h, h' => by cases y <;> first | rfl | (cases m <;> cases h')
  | n, m, .int _, y, h, h' => by cases y <;> first | rfl | (cases m <;> cases h')
  | n, m, .str _, y, h, h' => by cases y <;> first | rfl | (cases m <;> cases h')
  | 0, m, .tup xs, y, h, h' => by cases h
  | 0, m, .lst xs, y, h, h' => by cases h
  | n + 1, 0, .tup xs, y, h, h' => by cases y <;> first | rfl | cases h'
  | n + 1, 0, .lst xs, y, h, h' => by cases y <;> first | rfl | cases h'
  | n + 1, m + 1, .tup xs, y, h, h' => by
    cases y with
    | tup ys => exact D.eqvL_toP (n := n) (m := m) (xs := xs) (ys := ys) h h'
    | _ => first | rfl | cases h'
  | n + 1, m + 1, .lst xs, y, h, h' => by
    cases y with
    | lst ys => exact D.eqvL_toP (n := n) (m := m) (xs := xs) (ys := ys) h h'
    | _ => first | rfl | cases h'
  | n, m, .dic _, y, h, h' => by cases n <;> cases h
  | n, m, .exc _ _ _, y, h, h' => by cases n <;> cases h
  | n, m, .obj _, y, h, h' => by cases n <;> cases h
theorem D.eqvL_toP : ∀ {n m : Nat} {xs ys : List D}, D.plainL n xs = true → D.plainL m ys = true → PyData.eqvAll (D.toPs xs) (D.toPs ys) = D.eqvL xs ys
  | n, m, [], [], h, h' => rfl
  | n, m, [], y :: ys, h, h' => rfl
  | n, m, x :: xs, [], h, h' => rfl
  | n, m, x :: xs, y :: ys, h, h' => by
    have h1 : x.plain n = true ∧ D.plainL n xs = true := Bool.and_eq_true_iff.mp h
    have h2 : y.plain m = true ∧ D.plainL m ys = true := Bool.and_eq_true_iff.mp h'
    show (PyData.eqv x.toP y.toP && PyData.eqvAll (D.toPs xs) (D.toPs ys)) = (D.eqv x y && D.eqvL xs ys)
    rw [D.eqv_toP h1.1 h2.1, D.eqvL_toP h1.2 h2.2]
end
mutual
theorem D.can_toP : ∀ {n : Nat} {x : D}, x.plain n = true → x.toP.canLay0 = true ∧ x.toP.depth ≤ n
  | n, .non, h => ⟨rfl, Nat.zero_le _⟩
  | n, .bl _, h => ⟨rfl, Nat.zero_le _⟩
  | n, .int _, h => ⟨rfl, Nat.zero_le _⟩
  | n, .str s, h => ⟨by cases n <;> exact h, Nat.zero_le _⟩
  | 0, .tup xs, h => by cases h
  | 0, .lst xs, h => by cases h
  | n + 1, .tup xs, h => let ⟨a, b⟩ := D.canL_toP (n := n) (xs := xs) h; ⟨a, Nat.succ_le_succ b⟩
  | n + 1, .lst xs, h => let ⟨a, b⟩ := D.canL_toP (n := n) (xs := xs) h; ⟨a, Nat.succ_le_succ b⟩
  | n, .dic _, h => by cases n <;> cases h
  | n, .exc _ _ _, h => by cases n <;> cases h
  | n, .obj _, h => by cases n <;> cases h
theorem D.canL_toP : ∀ {n : Nat} {xs : List D}, D.plainL n xs = true → PyData.canLayAll0 (D.toPs xs) = true ∧ PyData.depthAll (D.toPs xs) ≤ n
  | n, [], h => ⟨rfl, Nat.zero_le _⟩
  | n, x :: xs, h => by
    have h1 : x.plain n = true ∧ D.plainL n xs = true := Bool.and_eq_true_iff.mp h
    obtain ⟨a, b⟩ := D.can_toP h1.1
    obtain ⟨c, d⟩ := D.canL_toP h1.2
    exact ⟨Bool.and_eq_true_iff.mpr ⟨a, c⟩, Nat.max_le.mpr ⟨b, d⟩⟩
end
theorem D.shaped {x : D} (h : x.plain 40 = true) : SeqAt.shaped x.toP = true := by
  obtain ⟨a, b⟩ := D.can_toP h
  unfold SeqAt.shaped
  rw [a]
  exact decide_eq_true (Nat.le_trans b (by decide))
mutual
theorem Rep.dp {K : PySem.W.Frag} {W : Pr} {H : Hp} : ∀ {n : Nat} {v : V} {x : D}, Rep W H v x → x.plain n = true → Dp K H v x.toP
  | n, _, _, .non, _ => .non
  | n, _, _, .bl b, _ => .bl b
  | n, _, _, .int b, _ => .int b
  | n, _, _, .str b, _ => .str b
  | n + 1, _, _, .tup _ h l, p => .tup (.inl (.inl h)) (RepL.dp (n := n) l p)
  | n + 1, _, _, .lst _ h l, p => .lst (.inl (.inl h)) (RepL.dp (n := n) l p)
  | 0, _, _, .tup _ h l, p => nomatch p
  | 0, _, _, .lst _ h l, p => nomatch p
  | 0, _, _, .dic _ h l, p => nomatch p
  | n + 1, _, _, .dic _ h l, p => nomatch p
theorem RepL.dp {K : PySem.W.Frag} {W : Pr} {H : Hp} : ∀ {n : Nat} {v : List V} {x : List D}, RepL W H v x → D.plainL n x = true → DpAll K H v (D.toPs x)
  | n, _, _, .nil, _ => .nil
  | n, _, _, .cons r l, p => .cons (Rep.dp r (Bool.and_eq_true_iff.mp p).1) (RepL.dp l (Bool.and_eq_true_iff.mp p).2)
end
theorem RepW.dp {K : PySem.W.Frag} {W : Pr} {H : Hp} {n : Nat} {v : V} {x : D} (r : RepW K W H v x) (p : x.plain n = true) : Dp K H v x.toP := by
  cases r with
  | of r => exact r.dp p
  | tup s l => cases n with
    | zero => cases p
    | succ n => exact .tup s (RepL.dp (n := n) l p)
  | lst s l => cases n with
    | zero => cases p
    | succ n => exact .lst s (RepL.dp (n := n) l p)
  | dic s l => cases n <;> cases p
theorem toPs_any (d : D) (n m : Nat) (hd : d.plain n = true) : ∀ ys : List D, D.plainL m ys = true → ((D.toPs ys).any fun z => PyData.eqv z d.toP) = ys.any fun y => y.eqv d
  | [], _ => rfl
  | y :: ys, h => by
    have h1 : y.plain m = true ∧ D.plainL m ys = true := Bool.and_eq_true_iff.mp h
    show (PyData.eqv y.toP d.toP || (D.toPs ys).any fun z => PyData.eqv z d.toP) = (y.eqv d || ys.any fun y => y.eqv d)
    rw [D.eqv_toP h1.1 hd, toPs_any d n m hd ys h1.2]
section
variable {X : Cx} {Wx : WX} {e a b c d : Expr} {ma mb mc md : DE} {pos : Pos}
/-! ### comparisons -/
def Oc (K : PySem.W.Frag) (r : R2) (f : D → D → Rv Bool) : Prop := ∀ (W : Pr) (H : Hp) (x y : V) (dx dy : D) (b : Bool) (Q : VK),
  RepW K W H x dx → RepW K W H y dy → f dx dy = .ok b → Q (.bl b) H → r x y H Q
theorem oc_eq : Oc X.K (rEqD X.K) dEq := by
  intro W H x y dx dy b Q rx ry ef q
  unfold dEq at ef
  obtain ⟨h, rfl⟩ := if_ok ef
  obtain ⟨h1, h2⟩ := Bool.and_eq_true_iff.mp h
  exact ⟨_, _, rx.dp h1, ry.dp h2, D.shaped h1, D.shaped h2, by rw [D.eqv_toP h1 h2]; exact q⟩
theorem oc_ne : Oc X.K (rNeD X.K) dNe := by
  intro W H x y dx dy b Q rx ry ef q
  unfold dNe at ef
  obtain ⟨h, rfl⟩ := if_ok ef
  obtain ⟨h1, h2⟩ := Bool.and_eq_true_iff.mp h
  exact ⟨_, _, rx.dp h1, ry.dp h2, D.shaped h1, D.shaped h2, by rw [D.eqv_toP h1 h2]; exact q⟩
def rLtA (K : PySem.W.Frag) : R2 := fun x y H Q => rI0 (fun i j => .bl (decide (i < j))) x y H Q ∨ rLtT K x y H Q
theorem op_ltA (hu : X.A.units + 65 < cLine) : OpR X (compareOp .Lt) (rLtA X.K) := op_lt.or (op_ltT (by omega))
theorem oc_lt : Oc X.K (rLtA X.K) dLt := by
  intro W H x y dx dy b Q rx ry ef q
  unfold dLt at ef
  split at ef
  · cases ef; exact .inl ⟨_, _, rx.int', ry.int', q⟩
  · rename_i as bs
    obtain ⟨a1, vs1, rfl, s1, l1⟩ := rx.tup'
    obtain ⟨a2, vs2, rfl, s2, l2⟩ := ry.tup'
    split at ef
    · rename_i ns ms h1 h2
      cases ef
      refine .inr ⟨a1, a2, ns, ms, rfl, rfl, ?_, ?_, q⟩
      · rw [← l1.ints h1]; exact s1
      · rw [← l2.ints h2]; exact s2
    · cases ef
  · cases ef
theorem oc_int {p : Int → Int → Bool} {f : D → D → Rv Bool} (h : ∀ dx dy b, f dx dy = .ok b → ∃ i j, dx = .int i ∧ dy = .int j ∧ b = p i j) : Oc X.K (rI0 fun i j => .bl (p i j)) f := by
  intro W H x y dx dy b Q rx ry ef q
  obtain ⟨i, j, rfl, rfl, rfl⟩ := h dx dy b ef
  exact ⟨i, j, rx.int', ry.int', q⟩
theorem lexAt_shift {e r : Nat → Bool} {z : Bool} : ∀ n i : Nat, Ob.lexAt e r z (i + 1) n = Ob.lexAt (fun j => e (j + 1)) (fun j => r (j + 1)) z i n
  | 0, _ => rfl
  | n + 1, i => by rw [Ob.lexAt_succ, Ob.lexAt_succ, lexAt_shift n (i + 1)]
theorem lexAt_le : ∀ ns ms : List Int, Ob.lexAt (fun j => decide (ns.getD j 0 = ms.getD j 0)) (fun j => decide (ns.getD j 0 ≤ ms.getD j 0)) (decide (ns.length ≤ ms.length)) 0 (min ns.length ms.length) = lexLeI ns ms
  | [], ms => by rw [show min ([] : List Int).length ms.length = 0 from Nat.zero_min _]; exact decide_eq_true (Nat.zero_le _)
  | x :: xs, [] => by rfl
  | x :: xs, y :: ys => by
    rw [show min (x :: xs).length (y :: ys).length = min xs.length ys.length + 1 by simp, Ob.lexAt_succ, lexAt_shift]
    have ih := lexAt_le xs ys
    unfold lexLeI
    have e1 : decide ((x :: xs).length ≤ (y :: ys).length) = decide (xs.length ≤ ys.length) := by simp
    rw [e1]
    by_cases h : x = y
    · rw [if_pos h, if_pos (by simpa using h)]; exact ih
    · rw [if_neg h, if_neg (by simpa using h)]; rfl
def rLeA (K : PySem.W.Frag) : R2 := fun x y H Q => rI0 (fun i j => .bl (decide (i ≤ j))) x y H Q ∨ rLeT K x y H Q
theorem op_leA (hu : X.A.units + 65 < cLine) : OpR X (compareOp .LtE) (rLeA X.K) := op_le.or (op_leT (by omega))
theorem oc_le : Oc X.K (rLeA X.K) dLe := by
  intro W H x y dx dy b Q rx ry ef q
  unfold dLe at ef
  split at ef
  · cases ef; exact .inl ⟨_, _, rx.int', ry.int', q⟩
  · rename_i as bs
    obtain ⟨a1, vs1, rfl, s1, l1⟩ := rx.tup'
    obtain ⟨a2, vs2, rfl, s2, l2⟩ := ry.tup'
    split at ef
    · rename_i ns ms h1 h2
      cases ef
      refine .inr ⟨a1, a2, ns, ms, rfl, rfl, ?_, ?_, ?_⟩
      · rw [← l1.ints h1]; exact s1
      · rw [← l2.ints h2]; exact s2
      · rw [lexAt_le]; exact q
    · cases ef
  · cases ef
theorem oc_gt : Oc X.K (rI0 fun i j => .bl (decide (j < i))) dGt := oc_int fun dx dy b h => by
  unfold dGt at h
  split at h
  · cases h; exact ⟨_, _, rfl, rfl, rfl⟩
  · cases h
theorem oc_ge : Oc X.K (rI0 fun i j => .bl (decide (j ≤ i))) dGe := oc_int fun dx dy b h => by
  unfold dGe at h
  split at h
  · cases h; exact ⟨_, _, rfl, rfl, rfl⟩
  · cases h
/-- a comparison's rule and its word -/
structure CmpK (X : Cx) (op : CmpOp) (f : D → D → Rv Bool) : Prop where
  ok : ∃ r : R2, OpR X (compareOp op) r ∧ Oc X.K r f
theorem ck_eq (hu : X.A.units + 65 < cLine) : CmpK X .Eq dEq := ⟨_, op_eqD (by omega), oc_eq⟩
theorem ck_ne (hu : X.A.units + 65 < cLine) : CmpK X .NotEq dNe := ⟨_, op_neD (by omega), oc_ne⟩
theorem ck_lt (hu : X.A.units + 65 < cLine) : CmpK X .Lt dLt := ⟨_, op_ltA hu, oc_lt⟩
theorem ck_le (hu : X.A.units + 65 < cLine) : CmpK X .LtE dLe := ⟨_, op_leA hu, oc_le⟩
theorem ck_gt : CmpK X .Gt dGt := ⟨_, op_gt, oc_gt⟩
theorem ck_ge : CmpK X .GtE dGe := ⟨_, op_ge, oc_ge⟩
theorem pd_cmp {op : CmpOp} {f : D → D → Rv Bool} (ck : CmpK X op f) (ha : PD .s X Wx a ma) (hb : PD .w X Wx b mb) (hm : behindInMarks op b = false) : PD .s X Wx (.Compare a [op] [b] pos) (eB (c2 f ma mb)) := by
  obtain ⟨⟨r, ho, oc⟩⟩ := ck
  obtain ⟨ta, pa, qa⟩ := ha
  obtain ⟨tb, pb, qb⟩ := hb
  refine ⟨_, pe_cmpR ho pa pb hm, fun F O env σ H Q S w => ?_⟩
  have w := w.bind
  refine qa F O env σ H _ S (w.bind.imp (fun dx e1 w1 x H1 S1 k1 p1 => ?_) fun _ _ _ z => z)
  refine qb F O e1 σ H1 _ S1 (w1.bind.imp (fun dy e2 w2 y H2 S2 k2 p2 => ?_) (XW.later k1))
  obtain ⟨dz, ef, q⟩ := w2.of
  exact oc _ H2 x y dx dy dz Q (.of (Rep.mj k2 p1)) p2 ef (q _ H2 S2 (k1.trans k2) (.bl _))
theorem td_cmp {op : CmpOp} {f : D → D → Rv Bool} (ck : CmpK X op f) (ha : PD .s X Wx a ma) (hb : PD .w X Wx b mb) (hm : behindInMarks op b = false) : TD X Wx (.Compare a [op] [b] pos) (c2 f ma mb) := by
  obtain ⟨⟨r, ho, oc⟩⟩ := ck
  obtain ⟨ta, pa, qa⟩ := ha
  obtain ⟨tb, pb, qb⟩ := hb
  refine ⟨_, pt_cmpR ho pa pb hm, fun F O env σ H Q S w => ?_⟩
  refine qa F O env σ H _ S (w.bind.imp (fun dx e1 w1 x H1 S1 k1 p1 => ?_) fun _ _ _ z => z)
  refine qb F O e1 σ H1 _ S1 (w1.bind.imp (fun dy e2 w2 y H2 S2 k2 p2 => ?_) (XW.later k1))
  obtain ⟨dz, ef, q⟩ := w2.of
  exact oc _ H2 x y dx dy dz _ (.of (Rep.mj k2 p1)) p2 ef ⟨dz, rfl, q H2 S2 (k1.trans k2)⟩
/-- .. with a name's own object at the left -/
theorem td_cmpL {op : CmpOp} {f : D → D → Rv Bool} {i : Nat} {x : Str} {p : Pos} (ck : CmpK X op f) (hN : X.N[i]? = some x) (hv : Vis X.env.scope x) (hb : PD .w X Wx b mb) (hm : behindInMarks op b = false)
    (hd : (x == ("__debug__" : Str)) = false := by decide) (hcd : (x == ("__classdict__" : Str)) = false := by decide) : TD X Wx (.Compare (.Name x p) [op] [b] pos) (c2L f i mb) := by
  obtain ⟨⟨r, ho, oc⟩⟩ := ck
  obtain ⟨tb, pb, qb⟩ := hb
  refine ⟨_, pt_cmpR ho (pe_var hN hv hd hcd) pb hm, fun F O env σ H Q S w => ?_⟩
  obtain ⟨v, d, e, r, w⟩ := w.bind.tmp S
  refine ⟨v, get1_some e, ?_⟩
  refine qb F O env σ H _ S (w.bind.imp (fun dy e2 w2 y H2 S2 k2 p2 => ?_) fun _ _ _ z => z)
  obtain ⟨v', dx, ex, rx, w3⟩ := w2.bind.tmp S2
  obtain rfl : v' = v := Option.some.inj (ex.symm.trans e)
  obtain ⟨dz, ef, q⟩ := w3.of
  exact oc _ H2 v' y dx dy dz _ rx p2 ef ⟨dz, rfl, q H2 S2 k2⟩
/-- is None -/
theorem isN_dec {K : PySem.W.Frag} {W : Pr} {H : Hp} {v : V} {d : D} (r : RepW K W H v d) : decide (v = .non) = dIsN d := by
  cases r with
  | of r => cases r <;> first | rfl | exact decide_eq_false (fun z => nomatch z)
  | _ => exact decide_eq_false (fun z => nomatch z)
theorem pd_isN {j : Nat} {p : Pos} (ha : PD .w X Wx a ma) : PD .s X Wx (.Compare a [.Is] [.Constant .none j p] pos) (eB (tIsN ma)) := by
  obtain ⟨ta, pa, qa⟩ := ha
  refine ⟨_, pe_cmp (pc_isN pa), fun F O env σ H Q S w => ?_⟩
  refine qa F O env σ H _ S (w.bind.bind.imp (fun dx e1 w1 x H1 S1 k1 p1 => ?_) fun _ _ _ z => z)
  rw [isN_dec p1]
  exact w1 _ H1 S1 k1 (.bl _)
theorem td_isN {j : Nat} {p : Pos} (ha : PD .w X Wx a ma) : TD X Wx (.Compare a [.Is] [.Constant .none j p] pos) (tIsN ma) := by
  obtain ⟨ta, pa, qa⟩ := ha
  refine ⟨_, pt_cmp (pc_isN pa), fun F O env σ H Q S w => ?_⟩
  refine qa F O env σ H _ S (w.bind.imp (fun dx e1 w1 x H1 S1 k1 p1 => ?_) fun _ _ _ z => z)
  rw [isN_dec p1]
  exact ⟨_, rfl, w1 H1 S1 k1⟩
theorem td_notN {j : Nat} {p : Pos} (ha : PD .w X Wx a ma) : TD X Wx (.Compare a [.IsNot] [.Constant .none j p] pos) (tNotN ma) := by
  obtain ⟨ta, pa, qa⟩ := ha
  refine ⟨_, pt_cmp (pc_notN pa), fun F O env σ H Q S w => ?_⟩
  refine qa F O env σ H _ S (w.bind.imp (fun dx e1 w1 x H1 S1 k1 p1 => ?_) fun _ _ _ z => z)
  rw [isN_dec p1]
  exact ⟨_, rfl, w1 H1 S1 k1⟩
/-! ### chains -/
theorem pd_chain {op op' : CmpOp} {f g : D → D → Rv Bool} (ck : CmpK X op f) (ck' : CmpK X op' g) (ha : PD .s X Wx a ma) (hb : PD .s X Wx b mb) (hc : PD .w X Wx c mc)
    (hm : lastMarks [op, op'] [b, c] = false := by with_unfolding_all rfl) : PD .s X Wx (.Compare a [op, op'] [b, c] pos) (eB (c3 f g ma mb mc)) := by
  obtain ⟨⟨r, ho, oc⟩⟩ := ck
  obtain ⟨⟨r', ho', oc'⟩⟩ := ck'
  obtain ⟨ta, pa, qa⟩ := ha
  obtain ⟨tb, pb, qb⟩ := hb
  obtain ⟨tc, pc, qc⟩ := hc
  refine ⟨_, pe_chain ho ho' pa pb pc hm, fun F O env σ H Q S w => ?_⟩
  have w := w.bind
  refine qa F O env σ H _ S (w.bind.imp (fun dx e1 w1 x H1 S1 k1 p1 => ?_) fun _ _ _ z => z)
  refine qb F O e1 σ H1 _ S1 (w1.bind.imp (fun dy e2 w2 y H2 S2 k2 p2 => ?_) (XW.later k1))
  obtain ⟨k, ef, w3⟩ := w2.bind.of
  refine oc _ H2 x y dx dy k _ (.of (Rep.mj k2 p1)) (.of p2) ef ⟨k, rfl, ?_⟩
  cases k with
  | false => exact w3 _ H2 S2 (k1.trans k2) (.bl _)
  | true =>
    refine qc F O e2 σ H2 _ S2 (w3.bind.imp (fun dz e3 w4 z H3 S3 k3 p3 => ?_) (XW.later (k1.trans k2)))
    obtain ⟨l, eg, q⟩ := w4.of
    exact oc' _ H3 y z dy dz l Q (.of (Rep.mj k3 p2)) p3 eg (q _ H3 S3 (k1.trans (k2.trans k3)) (.bl _))
theorem td_chain {op op' : CmpOp} {f g : D → D → Rv Bool} (ck : CmpK X op f) (ck' : CmpK X op' g) (ha : PD .s X Wx a ma) (hb : PD .s X Wx b mb) (hc : PD .w X Wx c mc)
    (hm : lastMarks [op, op'] [b, c] = false := by with_unfolding_all rfl) : TD X Wx (.Compare a [op, op'] [b, c] pos) (c3 f g ma mb mc) := by
  obtain ⟨⟨r, ho, oc⟩⟩ := ck
  obtain ⟨⟨r', ho', oc'⟩⟩ := ck'
  obtain ⟨ta, pa, qa⟩ := ha
  obtain ⟨tb, pb, qb⟩ := hb
  obtain ⟨tc, pc, qc⟩ := hc
  refine ⟨_, pt_chain ho ho' pa pb pc hm, fun F O env σ H Q S w => ?_⟩
  refine qa F O env σ H _ S (w.bind.imp (fun dx e1 w1 x H1 S1 k1 p1 => ?_) fun _ _ _ z => z)
  refine qb F O e1 σ H1 _ S1 (w1.bind.imp (fun dy e2 w2 y H2 S2 k2 p2 => ?_) (XW.later k1))
  obtain ⟨k, ef, w3⟩ := w2.bind.of
  refine oc _ H2 x y dx dy k _ (.of (Rep.mj k2 p1)) (.of p2) ef ⟨k, rfl, ?_⟩
  cases k with
  | false => exact ⟨false, rfl, w3 H2 S2 (k1.trans k2)⟩
  | true =>
    refine qc F O e2 σ H2 _ S2 (w3.bind.imp (fun dz e3 w4 z H3 S3 k3 p3 => ?_) (XW.later (k1.trans k2)))
    obtain ⟨l, eg, q⟩ := w4.of
    exact oc' _ H3 y z dy dz l _ (.of (Rep.mj k3 p2)) p3 eg ⟨l, rfl, q H3 S3 (k1.trans (k2.trans k3))⟩
end
end AH
namespace AH
open PySem PySem.Spec PyProof.Rows L2
variable [TheK]
section
variable {X : Cx} {Wx : WX} {e a b c d : Expr} {ma mb mc md : DE} {pos : Pos}
/-! ### a < b < c < d -/
/-! ### in -/
def rInT (K : PySem.W.Frag) : R2 := fun x y H Q => ∃ d ds, Dp K H x d ∧ Dp K H y (.tuple ds) ∧ SeqAt.shaped d = true ∧ SeqAt.shaped (.tuple ds) = true ∧ Q (.bl (ds.any fun z => PyData.eqv z d)) H
theorem op_inT (hu : X.A.units + 65 < cLine) : OpR X (compareOp .In) (rInT X.K) := by
  intro pins s σ H x y v u Q I rx ry h
  obtain ⟨d, ds, hd, he, sd, se, q⟩ := h
  obtain ⟨as, r1⟩ := Dp.reads I d x v hd rx
  obtain ⟨bs, r2⟩ := Dp.reads I (.tuple ds) y u he ry
  exact SeqAt.in_tuple_reads r2 r1 (SeqAt.canLay_of_shaped se) (SeqAt.canLay_of_shaped sd) (room_in_shaped sd hu) ⟨.bl _, H, I, rfl, q⟩
def rInK : R2 := fun y x H Q => ∃ a o, x = .ref a ∧ DGet H a y o ∧ Q (.bl o.isSome) H
theorem op_inK (hu : X.A.units + 65 < cLine) : OpR X (compareOp .In) rInK := by
  intro pins s σ H x y v u Q I rx ry h
  obtain ⟨a, o, rfl, g, q⟩ := h
  cases ry
  exact d_in (by omega) I g rx fun s3 I3 => ⟨.bl o.isSome, H, I3, rfl, q⟩
theorem keyI_rep {K : PySem.W.Frag} {W : Pr} {H : Hp} {v : V} {d : D} {k : Key} (r : Rep W H v d) (h : keyI d = some k) : v = kV k := by
  cases r <;> first | (cases h; rfl) | cases h
theorem keysL_rep {W : Pr} {H : Hp} : ∀ {vs : List V} {ds : List D} {ks : List Key}, RepL W H vs ds → keysL ds = some ks → vs = ks.map kV
  | _, _, _, .nil, h => by cases h; rfl
  | _, _, ks, .cons (d := d) (ds := ds) r l, h => by
    unfold keysL at h
    cases h1 : keyI d with
    | none => rw [h1] at h; cases h
    | some k =>
      cases h2 : keysL ds with
      | none => rw [h1, h2] at h; cases h
      | some ks' =>
        rw [h1, h2] at h
        cases h
        rw [List.map_cons, keysL_rep l h2, keyI_rep (K := []) r h1]
theorem keyD_rep {W : Pr} {H : Hp} {v : V} {d : D} {k : List Key} (r : Rep W H v d) (h : keyD d = some k) : ∃ b, v = .ref b ∧ H b = some (.tup (k.map kV)) := by
  cases r with
  | tup n h1 l => exact ⟨_, rfl, by rw [← keysL_rep l h]; exact h1⟩
  | _ => cases h
theorem RepK.val {W : Pr} {H : Hp} (k : List Key) : ∀ {ks : List (List Key × V)} {kvs : List (List Key × D)}, RepK W H ks kvs → (valV ks k = none ∧ dget kvs k = none) ∨ ∃ v d, valV ks k = some v ∧ dget kvs k = some d ∧ Rep W H v d
  | _, _, .nil => .inl ⟨rfl, rfl⟩
  | _, _, .cons (k := k') r l => by
    by_cases e : k' = k
    · refine .inr ⟨_, _, valV_pos e, ?_, r⟩
      unfold dget
      simp [List.find?_cons, e]
    · rcases RepK.val k l with ⟨h1, h2⟩ | ⟨v, d, h1, h2, h3⟩
      · refine .inl ⟨by rw [valV_neg e]; exact h1, ?_⟩
        unfold dget at h2 ⊢
        simp [List.find?_cons, e]
        simpa using h2
      · refine .inr ⟨v, d, by rw [valV_neg e]; exact h1, ?_, h3⟩
        unfold dget at h2 ⊢
        simp [List.find?_cons, e]
        simpa using h2
theorem dget_of {W : Pr} {H : Hp} {a b : Addr} {ks : List (List Key × V)} {kvs : List (List Key × D)} {k : List Key} (r : RepK W H ks kvs) (ha : Rd H a (.dT ks)) (hb : H b = some (.tup (k.map kV))) : DGet H a (.ref b) (valV ks k) := .inr ⟨ks, k, b, ha, rfl, hb, rfl⟩
def rInA (K : PySem.W.Frag) : R2 := fun x y H Q => rInD K x y H Q ∨ rInT K x y H Q ∨ rInK x y H Q
/-- what stands at the left stays -/
def Oi (K : PySem.W.Frag) (r : R2) (f : D → D → Rv Bool) : Prop := ∀ (W : Pr) (H : Hp) (x y : V) (dx dy : D) (b : Bool) (Q : VK),
  Rep W H x dx → RepW K W H y dy → f dx dy = .ok b → Q (.bl b) H → r x y H Q
theorem oi_in : Oi X.K (rInA X.K) dIn := by
  intro W H x y dx dy b Q rx ry ef q
  unfold dIn at ef
  split at ef
  · rename_i ys
    obtain ⟨h, rfl⟩ := if_ok ef
    obtain ⟨h1, h2⟩ := Bool.and_eq_true_iff.mp h
    exact .inl ⟨_, _, rx.dp h1, ry.dp (n := 40) h2, D.shaped h1, D.shaped (x := .lst ys) h2, by rw [toPs_any dx 40 39 h1 ys h2]; exact q⟩
  · rename_i ys
    obtain ⟨h, rfl⟩ := if_ok ef
    obtain ⟨h1, h2⟩ := Bool.and_eq_true_iff.mp h
    exact .inr (.inl ⟨_, _, rx.dp h1, ry.dp (n := 40) h2, D.shaped h1, D.shaped (x := .tup ys) h2, by rw [toPs_any dx 40 39 h1 ys h2]; exact q⟩)
  · rename_i kvs
    split at ef
    · rename_i k hk
      cases ef
      obtain ⟨a, ks, rfl, ha, l⟩ := ry.dic'
      obtain ⟨b, rfl, hb⟩ := keyD_rep rx hk
      refine .inr (.inr ⟨a, _, rfl, dget_of l ha hb, ?_⟩)
      rcases l.val k with ⟨h1, h2⟩ | ⟨v, d, h1, h2, _⟩
      · rw [h2] at q; rw [h1]; exact q
      · rw [h2] at q; rw [h1]; exact q
    · cases ef
  · cases ef
structure InK (X : Cx) (op : CmpOp) (f : D → D → Rv Bool) : Prop where
  ok : ∃ r : R2, OpR X (compareOp op) r ∧ Oi X.K r f
theorem ik_in (hu : X.A.units + 65 < cLine) : InK X .In dIn := ⟨_, (op_inD hu).or ((op_inT hu).or (op_inK hu)), oi_in⟩
theorem pd_in {op : CmpOp} {f : D → D → Rv Bool} (ck : InK X op f) (ha : PD .s X Wx a ma) (hb : PD .w X Wx b mb) (hm : behindInMarks op b = false) : PD .s X Wx (.Compare a [op] [b] pos) (eB (c2 f ma mb)) := by
  obtain ⟨⟨r, ho, oc⟩⟩ := ck
  obtain ⟨ta, pa, qa⟩ := ha
  obtain ⟨tb, pb, qb⟩ := hb
  refine ⟨_, pe_cmpR ho pa pb hm, fun F O env σ H Q S w => ?_⟩
  have w := w.bind
  refine qa F O env σ H _ S (w.bind.imp (fun dx e1 w1 x H1 S1 k1 p1 => ?_) fun _ _ _ z => z)
  refine qb F O e1 σ H1 _ S1 (w1.bind.imp (fun dy e2 w2 y H2 S2 k2 p2 => ?_) (XW.later k1))
  obtain ⟨dz, ef, q⟩ := w2.of
  exact oc _ H2 x y dx dy dz Q (Rep.mj k2 p1) p2 ef (q _ H2 S2 (k1.trans k2) (.bl _))
theorem td_in {op : CmpOp} {f : D → D → Rv Bool} (ck : InK X op f) (ha : PD .s X Wx a ma) (hb : PD .w X Wx b mb) (hm : behindInMarks op b = false) : TD X Wx (.Compare a [op] [b] pos) (c2 f ma mb) := by
  obtain ⟨⟨r, ho, oc⟩⟩ := ck
  obtain ⟨ta, pa, qa⟩ := ha
  obtain ⟨tb, pb, qb⟩ := hb
  refine ⟨_, pt_cmpR ho pa pb hm, fun F O env σ H Q S w => ?_⟩
  refine qa F O env σ H _ S (w.bind.imp (fun dx e1 w1 x H1 S1 k1 p1 => ?_) fun _ _ _ z => z)
  refine qb F O e1 σ H1 _ S1 (w1.bind.imp (fun dy e2 w2 y H2 S2 k2 p2 => ?_) (XW.later k1))
  obtain ⟨dz, ef, q⟩ := w2.of
  exact oc _ H2 x y dx dy dz _ (Rep.mj k2 p1) p2 ef ⟨dz, rfl, q H2 S2 (k1.trans k2)⟩
/-! ### and, or, not, if -/
theorem td_val (ha : PD .s X Wx a ma) (he : ∀ whole, isTrue a X.env whole = (do let v ← whole; standAt a.pos; holding [v] (truthy v)) := by intro _; rfl) : TD X Wx a (tV ma) := by
  obtain ⟨ta, pa, qa⟩ := ha
  refine ⟨_, pt_val pa he, fun F O env σ H Q S w => ?_⟩
  refine qa F O env σ H _ S (w.bind.imp (fun dx e1 w1 x H1 S1 k1 p1 => ?_) fun _ _ _ z => z)
  cases p1 with
  | bl b => exact ⟨b, rfl, w1 H1 S1 k1⟩
  | _ => exact w1.elim
theorem td_not {m : DT} (h : TD X Wx a m) : TD X Wx (.UnaryOp .Not a pos) (AH.tNot m) := by
  obtain ⟨t, p, q⟩ := h
  exact ⟨_, pt_not p, fun F O env σ H Q S w => q F O env σ H _ S (w.bind.imp (fun b e1 w1 H1 S1 k1 => w1 H1 S1 k1) fun _ _ _ z => z)⟩
theorem wd_and1 {m : DT} (h : TD X Wx a m) : WD X Wx (.BoolOp .And [a] pos) m := let ⟨t, p, q⟩ := h; ⟨t, pw_and1 p, q⟩
theorem wd_or1 {m : DT} (h : TD X Wx a m) : WD X Wx (.BoolOp .Or [a] pos) m := let ⟨t, p, q⟩ := h; ⟨t, pw_or1 p, q⟩
theorem wd_and {m n : DT} {rest : List Expr} (h : TD X Wx a m) (h' : WD X Wx (.BoolOp .And (b :: rest) pos) n) : WD X Wx (.BoolOp .And (a :: b :: rest) pos) (AH.tAnd m n) := by
  obtain ⟨t, p, q⟩ := h
  obtain ⟨t', p', q'⟩ := h'
  refine ⟨_, pw_and p p', fun F O env σ H Q S w => q F O env σ H _ S (w.bind.imp (fun b e1 w1 H1 S1 k1 => ?_) fun _ _ _ z => z)⟩
  cases b with
  | true => exact q' F O e1 σ H1 _ S1 (Want.imp (m := n) w1 (fun b e2 w2 H2 S2 k2 => w2 H2 S2 (k1.trans k2)) (XW.later k1))
  | false => exact w1 H1 S1 k1
theorem wd_or {m n : DT} {rest : List Expr} (h : TD X Wx a m) (h' : WD X Wx (.BoolOp .Or (b :: rest) pos) n) : WD X Wx (.BoolOp .Or (a :: b :: rest) pos) (AH.tOr m n) := by
  obtain ⟨t, p, q⟩ := h
  obtain ⟨t', p', q'⟩ := h'
  refine ⟨_, pw_or p p', fun F O env σ H Q S w => q F O env σ H _ S (w.bind.imp (fun b e1 w1 H1 S1 k1 => ?_) fun _ _ _ z => z)⟩
  cases b with
  | false => exact q' F O e1 σ H1 _ S1 (Want.imp (m := n) w1 (fun b e2 w2 H2 S2 k2 => w2 H2 S2 (k1.trans k2)) (XW.later k1))
  | true => exact w1 H1 S1 k1
theorem pd_if {fl : Fl} {m : DT} (hc : TD X Wx c m) (ha : PD fl X Wx a ma) (hb : PD fl X Wx b mb) : PD fl X Wx (.IfExp c a b pos) (eIf m ma mb) := by
  obtain ⟨t, p, q⟩ := hc
  obtain ⟨ta, pa, qa⟩ := ha
  obtain ⟨tb, pb, qb⟩ := hb
  refine ⟨_, pe_ifExp p pa pb, fun F O env σ H Q S w => q F O env σ H _ S (w.bind.imp (fun b e1 w1 H1 S1 k1 => ?_) fun _ _ _ z => z)⟩
  cases b with
  | true => exact qa F O e1 σ H1 _ S1 (Want.imp (m := ma) w1 (fun d e2 w2 v H2 S2 k2 r => w2 v H2 S2 (k1.trans k2) (r.back k1)) (XW.later k1))
  | false => exact qb F O e1 σ H1 _ S1 (Want.imp (m := mb) w1 (fun d e2 w2 v H2 S2 k2 r => w2 v H2 S2 (k1.trans k2) (r.back k1)) (XW.later k1))
theorem pd_one {fl : Fl} {op : BoolOp} (h : PD fl X Wx a ma) : PD fl X Wx (.BoolOp op [a] pos) ma := let ⟨t, p, q⟩ := h; ⟨t, pe_one p, q⟩
theorem pd_and {rest : List Expr} (ha : PD .s X Wx a ma) (hb : PD .s X Wx (.BoolOp .And (b :: rest) pos) mb) : PD .s X Wx (.BoolOp .And (a :: b :: rest) pos) (eAnd ma mb) := by
  obtain ⟨ta, pa, qa⟩ := ha
  obtain ⟨tb, pb, qb⟩ := hb
  refine ⟨_, pe_and pa pb, fun F O env σ H Q S w => ?_⟩
  have w := w.bind
  refine qa F O env σ H _ S (w.bind.imp (fun dx e1 w1 x H1 S1 k1 p1 => ?_) fun _ _ _ z => z)
  cases p1 with
  | bl k =>
    refine ⟨k, rfl, ?_⟩
    cases k with
    | true => exact qb F O e1 σ H1 _ S1 (Want.imp (m := mb) w1 (fun d e2 w2 v H2 S2 k2 r => w2 v H2 S2 (k1.trans k2) r) (XW.later k1))
    | false => exact w1 _ H1 S1 k1 (.bl _)
  | _ => exact w1.elim
theorem pd_not (ha : PD .s X Wx a ma) : PD .s X Wx (.UnaryOp .Not a pos) (eNot ma) := by
  obtain ⟨ta, pa, qa⟩ := ha
  refine ⟨_, pe_not pa, fun F O env σ H Q S w => ?_⟩
  have w := w.bind
  refine qa F O env σ H _ S (w.bind.imp (fun dx e1 w1 x H1 S1 k1 p1 => ?_) fun _ _ _ z => z)
  cases p1 with
  | bl k => exact ⟨k, rfl, w1 _ H1 S1 k1 (.bl _)⟩
  | _ => exact w1.elim
theorem truth_tru {K : PySem.W.Frag} {W : Pr} {H : Hp} {v : V} {d : D} {k : Bool} (r : Rep W H v d) (h : truth d = .ok k) : TruV K v H k := by
  cases r with
  | non => cases h; exact rfl
  | bl b => cases h; exact rfl
  | int i => cases h; exact rfl
  | str s => cases h
  | dic n e l => cases h
  | obj _ _ _ _ _ => cases h
  | exc _ _ _ _ _ _ => cases h
  | lst n e l =>
    cases h
    refine .inl ⟨_, .inl (.inl e), ?_⟩
    cases l <;> rfl
  | tup n e l =>
    cases h
    refine .inr (.inl ⟨_, .inl (.inl e), ?_⟩)
    cases l <;> rfl
/-- x or y by truth, both new lists -/
theorem pd_orT {fl : Fl} (ha : PD fl X Wx a ma) (hb : PD fl X Wx b mb) (hfl : fl = .f ∨ fl = .s) : PD fl X Wx (.BoolOp .Or [a, b] pos) (eOrT ma mb) := by
  obtain ⟨ta, pa, qa⟩ := ha
  obtain ⟨tb, pb, qb⟩ := hb
  refine ⟨_, pe_orT pa (pe_one pb), fun F O env σ H Q S w => ?_⟩
  refine qa F O env σ H _ S (w.bind.imp (fun dx e1 w1 x H1 S1 k1 p1 => ?_) fun _ _ _ z => z)
  obtain ⟨k, ef, w2⟩ := w1.bind.of
  have rs : Rep (Ow F O) H1 x dx := by
    rcases hfl with rfl | rfl
    · exact Po.s_of_f (K := X.K) (fun p hp => S.noW hp) p1
    · exact p1
  refine ⟨k, truth_tru rs ef, ?_⟩
  cases k with
  | true => exact w2 _ H1 S1 k1 p1
  | false => exact qb F O e1 σ H1 _ S1 (Want.imp (m := mb) w2 (fun d e2 w2 v H2 S2 k2 r => w2 v H2 S2 (k1.trans k2) (r.back k1)) (XW.later k1))
/-! ### argument lists, displays -/
theorem ad_nil : AD X Wx [] aNil := ⟨_, pa_nil, fun F O env σ H Q S w => w [] H S Ke.refl .nil⟩
theorem ad_cons {es : List Expr} {m : DL} (ha : PD .s X Wx a ma) (hr : AD X Wx es m) (hs : starEach (a :: es) X.env = (false, eval a X.env) :: starEach es X.env := by rfl) : AD X Wx (a :: es) (aCons ma m) := by
  obtain ⟨ta, pa, qa⟩ := ha
  obtain ⟨tb, pb, qb⟩ := hr
  refine ⟨_, pa_cons pa pb hs, fun F O env σ H Q S w => ?_⟩
  refine qa F O env σ H _ S (w.bind.imp (fun dx e1 w1 x H1 S1 k1 p1 => ?_) fun _ _ _ z => z)
  exact qb F O e1 σ H1 _ S1 (w1.bind.imp (fun ds e2 w2 vs H2 S2 k2 p2 => w2 _ H2 S2 (k1.trans k2) (.cons (Rep.mj k2 p1) p2)) (XW.later k1))
theorem pd_tup {es : List Expr} {m : DL} {k : Nat} (h : AD X Wx es m) : PD .s X Wx (.Tuple es k pos) (eTup m) := by
  obtain ⟨t, p, q⟩ := h
  refine ⟨_, pe_tup p, fun F O env σ H Q S w => ?_⟩
  refine q F O env σ H _ S (w.bind.imp (fun ds e1 w1 vs H1 S1 k1 p1 => ?_) fun _ _ _ z => z)
  cases hz : lenOk ds.length with
  | false => rw [hz] at w1; exact w1.elim
  | true =>
    rw [hz] at w1
    refine ⟨by rw [p1.len]; exact lenOk_of hz, fun p hp => ?_⟩
    exact new_tup S1 p1 (fun z H' S' k2 r => w1 z H' S' (k1.trans k2) r) hp
theorem pd_lst {es : List Expr} {m : DL} (h : AD X Wx es m) : PD .f X Wx (.List es pos) (eLst m) := by
  obtain ⟨t, p, q⟩ := h
  refine ⟨_, pe_lst p, fun F O env σ H Q S w => ?_⟩
  refine q F O env σ H _ S (w.bind.imp (fun ds e1 w1 vs H1 S1 k1 p1 => ?_) fun _ _ _ z => z)
  cases hz : lenOk ds.length with
  | false => rw [hz] at w1; exact w1.elim
  | true =>
    rw [hz] at w1
    refine ⟨by rw [p1.len]; exact lenOk_of hz, fun p hp => ?_⟩
    exact new_lst S1 p1 (fun z H' S' k2 r => w1 z H' S' (k1.trans k2) (r.back k1)) hp
/-! ### items, slices -/
def rIxK : R2 := fun x y H Q => ∃ a v, x = .ref a ∧ DGet H a y (some v) ∧ Q v H
theorem ix_dict (hu : X.A.units + 65 < cLine) : IxR X rIxK := by
  intro value slice pins s σ H x y v u Q I rx ry h hs
  obtain ⟨a, z, rfl, g, q⟩ := h
  cases rx
  exact tail_any (dict_typeIs I g) PySem.F.slot_dict_getitem.lookup (d_getItem (by omega) I g ry fun w' s' I' r => ⟨z, H, I', r, q⟩) hs
def rIxA (K : PySem.W.Frag) : R2 := fun x y H Q => rIxL K x y H Q ∨ rIxT K x y H Q ∨ rIxK x y H Q
theorem ix_any (hu : X.A.units + 65 < cLine) : IxR X (rIxA X.K) := ix_list.or (ix_tup.or (ix_dict hu))
def Op2k (fl : Fl) (K : PySem.W.Frag) (r : R2) (f : D → D → Rv D) : Prop := ∀ (F : Fm) (O : Nat → Option Addr) (env : Env) (σ : L2.St) (H : Hp) (x y : V) (dx dy dz : D) (Q : VK), SR K F O env σ H →
  RepW K (Ow F O) H x dx → Rep (Ow F O) H y dy → f dx dy = .ok dz → (∀ z H', SR K F O env σ H' → Ke (Jo O) H H' → Po fl K F O env σ H H' z dz → Q z H') → r x y H Q
theorem o_ix : Op2k .s X.K (rIxA X.K) dIx := by
  intro F O env σ H x y dx dy dz Q S rx ry ef q
  unfold dIx at ef
  split at ef
  · obtain ⟨a, vs, rfl, s, l⟩ := rx.lst'
    split at ef
    · rename_i z hz
      cases ef
      obtain ⟨v, hv, r⟩ := l.at hz
      cases ry
      exact .inl ⟨a, vs, _, v, rfl, rfl, s, hv, q _ H S Ke.refl r⟩
    · cases ef
  · obtain ⟨a, vs, rfl, s, l⟩ := rx.tup'
    split at ef
    · rename_i z hz
      cases ef
      obtain ⟨v, hv, r⟩ := l.at hz
      cases ry
      exact .inr (.inl ⟨a, vs, _, v, rfl, rfl, s, hv, q _ H S Ke.refl r⟩)
    · cases ef
  · obtain ⟨a, ks, rfl, s, l⟩ := rx.dic'
    split at ef
    · rename_i k hk
      split at ef
      · rename_i z hz
        cases ef
        obtain ⟨b, rfl, hb⟩ := keyD_rep ry hk
        rcases l.val k with ⟨h1, h2⟩ | ⟨v, d, h1, h2, r⟩
        · rw [h2] at hz; cases hz
        · rw [h2] at hz
          cases hz
          exact .inr (.inr ⟨a, v, rfl, by rw [← h1]; exact dget_of l s hb, q _ H S Ke.refl r⟩)
      · cases ef
    · cases ef
  · cases ef
theorem pd_ix (hu : X.A.units + 65 < cLine) (ha : PD .s X Wx a ma) (hb : PD .s X Wx b mb) (hs : PlainIx b := by intro _ _; rfl) : PD .s X Wx (.Subscript a b pos) (e2 dIx ma mb) := by
  obtain ⟨ta, pa, qa⟩ := ha
  obtain ⟨tb, pb, qb⟩ := hb
  refine ⟨_, pe_ix (ix_any hu) pa pb hs, fun F O env σ H Q S w => ?_⟩
  refine qa F O env σ H _ S (w.bind.imp (fun dx e1 w1 x H1 S1 k1 p1 => ?_) fun _ _ _ z => z)
  refine qb F O e1 σ H1 _ S1 (w1.bind.imp (fun dy e2 w2 y H2 S2 k2 p2 => ?_) (XW.later k1))
  obtain ⟨dz, ef, q⟩ := w2.of
  exact o_ix F O e2 σ H2 x y dx dy dz Q S2 (.of (Rep.mj k2 p1)) p2 ef fun z H' S' k3 p3 => q z H' S' (k1.trans (k2.trans k3)) p3
theorem pd_ixL {i : Nat} {x : Str} {p : Pos} (hu : X.A.units + 65 < cLine) (hN : X.N[i]? = some x) (hv : Vis X.env.scope x) (hb : PD .s X Wx b mb) (hs : PlainIx b := by intro _ _; rfl)
    (hd : (x == ("__debug__" : Str)) = false := by decide) (hcd : (x == ("__classdict__" : Str)) = false := by decide) : PD .s X Wx (.Subscript (.Name x p) b pos) (e2L dIx i mb) := by
  obtain ⟨tb, pb, qb⟩ := hb
  refine ⟨_, pe_ix (ix_any hu) (pe_var hN hv hd hcd) pb hs, fun F O env σ H Q S w => ?_⟩
  obtain ⟨v, d, e, r, w⟩ := w.bind.tmp S
  refine ⟨v, get1_some e, ?_⟩
  refine qb F O env σ H _ S (w.bind.imp (fun dy e2 w2 y H2 S2 k2 p2 => ?_) fun _ _ _ z => z)
  obtain ⟨v', dx, ex, rx, w3⟩ := w2.bind.tmp S2
  obtain rfl : v' = v := Option.some.inj (ex.symm.trans e)
  obtain ⟨dz, ef, q⟩ := w3.of
  exact o_ix F O e2 σ H2 v' y dx dy dz Q S2 rx p2 ef fun z H' S' k3 p3 => q z H' S' (k2.trans k3) p3
/-- a part of a slice -/
def OD (X : Cx) (Wx : WX) (e : Option Expr) (m : DO) : Prop := ∃ t : TO, PO X e t ∧ ∀ (F : Fm) (O : Nat → Option Addr) (env : Env) (σ : L2.St) (H : Hp) (Q : Option Int → Hp → Prop), SR X.K F O env σ H →
  Want m env (fun d e1 => ∀ H', SR X.K F O e1 σ H' → Ke (Jo O) H H' → Q d H') (XW X.K F O σ H Wx) → t σ H Q
theorem od_none : OD X Wx none oNone := ⟨_, po_none, fun F O env σ H Q S w => w H S Ke.refl⟩
theorem od_some (ha : PD .s X Wx a ma) : OD X Wx (some a) (oSome ma) := by
  obtain ⟨ta, pa, qa⟩ := ha
  refine ⟨_, po_some pa, fun F O env σ H Q S w => ?_⟩
  refine qa F O env σ H _ S (w.bind.imp (fun dx e1 w1 x H1 S1 k1 p1 => ?_) fun _ _ _ z => z)
  cases p1 with
  | int i => exact ⟨i, rfl, w1 H1 S1 k1⟩
  | _ => exact w1.elim
def rSlAny (K : PySem.W.Frag) : V → Option Int → Option Int → Hp → VK → Prop := fun x lo hi H Q => rSlL K x lo hi H Q ∨ rSlA K x lo hi H Q
theorem RepL.cut {W : Pr} {H : Hp} {vs : List V} {xs : List D} (lo hi : Option Int) (l : RepL W H vs xs) : RepL W H (cutV vs lo hi) (AH.cut xs lo hi) := by
  unfold cutV AH.cut
  rw [l.len]
  exact (l.drop _).take _
theorem cut_whole {xs : List D} {lo hi : Option Int} (h : HT.sIx xs.length 0 lo = 0 ∧ HT.sIx xs.length xs.length hi = xs.length) : AH.cut xs lo hi = xs := by
  unfold AH.cut
  rw [h.1, h.2]
  simp
/-- a list's slice is new -/
def dSlL (x : D) (lo hi : Option Int) : Rv D := match x with
  | .lst xs => .ok (.lst (cut xs lo hi))
  | _ => .bad
def Osl (fl : Fl) (K : PySem.W.Frag) (f : D → Option Int → Option Int → Rv D) : Prop := ∀ (F : Fm) (O : Nat → Option Addr) (env : Env) (σ : L2.St) (H : Hp) (x : V) (dx dz : D) (lo hi : Option Int) (Q : VK), SR K F O env σ H →
  (Rep (Ow F O) H x dx ∨ ∃ xs, dx = .lst xs ∧ RepW K (Ow F O) H x dx) → f dx lo hi = .ok dz → (∀ z H', SR K F O env σ H' → Ke (Jo O) H H' → Po fl K F O env σ H H' z dz → Q z H') → rSlAny K x lo hi H Q
theorem o_slL : Osl .f X.K dSlL := by
  intro F O env σ H x dx dz lo hi Q S rx ef q
  unfold dSlL at ef
  split at ef
  · cases ef
    have rw' : RepW X.K (Ow F O) H x (.lst _) := rx.elim (fun r => .of r) fun ⟨_, _, r⟩ => r
    obtain ⟨a, vs, rfl, s, l⟩ := rw'.lst'
    exact .inl ⟨a, vs, rfl, s, fun p hp => new_lst S (l.cut lo hi) q hp⟩
  · cases ef
theorem o_sl : Osl .s X.K dSl := by
  intro F O env σ H x dx dz lo hi Q S rx ef q
  unfold dSl at ef
  split at ef
  · cases ef
    have rw' : RepW X.K (Ow F O) H x (.lst _) := rx.elim (fun r => .of r) fun ⟨_, _, r⟩ => r
    obtain ⟨a, vs, rfl, s, l⟩ := rw'.lst'
    exact .inl ⟨a, vs, rfl, s, fun p hp => new_lst S (l.cut lo hi) (fun z H' S' k r => q z H' S' k (Po.s_of_f (K := X.K) (fun p hp => S.noW hp) r)) hp⟩
  · cases ef
    rcases rx with rx | ⟨_, h, _⟩
    · cases rx with
      | tup n h l =>
        refine .inr ⟨_, _, rfl, .inl (.inl h), fun w => ?_, fun _ p hp => new_tup S (l.cut lo hi) q hp⟩
        rw [l.len] at w
        rw [cut_whole w] at q
        exact q _ H S Ke.refl (.tup n h l)
    · cases h
  · cases ef
theorem sl_any : L2.SlR X (rSlAny X.K) := L2.SlR.or sl_list sl_tupA
theorem pd_slice {fl : Fl} {f : D → Option Int → Option Int → Rv D} {lo hi : Option Expr} {ml mh : DO} {p2 : Pos} (hop : Osl fl X.K f) (ha : PD .s X Wx a ma) (hl : OD X Wx lo ml) (hh : OD X Wx hi mh) :
    PD fl X Wx (.Subscript a (.Slice lo hi none p2) pos) (ma.bind fun x => ml.bind fun l => mh.bind fun h => M.of (f x l h)) := by
  obtain ⟨ta, pa, qa⟩ := ha
  obtain ⟨tl, pl, ql⟩ := hl
  obtain ⟨th, ph, qh⟩ := hh
  refine ⟨_, pe_slice sl_any pa pl ph, fun F O env σ H Q S w => ?_⟩
  refine qa F O env σ H _ S (w.bind.imp (fun dx e1 w1 x H1 S1 k1 p1 => ?_) fun _ _ _ z => z)
  refine ql F O e1 σ H1 _ S1 (w1.bind.imp (fun lo e2 w2 H2 S2 k2 => ?_) (XW.later k1))
  refine qh F O e2 σ H2 _ S2 (w2.bind.imp (fun hi e3 w3 H3 S3 k3 => ?_) (XW.later (k1.trans k2)))
  obtain ⟨dz, ef, q⟩ := w3.of
  exact hop F O e3 σ H3 x dx dz lo hi Q S3 (.inl (Rep.mj (k2.trans k3) p1)) ef fun z H' S' k4 p4 => q z H' S' (k1.trans (k2.trans (k3.trans k4))) (p4.back (k1.trans (k2.trans k3)))
theorem pd_sl {lo hi : Option Expr} {ml mh : DO} {p2 : Pos} (ha : PD .s X Wx a ma) (hl : OD X Wx lo ml) (hh : OD X Wx hi mh) : PD .s X Wx (.Subscript a (.Slice lo hi none p2) pos) (eSl ma ml mh) := pd_slice o_sl ha hl hh
/-- a slice of a list that may be the frame's own: a new list -/
def eSlN (i : Nat) (lo hi : DO) : DE := (eTmp i).bind fun _ => lo.bind fun l => hi.bind fun h => (eTmp i).bind fun x => M.of (dSlL x l h)
theorem pd_slN {i : Nat} {x : Str} {p : Pos} {lo hi : Option Expr} {ml mh : DO} {p2 : Pos} (hN : X.N[i]? = some x) (hv : Vis X.env.scope x) (hl : OD X Wx lo ml) (hh : OD X Wx hi mh)
    (hd : (x == ("__debug__" : Str)) = false := by decide) (hcd : (x == ("__classdict__" : Str)) = false := by decide) : PD .f X Wx (.Subscript (.Name x p) (.Slice lo hi none p2) pos) (eSlN i ml mh) := by
  obtain ⟨tl, pl, ql⟩ := hl
  obtain ⟨th, ph, qh⟩ := hh
  refine ⟨_, pe_slice sl_any (pe_var hN hv hd hcd) pl ph, fun F O env σ H Q S w => ?_⟩
  obtain ⟨v, d, e, r, w⟩ := w.bind.tmp S
  refine ⟨v, get1_some e, ?_⟩
  refine ql F O env σ H _ S (w.bind.imp (fun lo e2 w2 H2 S2 k2 => ?_) fun _ _ _ z => z)
  refine qh F O e2 σ H2 _ S2 (w2.bind.imp (fun hi e3 w3 H3 S3 k3 => ?_) (XW.later k2))
  obtain ⟨v', dx, ex, rx, w4⟩ := w3.bind.tmp S3
  obtain rfl : v' = v := Option.some.inj (ex.symm.trans e)
  obtain ⟨dz, ef, q⟩ := w4.of
  refine o_slL F O e3 σ H3 v' dx dz lo hi Q S3 (.inr ?_) ef fun z H' S' k4 p4 => q z H' S' (k2.trans (k3.trans k4)) (p4.back (k2.trans k3))
  unfold dSlL at ef
  split at ef
  · exact ⟨_, rfl, rx⟩
  · cases ef
end
end AH
namespace AH
open PySem PySem.Spec PyProof.Rows L2
variable [TheK]
section
variable {X : Cx} {Wx : WX} {e a b c d : Expr} {ma mb mc md : DE} {pos p : Pos}
/-! ### built-in functions and types of one argument, of two -/
def Cb1 (fl : Fl) (K : PySem.W.Frag) (r : List V → Hp → VK → Prop) (f : D → Rv D) : Prop := ∀ (F : Fm) (O : Nat → Option Addr) (env : Env) (σ : L2.St) (H : Hp) (x : V) (dx dz : D) (Q : VK), SR K F O env σ H →
  RepW K (Ow F O) H x dx → f dx = .ok dz → (∀ z H', SR K F O env σ H' → Ke (Jo O) H H' → Po fl K F O env σ H H' z dz → Q z H') → r [x] H Q
theorem pd_c1 {fl : Fl} {f : D → Rv D} {r : List V → Hp → VK → Prop} (hop : Cb1 fl X.K r f) (ha : PD .w X Wx a ma) (pe : ∀ {t : TA}, PA X [a] t → PE X e (tCB r t)) (hs : starEach [a] X.env = (false, eval a X.env) :: starEach [] X.env := by rfl) : PD fl X Wx e (e1 f ma) := by
  obtain ⟨ta, pa, qa⟩ := ha
  refine ⟨_, pe (pa_cons pa pa_nil hs), fun F O env σ H Q S w => ?_⟩
  refine qa F O env σ H _ S (w.bind.imp (fun dx e1 w1 x H1 S1 k1 p1 => ?_) fun _ _ _ z => z)
  obtain ⟨dz, ef, q⟩ := w1.of
  exact hop F O e1 σ H1 x dx dz Q S1 p1 ef fun z H' S' k3 p3 => q z H' S' (k1.trans k3) (p3.back k1)
/-- the name x is still the built-in id, the type T -/
structure Bn (X : Cx) (x : Str) (u : Value) : Prop where
  gl : Gl X x
  mg : X.mg x = none
  bt : bootBuiltins x = some u
  nn : x ≠ "__name__"
  nd : (x == ("__debug__" : Str)) = false
variable {x : Str}
theorem pd_b1 {fl : Fl} {f : D → Rv D} {id : String} {r : List V → Hp → VK → Prop} (hc : CallR X (.builtin id) r) (hop : Cb1 fl X.K r f) (hb : Bn X x (.builtin id)) (ha : PD .w X Wx a ma)
    (hs : starEach [a] X.env = (false, eval a X.env) :: starEach [] X.env := by rfl) : PD fl X Wx (.Call (.Name x p) [a] [] pos) (e1 f ma) :=
  pd_c1 hop ha (fun q => pe_callB hc hb.gl hb.mg hb.bt q hb.nn hb.nd hs rfl) hs
theorem pd_t1 {fl : Fl} {f : D → Rv D} {id : String} {r : List V → Hp → VK → Prop} (hc : CallR X (.type id) r) (hop : Cb1 fl X.K r f) (hb : Bn X x (.type id)) (ha : PD .w X Wx a ma)
    (hs : starEach [a] X.env = (false, eval a X.env) :: starEach [] X.env := by rfl) : PD fl X Wx (.Call (.Name x p) [a] [] pos) (e1 f ma) :=
  pd_c1 hop ha (fun q => pe_callTy hc hb.gl hb.mg hb.bt q hb.nn hb.nd hs rfl) hs
theorem cb_len : Cb1 .s X.K (fun xs H Q => ∃ x n, xs = [x] ∧ LenV X.K x H n ∧ Q (.int n) H) dLen := by
  intro F O env σ H x dx dz Q S rx ef q
  unfold dLen at ef
  split at ef
  · cases ef
    obtain ⟨a, vs, rfl, s, l⟩ := rx.lst'
    exact ⟨_, vs.length, rfl, .inl ⟨vs, s, rfl⟩, by rw [l.len]; exact q _ H S Ke.refl (.int _)⟩
  · cases ef
    obtain ⟨a, vs, rfl, s, l⟩ := rx.tup'
    exact ⟨_, vs.length, rfl, .inr ⟨vs, s, rfl⟩, by rw [l.len]; exact q _ H S Ke.refl (.int _)⟩
  · cases ef
theorem pd_len (hb : Bn X "len" (.builtin "len")) (ha : PD .w X Wx a ma) (hs : starEach [a] X.env = (false, eval a X.env) :: starEach [] X.env := by rfl) : PD .s X Wx (.Call (.Name "len" p) [a] [] pos) (e1 dLen ma) := pd_b1 call_len cb_len hb ha hs
theorem cb_abs : Cb1 .s X.K (fun xs H Q => ∃ i, xs = [.int i] ∧ Q (.int (if i < 0 then -i else i)) H) dAbs := by
  intro F O env σ H x dx dz Q S rx ef q
  unfold dAbs at ef
  split at ef
  · cases ef; exact ⟨_, by rw [rx.int'], q _ H S Ke.refl (.int _)⟩
  · cases ef
theorem pd_abs (hb : Bn X "abs" (.builtin "abs")) (ha : PD .s X Wx a ma) (hs : starEach [a] X.env = (false, eval a X.env) :: starEach [] X.env := by rfl) : PD .s X Wx (.Call (.Name "abs" p) [a] [] pos) (e1 dAbs ma) := pd_b1 call_abs cb_abs hb ha.weak hs
theorem cb_int : Cb1 .s X.K (fun xs H Q => (∃ i, xs = [.int i] ∧ Q (.int i) H) ∨ ∃ k, xs = [.bl k] ∧ Q (.int (if k then 1 else 0)) H) dInt := by
  intro F O env σ H x dx dz Q S rx ef q
  unfold dInt at ef
  split at ef
  · cases ef; exact .inl ⟨_, by rw [rx.int'], q _ H S Ke.refl (.int _)⟩
  · cases ef; exact .inr ⟨_, by rw [rx.bl'], q _ H S Ke.refl (.int _)⟩
  · cases ef
theorem pd_toint (hb : Bn X "int" (.type "int")) (ha : PD .s X Wx a ma) (hs : starEach [a] X.env = (false, eval a X.env) :: starEach [] X.env := by rfl) : PD .s X Wx (.Call (.Name "int" p) [a] [] pos) (e1 dInt ma) := pd_t1 call_int1 cb_int hb ha.weak hs
theorem cb_all : Cb1 .s X.K (rAll X.K) dAll := by
  intro F O env σ H x dx dz Q S rx ef q
  unfold dAll at ef
  split at ef
  · obtain ⟨a, vs, rfl, s, l⟩ := rx.lst'
    split at ef
    · rename_i ns h
      cases ef
      exact ⟨a, ns, rfl, by rw [← l.bools h]; exact s, q _ H S Ke.refl (.bl _)⟩
    · cases ef
  · cases ef
theorem pd_all (hc : X.calm = true) (hb : Bn X "all" (.builtin "all")) (ha : PD .w X Wx a ma) (hs : starEach [a] X.env = (false, eval a X.env) :: starEach [] X.env := by rfl) : PD .s X Wx (.Call (.Name "all" p) [a] [] pos) (e1 dAll ma) := pd_b1 (cr_all hc) cb_all hb ha hs
theorem cb_any : Cb1 .s X.K (rAny X.K) dAny := by
  intro F O env σ H x dx dz Q S rx ef q
  unfold dAny at ef
  split at ef
  · obtain ⟨a, vs, rfl, s, l⟩ := rx.lst'
    split at ef
    · rename_i ns h
      cases ef
      exact ⟨a, ns, rfl, by rw [← l.bools h]; exact s, q _ H S Ke.refl (.bl _)⟩
    · cases ef
  · cases ef
theorem pd_any (hc : X.calm = true) (hb : Bn X "any" (.builtin "any")) (ha : PD .w X Wx a ma) (hs : starEach [a] X.env = (false, eval a X.env) :: starEach [] X.env := by rfl) : PD .s X Wx (.Call (.Name "any" p) [a] [] pos) (e1 dAny ma) := pd_b1 (cr_any hc) cb_any hb ha hs
/-- tuple(x): of a list that may be the frame's own, of a tuple that stays -/
theorem pd_tuple (hb : Bn X "tuple" (.type "tuple")) (ha : PD .s X Wx a ma) (hs : starEach [a] X.env = (false, eval a X.env) :: starEach [] X.env := by rfl) : PD .s X Wx (.Call (.Name "tuple" p) [a] [] pos) (e1 dTuple ma) := by
  obtain ⟨ta, pa, qa⟩ := ha
  refine ⟨_, pe_callTy call_tuple_of hb.gl hb.mg hb.bt (pa_cons pa pa_nil hs) hb.nn hb.nd hs rfl, fun F O env σ H Q S w => ?_⟩
  refine qa F O env σ H _ S (w.bind.imp (fun dx e1 w1 x H1 S1 k1 p1 => ?_) fun _ _ _ z => z)
  obtain ⟨dz, ef, q⟩ := w1.of
  cases p1 with
  | lst n h l =>
    cases ef
    exact ⟨_, _, rfl, .inl ⟨.inl (.inl h), fun p hp => new_tup S1 l (fun z H' S' k2 r => q z H' S' (k1.trans k2) r) hp⟩⟩
  | tup n h l =>
    cases ef
    exact ⟨_, _, rfl, .inr ⟨.inl (.inl h), q _ H1 S1 k1 (.tup n h l)⟩⟩
  | _ => cases ef
theorem cb_list : Cb1 .f X.K (fun xs H Q => ∃ p ys, xs = [.ref p] ∧ (SqL X.K H p ys ∨ SqT X.K H p ys) ∧ ∀ l, H l = none → Q (.ref l) (upd H l (.lst ys))) dList := by
  intro F O env σ H x dx dz Q S rx ef q
  unfold dList at ef
  split at ef
  · cases ef
    obtain ⟨a, vs, rfl, s, l⟩ := rx.lst'
    exact ⟨a, vs, rfl, .inl s, fun p hp => new_lst S l q hp⟩
  · cases ef
    obtain ⟨a, vs, rfl, s, l⟩ := rx.tup'
    exact ⟨a, vs, rfl, .inr s, fun p hp => new_lst S l q hp⟩
  · cases ef
theorem pd_list (hb : Bn X "list" (.type "list")) (ha : PD .w X Wx a ma) (hs : starEach [a] X.env = (false, eval a X.env) :: starEach [] X.env := by rfl) : PD .f X Wx (.Call (.Name "list" p) [a] [] pos) (e1 dList ma) := pd_t1 call_list_of cb_list hb ha hs
/-! ### isinstance -/
inductive Ty where
  | int | bool | str | list | tuple | dict
  deriving DecidableEq
def Ty.nm : Ty → String
  | .int => "int" | .bool => "bool" | .str => "str" | .list => "list" | .tuple => "tuple" | .dict => "dict"
def isi (t : Ty) (d : D) : Bool := match t, d with
  | .int, .int _ => true
  | .int, .bl _ => true
  | .bool, .bl _ => true
  | .str, .str _ => true
  | .list, .lst _ => true
  | .tuple, .tup _ => true
  | .dict, .dic _ => true
  | _, _ => false
def tyD : D → String
  | .non => "NoneType" | .bl _ => "bool" | .int _ => "int" | .str _ => "str" | .lst _ => "list" | .tup _ => "tuple" | .dic _ => "dict" | _ => ""
def isPy : D → Bool
  | .exc _ _ _ => false
  | .obj _ => false
  | _ => true
theorem kit_isi : ∀ (t : Ty) (d : D), isPy d = true → kitB (tyD d) t.nm = some (isi t d)
  | .int, .non, _ => (by decide +kernel : kitB "NoneType" "int" = some false)
  | .int, .bl _, _ => (by decide +kernel : kitB "bool" "int" = some true)
  | .int, .int _, _ => (by decide +kernel : kitB "int" "int" = some true)
  | .int, .str _, _ => (by decide +kernel : kitB "str" "int" = some false)
  | .int, .lst _, _ => (by decide +kernel : kitB "list" "int" = some false)
  | .int, .tup _, _ => (by decide +kernel : kitB "tuple" "int" = some false)
  | .int, .dic _, _ => (by decide +kernel : kitB "dict" "int" = some false)
  | .int, .exc _ _ _, h => by cases h
  | .int, .obj _, h => by cases h
  | .bool, .non, _ => (by decide +kernel : kitB "NoneType" "bool" = some false)
  | .bool, .bl _, _ => (by decide +kernel : kitB "bool" "bool" = some true)
  | .bool, .int _, _ => (by decide +kernel : kitB "int" "bool" = some false)
  | .bool, .str _, _ => (by decide +kernel : kitB "str" "bool" = some false)
  | .bool, .lst _, _ => (by decide +kernel : kitB "list" "bool" = some false)
  | .bool, .tup _, _ => (by decide +kernel : kitB "tuple" "bool" = some false)
  | .bool, .dic _, _ => (by decide +kernel : kitB "dict" "bool" = some false)
  | .bool, .exc _ _ _, h => by cases h
  | .bool, .obj _, h => by cases h
  | .str, .non, _ => (by decide +kernel : kitB "NoneType" "str" = some false)
  | .str, .bl _, _ => (by decide +kernel : kitB "bool" "str" = some false)
  | .str, .int _, _ => (by decide +kernel : kitB "int" "str" = some false)
  | .str, .str _, _ => (by decide +kernel : kitB "str" "str" = some true)
  | .str, .lst _, _ => (by decide +kernel : kitB "list" "str" = some false)
  | .str, .tup _, _ => (by decide +kernel : kitB "tuple" "str" = some false)
  | .str, .dic _, _ => (by decide +kernel : kitB "dict" "str" = some false)
  | .str, .exc _ _ _, h => by cases h
  | .str, .obj _, h => by cases h
  | .list, .non, _ => (by decide +kernel : kitB "NoneType" "list" = some false)
  | .list, .bl _, _ => (by decide +kernel : kitB "bool" "list" = some false)
  | .list, .int _, _ => (by decide +kernel : kitB "int" "list" = some false)
  | .list, .str _, _ => (by decide +kernel : kitB "str" "list" = some false)
  | .list, .lst _, _ => (by decide +kernel : kitB "list" "list" = some true)
  | .list, .tup _, _ => (by decide +kernel : kitB "tuple" "list" = some false)
  | .list, .dic _, _ => (by decide +kernel : kitB "dict" "list" = some false)
  | .list, .exc _ _ _, h => by cases h
  | .list, .obj _, h => by cases h
  | .tuple, .non, _ => (by decide +kernel : kitB "NoneType" "tuple" = some false)
  | .tuple, .bl _, _ => (by decide +kernel : kitB "bool" "tuple" = some false)
  | .tuple, .int _, _ => (by decide +kernel : kitB "int" "tuple" = some false)
  | .tuple, .str _, _ => (by decide +kernel : kitB "str" "tuple" = some false)
  | .tuple, .lst _, _ => (by decide +kernel : kitB "list" "tuple" = some false)
  | .tuple, .tup _, _ => (by decide +kernel : kitB "tuple" "tuple" = some true)
  | .tuple, .dic _, _ => (by decide +kernel : kitB "dict" "tuple" = some false)
  | .tuple, .exc _ _ _, h => by cases h
  | .tuple, .obj _, h => by cases h
  | .dict, .non, _ => (by decide +kernel : kitB "NoneType" "dict" = some false)
  | .dict, .bl _, _ => (by decide +kernel : kitB "bool" "dict" = some false)
  | .dict, .int _, _ => (by decide +kernel : kitB "int" "dict" = some false)
  | .dict, .str _, _ => (by decide +kernel : kitB "str" "dict" = some false)
  | .dict, .lst _, _ => (by decide +kernel : kitB "list" "dict" = some false)
  | .dict, .tup _, _ => (by decide +kernel : kitB "tuple" "dict" = some false)
  | .dict, .dic _, _ => (by decide +kernel : kitB "dict" "dict" = some true)
  | .dict, .exc _ _ _, h => by cases h
  | .dict, .obj _, h => by cases h
theorem Rep.ty {K : PySem.W.Frag} {W : Pr} {H : Hp} {v : V} {d : D} (r : Rep W H v d) (ip : isPy d = true) : TyX K H v (.type (tyD d)) := by
  cases r with
  | non => exact .base .non
  | bl b => exact .base (.bl b)
  | int b => exact .base (.int b)
  | str b => exact .base (.str b)
  | tup n h l => exact .base (.tup h)
  | lst n h l => exact .base (.lst h)
  | dic n h l => exact .base (.dT h)
  | obj _ _ _ _ _ => cases ip
  | exc _ _ _ _ _ _ => cases ip
def isExc : D → Bool
  | .exc _ _ _ => true
  | _ => false
theorem Rep.py {W : Pr} {H : Hp} {v : V} {d : D} (r : Rep W H v d) (ip : isPy d = false) (ix : isExc d = false) : ∃ a dx C vs c, v = .ref a ∧ d = .obj c ∧ SlX.Slt H a C dx vs ∧ ObjF TheK.K C := by
  cases r with
  | obj n m h q f => exact ⟨_, _, _, _, _, rfl, rfl, .inr ⟨h, q⟩, f⟩
  | exc _ _ _ _ _ _ => cases ix
  | _ => cases ip
def eIsi (t : Ty) (a : DE) : DE := a.bind fun x => if isExc x then (fun _ => .bad) else M.pure (.bl (isi t x))
def eIsi2 (t u : Ty) (a : DE) : DE := a.bind fun x => if isPy x then M.pure (.bl (isi t x || isi u x)) else fun _ => .bad
theorem pe_ty {x : Str} {n : String} (hb : Bn X x (.type n)) : PE X (.Name x p) (tC (.ty n)) := pe_bltn (v := .ty n) hb.gl hb.mg hb.bt rfl hb.nn hb.nd
theorem ty_mem (t : Ty) : t.nm ∈ ["int", "bool", "str", "list", "tuple", "dict"] := by cases t <;> decide
theorem pd_isi {y : Str} {t : Ty} {p2 : Pos} (hK : X.K = TheK.K) (hb : Bn X "isinstance" (.builtin "isinstance")) (hy : Bn X y (.type t.nm)) (ha : PD .s X Wx a ma)
    (hs : starEach [a, .Name y p2] X.env = (false, eval a X.env) :: starEach [.Name y p2] X.env := by rfl) : PD .s X Wx (.Call (.Name "isinstance" p) [a, .Name y p2] [] pos) (eIsi t ma) := by
  obtain ⟨ta, pa, qa⟩ := ha
  refine ⟨_, pe_callB (CallR.or call_isi (SlX.call_isiSl (.type t.nm))) hb.gl hb.mg hb.bt (pa_cons pa (pa_cons (pe_ty hy) pa_nil) hs) hb.nn hb.nd hs rfl, fun F O env σ H Q S w => ?_⟩
  refine qa F O env σ H _ S (w.bind.imp (fun dx e1 w1 x H1 S1 k1 p1 => ?_) fun _ _ _ z => z)
  cases ix : isExc dx with
  | true => rw [ix] at w1; exact w1.elim
  | false =>
  rw [ix] at w1
  have w1 : ∀ v H', SR X.K F O e1 σ H' → Ke (Jo O) H H' → Po .s X.K F O e1 σ H H' v (.bl (isi t dx)) → Q v H' := w1
  cases ip : isPy dx with
  | true => exact .inl ⟨x, .ty t.nm, _, _, _, rfl, .ty _, Rep.ty (K := X.K) p1 ip, kit_ty (kit_isi t dx ip), w1 _ H1 S1 k1 (.bl _)⟩
  | false =>
    obtain ⟨a, ddx, C, vs, c, rfl, rfl, sl, f⟩ := Rep.py p1 ip ix
    rw [← hK] at f
    refine .inr ⟨a, C, ddx, vs, .ty t.nm, false, rfl, rfl, fun w h => h, sl, f.sc, f.si, f.no _ (ty_mem t), ?_⟩
    have e : isi t (.obj c) = false := by cases t <;> rfl
    have this := w1 (.bl (isi t (.obj c))) H1 S1 k1 (.bl _)
    rw [e] at this
    exact this
theorem pd_isi2 {y z : Str} {t u : Ty} {p2 p3 p4 : Pos} {k : Nat} (hb : Bn X "isinstance" (.builtin "isinstance")) (hy : Bn X y (.type t.nm)) (hz : Bn X z (.type u.nm)) (ha : PD .s X Wx a ma)
    (hs : starEach [a, .Tuple [.Name y p2, .Name z p3] k p4] X.env = (false, eval a X.env) :: starEach [.Tuple [.Name y p2, .Name z p3] k p4] X.env := by rfl) :
    PD .s X Wx (.Call (.Name "isinstance" p) [a, .Tuple [.Name y p2, .Name z p3] k p4] [] pos) (eIsi2 t u ma) := by
  obtain ⟨ta, pa, qa⟩ := ha
  refine ⟨_, pe_callB call_isiT hb.gl hb.mg hb.bt (pa_cons pa (pa_cons (pe_tup (pa_cons (pe_ty hy) (pa_cons (pe_ty hz) pa_nil))) pa_nil) hs) hb.nn hb.nd hs rfl, fun F O env σ H Q S w => ?_⟩
  refine qa F O env σ H _ S (w.bind.imp (fun dx e1 w1 x H1 S1 k1 p1 => ?_) fun _ _ _ z => z)
  cases ip : isPy dx with
  | false => rw [ip] at w1; exact w1.elim
  | true =>
    rw [ip] at w1
    refine ⟨by show 2 ≤ sizeLine; rw [sizeLine_eq]; decide, fun tp htp => ?_⟩
    have r2 : Rep (Ow F O) (upd H1 tp (.tup [.ty t.nm, .ty u.nm])) x dx := Rep.mj (Ke.new htp) p1
    have ty := Rep.ty (K := X.K) r2 ip
    refine ⟨x, tp, _, _, [.type t.nm, .type u.nm], _, rfl, upd_same, .cons (.ty _) (.cons (.ty _) .nil), ty, ?_, w1 _ _ (S1.new' htp) (k1.trans (Ke.new htp)) (.bl _)⟩
    refine kitAny_cons (kit_ty (kit_isi t dx ip)) (fun h => kitAny_cons (kit_ty (kit_isi u dx ip)) (fun h2 => ?_) fun h2 => ?_) fun h => ?_
    · rw [h, h2]; exact kitAny_nil
    · rw [h2]; simp
    · rw [h]; simp
end
end AH
namespace AH
open PySem PySem.Spec PyProof.Rows L2
variable [TheK]
/-! ### slots stored -/
theorem sl_put_ne : ∀ (e : Env) (i j : Nat) (s : Sl), j ≠ i → sl (put e i s) j = sl e j
  | [], _, _, _, _ => rfl
  | _ :: r, 0, 0, _, h => absurd rfl h
  | _ :: r, 0, j + 1, _, _ => rfl
  | _ :: r, i + 1, 0, _, _ => rfl
  | _ :: r, i + 1, j + 1, s, h => sl_put_ne r i j s (fun e => h (by rw [e]))
theorem sl_put_same : ∀ (e : Env) (i : Nat) (s : Sl), i < e.length → sl (put e i s) i = s
  | [], _, _, h => absurd h (Nat.not_lt_zero _)
  | _ :: _, 0, _, _ => rfl
  | _ :: r, i + 1, s, h => sl_put_same r i s (Nat.lt_of_succ_lt_succ h)
theorem sl_out : ∀ (e : Env) (i : Nat), e.length ≤ i → sl e i = .no
  | [], _, _ => rfl
  | _ :: _, 0, h => absurd h (Nat.not_succ_le_zero _)
  | _ :: r, i + 1, h => sl_out r i (Nat.le_of_succ_le_succ h)
theorem put_len : ∀ (e : Env) (i : Nat) (s : Sl), (put e i s).length = e.length
  | [], _, _ => rfl
  | _ :: _, 0, _ => rfl
  | _ :: r, i + 1, s => by show (put r i s).length + 1 = r.length + 1; rw [put_len r i s]
theorem put_out : ∀ (e : Env) (i : Nat) (s : Sl), e.length ≤ i → put e i s = e
  | [], _, _, _ => rfl
  | _ :: _, 0, _, h => absurd h (Nat.not_succ_le_zero _)
  | x :: r, i + 1, s, h => by show x :: put r i s = x :: r; rw [put_out r i s (Nat.le_of_succ_le_succ h)]
theorem get1_ne {σ : L2.St} {i j : Nat} {o : Option V} (h : j ≠ i) : get1 (σ.set i o) j = get1 σ j := by
  unfold get1; rw [List.getElem?_set_ne (Ne.symm h)]
theorem get1_same {σ : L2.St} {i : Nat} {o : Option V} (h : i < σ.length) : get1 (σ.set i o) i = o := by
  unfold get1; rw [List.getElem?_set_self h]; rfl
def setO (O : Nat → Option Addr) (i : Nat) (x : Option Addr) : Nat → Option Addr := fun j => if j = i then x else O j
theorem setO_same {O : Nat → Option Addr} {i : Nat} {x : Option Addr} : setO O i x i = x := if_pos rfl
theorem setO_ne {O : Nat → Option Addr} {i j : Nat} {x : Option Addr} (h : j ≠ i) : setO O i x j = O j := if_neg h
section
variable {K : PySem.W.Frag} {F : Fm} {O : Nat → Option Addr} {env : Env} {σ : L2.St} {H H' : Hp} {i : Nat} {v : V} {d : D} {p : Addr}
/-- a slot seen with other owners -/
theorem SlR.own {F' : Fm} {O' : Nat → Option Addr} {ov : Option V} (hb : F'.ba = F.ba) (h0 : F'.H0 = F.H0) (ho : O' i = O i) (gp : ∀ a, F'.P a → F.P a) (g : ∀ a, Ow F' O' a → Ow F O a ∨ H a = none) (gn : ∀ a, Jo O' a ∨ F'.N a → (Jo O a ∨ F.N a) ∨ H a = none) : ∀ {s : Sl}, SlR K F O H i ov s → SlR K F' O' H i ov s := by
  intro s h
  cases s with
  | no => exact ho.trans h
  | val d => obtain ⟨h, v, e, r⟩ := h; exact ⟨ho.trans h, v, e, r.sub g⟩
  | ro d => obtain ⟨h, v, e, r⟩ := h; exact ⟨ho.trans h, v, e, r.go Ke.refl g gn⟩
  | own xs => obtain ⟨a, vs, h, hz, e, q, r⟩ := h; exact ⟨a, vs, ho.trans h, ⟨by rw [h0]; exact hz.1, fun z => hz.2 (gp a z)⟩, e, q, r.sub g⟩
  | bor xs => obtain ⟨a, vs, h, hz, e, q, r⟩ := h; exact ⟨a, vs, ho.trans h, by rw [hb]; exact hz, e, q, r.sub g⟩
  | odc kvs => obtain ⟨a, vs, h, hz, e, q, r⟩ := h; exact ⟨a, vs, ho.trans h, ⟨by rw [h0]; exact hz.1, fun z => hz.2 (gp a z)⟩, e, q, r.sub g⟩
  | ldc kvs => obtain ⟨h, a, vs, o, hz, e, q, r⟩ := h; exact ⟨ho.trans h, a, vs, o, fun z => (gn a z).elim hz (al_of q), e, q, r.sub g⟩
theorem ow_setN {a : Addr} (w : Ow F (setO O i none) a) : Ow F O a := by
  rcases w with w | ⟨j, w⟩
  · exact .inl w
  · by_cases hj : j = i
    · subst hj; rw [setO_same] at w; cases w
    · rw [setO_ne hj] at w; exact .inr ⟨j, w⟩
theorem jo_setN {a : Addr} (w : Jo (setO O i none) a) : Jo O a := by
  obtain ⟨j, w⟩ := w
  by_cases hj : j = i
  · subst hj; rw [setO_same] at w; cases w
  · rw [setO_ne hj] at w; exact ⟨j, w⟩
theorem inj_setN (S : SR K F O env σ H) : ∀ k j a, setO O i none k = some a → setO O i none j = some a → k = j := fun k j a h1 h2 => by
  by_cases hk : k = i
  · rw [hk, setO_same] at h1; cases h1
  · by_cases hj : j = i
    · rw [hj, setO_same] at h2; cases h2
    · rw [setO_ne hk] at h1; rw [setO_ne hj] at h2; exact S.inj k j a h1 h2
/-- a value stored; what the slot owned is let go -/
theorem SR.setVal (S : SR K F O env σ H) (r : Rep (Ow F O) H v d) : SR K F (setO O i none) (put env i (.val d)) (σ.set i (some v)) H where
  slot := fun j => by
    by_cases hj : j = i
    · subst hj
      by_cases hl : j < env.length
      · rw [sl_put_same _ _ _ hl, get1_same (by rw [← S.len]; exact hl)]
        exact ⟨setO_same, v, rfl, r.sub fun a w => .inl (ow_setN w)⟩
      · rw [put_out _ _ _ (by omega), sl_out _ _ (by omega)]
        exact setO_same
    · rw [sl_put_ne _ _ _ _ hj, get1_ne hj]
      exact SlR.own (F := F) rfl rfl (setO_ne hj) (fun _ z => z) (fun a w => .inl (ow_setN w)) (fun a w => .inl (w.elim (fun w => .inl (jo_setN w)) .inr)) (S.slot j)
  inj := inj_setN S
  prot := fun a w => S.prot a (ow_setN w)
  keep := S.keep
  al := S.al
  len := by rw [put_len, List.length_set]; exact S.len
  nal := S.nal
  pt := S.pt
theorem setO_id (h : O i = none) : setO O i none = O := by
  funext j
  by_cases hj : j = i
  · rw [hj, setO_same, h]
  · rw [setO_ne hj]
theorem SR.notOwn (S : SR K F O env σ H) (h : isOwn (sl env i) = false) : O i = none := by
  have s := S.slot i
  cases q : sl env i with
  | no => rw [q] at s; exact s
  | val d => rw [q] at s; exact s.1
  | ro d => rw [q] at s; exact s.1
  | _ => rw [q] at h; cases h
theorem SR.set (S : SR K F O env σ H) (h : isOwn (sl env i) = false) (r : Rep (Ow F O) H v d) : SR K F O (put env i (.val d)) (σ.set i (some v)) H := by
  have q := S.setVal (i := i) r
  rw [setO_id (S.notOwn h)] at q
  exact q
theorem ow_setS {a : Addr} (w : Ow F (setO O i (some p)) a) : Ow (F.ad p) O a := by
  rcases w with w | ⟨j, w⟩
  · exact .inl (.inl w)
  · by_cases hj : j = i
    · subst hj; rw [setO_same] at w; cases w; exact .inl (.inr rfl)
    · rw [setO_ne hj] at w; exact .inr ⟨j, w⟩
theorem jo_setS {a : Addr} (w : Jo (setO O i (some p)) a) : Jo O a ∨ a = p := by
  obtain ⟨j, w⟩ := w
  by_cases hj : j = i
  · subst hj; rw [setO_same] at w; cases w; exact .inr rfl
  · rw [setO_ne hj] at w; exact .inl ⟨j, w⟩
/-- a new object becomes the slot's own -/
theorem SR.setNew (S : SR K (F.ad p) O env σ H) {s : Sl} (np : ¬ Jo O p) (hl : i < env.length) (hs : SlR K F (setO O i (some p)) H i (some (.ref p)) s) : SR K F (setO O i (some p)) (put env i s) (σ.set i (some (.ref p))) H where
  slot := fun j => by
    by_cases hj : j = i
    · subst hj
      rw [sl_put_same _ _ _ hl, get1_same (by rw [← S.len]; exact hl)]
      exact hs
    · rw [sl_put_ne _ _ _ _ hj, get1_ne hj]
      refine SlR.own (F := F.ad p) (F' := F) rfl rfl (setO_ne hj) (fun _ z => .inl z) (fun a w => .inl (ow_setS w)) (fun a w => .inl ?_) (S.slot j)
      rcases w with w | w
      · rcases jo_setS w with w | rfl
        · exact .inl w
        · exact .inr (.inr rfl)
      · exact .inr (.inl w)
  inj := fun k j a h1 h2 => by
    by_cases hk : k = i
    · subst hk
      rw [setO_same] at h1
      cases h1
      by_cases hj : j = k
      · exact hj.symm
      · rw [setO_ne hj] at h2; exact absurd ⟨j, h2⟩ np
    · rw [setO_ne hk] at h1
      by_cases hj : j = i
      · subst hj
        rw [setO_same] at h2
        cases h2
        exact absurd ⟨k, h1⟩ np
      · rw [setO_ne hj] at h2; exact S.inj k j a h1 h2
  prot := fun a w => S.prot a (ow_setS w)
  keep := S.keep
  al := S.al
  len := by rw [put_len, List.length_set]; exact S.len
  nal := fun a w => S.nal a (.inl w)
  pt := fun a xs w => S.pt a xs (.inl w)
/-- the slot's own object is changed -/
theorem SR.mut {a : Addr} {o' : HO} {s' : Sl} (S : SR K F O env σ H) (hO : O i = some a) (hb : F.bo a ∨ F.H0 a = none) (hs : SlR K F O (upd H a o') i (get1 σ i) s') (ho : ∀ xs, o' ≠ .tup xs := by intro _ z; cases z) : SR K F O (put env i s') σ (upd H a o') := by
  have ja : Jo O a := ⟨i, hO⟩
  have k : Ke (Jo O) H (upd H a o') := Ke.mut ja
  refine ⟨fun j => ?_, S.inj, fun b w => k.there b (S.prot b w), fun b o e n => ?_, fun b e => k.there b (S.al b e), by rw [put_len]; exact S.len, fun b w => k.there b (S.nal b w), fun b xs w => by
    by_cases z : b = a
    · rw [z, upd_same]; exact fun y => ho xs (Option.some.inj y)
    · rw [upd_ne z]; exact S.pt b xs w⟩
  · by_cases hj : j = i
    · subst hj
      by_cases hl : j < env.length
      · rw [sl_put_same _ _ _ hl]; exact hs
      · have q := S.slot j
        rw [sl_out _ _ (by omega)] at q
        have q2 : O j = none := q
        rw [hO] at q2
        cases q2
    · rw [sl_put_ne _ _ _ _ hj]
      have q := S.slot j
      have na : ∀ b, O j = some b → b ≠ a := fun b e z => hj (S.inj j i a (by rw [e, z]) hO)
      cases z : sl env j with
      | no => rw [z] at q; exact q
      | val d => rw [z] at q; obtain ⟨h, v, e, r⟩ := q; exact ⟨h, v, e, r.mj k⟩
      | ro d => rw [z] at q; obtain ⟨h, v, e, r⟩ := q; exact ⟨h, v, e, r.go k (fun _ z => .inl z) fun _ z => .inl z⟩
      | own xs => rw [z] at q; obtain ⟨b, vs, h, hz, e, q, r⟩ := q; exact ⟨b, vs, h, hz, e, by rw [upd_ne (na b h)]; exact q, r.mj k⟩
      | bor xs => rw [z] at q; obtain ⟨b, vs, h, hz, e, q, r⟩ := q; exact ⟨b, vs, h, hz, e, by rw [upd_ne (na b h)]; exact q, r.mj k⟩
      | odc kvs => rw [z] at q; obtain ⟨b, vs, h, hz, e, q, r⟩ := q; exact ⟨b, vs, h, hz, e, by rw [upd_ne (na b h)]; exact q, r.mj k⟩
      | ldc kvs => rw [z] at q; obtain ⟨h, b, vs, o, hz, e, q, r⟩ := q; exact ⟨h, b, vs, o, hz, e, k.stay _ _ (fun z => hz (.inl z)) q, r.mj k⟩
  · have nb : b ≠ a := fun z => by
      subst z
      rcases hb with hb | hb
      · exact n hb
      · rw [hb] at e; cases e
    rw [upd_ne nb]
    exact S.keep b o e n
/-- an own list, lent or not: what stands there -/
theorem SR.ownAt (S : SR K F O env σ H) {xs : List D} (h : sl env i = .own xs ∨ sl env i = .bor xs) : ∃ a vs, O i = some a ∧ (F.bo a ∨ F.H0 a = none) ∧ get1 σ i = some (.ref a) ∧ H a = some (.lst vs) ∧ RepL (Ow F O) H vs xs ∧
    ∀ (H' : Hp) (vs' : List V) (ys : List D), H' a = some (.lst vs') → RepL (Ow F O) H' vs' ys → SlR K F O H' i (get1 σ i) (match sl env i with | .own _ => .own ys | .bor _ => .bor ys | s => s) := by
  have s := S.slot i
  rcases h with h | h
  · rw [h] at s ⊢
    obtain ⟨a, vs, h1, h0, h2, h3, r⟩ := s
    exact ⟨a, vs, h1, .inr h0.1, h2, h3, r, fun H' vs' ys e r' => ⟨a, vs', h1, h0, h2, e, r'⟩⟩
  · rw [h] at s ⊢
    obtain ⟨a, vs, h1, h0, h2, h3, r⟩ := s
    exact ⟨a, vs, h1, .inl ⟨i, h0⟩, h2, h3, r, fun H' vs' ys e r' => ⟨a, vs', h1, h0, h2, e, r'⟩⟩
/-- the own object is let go -/
theorem SR.rel (S : SR K F O env σ H) {xs : List D} (h : sl env i = .own xs) : SR K F (setO O i none) (put env i (.val (.lst xs))) σ H := by
  have s := S.slot i
  rw [h] at s
  obtain ⟨a, vs, h1, h0, h2, h3, r⟩ := s
  have hl : i < env.length := Nat.lt_of_not_le fun z => by rw [sl_out _ _ z] at h; cases h
  refine ⟨fun j => ?_, inj_setN S, fun a w => S.prot a (ow_setN w), S.keep, S.al, by rw [put_len]; exact S.len, S.nal, S.pt⟩
  by_cases hj : j = i
  · subst hj
    rw [sl_put_same _ _ _ hl]
    refine ⟨setO_same, _, h2, ?_⟩
    by_cases hw : Ow F (setO O j none) a
    · rcases hw with hw | ⟨k, hw⟩
      · exact absurd hw h0.2
      · by_cases hk : k = j
        · rw [hk, setO_same] at hw; cases hw
        · rw [setO_ne hk] at hw
          exact absurd (S.inj k j a hw h1) hk
    · exact .lst hw h3 (r.sub fun a w => .inl (ow_setN w))
  · rw [sl_put_ne _ _ _ _ hj]
    exact SlR.own (F := F) rfl rfl (setO_ne hj) (fun _ z => z) (fun a w => .inl (ow_setN w)) (fun a w => .inl (w.elim (fun w => .inl (jo_setN w)) .inr)) (S.slot j)
end
end AH
namespace AH
open PySem PySem.Spec PyProof.Rows L2
variable [TheK]
/-! ### targets -/
def Wp (js : List Nat) (σ σ' : L2.St) : Prop := ∀ vs : List Nat, (∀ j ∈ js, j ∈ vs) → wipe σ' vs = wipe σ vs
theorem wipe_get {σ : L2.St} {i : Nat} : ∀ {vs : List Nat}, (wipe σ vs)[i]? = if i ∈ vs then (σ[i]?).map (fun _ => none) else σ[i]?
  | [] => by simp [wipe]
  | v :: vs => by
    unfold wipe
    by_cases h : v = i
    · subst h
      by_cases hl : v < (wipe σ vs).length
      · rw [List.getElem?_set_self hl]
        rw [wipe_length] at hl
        simp [hl]
      · rw [List.getElem?_eq_none (by rw [List.length_set]; omega)]
        rw [wipe_length] at hl
        rw [List.getElem?_eq_none (l := σ) (by omega)]
        simp
    · rw [List.getElem?_set_ne h, wipe_get]
      have e : (i ∈ v :: vs) ↔ i ∈ vs := by
        rw [List.mem_cons]
        exact ⟨fun z => z.elim (fun z => absurd z.symm h) id, .inr⟩
      simp only [e]
theorem wipe_set {σ : L2.St} {i : Nat} {o : Option V} {vs : List Nat} (h : i ∈ vs) : wipe (σ.set i o) vs = wipe σ vs := by
  apply List.ext_getElem?
  intro j
  rw [wipe_get, wipe_get]
  by_cases hj : j = i
  · subst hj
    rw [if_pos h, if_pos h]
    by_cases hl : j < σ.length
    · rw [List.getElem?_set_self hl]
      simp [hl]
    · rw [List.getElem?_eq_none (by rw [List.length_set]; omega), List.getElem?_eq_none (by omega)]
  · rw [List.getElem?_set_ne (Ne.symm hj)]
def NoEx {α : Type} (m : M α) : Prop := ∀ e c fs e', m e ≠ .ex c fs e'
def GD (X : Cx) (tg : Expr) (js : List Nat) (g : DG) : Prop := (∀ d, NoEx (g d)) ∧ ∃ t : TG, PG X tg t ∧ ∀ (F : Fm) (O : Nat → Option Addr) (env : Env) (σ : L2.St) (H : Hp) (v : V) (d : D) (Q : L2.St → Hp → Prop), SR X.K F O env σ H → Rep (Ow F O) H v d →
  Want (g d) env (fun _ e1 => ∀ σ', SR X.K F O e1 σ' H → Wp js σ σ' → Q σ' H) (fun _ _ _ => True) → t v σ H Q
def GsD (X : Cx) (tgs : List Expr) (js : List Nat) (g : DGs) : Prop := (∀ d, NoEx (g d)) ∧ ∃ t : TGs, PGs X tgs t ∧ ∀ (F : Fm) (O : Nat → Option Addr) (env : Env) (σ : L2.St) (H : Hp) (vs : List V) (ds : List D) (Q : L2.St → Hp → Prop), SR X.K F O env σ H → RepL (Ow F O) H vs ds →
  Want (g ds) env (fun _ e1 => ∀ σ', SR X.K F O e1 σ' H → Wp js σ σ' → Q σ' H) (fun _ _ _ => True) → t vs σ H Q
section
variable {X : Cx} {Wx : WX} {e a b c d tg : Expr} {ma mb mc md : DE} {pos p : Pos}
theorem gd_name {i : Nat} {x : Str} (hN : X.N.Nodup) (hi : X.N[i]? = some x) (hx : Loc X.env.scope x) (hf : X.fn x = true ∨ X.env.scope.names.lookup x = some .local := by first | exact .inl rfl | exact .inr rfl | assumption) : GD X (.Name x pos) [i] (gN i) := by
  refine ⟨fun d e c fs e' h => ?_, _, pg_name hN hi hx hf, fun F O env σ H v d Q S r w => ?_⟩
  · unfold gN at h
    split at h <;> cases h
  unfold Want gN at w
  cases h : isOwn (sl env i) with
  | true => rw [h] at w; exact w.elim
  | false =>
    rw [h] at w
    exact w _ (S.set h r) fun vs hv => wipe_set (hv i (List.mem_singleton.mpr rfl))
theorem gsd_nil : GsD X [] [] gsNil := by
  refine ⟨fun d e c fs e' h => (by cases d <;> cases h), _, pgs_nil, fun F O env σ H vs ds Q S r w => ?_⟩
  cases r with
  | nil => exact ⟨rfl, w σ S fun _ _ => rfl⟩
  | cons _ _ => exact w.elim
theorem gsd_cons {es : List Expr} {js ks : List Nat} {g : DG} {gs : DGs} (h : GD X a js g) (hs : GsD X es ks gs) (he : (assignEach (a :: es) X.env).map (·.2) = assign a X.env :: (assignEach es X.env).map (·.2) := by rfl) : GsD X (a :: es) (js ++ ks) (gsCons g gs) := by
  obtain ⟨nx, t, p, q⟩ := h
  obtain ⟨nx', t', p', q'⟩ := hs
  refine ⟨fun d e c fs e' h => ?_, _, pgs_cons p p' he, fun F O env σ H vs ds Q S r w => ?_⟩
  · cases d with
    | nil => cases h
    | cons d ds =>
      have h : ((g d).bind fun _ => gs ds) e = .ex c fs e' := h
      unfold M.bind at h
      cases hg : g d e with
      | ok u e1 => rw [hg] at h; exact nx' ds e1 c fs e' h
      | ex c2 fs2 e1 => exact nx d e c2 fs2 e1 hg
      | bad => rw [hg] at h; cases h
  cases r with
  | nil => exact w.elim
  | cons r l =>
    refine ⟨_, _, rfl, q F O env σ H _ _ _ S r (w.bind.imp (fun _ e1 w1 σ' S' wp => ?_) fun _ _ _ z => z)⟩
    exact q' F O e1 σ' H _ _ _ S' l (Want.imp (m := gs _) w1 (fun _ e2 w2 σ2 S2 wp2 => w2 σ2 S2 fun us hu => (wp2 us fun j hj => hu j (List.mem_append_right _ hj)).trans (wp us fun j hj => hu j (List.mem_append_left _ hj))) fun _ _ _ z => z)
theorem gd_tup {es : List Expr} {k : Nat} {js : List Nat} {gs : DGs} {n : Nat} (hc : X.calm = true) (h : GsD X es js gs) (hlen : ∀ ds env o e, gs ds env = .ok o e → ds.length = n)
    (hn : (assignEach es X.env).length = n := by rfl) (hst : (assignEach es X.env).findIdx? (·.1) = none := by rfl) : GD X (.Tuple es k pos) js (gT gs) := by
  obtain ⟨nx, t, p, q⟩ := h
  have pe : PG X (.Tuple es k pos) (fun v σ H Q => gTup X.K n t v σ H Q ∨ gUnl X.K n t v σ H Q) := by
    refine ⟨fun pins s σ H v u Q I r hw => ?_⟩
    rcases hw with hw | hw
    · exact (pg_tup hc p hn hst).run pins s σ H v u Q I r hw
    · exact (pg_unl hc p hn hst).run pins s σ H v u Q I r hw
  refine ⟨fun d e c fs e' h => ?_, _, pe, fun F O env σ H v d Q S r w => ?_⟩
  · cases d with
    | tup xs => exact nx xs e c fs e' h
    | lst xs => exact nx xs e c fs e' h
    | _ => cases h
  have len : ∀ ds, Want (gs ds) env (fun _ e1 => ∀ σ', SR X.K F O e1 σ' H → Wp js σ σ' → Q σ' H) (fun _ _ _ => True) → ds.length = n := fun ds w => by
    unfold Want at w
    cases hm : gs ds env with
    | ok o e => exact hlen ds env o e hm
    | ex c fs e => exact absurd hm (nx ds env c fs e)
    | bad => rw [hm] at w; exact w.elim
  cases r with
  | tup n1 h1 l =>
    refine .inl ⟨_, _, rfl, .inl (.inl h1), ?_, q F O env σ H _ _ _ S l w⟩
    rw [l.len]; exact len _ w
  | lst n1 h1 l =>
    refine .inr ⟨_, _, rfl, .inl (.inl h1), ?_, q F O env σ H _ _ _ S l w⟩
    rw [l.len]; exact len _ w
  | _ => exact w.elim
theorem gs_len0 : ∀ ds env o e, gsNil ds env = .ok o e → ds.length = 0 := fun ds env o e h => by
  cases ds with
  | nil => rfl
  | cons _ _ => cases h
theorem gs_lenS {g : DG} {gs : DGs} {n : Nat} (h : ∀ ds env o e, gs ds env = .ok o e → ds.length = n) : ∀ ds env o e, gsCons g gs ds env = .ok o e → ds.length = n + 1 := fun ds env o e q => by
  cases ds with
  | nil => cases q
  | cons d ds =>
    show ds.length + 1 = n + 1
    have q : ((g d).bind fun _ => gs ds) env = .ok o e := q
    unfold M.bind at q
    cases hg : g d env with
    | ok u e1 => rw [hg] at q; rw [h ds e1 o e q]
    | ex c fs e1 => rw [hg] at q; cases q
    | bad => rw [hg] at q; cases q
/-! ### what is walked -/
/-- what may change while a thing is walked -/
abbrev Wj (F : Fm) (O : Nat → Option Addr) : Pr := fun a => Ow F O a ∧ (Jo O a ∨ F.N a)
theorem Ke.wj {F : Fm} {O : Nat → Option Addr} {H H' : Hp} (k : Ke (Jo O) H H') : Ke (Wj F O) H H' := k.imp fun _ z _ => ⟨.inr z, .inl z⟩
theorem Ke.wo {F : Fm} {O : Nat → Option Addr} {H H' : Hp} (k : Ke (Wj F O) H H') : Ke (Ow F O) H H' := k.imp fun _ z _ => z.1
structure Wk (F : Fm) (O : Nat → Option Addr) (H1 : Hp) (J : It) (xs : List D) : Prop where
  go : ∀ i H, Ke (Wj F O) H1 H → i < xs.length → J.go i H
  stop : ∀ H, Ke (Wj F O) H1 H → J.stop xs.length H
  yld : ∀ i H x H' d (W' : Pr), Ke (Wj F O) H1 H → (∀ a, W' a → Ow F O a ∨ H1 a = none) → (∀ a, W' a → H a ≠ none ∧ ∀ xs, H a ≠ some (.tup xs)) → xs[i]? = some d → J.yld i H x H' → (∀ a o, H a = some o → H' a = some o) ∧ Rep W' H' x d
def ID (X : Cx) (Wx : WX) (tg iter : Expr) (m : DI) : Prop := ∃ wi : TI, PI X tg iter wi ∧ ∀ (F : Fm) (O : Nat → Option Addr) (env : Env) (σ : L2.St) (H : Hp) (R : It → Hp → Prop), SR X.K F O env σ H →
  Want m env (fun xs e1 => ∀ J H1, SR X.K F O e1 σ H1 → Ke (Jo O) H H1 → Wk F O H1 J xs → R J H1) (XW X.K F O σ H Wx) → wi σ H R
section
variable {K : PySem.W.Frag} {F : Fm} {O : Nat → Option Addr} {H1 : Hp} {xs ys : List D} {vs ws : List V} {J : It}
theorem ow_step {O' : Nat → Option Addr} (g : ∀ a, Jo O' a → Jo O a ∨ H1 a = none) : ∀ a, Ow F O' a → Ow F O a ∨ H1 a = none := fun a w => w.elim (fun w => .inl (.inl w)) fun w => (g a w).elim (fun z => .inl (.inr z)) .inr
/-- items that stay where they are -/
theorem wk_at (l : RepL (Ow F O) H1 vs xs) (w : Walk J vs.length (fun H => Ke (Wj F O) H1 H) (YAt vs)) : Wk F O H1 J xs where
  go := fun i H k hi => w.goes i H (by rw [l.len]; exact hi) k
  stop := fun H k => by rw [← l.len]; exact w.stops H k
  yld := fun i H x H' d O' k g al hd y => by
    have hi : i < vs.length := by
      rw [l.len]
      exact (List.getElem?_eq_some_iff.mp hd).1
    obtain ⟨rfl, hx⟩ := w.yields i H x H' hi k y
    obtain ⟨v, hv, r⟩ := l.get hd
    rw [hx] at hv
    cases hv
    exact ⟨fun _ _ e => e, r.ke k.wo g⟩
/-- new pairs of such -/
theorem wk_pair {zs : List D} {n : Nat} {f h : Nat → Option V} (w : Walk J n (fun H => Ke (Wj F O) H1 H) (YPair f h)) (hn : zs.length = n)
    (hz : ∀ i d x y, zs[i]? = some d → f i = some x → h i = some y → ∃ dx dy, d = .tup [dx, dy] ∧ Rep (Ow F O) H1 x dx ∧ Rep (Ow F O) H1 y dy) : Wk F O H1 J zs where
  go := fun i H k hi => w.goes i H (by omega) k
  stop := fun H k => by rw [hn]; exact w.stops H k
  yld := fun i H v H' d O' k g al hd yy => by
    have hi : i < n := by
      rw [← hn]
      exact (List.getElem?_eq_some_iff.mp hd).1
    obtain ⟨T, x, y, rfl, hT, rfl, hx, hy⟩ := w.yields i H v H' hi k yy
    obtain ⟨dx, dy, rfl, rx, ry⟩ := hz i d x y hd hx hy
    have st : ∀ a o, H a = some o → upd H T (.tup [x, y]) a = some o := new_ext hT
    refine ⟨st, .tup (fun z => (al T z).1 hT) upd_same (.cons ?_ (.cons ?_ .nil))⟩
    · exact (rx.ke k.wo g).ke (ke_ext st) fun a z => .inl z
    · exact (ry.ke k.wo g).ke (ke_ext st) fun a z => .inl z
end
/-- a list or a tuple -/
def iAny (K : PySem.W.Frag) (tl : TE) : TI := fun σ H R => tl σ H fun x H1 => ∃ a, x = .ref a ∧ ((∃ xs, SqL K H1 a xs ∧ R (Itl K a) H1) ∨ ∃ xs, SqT K H1 a xs ∧ R (Itt K a) H1)
theorem pi_any {l : Expr} {tl : TE} (hl : PE X l tl) : PI X tg l (iAny X.K tl) := by
  refine ⟨fun pins s σ H R I h => ?_⟩
  refine thn (hl.run pins s σ H _ I h) fun v s1 ⟨x, H1, I1, r1, q1⟩ => ?_
  obtain ⟨a, e, q⟩ := q1
  subst e
  cases r1
  rcases q with ⟨xs, hq, q⟩ | ⟨xs, hq, q⟩
  · obtain ⟨its, rv, p, hz⟩ := I1.list hq
    refine wpAny_pyIter_list p.isList ?_
    refine ⟨s1.heap.objs.size, [s1.heap.objs.size], _, _, H1, rfl, I1.kept (t' := s1.toks) fun b o e => Heap.get?_push_of_some _ e, turn_list a _, ⟨_, Heap.get?_push_size _ rfl, rfl, rfl⟩, fun b hb => ?_, q⟩
    have e : b = s1.heap.objs.size := by simpa using hb
    subst e
    exact I1.fpOk (Nat.le_refl _) (I1.hok.fresh (Nat.le_refl _))
  · obtain ⟨its, rv, p, hz⟩ := I1.tuple hq
    refine wpAny_pyIter_tuple (show s1.heap.IsTuple a its.toArray from p) ?_
    refine ⟨s1.heap.objs.size, [s1.heap.objs.size], _, _, H1, rfl, I1.kept (t' := s1.toks) fun b o e => Heap.get?_push_of_some _ e, turn_tuple a _, ⟨_, Heap.get?_push_size _ rfl, rfl, rfl⟩, fun b hb => ?_, q⟩
    have e : b = s1.heap.objs.size := by simpa using hb
    subst e
    exact I1.fpOk (Nat.le_refl _) (I1.hok.fresh (Nat.le_refl _))
theorem id_seq (ha : PD .s X Wx a ma) : ID X Wx tg a (iSeq ma) := by
  obtain ⟨ta, pa, qa⟩ := ha
  refine ⟨_, pi_any pa, fun F O env σ H R S w => ?_⟩
  refine qa F O env σ H _ S (w.bind.imp (fun dx e1 w1 x H1 S1 k1 p1 => ?_) fun _ _ _ z => z)
  cases p1 with
  | lst n h l =>
    have st : ∀ H, Ke (Wj F O) H1 H → SqL X.K H _ _ := fun H k => .inl (.inl (k.stay _ _ (fun z => n z.1) h))
    exact ⟨_, rfl, .inl ⟨_, .inl (.inl h), w1 _ H1 S1 k1 (wk_at l (walk_list.mono (fun H k => st H k) fun _ _ _ _ _ _ y => y))⟩⟩
  | tup n h l =>
    have st : ∀ H, Ke (Wj F O) H1 H → SqT X.K H _ _ := fun H k => .inl (.inl (k.stay _ _ (fun z => n z.1) h))
    exact ⟨_, rfl, .inr ⟨_, .inl (.inl h), w1 _ H1 S1 k1 (wk_at l (walk_tup.mono (fun H k => st H k) fun _ _ _ _ _ _ y => y))⟩⟩
  | _ => exact w1.elim
theorem wk_range {F : Fm} {O : Nat → Option Addr} {H1 : Hp} (i j : Int) : Wk F O H1 (Itr i (j - i).toNat) (rng i j) where
  go := fun k H _ hk => by unfold rng at hk; rw [List.length_map, List.length_range] at hk; exact hk
  stop := fun H _ => by
    show (j - i).toNat ≤ (rng i j).length
    unfold rng; rw [List.length_map, List.length_range]; exact Nat.le_refl _
  yld := fun k H x H' d O' _ _ _ hd y => by
    obtain ⟨rfl, rfl⟩ := y
    refine ⟨fun _ _ e => e, ?_⟩
    unfold rng at hd
    rw [List.getElem?_map] at hd
    cases hr : (List.range (j - i).toNat)[k]? with
    | none => rw [hr] at hd; cases hd
    | some n =>
      rw [hr] at hd
      cases hd
      have e : n = k := by
        have := List.getElem?_range (n := (j - i).toNat) (i := k) ((List.getElem?_eq_some_iff.mp hr).1 |> fun z => by rw [List.length_range] at z; exact z)
        rw [this] at hr
        cases hr
        rfl
      rw [e]
      exact .int _
theorem id_range1 (hb : Bn X "range" (.type "range")) (ha : PD .s X Wx a ma) (hs : starEach [a] X.env = [(false, eval a X.env)] := by rfl) : ID X Wx tg (.Call (.Name "range" p) [a] [] pos) (AH.iRng1 ma) := by
  obtain ⟨ta, pa, qa⟩ := ha
  refine ⟨_, pi_range1 hb.gl hb.mg (pa_cons pa pa_nil hs) hs, fun F O env σ H R S w => ?_⟩
  refine qa F O env σ H _ S (w.bind.imp (fun dx e1 w1 x H1 S1 k1 p1 => ?_) fun _ _ _ z => z)
  cases p1 with
  | int j =>
    cases hr : rngOk 0 j with
    | false =>
      have w2 : Want (if rngOk 0 j = true then M.pure (rng 0 j) else fun _ => AH.R.bad) e1 _ _ := w1
      rw [hr] at w2
      exact w2.elim
    | true =>
      have w2 : Want (if rngOk 0 j = true then M.pure (rng 0 j) else fun _ => AH.R.bad) e1 (fun xs e1 => ∀ J H1, SR X.K F O e1 σ H1 → Ke (Jo O) H H1 → Wk F O H1 J xs → R J H1) (XW X.K F O σ H Wx) := w1
      rw [hr] at w2
      obtain ⟨h1, h2⟩ := Bool.and_eq_true_iff.mp hr
      obtain ⟨h3, h4⟩ := Bool.and_eq_true_iff.mp h1
      have q := w2 (Itr 0 (j - 0).toNat) H1 S1 k1 (wk_range 0 j)
      rw [Int.sub_zero] at q
      exact ⟨j, rfl, of_decide_eq_true h4, of_decide_eq_true h2, q⟩
  | _ => exact w1.elim
theorem id_range2 (hb : Bn X "range" (.type "range")) (ha : PD .s X Wx a ma) (hb' : PD .s X Wx b mb) (hs : starEach [a, b] X.env = [(false, eval a X.env), (false, eval b X.env)] := by rfl) (hs2 : starEach [b] X.env = [(false, eval b X.env)] := by rfl) :
    ID X Wx tg (.Call (.Name "range" p) [a, b] [] pos) (AH.iRng2 ma mb) := by
  obtain ⟨ta, pa, qa⟩ := ha
  obtain ⟨tb, pb, qb⟩ := hb'
  refine ⟨_, pi_range2 hb.gl hb.mg (pa_cons pa (pa_cons pb pa_nil hs2) (by rw [hs, hs2])) hs hs2, fun F O env σ H R S w => ?_⟩
  refine qa F O env σ H _ S (w.bind.imp (fun dx e1 w1 x H1 S1 k1 p1 => ?_) fun _ _ _ z => z)
  refine qb F O e1 σ H1 _ S1 (w1.bind.imp (fun dy e2 w2 y H2 S2 k2 p2 => ?_) (XW.later k1))
  cases p1 with
  | int i => cases p2 with
    | int j =>
      have w3 : Want (if rngOk i j = true then M.pure (rng i j) else fun _ => AH.R.bad) e2 (fun xs e1 => ∀ J H1, SR X.K F O e1 σ H1 → Ke (Jo O) H H1 → Wk F O H1 J xs → R J H1) (XW X.K F O σ H Wx) := w2
      cases hr : rngOk i j with
      | false => rw [hr] at w3; exact w3.elim
      | true =>
        rw [hr] at w3
        obtain ⟨h1, h2⟩ := Bool.and_eq_true_iff.mp hr
        obtain ⟨h3, h4⟩ := Bool.and_eq_true_iff.mp h1
        obtain ⟨h5, h6⟩ := Bool.and_eq_true_iff.mp h3
        exact ⟨i, j, rfl, ⟨of_decide_eq_true h5, of_decide_eq_true h6, of_decide_eq_true h4, of_decide_eq_true h2⟩, w3 _ H2 S2 (k1.trans k2) (wk_range i j)⟩
    | _ => exact w2.elim
  | _ => exact w2.elim
theorem pairs_get {xs ys : List D} {i : Nat} {d : D} (h : (pairs xs ys)[i]? = some d) : ∃ x y, xs[i]? = some x ∧ ys[i]? = some y ∧ d = .tup [x, y] := by
  unfold pairs at h
  rw [List.getElem?_map] at h
  cases hz : (xs.zip ys)[i]? with
  | none => rw [hz] at h; cases h
  | some q =>
    rw [hz] at h
    cases h
    obtain ⟨h1, h2⟩ := List.getElem?_zip_eq_some.mp hz
    exact ⟨_, _, h1, h2, rfl⟩
end
end AH
namespace AH
open PySem PySem.Spec PyProof.Rows L2
variable [TheK]
/-! ### statements -/
structure KeS (O : Nat → Option Addr) (H : Hp) (O' : Nat → Option Addr) (H' : Hp) : Prop where
  ke : Ke (Jo O) H H'
  ow : ∀ a, Jo O' a → Jo O a ∨ H a = none
theorem KeS.refl {O : Nat → Option Addr} {H : Hp} : KeS O H O H := ⟨Ke.refl, fun _ z => .inl z⟩
theorem KeS.of {O : Nat → Option Addr} {H H' : Hp} (k : Ke (Jo O) H H') : KeS O H O H' := ⟨k, fun _ z => .inl z⟩
theorem KeS.trans {O O1 O2 : Nat → Option Addr} {H H1 H2 : Hp} (a : KeS O H O1 H1) (b : KeS O1 H1 O2 H2) : KeS O H O2 H2 where
  ke := ⟨fun x o n e => b.ke.stay x o (fun z => (a.ow x z).elim n fun q => by rw [q] at e; cases e) (a.ke.stay x o n e), fun x e => b.ke.there x (a.ke.there x e)⟩
  ow := fun x z => by
    rcases b.ow x z with z | z
    · exact a.ow x z
    · refine .inr ?_
      cases q : H x with
      | none => rfl
      | some o => exact absurd z (a.ke.there x (by rw [q]; simp))
/-- what stands in the lent lists keeps apart from Z -/
def BoR (Z : Pr) (F : Fm) (e1 : Env) (H : Hp) : Prop := ∀ i xs, sl e1 i = .bor xs → ∃ a vs, F.ba i = some a ∧ H a = some (.lst vs) ∧ RepL Z H vs xs
/-- what a def hands back -/
def Ro (fl : Fl) (K : PySem.W.Frag) (F : Fm) (O : Nat → Option Addr) (e1 : Env) (σ : L2.St) (H : Hp) (v : V) (d : D) : Prop := match fl with
  | .f => ∃ p vs xs, v = .ref p ∧ d = .lst xs ∧ F.H0 p = none ∧ H p = some (.lst vs) ∧ RepL (fun a => F.P a ∨ a = p) H vs xs ∧ BoR (fun a => F.P a ∨ a = p) F e1 H
  | .fd => ∃ p ks kvs, v = .ref p ∧ d = .dic kvs ∧ F.H0 p = none ∧ H p = some (.dT ks) ∧ RepK (fun a => F.P a ∨ a = p) H ks kvs ∧ BoR (fun a => F.P a ∨ a = p) F e1 H
  | .ft => ∃ p vs xs, v = .ref p ∧ d = .tup xs ∧ H p = some (TuO p vs) ∧ RepL F.P H vs xs
  | _ => Rep F.P H v d
def EndR (fl : Fl) (K : PySem.W.Frag) (F : Fm) (O : Nat → Option Addr) (e1 : Env) (σ : L2.St) (H : Hp) (D : Ends) : Out → Prop
  | .nx => D.nx σ H
  | .bk => D.bk σ H
  | .ct => D.ct σ H
  | .rt d => ∀ v, Ro fl K F O e1 σ H v d → D.rt v H
def XWs (K : PySem.W.Frag) (F : Fm) (O : Nat → Option Addr) (H : Hp) (Wx : WX) : Str → List D → Env → Prop := fun c fs e1 =>
  ∀ O' σ' cls d H', SR K F O' e1 σ' H' → KeS O H O' H' → XR K (Ow F O') c fs cls d H' → Wx cls d σ' H'
theorem XWs.later {K : PySem.W.Frag} {F : Fm} {O O1 : Nat → Option Addr} {H H1 : Hp} {Wx : WX} (k : KeS O H O1 H1) : ∀ c fs e, XWs K F O H Wx c fs e → XWs K F O1 H1 Wx c fs e :=
  fun _ _ _ h O' σ' cls d H' S k1 x => h O' σ' cls d H' S (k.trans k1) x
theorem XWs.xw {K : PySem.W.Frag} {F : Fm} {O : Nat → Option Addr} {σ : L2.St} {H : Hp} {Wx : WX} : ∀ c fs e, XWs K F O H Wx c fs e → XW K F O σ H Wx c fs e :=
  fun _ _ _ h cls d H' S k1 x => h O σ cls d H' S (.of k1) x
def Post (fl : Fl) (K : PySem.W.Frag) (F : Fm) (O : Nat → Option Addr) (H : Hp) (D : Ends) : Out → Env → Prop := fun o e1 => ∀ O' σ' H', SR K F O' e1 σ' H' → KeS O H O' H' → EndR fl K F O' e1 σ' H' D o
def SD (fl : Fl) (X : Cx) (Wx : WX) (st : Stmt) (m : DS) : Prop := ∃ t : TS, PS X st t ∧ ∀ (F : Fm) (O : Nat → Option Addr) (env : Env) (σ : L2.St) (H : Hp) (D : Ends), SR X.K F O env σ H →
  Want m env (Post fl X.K F O H D) (XWs X.K F O H Wx) → t D σ H
def SsD (fl : Fl) (X : Cx) (Wx : WX) (st : List Stmt) (m : DS) : Prop := ∃ t : TS, PSs X st t ∧ ∀ (F : Fm) (O : Nat → Option Addr) (env : Env) (σ : L2.St) (H : Hp) (D : Ends), SR X.K F O env σ H →
  Want m env (Post fl X.K F O H D) (XWs X.K F O H Wx) → t D σ H
theorem Post.later {fl : Fl} {K : PySem.W.Frag} {F : Fm} {O O1 : Nat → Option Addr} {H H1 : Hp} {D : Ends} (k : KeS O H O1 H1) : ∀ o e, Post fl K F O H D o e → Post fl K F O1 H1 D o e :=
  fun _ _ h O' σ' H' S k1 => h O' σ' H' S (k.trans k1)
theorem Want.gd {α : Type} {m : M α} {c : Bool} {a : α} {e e' : Env} {Q : α → Env → Prop} {E : Str → List D → Env → Prop} (h : Want m e Q E) (eq : m e = if c = true then .bad else .ok a e') : c = false ∧ Q a e' := by
  unfold Want at h
  rw [eq] at h
  cases c with
  | true => exact h.elim
  | false => exact ⟨rfl, h⟩
section
variable {fl : Fl} {X : Cx} {Wx : WX} {e a b c d tg : Expr} {ma mb mc md : DE} {pos p : Pos} {st : Stmt} {rest : List Stmt} {m n : DS}
theorem ss_nil : SsD fl X Wx [] sNil := ⟨_, pss_nil, fun F O env σ H D S w => w O σ H S .refl⟩
theorem ss_cons (h : SD fl X Wx st m) (hr : SsD fl X Wx rest n) : SsD fl X Wx (st :: rest) (sSeq m n) := by
  obtain ⟨t, p, q⟩ := h
  obtain ⟨t', p', q'⟩ := hr
  refine ⟨_, pss_cons p p', fun F O env σ H D S w => ?_⟩
  refine q F O env σ H _ S (w.bind.imp (fun o e1 w1 O1 σ1 H1 S1 k1 => ?_) fun _ _ _ z => z)
  cases o with
  | nx => exact q' F O1 e1 σ1 H1 D S1 (Want.imp (m := n) w1 (Post.later k1) (XWs.later k1))
  | bk => exact w1 O1 σ1 H1 S1 k1
  | ct => exact w1 O1 σ1 H1 S1 k1
  | rt d => exact w1 O1 σ1 H1 S1 k1
theorem ss_one (h : SD fl X Wx st m) : SsD fl X Wx [st] m := let ⟨t, p, q⟩ := h; ⟨t, pss_one p, q⟩
/-- name = a value -/
def sAsgN (i : Nat) (a : DE) : DS := a.bind fun x => fun e => if isFix (sl e i) then .bad else .ok .nx (put e i (.val x))
theorem sd_asgN {i : Nat} {x : Str} (hN : X.N.Nodup) (hi : X.N[i]? = some x) (hx : Loc X.env.scope x) (ha : PD .s X Wx a ma) (hs : swapsWith a (some (.Name x p)) pos.line X.env = pure false := by rfl)
    (hf : X.fn x = true ∨ X.env.scope.names.lookup x = some .local := by first | exact .inl rfl | exact .inr rfl | assumption) : SD fl X Wx (.Assign [.Name x p] a pos) (sAsgN i ma) := by
  obtain ⟨ta, pa, qa⟩ := ha
  refine ⟨_, ps_set hN hi hx pa hs hf, fun F O env σ H D S w => ?_⟩
  refine qa F O env σ H _ S (w.bind.imp (fun dx e1 w1 x H1 S1 k1 p1 => ?_) XWs.xw)
  obtain ⟨_, w2⟩ := w1.gd rfl
  exact w2 _ _ H1 (S1.setVal p1) ⟨k1, fun a z => .inl (jo_setN z)⟩
/-- name = a new list, kept as the frame's own -/
theorem keS_new {O : Nat → Option Addr} {H H' : Hp} {i : Nat} {q : Addr} (k : Ke (Jo O) H H') (hq : H q = none) : KeS O H (setO O i (some q)) H' :=
  ⟨k, fun a z => (jo_setS z).elim .inl fun e => .inr (by rw [e]; exact hq)⟩
theorem SR.own1 {K : PySem.W.Frag} {F : Fm} {O : Nat → Option Addr} {e1 : Env} {σ : L2.St} {H H' : Hp} {v : V} {xs : List D} {i : Nat} (al : ∀ a, F.H0 a ≠ none → H a ≠ none) (ow : ∀ a, Ow F O a → H a ≠ none) (r : Po .f K F O e1 σ H H' v (.lst xs)) (hl : i < e1.length) :
    ∃ q, v = .ref q ∧ H q = none ∧ SR K F (setO O i (some q)) (put e1 i (.own xs)) (σ.set i (some v)) H' := by
  obtain ⟨q, vs, xs', rfl, e, hq, hq', l, S⟩ := r
  cases e
  have np : ¬ Jo O q := fun z => ow q (.inr z) hq
  refine ⟨q, rfl, hq, S.setNew np hl ⟨q, vs, setO_same, ⟨?_, fun z => ow q (.inl z) hq⟩, rfl, hq', l.sub fun a w => .inl (ow_setS w)⟩⟩
  cases z : F.H0 q with
  | none => rfl
  | some o => exact absurd hq (al q (by rw [z]; simp))
theorem sd_own {i : Nat} {x : Str} (hN : X.N.Nodup) (hi : X.N[i]? = some x) (hx : Loc X.env.scope x) (ha : PD .f X Wx a ma) (hs : swapsWith a (some (.Name x p)) pos.line X.env = pure false := by rfl)
    (hf : X.fn x = true ∨ X.env.scope.names.lookup x = some .local := by first | exact .inl rfl | exact .inr rfl | assumption) : SD fl X Wx (.Assign [.Name x p] a pos) (sOwn i ma) := by
  obtain ⟨ta, pa, qa⟩ := ha
  refine ⟨_, ps_set hN hi hx pa hs hf, fun F O env σ H D S w => ?_⟩
  refine qa F O env σ H _ S (w.bind.imp (fun dx e1 w1 x H1 S1 k1 p1 => ?_) XWs.xw)
  obtain ⟨q, vs, xs, rfl, rfl, hq, r⟩ := id p1
  obtain ⟨h, w2⟩ := w1.gd rfl
  obtain ⟨h1, h2⟩ := Bool.or_eq_false_iff.mp h
  have hl : i < e1.length := by simpa using h2
  obtain ⟨q', e, hq', S2⟩ := SR.own1 (i := i) S.al S.prot p1 hl
  cases e
  exact w2 _ _ H1 S2 (keS_new k1 hq)
/-- the own list is let go, ahead of a block -/
theorem ss_rel {i : Nat} {sts : List Stmt} (h : SsD fl X Wx sts n) : SsD fl X Wx sts (sSeq (sRelL i) n) := by
  obtain ⟨t, p, q⟩ := h
  refine ⟨t, p, fun F O env σ H D S w => ?_⟩
  have w := w.bind
  unfold Want sRelL at w
  cases hs : sl env i with
  | own xs =>
    rw [hs] at w
    have k : KeS O H (setO O i none) H := ⟨Ke.refl, fun a z => .inl (jo_setN z)⟩
    exact q F _ _ σ H D (S.rel hs) (Want.imp (m := n) w (Post.later k) (XWs.later k))
  | _ => rw [hs] at w; exact w.elim
/-- (a, b, ..) = a value -/
theorem sd_asgT {js : List Nat} {g : DG} (ha : PD .s X Wx a ma) (hg : GD X tg js g) (hs : swapsWithSole [tg] a pos.line X.env = pure false := by rfl) (hw : swappedStores [tg] a X.env = pure none := by rfl)
    (h1 : (assignEach [tg] X.env).map (·.2) = [assign tg X.env] := by rfl) : SD fl X Wx (.Assign [tg] a pos) (sAsg ma g) := by
  obtain ⟨ta, pa, qa⟩ := ha
  obtain ⟨nx, t, pt, qt⟩ := hg
  refine ⟨_, ps_asg pa pt hs hw h1, fun F O env σ H D S w => ?_⟩
  refine qa F O env σ H _ S (w.bind.imp (fun dx e1 w1 x H1 S1 k1 p1 => ?_) XWs.xw)
  refine qt F O e1 σ H1 x dx _ S1 p1 ?_
  have w2 := w1.bind
  unfold Want at w2 ⊢
  cases hm : g dx e1 with
  | ok u e2 => rw [hm] at w2; exact fun σ' S' _ => w2 O σ' H1 S' (.of k1)
  | ex c fs e2 => exact absurd hm (nx dx e1 c fs e2)
  | bad => rw [hm] at w2; exact w2
end
end AH
namespace AH
open PySem PySem.Spec PyProof.Rows L2
variable [TheK]
section
variable {fl : Fl} {X : Cx} {Wx : WX} {e a b c d tg : Expr} {ma mb mc md : DE} {pos p : Pos} {st : Stmt} {rest : List Stmt} {m n : DS}
theorem sd_if {t : DT} {sa sb : List Stmt} (hc : TD X Wx c t) (ha : SsD fl X Wx sa m) (hb : SsD fl X Wx sb n) : SD fl X Wx (.If c sa sb pos) (sIf t m n) := by
  obtain ⟨tc, pc, qc⟩ := hc
  obtain ⟨ta, pa, qa⟩ := ha
  obtain ⟨tb, pb, qb⟩ := hb
  refine ⟨_, ps_if pc pa pb, fun F O env σ H D S w => ?_⟩
  refine qc F O env σ H _ S (w.bind.imp (fun k e1 w1 H1 S1 k1 => ?_) XWs.xw)
  cases k with
  | true => exact qa F O e1 σ H1 D S1 (Want.imp (m := m) w1 (Post.later (.of k1)) (XWs.later (.of k1)))
  | false => exact qb F O e1 σ H1 D S1 (Want.imp (m := n) w1 (Post.later (.of k1)) (XWs.later (.of k1)))
theorem sd_ret (ha : PD .s X Wx a ma) : SD .s X Wx (.Return (some a) pos) (sRet ma) := by
  obtain ⟨ta, pa, qa⟩ := ha
  refine ⟨_, ps_ret pa, fun F O env σ H D S w => ?_⟩
  exact qa F O env σ H _ S (w.bind.imp (fun dx e1 w1 x H1 S1 k1 p1 => w1 O σ H1 S1 (.of k1) x (Rep.sub (fun a z => .inl (.inl z)) p1)) XWs.xw)
theorem al_none {F : Fm} {H : Hp} {p : Addr} (al : ∀ a, F.H0 a ≠ none → H a ≠ none) (h : H p = none) : F.H0 p = none := by
  cases z : F.H0 p with
  | none => rfl
  | some o => exact absurd h (al p (by rw [z]; simp))
theorem SR.boR {K : PySem.W.Frag} {F F' : Fm} {O : Nat → Option Addr} {env : Env} {σ : L2.St} {H : Hp} (S : SR K F' O env σ H) (hb : F'.ba = F.ba) {Z : Pr} (g : ∀ a, Z a → Ow F' O a) : BoR Z F env H := fun j ys hj => by
  have s := S.slot j
  rw [hj] at s
  obtain ⟨b, us, g1, g2, g3, g4, g5⟩ := s
  exact ⟨b, us, by rw [← hb]; exact g2, g4, g5.sub fun a z => .inl (g a z)⟩
theorem sd_retF (ha : PD .f X Wx a ma) : SD .f X Wx (.Return (some a) pos) (sRet ma) := by
  obtain ⟨ta, pa, qa⟩ := ha
  refine ⟨_, ps_ret pa, fun F O env σ H D S w => ?_⟩
  refine qa F O env σ H _ S (w.bind.imp (fun dx e1 w1 x H1 S1 k1 p1 => w1 O σ H1 S1 (.of k1) x ?_) XWs.xw)
  obtain ⟨q, vs, xs, rfl, rfl, hq, hq', l, S2⟩ := p1
  exact ⟨q, vs, xs, rfl, rfl, al_none S.al hq, hq', l.sub fun a z => .inl (.inl z), S2.boR rfl fun a z => .inl z⟩
/-! ### lists changed -/
theorem Want.ownL {K : PySem.W.Frag} {F : Fm} {O : Nat → Option Addr} {env : Env} {σ : L2.St} {H : Hp} {i : Nat} {Q : List D → Env → Prop} {E : Str → List D → Env → Prop} (S : SR K F O env σ H) (h : Want (AH.ownL i) env Q E) :
    ∃ xs a vs, O i = some a ∧ (F.bo a ∨ F.H0 a = none) ∧ get1 σ i = some (.ref a) ∧ H a = some (.lst vs) ∧ RepL (Ow F O) H vs xs ∧ Q xs env ∧
      ∀ (vs' : List V) (ys : List D), RepL (Ow F O) H vs' ys → SR K F O (putL env i ys) σ (upd H a (.lst vs')) := by
  have go : ∀ xs, (sl env i = .own xs ∨ sl env i = .bor xs) → Q xs env → ∃ xs a vs, O i = some a ∧ (F.bo a ∨ F.H0 a = none) ∧ get1 σ i = some (.ref a) ∧ H a = some (.lst vs) ∧ RepL (Ow F O) H vs xs ∧ Q xs env ∧
      ∀ (vs' : List V) (ys : List D), RepL (Ow F O) H vs' ys → SR K F O (putL env i ys) σ (upd H a (.lst vs')) := fun xs hs hq => by
    obtain ⟨a, vs, h1, h2, h3, h4, r, f⟩ := S.ownAt hs
    refine ⟨xs, a, vs, h1, h2, h3, h4, r, hq, fun vs' ys r' => ?_⟩
    exact S.mut h1 h2 (f _ vs' ys upd_same (r'.mj (Ke.mut ⟨i, h1⟩)))
  unfold Want AH.ownL at h
  cases q : sl env i with
  | own xs => rw [q] at h; exact go xs (.inl q) h
  | bor xs => rw [q] at h; exact go xs (.inr q) h
  | _ => rw [q] at h; exact h.elim
theorem ke_mutJ {O : Nat → Option Addr} {H : Hp} {i : Nat} {a : Addr} {o : HO} (h : O i = some a) : Ke (Jo O) H (upd H a o) := Ke.mut ⟨i, h⟩
theorem sd_app {i : Nat} {x : Str} {p1 p2 p3 : Pos} (hN : X.N[i]? = some x) (hv : Vis X.env.scope x) (ha : PD .s X Wx a ma)
    (hfew : ((backTo p3 (starEach [a] X.env)).all (fun x => !x.1) && (backToKw p3 (keywordEach [] X.env)).all (fun x => x.1.isSome)
      && decide (([a] : List Expr).length + ([] : List Keyword).length + (if ([] : List Keyword).isEmpty then 0 else 1) < 30)) = true := by rfl)
    (hline : (p2.endLine == p3.line) = true := by rfl) (hs : starEach [a] X.env = (false, eval a X.env) :: starEach [] X.env := by rfl)
    (hd : (x == ("__debug__" : Str)) = false := by decide) (hcd : (x == ("__classdict__" : Str)) = false := by decide) :
    SD fl X Wx (.Expr (.Call (.Attribute (.Name x p1) "append" p2) [a] [] p3) pos) (sApp i ma) := by
  obtain ⟨ta, pa, qa⟩ := ha
  refine ⟨_, ps_expr (pe_bm PySem.F.plainAttrs_list PySem.F.slot_list_append PySem.F.type_list_append mt_append (pe_var hN hv hd hcd) (pa_cons pa pa_nil hs) rfl hfew hline hs rfl), fun F O env σ H D S w => ?_⟩
  obtain ⟨xs0, q, vs0, hO, hb, hg, hq, l0, w, _⟩ := w.bind.ownL S
  refine ⟨.ref q, get1_some hg, .inl ⟨rfl, vs0, .inl (.inl hq)⟩, ?_⟩
  refine qa F O env σ H _ S (w.bind.imp (fun dx e1 w1 x H1 S1 k1 p1 => ?_) XWs.xw)
  obtain ⟨xs, q', vs, hO', hb', hg', hq', l, w2, f⟩ := w1.bind.ownL S1
  obtain rfl : q' = q := Option.some.inj (hO'.symm.trans hO)
  unfold Want at w2
  cases hz : lenOk (xs.length + 1) with
  | false => simp only [hz] at w2; exact w2.elim
  | true =>
    simp only [hz, if_true] at w2
    have hz' : xs.length + 1 ≤ 100000 := of_decide_eq_true hz
    refine ⟨q', vs, x, rfl, rfl, hq', by rw [l.len, sizeLine_eq]; omega, ?_⟩
    exact w2 O σ _ (f (vs ++ [x]) (xs ++ [dx]) (l.app (.cons p1 .nil))) (.of (k1.trans (ke_mutJ hO)))
theorem sd_setL {i : Nat} {x : Str} {p1 p2 : Pos} (hN : X.N[i]? = some x) (hv : Vis X.env.scope x) (hb : PD .s X Wx b mb) (ha : PD .s X Wx a ma) (hs : swapsWithSole [.Subscript (.Name x p1) b p2] a pos.line X.env = pure false := by rfl)
    (hw : swappedStores [.Subscript (.Name x p1) b p2] a X.env = pure none := by rfl)
    (has : ∀ v, assign (.Subscript (.Name x p1) b p2) X.env v = (do
      let ov ← holding [v] (eval (.Name x p1) X.env)
      let iv ← holding [v, ov] (eval b X.env)
      standAt p2
      holding [v, ov, iv] (setItem ov iv v)
      release [v, ov, iv] []) := by intro _; rfl)
    (hd : (x == ("__debug__" : Str)) = false := by decide) (hcd : (x == ("__classdict__" : Str)) = false := by decide) :
    SD fl X Wx (.Assign [.Subscript (.Name x p1) b p2] a pos) (sSetL i mb ma) := by
  obtain ⟨ta, pa, qa⟩ := ha
  obtain ⟨tb, pb, qb⟩ := hb
  refine ⟨_, ps_asg pa (pg_sub (pe_var hN hv hd hcd) pb set_list has) hs hw rfl, fun F O env σ H D S w => ?_⟩
  refine qa F O env σ H _ S (w.bind.imp (fun dx e1 w1 x H1 S1 k1 p1 => ?_) XWs.xw)
  obtain ⟨xs0, q, vs0, hO, hb, hg, hq, l0, w2, _⟩ := w1.bind.ownL S1
  refine ⟨.ref q, get1_some hg, ?_⟩
  refine qb F O e1 σ H1 _ S1 (w2.bind.imp (fun dk e2 w3 k H2 S2 k2 p2 => ?_) fun c fs e z => XW.later k1 c fs e (XWs.xw c fs e z))
  obtain ⟨xs, q', vs, hO', hb', hg', hq', l, w4, f⟩ := w3.bind.ownL S2
  obtain rfl : q' = q := Option.some.inj (hO'.symm.trans hO)
  cases p2 with
  | int k =>
    cases hj : ixN xs.length k with
    | none =>
      have w5 : Want (match ixN xs.length k with | some n => fun e => .ok .nx (putL e i (xs.set n dx)) | none => fun _ => R.bad) e2 (Post fl X.K F O H D) (XWs X.K F O H Wx) := w4
      rw [hj] at w5
      exact w5.elim
    | some j =>
      have w5 : Want (match ixN xs.length k with | some n => fun e => .ok .nx (putL e i (xs.set n dx)) | none => fun _ => R.bad) e2 (Post fl X.K F O H D) (XWs X.K F O H Wx) := w4
      rw [hj] at w5
      refine ⟨q', vs, k, j, rfl, rfl, hq', by rw [l.len]; exact hj, ?_⟩
      exact w5 O σ _ (f (vs.set j x) (xs.set j dx) (l.set (Rep.mj k2 p1) j)) (.of (k1.trans (k2.trans (ke_mutJ hO))))
  | _ => exact w4.elim
/-! ### dicts changed -/
theorem RepK.any {W : Pr} {H : Hp} (k : List Key) : ∀ {ks : List (List Key × V)} {kvs : List (List Key × D)}, RepK W H ks kvs → (ks.any fun kv => decide (kv.1 = k)) = kvs.any fun kv => decide (kv.1 = k)
  | _, _, .nil => rfl
  | _, _, .cons r l => by rw [List.any_cons, List.any_cons, RepK.any k l]
theorem RepK.snoc {W : Pr} {H : Hp} {v : V} {d : D} (k : List Key) (r : Rep W H v d) : ∀ {ks : List (List Key × V)} {kvs : List (List Key × D)}, RepK W H ks kvs → RepK W H (ks ++ [(k, v)]) (kvs ++ [(k, d)])
  | _, _, .nil => .cons r .nil
  | _, _, .cons r' l => .cons r' (RepK.snoc k r l)
theorem RepK.repl {W : Pr} {H : Hp} {v : V} {d : D} (k : List Key) (r : Rep W H v d) : ∀ {ks : List (List Key × V)} {kvs : List (List Key × D)}, RepK W H ks kvs → RepK W H (ks.map fun kv => if kv.1 = k then (kv.1, v) else kv) (kvs.map fun kv => if kv.1 = k then (kv.1, d) else kv)
  | _, _, .nil => .nil
  | _, _, .cons (k := k') r' l => by
    rw [List.map_cons, List.map_cons]
    by_cases h : k' = k
    · rw [if_pos h, if_pos h]; exact .cons r (RepK.repl k r l)
    · rw [if_neg h, if_neg h]; exact .cons r' (RepK.repl k r l)
theorem RepK.put {W : Pr} {H : Hp} {v : V} {d : D} (k : List Key) (r : Rep W H v d) {ks : List (List Key × V)} {kvs : List (List Key × D)} (l : RepK W H ks kvs) : RepK W H (putK ks k v) (dput kvs k d) := by
  unfold putK dput
  rw [l.any k]
  split
  · exact l.repl k r
  · exact l.snoc k r
theorem RepK.len {W : Pr} {H : Hp} : ∀ {ks : List (List Key × V)} {kvs : List (List Key × D)}, RepK W H ks kvs → ks.length = kvs.length
  | _, _, .nil => rfl
  | _, _, .cons r l => by rw [List.length_cons, List.length_cons, RepK.len l]
/-! ### x op= e -/
end
end AH
namespace AH
open PySem PySem.Spec PyProof.Rows L2
variable [TheK]
section
variable {fl : Fl} {X : Cx} {Wx : WX} {e a b c d tg iter : Expr} {ma mb mc md : DE} {pos p : Pos} {st : Stmt} {rest : List Stmt} {m n : DS}
/-! ### for -/
theorem sd_for {js : List Nat} {mi : DI} {g : DG} {body : List Stmt} (hp : PassesOwn (model X.prog X.w) X.A X.env X.xe) (hc : X.calm = true) (hi : ID X Wx tg iter mi) (hg : GD X tg js g) (hb : SsD fl X Wx body m)
    (hs : ∀ x, foldedSetIterable iter X.env x = pure x := by intro _; rfl) : SD fl X Wx (.For tg iter body [] pos) (sFor mi g m) := by
  obtain ⟨wi, pi, qi⟩ := hi
  obtain ⟨nx, tg', pg, qg⟩ := hg
  obtain ⟨tb, pb, qb⟩ := hb
  refine ⟨_, ps_for hp hc pi pg pb hs, fun F O env σ H D S w => ?_⟩
  refine qi F O env σ H _ S (w.bind.imp (fun xs e1 w1 J H1 S1 k1 wk => ?_) XWs.xw)
  refine ⟨fun i k σ' H' => k = xs.length - i ∧ i ≤ xs.length ∧ ∃ O' e', SR X.K F O' e' σ' H' ∧ KeS O H1 O' H' ∧ Want (loop g m (xs.drop i)) e' (Post fl X.K F O' H' D) (XWs X.K F O' H' Wx), ⟨xs.length, by simp, Nat.zero_le _, O, e1, S1, .refl, w1.imp (Post.later (.of k1)) (XWs.later (.of k1))⟩, ?_⟩
  rintro i k σ2 H2 ⟨rfl, hi, O2, e2, S2, k2, w2⟩
  by_cases hlt : i < xs.length
  · have hd : xs.drop i = xs[i] :: xs.drop (i + 1) := (List.drop_eq_getElem_cons hlt)
    refine .inr ⟨wk.go i H2 k2.ke.wj hlt, fun σ' H' => i + 1 ≤ xs.length ∧ ∃ O' e', SR X.K F O' e' σ' H' ∧ KeS O H1 O' H' ∧ Want (loop g m (xs.drop (i + 1))) e' (Post fl X.K F O' H' D) (XWs X.K F O' H' Wx), fun σ' H' h => ⟨xs.length - (i + 1), by omega, rfl, h.1, h.2⟩, fun x H3 y => ?_⟩
    rw [hd] at w2
    obtain ⟨ext, r⟩ := wk.yld i H2 x H3 xs[i] (Ow F O2) k2.ke.wj (ow_step k2.ow) (S2.prot2) (by simp [hlt]) y
    have S3 : SR X.K F O2 e2 σ2 H3 := S2.ext ext
    have k3 : KeS O2 H2 O2 H3 := .of (ke_ext ext)
    refine qg F O2 e2 σ2 H3 x xs[i] _ S3 r ?_
    have w3 := Want.bind (m := g xs[i]) w2
    refine w3.imp (fun _ e4 w4 σ4 S4 _ => ?_) fun _ _ _ _ => trivial
    refine qb F O2 e4 σ4 H3 _ S4 ((Want.bind (m := m) w4).imp (fun o e5 w5 O5 σ5 H5 S5 k5 => ?_) (XWs.later k3))
    have kk : KeS O H1 O5 H5 := k2.trans (k3.trans k5)
    have again : Want (loop g m (xs.drop (i + 1))) e5 (Post fl X.K F O2 H2 D) (XWs X.K F O2 H2 Wx) → i + 1 ≤ xs.length ∧ ∃ O' e', SR X.K F O' e' σ5 H5 ∧ KeS O H1 O' H5 ∧ Want (loop g m (xs.drop (i + 1))) e' (Post fl X.K F O' H5 D) (XWs X.K F O' H5 Wx) := fun w6 =>
      ⟨hlt, O5, e5, S5, kk, w6.imp (Post.later (k3.trans k5)) (XWs.later (k3.trans k5))⟩
    cases o with
    | nx => exact again w5
    | ct => exact again w5
    | bk => exact w5 O5 σ5 H5 S5 (k3.trans k5)
    | rt d => exact w5 O5 σ5 H5 S5 (k3.trans k5)
  · have e : i = xs.length := by omega
    subst e
    refine .inl ⟨wk.stop H2 k2.ke.wj, ?_⟩
    rw [List.drop_length] at w2
    exact w2 O2 σ2 H2 S2 .refl
/-! ### comprehensions -/
/-- the reading that an expression's word gives -/
def tD (fl : Fl) (K : PySem.W.Frag) (Wx : WX) (m : DE) : TE := fun σ H Q => ∃ F O env, SR K F O env σ H ∧ Want m env (fun d e1 => ∀ v H', SR K F O e1 σ H' → Ke (Jo O) H H' → Po fl K F O e1 σ H H' v d → Q v H') (XW K F O σ H Wx)
theorem PD.pe {fl : Fl} (h : PD fl X Wx a ma) : PE X a (tD fl X.K Wx ma) := by
  obtain ⟨t, p, q⟩ := h
  exact ⟨fun pins s σ H Q I ⟨F, O, env, S, w⟩ => p.run pins s σ H Q I (q F O env σ H Q S w)⟩
def tT (K : PySem.W.Frag) (Wx : WX) (m : DT) : TT := fun σ H Q => ∃ F O env, SR K F O env σ H ∧ Want m env (fun b e1 => ∀ H', SR K F O e1 σ H' → Ke (Jo O) H H' → Q b H') (XW K F O σ H Wx)
/-- the tests of a comprehension -/
def CD (X : Cx) (Wx : WX) (ifs : List Expr) (m : DT) : Prop := PTs X ifs (tT X.K Wx m)
theorem cd_nil : CD X Wx [] AH.tYes := ⟨fun pins s σ H Q I ⟨F, O, env, S, w⟩ => pts_nil.run pins s σ H Q I (w H S Ke.refl)⟩
theorem cd_one {t : DT} (h : TD X Wx c t) : CD X Wx [c] t := by
  obtain ⟨tt, p, q⟩ := h
  exact ⟨fun pins s σ H Q I ⟨F, O, env, S, w⟩ => (pts_one p).run pins s σ H Q I (q F O env σ H Q S w)⟩
def tG (K : PySem.W.Frag) (js : List Nat) (g : DG) : TG := fun v σ H Q => ∃ F O env d, SR K F O env σ H ∧ Rep (Ow F O) H v d ∧ Want (g d) env (fun _ e1 => ∀ σ', SR K F O e1 σ' H → Wp js σ σ' → Q σ' H) (fun _ _ _ => True)
theorem GD.pg {js : List Nat} {g : DG} (h : GD X tg js g) : PG X tg (tG X.K js g) := by
  obtain ⟨nx, t, p, q⟩ := h
  exact ⟨fun pins s σ H v u Q I r ⟨F, O, env, d, S, rr, w⟩ => p.run pins s σ H v u Q I r (q F O env σ H v d Q S rr w)⟩
def tI (K : PySem.W.Frag) (Wx : WX) (m : DI) : TI := fun σ H R => ∃ F O env, SR K F O env σ H ∧ Want m env (fun xs e1 => ∀ J H1, SR K F O e1 σ H1 → Ke (Jo O) H H1 → Wk F O H1 J xs → R J H1) (XW K F O σ H Wx)
theorem ID.pi {m : DI} (h : ID X Wx tg iter m) : PI X tg iter (tI X.K Wx m) := by
  obtain ⟨t, p, q⟩ := h
  exact ⟨fun pins s σ H R I ⟨F, O, env, S, w⟩ => p.run pins s σ H R I (q F O env σ H R S w)⟩
def W0 : WX := fun _ _ _ _ => False
section
variable {K : PySem.W.Frag} {F : Fm} {O : Nat → Option Addr} {env e0 e1 : Env} {σ : L2.St} {H H1 H' : Hp} {D : Addr}
theorem put_len' (e : Env) : ∀ vs : List Nat, (wipeE e vs).length = e.length
  | [] => rfl
  | v :: vs => by unfold wipeE; rw [put_len, put_len' e vs]
theorem sl_wipe : ∀ {vs : List Nat} {j : Nat}, sl (wipeE env vs) j = if j ∈ vs then .no else sl env j
  | [], j => by simp [wipeE]
  | v :: vs, j => by
    unfold wipeE
    by_cases h : j = v
    · subst h
      rw [if_pos List.mem_cons_self]
      by_cases hl : j < (wipeE env vs).length
      · exact sl_put_same _ _ _ hl
      · rw [put_out _ _ _ (by omega)]; exact sl_out _ _ (by omega)
    · rw [sl_put_ne _ _ _ _ h, sl_wipe]
      have e : (j ∈ v :: vs) ↔ j ∈ vs := by
        rw [List.mem_cons]
        exact ⟨fun z => z.elim (fun z => absurd z h) id, .inr⟩
      simp only [e]
theorem get1_wipe {vs : List Nat} {j : Nat} : get1 (wipe σ vs) j = if j ∈ vs then none else get1 σ j := by
  unfold get1
  rw [wipe_get]
  split
  · cases σ[j]? <;> rfl
  · rfl
theorem back_len (e0 e : Env) : ∀ vs : List Nat, (back e0 e vs).length = e.length
  | [] => rfl
  | v :: vs => by unfold back; rw [put_len, back_len e0 e vs]
theorem sl_back (h : e0.length = e1.length) : ∀ {vs : List Nat} {j : Nat}, sl (back e0 e1 vs) j = if j ∈ vs then sl e0 j else sl e1 j
  | [], j => by simp [back]
  | v :: vs, j => by
    unfold back
    by_cases hj : j = v
    · subst hj
      rw [if_pos List.mem_cons_self]
      by_cases hl : j < (back e0 e1 vs).length
      · exact sl_put_same _ _ _ hl
      · rw [put_out _ _ _ (by omega)]
        rw [back_len] at hl
        rw [sl_out _ _ (by rw [back_len]; omega), sl_out _ _ (by omega)]
    · rw [sl_put_ne _ _ _ _ hj, sl_back h]
      have e : (j ∈ v :: vs) ↔ j ∈ vs := by
        rw [List.mem_cons]
        exact ⟨fun z => z.elim (fun z => absurd z hj) id, .inr⟩
      simp only [e]
theorem SR.wipe (S : SR K F O env σ H) (vs : List Nat) (h : ∀ v ∈ vs, O v = none) : SR K F O (wipeE env vs) (L2.wipe σ vs) H where
  slot := fun j => by
    rw [sl_wipe, get1_wipe]
    split
    · rename_i hj; exact h j hj
    · exact S.slot j
  inj := S.inj
  prot := S.prot
  keep := S.keep
  al := S.al
  len := by rw [put_len', wipe_length]; exact S.len
  nal := S.nal
  pt := S.pt
/-- behind a comprehension: the frame's own slots as they were -/
theorem SR.back (S : SR K F O e0 σ H1) {F' : Fm} (hb : F'.ba = F.ba) (h0 : F'.H0 = F.H0) (gp : ∀ a, F'.P a → F.P a ∨ H1 a = none) (gn : ∀ a, F'.N a → F.N a ∨ H1 a = none) {vs : List Nat} (S' : SR K F' O e1 (L2.wipe σ vs) H') (k : Ke (Jo O) H1 H') (h : ∀ v ∈ vs, isOwn (sl e0 v) = false) : SR K F' O (AH.back e0 e1 vs) σ H' := by
  have le : e0.length = e1.length := by
    have := S'.len
    rw [wipe_length] at this
    rw [S.len, this]
  have g : ∀ a, Ow F' O a → Ow F O a ∨ H1 a = none := fun a w => w.elim (fun w => (gp a w).elim (fun z => .inl (.inl z)) .inr) fun w => .inl (.inr w)
  refine ⟨fun j => ?_, S'.inj, S'.prot, S'.keep, S'.al, by rw [back_len, ← le]; exact S.len, S'.nal, S'.pt⟩
  rw [sl_back le]
  split
  · rename_i hj
    have s := S.slot j
    have ho := h j hj
    cases z : sl e0 j with
    | no => rw [z] at s; exact s
    | val d => rw [z] at s; obtain ⟨h1, v, e, r⟩ := s; exact ⟨h1, v, e, r.ke k.ow g⟩
    | ro d => rw [z] at s; obtain ⟨h1, v, e, r⟩ := s; exact ⟨h1, v, e, r.go k g fun a z => z.elim (fun z => .inl (.inl z)) fun z => (gn a z).elim (fun z => .inl (.inr z)) .inr⟩
    | _ => rw [z] at ho; cases ho
  · rename_i hj
    have s := S'.slot j
    rw [get1_wipe, if_neg hj] at s
    exact s
/-- the new list that is being filled: all else keeps apart -/
theorem SR.updP {o : HO} (S : SR K (F.ad D) O env σ H) (nj : ¬ Jo O D) (h0 : F.H0 D = none) (ho : ∀ xs, o ≠ .tup xs := by intro _ z; cases z) : SR K (F.ad D) O env σ (upd H D o) := by
  have al : ∀ a, H a ≠ none → upd H D o a ≠ none := fun a h => by
    by_cases e : a = D
    · rw [e, upd_same]; simp
    · rw [upd_ne e]; exact h
  have ke : Ke (Ow (F.ad D) O) H (upd H D o) := ⟨fun a u n e => by rw [upd_ne fun z => n (.inl (.inr z))]; exact e, al⟩
  refine ⟨fun i => ?_, S.inj, fun a w => al a (S.prot a w), fun a u e n => ?_, fun a e => al a (S.al a e), S.len, fun a e => al a (S.nal a e), fun b xs w => by
    by_cases z : b = D
    · rw [z, upd_same]; exact fun y => ho xs (Option.some.inj y)
    · rw [upd_ne z]; exact S.pt b xs w⟩
  · have s := S.slot i
    cases z : sl env i with
    | no => rw [z] at s; exact s
    | val d => rw [z] at s; obtain ⟨h1, v, e, r⟩ := s; exact ⟨h1, v, e, r.mono ke⟩
    | ro d =>
      rw [z] at s
      obtain ⟨h1, v, e, r⟩ := s
      refine ⟨h1, v, e, ?_⟩
      cases r with
      | of r => exact .of (r.mono ke)
      | tup n h l => exact .tup n (rd_keep (fun o e => by rw [upd_ne fun z => n (.inr (.inr z))]; exact e) h) (l.mono ke)
      | lst n h l => exact .lst n (rd_keep (fun o e => by rw [upd_ne fun z => n (.inr (.inr z))]; exact e) h) (l.mono ke)
      | dic n h l => exact .dic n (rd_keep (fun o e => by rw [upd_ne fun z => n (.inr (.inr z))]; exact e) h) (l.mono ke)
      | kl s => exact .kl s
    | own xs => rw [z] at s; obtain ⟨a, vs, h, hz, e, q, r⟩ := s; exact ⟨a, vs, h, hz, e, by rw [upd_ne fun z => hz.2 (.inr z)]; exact q, r.mono ke⟩
    | bor xs => rw [z] at s; obtain ⟨a, vs, h, hz, e, q, r⟩ := s; exact ⟨a, vs, h, hz, e, by rw [upd_ne fun z => nj ⟨i, by rw [← z]; exact h⟩]; exact q, r.mono ke⟩
    | odc kvs => rw [z] at s; obtain ⟨a, vs, h, hz, e, q, r⟩ := s; exact ⟨a, vs, h, hz, e, by rw [upd_ne fun z => hz.2 (.inr z)]; exact q, r.mono ke⟩
    | ldc kvs => rw [z] at s; obtain ⟨h, a, vs, o, hz, e, q, r⟩ := s; exact ⟨h, a, vs, o, hz, e, by rw [upd_ne fun z => hz (.inr (.inr z))]; exact q, r.mono ke⟩
  · have e : F.H0 a = some u := e
    have nD : a ≠ D := fun z => by rw [z, h0] at e; cases e
    rw [upd_ne nD]
    exact S.keep a u e n
end
end
end AH
namespace AH
open PySem PySem.Spec PyProof.Rows L2
variable [TheK]
section
variable {fl : Fl} {X : Cx} {Wx : WX} {e a b c d tg iter elt : Expr} {ma mb mc md : DE} {pos p : Pos} {st : Stmt} {rest : List Stmt} {m n : DS}
theorem Want.noX {α : Type} {m : M α} {env : Env} {Q : α → Env → Prop} {E : Str → List D → Env → Prop} (h : Want (AH.noX m) env Q E) : Want m env Q fun _ _ _ => False := by
  unfold Want AH.noX at h
  unfold Want
  cases hm : m env with
  | ok a e => rw [hm] at h; exact h
  | ex c fs e => rw [hm] at h; exact h
  | bad => rw [hm] at h; exact h
/-- the new list of a comprehension gets one item more -/
theorem SR.snoc {K : PySem.W.Frag} {F : Fm} {O : Nat → Option Addr} {env : Env} {σ : L2.St} {H : Hp} {D : Addr} {o : HO} {acc : List V} {y : V} {ys : List AH.D} {d : AH.D} (S : SR K (F.ad D) O env σ H) (nj : ¬ Jo O D) (h0 : F.H0 D = none) (l : RepL (Ow (F.ad D) O) H acc ys) (r : Rep (Ow (F.ad D) O) H y d) (ho : ∀ xs, o ≠ .tup xs := by intro _ z; cases z) :
    SR K (F.ad D) O env σ (upd H D o) ∧ RepL (Ow (F.ad D) O) (upd H D o) (acc ++ [y]) (ys ++ [d]) := by
  refine ⟨S.updP nj h0 ho, ?_⟩
  have ke : Ke (Ow (F.ad D) O) H (upd H D o) := Ke.mut (.inl (.inr rfl))
  exact (l.mono ke).app (.cons (r.mono ke) .nil)
theorem lc_sound {K : PySem.W.Frag} {vs js : List Nat} {it : DI} {g : DG} {t : DT} {el : DE} (hj : ∀ j ∈ js, j ∈ vs) {F : Fm} {O : Nat → Option Addr} {env : Env} {σ : L2.St} {H : Hp} {Q : VK} (S : SR K F O env σ H)
    (w : Want (eLc vs it g t el) env (fun d e1 => ∀ v H', SR K F O e1 σ H' → Ke (Jo O) H H' → Po .f K F O e1 σ H H' v d → Q v H') (XW K F O σ H Wx)) :
    tLc (tI K Wx it) (tG K js g) (tT K W0 t) (tD .s K W0 el) vs σ H Q := by
  refine ⟨F, O, env, S, w.bind.imp (fun xs e0 w1 J H1 S1 k1 wk D hD => ?_) fun _ _ _ z => z⟩
  have nj : ¬ Jo O D := fun z => S1.prot D (.inr z) hD
  have h0 : F.H0 D = none := al_none S1.al hD
  have w2 : ((vs.any fun v => isOwn (sl e0 v)) = false ∧ lenOk xs.length = true) ∧ Want (compL vs e0 g t el xs) (wipeE e0 vs) (fun ys e1 => ∀ v H', SR K F O (back e0 e1 vs) σ H' → Ke (Jo O) H H' → Po .f K F O (back e0 e1 vs) σ H H' v (.lst ys) → Q v H') (fun _ _ _ => False) := by
    unfold Want at w1
    cases hb : (vs.any fun v => isOwn (sl e0 v)) || !lenOk xs.length with
    | true => simp only [hb] at w1; exact w1.elim
    | false =>
      simp only [hb] at w1
      refine ⟨?_, ?_⟩
      · cases h1 : (vs.any fun v => isOwn (sl e0 v)) with
        | true => rw [h1] at hb; cases hb
        | false => rw [h1] at hb; cases h2 : lenOk xs.length with
          | true => exact ⟨rfl, rfl⟩
          | false => rw [h2] at hb; cases hb
      · refine Want.noX (E := fun _ _ _ => False) ?_
        unfold Want
        cases hm : noX (compL vs e0 g t el xs) (wipeE e0 vs) with
        | ok ys e1 => rw [hm] at w1; exact w1
        | ex c fs e1 => rw [hm] at w1; exact w1
        | bad => rw [hm] at w1; exact w1
  obtain ⟨⟨hno, hlen⟩, w2⟩ := w2
  have hno' : ∀ v ∈ vs, isOwn (sl e0 v) = false := fun v hv => by
    have := List.any_eq_false.mp hno v hv
    simpa using this
  have hOn : ∀ v ∈ vs, O v = none := fun v hv => S1.notOwn (hno' v hv)
  have Sw : SR K F O (wipeE e0 vs) (L2.wipe σ vs) H1 := S1.wipe vs hOn
  refine ⟨fun i k H' => k = xs.length - i ∧ i ≤ xs.length ∧ ∃ e' acc ys, SR K (F.ad D) O e' (L2.wipe σ vs) H' ∧ Ke (Jo O) H1 H' ∧ H' D = some (.lst acc) ∧ RepL (Ow (F.ad D) O) H' acc ys ∧ ys.length ≤ i ∧
    Want (compL vs e0 g t el (xs.drop i)) e' (fun zs e1 => ∀ v H', SR K F O (back e0 e1 vs) σ H' → Ke (Jo O) H H' → Po .f K F O (back e0 e1 vs) σ H H' v (.lst (ys ++ zs)) → Q v H') (fun _ _ _ => False), ⟨xs.length, by simp, Nat.zero_le _, _, [], [], Sw.ad hD, Ke.new hD, upd_same, .nil, Nat.le_refl _, w2⟩, ?_⟩
  rintro i k H2 ⟨rfl, hi, e', acc, ys, S2, k2, hD2, l2, hy, w3⟩
  by_cases hlt : i < xs.length
  · have hd : xs.drop i = xs[i] :: xs.drop (i + 1) := (List.drop_eq_getElem_cons hlt)
    rw [hd] at w3
    refine .inr ⟨wk.go i H2 k2.wj hlt, fun H' => i + 1 ≤ xs.length ∧ ∃ e' acc ys, SR K (F.ad D) O e' (L2.wipe σ vs) H' ∧ Ke (Jo O) H1 H' ∧ H' D = some (.lst acc) ∧ RepL (Ow (F.ad D) O) H' acc ys ∧ ys.length ≤ i + 1 ∧
      Want (compL vs e0 g t el (xs.drop (i + 1))) e' (fun zs e1 => ∀ v H', SR K F O (back e0 e1 vs) σ H' → Ke (Jo O) H H' → Po .f K F O (back e0 e1 vs) σ H H' v (.lst (ys ++ zs)) → Q v H') (fun _ _ _ => False), fun H' h => ⟨xs.length - (i + 1), by omega, rfl, h.1, h.2⟩, fun x H3 y => ?_⟩
    obtain ⟨ext, r⟩ := wk.yld i H2 x H3 xs[i] (Ow (F.ad D) O) k2.wj (fun a z => by
      rcases z with (z | rfl) | z
      · exact .inl (.inl z)
      · exact .inr hD
      · exact .inl (.inr z)) S2.prot2 (by simp [hlt]) y
    have S3 : SR K (F.ad D) O e' (L2.wipe σ vs) H3 := S2.ext ext
    have w4 := Want.bind (m := g xs[i]) w3
    refine ⟨F.ad D, O, e', xs[i], S3, r, w4.imp (fun _ e4 w5 σ4 S4 wp => ?_) fun _ _ _ z => z.elim⟩
    refine ⟨(wp vs hj).trans (by
      apply List.ext_getElem?
      intro j
      rw [wipe_get, wipe_get]
      split
      · cases σ[j]? <;> rfl
      · rfl), F.ad D, O, e4, S4, (Want.bind w5).imp (fun bb e5 w6 H5 S5 k5 => ?_) fun _ _ _ z => z.elim⟩
    have k25 : Ke (Jo O) H1 H5 := k2.trans ((ke_ext ext).trans k5)
    have hD5 : H5 D = some (.lst acc) := k5.stay _ _ nj (ext _ _ hD2)
    have l5 : RepL (Ow (F.ad D) O) H5 acc ys := (l2.ke (ke_ext ext) (fun _ z => .inl z)).mj k5
    cases bb with
    | false =>
      simp only [Bool.false_eq_true, if_false]
      refine ⟨hlt, wipeE e5 vs, acc, ys, ?_, k25, hD5, l5, by omega, ?_⟩
      · have := S5.wipe vs hOn
        rw [show L2.wipe σ4 vs = L2.wipe σ vs from (wp vs hj).trans (by
          apply List.ext_getElem?
          intro j
          rw [wipe_get, wipe_get]
          split
          · cases σ[j]? <;> rfl
          · rfl)] at this
        exact this
      · have w7 := Want.bind (m := compL vs e0 g t el (xs.drop (i + 1))) (show Want ((compL vs e0 g t el (xs.drop (i + 1))).bind fun zs => M.pure ([] ++ zs)) (wipeE e5 vs) _ _ from w6)
        exact w7
    | true =>
      simp only [if_true]
      refine ⟨F.ad D, O, e5, S5, (Want.bind (Want.bind w6)).imp (fun dd e6 w7 v H6 S6 k6 r6 => ?_) fun _ _ _ z => z.elim⟩
      refine ⟨acc, k6.stay _ _ nj hD5, ?_, hlt, wipeE e6 vs, acc ++ [v], ys ++ [dd], ?_⟩
      · rw [l5.len]
        have h1 : decide (xs.length ≤ 100000) = true := hlen
        have := of_decide_eq_true h1
        have h2 : sizeLine > 100000 := by decide
        omega
      obtain ⟨S7, l7⟩ := SR.snoc (o := .lst (acc ++ [v])) S6 nj h0 (l5.mj k6) r6
      have k26 := k25.trans k6
      refine ⟨?_, ⟨fun a o n e => by rw [upd_ne (ne_of_none e hD)]; exact k26.stay a o n e, fun a e => ?_⟩, upd_same, l7, ?_, ?_⟩
      · have := S7.wipe vs hOn
        rw [show L2.wipe σ4 vs = L2.wipe σ vs from (wp vs hj).trans (by
          apply List.ext_getElem?
          intro j
          rw [wipe_get, wipe_get]
          split
          · cases σ[j]? <;> rfl
          · rfl)] at this
        exact this
      · by_cases z : a = D
        · rw [z, upd_same]; simp
        · rw [upd_ne z]; exact k26.there a e
      · rw [List.length_append]; simp; omega
      · have w8 := Want.bind (m := compL vs e0 g t el (xs.drop (i + 1))) (show Want ((compL vs e0 g t el (xs.drop (i + 1))).bind fun zs => M.pure ([dd] ++ zs)) (wipeE e6 vs) _ _ from w7)
        refine w8.imp (fun zs e1 z v H' S k p => ?_) fun _ _ _ z => z
        refine z v H' S k ?_
        rw [List.append_assoc] at p
        exact p
  · have e : i = xs.length := by omega
    subst e
    refine .inl ⟨wk.stop H2 k2.wj, ?_⟩
    rw [List.drop_length] at w3
    have w4 := w3 (.ref D) H2
    rw [List.append_nil] at w4
    have Sb : SR K (F.ad D) O (back e0 e' vs) σ H2 := SR.back (F' := F.ad D) S1 rfl rfl (fun a z => z.elim .inl fun z => .inr (z ▸ hD)) (fun a z => z.elim .inl fun z => .inr (z ▸ hD)) S2 k2 hno'
    exact w4 Sb.unad (k1.trans k2) ⟨D, acc, ys, rfl, rfl, by
      cases q : H D with
      | none => rfl
      | some o => exact absurd hD (k1.there D (by rw [q]; simp)), hD2, l2, Sb⟩
/-! two sources -/
def len2Ok (n : Nat) : Bool := decide (n ≤ 4000)
def compL2 (vs vs1 : List Nat) (g : DG) (t : DT) (it1 : DI) (g1 : DG) (t1 : DT) (a : DE) : List D → M (List D)
  | [] => M.pure []
  | x :: xs => (g x).bind fun _ => t.bind fun k =>
      (if k then it1.bind fun ys => fun e => if (vs1.any fun v => isOwn (sl e v)) || !len2Ok ys.length then .bad else compL vs1 e g1 t1 a ys (wipeE e vs1) else M.pure []).bind fun ys =>
      fun e1 => ((compL2 vs vs1 g t it1 g1 t1 a xs).bind fun zs => M.pure (ys ++ zs)) (wipeE e1 vs)
def eLc2 (vs vs1 : List Nat) (it : DI) (g : DG) (t : DT) (it1 : DI) (g1 : DG) (t1 : DT) (a : DE) : DE := it.bind fun xs => fun e =>
  if (vs.any fun v => isOwn (sl e v)) || !len2Ok xs.length then .bad else
  match noX (compL2 vs vs1 g t it1 g1 t1 a xs) (wipeE e vs) with
  | .ok ys e1 => .ok (.lst ys) (back e e1 vs)
  | _ => .bad
/-! the rules -/
theorem CD.pt {ifs : List Expr} {t : DT} (h : CD X Wx ifs t) : PTs X ifs (tT X.K Wx t) := h
def BlkD (X : Cx) (P : Cx → Prop) (scope : Scope) : Prop := ∀ (s : Shared) (H : Hp) (C : Addr) (cl : List (Str × Addr)) (fp : List Addr), P (X.blk s H scope (compEnvC scope cl C X.env) fp)
theorem pd_lc {ifs : List Expr} {scope : Scope} {own : List (Str × Nat)} {js : List Nat} {it : DI} {g : DG} {t : DT} (hc : X.calm = true) (hN : X.N.Nodup) (hb : blkC X.N X.env.scope scope own = true) (hj : (js.all fun j => (own.map (·.2)).contains j) = true)
    (hi : ID X Wx tg iter it) (hg : BlkD X (fun X => GD X tg js g) scope) (ht : BlkD X (fun X => CD X W0 ifs t) scope) (he : BlkD X (fun X => PD .s X W0 elt ma) scope) (hs : ∀ x, foldedSetIterable iter X.env x = pure x := by intro _; rfl) :
    PD .f X Wx (.ListComp elt [⟨tg, iter, ifs, 0⟩] scope pos) (eLc (own.map (·.2)) it g t ma) :=
  ⟨_, pe_lc hc hN hi.pi (blkOk_by hb) (fun s H C cl fp => (hg s H C cl fp).pg) (fun s H C cl fp => (ht s H C cl fp).pt) (fun s H C cl fp => (he s H C cl fp).pe) hs,
    fun F O env σ H Q S w => lc_sound (fun j h => by simpa using List.all_eq_true.mp hj j h) S w⟩
/-! name = [..] on one line, the name a local -/
theorem asgN_of {i : Nat} {t : TE} (hp : PS X st (tAsg t (gName i))) (qa : ∀ (F : Fm) (O : Nat → Option Addr) (env : Env) (σ : L2.St) (H : Hp) (Q : VK), SR X.K F O env σ H →
    Want ma env (fun d e1 => ∀ v H', SR X.K F O e1 σ H' → Ke (Jo O) H H' → Po .s X.K F O e1 σ H H' v d → Q v H') (XW X.K F O σ H Wx) → t σ H Q) : SD fl X Wx st (sAsgN i ma) := by
  refine ⟨_, hp, fun F O env σ H D S w => ?_⟩
  refine qa F O env σ H _ S (w.bind.imp (fun dx e1 w1 x H1 S1 k1 p1 => ?_) XWs.xw)
  obtain ⟨_, w2⟩ := w1.gd rfl
  exact w2 _ _ H1 (S1.setVal p1) ⟨k1, fun a z => .inl (jo_setN z)⟩
theorem sOf_f {t : TE} {K : PySem.W.Frag} (q : ∀ (F : Fm) (O : Nat → Option Addr) (env : Env) (σ : L2.St) (H : Hp) (Q : VK), SR K F O env σ H →
    Want ma env (fun d e1 => ∀ v H', SR K F O e1 σ H' → Ke (Jo O) H H' → Po .f K F O e1 σ H H' v d → Q v H') (XW K F O σ H Wx) → t σ H Q) : ∀ (F : Fm) (O : Nat → Option Addr) (env : Env) (σ : L2.St) (H : Hp) (Q : VK), SR K F O env σ H →
    Want ma env (fun d e1 => ∀ v H', SR K F O e1 σ H' → Ke (Jo O) H H' → Po .s K F O e1 σ H H' v d → Q v H') (XW K F O σ H Wx) → t σ H Q :=
  fun F O env σ H Q S w => q F O env σ H Q S (w.imp (fun d e1 z v H' S' k r => z v H' S' k (Po.s_of_f (K := K) (fun p hp => S.noW hp) r)) fun _ _ _ z => z)
section
variable {i : Nat} {y : Str} {py spos : Pos} {ifs : List Expr} {scope : Scope} {own : List (Str × Nat)} {js : List Nat} {it : DI} {g : DG} {t : DT}
theorem ps_lc1 (hc : X.calm = true) (hN : X.N.Nodup) (hy : X.N[i]? = some y) (hyl : X.env.scope.names.lookup y = some .local) (hk : X.env.scope.kind = .function) (hl : (py.line == pos.line) = true) (ha : (scope.names.any fun (n, k) => n == y && (k == .local || k == .cell)) = false)
    (hb : blkC X.N X.env.scope scope own = true) (hi : ID X Wx tg iter it) (hg : BlkD X (fun X => GD X tg js g) scope) (ht : BlkD X (fun X => CD X W0 ifs t) scope) (he : BlkD X (fun X => PD .s X W0 elt ma) scope) (hs : ∀ x, foldedSetIterable iter X.env x = pure x) :
    PS X (.Assign [.Name y py] (.ListComp elt [⟨tg, iter, ifs, 0⟩] scope pos) spos) (tAsg (tLc (tI X.K Wx it) (tG X.K js g) (tT X.K W0 t) (tD .s X.K W0 ma) (own.map (·.2))) (gName i)) :=
  ps_setLc (spos := spos) hc hN hy hyl (sw_true (l := spos.line) hk hyl hl ha) hi.pi (blkOk_by hb) (fun s H C cl fp => (hg s H C cl fp).pg) (fun s H C cl fp => (ht s H C cl fp).pt) (fun s H C cl fp => (he s H C cl fp).pe) hs
/-- name = [..], a value from now on -/
theorem sd_lc (hc : X.calm = true) (hN : X.N.Nodup) (hy : X.N[i]? = some y) (hyl : X.env.scope.names.lookup y = some .local) (hk : X.env.scope.kind = .function) (hl : (py.line == pos.line) = true) (ha : (scope.names.any fun (n, k) => n == y && (k == .local || k == .cell)) = false)
    (hb : blkC X.N X.env.scope scope own = true) (hj : (js.all fun j => (own.map (·.2)).contains j) = true) (hi : ID X Wx tg iter it) (hg : BlkD X (fun X => GD X tg js g) scope) (ht : BlkD X (fun X => CD X W0 ifs t) scope) (he : BlkD X (fun X => PD .s X W0 elt ma) scope) (hs : ∀ x, foldedSetIterable iter X.env x = pure x := by intro _; rfl) :
    SD fl X Wx (.Assign [.Name y py] (.ListComp elt [⟨tg, iter, ifs, 0⟩] scope pos) spos) (sAsgN i (eLc (own.map (·.2)) it g t ma)) :=
  asgN_of (ps_lc1 hc hN hy hyl hk hl ha hb hi hg ht he hs) (sOf_f fun F O env σ H Q S w => lc_sound (fun j h => by simpa using List.all_eq_true.mp hj j h) S w)
variable {tg1 iter1 : Expr} {ifs1 : List Expr} {vs1 js1 : List Nat} {it1 : DI} {g1 : DG} {t1 : DT}
end
end
end AH
namespace AH
open PySem PySem.Spec PyProof.Rows L2
variable [TheK]
/-! ### what a def promises -/
/-- the lent lists' items, by the parameters -/
def BoL (Z : Pr) (ba : Nat → Option Addr) (H : Hp) : Nat → List Md → List (List D) → Prop
  | _, [], [] => True
  | i, .bor :: ms, xs :: bs => (∃ a vs, ba i = some a ∧ H a = some (.lst vs) ∧ RepL Z H vs xs) ∧ BoL Z ba H (i + 1) ms bs
  | _, .bor :: _, [] => False
  | i, _ :: ms, bs => BoL Z ba H (i + 1) ms bs
  | _, [], _ :: _ => False
/-- the heap behind a call -/
structure KeB (F : Fm) (H H' : Hp) : Prop where
  keep : ∀ a o, H a = some o → ¬ F.bo a → H' a = some o
  there : ∀ a, H a ≠ none → H' a ≠ none
def RoF (fl : Fl) (F : Fm) (ms : List Md) (bs : List (List D)) (H H' : Hp) (v : V) (d : D) : Prop := match fl with
  | .f => ∃ p vs xs, v = .ref p ∧ d = .lst xs ∧ H p = none ∧ H' p = some (.lst vs) ∧ RepL (fun a => F.P a ∨ a = p) H' vs xs ∧ BoL (fun a => F.P a ∨ a = p) F.ba H' 0 ms bs
  | .fd => ∃ p ks kvs, v = .ref p ∧ d = .dic kvs ∧ H p = none ∧ H' p = some (.dT ks) ∧ RepK (fun a => F.P a ∨ a = p) H' ks kvs ∧ BoL (fun a => F.P a ∨ a = p) F.ba H' 0 ms bs
  | .ft => (∃ p vs xs, v = .ref p ∧ d = .tup xs ∧ H' p = some (TuO p vs) ∧ RepL F.P H' vs xs) ∧ BoL F.P F.ba H' 0 ms bs
  | _ => Rep F.P H' v d ∧ BoL F.P F.ba H' 0 ms bs
def spD (fl : Fl) (K : PySem.W.Frag) (N : List Str) (ms : List Md) (f : DF) : Sp := fun vs H Q E => vs.length = ms.length ∧ ∃ (ds : List D) (F : Fm) (O : Nat → Option Addr),
  SR K F O (startE ms ds ++ List.replicate (N.length - ms.length) .no) (start N vs) H ∧ F.H0 = H ∧ lstsOk ms ds = true ∧ match f ds with
    | .ok d bs => ∀ v H', KeB F H H' → RoF fl F ms bs H H' v d → Q v H'
    | .ex c fs bs => ∀ cls dd H', KeB F H H' → BoL F.P F.ba H' 0 ms bs → XR K F.P c fs cls dd H' → E cls dd H'
    | .bad => False
theorem boL_of {Z : Pr} {F : Fm} {H : Hp} {e : Env} (B : BoR Z F e H) : ∀ {ms : List Md} {i : Nat} {e' : Env} {bs : List (List D)}, (∀ j, sl e' j = sl e (i + j)) → lentOf ms e' = some bs → BoL Z F.ba H i ms bs
  | [], i, e', bs, _, h => by cases h; trivial
  | .bor :: ms, i, [], bs, _, h => by cases h
  | .bor :: ms, i, s :: e', bs, he, h => by
    cases s with
    | bor xs =>
      unfold lentOf at h
      cases q : lentOf ms e' with
      | none => rw [q] at h; cases h
      | some bs' =>
        rw [q] at h
        cases h
        have e0 : sl e i = .bor xs := (he 0).symm
        obtain ⟨a, vs, h1, h2, h3⟩ := B i xs e0
        exact ⟨⟨a, vs, h1, h2, h3⟩, boL_of B (fun j => by have := he (j + 1); rw [show i + (j + 1) = i + 1 + j by omega] at this; exact this) q⟩
    | _ => cases h
  | .val :: ms, i, [], bs, _, h => by cases h
  | .ro :: ms, i, [], bs, _, h => by cases h
  | .val :: ms, i, s :: e', bs, he, h => by
    have h : lentOf ms e' = some bs := by cases s <;> exact h
    exact boL_of (ms := ms) (i := i + 1) B (fun j => by have := he (j + 1); rw [show i + (j + 1) = i + 1 + j by omega] at this; exact this) h
  | .ro :: ms, i, s :: e', bs, he, h => by
    have h : lentOf ms e' = some bs := by cases s <;> exact h
    exact boL_of (ms := ms) (i := i + 1) B (fun j => by have := he (j + 1); rw [show i + (j + 1) = i + 1 + j by omega] at this; exact this) h
theorem boL_of0 {Z : Pr} {F : Fm} {H : Hp} {e : Env} {ms : List Md} {bs : List (List D)} (B : BoR Z F e H) (h : lentOf ms e = some bs) : BoL Z F.ba H 0 ms bs := boL_of B (i := 0) (fun j => by rw [Nat.zero_add]) h
/-- a def that must end by return -/
def mkR (n : Nat) (ms : List Md) (b : DS) : DF := fun ds =>
  if !lstsOk ms ds then .bad else
  match b (startE ms ds ++ List.replicate (n - ms.length) .no) with
  | .ok (.rt d) e => (match lentOf ms e with
    | some bs => .ok d bs
    | none => .bad)
  | .ok _ _ => .bad
  | .ex c fs e => (match lentOf ms e with
    | some bs => .ex c fs bs
    | none => .bad)
  | .bad => .bad
section
variable {P : Program} {w : World} {K : PySem.W.Frag} {mg : Str → Option Value} {base : Heap} {x qual : Str} {params : Arguments} {body : List Stmt} {scope : Scope} {dvs : List V} {kws : List (Str × V)} {f : Addr} {fd : FuncData} {N ps : List Str} {k : Nat} {ms : List Md} {fl : Fl}
abbrev cxD (P : Program) (w : World) (K : PySem.W.Frag) (mg : Str → Option Value) (base : Heap) (N : List Str) (qual : Str) (scope : Scope) (f : Addr) (cd : Value) (A : Around) (outer : List PySem.Env) (s : Shared) (H : Hp) (E : XK) : Cx := cxOf (L2.CX P w) P w K mg base N qual scope f cd A outer s H E
/-- of a body at every entry -/
theorem fl_end {F : Fm} {O : Nat → Option Addr} {e : Env} {σ : L2.St} {H H' : Hp} {v : V} {d : D} {bs : List (List D)} (S : SR K F O e σ H') (h0 : F.H0 = H) (hb : lentOf ms e = some bs) (r : Ro fl K F O e σ H' v d) : RoF fl F ms bs H H' v d := by
  have bo : BoL F.P F.ba H' 0 ms bs := boL_of0 (S.boR rfl fun a z => .inl z) hb
  subst h0
  cases fl with
  | f => obtain ⟨p, vs, xs, h1, h2, h3, h4, h5, h6⟩ := r; exact ⟨p, vs, xs, h1, h2, h3, h4, h5, boL_of0 h6 hb⟩
  | fd => obtain ⟨p, vs, xs, h1, h2, h3, h4, h5, h6⟩ := r; exact ⟨p, vs, xs, h1, h2, h3, h4, h5, boL_of0 h6 hb⟩
  | w => exact ⟨r, bo⟩
  | ft => exact ⟨r, bo⟩
  | s => exact ⟨r, bo⟩
theorem keB_of {F : Fm} {O : Nat → Option Addr} {e : Env} {σ : L2.St} {H H' : Hp} (S : SR K F O e σ H') (h0 : F.H0 = H) : KeB F H H' := by
  subst h0
  exact ⟨fun a o e n => S.keep a o e n, S.al⟩
theorem body_wish {F : Fm} {O : Nat → Option Addr} {ds : List D} {H : Hp} {Q : VK} {E : XK} {m : DS} {fd' : DF} (h0 : F.H0 = H) (hl : lstsOk ms ds = true)
    (hf : (fl = .s ∧ fd' = mkF N.length ms m) ∨ fd' = mkR N.length ms m)
    (h : match fd' ds with
    | .ok d bs => ∀ v H', KeB F H H' → RoF fl F ms bs H H' v d → Q v H'
    | .ex c fs bs => ∀ cls dd H', KeB F H H' → BoL F.P F.ba H' 0 ms bs → XR K F.P c fs cls dd H' → E cls dd H'
    | .bad => False) :
    Want m (startE ms ds ++ List.replicate (N.length - ms.length) .no) (Post fl K F O H { nx := fun _ H' => Q .non H', rt := Q }) (XWs K F O H (fun cls d _ H => E cls d H)) := by
  have gx : ∀ {c : Str} {fs : List D} {e : Env}, m (startE ms ds ++ List.replicate (N.length - ms.length) .no) = .ex c fs e → (match lentOf ms e with
      | some bs => Rf.ex c fs bs
      | none => .bad) = fd' ds → XWs K F O H (fun cls d _ H => E cls d H) c fs e := fun {c fs e} hm he => by
    cases hb : lentOf ms e with
    | none => rw [hb] at he; rw [← he] at h; exact h.elim
    | some bs =>
      rw [hb] at he
      rw [← he] at h
      exact fun O' σ' cls d H' S k x => h cls d H' (keB_of S h0) (boL_of0 (S.boR rfl fun a z => .inl z) hb) (by
        obtain ⟨x1, x2⟩ := x
        refine ⟨x1, ?_⟩
        cases d with
        | none => exact x2
        | some d => obtain ⟨y0, vs, y1, y2, y3⟩ := x2; exact ⟨fun z => y0 (.inl z), vs, y1, y2, y3.sub fun a z => .inl (.inl z)⟩)
  have gr : ∀ {d : D} {e : Env}, (match lentOf ms e with
      | some bs => Rf.ok d bs
      | none => .bad) = fd' ds → Post fl K F O H { nx := fun _ H' => Q .non H', rt := Q } (.rt d) e := fun {d e} he => by
    cases hb : lentOf ms e with
    | none => rw [hb] at he; rw [← he] at h; exact h.elim
    | some bs =>
      rw [hb] at he
      rw [← he] at h
      exact fun O' σ' H' S k v r => h v H' (keB_of S h0) (fl_end S h0 hb r)
  unfold Want
  rcases hf with ⟨rfl, rfl⟩ | rfl
  · cases hm : m (startE ms ds ++ List.replicate (N.length - ms.length) .no) with
    | bad => unfold mkF at h; simp only [hl, hm] at h; exact h
    | ex c fs e => exact gx hm (by unfold mkF; simp only [hl, hm]; rfl)
    | ok o e => cases o with
      | rt d => exact gr (by unfold mkF; simp only [hl, hm]; rfl)
      | nx =>
        have he : (match lentOf ms e with
          | some bs => Rf.ok .non bs
          | none => .bad) = mkF N.length ms m ds := by unfold mkF; simp only [hl, hm]; rfl
        exact fun O' σ' H' S k => gr he O' σ' H' S k .non .non
      | bk => unfold mkF at h; simp only [hl, hm] at h; exact h.elim
      | ct => unfold mkF at h; simp only [hl, hm] at h; exact h.elim
  · cases hm : m (startE ms ds ++ List.replicate (N.length - ms.length) .no) with
    | bad => unfold mkR at h; simp only [hl, hm] at h; exact h
    | ex c fs e => exact gx hm (by unfold mkR; simp only [hl, hm]; rfl)
    | ok o e => cases o with
      | rt d => exact gr (by unfold mkR; simp only [hl, hm]; rfl)
      | nx => unfold mkR at h; simp only [hl, hm] at h; exact h.elim
      | bk => unfold mkR at h; simp only [hl, hm] at h; exact h.elim
      | ct => unfold mkR at h; simp only [hl, hm] at h; exact h.elim
/-- nothing is promised -/
theorem fn_bad {k : Nat} (hps : ps.length = ms.length) : FnOk P w K mg base (L2.CX P w) k f fd ps (spD fl K N ms fun _ => .bad) :=
  ⟨fun vs H Q E h => by rw [hps]; exact h.1, fun A outer s H args us vs Q E hr he hb hv h => by
    obtain ⟨_, _, _, _, _, _, _, h⟩ := h
    exact h.elim⟩
end
end AH
namespace AH
open PySem PySem.Spec PyProof.Rows L2
variable [TheK]
/-! ### arguments -/
/-- more is kept apart: new objects -/
structure FX (F F1 : Fm) (H : Hp) : Prop where
  ba : F1.ba = F.ba
  h0 : F1.H0 = F.H0
  p : ∀ a, F.P a → F1.P a
  n : ∀ a, F.N a → F1.N a
  pn : ∀ a, F1.P a → F.P a ∨ H a = none
  nn : ∀ a, F1.N a → F.N a ∨ H a = none
theorem FX.refl {F : Fm} {H : Hp} : FX F F H := ⟨rfl, rfl, fun _ z => z, fun _ z => z, fun _ z => .inl z, fun _ z => .inl z⟩
theorem FX.ad {F : Fm} {H : Hp} {p : Addr} (h : H p = none) : FX F (F.ad p) H := ⟨rfl, rfl, fun _ z => .inl z, fun _ z => .inl z, fun a z => z.elim .inl fun z => .inr (z ▸ h), fun a z => z.elim .inl fun z => .inr (z ▸ h)⟩
theorem none_back {H H1 : Hp} {a : Addr} (k : ∀ a, H a ≠ none → H1 a ≠ none) (h : H1 a = none) : H a = none := by
  cases q : H a with
  | none => rfl
  | some o => exact absurd h (k a (by rw [q]; simp))
theorem FX.trans {F F1 F2 : Fm} {H H1 : Hp} (x : FX F F1 H) (y : FX F1 F2 H1) (k : ∀ a, H a ≠ none → H1 a ≠ none) : FX F F2 H :=
  ⟨y.ba.trans x.ba, y.h0.trans x.h0, fun a z => y.p a (x.p a z), fun a z => y.n a (x.n a z), fun a z => (y.pn a z).elim (x.pn a) fun z => .inr (none_back k z), fun a z => (y.nn a z).elim (x.nn a) fun z => .inr (none_back k z)⟩
theorem FX.ow {F F1 : Fm} {H : Hp} {O : Nat → Option Addr} (x : FX F F1 H) : ∀ a, Ow F O a → Ow F1 O a := fun a z => z.elim (fun z => .inl (x.p a z)) .inr
theorem SR.down {K : PySem.W.Frag} {F F1 : Fm} {O : Nat → Option Addr} {env : Env} {σ : L2.St} {H H0 : Hp} (S : SR K F1 O env σ H) (x : FX F F1 H0) : SR K F O env σ H := by
  refine ⟨fun i => SlR.sub (F := F1) (F' := F) x.ba.symm x.h0.symm (fun a z => .inl (x.p a z)) (fun a z => .inl (x.n a z)) (S.slot i), S.inj, fun a z => S.prot a (x.ow a z), fun a o e n => S.keep a o (by rw [x.h0]; exact e) (by
    rintro ⟨i, z⟩
    exact n ⟨i, by rw [← x.ba]; exact z⟩), fun a z => S.al a (by rw [x.h0]; exact z), S.len, fun a z => S.nal a (x.n a z), fun a xs z => S.pt a xs (x.p a z)⟩
/-- a new object of the later heap -/
theorem SR.adAt {K : PySem.W.Frag} {F : Fm} {O : Nat → Option Addr} {env : Env} {σ : L2.St} {H H' : Hp} {p : Addr} (S : SR K F O env σ H) (k : ∀ a o, H a = some o → H' a = some o) (h : H p = none) (h' : H' p ≠ none) (ht : ∀ xs, H' p ≠ some (.tup xs)) : SR K (F.ad p) O env σ H' := by
  have S1 := S.ext k
  refine ⟨fun i => SlR.ext k (SlR.sub (F := F) (F' := F.ad p) rfl rfl (fun a z => z.elim .inl fun z => .inr (z ▸ h)) (fun a z => z.elim .inl fun z => .inr (z ▸ h)) (S.slot i)), S.inj, fun a z => ?_, S1.keep, S1.al, S.len, fun a z => z.elim (S1.nal a) fun z => by rw [z]; exact h', fun a xs z => z.elim (S1.pt a xs) fun z => by rw [z]; exact ht xs⟩
  rcases z with (z | rfl) | z
  · exact S1.prot a (.inl z)
  · exact h'
  · exact S1.prot a (.inr z)
/-- an object kept apart that no slot owns is changed -/
theorem SR.updQ {K : PySem.W.Frag} {F : Fm} {O : Nat → Option Addr} {env : Env} {σ : L2.St} {H : Hp} {p : Addr} {o : HO} (S : SR K F O env σ H) (hP : F.P p) (hN : F.N p) (nj : ¬ Jo O p) (h0 : F.H0 p = none) (ho : ∀ xs, o ≠ .tup xs := by intro _ z; cases z) : SR K F O env σ (upd H p o) := by
  have e : F = (F.ad p) := by
    obtain ⟨P, N, H0, ba⟩ := F
    show Fm.mk P N H0 ba = Fm.mk (fun a => P a ∨ a = p) (fun a => N a ∨ a = p) H0 ba
    have e1 : P = fun a => P a ∨ a = p := funext fun a => propext ⟨.inl, fun z => z.elim id fun z => by rw [z]; exact hP⟩
    have e2 : N = fun a => N a ∨ a = p := funext fun a => propext ⟨.inl, fun z => z.elim id fun z => by rw [z]; exact hN⟩
    rw [← e1, ← e2]
  have S' : SR K (F.ad p) O env σ H := by rw [← e]; exact S
  rw [e]
  exact S'.updP nj h0 ho
/-- the arguments' values, the new lists among them -/
inductive AR (F : Fm) (O : Nat → Option Addr) (σ : L2.St) (H : Hp) : List Md → List Arg → List (D ⊕ Nat) → List V → List Addr → Prop
  | nil : AR F O σ H [] [] [] [] []
  | val {ms : List Md} {as : List Arg} {xs : List (D ⊕ Nat)} {vs : List V} {ps : List Addr} {a : DE} {v : V} {d : D} : Rep (Ow F O) H v d → AR F O σ H ms as xs vs ps → AR F O σ H (.val :: ms) (.e a :: as) (.inl d :: xs) (v :: vs) ps
  | rov {ms : List Md} {as : List Arg} {xs : List (D ⊕ Nat)} {vs : List V} {ps : List Addr} {a : DE} {v : V} {d : D} : Rep (Ow F O) H v d → AR F O σ H ms as xs vs ps → AR F O σ H (.ro :: ms) (.e a :: as) (.inl d :: xs) (v :: vs) ps
  | look {ms : List Md} {as : List Arg} {xs : List (D ⊕ Nat)} {vs : List V} {ps : List Addr} {i : Nat} {v : V} : get1 σ i = some v → AR F O σ H ms as xs vs ps → AR F O σ H (.ro :: ms) (.look i :: as) (.inr i :: xs) (v :: vs) ps
  | lend {ms : List Md} {as : List Arg} {xs : List (D ⊕ Nat)} {vs : List V} {ps : List Addr} {i : Nat} {v : V} : get1 σ i = some v → AR F O σ H ms as xs vs ps → AR F O σ H (.bor :: ms) (.lend i :: as) (.inr i :: xs) (v :: vs) ps
  | new {ms : List Md} {as : List Arg} {xs : List (D ⊕ Nat)} {vs : List V} {ps : List Addr} {a : DE} {p : Addr} {us : List V} {ys : List D} : F.P p → F.N p → ¬ Jo O p → F.H0 p = none → p ∉ ps → H p = some (.lst us) → RepL (Ow F O) H us ys → AR F O σ H ms as xs vs ps → AR F O σ H (.bor :: ms) (.new a :: as) (.inl (.lst ys) :: xs) (.ref p :: vs) (p :: ps)
def ArgsD (X : Cx) (Wx : WX) (es : List Expr) (ms : List Md) (as : List Arg) : Prop := ∃ t : TA, PA X es t ∧ ∀ (F : Fm) (O : Nat → Option Addr) (env : Env) (σ : L2.St) (H : Hp) (Q : List V → Hp → Prop), SR X.K F O env σ H →
  Want (argsV as) env (fun xs e1 => ∀ vs F1 H1 ps, FX F F1 H → SR X.K F1 O e1 σ H1 → Ke (Jo O) H H1 → AR F1 O σ H1 ms as xs vs ps → (∀ q ∈ ps, H q = none) → Q vs H1) (XW X.K F O σ H Wx) → t σ H Q
theorem XR.sub {K : PySem.W.Frag} {W W' : Pr} {c : Str} {fs : List D} {cls : Value} {dd : Option Addr} {H : Hp} (h : ∀ a, W' a → W a) (x : XR K W c fs cls dd H) : XR K W' c fs cls dd H := by
  obtain ⟨x1, x2⟩ := x
  refine ⟨x1, ?_⟩
  cases dd with
  | none => exact x2
  | some d => obtain ⟨y0, vs, y1, y2, y3⟩ := x2; exact ⟨fun z => y0 (h d z), vs, y1, y2, y3.sub fun a z => .inl (h a z)⟩
theorem XW.fx {K : PySem.W.Frag} {F F1 : Fm} {O : Nat → Option Addr} {σ : L2.St} {H H1 : Hp} {Wx : WX} (x : FX F F1 H) (k : Ke (Jo O) H H1) : ∀ c fs e, XW K F O σ H Wx c fs e → XW K F1 O σ H1 Wx c fs e :=
  fun _ _ _ h cls d H' S k1 r => h cls d H' (S.down x) (k.trans k1) (r.sub x.ow)
section
variable {X : Cx} {Wx : WX} {e : Expr} {es : List Expr} {ms : List Md} {as : List Arg} {ma : DE} {p : Pos}
theorem ga_nil : ArgsD X Wx [] [] [] := ⟨_, pa_nil, fun F O env σ H Q S w => w [] F H [] .refl S .refl .nil (fun _ h => by cases h)⟩
theorem ga_val (ha : PD .s X Wx e ma) (hr : ArgsD X Wx es ms as) (hs : starEach (e :: es) X.env = (false, eval e X.env) :: starEach es X.env := by rfl) : ArgsD X Wx (e :: es) (.val :: ms) (.e ma :: as) := by
  obtain ⟨ta, pa, qa⟩ := ha
  obtain ⟨tr, pr, qr⟩ := hr
  refine ⟨_, pa_cons pa pr hs, fun F O env σ H Q S w => qa F O env σ H _ S ((Want.bind (m := ma) w).imp (fun d e1 w1 v H1 S1 k1 r1 => ?_) fun _ _ _ z => z)⟩
  refine qr F O e1 σ H1 _ S1 ((Want.bind w1).imp (fun xs e2 w2 vs F1 H2 ps x S2 k2 ar hq => ?_) (XW.later k1))
  exact w2 (v :: vs) F1 H2 ps (FX.refl.trans x k1.there) S2 (k1.trans k2) (.val (r1.ke k2.ow fun a z => z.elim (fun z => (x.pn a z).elim (fun z => .inl (.inl z)) .inr) fun z => .inl (.inr z)) ar) fun q h => none_back k1.there (hq q h)
theorem ga_look {i : Nat} {x : Str} (hN : X.N[i]? = some x) (hv : Vis X.env.scope x) (hr : ArgsD X Wx es ms as) (hs : starEach (.Name x p :: es) X.env = (false, eval (.Name x p) X.env) :: starEach es X.env := by rfl)
    (hd : (x == ("__debug__" : Str)) = false := by decide) (hcd : (x == ("__classdict__" : Str)) = false := by decide) : ArgsD X Wx (.Name x p :: es) (.ro :: ms) (.look i :: as) := by
  obtain ⟨tr, pr, qr⟩ := hr
  refine ⟨_, pa_cons (pe_var hN hv hd hcd) pr hs, fun F O env σ H Q S w => ?_⟩
  obtain ⟨v, d, e, r, w⟩ := (Want.bind w).tmp S
  refine ⟨v, get1_some e, qr F O env σ H _ S ((Want.bind w).imp (fun xs e2 w2 vs F1 H2 ps x S2 k2 ar hq => ?_) fun _ _ _ z => z)⟩
  exact w2 (v :: vs) F1 H2 ps x S2 k2 (.look e ar) hq
theorem ga_lend {i : Nat} {x : Str} (hN : X.N[i]? = some x) (hv : Vis X.env.scope x) (hr : ArgsD X Wx es ms as) (hs : starEach (.Name x p :: es) X.env = (false, eval (.Name x p) X.env) :: starEach es X.env := by rfl)
    (hd : (x == ("__debug__" : Str)) = false := by decide) (hcd : (x == ("__classdict__" : Str)) = false := by decide) : ArgsD X Wx (.Name x p :: es) (.bor :: ms) (.lend i :: as) := by
  obtain ⟨tr, pr, qr⟩ := hr
  refine ⟨_, pa_cons (pe_var hN hv hd hcd) pr hs, fun F O env σ H Q S w => ?_⟩
  obtain ⟨v, d, e, r, w⟩ := (Want.bind w).tmp S
  refine ⟨v, get1_some e, qr F O env σ H _ S ((Want.bind w).imp (fun xs e2 w2 vs F1 H2 ps x S2 k2 ar hq => ?_) fun _ _ _ z => z)⟩
  exact w2 (v :: vs) F1 H2 ps x S2 k2 (.lend e ar) hq
theorem ga_new (ha : PD .f X Wx e ma) (hr : ArgsD X Wx es ms as) (hs : starEach (e :: es) X.env = (false, eval e X.env) :: starEach es X.env := by rfl) : ArgsD X Wx (e :: es) (.bor :: ms) (.new ma :: as) := by
  obtain ⟨ta, pa, qa⟩ := ha
  obtain ⟨tr, pr, qr⟩ := hr
  refine ⟨_, pa_cons pa pr hs, fun F O env σ H Q S w => qa F O env σ H _ S ((Want.bind (m := ma) w).imp (fun d e1 w1 v H1 S1 k1 r1 => ?_) fun _ _ _ z => z)⟩
  obtain ⟨p, us, ys, rfl, rfl, hp, hp', l, S1'⟩ := r1
  have x1 : FX F (F.ad p) H := FX.ad hp
  refine qr (F.ad p) O e1 σ H1 _ S1' ((Want.bind w1).imp (fun xs e2 w2 vs F1 H2 ps x S2 k2 ar hq => ?_) (XW.fx x1 k1))
  have nj : ¬ Jo O p := fun z => S.prot p (.inr z) hp
  exact w2 (.ref p :: vs) F1 H2 (p :: ps) (x1.trans x k1.there) S2 (k1.trans k2)
    (.new (x.p p (.inr rfl)) (x.n p (.inr rfl)) nj (by rw [x.h0]; exact al_none S.al hp) (fun z => by have := hq p z; rw [hp'] at this; cases this) (k2.stay _ _ nj hp') (l.ke k2.ow fun a z => z.elim (fun z => (x.pn a z).elim (fun z => .inl (.inl z)) .inr) fun z => .inl (.inr z)) ar)
    fun q h => by
      rcases List.mem_cons.mp h with rfl | h
      · exact hp
      · exact none_back k1.there (hq q h)
end
/-! ### the callee's frame -/
def ba0 : Md → V → Option Addr
  | .bor, .ref a => some a
  | _, _ => none
def baL : List Md → List V → Nat → Option Addr
  | m :: _, v :: _, 0 => ba0 m v
  | _ :: ms, _ :: vs, j + 1 => baL ms vs j
  | _, _, _ => none
section
variable {K : PySem.W.Frag} {F : Fm} {O : Nat → Option Addr} {σ : L2.St} {H : Hp} {e1 : Env}
theorem AR.len {ms : List Md} {as : List Arg} {xs : List (D ⊕ Nat)} {vs : List V} {ps : List Addr} (ar : AR F O σ H ms as xs vs ps) : vs.length = ms.length := by
  induction ar with
  | nil => rfl
  | val _ _ ih => simp [ih]
  | rov _ _ ih => simp [ih]
  | look _ _ ih => simp [ih]
  | lend _ _ ih => simp [ih]
  | new _ _ _ _ _ _ _ _ ih => simp [ih]
/-- an own list's value -/
theorem SR.ownV (S : SR K F O e1 σ H) {i : Nat} {v : V} (h : isL (sl e1 i) = true) (e : get1 σ i = some v) : ∃ a vs xs, v = .ref a ∧ O i = some a ∧ H a = some (.lst vs) ∧ RepL (Ow F O) H vs xs ∧ argD e1 (.inr i) = some (.lst xs) := by
  have s := S.slot i
  cases q : sl e1 i with
  | own xs => rw [q] at s; obtain ⟨a, vs, h1, h0, h2, h3, r⟩ := s; rw [h2] at e; cases e; exact ⟨a, vs, xs, rfl, h1, h3, r, by show slD (sl e1 i) = _; rw [q]; rfl⟩
  | bor xs => rw [q] at s; obtain ⟨a, vs, h1, h0, h2, h3, r⟩ := s; rw [h2] at e; cases e; exact ⟨a, vs, xs, rfl, h1, h3, r, by show slD (sl e1 i) = _; rw [q]; rfl⟩
  | _ => rw [q] at h; cases h
/-- whom a lent list belongs to -/
theorem ba_who (S : SR K F O e1 σ H) {ms : List Md} {as : List Arg} {xs : List (D ⊕ Nat)} {vs : List V} {ps : List Addr} (ar : AR F O σ H ms as xs vs ps) :
    (∀ i ∈ lends as, isL (sl e1 i) = true) → ∀ j a, baL ms vs j = some a → (∃ i ∈ lends as, O i = some a) ∨ a ∈ ps := by
  induction ar with
  | nil => intro _ j a h; cases j <;> cases h
  | val r ar ih => intro hl j a h; cases j with
    | zero => cases h
    | succ j => exact ih hl j a h
  | rov r ar ih => intro hl j a h; cases j with
    | zero => cases h
    | succ j => exact ih hl j a h
  | look r ar ih => intro hl j a h; cases j with
    | zero => cases h
    | succ j => exact ih hl j a h
  | @lend ms as xs vs ps i v r ar ih => intro hl j a h; cases j with
    | zero =>
      obtain ⟨b, us, ys, rfl, hO, _⟩ := S.ownV (hl i List.mem_cons_self) r
      cases h
      exact .inl ⟨i, List.mem_cons_self, hO⟩
    | succ j =>
      rcases ih (fun i hi => hl i (List.mem_cons_of_mem _ hi)) j a h with ⟨i, hi, z⟩ | z
      · exact .inl ⟨i, List.mem_cons_of_mem _ hi, z⟩
      · exact .inr z
  | new h1 h2 h3 h4 h5 h6 h7 ar ih => intro hl j a h; cases j with
    | zero => cases h; exact .inr List.mem_cons_self
    | succ j =>
      rcases ih hl j a h with z | z
      · exact .inl z
      · exact .inr (List.mem_cons_of_mem _ z)
theorem AR.ps {ms : List Md} {as : List Arg} {xs : List (D ⊕ Nat)} {vs : List V} {ps : List Addr} (ar : AR F O σ H ms as xs vs ps) : ∀ p ∈ ps, F.P p ∧ F.N p ∧ ¬ Jo O p := by
  induction ar with
  | nil => intro p h; cases h
  | val r ar ih => exact ih
  | rov r ar ih => exact ih
  | look r ar ih => exact ih
  | lend r ar ih => exact ih
  | new h1 h2 h3 h4 h5 h6 h7 ar ih =>
    intro p h
    rcases List.mem_cons.mp h with rfl | h
    · exact ⟨h1, h2, h3⟩
    · exact ih p h
theorem ba_inj (S : SR K F O e1 σ H) {ms : List Md} {as : List Arg} {xs : List (D ⊕ Nat)} {vs : List V} {ps : List Addr} (ar : AR F O σ H ms as xs vs ps) :
    (∀ i ∈ lends as, isL (sl e1 i) = true) → (lends as).Nodup → ∀ k j a, baL ms vs k = some a → baL ms vs j = some a → k = j := by
  induction ar with
  | nil => intro _ _ k j a h; cases k <;> cases h
  | val r ar ih => intro hl hn k j a h1 h2; cases k with
    | zero => cases h1
    | succ k => cases j with
      | zero => cases h2
      | succ j => rw [ih hl hn k j a h1 h2]
  | rov r ar ih => intro hl hn k j a h1 h2; cases k with
    | zero => cases h1
    | succ k => cases j with
      | zero => cases h2
      | succ j => rw [ih hl hn k j a h1 h2]
  | look r ar ih => intro hl hn k j a h1 h2; cases k with
    | zero => cases h1
    | succ k => cases j with
      | zero => cases h2
      | succ j => rw [ih hl hn k j a h1 h2]
  | @lend ms as xs vs ps i v r ar ih =>
    intro hl hn k j a h1 h2
    have hl' : ∀ i ∈ lends as, isL (sl e1 i) = true := fun i hi => hl i (List.mem_cons_of_mem _ hi)
    obtain ⟨hni, hn'⟩ := List.nodup_cons.mp hn
    obtain ⟨b, us, ys, rfl, hO, _⟩ := S.ownV (hl i List.mem_cons_self) r
    have no : ∀ j, baL ms vs j = some b → False := fun j h => by
      rcases ba_who S ar hl' j b h with ⟨i', hi', z⟩ | z
      · exact hni (S.inj i' i b z hO ▸ hi')
      · exact (ar.ps b z).2.2 ⟨i, hO⟩
    cases k with
    | zero => cases j with
      | zero => rfl
      | succ j => cases h1; exact (no j h2).elim
    | succ k => cases j with
      | zero => cases h2; exact (no k h1).elim
      | succ j => rw [ih hl' hn' k j a h1 h2]
  | @new ms as xs vs ps a0 p us ys g1 g2 g3 g4 g5 g6 g7 ar ih =>
    intro hl hn k j a h1 h2
    have no : ∀ j, baL ms vs j = some p → False := fun j h => by
      rcases ba_who S ar hl j p h with ⟨i', hi', z⟩ | z
      · exact g3 ⟨i', z⟩
      · exact g5 z
    cases k with
    | zero => cases j with
      | zero => rfl
      | succ j => cases h1; exact (no j h2).elim
    | succ k => cases j with
      | zero => cases h2; exact (no k h1).elim
      | succ j => rw [ih hl hn k j a h1 h2]
/-- looked at by the callee -/
theorem SR.lookV (S : SR K F O e1 σ H) {i : Nat} {v : V} {d : D} (e : get1 σ i = some v) (hd : argD e1 (.inr i) = some d) {Fc : Fm} {Oc : Nat → Option Addr} (hP : ∀ a, Ow Fc Oc a → Ow F O a) (hN : ∀ a, Jo Oc a ∨ Fc.N a → Jo O a ∨ F.N a) (hi : ∀ a, O i = some a → ¬ (Jo Oc a ∨ Fc.N a)) : RoR K Fc Oc H v d := by
  have s := S.slot i
  have hd : slD (sl e1 i) = some d := hd
  cases q : sl e1 i with
  | no => rw [q] at hd; cases hd
  | val d => rw [q] at hd s; cases hd; obtain ⟨h1, v', h2, r⟩ := s; rw [h2] at e; cases e; exact .of (r.sub fun a z => .inl (hP a z))
  | ro d => rw [q] at hd s; cases hd; obtain ⟨h1, v', h2, r⟩ := s; rw [h2] at e; cases e; exact r.go Ke.refl (fun a z => .inl (hP a z)) fun a z => .inl (hN a z)
  | own xs => rw [q] at hd s; cases hd; obtain ⟨a, vs, h1, h0, h2, h3, r⟩ := s; rw [h2] at e; cases e; exact .lst (hi a h1) (.inl h3) (r.sub fun a z => .inl (hP a z))
  | bor xs => rw [q] at hd s; cases hd; obtain ⟨a, vs, h1, h0, h2, h3, r⟩ := s; rw [h2] at e; cases e; exact .lst (hi a h1) (.inl h3) (r.sub fun a z => .inl (hP a z))
  | odc kvs => rw [q] at hd s; cases hd; obtain ⟨a, vs, h1, h0, h2, h3, r⟩ := s; rw [h2] at e; cases e; exact .dic (hi a h1) (.inl h3) (r.sub fun a z => .inl (hP a z))
  | ldc kvs => rw [q] at hd s; cases hd; obtain ⟨h1, a, vs, o, h0, h2, h3, r⟩ := s; rw [h2] at e; cases e; exact .dic (fun z => h0 (hN a z)) (.inr ⟨o, h3⟩) (r.sub fun a z => .inl (hP a z))
theorem call_slots (S : SR K F O e1 σ H) {Fc : Fm} {Oc : Nat → Option Addr} (hP : ∀ a, Ow Fc Oc a → Ow F O a) (hN : ∀ a, Jo Oc a ∨ Fc.N a → Jo O a ∨ F.N a) {ms : List Md} {as : List Arg} {xs : List (D ⊕ Nat)} {vs : List V} {ps : List Addr} (ar : AR F O σ H ms as xs vs ps) :
    ∀ {ds : List D} (i : Nat), (∀ i ∈ lends as, isL (sl e1 i) = true) → (∀ i ∈ looks as, ∀ a, O i = some a → ¬ (Jo Oc a ∨ Fc.N a)) → argsD e1 xs = some ds → (∀ j, Oc (i + j) = baL ms vs j) → (∀ j, Fc.ba (i + j) = baL ms vs j) →
      lstsOk ms ds = true ∧ (startE ms ds).length = ms.length ∧ ∀ j, j < ms.length → SlR K Fc Oc H (i + j) (vs[j]?) (sl (startE ms ds) j) := by
  have cut : ∀ {x : D ⊕ Nat} {xs : List (D ⊕ Nat)} {ds : List D}, argsD e1 (x :: xs) = some ds → ∃ d ds', argD e1 x = some d ∧ argsD e1 xs = some ds' ∧ ds = d :: ds' := fun {x xs ds} h => by
    unfold argsD at h
    cases q1 : argD e1 x with
    | none => rw [q1] at h; cases h
    | some d => cases q2 : argsD e1 xs with
      | none => rw [q1, q2] at h; cases h
      | some ds' => rw [q1, q2] at h; cases h; exact ⟨d, ds', rfl, rfl, rfl⟩
  have nx : ∀ {f : Nat → Option Addr} {i : Nat} {m : Md} {ms : List Md} {v : V} {vs : List V}, (∀ j, f (i + j) = baL (m :: ms) (v :: vs) j) → ∀ j, f (i + 1 + j) = baL ms vs j := fun h j => by
    have := h (j + 1)
    rw [show ∀ i, i + (j + 1) = i + 1 + j from fun i => by omega] at this
    exact this
  induction ar with
  | nil => intro ds i _ _ h _ _; cases h; exact ⟨rfl, rfl, fun j hj => absurd hj (Nat.not_lt_zero _)⟩
  | val r ar ih =>
    intro ds i hl hk h hO hB
    obtain ⟨d', ds', h1, h2, rfl⟩ := cut h
    cases h1
    obtain ⟨g1, g2, g3⟩ := ih (i + 1) hl hk h2 (nx hO) (nx hB)
    refine ⟨g1, by simp [startE, g2], fun j hj => ?_⟩
    cases j with
    | zero => exact ⟨hO 0, _, rfl, r.sub fun a z => .inl (hP a z)⟩
    | succ j => rw [show i + (j + 1) = i + 1 + j by omega]; exact g3 j (Nat.lt_of_succ_lt_succ hj)
  | rov r ar ih =>
    intro ds i hl hk h hO hB
    obtain ⟨d', ds', h1, h2, rfl⟩ := cut h
    cases h1
    obtain ⟨g1, g2, g3⟩ := ih (i + 1) hl hk h2 (nx hO) (nx hB)
    refine ⟨g1, by simp [startE, g2], fun j hj => ?_⟩
    cases j with
    | zero => exact ⟨hO 0, _, rfl, .of (r.sub fun a z => .inl (hP a z))⟩
    | succ j => rw [show i + (j + 1) = i + 1 + j by omega]; exact g3 j (Nat.lt_of_succ_lt_succ hj)
  | @look ms as xs vs ps i0 v r ar ih =>
    intro ds i hl hk h hO hB
    obtain ⟨d', ds', h1, h2, rfl⟩ := cut h
    obtain ⟨g1, g2, g3⟩ := ih (i + 1) hl (fun i hi => hk i (List.mem_cons_of_mem _ hi)) h2 (nx hO) (nx hB)
    refine ⟨g1, by simp [startE, g2], fun j hj => ?_⟩
    cases j with
    | zero => exact ⟨hO 0, _, rfl, S.lookV r h1 hP hN (hk i0 List.mem_cons_self)⟩
    | succ j => rw [show i + (j + 1) = i + 1 + j by omega]; exact g3 j (Nat.lt_of_succ_lt_succ hj)
  | @lend ms as xs vs ps i0 v r ar ih =>
    intro ds i hl hk h hO hB
    obtain ⟨d', ds', h1, h2, rfl⟩ := cut h
    obtain ⟨g1, g2, g3⟩ := ih (i + 1) (fun i hi => hl i (List.mem_cons_of_mem _ hi)) hk h2 (nx hO) (nx hB)
    obtain ⟨a, us, ys, rfl, hO', hH, l, e⟩ := S.ownV (hl i0 List.mem_cons_self) r
    rw [e] at h1
    cases h1
    refine ⟨g1, by simp [startE, g2], fun j hj => ?_⟩
    cases j with
    | zero => exact ⟨a, us, hO 0, hB 0, rfl, hH, l.sub fun a z => .inl (hP a z)⟩
    | succ j => rw [show i + (j + 1) = i + 1 + j by omega]; exact g3 j (Nat.lt_of_succ_lt_succ hj)
  | @new ms as xs vs ps a0 p us ys q1 q2 q3 q4 q5 q6 q7 ar ih =>
    intro ds i hl hk h hO hB
    obtain ⟨d', ds', h1, h2, rfl⟩ := cut h
    cases h1
    obtain ⟨g1, g2, g3⟩ := ih (i + 1) hl hk h2 (nx hO) (nx hB)
    refine ⟨g1, by simp [startE, g2], fun j hj => ?_⟩
    cases j with
    | zero => exact ⟨p, us, hO 0, hB 0, rfl, q6, q7.sub fun a z => .inl (hP a z)⟩
    | succ j => rw [show i + (j + 1) = i + 1 + j by omega]; exact g3 j (Nat.lt_of_succ_lt_succ hj)
end
end AH
namespace AH
open PySem PySem.Spec PyProof.Rows L2
variable [TheK]
theorem sl_app : ∀ (e e' : Env) (j : Nat), j < e.length → sl (e ++ e') j = sl e j
  | [], _, _, h => absurd h (Nat.not_lt_zero _)
  | _ :: _, _, 0, _ => rfl
  | _ :: e, e', j + 1, h => sl_app e e' j (Nat.lt_of_succ_lt_succ h)
theorem sl_rep_no : ∀ n j : Nat, sl (List.replicate n .no) j = .no
  | 0, _ => rfl
  | _ + 1, 0 => rfl
  | n + 1, j + 1 => sl_rep_no n j
theorem sl_app_no : ∀ (e : Env) (n j : Nat), e.length ≤ j → sl (e ++ List.replicate n .no) j = .no
  | [], n, j, _ => sl_rep_no n j
  | _ :: _, _, 0, h => absurd h (Nat.not_succ_le_zero _)
  | _ :: e, n, j + 1, h => sl_app_no e n j (Nat.le_of_succ_le_succ h)
theorem baL_out : ∀ (ms : List Md) (vs : List V) (j : Nat), ms.length ≤ j → baL ms vs j = none
  | [], _, j, _ => by cases j <;> rfl
  | _ :: _, [], j, _ => by cases j <;> rfl
  | _ :: _, _ :: _, 0, h => absurd h (Nat.not_succ_le_zero _)
  | _ :: ms, _ :: vs, j + 1, h => baL_out ms vs j (Nat.le_of_succ_le_succ h)
section
variable {K : PySem.W.Frag} {F : Fm} {O : Nat → Option Addr} {σ : L2.St} {H H1 H' : Hp} {e0 e1 : Env}
theorem putL_sl (e : Env) (i j : Nat) (xs : List D) (h : isL (sl e j) = true) : isL (sl (putL e i xs) j) = true := by
  unfold putL
  by_cases hj : j = i
  · subst hj
    have hl : j < e.length := Nat.lt_of_not_le fun z => by rw [sl_out _ _ z] at h; cases h
    rw [sl_put_same _ _ _ hl]
    cases q : sl e j with
    | own ys => rfl
    | bor ys => rfl
    | _ => rw [q] at h; cases h
  · rw [sl_put_ne _ _ _ _ hj]; exact h
theorem isL_or {s : Sl} (h : isL s = true) : ∃ xs, s = .own xs ∨ s = .bor xs := by
  cases s with
  | own xs => exact ⟨xs, .inl rfl⟩
  | bor xs => exact ⟨xs, .inr rfl⟩
  | _ => cases h
/-- the lent lists come back -/
theorem give_back {Z : Pr} {ba : Nat → Option Addr} (hZ : ∀ a, Ow F O a → Z a) {F1 : Fm} {H1 : Hp} (fx : ∀ a, F1.P a → F.P a) (fn : ∀ a, F1.N a → F.N a) (f0 : F1.H0 = F.H0) {ms : List Md} {as : List Arg} {xs : List (D ⊕ Nat)} {vs : List V} {ps : List Addr} (ar : AR F1 O σ H1 ms as xs vs ps) :
    ∀ {bs : List (List D)} {e e2 : Env} {Hm : Hp} (i : Nat), (∀ i ∈ lends as, isL (sl e i) = true) → giveBack as bs e = some e2 → BoL Z ba H' i ms bs → (∀ j, ba (i + j) = baL ms vs j) → SR K F O e σ Hm → (∀ a, (∀ j, baL ms vs j ≠ some a) → Hm a = H' a) → (∀ a, H' a ≠ none → Hm a ≠ none) → (∀ j a, baL ms vs j = some a → Z a) → SR K F O e2 σ H' := by
  have nx : ∀ {f : Nat → Option Addr} {i : Nat} {m : Md} {ms : List Md} {v : V} {vs : List V}, (∀ j, f (i + j) = baL (m :: ms) (v :: vs) j) → ∀ j, f (i + 1 + j) = baL ms vs j := fun h j => by
    have := h (j + 1)
    rw [show ∀ i, i + (j + 1) = i + 1 + j from fun i => by omega] at this
    exact this
  have skip : ∀ {m : Md} {ms : List Md} {v : V} {vs : List V} {a : Addr}, ba0 m v = none → (∀ j, baL ms vs j ≠ some a) → ∀ j, baL (m :: ms) (v :: vs) j ≠ some a := fun h0 h j => by
    cases j with
    | zero => show ba0 _ _ ≠ _; rw [h0]; simp
    | succ j => exact h j
  induction ar with
  | nil =>
    intro bs e e2 Hm i hl hg hb hB S hm _ _
    cases bs with
    | nil =>
      cases hg
      have : Hm = H' := funext fun a => hm a fun j => by cases j <;> simp [baL]
      rw [← this]
      exact S
    | cons b bs => cases hg
  | val r ar ih => intro bs e e2 Hm i hl hg hb hB S hm ht hz; exact ih (i + 1) hl hg hb (nx hB) S (fun a h => hm a (skip rfl h)) ht fun j => hz (j + 1)
  | rov r ar ih => intro bs e e2 Hm i hl hg hb hB S hm ht hz; exact ih (i + 1) hl hg hb (nx hB) S (fun a h => hm a (skip rfl h)) ht fun j => hz (j + 1)
  | look r ar ih => intro bs e e2 Hm i hl hg hb hB S hm ht hz; exact ih (i + 1) hl hg hb (nx hB) S (fun a h => hm a (skip rfl h)) ht fun j => hz (j + 1)
  | @lend ms as xs vs ps i0 v r ar ih =>
    intro bs e e2 Hm i hl hg hb hB S hm ht hz
    cases bs with
    | nil => cases hg
    | cons b bs =>
      obtain ⟨⟨a, us, hba, hH, l⟩, hb⟩ := hb
      obtain ⟨ys, hy⟩ := isL_or (hl i0 List.mem_cons_self)
      obtain ⟨a', vs', hO, hbo, hgt, hHm, l', fin⟩ := S.ownAt hy
      rw [r] at hgt
      cases hgt
      have ea : a = a' := by
        have h0 : ba i = some a' := hB 0
        rw [h0] at hba
        cases hba
        rfl
      subst ea
      have za : Z a := hZ a (.inr ⟨i0, hO⟩)
      have th : ∀ x, H' x ≠ none → upd Hm a (.lst us) x ≠ none := fun x hx => by
        by_cases hxa : x = a
        · rw [hxa, upd_same]; simp
        · rw [upd_ne hxa]; exact ht x hx
      refine ih (Hm := upd Hm a (.lst us)) (i + 1) (fun j hj => putL_sl e i0 j b (hl j (List.mem_cons_of_mem _ hj))) hg hb (nx hB) ?_ (fun x hx => ?_) th (fun j => hz (j + 1))
      · refine S.mut hO hbo (fin _ us b upd_same ?_)
        refine l.ke ⟨fun x o nz hx => ?_, th⟩ fun x z => .inl (hZ x z)
        rw [upd_ne (fun z : x = a => nz (by rw [z]; exact za)), hm x fun j hj => nz (hz j x hj)]
        exact hx
      · by_cases hxa : x = a
        · rw [hxa, upd_same, hH]
        · rw [upd_ne hxa]
          refine hm x fun j => ?_
          cases j with
          | zero => intro z; cases z; exact hxa rfl
          | succ j => exact hx j
  | @new ms as xs vs ps a0 p us0 ys q1 q2 q3 q4 q5 q6 q7 ar ih =>
    intro bs e e2 Hm i hl hg hb hB S hm ht hz
    cases bs with
    | nil => cases hg
    | cons b bs =>
      obtain ⟨⟨a, us, hba, hH, l⟩, hb⟩ := hb
      have ea : a = p := by
        have h0 : ba i = some p := hB 0
        rw [h0] at hba
        cases hba
        rfl
      subst ea
      refine ih (Hm := upd Hm a (.lst us)) (i + 1) hl hg hb (nx hB) (S.updQ (fx a q1) (fn a q2) q3 (by rw [← f0]; exact q4)) (fun x hx => ?_) (fun x hx => ?_) (fun j => hz (j + 1))
      · by_cases hxa : x = a
        · rw [hxa, upd_same, hH]
        · rw [upd_ne hxa]
          refine hm x fun j => ?_
          cases j with
          | zero => intro z; cases z; exact hxa rfl
          | succ j => exact hx j
      · by_cases hxa : x = a
        · rw [hxa, upd_same]; simp
        · rw [upd_ne hxa]; exact ht x hx
/-- THE RULE of calls, behind the arguments -/
theorem call_wish {fl : Fl} {N : List Str} {f : DF} {ms : List Md} {as : List Arg} {xs : List (D ⊕ Nat)} {vs : List V} {ps : List Addr} {F1 : Fm} {Q : VK} {Wx : WX} (hfl : fl ≠ .w) (hN : ms.length ≤ N.length) (ok : argsOk as = true) (S0 : SR K F O e0 σ H) (x : FX F F1 H) (S : SR K F1 O e1 σ H1) (k : Ke (Jo O) H H1) (ar : AR F1 O σ H1 ms as xs vs ps) (hps : ∀ q ∈ ps, H q = none)
    (w : Want (fun e1 => if !(lends as).all (fun i => isL (sl e1 i)) then R.bad else (match argsD e1 xs with
    | some ds => (match f ds with
      | .ok d bs => (match giveBack as bs e1 with
        | some e2 => .ok d e2
        | none => .bad)
      | .ex c fs bs => (match giveBack as bs e1 with
        | some e2 => .ex c fs e2
        | none => .bad)
      | .bad => .bad)
    | none => .bad)) e1 (fun d e1 => ∀ v H', SR K F O e1 σ H' → Ke (Jo O) H H' → Po fl K F O e1 σ H H' v d → Q v H') (XW K F O σ H Wx)) :
    spD fl K N ms f vs H1 Q (WE Wx σ) := by
  unfold Want at w
  cases hl : (lends as).all (fun i => isL (sl e1 i)) with
  | false => simp only [hl] at w; exact w.elim
  | true =>
  simp only [hl] at w
  have hl' : ∀ i ∈ lends as, isL (sl e1 i) = true := List.all_eq_true.mp hl
  cases hd : argsD e1 xs with
  | none => simp only [hd] at w; exact w.elim
  | some ds =>
  simp only [hd] at w
  obtain ⟨ok1, ok2⟩ := Bool.and_eq_true_iff.mp ok
  have nd : (lends as).Nodup := of_decide_eq_true ok1
  have hlk : ∀ i ∈ looks as, i ∉ lends as := fun i hi hi' => by
    have := List.all_eq_true.mp ok2 i hi
    simp [hi'] at this
  have who := ba_who S ar hl'
  have lal : ∀ j a, baL ms vs j = some a → Ow F1 O a := fun j a h => by
    rcases who j a h with ⟨i, _, z⟩ | z
    · exact .inr ⟨i, z⟩
    · exact .inl (ar.ps a z).1
  have lan : ∀ j a, baL ms vs j = some a → Jo O a ∨ F1.N a := fun j a h => by
    rcases who j a h with ⟨i, _, z⟩ | z
    · exact .inl ⟨i, z⟩
    · exact .inr (ar.ps a z).2.1
  let Fc : Fm := ⟨Ow F1 O, fun _ => False, H1, baL ms vs⟩
  have hP : ∀ a, Ow Fc (baL ms vs) a → Ow F1 O a := fun a z => z.elim id fun ⟨j, z⟩ => lal j a z
  have hNN : ∀ a, Jo (baL ms vs) a ∨ Fc.N a → Jo O a ∨ F1.N a := fun a z => z.elim (fun ⟨j, z⟩ => lan j a z) False.elim
  obtain ⟨g1, g2, g3⟩ := call_slots (Fc := Fc) (Oc := baL ms vs) S hP hNN ar 0 hl' (fun i hi a hO z => by
    rcases z with ⟨j, z⟩ | z
    · rcases who j a z with ⟨i', hi', z'⟩ | z'
      · exact hlk i hi (S.inj i i' a hO z' ▸ hi')
      · exact (ar.ps a z').2.2 ⟨i, hO⟩
    · exact z) hd (fun j => by rw [Nat.zero_add]) (fun j => by show baL ms vs (0 + j) = _; rw [Nat.zero_add])
  have vl : vs.length = ms.length := ar.len
  have SS : SR K Fc (baL ms vs) (startE ms ds ++ List.replicate (N.length - ms.length) .no) (start N vs) H1 := by
    refine ⟨fun j => ?_, ba_inj S ar hl' nd, fun a z => S.prot a (hP a z), fun a o e _ => e, fun a z => z, ?_, fun a z => z.elim, fun a xs z => S.ow_tup z⟩
    · by_cases hj : j < ms.length
      · have e1 : sl (startE ms ds ++ List.replicate (N.length - ms.length) .no) j = sl (startE ms ds) j := sl_app _ _ _ (by rw [g2]; exact hj)
        have e2 : get1 (start N vs) j = vs[j]? := by
          unfold get1 L2.start
          rw [List.getElem?_append_left (by rw [List.length_map, vl]; exact hj), List.getElem?_map]
          cases vs[j]? <;> rfl
        rw [e1, e2]
        have := g3 j hj
        rw [Nat.zero_add] at this
        exact this
      · have e1 : sl (startE ms ds ++ List.replicate (N.length - ms.length) .no) j = .no := sl_app_no _ _ _ (by rw [g2]; omega)
        rw [e1]
        exact baL_out _ _ _ (by omega)
    · unfold L2.start
      rw [List.length_append, g2, List.length_replicate, List.length_append, List.length_map, List.length_replicate, vl]
  -- behind it
  have bo : ∀ {a : Addr}, ¬ Fc.bo a → ∀ j, baL ms vs j ≠ some a := fun n j z => n ⟨j, z⟩
  have keep : ∀ {H' : Hp}, KeB Fc H1 H' → Ke (Jo O) H H' := fun {H'} kb => by
    refine ⟨fun a o n e => kb.keep a o (k.stay a o n e) ?_, fun a z => kb.there a (k.there a z)⟩
    rintro ⟨j, z⟩
    rcases who j a z with ⟨i, _, z⟩ | z
    · exact n ⟨i, z⟩
    · rw [hps a z] at e; cases e
  have back : ∀ {F2 : Fm} {Z : Pr} {H' : Hp} {bs : List (List D)} {e2 : Env}, giveBack as bs e1 = some e2 → KeB Fc H1 H' → BoL Z (baL ms vs) H' 0 ms bs → (∀ a, Ow F2 O a → Z a) → (∀ a, Ow F1 O a → Z a) → (∀ a, F1.P a → F2.P a) → (∀ a, F1.N a → F2.N a) → F1.H0 = F2.H0 →
      (∀ Hm : Hp, (∀ a o, H1 a = some o → Hm a = some o) → (∀ a, H' a ≠ none → Hm a ≠ none) → (∀ a, H1 a = none → Hm a = H' a) → SR K F2 O e1 σ Hm) → SR K F2 O e2 σ H' := fun {F2 Z H' bs e2} hg kb hb hZ hZ1 h1 h2 h3 hS => by
    classical
    let Hm : Hp := fun a => if ∃ j, baL ms vs j = some a then H1 a else H' a
    have m1 : ∀ a, (∃ j, baL ms vs j = some a) → Hm a = H1 a := fun a h => if_pos h
    have m2 : ∀ a, (¬ ∃ j, baL ms vs j = some a) → Hm a = H' a := fun a h => if_neg h
    have t : ∀ a, H' a ≠ none → Hm a ≠ none := fun a z => by
      by_cases h : ∃ j, baL ms vs j = some a
      · rw [m1 a h]
        obtain ⟨j, h⟩ := h
        exact S.prot a (lal j a h)
      · rw [m2 a h]; exact z
    have st : ∀ a o, H1 a = some o → Hm a = some o := fun a o z => by
      by_cases h : ∃ j, baL ms vs j = some a
      · rw [m1 a h]; exact z
      · rw [m2 a h]; exact kb.keep a o z h
    exact give_back (Z := Z) (ba := baL ms vs) hZ h1 h2 h3 ar (Hm := Hm) 0 hl' hg hb (fun j => by rw [Nat.zero_add]) (hS Hm st t fun a z => m2 a fun ⟨j, h⟩ => S.prot a (lal j a h) z) (fun a h => m2 a fun ⟨j, z⟩ => h j z) t fun j a z => hZ1 a (lal j a z)
  refine ⟨vl, ds, Fc, baL ms vs, SS, rfl, g1, ?_⟩
  cases hf : f ds with
  | bad => simp only [hf] at w; exact w.elim
  | ex c fs bs =>
    simp only [hf] at w
    cases hg : giveBack as bs e1 with
    | none => simp only [hg] at w; exact w.elim
    | some e2 =>
      simp only [hg] at w
      intro cls dd H' kb hb xr
      have S2 : SR K F1 O e2 σ H' := back hg kb hb (fun _ z => z) (fun _ z => z) (fun _ z => z) (fun _ z => z) rfl fun Hm st _ _ => S.ext st
      exact w cls dd H' (S2.down x) (keep kb) (xr.sub fun a z => x.ow a z)
  | ok d bs =>
    simp only [hf] at w
    cases hg : giveBack as bs e1 with
    | none => simp only [hg] at w; exact w.elim
    | some e2 =>
      simp only [hg] at w
      intro v H' kb r
      have ss : Rep Fc.P H' v d → BoL Fc.P (baL ms vs) H' 0 ms bs → SR K F O e2 σ H' ∧ Rep (Ow F O) H' v d := fun r1 r2 => by
        have S2 : SR K F1 O e2 σ H' := back hg kb r2 (fun _ z => z) (fun _ z => z) (fun _ z => z) (fun _ z => z) rfl fun Hm st _ _ => S.ext st
        exact ⟨S2.down x, r1.sub fun a z => .inl (x.ow a z)⟩
      cases fl with
      | w => exact absurd rfl hfl
      | s =>
        obtain ⟨r1, r2⟩ := r
        obtain ⟨S2, r3⟩ := ss r1 r2
        exact w v H' S2 (keep kb) r3
      | ft =>
        obtain ⟨⟨p, us, ys, rfl, rfl, hp', l⟩, r2⟩ := r
        have S2 : SR K F1 O e2 σ H' := back hg kb r2 (fun _ z => z) (fun _ z => z) (fun _ z => z) (fun _ z => z) rfl fun Hm st _ _ => S.ext st
        exact w _ H' (S2.down x) (keep kb) ⟨p, us, ys, rfl, rfl, hp', l.sub fun a z => .inl (x.ow a z)⟩
      | f =>
        obtain ⟨p, us, ys, rfl, rfl, hp, hp', l, hb⟩ := r
        have S2 : SR K (F1.ad p) O e2 σ H' := back (F2 := F1.ad p) hg kb hb (fun a z => by
          rcases z with (z | z) | z
          · exact .inl (.inl z)
          · exact .inr z
          · exact .inl (.inr z)) (fun a z => .inl z) (fun a z => .inl z) (fun a z => .inl z) rfl fun Hm st t u => S.adAt st hp (t p (by rw [hp']; simp)) fun xs z => by rw [u p hp, hp'] at z; cases z
        have S3 : SR K (F.ad p) O e2 σ H' := S2.down (H0 := H) ⟨x.ba, x.h0, fun a z => z.elim (fun z => .inl (x.p a z)) .inr, fun a z => z.elim (fun z => .inl (x.n a z)) .inr, fun a z => z.elim (fun z => (x.pn a z).elim (fun z => .inl (.inl z)) .inr) fun z => .inl (.inr z), fun a z => z.elim (fun z => (x.nn a z).elim (fun z => .inl (.inl z)) .inr) fun z => .inl (.inr z)⟩
        refine w _ H' S3.unad (keep kb) ⟨p, us, ys, rfl, rfl, none_back k.there hp, hp', l.sub fun a z => .inl ?_, S3⟩
        rcases z with (z | z) | z
        · exact .inl (x.ow a (.inl z))
        · exact .inr z
        · exact .inl (.inr z)
      | fd =>
        obtain ⟨p, us, ys, rfl, rfl, hp, hp', l, hb⟩ := r
        have S2 : SR K (F1.ad p) O e2 σ H' := back (F2 := F1.ad p) hg kb hb (fun a z => by
          rcases z with (z | z) | z
          · exact .inl (.inl z)
          · exact .inr z
          · exact .inl (.inr z)) (fun a z => .inl z) (fun a z => .inl z) (fun a z => .inl z) rfl fun Hm st t u => S.adAt st hp (t p (by rw [hp']; simp)) fun xs z => by rw [u p hp, hp'] at z; cases z
        have S3 : SR K (F.ad p) O e2 σ H' := S2.down (H0 := H) ⟨x.ba, x.h0, fun a z => z.elim (fun z => .inl (x.p a z)) .inr, fun a z => z.elim (fun z => .inl (x.n a z)) .inr, fun a z => z.elim (fun z => (x.pn a z).elim (fun z => .inl (.inl z)) .inr) fun z => .inl (.inr z), fun a z => z.elim (fun z => (x.nn a z).elim (fun z => .inl (.inl z)) .inr) fun z => .inl (.inr z)⟩
        refine w _ H' S3.unad (keep kb) ⟨p, us, ys, rfl, rfl, none_back k.there hp, hp', l.sub fun a z => .inl ?_, S3⟩
        rcases z with (z | z) | z
        · exact .inl (x.ow a (.inl z))
        · exact .inr z
        · exact .inl (.inr z)
end
/-! ### calls -/
section
variable {X : Cx} {Wx : WX} {e : Expr} {es : List Expr} {ms : List Md} {as : List Arg} {p pos : Pos} {fl : Fl} {k : Nat} {f : Addr} {fd : FuncData} {ps N : List Str} {g : DF} {x : Str}
/-- a def that is called by its name: its promise, the room, its name -/
structure Fn (X : Cx) (fl : Fl) (x : Str) (N ps : List Str) (ms : List Md) (g : DF) : Prop where
  ex : ∃ (k : Nat) (f : Addr) (fd : FuncData), FnOk X.prog X.w X.K X.mg X.base (L2.CX X.prog X.w) k f fd ps (spD fl X.K N ms g) ∧ Room k X.A ∧ X.mg x = some (.ref f) ∧ PySem.W.keepIn X.K (.ref f) = true ∧ Binds X.K fd ps []
  nw : fl ≠ .w
  le : ms.length ≤ N.length
theorem pd_call (F : Fn X fl x N ps ms g) (tk : Takes X Wx) (hg : Gl X x) (ha : ArgsD X Wx (e :: es) ms as) (ok : argsOk as = true := by rfl) (hdb : (x == ("__debug__" : Str)) = false := by decide)
    (he : starEach (e :: es) X.env = (false, eval e X.env) :: starEach es X.env := by rfl) (hpl : (backTo pos (starEach es X.env)).any (·.1) = false := by rfl) : PD fl X Wx (.Call (.Name x p) (e :: es) [] pos) (eCall g as) := by
  obtain ⟨k, f, fd, Fk, hr, hm, hk, hb⟩ := F.ex
  obtain ⟨t, pt, qt⟩ := ha
  refine ⟨_, pe_callS Fk hr hg hm hk hb (passAt tk) pt hdb he hpl, fun F' O env σ H Q S w => ?_⟩
  refine qt F' O env σ H _ S ?_
  unfold Want eCall at w
  unfold Want
  cases hv : argsV as env with
  | bad => rw [hv] at w; exact w
  | ex c fs e1 => rw [hv] at w; exact w
  | ok xs e1 =>
    rw [hv] at w
    intro vs F1 H1 ps' x1 S1 k1 ar hps
    exact call_wish F.nw F.le ok S x1 S1 k1 ar hps w
theorem pd_call0 (F : Fn X fl x N ps [] g) (tk : Takes X Wx) (hg : Gl X x) (hdb : (x == ("__debug__" : Str)) = false := by decide) : PD fl X Wx (.Call (.Name x p) [] [] pos) (eCall g []) := by
  obtain ⟨k, f, fd, Fk, hr, hm, hk, hb⟩ := F.ex
  refine ⟨fun σ H Q => spD fl X.K N [] g [] H Q (WE Wx σ), ⟨fun pins s σ H Q I h => ?_⟩, fun F' O env σ H Q S w => ?_⟩
  · refine wpAny_Call_Name_kw (ld_glob I hg hm ?_ hdb)
    exact PySem.W.callWith_K0 I.kIn hk (run_fnS (us := []) (E := WE Wx) Fk hr hb (passAt tk σ) I .nil h)
  · exact call_wish (xs := []) (ps := []) (as := []) F.nw F.le rfl S .refl S .refl .nil (fun _ h => by cases h) w
end
end AH
namespace AH
open PySem PySem.Spec PyProof.Rows L2
variable [TheK]
/-! ### calls with keywords -/
def perm {α : Type} (ix : List Nat) (l : List α) : List α := ix.filterMap fun i => l[i]?
theorem RepL.perm {W : Pr} {H : Hp} {vs : List V} {ds : List D} (l : RepL W H vs ds) : ∀ ix : List Nat, RepL W H (AH.perm ix vs) (AH.perm ix ds)
  | [] => .nil
  | i :: ix => by
    unfold AH.perm
    rw [List.filterMap_cons, List.filterMap_cons]
    have ll := l.len
    cases h : ds[i]? with
    | none =>
      have : vs[i]? = none := by
        rw [List.getElem?_eq_none_iff] at h ⊢
        omega
      rw [this]
      exact RepL.perm l ix
    | some d =>
      obtain ⟨v, hv, r⟩ := l.get h
      rw [hv]
      exact .cons r (RepL.perm l ix)
/-- such a def with keywords: n written values, the names ks, where each parameter's value stands -/
structure FnK (X : Cx) (fl : Fl) (x : Str) (N ps : List Str) (ms : List Md) (g : DF) (n : Nat) (ks : List Str) (ix : List Nat) : Prop where
  ex : ∃ (k : Nat) (f : Addr) (fd : FuncData), FnOk X.prog X.w X.K X.mg X.base (L2.CX X.prog X.w) k f fd ps (spD fl X.K N ms g) ∧ Room k X.A ∧ X.mg x = some (.ref f) ∧ PySem.W.keepIn X.K (.ref f) = true ∧
    ∀ (s : Shared) (us ws : List Value), X.K.In s.heap → us.length = n → ws.length = ks.length → BindsTo s fd ⟨us, ks.zip ws⟩ (ps.zip (perm ix (us ++ ws)))
  nw : fl ≠ .w
  le : ms.length ≤ N.length
  nb : (ms.all fun m => m != .bor) = true
section
variable {X : Cx} {Wx : WX} {e : Expr} {es : List Expr} {ms : List Md} {p pos kpos : Pos} {fl : Fl} {ps N ks : List Str} {g : DF} {x : Str} {kws : List Keyword} {ma : DE} {mb mk : DL} {n : Nat} {ix : List Nat} {nm : Option Str}
end
end AH
namespace AH
open PySem PySem.Spec PyProof.Rows L2
variable [TheK]
/-! ### a, b = x, y -/
def allL : List (D ⊕ Nat) → Option (List D)
  | [] => some []
  | .inl d :: r => (allL r).map (d :: ·)
  | .inr _ :: _ => none
def parPut : List (Nat × Bool) → List D → Env → R Out
  | (i, false) :: r, x :: xs, e => if isFix (sl e i) then .bad else parPut r xs (put e i (.val x))
  | (i, true) :: r, .lst ys :: xs, e => if isFix (sl e i) || !decide (i < e.length) then .bad else parPut r xs (put e i (.own ys))
  | [], [], e => .ok .nx e
  | _, _, _ => .bad
def sPar (ts : List (Nat × Bool)) (as : List Arg) : DS := (argsV as).bind fun xs => match allL xs with
  | some ds => parPut ts ds
  | none => fun _ => .bad
def isNew : Arg → Bool
  | .new _ => true
  | _ => false
def setL (σ : L2.St) : List Nat → List V → L2.St
  | i :: r, v :: vs => setL (σ.set i (some v)) r vs
  | _, _ => σ
/-- the values to be stored: new lists, others -/
inductive PR (F : Fm) (O : Nat → Option Addr) (H : Hp) : List Bool → List V → List D → List Addr → Prop
  | nil : PR F O H [] [] [] []
  | val {bs : List Bool} {vs : List V} {ds : List D} {ps : List Addr} {v : V} {d : D} : Rep (Ow F O) H v d → PR F O H bs vs ds ps → PR F O H (false :: bs) (v :: vs) (d :: ds) ps
  | new {bs : List Bool} {vs : List V} {ds : List D} {ps : List Addr} {p : Addr} {us : List V} {ys : List D} : F.P p → F.N p → ¬ Jo O p → F.H0 p = none → p ∉ ps → H p = some (.lst us) → RepL (Ow F O) H us ys → PR F O H bs vs ds ps → PR F O H (true :: bs) (.ref p :: vs) (.lst ys :: ds) (p :: ps)
theorem pr_of {F : Fm} {O : Nat → Option Addr} {σ : L2.St} {H : Hp} {ms : List Md} {as : List Arg} {xs : List (D ⊕ Nat)} {vs : List V} {ps : List Addr} (ar : AR F O σ H ms as xs vs ps) : ∀ {ds : List D}, allL xs = some ds → PR F O H (as.map isNew) vs ds ps := by
  have cut : ∀ {d : D} {xs : List (D ⊕ Nat)} {ds : List D}, allL (.inl d :: xs) = some ds → ∃ ds', allL xs = some ds' ∧ ds = d :: ds' := fun {d xs ds} h => by
    unfold allL at h
    cases q : allL xs with
    | none => rw [q] at h; cases h
    | some ds' => rw [q] at h; cases h; exact ⟨ds', rfl, rfl⟩
  induction ar with
  | nil => intro ds h; cases h; exact .nil
  | val r ar ih => intro ds h; obtain ⟨ds', h1, rfl⟩ := cut h; exact .val r (ih h1)
  | rov r ar ih => intro ds h; obtain ⟨ds', h1, rfl⟩ := cut h; exact .val r (ih h1)
  | look r ar ih => intro ds h; cases h
  | lend r ar ih => intro ds h; cases h
  | new h1 h2 h3 h4 h5 h6 h7 ar ih => intro ds h; obtain ⟨ds', g1, rfl⟩ := cut h; exact .new h1 h2 h3 h4 h5 h6 h7 (ih g1)
/-- other owners, others kept apart -/
theorem PR.go {F F' : Fm} {O O' : Nat → Option Addr} {H : Hp} {bs : List Bool} {vs : List V} {ds : List D} {ps : List Addr} (r : PR F O H bs vs ds ps) (g : ∀ a, Ow F' O' a → Ow F O a) (h0 : F'.H0 = F.H0) : (∀ p ∈ ps, F.P p → F'.P p) → (∀ p ∈ ps, F.N p → F'.N p) → (∀ p ∈ ps, ¬ Jo O p → ¬ Jo O' p) → PR F' O' H bs vs ds ps := by
  induction r with
  | nil => intro _ _ _; exact .nil
  | val r l ih => intro a b c; exact .val (r.sub fun a z => .inl (g a z)) (ih a b c)
  | new h1 h2 h3 h4 h5 h6 h7 l ih =>
    intro a b c
    exact .new (a _ List.mem_cons_self h1) (b _ List.mem_cons_self h2) (c _ List.mem_cons_self h3) (by rw [h0]; exact h4) h5 h6 (h7.sub fun a z => .inl (g a z)) (ih (fun p hp => a p (List.mem_cons_of_mem _ hp)) (fun p hp => b p (List.mem_cons_of_mem _ hp)) fun p hp => c p (List.mem_cons_of_mem _ hp))
def Fm.rm (F : Fm) (p : Addr) : Fm := { F with P := fun a => F.P a ∧ a ≠ p, N := fun a => F.N a ∧ a ≠ p }
theorem rm_ad {F : Fm} {p : Addr} (h1 : F.P p) (h2 : F.N p) : (F.rm p).ad p = F := by
  obtain ⟨P, N, H0, ba⟩ := F
  show Fm.mk (fun a => (P a ∧ a ≠ p) ∨ a = p) (fun a => (N a ∧ a ≠ p) ∨ a = p) H0 ba = Fm.mk P N H0 ba
  have e1 : (fun a => (P a ∧ a ≠ p) ∨ a = p) = P := funext fun a => propext ⟨fun z => z.elim (·.1) fun z => by rw [z]; exact h1, fun z => by
    by_cases h : a = p
    · exact .inr h
    · exact .inl ⟨z, h⟩⟩
  have e2 : (fun a => (N a ∧ a ≠ p) ∨ a = p) = N := funext fun a => propext ⟨fun z => z.elim (·.1) fun z => by rw [z]; exact h2, fun z => by
    by_cases h : a = p
    · exact .inr h
    · exact .inl ⟨z, h⟩⟩
  rw [e1, e2]
theorem par_put {K : PySem.W.Frag} {H : Hp} : ∀ {ts : List (Nat × Bool)} {F1 : Fm} {O : Nat → Option Addr} {e e2 : Env} {σ : L2.St} {vs : List V} {ds : List D} {ps : List Addr} {o : Out}, SR K F1 O e σ H → PR F1 O H (ts.map (·.2)) vs ds ps → parPut ts ds e = .ok o e2 →
    o = .nx ∧ ∃ O' F2, SR K F2 O' e2 (setL σ (ts.map (·.1)) vs) H ∧ (F2.ba = F1.ba ∧ F2.H0 = F1.H0 ∧ (∀ a, F1.P a → a ∉ ps → F2.P a) ∧ (∀ a, F1.N a → a ∉ ps → F2.N a)) ∧ ∀ a, Jo O' a → Jo O a ∨ a ∈ ps
  | [], F1, O, e, e2, σ, vs, ds, ps, o, S, r, h => by
    cases r
    cases h
    exact ⟨rfl, O, F1, S, ⟨rfl, rfl, fun _ z _ => z, fun _ z _ => z⟩, fun _ z => .inl z⟩
  | (i, false) :: ts, F1, O, e, e2, σ, vs, ds, ps, o, S, r, h => by
    cases r with
    | @val _ vs' ds' _ v d r l =>
      unfold parPut at h
      cases hf : isFix (sl e i) with
      | true => simp [hf] at h
      | false =>
        simp only [hf] at h
        obtain ⟨ho, O', F2, S2, f, j⟩ := par_put (ts := ts) (S.setVal (i := i) r) (l.go (fun a z => ow_setN z) rfl (fun _ _ z => z) (fun _ _ z => z) fun _ _ n z => n (jo_setN z)) h
        exact ⟨ho, O', F2, S2, f, fun a z => (j a z).elim (fun z => .inl (jo_setN z)) .inr⟩
  | (i, true) :: ts, F1, O, e, e2, σ, vs, ds, ps, o, S, r, h => by
    cases r with
    | @new _ vs' ds' ps' p us ys h1 h2 h3 h4 h5 h6 h7 l =>
      unfold parPut at h
      cases hf : isFix (sl e i) || !decide (i < e.length) with
      | true => simp [hf] at h
      | false =>
        simp only [hf] at h
        obtain ⟨_, hlen⟩ := Bool.or_eq_false_iff.mp hf
        have hl : i < e.length := by simpa using hlen
        have eF := rm_ad h1 h2
        have S' : SR K ((F1.rm p).ad p) O e σ H := by rw [eF]; exact S
        have g : ∀ a, Ow (F1.rm p) (setO O i (some p)) a → Ow F1 O a := fun a z => by
          have := ow_setS z
          rw [eF] at this
          exact this
        have S1 := S'.setNew (i := i) (s := .own ys) h3 hl ⟨p, us, setO_same, ⟨h4, fun z => z.2 rfl⟩, rfl, h6, h7.sub fun a z => .inl (g a z)⟩
        obtain ⟨ho, O', F2, S2, ⟨f1, f2, f3, f4⟩, j⟩ := par_put (ts := ts) S1 (l.go (F' := F1.rm p) (O' := setO O i (some p)) g rfl (fun q hq z => ⟨z, fun e => h5 (e ▸ hq)⟩) (fun q hq z => ⟨z, fun e => h5 (e ▸ hq)⟩) fun q hq n z => (jo_setS z).elim n fun e => h5 (e ▸ hq)) h
        refine ⟨ho, O', F2, S2, ⟨f1, f2, fun a z n => f3 a ⟨z, fun e => n (by rw [e]; exact List.mem_cons_self)⟩ fun q => n (List.mem_cons_of_mem _ q), fun a z n => f4 a ⟨z, fun e => n (by rw [e]; exact List.mem_cons_self)⟩ fun q => n (List.mem_cons_of_mem _ q)⟩, fun a z => ?_⟩
        rcases j a z with z | z
        · rcases jo_setS z with z | z
          · exact .inl z
          · exact .inr (by rw [z]; exact List.mem_cons_self)
        · exact .inr (List.mem_cons_of_mem _ z)
section
variable {fl : Fl} {X : Cx} {Wx : WX} {e a b c d tg iter elt : Expr} {ma mb mc md : DE} {pos p : Pos} {st : Stmt} {rest : List Stmt} {m n : DS}
theorem par_of {es : List Expr} {ms : List Md} {as : List Arg} {ts : List (Nat × Bool)} (ha : ArgsD X Wx es ms as) (hk : as.map isNew = ts.map (·.2)) (hp : ∀ ta : TA, PA X es ta → PS X st (fun D σ H => ta σ H fun vs H1 => vs.length = ts.length ∧ D.nx (setL σ (ts.map (·.1)) vs) H1)) (hl : es.length = ts.length) (hml : ms.length = ts.length) : SD fl X Wx st (sPar ts as) := by
  obtain ⟨ta, pa, qa⟩ := ha
  refine ⟨_, hp ta pa, fun F O env σ H D S w => ?_⟩
  refine qa F O env σ H _ S ((Want.bind w).imp (fun xs e1 w1 vs F1 H1 ps x S1 k1 ar hq => ?_) XWs.xw)
  refine ⟨ar.len.trans hml, ?_⟩
  cases hx : allL xs with
  | none => rw [hx] at w1; exact w1.elim
  | some ds =>
    rw [hx] at w1
    have r := pr_of ar hx
    rw [hk] at r
    unfold Want at w1
    cases hpp : parPut ts ds e1 with
    | bad => simp only [hpp] at w1
    | ex c fs e2 =>
      exfalso
      have : ∀ (ts : List (Nat × Bool)) (ds : List AH.D) (e : Env) c fs e2, parPut ts ds e ≠ .ex c fs e2 := by
        intro ts
        induction ts with
        | nil => intro ds e c fs e2 h; cases ds <;> cases h
        | cons t ts ih =>
          intro ds e c fs e2 h
          obtain ⟨i, b⟩ := t
          cases b with
          | false => cases ds with
            | nil => cases h
            | cons d ds =>
              unfold parPut at h
              split at h
              · cases h
              · exact ih _ _ _ _ _ h
          | true => cases ds with
            | nil => cases h
            | cons d ds => cases d with
              | lst ys =>
                unfold parPut at h
                split at h
                · cases h
                · exact ih _ _ _ _ _ h
              | _ => cases h
      exact this _ _ _ _ _ _ hpp
    | ok o e2 =>
      simp only [hpp] at w1
      obtain ⟨rfl, O', F2, S2, ⟨f1, f2, f3, f4⟩, j⟩ := par_put S1 r hpp
      have ext : FX F F2 (fun _ => none) := ⟨f1.trans x.ba, f2.trans x.h0, fun a z => f3 a (x.p a z) fun q => S.prot a (.inl z) (hq a q), fun a z => f4 a (x.n a z) fun q => ?_, fun _ _ => .inr rfl, fun _ _ => .inr rfl⟩
      · exact w1 O' _ H1 (S2.down ext) ⟨k1, fun a z => (j a z).elim .inl fun z => .inr (hq a z)⟩
      · exact S.nal a z (hq a q)
theorem sd_par2 {i j : Nat} {bi bj : Bool} {x y : Str} {as : List Arg} {ms : List Md} {px py pt : Pos} {kt k2 pt2} (hc : X.calm = true) (hN : X.N.Nodup) (hi : X.N[i]? = some x) (hj : X.N[j]? = some y) (hij : i ≠ j) (hx : X.env.scope.names.lookup x = some .local) (hy : X.env.scope.names.lookup y = some .local)
    (ha : ArgsD X Wx [a, b] ms as) (hk : as.map isNew = [bi, bj]) (hml : ms.length = 2) (hw : swappedStores [.Tuple [.Name x px, .Name y py] kt pt] (.Tuple [a, b] k2 pt2) X.env = pure (some [x, y]) := by rfl) (hs : swapsWithSole [.Tuple [.Name x px, .Name y py] kt pt] (.Tuple [a, b] k2 pt2) pos.line X.env = pure false := by rfl) :
    SD fl X Wx (.Assign [.Tuple [.Name x px, .Name y py] kt pt] (.Tuple [a, b] k2 pt2) pos) (sPar [(i, bi), (j, bj)] as) :=
  par_of ha hk (fun ta pa => ⟨fun pins s σ H D I h => (ps_par hc hN hi hj hij hx hy pa hw hs).run pins s σ H D I (by
    have e : (fun (vs : List V) (H1 : Hp) => vs.length = 2 ∧ D.nx (setL σ [i, j] vs) H1) = fun vs H1 => ∃ v w, vs = [v, w] ∧ D.nx ((σ.set i (some v)).set j (some w)) H1 := by
      funext vs H1
      apply propext
      constructor
      · rintro ⟨hl, h⟩
        match vs, hl, h with
        | [v, w], _, h => exact ⟨v, w, rfl, h⟩
      · rintro ⟨v, w, rfl, h⟩
        exact ⟨rfl, h⟩
    have h : ta σ H (fun (vs : List V) (H1 : Hp) => vs.length = 2 ∧ D.nx (setL σ [i, j] vs) H1) := h
    rw [e] at h
    exact h)⟩) rfl hml
/-! ### enumerate -/
def iEnumL (a : DE) : DI := a.bind fun x => match x with
  | .lst xs => M.pure ((rng 0 xs.length).zip xs |>.map fun p => D.tup [p.1, p.2])
  | _ => fun _ => .bad
theorem rng0_get {n i : Nat} (h : i < n) : (rng 0 (n : Int))[i]? = some (.int i) := by
  unfold rng
  rw [List.getElem?_map, List.getElem?_range (by omega)]
  show some (D.int (0 + (i : Int))) = some (D.int i)
  rw [Int.zero_add]
theorem rng0_len {n : Nat} : (rng 0 (n : Int)).length = n := by
  unfold rng
  rw [List.length_map, List.length_range]
  omega
theorem id_enum {elts : List Expr} {kk : Nat} {tpos : Pos} (hb : Bn X "enumerate" (.type "enumerate")) (ha : PD .s X Wx a ma) (hs : starEach [a] X.env = [(false, eval a X.env)] := by rfl) (hs2 : starEach [a] X.env = (false, eval a X.env) :: starEach [] X.env := by rfl) :
    ID X Wx (.Tuple elts kk tpos) (.Call (.Name "enumerate" p) [a] [] pos) (iEnumL ma) := by
  obtain ⟨ta, pa, qa⟩ := ha
  refine ⟨_, pi_enum hb.gl hb.mg (pa_cons pa pa_nil hs2) hs, fun F O env σ H R S w => ?_⟩
  refine qa F O env σ H _ S (w.bind.imp (fun dx e1 w1 x H1 S1 k1 p1 => ?_) fun _ _ _ z => z)
  cases p1 with
  | lst n1 h1 l1 =>
    rename_i aa vs xs
    refine ⟨_, _, rfl, .inl (.inl h1), w1 _ H1 S1 k1 (wk_pair (walk_enum.mono (fun H k => .inl (.inl (k.stay _ _ (fun z => n1 z.1) h1))) fun _ _ _ _ _ _ y => y) ?_ fun i d x y hd hx hy => ?_)⟩
    · rw [List.length_map, List.length_zip, rng0_len, l1.len]; omega
    · rw [List.getElem?_map] at hd
      cases hz : ((rng 0 (xs.length : Int)).zip xs)[i]? with
      | none => rw [hz] at hd; cases hd
      | some q =>
        rw [hz] at hd
        cases hd
        obtain ⟨q1, q2⟩ := List.getElem?_zip_eq_some.mp hz
        have hi : i < xs.length := (List.getElem?_eq_some_iff.mp q2).1
        rw [rng0_get hi] at q1
        obtain ⟨v, hv, r⟩ := l1.get q2
        rw [hy] at hv
        cases hv
        cases hx
        exact ⟨_, _, rfl, by rw [← Option.some.inj q1]; exact .int _, r⟩
  | _ => exact w1.elim
end
end AH
namespace HT
open PySem PySem.Spec PyProof.Rows
section
variable {prog : Program} {w : World} {A : Around} {E : Value → Shared → Prop} {s : Shared}
end
end HT
namespace AH
open PySem PySem.Spec PyProof.Rows L2
variable [TheK]
section
variable {fl : Fl} {X : Cx} {Wx : WX} {e a b c d tg iter elt : Expr} {ma mb mc md : DE} {pos p : Pos} {st : Stmt} {rest : List Stmt} {m n : DS}
end
end AH
namespace AH
open PySem PySem.Spec PyProof.Rows L2
variable [TheK]
/-! ### a module's defs -/
/-- a def of the text by its name -/
def Fu (K : PySem.W.Frag) (mg : Str → Option Value) (x : Str) (st : Stmt) : Prop := ∃ (f : Addr) (fd : FuncData), FunD K x x (defArgs st) (defBody st) (defScope st) [] [] f fd ∧ mg x = some (.ref f)
/-- .. and what it is known to do -/
structure Kn (P : Program) (w : World) (K : PySem.W.Frag) (mg : Str → Option Value) (base : Heap) (fl : Fl) (x : Str) (st : Stmt) (N ps : List Str) (ms : List Md) (g : DF) (k : Nat) : Prop where
  ex : ∃ (f : Addr) (fd : FuncData), FnOk P w K mg base (L2.CX P w) k f fd ps (spD fl K N ms g) ∧ mg x = some (.ref f) ∧ FunD K x x (defArgs st) (defBody st) (defScope st) [] [] f fd ∧ Binds K fd ps []
  nw : fl ≠ .w
  le : ms.length ≤ N.length
def BindsOk (x : Str) (st : Stmt) (ps : List Str) : Prop := ∀ (kV doc pm : Value) (an : Option Addr) (cdv ct : Value) (us : List Value), us.length = ps.length → bindArgs (PySem.W.fnOf x x (defArgs st) (defBody st) (defScope st) .none kV doc pm an cdv ct) ⟨us, []⟩ = pure (ps.zip us)
section
variable {P : Program} {w : World} {K : PySem.W.Frag} {mg : Str → Option Value} {base : Heap} {fl : Fl} {x : Str} {st : Stmt} {N ps : List Str} {ms : List Md} {g : DF} {k : Nat} {m : DS}
/-- THE RULE for a def of the text -/
theorem kn_of (F : Fu K mg x st) (S : FnScope N ps (defScope st)) (hps : ps.length = ms.length) (hb : BindsOk x st ps) (hf : (fl = .s ∧ g = mkF N.length ms m) ∨ g = mkR N.length ms m)
    (hbody : ∀ (f : Addr) (cdv : Value) (A : Around) (outer : List PySem.Env) (s : Shared) (H : Hp) (E : XK), Room k (cxD P w K mg base N x (defScope st) f cdv A outer s H E).A → Takes (cxD P w K mg base N x (defScope st) f cdv A outer s H E) (fun cls d _ H => E cls d H) →
      PassesOwn (model P w) (cxD P w K mg base N x (defScope st) f cdv A outer s H E).A (cxD P w K mg base N x (defScope st) f cdv A outer s H E).env (cxD P w K mg base N x (defScope st) f cdv A outer s H E).xe →
      SsD fl (cxD P w K mg base N x (defScope st) f cdv A outer s H E) (fun cls d _ H => E cls d H) (defBody st) m) (hfl : fl ≠ .w := by simp) (hle : ms.length ≤ N.length := by simp) : Kn P w K mg base fl x st N ps ms g (k + 1) := by
  obtain ⟨f, fd, F, hm⟩ := F
  refine ⟨⟨f, fd, ?_, hm, F, F.bindsN hb⟩, hfl, hle⟩
  refine F.ok S (fun vs H Q E h => by rw [hps]; exact h.1) (fun cdv A outer s H vs Q E hr h => ?_)
  obtain ⟨hl, ds, F', O, SS, h0, hls, h⟩ := h
  obtain ⟨t, pt, qt⟩ := hbody f cdv A outer s H E hr (takes_of (E₁ := fun e' s'' => L2.CX P w outer H s E e' s'') rfl rfl rfl rfl) (passes_of (K := fun e s'' => L2.CX P w outer H s E e s'') (E₁ := fun e' s'' => L2.CX P w outer H s E e' s'') rfl)
  exact ⟨t, pt, qt F' O _ (L2.start N vs) H _ SS (body_wish (O := O) h0 hls hf h)⟩
theorem kn_bad (F : Fu K mg x st) (hps : ps.length = ms.length) (hb : BindsOk x st ps) (hfl : fl ≠ .w := by simp) (hle : ms.length ≤ N.length := by simp) : Kn P w K mg base fl x st N ps ms (fun _ => .bad) k := by
  obtain ⟨f, fd, F, hm⟩ := F
  exact ⟨⟨f, fd, fn_bad hps, hm, F, F.bindsN hb⟩, hfl, hle⟩
theorem Kn.fn {X : Cx} (F : Kn X.prog X.w X.K X.mg X.base fl x st N ps ms g k) {j : Nat} (hr : Room j X.A) (h : k ≤ j := by decide) : Fn X fl x N ps ms g := by
  obtain ⟨⟨f, fd, a, b, c, d⟩, e1, e2⟩ := F
  exact ⟨⟨k, f, fd, a, hr.mono h, b, c.kp, d⟩, e1, e2⟩
end
theorem tkNone {X : Cx} : Takes X W0 := fun u s' ⟨_, _, _, _, _, _, _, _, _, _, _, _, _, _, _, _, w⟩ => w.elim
theorem room_u {k : Nat} {A : Around} (r : Room k A) : A.units + 65 < cLine := by have := r.un; omega
section
variable {X : Cx}
theorem bn_any {x : Str} {u : Value} (g : Gl X x) (m : X.mg x = none) (b : bootBuiltins x = some u) (h1 : x ≠ "__name__" := by decide) (h2 : (x == ("__debug__" : Str)) = false := by decide) : Bn X x u := ⟨g, m, b, h1, h2⟩
end
end AH
namespace AH
open PySem PySem.Spec PyProof.Rows L2
variable [TheK]
/-! lengths of argument lists -/
end AH
namespace AH
open PySem PySem.Spec PyProof.Rows L2
variable [TheK]
/-! ### slots are forgotten -/
def fgt1 (e : Env) (i : Nat) : Env := if isFix (sl e i) then e else put e i .no
def fgt (e : Env) : List Nat → Env
  | [] => e
  | i :: r => fgt (fgt1 e i) r
def sFg (vs : List Nat) (m : DS) : DS := m.bind fun o => match o with
  | .rt d => M.pure (.rt d)
  | o => fun e => .ok o (fgt e vs)
section
variable {K : PySem.W.Frag} {F : Fm} {O : Nat → Option Addr} {env : Env} {σ : L2.St} {H H' : Hp} {i : Nat}
theorem SR.drop (S : SR K F O env σ H) : SR K F (setO O i none) (put env i .no) σ H where
  slot := fun j => by
    by_cases hj : j = i
    · subst hj
      by_cases hl : j < env.length
      · rw [sl_put_same _ _ _ hl]; exact setO_same
      · rw [put_out _ _ _ (by omega), sl_out _ _ (by omega)]; exact setO_same
    · rw [sl_put_ne _ _ _ _ hj]
      exact SlR.own (F := F) rfl rfl (setO_ne hj) (fun _ z => z) (fun a w => .inl (ow_setN w)) (fun a w => .inl (w.elim (fun w => .inl (jo_setN w)) .inr)) (S.slot j)
  inj := inj_setN S
  prot := fun a w => S.prot a (ow_setN w)
  keep := S.keep
  al := S.al
  len := by rw [put_len]; exact S.len
  nal := S.nal
  pt := S.pt
theorem SR.fgt (S : SR K F O env σ H) (vs : List Nat) : ∃ O', SR K F O' (AH.fgt env vs) σ H ∧ ∀ a, Jo O' a → Jo O a := by
  induction vs generalizing O env with
  | nil => exact ⟨O, S, fun _ z => z⟩
  | cons i r ih =>
    show ∃ O', SR K F O' (AH.fgt (fgt1 env i) r) σ H ∧ ∀ a, Jo O' a → Jo O a
    unfold fgt1
    split
    · exact ih S
    · obtain ⟨O', S', g⟩ := ih (S.drop (i := i))
      exact ⟨O', S', fun a z => jo_setN (g a z)⟩
end
section
variable {fl : Fl} {X : Cx} {Wx : WX} {sts : List Stmt} {m : DS}
theorem fg_post {D : Ends} {F : Fm} {O : Nat → Option Addr} {H : Hp} {vs : List Nat} {env : Env} (w : Want (sFg vs m) env (Post fl X.K F O H D) (XWs X.K F O H Wx)) : Want m env (Post fl X.K F O H D) (XWs X.K F O H Wx) := by
  refine (Want.bind (m := m) w).imp (fun o e1 w1 O' σ' H' S k => ?_) fun _ _ _ z => z
  obtain ⟨O2, S2, g⟩ := S.fgt vs
  have k2 : KeS O H O2 H' := k.trans ⟨Ke.refl, fun a z => .inl (g a z)⟩
  cases o with
  | nx => exact w1 O2 σ' H' S2 k2
  | bk => exact w1 O2 σ' H' S2 k2
  | ct => exact w1 O2 σ' H' S2 k2
  | rt d => exact w1 O' σ' H' S k
theorem ss_fg {vs : List Nat} (h : SsD fl X Wx sts m) : SsD fl X Wx sts (sFg vs m) := let ⟨t, p, q⟩ := h; ⟨t, p, fun F O env σ H D S w => q F O env σ H D S (fg_post w)⟩
end
/-! ### raise X() -/
section
variable {X : Cx} {B newId initId : String} {C : Addr} {bmB : List Value}
theorem pmk_own0 {x : Str} {p pos : Pos} (F : ExcBaseFacts B newId initId bmB) (q : PySem.W.excIn X.K C bmB newId = true) (gC : X.mg x = some (.ref C)) (kC : PySem.W.keepIn X.K (.ref C) = true) (r : Raises X (.ref C)) (hg : Gl X x)
    (hdb : (x == ("__debug__" : Str)) = false := by decide) : PMk X (.Call (.Name x p) [] [] pos) (fun _ H Q => Q (.ref C) none H) := by
  intro pins s σ H Q I h
  refine wpAny_Call_Name_kw (ld_glob I hg gC (?_) hdb); refine PySem.W.callWith_K0 I.kIn kC ?_
  show wpAny _ _ (call (.ref C) []) _ _ _
  obtain ⟨bm, N, nm, qn, bs, hdct, sn, sub, ab, col, dd, k0, k1, k2, k3, k5, mN, hC, hN, hni, T⟩ := exc_obj I.kIn q
  exact wpAny_call_exc_subT F T hC hN hni (fun h' e hm => mk_of I hm r h (I.hok.gone hm.new)) (by show 0 ≤ sizeLine; omega)
end
/-- an own exception class without fields -/
structure XcF (K : PySem.W.Frag) (mg : Str → Option Value) (c : Str) : Prop where
  q : PySem.W.excIn K (He.ga K c) (PySem.HandSPX.veTail) "ValueError.__new__" = true
  g : mg c = some (.ref (He.ga K c))
  k : PySem.W.keepIn K (.ref (He.ga K c)) = true
  b : PySem.W.subIn K (.ref (He.ga K c)) (.type "BaseException") = some true
  t : PySem.W.typeIn K (.ref (He.ga K c)) = some (.type "type")
def sRaise (c : Str) : DS := fun e => .ex c [] e
theorem sd_raise0 {fl : Fl} {X : Cx} {Wx : WX} {c : Str} {p p1 pos : Pos} (hc : X.calm = true) (tk : Takes X Wx) (hx : c ∈ TheK.xs) (F : XcF X.K X.mg c) (hg : Gl X c) (hdb : (c == ("__debug__" : Str)) = false := by decide) :
    SD fl X Wx (.Raise (some (.Call (.Name c p) [] [] p1)) none pos) (sRaise c) :=
  ⟨_, ps_raise hc tk (pmk_own0 PySem.F.excBase_ValueError F.q F.g F.k (raises_own F.b F.t) hg hdb), fun F O env σ H D S w => w O σ _ _ H S .refl ⟨⟨rfl, hx⟩, rfl⟩⟩
end AH
namespace AH
open PySem PySem.Spec PyProof.Rows L2
/-! ### try: body, except x as n: suite; the exception's object is kept in the heap -/
section
variable {X : Cx} {σ : L2.St} {H : Hp} {pins : List (Addr × Obj)} {s : Shared}
theorem Inv.suiteK (I : Inv X pins σ H s) {a : Addr} {oe : Obj} {vs : Array Value} {cls : Value} {d : Option Addr} (ha : s.heap.get? a = some oe) (hd : oe.data = .fields vs) (hz : Zc cls d oe) (na : H a = none) (nL : a ≠ X.env.locals) (n0 : X.s_0.heap.get? a = none) (np : ∀ p ∈ X.pn ++ pins, p.1 ≠ a) :
    Inv (X.suite a (X.pn ++ pins)) [] σ (upd H a (CgO cls d a)) s := by
  refine ⟨I.ok.suite _ _, I.os, I.bare, ⟨I.base.keep, I.base.slot, fun b o e n hx => ?_, I.base.there, fun b xs e => ?_, fun b o u e => ?_, fun b ps e => ?_⟩, I.loc, I.cell, ?_, fun x c e => ?_, fun p hp => ?_, ?_, I.len⟩
  · rw [upd_ne (fun z => by rw [z, n0] at e; cases e)]
    exact I.base.free b o e n hx
  · have qt := I.base.tups b xs e
    rw [upd_ne (ne_of_none qt na)]; exact qt
  · have qf := I.base.frzs b o u e
    rw [upd_ne (ne_of_none qf na)]; exact qf
  · obtain ⟨more, q⟩ := I.base.tbls b ps e
    exact ⟨more, by rw [upd_ne (ne_of_none q na)]; exact q⟩
  · show upd H a (CgO cls d a) X.env.locals = none
    rw [upd_ne (Ne.symm nL)]; exact I.free
  · obtain ⟨v, hc⟩ := I.cell x c e
    have ne : c ≠ a := fun z => by
      subst z
      obtain ⟨o, h1, h2⟩ := hc
      rw [ha] at h1; cases h1
      rw [hd] at h2; cases h2
    rw [upd_ne ne]; exact I.freeC x c e
  · have hp' : p ∈ X.pn ++ pins := by rw [List.append_nil] at hp; exact hp
    obtain ⟨e, n, q⟩ := I.pin p hp'
    exact ⟨e, by rw [upd_ne (np p hp')]; exact n, q⟩
  · exact HOk.laidN I.hok (fun _ _ e => e) na ⟨⟨oe, vs, ha, hz, hd⟩, ⟨oe, ha⟩, fun _ _ ⟨o, v, q, r⟩ k => ⟨o, v, k o q, r⟩⟩
theorem Inv.unsuiteK {a : Addr} {pn' : List (Addr × Obj)} (I : Inv (X.suite a (X.pn ++ pins)) pn' σ H s) (ok : X.Ok) : Inv X pins σ H s :=
  ⟨ok, I.os, I.bare, I.base, I.loc, I.cell, I.free, I.freeC, fun r hr => I.pin r (List.mem_append_left _ hr), I.hok, I.len⟩
end
def wKp (K : PySem.W.Frag) (c : Value) (i : Nat) (ts : TS) (Wout : WX) (D : Ends) : WX := fun cls d σ H =>
  ∃ b, PySem.W.exmOne K cls c = some b ∧ (b = true → ∀ a, H a = none → ts { nx := fun σ' H' => D.nx (σ'.set i none) H', rt := D.rt, bk := fun σ' H' => D.bk (σ'.set i none) H', ct := fun σ' H' => D.ct (σ'.set i none) H' } (σ.set i (some (.ref a))) (upd H a (CgO cls d a))) ∧
    (b = false → Wout cls d σ H)
section
variable {X : Cx} {x n : Str} {c : Value} {i : Nat} {body suite : List Stmt} {b₀ : Stmt} {np pos pos' : Pos} {tb : WX → TS} {ts : TS} {Wout : WX}
end
end AH
namespace AH
open PySem PySem.Spec PyProof.Rows L2
variable [TheK]
/-! ### try, the error kept in a name -/
theorem SR.newX {K : PySem.W.Frag} {F : Fm} {O : Nat → Option Addr} {env : Env} {σ : L2.St} {H : Hp} {a : Addr} {o : HO} (S : SR K F O env σ H) (h : H a = none) : SR K F O env σ (upd H a o) := S.new' h
theorem SR.dropS {K : PySem.W.Frag} {F : Fm} {O : Nat → Option Addr} {env : Env} {σ : L2.St} {H : Hp} {i : Nat} {o : Option V} (S : SR K F O env σ H) : SR K F (setO O i none) (put env i .no) (σ.set i o) H where
  slot := fun j => by
    by_cases hj : j = i
    · subst hj
      by_cases hl : j < env.length
      · rw [sl_put_same _ _ _ hl]; exact setO_same
      · rw [put_out _ _ _ (by omega), sl_out _ _ (by omega)]; exact setO_same
    · rw [sl_put_ne _ _ _ _ hj, get1_ne hj]
      exact SlR.own (F := F) rfl rfl (setO_ne hj) (fun _ z => z) (fun a w => .inl (ow_setN w)) (fun a w => .inl (w.elim (fun w => .inl (jo_setN w)) .inr)) (S.slot j)
  inj := inj_setN S
  prot := fun a w => S.prot a (ow_setN w)
  keep := S.keep
  al := S.al
  len := by rw [put_len, List.length_set]; exact S.len
  nal := S.nal
  pt := S.pt
section
variable {fl : Fl} {X : Cx} {Wx : WX} {n y c : Str} {i j : Nat} {body : List Stmt} {m : DS} {np py pn pa pos' pos : Pos}
def tSs (fl : Fl) (K : PySem.W.Frag) (m : DS) (W : WX) : TS := fun D σ H => ∃ F O env, SR K F O env σ H ∧ Want m env (Post fl K F O H D) (XWs K F O H W)
theorem SsD.pss (h : SsD fl X Wx body m) : PSs X body (tSs fl X.K m Wx) := by
  obtain ⟨t, p, q⟩ := h
  exact ⟨fun pins s σ H D I ⟨F, O, env, S, w⟩ => p.run pins s σ H D I (q F O env σ H D S w)⟩
end
/-! ### isinstance(error, B), error.f -/
def isVE (c : Str) : Bool := decide (c = "Unlike" ∨ c = "Unfit" ∨ c = "NoMove" ∨ c = "TooFew" ∨ c = "BadText" ∨ c = "BadLine")
structure XvF (K : PySem.W.Frag) (c : Str) : Prop where
  x : ExcC K (He.ga K c)
  ve : PySem.W.kitOne K (.ref (He.ga K c)) (.type "ValueError") = some (isVE c)
  le : PySem.W.kitOne K (.ref (He.ga K c)) (.type "LookupError") = some (!isVE c)
section
variable {X : Cx} {Wx : WX} {a : Expr} {ma : DE} {p p2 pos : Pos}
theorem inst_of {H : Hp} {s : Shared} {b C : Addr} {dd : Option Addr} (hok : HOk X.prog X.w H s.heap) (h1 : H b = some (CgO (.ref C) dd b)) (h2 : ∀ d, dd = some d → ∃ fs, H d = some (.xd fs)) : ∃ ox od, PySem.W.InstAt s.heap b ox C od ∧ ox.dict = dd := by
  obtain ⟨⟨oe, vs, g, hz, hd⟩, _, _⟩ := (show ObjOk X.prog X.w H s.heap b (CgO (.ref C) dd b) from hok b _ h1)
  have no : PySem.W.notCls oe = true := by unfold PySem.W.notCls; rw [hd]
  cases dd with
  | none => exact ⟨oe, none, ⟨g, hz.1, no, by rw [hz.2]; trivial⟩, hz.2⟩
  | some d =>
    obtain ⟨fs, h3⟩ := h2 d rfl
    obtain ⟨mA, hns, _⟩ := (show ObjOk X.prog X.w H s.heap d (.xd fs) from hok d _ h3)
    obtain ⟨od, ho, _⟩ := lookIn_ns hns
    exact ⟨oe, some od, ⟨g, hz.1, no, by rw [hz.2]; exact ho⟩, hz.2⟩
def rIsX (K : PySem.W.Frag) : List V → Hp → VK → Prop := fun xs H Q => ∃ (b C : Addr) (dd : Option Addr) (c : V) (cv : Value) (k : Bool), xs = [.ref b, c] ∧ (∀ u, RelV c u → u = cv) ∧ H b = some (CgO (.ref C) dd b) ∧ (∀ d, dd = some d → ∃ fs, H d = some (.xd fs)) ∧ ExcC K C ∧ PySem.W.kitOne K (.ref C) cv = some k ∧ Q (.bl k) H
theorem call_isX : CallR X (.builtin "isinstance") (rIsX X.K) := by
  intro pins s σ H xs us Q I rr h
  obtain ⟨b, C, dd, c, cv, k, rfl, hcv, h1, h2, T, e, q⟩ := h
  cases rr with
  | cons rx rz =>
    cases rz with
    | cons rt rz =>
      cases rz
      cases rx
      have ec := hcv _ rt
      subst ec
      obtain ⟨ox, od, J, _⟩ := inst_of (X := X) I.hok h1 h2
      obtain ⟨cd, hcd, _⟩ := PySem.W.any_some T.hd
      exact PySem.W.kia_one (PySem.W.kitx_exc (by rw [hcd]; rfl) T.hg T.hk T.hs T.ha T.hn T.ht T.hm) I.kIn J e (fun z => nomatch z) fun tk => ⟨.bl k, H, I.kept (t' := tk) fun _ _ z => z, rfl, q⟩
def dIsX (v : Bool) : D → Rv D
  | .non => .ok (.bl false)
  | .exc c _ _ => .ok (.bl (if v then isVE c else !isVE c))
  | _ => .bad
def nmX' (v : Bool) : String := if v then "ValueError" else "LookupError"
theorem kit_nonX (v : Bool) : kitB "NoneType" (nmX' v) = some false := by cases v <;> decide +kernel
theorem pd_isX {v : Bool} {y : Str} (hK : X.K = TheK.K) (F : ∀ c ∈ TheK.xs, XvF X.K c) (hb : Bn X "isinstance" (.builtin "isinstance")) (hy : Bn X y (.type (nmX' v))) (ha : PD .s X Wx a ma)
    (hs : starEach [a, .Name y p2] X.env = (false, eval a X.env) :: starEach [.Name y p2] X.env := by rfl) : PD .s X Wx (.Call (.Name "isinstance" p) [a, .Name y p2] [] pos) (e1 (dIsX v) ma) := by
  obtain ⟨ta, pa, qa⟩ := ha
  refine ⟨_, pe_callB (CallR.or call_isi call_isX) hb.gl hb.mg hb.bt (pa_cons pa (pa_cons (pe_ty hy) pa_nil) hs) hb.nn hb.nd hs rfl, fun F' O env σ H Q S w => ?_⟩
  refine qa F' O env σ H _ S (w.bind.imp (fun dx e1 w1 x H1 S1 k1 p1 => ?_) fun _ _ _ z => z)
  obtain ⟨dz, ez, w2⟩ := w1.of
  cases p1 with
  | non =>
    cases ez
    exact .inl ⟨.non, .ty (nmX' v), _, _, _, rfl, .ty _, .base .non, kit_ty (kit_nonX v), w2 _ H1 S1 k1 (.bl _)⟩
  | exc n hc h h1 h2 l =>
    rename_i b dd c fs vs
    cases ez
    have T := F c hc
    rw [← hK] at h
    refine .inr ⟨b, He.ga X.K c, dd, .ty (nmX' v), .type (nmX' v), _, rfl, fun u z => z, h, fun d z => ⟨_, (h2 d z).2.1⟩, T.x, ?_, w2 _ H1 S1 k1 (.bl _)⟩
    cases v
    · exact T.le
    · exact T.ve
  | _ => cases ez
/-- error.f -/
def tXa (K : PySem.W.Frag) (f : Str) (te : TE) : TE := fun σ H Q => te σ H fun x H1 => ∃ (b C d : Addr) (fs : List (Str × V)) (v : V), x = .ref b ∧ H1 b = some (CgO (.ref C) (some d) b) ∧ H1 d = some (.xd fs) ∧ XfC K C ∧ PySem.W.findIn K (.ref C) f = some none ∧ fs.lookup f = some v ∧ Q v H1
theorem pe_xa {e : Expr} {te : TE} {f : Str} (he : PE X e te) (hb : attributeBase e f X.env (eval e X.env) = eval e X.env := by rfl) : PE X (.Attribute e f pos) (tXa X.K f te) := by
  refine ⟨fun pins s σ H Q I h => attr_of hb (thn (he.run pins s σ H _ I h) fun u s1 hh => ?_)⟩
  obtain ⟨x, H1, I1, rx, b, C, d, fs, v, ex, e1, e2, T, hno, l, q⟩ := hh
  subst ex
  obtain rfl : u = Value.ref b := rx
  obtain ⟨⟨oe, vs, g, hz, hd⟩, _, _⟩ := (show ObjOk X.prog X.w H1 s1.heap b (CgO (.ref C) (some d) b) from I1.hok b _ e1)
  obtain ⟨mA, hns, hr⟩ := (show ObjOk X.prog X.w H1 s1.heap d (.xd fs) from I1.hok d _ e2)
  obtain ⟨od, ho, hlk⟩ := lookIn_ns hns
  obtain ⟨u, hu, ru⟩ := RelO.some_of (v := v) (o := mA f) (by rw [← l]; exact hr f)
  have J : PySem.W.InstAt s1.heap b oe C (some od) := ⟨g, hz.1, by unfold PySem.W.notCls; rw [hd], by rw [hz.2]; exact ho⟩
  exact HandSPX.exc_get I1.kIn J T.ga T.gg T.exC (PySem.W.findObj_own T.hdC hno rfl (by rw [hlk, hu])) (handed_of ru) ⟨v, H1, I1.tok _, ru, q⟩
structure XaF (K : PySem.W.Frag) (c : Str) : Prop where
  x : XfC K (He.ga K c)
  n : ∀ f ∈ fieldsOf c, PySem.W.findIn K (.ref (He.ga K c)) f = some none
def dXa (f : Str) : D → Rv D
  | .exc c _ fs => (match ((fieldsOf c).zip fs).lookup f with
    | some d => .ok d
    | none => .bad)
  | _ => .bad
theorem lookup_rep {W : Pr} {H : Hp} {f : Str} : ∀ {ns : List Str} {vs : List V} {fs : List D} {d : D}, RepL W H vs fs → (ns.zip fs).lookup f = some d → f ∈ ns ∧ ∃ v, (ns.zip vs).lookup f = some v ∧ Rep W H v d
  | [], _, _, _, _, e => by cases e
  | n :: ns, _, _, d, .nil, e => by cases e
  | n :: ns, _, _, d, .cons (v := v) (d := d0) r l, e => by
    rw [List.zip_cons_cons, List.lookup_cons] at e
    rw [List.zip_cons_cons, List.lookup_cons]
    cases q : (f == n) with
    | true =>
      rw [q] at e
      cases e
      exact ⟨by rw [beq_iff_eq.mp q]; exact List.mem_cons_self, v, rfl, r⟩
    | false =>
      rw [q] at e
      obtain ⟨h1, v', h2, h3⟩ := lookup_rep l e
      exact ⟨List.mem_cons_of_mem _ h1, v', h2, h3⟩
theorem pd_xa {f : Str} (hK : X.K = TheK.K) (F : ∀ c ∈ TheK.xs, XaF X.K c) (ha : PD .s X Wx a ma) (hb : attributeBase a f X.env (eval a X.env) = eval a X.env := by rfl) : PD .s X Wx (.Attribute a f pos) (e1 (dXa f) ma) := by
  obtain ⟨ta, pa, qa⟩ := ha
  refine ⟨_, pe_xa pa hb, fun F' O env σ H Q S w => ?_⟩
  refine qa F' O env σ H _ S (w.bind.imp (fun dx e1 w1 x H1 S1 k1 p1 => ?_) fun _ _ _ z => z)
  obtain ⟨dz, ez, w2⟩ := w1.of
  cases p1 with
  | exc n hc h h1 h2 l =>
    rename_i b dd c fs vs
    have ez : (match ((fieldsOf c).zip fs).lookup f with | some d => Rv.ok d | none => Rv.bad) = .ok dz := ez
    have T := F c hc
    cases q : ((fieldsOf c).zip fs).lookup f with
    | none => rw [q] at ez; cases ez
    | some d' =>
      rw [q] at ez
      cases ez
      obtain ⟨m1, v, m2, m3⟩ := lookup_rep l q
      rw [← hK] at h
      cases dd with
      | none =>
        have z := h1 rfl
        subst z
        cases l
        simp at q
      | some d0 => exact ⟨b, He.ga X.K c, d0, _, v, rfl, h, (h2 d0 rfl).2.1, T.x, T.n f m1, m2, w2 v H1 S1 k1 m3⟩
  | _ => cases ez
end
end AH
namespace AH
open PySem PySem.Spec PyProof.Rows L2
/-! ### zip over lists and tuples, two or three -/
def SqK (k : Bool) (K : PySem.W.Frag) (H : Hp) (a : Addr) (xs : List V) : Prop := match k with
  | true => SqT K H a xs
  | false => SqL K H a xs
def ItK (k : Bool) (h : Heap) (it a : Addr) (i : Nat) : Prop := match k with
  | true => h.IsTupleIter it a i
  | false => h.IsListIter it a i
def IsK (k : Bool) (h : Heap) (a : Addr) (items : Array Value) : Prop := match k with
  | true => h.IsTuple a items
  | false => h.IsList a items
def obK (k : Bool) (a : Addr) : Obj := match k with
  | true => { cls := .type "tuple_iterator", data := .fields #[.ref a, .int 0 0] }
  | false => { cls := .type "list_iterator", data := .fields #[.ref a, .int 0 0] }
section
variable {k : Bool} {X : Cx} {pins : List (Addr × Obj)} {σ : L2.St} {H : Hp} {s : Shared} {a it : Addr} {xs : List V} {h h' : Heap} {i : Nat}
theorem drawsK {prog : Program} {w : World} {A : Around} (hh : A.handled = none) (k : Bool) (it a : Addr) (hne : a ≠ it) (items : Array Value) : Draws prog w A it [it, a] items.size (fun i v => items[i]? = some v) (fun i h => ItK k h it a i ∧ IsK k h a items) := by
  cases k
  · exact Draws.list hh it a hne items
  · exact Draws.tuple hh it a hne items
theorem beginsK (k : Bool) (a : Addr) (items : Array Value) : Begins (.ref a) (obK k a) fun h => IsK k h a items := by
  cases k
  · exact begins_list a items
  · exact begins_tuple a items
theorem itK0 (e : h.get? it = some (obK k a)) : ItK k h it a 0 := by
  cases k
  · exact ⟨_, e, rfl, rfl⟩
  · exact ⟨_, e, rfl, rfl⟩
theorem ItK.keep (x : ItK k h it a i) (qw : ∀ o, h.get? it = some o → h'.get? it = some o) : ItK k h' it a i := by
  cases k
  · exact Heap.IsListIter.at x qw
  · exact Heap.IsTupleIter.at x qw
theorem ItK.obj (x : ItK k h it a i) : ∃ o, h.get? it = some o ∧ ∀ v, o.data ≠ .cell v := by
  cases k
  · obtain ⟨o, e, _, d⟩ := x
    exact ⟨o, e, fun v qw => by rw [d] at qw; cases qw⟩
  · obtain ⟨o, e, _, d⟩ := x
    exact ⟨o, e, fun v qw => by rw [d] at qw; cases qw⟩
theorem Inv.sqK (I : Inv X pins σ H s) (qw : SqK k X.K H a xs) : ∃ its : List Value, Vals xs its ∧ IsK k s.heap a its.toArray ∧ a < s.heap.objs.size := by
  cases k
  · obtain ⟨its, rv, p, _⟩ := I.list qw
    exact ⟨its, rv, p.isList, p.lt⟩
  · obtain ⟨its, rv, p, _⟩ := I.tuple qw
    obtain ⟨o, ho, _⟩ := id p
    exact ⟨its, rv, p, Heap.lt_size ho⟩
theorem Inv.sqK_inj (I : Inv X pins σ H s) {ys : List V} (qw : SqK k X.K H a xs) (r : SqK k X.K H a ys) : xs = ys := by
  cases k
  · exact I.list_inj qw r
  · exact I.tuple_inj qw r
end
theorem nin2 {x y z : Nat} (h1 : x ≠ y) (h2 : x ≠ z) : x ∉ [y, z] := by simp [h1, h2]
def Itz2 (k1 k2 : Bool) (K : PySem.W.Frag) (a b : Addr) : It :=
  ⟨fun i H => ∃ (xs ys : List V) (x y : V), SqK k1 K H a xs ∧ SqK k2 K H b ys ∧ xs[i]? = some x ∧ ys[i]? = some y,
    fun i H v H' => ∃ T x y, v = .ref T ∧ H T = none ∧ H' = upd H T (.tup [x, y]) ∧ (∀ xs, SqK k1 K H a xs → xs[i]? = some x) ∧ ∀ ys, SqK k2 K H b ys → ys[i]? = some y,
    fun i H => ∃ xs ys : List V, SqK k1 K H a xs ∧ SqK k2 K H b ys ∧ i ≤ xs.length ∧ i ≤ ys.length ∧ (i = xs.length ∨ i = ys.length)⟩
theorem turn_z2 {P : Program} {w : World} {K : PySem.W.Frag} {elts : List Expr} {kk : Nat} {tpos : Pos} {k1 k2 : Bool} {a b n : Nat} (ha : a < n) (hb : b < n) :
    Turn P w K (.Tuple elts kk tpos) (Itz2 k1 k2 K a b) [n + 4, n + 2, n + 3, n, n + 1] (n + 4) (fun i h => IsZip h (n + 4) (n + 2) (n + 3) .none ∧ IsTupOf2 h (n + 2) (.ref n) (.ref (n + 1)) ∧ (∃ x y, IsTupOf2 h (n + 3) x y) ∧ ItK k1 h n a i ∧ ItK k2 h (n + 1) b i) := by
  have sep : ZipSep2 (n + 4) (n + 2) (n + 3) n (n + 1) [n, a] [n + 1, b] := by
    refine ⟨?_, ?_, ?_, ?_, ?_, ?_, ?_, ?_, ?_, ?_, ?_, ?_, ?_⟩ <;> first | (simp; done) | omega | (show @Ne Nat _ _; omega) | exact nin2 (by omega) (by omega)
  refine ⟨by simp, ?_, ?_, ?_, ?_, fun A i s Q E st h => wpAny_pyIter_zip st.1 h⟩
  · intro i h st c hc
    obtain ⟨hzp, hti, ⟨x, y, hto⟩, h1, h2⟩ := st
    have ee : c = n + 4 ∨ c = n + 2 ∨ c = n + 3 ∨ c = n ∨ c = n + 1 := by simpa using hc
    rcases ee with qw | qw | qw | qw | qw
    · rw [qw]; exact ⟨_, hzp, fun v qw => nomatch qw⟩
    · rw [qw]; exact ⟨_, hti, fun v qw => nomatch qw⟩
    · rw [qw]; exact ⟨_, hto, fun v qw => nomatch qw⟩
    · rw [qw]; exact h1.obj
    · rw [qw]; exact h2.obj
  · intro i h h' st k
    obtain ⟨hzp, hti, ⟨x, y, hto⟩, h1, h2⟩ := st
    exact ⟨k _ (by simp) _ hzp, k _ (by simp) _ hti, ⟨x, y, k _ (by simp) _ hto⟩, h1.keep fun o qw => k _ (by simp) o qw, h2.keep fun o qw => k _ (by simp) o qw⟩
  · intro X hP hw hK hc i pins s σ H E I hf st hg
    subst hP hw hK
    obtain ⟨hzp, hti, ⟨x0, y0, hto⟩, h1, h2⟩ := st
    obtain ⟨xs, ys, x, y, qqx, qqy, hx, hy⟩ := hg
    obtain ⟨its, rv, p, _⟩ := Inv.sqK I qqx
    obtain ⟨its2, rv2, p2, _⟩ := Inv.sqK I qqy
    obtain ⟨u, hgu, rlu⟩ := rv.get hx
    obtain ⟨u2, hgu2, rlu2⟩ := rv2.get hy
    have hzl : n + 4 < s.heap.objs.size := Heap.lt_size hzp
    have hh : X.A.in1.handled = none := I.ok.hd hc
    have il : i < its.toArray.size := by
      have := (List.getElem?_eq_some_iff.mp hgu).1
      simpa using this
    have il2 : i < its2.toArray.size := by
      have := (List.getElem?_eq_some_iff.mp hgu2).1
      simpa using this
    refine wpAny_pyNext_zipD2_item sep (drawsK hh k1 n a (by first | omega | (show @Ne Nat _ _; omega)) its.toArray) (drawsK hh k2 (n + 1) b (by first | omega | (show @Ne Nat _ _; omega)) its2.toArray) hzp hti hto ⟨h1, p⟩ ⟨h2, p2⟩ il il2 fun x1 x2 h' tk px1 px2 z' TO' s1' s2' hT hsz hk => ?_
    have e1 : x1 = u := by
      have z : its[i]? = some x1 := by simpa using px1
      rw [hgu] at z; cases z; rfl
    have e2 : x2 = u2 := by
      have z : its2[i]? = some x2 := by simpa using px2
      rw [hgu2] at z; cases z; rfl
    subst e1 e2
    refine ⟨_, rfl, wpAny_letOwnedTupleGo_zip (s := { s with heap := h', toks := tk }) z' fun h'' z'' sb => ?_⟩
    have hT2 : h''.get? s.heap.objs.size = some { cls := .type "tuple", data := .seq #[x1, x2] } := (sb.2 _ (Nat.ne_of_gt hzl)).trans hT
    have newO : ObjOk X.prog X.w (upd H s.heap.objs.size (.tup [x, y])) h'' s.heap.objs.size (.tup [x, y]) :=
      ⟨by show 2 ≤ sizeLine; decide, [x1, x2], .cons rlu (.cons rlu2 .nil), ⟨_, hT2, rfl, _, rfl⟩⟩
    have I1 : Inv X pins σ (upd H s.heap.objs.size (.tup [x, y])) { s with heap := h'', toks := tk } :=
      I.turnedNew (t' := tk) (ch := [n + 4, n + 2, n + 3, n, n + 1]) (fun c o hb qw => (sb.2 c (fun qq => hb (by simp [qq]))).trans (hk c o (fun qq => hb (by simp [qq])) (fun qq => hb (by simp [qq])) (fun qq => hb (by simp [qq])) (fun qq => hb (by simp [qq])) qw)) hf (Nat.le_refl _) newO
    refine ⟨.ref s.heap.objs.size, _, I1, rfl, ⟨_, x, y, rfl, I.hok.fresh (Nat.le_refl _), rfl, fun l hl => by rw [Inv.sqK_inj I hl qqx]; exact hx, fun l hl => by rw [Inv.sqK_inj I hl qqy]; exact hy⟩, ⟨z'', ?_, ⟨x1, x2, ?_⟩, ?_, ?_⟩, fun c hcm => ?_⟩
    · exact (sb.2 _ (by first | omega | (show @Ne Nat _ _; omega))).trans (hk _ _ (by first | omega | (show @Ne Nat _ _; omega)) (by first | omega | (show @Ne Nat _ _; omega)) (by first | omega | (show @Ne Nat _ _; omega)) (by first | omega | (show @Ne Nat _ _; omega)) hti)
    · exact (sb.2 _ (by first | omega | (show @Ne Nat _ _; omega))).trans TO'
    · exact s1'.1.keep fun o qw => (sb.2 _ (by first | omega | (show @Ne Nat _ _; omega))).trans qw
    · exact s2'.1.keep fun o qw => (sb.2 _ (by first | omega | (show @Ne Nat _ _; omega))).trans qw
    · have hltc : c < s.heap.objs.size := by
        have ee : @Eq Nat c (n + 4) ∨ @Eq Nat c (n + 2) ∨ @Eq Nat c (n + 3) ∨ @Eq Nat c n ∨ @Eq Nat c (n + 1) := by simpa using hcm
        have hzl' : @LT.lt Nat _ (n + 4) s.heap.objs.size := hzl
        show @LT.lt Nat _ c s.heap.objs.size
        omega
      rw [upd_ne (Nat.ne_of_lt hltc)]
      exact (hf c hcm).1
  · intro X hP hw hK hc i pins s σ H E I hf st hg
    subst hP hw hK
    obtain ⟨hzp, hti, ⟨x0, y0, hto⟩, h1, h2⟩ := st
    obtain ⟨xs, ys, qqx, qqy, i1, i2, hend⟩ := hg
    obtain ⟨its, rv, p, _⟩ := Inv.sqK I qqx
    obtain ⟨its2, rv2, p2, _⟩ := Inv.sqK I qqy
    have l1 := rv.length
    have l2 := rv2.length
    have hh : X.A.in1.handled = none := I.ok.hd hc
    exact wpAny_pyNext_zipD2_end sep (drawsK hh k1 n a (by first | omega | (show @Ne Nat _ _; omega)) its.toArray) (drawsK hh k2 (n + 1) b (by first | omega | (show @Ne Nat _ _; omega)) its2.toArray) hzp hti hto ⟨h1, p⟩ ⟨h2, p2⟩ (by simp; omega) (by simp; omega) (by simp; omega) fun h' tk hk => ⟨rfl, I.turnedL (t' := tk) (ch := [n + 4, n + 2, n + 3, n, n + 1]) (fun c o hb qw =>
      hk c o (fun qq => hb (by simp [qq])) (fun qq => hb (by simp [qq])) (fun qq => hb (by simp [qq])) (fun qq => hb (by simp [qq])) qw) hf⟩
end AH
namespace AH
open PySem PySem.Spec PyProof.Rows L2
variable [TheK]
/-! ### zip in a for or a comprehension -/
def seqD : D → Option (List D)
  | .lst xs => some xs
  | .tup xs => some xs
  | _ => none
def iZip2 (a b : DE) : DI := a.bind fun x => b.bind fun y => match seqD x, seqD y with
  | some xs, some ys => M.pure (pairs xs ys)
  | _, _ => fun _ => .bad
section
variable {X : Cx} {Wx : WX} {a b c : Expr} {ma mb mc : DE} {p pos : Pos}
theorem fresh_of {pins : List (Addr × Obj)} {σ : L2.St} {H : Hp} {s : Shared} (I : Inv X pins σ H s) {n : Nat} (hn : n = s.heap.objs.size) (k : Nat) : FpOk X pins H (n + k) := by
  subst hn
  exact I.fpOk (Nat.le_add_right _ _) (I.hok.fresh (Nat.le_add_right _ _))
def tiZ2 (K : PySem.W.Frag) (ta : TA) : TI := fun σ H R => ta σ H fun vs H1 => ∃ (k1 k2 : Bool) (a b : Addr) (xs ys : List V), vs = [.ref a, .ref b] ∧ SqK k1 K H1 a xs ∧ SqK k2 K H1 b ys ∧ R (Itz2 k1 k2 K a b) H1
theorem pi_z2 {e ex2 : Expr} {ta : TA} {tpos : Pos} {elts : List Expr} {kk : Nat} (hg : Gl X "zip") (hm : X.mg "zip" = none) (ha : PA X [e, ex2] ta)
    (hs : starEach [e, ex2] X.env = (false, eval e X.env) :: starEach [ex2] X.env := by rfl) (hpl : (backTo pos (starEach [ex2] X.env)).any (·.1) = false := by rfl) :
    PI X (.Tuple elts kk tpos) (.Call (.Name "zip" p) [e, ex2] [] pos) (tiZ2 X.K ta) := by
  refine ⟨fun pins s σ H R I h => Call_ (ld_blt I hg hm PyProof.Rows.boot_zip (PyProof.Rows.callWith_type1 (thn (ha.run pos pins s σ H _ I h) fun us s1 ⟨vs, H1, I1, r1, q1⟩ => ?_) hs hpl))⟩
  obtain ⟨k1, k2, a, b, xs, ys, ex, hqx, hqy, q⟩ := q1
  subst ex
  cases r1 with
  | cons r rr =>
    cases rr with
    | cons r' rr =>
      cases rr
      cases r
      cases r'
      obtain ⟨its, rv, p1, l1⟩ := Inv.sqK I1 hqx
      obtain ⟨its2, rv2, p2, l2⟩ := Inv.sqK I1 hqy
      refine zip_begins2 (beginsK k1 a its.toArray) (beginsK k2 b its2.toArray) p1 p2 fun h' hz hti hto h1 h2 hsz hk => wpAny_pyIter_zip hz ?_
      have I9 : Inv X pins σ H1 { s1 with heap := h' } := I1.kept (t' := s1.toks) hk
      refine ⟨s1.heap.objs.size + 4, [s1.heap.objs.size + 4, s1.heap.objs.size + 2, s1.heap.objs.size + 3, s1.heap.objs.size, s1.heap.objs.size + 1], _, _, H1, rfl, I9, turn_z2 l1 l2, ⟨hz, hti, ⟨_, _, hto⟩, itK0 h1, itK0 h2⟩, fun c hcm => ?_, q⟩
      have e' : c = s1.heap.objs.size + 4 ∨ c = s1.heap.objs.size + 2 ∨ c = s1.heap.objs.size + 3 ∨ c = s1.heap.objs.size + 0 ∨ c = s1.heap.objs.size + 1 := by simpa using hcm
      rcases e' with z | z | z | z | z <;> (rw [z]; exact fresh_of I1 rfl _)
theorem Rep.sqK {F : Fm} {O : Nat → Option Addr} {H : Hp} {v : V} {d : D} {xs : List D} {K : PySem.W.Frag} (r : Rep (Ow F O) H v d) (h : seqD d = some xs) : ∃ (k : Bool) (a : Addr) (vs : List V), v = .ref a ∧ RepL (Ow F O) H vs xs ∧ ∀ H', Ke (Ow F O) H H' → SqK k K H' a vs := by
  cases r with
  | lst n hh l => cases h; exact ⟨false, _, _, rfl, l, fun H' k => .inl (.inl (k.stay _ _ n hh))⟩
  | tup n hh l => cases h; exact ⟨true, _, _, rfl, l, fun H' k => .inl (.inl (k.stay _ _ n hh))⟩
  | _ => cases h
theorem id_zip2 {elts : List Expr} {kk : Nat} {tpos : Pos} (hb : Bn X "zip" (.type "zip")) (ha : PD .s X Wx a ma) (hb' : PD .s X Wx b mb)
    (hs : starEach [a, b] X.env = (false, eval a X.env) :: starEach [b] X.env := by rfl) (hs2 : starEach [b] X.env = (false, eval b X.env) :: starEach [] X.env := by rfl) (hpl : (backTo pos (starEach [b] X.env)).any (·.1) = false := by rfl) :
    ID X Wx (.Tuple elts kk tpos) (.Call (.Name "zip" p) [a, b] [] pos) (iZip2 ma mb) := by
  obtain ⟨ta, pa, qa⟩ := ha
  obtain ⟨tb, pb, qb⟩ := hb'
  refine ⟨_, pi_z2 hb.gl hb.mg (pa_cons pa (pa_cons pb pa_nil hs2) hs) hs hpl, fun F O env σ H R S w => ?_⟩
  refine qa F O env σ H _ S (w.bind.imp (fun dx e1 w1 x H1 S1 k1 p1 => ?_) fun _ _ _ z => z)
  refine qb F O e1 σ H1 _ S1 (w1.bind.imp (fun dy ex2 w2 y H2 S2 k2 p2 => ?_) (XW.later k1))
  have p1' := Rep.mj k2 p1
  cases q1 : seqD dx with
  | none => rw [q1] at w2; exact w2.elim
  | some xs =>
    cases q2 : seqD dy with
    | none => rw [q1, q2] at w2; exact w2.elim
    | some ys =>
      rw [q1, q2] at w2
      obtain ⟨ka, aa, va, rfl, la, sa⟩ := p1'.sqK (K := X.K) q1
      obtain ⟨kb, ab, vb, rfl, lb, sb⟩ := Rep.sqK (K := X.K) p2 q2
      have zn : (pairs xs ys).length = min va.length vb.length := by unfold pairs; rw [List.length_map, List.length_zip, la.len, lb.len]
      refine ⟨ka, kb, aa, ab, va, vb, rfl, sa H2 .refl, sb H2 .refl, w2 _ H2 S2 (k1.trans k2) ⟨fun i H3 k3 hi => ?_, fun H3 k3 => ?_, fun i H3 v H' d W' k3 g al hd yy => ?_⟩⟩
      · rw [zn] at hi
        have h1 : i < va.length := by omega
        have h2 : i < vb.length := by omega
        exact ⟨va, vb, va[i], vb[i], sa H3 k3.wo, sb H3 k3.wo, by simp [h1], by simp [h2]⟩
      · rw [zn]
        exact ⟨va, vb, sa H3 k3.wo, sb H3 k3.wo, by omega, by omega, by omega⟩
      · obtain ⟨T, x, y, rfl, hT, rfl, hx, hy⟩ := yy
        obtain ⟨ex, ey, g1, g2, rfl⟩ := pairs_get hd
        have hx := hx va (sa H3 k3.wo)
        have hy := hy vb (sb H3 k3.wo)
        obtain ⟨v1, e1, r1⟩ := la.get g1
        obtain ⟨v2, ex2, r2⟩ := lb.get g2
        rw [hx] at e1; cases e1
        rw [hy] at ex2; cases ex2
        have st : ∀ a o, H3 a = some o → upd H3 T (.tup [x, y]) a = some o := new_ext hT
        refine ⟨st, .tup (fun z => (al T z).1 hT) upd_same (.cons ?_ (.cons ?_ .nil))⟩
        · exact (r1.ke k3.wo g).ke (ke_ext st) fun a z => .inl z
        · exact (r2.ke k3.wo g).ke (ke_ext st) fun a z => .inl z
end
end AH
namespace AH
open PySem PySem.Spec PyProof.Rows L2
variable [TheK]
theorem fund_eq {K : PySem.W.Frag} {x qual : Str} {params : Arguments} {body : List Stmt} {scope : Scope} {dvs dvs' : List V} {kws kws' : List (Str × V)} {f : Addr} {fd fd' : FuncData} (a : FunD K x qual params body scope dvs kws f fd) (b : FunD K x qual params body scope dvs' kws' f fd') : fd = fd' := by
  obtain ⟨oc, od, dV, kV, doc, pm, an, cdv, ct, osl, e1, lk, _⟩ := a.ex
  obtain ⟨oc', od', dV', kV', doc', pm', an', cdv', ct', osl', e2, lk', _⟩ := b.ex
  rw [lk] at lk'
  injection lk' with z
  injection z with z1 z2 z3 z4
  injection z3
/-- the end of a law, whatever its defs may let out -/
theorem walk_ofW {l : PySem.W.OpenLaw} {n k : Nat} {q : Program} {loose : List Str} {XP : (Str → Option Value) → Heap → Prop} {YP : World → Heap → Prop} {d : DefRec} {x : Str}
    (hn : l.most = some n) (hn2 : n ≤ sizeLine) (hdf : d.params.defaults = []) (hr : Room k callerA)
    (F : ∀ (w : World) (mg : Str → Option Value) (fa : Addr) (h : Heap), YP w h → h.Ns mainGlobals mg → mg d.name = some (.ref fa) →
      ∃ (K : PySem.W.Frag) (fd : FuncData) (sp : Sp), K.In h ∧ (∀ (s : Shared) (u : Value), BindsTo s fd ⟨[u], []⟩ [(x, u)]) ∧ (∀ (H : Hp) (a : Addr) (ns : List Int), ns.length ≤ n → Only H → SqL K H a (ns.map V.int) → sp [.ref a] H (fun v _ => v = .bl true) fun _ _ _ => False) ∧
        ∀ base : Heap, K.In base → base.Ns mainGlobals mg → FnOk l.prog w K mg base (L2.CX l.prog w) k fa fd [x] sp) : PySem.W.WalkO q loose XP YP l.row.toRowW d [] (fun f vs => PySem.call f vs) := by
  refine Att.attach_call hn hdf fun w s₀ s₁ mg mb fa o pm cd doc a vs ns G Y ho hd hcd hmg hobj hints hlen hg => ?_
  obtain ⟨K, fd, sp, KX, hb, hsp, hF⟩ := F w mg fa _ Y G.T.g hmg
  refine law_call KX G.T.g G.T.b G.T.builtins G.T.nolimit hg hobj hints (Nat.le_trans hlen hn2) hr hF hb (fun H hO hS => hsp H a ns hlen hO hS) fun H e s' c => ?_
  obtain ⟨_, _, _, _, _, _, _, _, _, _, _, _, z⟩ := c
  exact z
end AH
namespace AH
/-- keeps simp from taking an equation as one by definition -/
theorem nr {α : Sort _} {a b : α} (h : a = b) : a = b := h
open PySem L2
variable [TheK]
/-! ### what a run comes to -/
def Run {α : Type} (m : M α) (e : Env) (Q : α → Env → Prop) : Prop := match m e with
  | .ok a e1 => Q a e1
  | _ => False
theorem run_ok {α : Type} {m : M α} {e : Env} {Q : α → Env → Prop} {a : α} {e1 : Env} (h : m e = .ok a e1) (q : Q a e1) : Run m e Q := by
  unfold Run; rw [h]; exact q
theorem Run.of {α : Type} {m : M α} {e : Env} {Q : α → Env → Prop} (h : Run m e Q) : ∃ a e1, m e = .ok a e1 ∧ Q a e1 := by
  unfold Run at h
  cases q : m e with
  | ok a e1 => rw [q] at h; exact ⟨a, e1, rfl, h⟩
  | ex c fs e1 => rw [q] at h; exact h.elim
  | bad => rw [q] at h; exact h.elim
theorem Run.imp {α : Type} {m : M α} {e : Env} {Q Q' : α → Env → Prop} (h : Run m e Q) (q : ∀ a e1, Q a e1 → Q' a e1) : Run m e Q' := by
  obtain ⟨a, e1, h1, h2⟩ := h.of
  exact run_ok h1 (q a e1 h2)
theorem bind_ok {α β : Type} {m : M α} {f : α → M β} {e e1 : Env} {a : α} (h : m e = .ok a e1) : (m.bind f) e = f a e1 := by
  unfold M.bind; rw [h]
/-! ### the words, run -/
section
variable {α β : Type} {e : Env} {i j : Nat} {a b c d : DE} {t u : DT} {x y : D} {xs ys : List D} {m n : DS} {g : DG}
@[simp] theorem x_bind {m : M α} {f : α → M β} : M.bind m f e = (match m e with | .ok a e1 => f a e1 | .ex c fs e1 => .ex c fs e1 | .bad => .bad) := nr rfl
@[simp] theorem x_pure {a : α} : M.pure a e = .ok a e := nr rfl
@[simp] theorem x_of1 {a : α} : M.of (.ok a) e = .ok a e := nr rfl
@[simp] theorem x_of2 : (M.of (.bad : Rv α)) e = .bad := nr rfl
@[simp] theorem x_var : eVar i e = (match sl e i with | .val d => .ok d e | _ => .bad) := nr rfl
@[simp] theorem x_tmp : eTmp i e = (match sl e i with | .val d => .ok d e | .ro d => .ok d e | .own xs => .ok (.lst xs) e | .bor xs => .ok (.lst xs) e | .odc kvs => .ok (.dic kvs) e | .ldc kvs => .ok (.dic kvs) e | .no => .bad) := nr rfl
@[simp] theorem x_c : eC x e = .ok x e := nr rfl
@[simp] theorem x_sl0 {s : Sl} : sl (s :: e) 0 = s := nr rfl
@[simp] theorem x_slS {s : Sl} : sl (s :: e) (i + 1) = sl e i := nr rfl
@[simp] theorem x_put0 {s s' : Sl} : put (s :: e) 0 s' = s' :: e := nr rfl
@[simp] theorem x_putS {s s' : Sl} : put (s :: e) (i + 1) s' = s :: put e i s' := nr rfl
@[simp] theorem x_e2 {f : D → D → Rv D} : e2 f a b e = M.bind a (fun x => M.bind b fun y => M.of (f x y)) e := nr rfl
@[simp] theorem x_e1 {f : D → Rv D} : e1 f a e = M.bind a (fun x => M.of (f x)) e := nr rfl
@[simp] theorem x_e2L {f : D → D → Rv D} : e2L f i b e = M.bind (eTmp i) (fun _ => M.bind b fun y => M.bind (eTmp i) fun x => M.of (f x y)) e := nr rfl
@[simp] theorem x_c2 {f : D → D → Rv Bool} : c2 f a b e = M.bind a (fun x => M.bind b fun y => M.of (f x y)) e := nr rfl
@[simp] theorem x_c2L {f : D → D → Rv Bool} : c2L f i b e = M.bind (eTmp i) (fun _ => M.bind b fun y => M.bind (eTmp i) fun x => M.of (f x y)) e := nr rfl
@[simp] theorem x_eB : eB t e = M.bind t (fun b => M.pure (.bl b)) e := nr rfl
@[simp] theorem x_tV : tV a e = M.bind a (fun x => match x with | .bl b => M.pure b | _ => fun _ => .bad) e := nr rfl
@[simp] theorem x_tNot : tNot t e = M.bind t (fun b => M.pure (!b)) e := nr rfl
@[simp] theorem x_tAnd : AH.tAnd t u e = M.bind t (fun x => if x then u else M.pure false) e := nr rfl
@[simp] theorem x_tOr : AH.tOr t u e = M.bind t (fun x => if x then M.pure true else u) e := nr rfl
@[simp] theorem x_tIsN : tIsN a e = M.bind a (fun x => M.pure (dIsN x)) e := nr rfl
@[simp] theorem x_tNotN : tNotN a e = M.bind a (fun x => M.pure (!dIsN x)) e := nr rfl
@[simp] theorem x_c3 {f g : D → D → Rv Bool} : c3 f g a b c e = M.bind a (fun x => M.bind b fun y => (M.of (f x y)).bind fun k => if k then M.bind c fun z => M.of (g y z) else M.pure false) e := nr rfl
@[simp] theorem x_eIf : eIf t a b e = M.bind t (fun k => if k then a else b) e := nr rfl
@[simp] theorem x_eAnd : eAnd a b e = M.bind (tV a) (fun k => if k then b else M.pure (.bl false)) e := nr rfl
@[simp] theorem x_eNot : eNot a e = M.bind (tV a) (fun k => M.pure (.bl (!k))) e := nr rfl
@[simp] theorem x_eOrT : eOrT a b e = M.bind a (fun x => (M.of (truth x)).bind fun k => if k then M.pure x else b) e := nr rfl
@[simp] theorem x_aNil : aNil e = .ok [] e := nr rfl
@[simp] theorem x_aCons {r : DL} : aCons a r e = M.bind a (fun x => M.bind r fun xs => M.pure (x :: xs)) e := nr rfl
@[simp] theorem x_eTup {r : DL} : eTup r e = M.bind r (fun xs => if lenOk xs.length then M.pure (.tup xs) else fun _ => .bad) e := nr rfl
@[simp] theorem x_eLst {r : DL} : eLst r e = M.bind r (fun xs => if lenOk xs.length then M.pure (.lst xs) else fun _ => .bad) e := nr rfl
@[simp] theorem x_oNone : oNone e = .ok none e := nr rfl
@[simp] theorem x_oSome : oSome a e = M.bind a (fun x => match x with | .int i => M.pure (some i) | _ => fun _ => .bad) e := nr rfl
@[simp] theorem x_eSl {lo hi : DO} : eSl a lo hi e = M.bind a (fun x => M.bind lo fun l => M.bind hi fun h => M.of (dSl x l h)) e := nr rfl
@[simp] theorem x_eSlN {lo hi : DO} : eSlN i lo hi e = M.bind (eTmp i) (fun _ => M.bind lo fun l => M.bind hi fun h => M.bind (eTmp i) fun x => M.of (dSlL x l h)) e := nr rfl
@[simp] theorem x_isi {t : Ty} : eIsi t a e = M.bind a (fun x => if isExc x then (fun _ => .bad) else M.pure (.bl (isi t x))) e := nr rfl
@[simp] theorem x_ex1 : isExc .non = false := nr rfl
@[simp] theorem x_ex2 {k : Bool} : isExc (.bl k) = false := nr rfl
@[simp] theorem x_ex3 {k : Int} : isExc (.int k) = false := nr rfl
@[simp] theorem x_ex4 {k : Str} : isExc (.str k) = false := nr rfl
@[simp] theorem x_ex5 : isExc (.tup xs) = false := nr rfl
@[simp] theorem x_ex6 : isExc (.lst xs) = false := nr rfl
@[simp] theorem x_ex7 {k : Str} : isExc (.obj k) = false := nr rfl
@[simp] theorem x_ex8 {k : List (List Key × D)} : isExc (.dic k) = false := nr rfl
@[simp] theorem x_isi2 {t u : Ty} : eIsi2 t u a e = M.bind a (fun x => if isPy x then M.pure (.bl (isi t x || isi u x)) else fun _ => .bad) e := nr rfl
@[simp] theorem x_py1 : isPy .non = true := nr rfl
@[simp] theorem x_py2 {k : Bool} : isPy (.bl k) = true := nr rfl
@[simp] theorem x_py3 {k : Int} : isPy (.int k) = true := nr rfl
@[simp] theorem x_py4 {k : Str} : isPy (.str k) = true := nr rfl
@[simp] theorem x_py5 : isPy (.tup xs) = true := nr rfl
@[simp] theorem x_py6 : isPy (.lst xs) = true := nr rfl
@[simp] theorem x_iSeq : iSeq a e = M.bind a (fun x => match x with | .lst xs => M.pure xs | .tup xs => M.pure xs | _ => fun _ => .bad) e := nr rfl
@[simp] theorem x_gN : gN i x e = if isOwn (sl e i) then .bad else .ok () (put e i (.val x)) := nr rfl
@[simp] theorem x_gsNil : gsNil [] e = .ok () e := nr rfl
@[simp] theorem x_gsCons {r : DGs} : gsCons g r (x :: xs) e = M.bind (g x) (fun _ => r xs) e := nr rfl
@[simp] theorem x_gT1 {r : DGs} : gT r (.tup xs) e = r xs e := nr rfl
@[simp] theorem x_gT2 {r : DGs} : gT r (.lst xs) e = r xs e := nr rfl
@[simp] theorem x_sNil : sNil e = .ok .nx e := nr rfl
@[simp] theorem x_sSeq : sSeq m n e = (match m e with | .ok .nx e1 => n e1 | .ok o e1 => .ok o e1 | .ex c fs e1 => .ex c fs e1 | .bad => .bad) := by
  unfold sSeq M.bind
  cases m e with
  | ok o e1 => cases o <;> rfl
  | _ => rfl
@[simp] theorem x_sAsg : sAsg a g e = M.bind a (fun x => M.bind (g x) fun _ => M.pure .nx) e := nr rfl
@[simp] theorem x_sAsgN : sAsgN i a e = M.bind a (fun x => fun e => if isFix (sl e i) then .bad else .ok .nx (put e i (.val x))) e := nr rfl
@[simp] theorem x_sOwn : sOwn i a e = M.bind a (fun x => match x with | .lst xs => fun e => if isFix (sl e i) || !decide (i < e.length) then .bad else .ok .nx (put e i (.own xs)) | _ => fun _ => .bad) e := nr rfl
@[simp] theorem x_sRelL : sRelL i e = (match sl e i with | .own xs => .ok .nx (put e i (.val (.lst xs))) | _ => .bad) := nr rfl
@[simp] theorem x_sIf : sIf t m n e = M.bind t (fun k => if k then m else n) e := nr rfl
@[simp] theorem x_sRet : sRet a e = M.bind a (fun x => M.pure (.rt x)) e := nr rfl
@[simp] theorem x_ownL : ownL i e = (match sl e i with | .own xs => .ok xs e | .bor xs => .ok xs e | _ => .bad) := nr rfl
@[simp] theorem x_sApp : sApp i a e = M.bind (ownL i) (fun _ => M.bind a fun x => M.bind (ownL i) fun xs => fun e => if lenOk (xs.length + 1) then .ok .nx (putL e i (xs ++ [x])) else .bad) e := nr rfl
@[simp] theorem x_sSetL : sSetL i a b e = M.bind b (fun x => M.bind (ownL i) fun _ => M.bind a fun k => M.bind (ownL i) fun xs => match k with | .int k => (match ixN xs.length k with | some n => fun e => .ok .nx (putL e i (xs.set n x)) | none => fun _ => .bad) | _ => fun _ => .bad) e := nr rfl
@[simp] theorem x_sFor {it : DI} : sFor it g m e = M.bind it (fun xs => loop g m xs) e := nr rfl
@[simp] theorem x_putL : putL e i ys = put e i (match sl e i with | .own _ => .own ys | .bor _ => .bor ys | s => s) := nr rfl
@[simp] theorem x_isFix1 : isFix .no = false := nr rfl
@[simp] theorem x_isFix2 : isFix (.val x) = false := nr rfl
@[simp] theorem x_isFix3 : isFix (.own xs) = false := nr rfl
@[simp] theorem x_isFix4 : isFix (.ro x) = false := nr rfl
@[simp] theorem x_isOwn1 : isOwn .no = false := nr rfl
@[simp] theorem x_isOwn2 : isOwn (.val x) = false := nr rfl
@[simp] theorem x_isOwn3 : isOwn (.ro x) = false := nr rfl
@[simp] theorem x_yes : tYes e = .ok true e := nr rfl
@[simp] theorem x_isN1 : dIsN .non = true := nr rfl
@[simp] theorem x_ix0 : atI (x :: xs) 0 = some x := by
  unfold atI ixN; simp
@[simp] theorem x_ix1 : atI (x :: y :: xs) 1 = some y := by
  have h : ixN (x :: y :: xs).length 1 = some 1 := by unfold ixN; rw [if_pos (by decide), if_pos (by simp; omega)]; rfl
  unfold atI; rw [h]; rfl
@[simp] theorem x_ix2 {z : D} : atI (x :: y :: z :: xs) 2 = some z := by
  have h : ixN (x :: y :: z :: xs).length 2 = some 2 := by unfold ixN; rw [if_pos (by decide), if_pos (by simp; omega)]; rfl
  unfold atI; rw [h]; rfl
end
/-! ### comprehensions that change nothing -/
theorem back_wipe (e : Env) : ∀ vs : List Nat, back e (wipeE e vs) vs = e := fun vs => by
  apply List.ext_getElem?
  intro j
  have sl_eq : ∀ (a b : Env), a.length = b.length → (∀ j, sl a j = sl b j) → a = b := by
    intro a
    induction a with
    | nil => intro b h _; cases b with
      | nil => rfl
      | cons _ _ => cases h
    | cons x a ih => intro b h hs; cases b with
      | nil => cases h
      | cons y b =>
        have e0 : x = y := hs 0
        rw [e0, ih b (by simpa using h) fun j => hs (j + 1)]
  have l1 : (wipeE e vs).length = e.length := put_len' e vs
  rw [sl_eq (back e (wipeE e vs) vs) e (by rw [back_len, l1]) fun j => by
    rw [sl_back l1.symm, sl_wipe]
    split <;> rfl]
/-! ### calls with plain arguments -/
theorem call_ok {f : DF} {as : List Arg} {e e1 e2 : Env} {xs : List (D ⊕ Nat)} {ds : List D} {d : D} {bs : List (List D)} (h1 : argsV as e = .ok xs e1) (h2 : (lends as).all (fun i => isL (sl e1 i)) = true) (h3 : argsD e1 xs = some ds) (h4 : f ds = .ok d bs) (h5 : giveBack as bs e1 = some e2) : eCall f as e = .ok d e2 := by
  unfold eCall
  simp only [h1, h2, h3, h4, h5, Bool.not_true, Bool.false_eq_true, if_false]
theorem args_e {a : DE} {as : List Arg} {e e1 e2 : Env} {x : D} {xs : List (D ⊕ Nat)} (h : a e = .ok x e1) (hr : argsV as e1 = .ok xs e2) : argsV (.e a :: as) e = .ok (.inl x :: xs) e2 := by
  unfold argsV; rw [bind_ok h, bind_ok hr]; rfl
theorem args_new {a : DE} {as : List Arg} {e e1 e2 : Env} {x : D} {xs : List (D ⊕ Nat)} (h : a e = .ok x e1) (hr : argsV as e1 = .ok xs e2) : argsV (.new a :: as) e = .ok (.inl x :: xs) e2 := by
  unfold argsV; rw [bind_ok h, bind_ok hr]; rfl
theorem args_look {i : Nat} {as : List Arg} {e e2 : Env} {x : D} {xs : List (D ⊕ Nat)} (h : eTmp i e = .ok x e) (hr : argsV as e = .ok xs e2) : argsV (.look i :: as) e = .ok (.inr i :: xs) e2 := by
  unfold argsV; rw [bind_ok h, bind_ok hr]; rfl
theorem call2 {f : DF} {a b : DE} {e e1 e2 : Env} {x y r : D} (ha : a e = .ok x e1) (hb : b e1 = .ok y e2) (hf : f [x, y] = .ok r []) : eCall f [.e a, .e b] e = .ok r e2 := call_ok (args_e ha (args_e hb rfl)) rfl rfl hf rfl
theorem mkF_rt {n : Nat} {ms : List Md} {b : DS} {ds : List D} {d : D} {e : Env} {bs : List (List D)} (h1 : lstsOk ms ds = true) (h2 : b (startE ms ds ++ List.replicate (n - ms.length) .no) = .ok (.rt d) e) (h3 : lentOf ms e = some bs) : mkF n ms b ds = .ok d bs := by
  unfold mkF
  simp only [h1, h2, h3, Bool.not_true, Bool.false_eq_true, if_false]
theorem mkR_rt {n : Nat} {ms : List Md} {b : DS} {ds : List D} {d : D} {e : Env} {bs : List (List D)} (h1 : lstsOk ms ds = true) (h2 : b (startE ms ds ++ List.replicate (n - ms.length) .no) = .ok (.rt d) e) (h3 : lentOf ms e = some bs) : mkR n ms b ds = .ok d bs := by
  unfold mkR
  simp only [h1, h2, h3, Bool.not_true, Bool.false_eq_true, if_false]
/-- the end: the law's promise -/
theorem law_sp {K : PySem.W.Frag} {H : Hp} {a : Addr} {ns : List Int} {N : List Str} {g : DF} (hS : SqL K H a (ns.map V.int)) (hN : 1 ≤ N.length) (hg : g [.lst (ns.map D.int)] = .ok (.bl true) []) :
    spD .s K N [.ro] g [.ref a] H (fun v _ => v = .bl true) fun _ _ _ => False := by
  refine ⟨rfl, [.lst (ns.map D.int)], ⟨fun _ => False, fun _ => False, H, fun _ => none⟩, fun _ => none, ?_, rfl, rfl, ?_⟩
  · refine ⟨fun j => ?_, fun i j a h => by (cases h), fun a z => z.elim False.elim fun ⟨_, z⟩ => by (cases z), fun a o e _ => e, fun a z => z, ?_, fun a z => z.elim, fun a xs z => z.elim⟩
    · cases j with
      | zero =>
        refine ⟨rfl, .ref a, rfl, ?_⟩
        rcases hS with s | s
        · exact .lst (fun z => z.elim (fun ⟨_, z⟩ => by (cases z)) False.elim) s (repL_ints ns)
        · exact .kl (.inr s)
      | succ j =>
        have e1 : sl (startE [.ro] [.lst (ns.map D.int)] ++ List.replicate (N.length - [Md.ro].length) .no) (j + 1) = .no := sl_app_no _ _ _ (by simp [startE])
        rw [e1]
        rfl
    · unfold L2.start
      simp [startE]
  · rw [hg]
    intro v H' _ r
    have r1 : Rep (fun _ => False) H' v (.bl true) := r.1
    cases r1
    rfl
end AH
namespace AH
open PySem PySem.Spec PyProof.Rows L2
variable [TheK]
/-! ### an instance of a class of the text that is made and just looked at -/
def gSl (K : PySem.W.Frag) (to : TE) (f : Str) : TG := fun y σ H Q => to σ H fun x H2 => ∃ a C dx p vs i, x = .ref a ∧ SlX.Slt H2 a C dx vs ∧ SlX.SCls K C ∧ SlX.Slot1 K C f p i ∧ Q σ (SlX.slH H2 a C dx (SlX.putS i y vs))
structure RosF (K : PySem.W.Frag) (C : Addr) : Prop where
  o : ObjF K C
  s1 : ∃ p i, SlX.Slot1 K C "own_open" p i
  s2 : ∃ p i, SlX.Slot1 K C "own_done" p i
  s3 : ∃ p i, SlX.Slot1 K C "own_missed" p i
  s4 : ∃ p i, SlX.Slot1 K C "own_hands" p i
  s5 : ∃ p i, SlX.Slot1 K C "own_now" p i
  s6 : ∃ p i, SlX.Slot1 K C "own_past" p i
def spInit (C : Addr) : Sp := fun vs H Q _ => ∃ x dx n Hb, vs = [.ref x, .int n] ∧ H = upd (upd Hb dx (.own x)) x (.ins C dx []) ∧ Hb x = none ∧ Hb dx = none ∧ dx ≠ x ∧ 1 ≤ n ∧ n ≤ 1000 ∧
  ∀ H' ws, (∀ a o, Hb a = some o → H' a = some o) → H' x = some (SlX.SlO x C dx ws) → H' dx = some (.xd []) → Q .non H'
def Fm.two (Hb : Hp) (x dx : Addr) : Fm := ⟨fun a => a = x ∨ a = dx, fun a => a = x ∨ a = dx, Hb, fun _ => none⟩
/-- the frame of __init__, the instance as far as it is known -/
structure Ini (K : PySem.W.Frag) (Hb : Hp) (x dx C : Addr) (n : Int) (σ : L2.St) (H : Hp) : Prop where
  S : SR K (Fm.two Hb x dx) (fun _ => none) [.no, .val (.int n)] σ H
  sl : ∃ vs, SlX.Slt H x C dx vs
  g : get1 σ 0 = some (.ref x)
theorem Ini.store {K : PySem.W.Frag} {Hb : Hp} {x dx C : Addr} {n : Int} {σ : L2.St} {H : Hp} (I : Ini K Hb x dx C n σ H) (hx : Hb x = none) (hd : Hb dx = none) (ne : dx ≠ x) (vs : List (Option V)) : Ini K Hb x dx C n σ (SlX.slH H x C dx vs) := by
  refine ⟨?_, ⟨vs, SlX.slH_slt ne⟩, I.g⟩
  unfold SlX.slH
  have nj : ∀ a, ¬ Jo (fun _ => none) a := fun a ⟨i, h⟩ => by cases h
  exact SR.updQ (SR.updQ I.S (.inr rfl) (.inr rfl) (nj _) hd) (.inl rfl) (.inl rfl) (nj _) hx
/-- three values to three slots -/
theorem Ini.three {X : Cx} {Hb : Hp} {x dx C : Addr} {n : Int} {σ : L2.St} {H : Hp} {v : V} {a b c : D} {f1 f2 f3 : Str} {Q : L2.St → Hp → Prop} (I : Ini X.K Hb x dx C n σ H) (hx : Hb x = none) (hd : Hb dx = none) (ne : dx ≠ x) (sc : SlX.SCls X.K C)
    (t1 : ∃ p i, SlX.Slot1 X.K C f1 p i) (t2 : ∃ p i, SlX.Slot1 X.K C f2 p i) (t3 : ∃ p i, SlX.Slot1 X.K C f3 p i) (r : Rep (Ow (Fm.two Hb x dx) fun _ => none) H v (.tup [a, b, c]))
    (q : ∀ H', Ini X.K Hb x dx C n σ H' → (∀ f, H' x ≠ some (.ins C dx f)) → Q σ H') : gTup X.K 3 (gCons (gSl X.K (tVar 0) f1) (gCons (gSl X.K (tVar 0) f2) (gCons (gSl X.K (tVar 0) f3) gNil))) v σ H Q := by
  obtain ⟨p1, i1, t1⟩ := t1
  obtain ⟨p2, i2, t2⟩ := t2
  obtain ⟨p3, i3, t3⟩ := t3
  cases r with
  | tup nn hh l =>
    cases l with | cons r1 l => cases l with | cons r2 l => cases l with | cons r3 l =>
      cases l
      rename_i v1 v2 v3
      refine ⟨_, _, rfl, .inl (.inl hh), rfl, _, _, rfl, ?_⟩
      obtain ⟨vs, sl⟩ := I.sl
      refine ⟨_, get1_some I.g, x, C, dx, p1, vs, i1, rfl, sl, sc, t1, _, _, rfl, ?_⟩
      have I1 : ∀ z, Ini X.K Hb x dx C n σ (SlX.slH H x C dx z) := fun z => I.store hx hd ne z
      refine ⟨_, get1_some I.g, x, C, dx, p2, _, i2, rfl, SlX.slH_slt ne, sc, t2, _, _, rfl, ?_⟩
      refine ⟨_, get1_some I.g, x, C, dx, p3, _, i3, rfl, SlX.slH_slt ne, sc, t3, rfl, ?_⟩
      refine q _ (((I1 _).store hx hd ne _).store hx hd ne _) fun f z => ?_
      unfold SlX.slH at z
      rw [upd_same] at z
      cases z
section
variable {X : Cx} {Wx : WX}
end
section
variable {P : Program} {w : World} {K : PySem.W.Frag} {mg : Str → Option Value} {base : Heap} {params : Arguments} {body : List Stmt} {scope : Scope} {f C : Addr} {fd : FuncData}
end
end AH
namespace AH
open PySem PySem.Spec PyProof.Rows L2
section
variable [TheK]
structure RosK (P : Program) (w : World) (K : PySem.W.Frag) (mg : Str → Option Value) (base : Heap) : Prop where
  ex : ∃ f fd, FnOk P w K mg base CX0 1 f fd ["self", "hours"] (spInit (He.ga K "Roster")) ∧ Mk K (He.ga K "Roster") f ∧ Binds K fd ["self", "hours"] []
  mg : mg "Roster" = some (.ref (He.ga K "Roster"))
  o : ObjF K (He.ga K "Roster")
end
/-! ### the head with a further look -/
end AH
namespace AH
open PySem PySem.Spec PyProof.Rows L2
/-! ### what is looked at of exception classes -/
def xvB (K : PySem.W.Frag) (c : Str) : Bool :=
  He.eqO (PySem.W.findIn K (.ref (He.ga K c)) "__getattribute__") (some (some (.builtin "BaseException.__getattribute__"))) && (He.eqO (PySem.W.findIn K (.ref (He.ga K c)) "__getattr__") (some none) &&
  (decide (PySem.W.subIn K (.ref (He.ga K c)) (.type "BaseException") = some true) && (PySem.W.hasDictIn K (He.ga K c) && (He.eqO (PySem.W.findIn K (.ref (He.ga K c)) "__class__") (some (some (.builtin "object.__class__"))) &&
  (He.eqO (PySem.W.specialIn K (.builtin "object.__class__") "__get__") (some (some (.builtin "getset_descriptor.__get__"))) && (decide (PySem.W.takesIn K (.builtin "object.__class__") = some true) && (decide (PySem.W.mroIn K (He.ga K c) (.type "object") = some true) &&
  (decide (PySem.W.kitOne K (.ref (He.ga K c)) (.type "ValueError") = some (isVE c)) && decide (PySem.W.kitOne K (.ref (He.ga K c)) (.type "LookupError") = some (!isVE c))))))))))
theorem xvB_ok {K : PySem.W.Frag} {c : Str} (h : xvB K c = true) : XvF K c := by
  unfold xvB at h
  obtain ⟨h1, h⟩ := He.ba h
  obtain ⟨h2, h⟩ := He.ba h
  obtain ⟨h3, h⟩ := He.ba h
  obtain ⟨h4, h⟩ := He.ba h
  obtain ⟨h5, h⟩ := He.ba h
  obtain ⟨h6, h⟩ := He.ba h
  obtain ⟨h7, h⟩ := He.ba h
  obtain ⟨h8, h⟩ := He.ba h
  obtain ⟨h9, h10⟩ := He.ba h
  exact ⟨⟨He.eqO_ok h1, He.eqO_ok h2, of_decide_eq_true h3, h4, He.eqO_ok h5, He.eqO_ok h6, of_decide_eq_true h7, of_decide_eq_true h8⟩, of_decide_eq_true h9, of_decide_eq_true h10⟩
def xaB (K : PySem.W.Frag) (c : Str) : Bool := xfB K (He.ga K c) && (fieldsOf c).all fun f => He.eqO (PySem.W.findIn K (.ref (He.ga K c)) f) (some none)
theorem xaB_ok {K : PySem.W.Frag} {c : Str} (h : xaB K c = true) : XaF K c := by
  obtain ⟨h1, h2⟩ := He.ba h
  exact ⟨xfB_ok h1, fun f hf => He.eqO_ok (List.all_eq_true.mp h2 f hf)⟩
def xmB (K : PySem.W.Frag) (xs : List Str) (c : Str) : Bool := xs.all fun c' => decide (PySem.W.exmOne K (.ref (He.ga K c')) (.ref (He.ga K c)) = some (decide (c' = c)))
theorem xmB_ok {K : PySem.W.Frag} {xs : List Str} {c : Str} (h : xmB K xs c = true) : ∀ c' ∈ xs, PySem.W.exmOne K (.ref (He.ga K c')) (.ref (He.ga K c)) = some (decide (c' = c)) := fun c' hc => of_decide_eq_true (List.all_eq_true.mp h c' hc)
def xcB (K : PySem.W.Frag) (c : Str) : Bool := PySem.W.excIn K (He.ga K c) PySem.HandSPX.veTail "ValueError.__new__" && (PySem.W.keepIn K (.ref (He.ga K c)) && (decide (PySem.W.subIn K (.ref (He.ga K c)) (.type "BaseException") = some true) && decide (PySem.W.typeIn K (.ref (He.ga K c)) = some (.type "type"))))
theorem xcB_ok {K : PySem.W.Frag} {mg : Str → Option Value} {c : Str} (g : mg c = some (.ref (He.ga K c))) (h : xcB K c = true) : XcF K mg c := by
  obtain ⟨h1, h⟩ := He.ba h
  obtain ⟨h2, h⟩ := He.ba h
  obtain ⟨h3, h4⟩ := He.ba h
  exact ⟨h1, g, h2, of_decide_eq_true h3, of_decide_eq_true h4⟩
def clsAt : Stmt → Nat → Stmt
  | .ClassDef (body := b) .., i => b.getD i (.Pass ⟨0, 0, 0, 0⟩)
  | s, _ => s
end AH
namespace AH
open PySem PySem.Spec PyProof.Rows L2
/-! ### own exceptions with fields: the class over a built-in base -/
structure XB (B newId initId : String) (bmB : List Value) : Prop where
  eb : ExcBaseFacts B newId initId bmB
  sf : StoreFacts B bmB "object.__setattr__" "object"
  kx : PySem.W.KxsFacts B initId
  al : ∀ K : PySem.W.Frag, PySem.W.alongIn K "__init__" bmB = some (some (.builtin initId))
abbrev vT : List Value := [.type "ValueError", .type "Exception", .type "BaseException", .type "object"]
abbrev lT : List Value := [.type "LookupError", .type "Exception", .type "BaseException", .type "object"]
theorem xb_V : XB "ValueError" "ValueError.__new__" "ValueError.__init__" vT := ⟨F.excBase_ValueError, F.store_ValueError, PySem.W.kxs_ValueError, fun K => by kernel_rfl⟩
/-- what the text's heap says of such a class; fI its __init__ -/
structure XK1 (K : PySem.W.Frag) (C : Addr) (bmB : List Value) (newId : String) : Prop where
  q : PySem.W.excInitIn K C bmB newId = true
  ov : PySem.W.excOver K C bmB = true
  hd : PySem.W.hasDictIn K C = true
  sa : PySem.W.findIn K (.ref C) "__setattr__" = some (some (.builtin "object.__setattr__"))
  exC : PySem.W.subIn K (.ref C) (.type "BaseException") = some true
  tyC : PySem.W.typeIn K (.ref C) = some (.type "type")
  kC : PySem.W.keepIn K (.ref C) = true
section
variable {prog : Program} {w : World} {A : Around} {E : Value → Shared → Prop} {R : Result → Shared → Prop} {hp : Heap} {g : Array GenState} {d : Drawn} {t : Nat} {os : OsState}
variable {B newId initId : String} {bmB : List Value} {K : PySem.W.Frag} {C x t1 : Addr} {name : Str} {tk : Tok} {v : Value}
/-- the first field -/
theorem xsa_new (XF : XB B newId initId bmB) (T : XK1 K C bmB newId) (X : K.In hp) (hx : hp.get? x = some (PySem.W.excObj C t1 none .none)) (ht : PySem.W.takerIn K C name = some none)
    (hq : ∀ h' tk' dx, (∀ b o, b ≠ x → hp.get? b = some o → h'.get? b = some o) → hp.objs.size ≤ dx → dx ≠ x → h'.get? x = some (PySem.W.excObj C t1 (some dx) .none) →
      h'.Ns1 dx (fun y => if y = name then some v else none) → R (.ok (.ret .none)) ⟨h', g, d, tk', os⟩) :
    codeAny (model prog w) A (.call (.builtin "object.__setattr__") ⟨[.ref x, .str name tk, v], []⟩) R ⟨hp, g, d, t, os⟩ := by
  have lx : x < hp.objs.size := Heap.lt_size hx
  obtain ⟨cd, hc, hd'⟩ := PySem.W.any_some T.hd
  refine PySem.W.osa_openX (od := none) XF.sf X ⟨hx, rfl, rfl, trivial⟩ T.ov ht fun b => ?_
  refine wpAny_bind (wpAny_pure (wpAny_bind (PySem.W.instanceDict_exc hx (PySem.W.looks_clsIn X hc) hd' ?_)))
  show wpAny _ _ (Builtin.ObjectAttr.storeInDict hp.objs.size (.str name tk) name v) _ _ _
  have hx1 : (hp.push (PySem.W.dictOf [] 0)).get? x = some (PySem.W.excObj C t1 none .none) := Heap.get?_push_of_some _ hx
  refine PySem.HandSPX.store_in_new ⟨_, #[], _, (Heap.get?_update_ne _ _ _ _ (Nat.ne_of_gt lx)).trans (Heap.get?_push_at rfl rfl), rfl, fun e he => absurd he (by simp), fun _ => rfl⟩ fun h' tk' hn' hs => ?_
  refine hq h' tk' hp.objs.size (fun b o hb ho => ?_) (Nat.le_refl _) (Nat.ne_of_gt lx) ?_ hn'
  · exact (hs.2 b (Nat.ne_of_lt (Heap.lt_size ho))).trans ((Heap.get?_update_ne _ _ _ _ hb).trans (Heap.get?_push_of_some _ ho))
  · exact (hs.2 x (Nat.ne_of_lt lx)).trans (Heap.get?_update_self _ hx1 rfl)
/-- a further field -/
theorem xsa_old {dx : Addr} {m0 : Str → Option Value} {nl : List Str} (XF : XB B newId initId bmB) (T : XK1 K C bmB newId) (X : K.In hp) (hx : hp.get? x = some (PySem.W.excObj C t1 (some dx) .none)) (hns : hp.Ns1 dx m0) (hw : Within m0 nl) (hz : nl.length ≤ 1000) (ht : PySem.W.takerIn K C name = some none)
    (hq : ∀ h' tk', (∀ b o, b ≠ dx → hp.get? b = some o → h'.get? b = some o) → h'.Ns1 dx (fun y => if y = name then some v else m0 y) → R (.ok (.ret .none)) ⟨h', g, d, tk', os⟩) :
    codeAny (model prog w) A (.call (.builtin "object.__setattr__") ⟨[.ref x, .str name tk, v], []⟩) R ⟨hp, g, d, t, os⟩ := by
  obtain ⟨oD, _, _, hoD, _, _⟩ := hns.count hw
  obtain ⟨cd, hc, hd'⟩ := PySem.W.any_some T.hd
  refine PySem.W.osa_openX (od := some oD) XF.sf X ⟨hx, rfl, rfl, hoD⟩ T.ov ht fun b => ?_
  refine wpAny_bind (wpAny_pure (wpAny_bind (wpAny_bind (wpAny_loadPart hx (wpAny_bind ((PySem.W.looks_clsIn X hc).here ?_))))))
  rw [hd']
  refine wpAny_pure (a := some dx) ?_
  exact PySem.OEX.store_in_old hns hw hz fun h' tk' hn' hs => hq h' tk' (fun b o hb ho => (hs.2 b hb).trans ho) hn'
end
section
variable {X : Cx} {pins : List (Addr × Obj)} {σ : L2.St} {H : Hp} {s : Shared} {a C dx : Addr} {f : Str} {y : V} {u : Value} {fs : List (Str × V)} {Q : Unit → Shared → Prop} {E : Value → Shared → Prop} {A : Around}
variable {B newId initId : String} {bmB : List Value}
theorem xst_new (XF : XB B newId initId bmB) (T : XK1 X.K C bmB newId) (I : Inv X pins σ H s) (e : H a = some (exo a C none)) (hno : PySem.W.takerIn X.K C f = some none) (ry : RelV y u)
    (h : ∀ dx s', H dx = none → dx ≠ a → Inv X pins σ (upd (upd H dx (exd dx [(f, y)])) a (exo a C (some dx))) s' → Q () s') : wpAny (model X.prog X.w) A (setAttr (.ref a) f u) Q E s := by
  obtain ⟨t1, ho⟩ := exo_at I.hok e
  obtain ⟨hp, g, d, t, os⟩ := s
  refine PySem.W.set_plain I.kIn (od := none) ⟨ho, rfl, rfl, trivial⟩ T.sa (xsa_new XF T I.kIn ho hno fun h' tk' dx k dn dne hx hn => ?_)
  have hnd : H dx = none := I.hok.fresh dn
  have nd : ∀ {b : Addr} {o : Obj}, hp.get? b = some o → b ≠ dx := fun {b o} q => Nat.ne_of_lt (Nat.lt_of_lt_of_le (Heap.lt_size q) dn)
  have na : ∀ {b : Addr}, H b = none → b ≠ a := fun {b} n z => by
    rw [z, e] at n
    cases n
  have Un1 : Un X.fs [] H (upd (upd H dx (exd dx [(f, y)])) a (exo a C (some dx))) hp h' := {
    keep := fun b o q n _ _ => k b o (na n) q
    slot := fun b o q n _ _ => ⟨o.slots, k b o (na n) q⟩
    free := fun b o q n _ => by rw [upd_ne (na n), upd_ne (nd q)]; exact n
    there := fun b o q _ => by
      by_cases hb : b = a
      · exact ⟨_, by rw [hb]; exact hx⟩
      · exact ⟨o, k b o hb q⟩
    tups := fun b xs q => by rw [upd_ne (at_ne e q exo_tup), upd_ne (ne_of_none q hnd)]; exact q
    frzs := fun b o v q => by rw [upd_ne (at_ne e q exo_frz), upd_ne (ne_of_none q hnd)]; exact q
    tbls := fun b ps q => ⟨#[], by rw [upd_ne (at_ne e q exo_tbl), upd_ne (ne_of_none q hnd), q]; simp⟩ }
  refine h dx _ hnd dne (I.un (t' := tk') Un1 fun b o q => ?_)
  by_cases hb : b = a
  · subst hb
    rw [upd_same] at q
    cases q
    exact exo_ok hx
  · rw [upd_ne hb] at q
    by_cases hd : b = dx
    · subst hd
      rw [upd_same] at q
      cases q
      exact exd_ok hn (relO_put (fs := []) ry fun g => True.intro)
    · rw [upd_ne hd] at q
      exact (I.hok b o q).stay (fun c v hc z => k c v (by
          rcases hc with hc | hc
          · rw [hc]
            exact hb
          · exact at_ne e hc exo_own) z)
        (fun c hc => by rw [upd_ne (at_ne e hc exo_own), upd_ne (ne_of_none hc hnd)]; exact hc) (fun c xs hc => by rw [upd_ne (at_ne e hc exo_tup), upd_ne (ne_of_none hc hnd)]; exact hc)
theorem xst_old (XF : XB B newId initId bmB) (T : XK1 X.K C bmB newId) (I : Inv X pins σ H s) (e : H a = some (exo a C (some dx))) (ed : H dx = some (exd dx fs)) (hl : fs.length ≤ 900) (hno : PySem.W.takerIn X.K C f = some none) (ry : RelV y u)
    (h : ∀ s', Inv X pins σ (upd H dx (exd dx ((f, y) :: fs))) s' → Q () s') : wpAny (model X.prog X.w) A (setAttr (.ref a) f u) Q E s := by
  obtain ⟨t1, ho⟩ := exo_at I.hok e
  obtain ⟨mA, hns, rel⟩ := exd_at I.hok ed
  have hw := within_of rel
  obtain ⟨hp, g, d, t, os⟩ := s
  obtain ⟨oD, _, _, hoD, _, _⟩ := hns.count hw
  refine PySem.W.set_plain I.kIn (od := some oD) ⟨ho, rfl, rfl, hoD⟩ T.sa (xsa_old XF T I.kIn ho hns hw (by rw [List.length_map]; omega) hno fun h' tk' k hn => ?_)
  have hd : ∃ o, h'.get? dx = some o := by
    obtain ⟨o, _, _, e', _⟩ := hn
    exact ⟨o, e'⟩
  exact h _ (I.write (t' := tk') (x := dx) (e := dx) (o := exd dx ((f, y) :: fs)) (by rw [ed]; exact True.intro) (.inl rfl) k hd (exd_ok hn (relO_put ry rel)))
/-- the bound built-in __init__ is called -/
theorem xinit_run {u0 : Addr} {us : List Value} {Q : Value → Shared → Prop} (XF : XB B newId initId bmB) (T : XK1 X.K C bmB newId) (I : Inv X pins σ H s) (e : H a = some (exo a C none)) (hu : s.heap.get? u0 = some (PySem.W.kxs_mw initId a)) (hl : us.length ≤ sizeLine) (h : ∀ s', Inv X pins σ H s' → Q .none s') :
    wpAny (model X.prog X.w) A (call (.ref u0) us) Q E s := by
  obtain ⟨nm, N', qn, bs, bm, hdct, sn, sub, ab, col, dd, k0, k1, k2, k3, k5, hC, hT⟩ := PySem.W.excInit_of I.kIn T.q
  obtain ⟨t1, ho⟩ := exo_at I.hok e
  obtain ⟨hp, g, d, t, os⟩ := s
  refine wpAny_call (codeAny_of_tree ?_)
  show wpAny _ A.in1 (callAny (.ref u0) ⟨us, []⟩) _ _ _
  simp only [callAny]
  refine wpAny_bind (wpAny_load hu ?_)
  simp only [PySem.W.kxs_mw, show (Value.type "method-wrapper" == Value.type "method" || Value.type "method-wrapper" == Value.type "builtin_function_or_method" || Value.type "method-wrapper" == Value.type "method-wrapper") = true by decide, if_true]
  refine PySem.W.KFB.if_so (by decide) ?_
  refine wpAny_bind (PySem.W.check_bound_init XF.eb.toExcCallFacts hC ho rfl ?_)
  refine wpAny_bind (wpAny_pure (wpAny_pure ?_))
  refine ⟨PySem.plainId_quiet XF.eb.init.plain _, codeAny_builtin XF.eb.initEntry ?_⟩
  refine PySem.W.exc_init_tree (cls := .ref C) (t0 := t1) (dv := none) (c2 := .none) (c3 := .none) (b4 := .bool false) ho hl fun h' k e' t' => ?_
  have J := I.write (t' := t) (x := a) (e := a) (o := exo a C none) (by rw [e]; exact True.intro) (.inl rfl) k ⟨_, e'⟩ (exo_ok e')
  have eu : upd H a (exo a C none) = H := by
    funext b
    by_cases hb : b = a
    · rw [hb, upd_same, e]
    · rw [upd_ne hb]
  rw [eu] at J
  exact h _ J
end
end AH
namespace AH
open PySem PySem.Spec PyProof.Rows L2
/-! ### an own __init__ that says super().__init__(..) -/
/-- what stands in the text of it: f the __init__, cc the cell of __class__, cda its code -/
structure XIn (P : Program) (K : PySem.W.Frag) (mg : Str → Option Value) (C : Addr) (qual : Str) (params : Arguments) (body : List Stmt) (scope : Scope) (f : Addr) (fd : FuncData) : Prop where
  ex : ∃ (oc : Value) (od : Option Addr) (dV kV doc pm : Value) (an : Option Addr) (cda cc : Addr) (ct : Value) (osl : Array (Option Value)) (ccl : Value) (cdd : Option Addr) (vs : Array Value) (ccs : Array (Option Value)) (file : Str) (tf : Tok) (cl : Value) (cld : Option Addr) (csl : Array (Option Value)),
    dV = .none ∧ fd = PySem.W.ksFn "__init__" qual params body scope dV kV doc pm an (.ref cda) ct cc ∧ K.lookup f = some ⟨oc, od, .func fd, osl⟩ ∧ PySem.W.codeIn K (.ref cda) qual = true ∧
    K.lookup cda = some ⟨ccl, cdd, .fields vs, ccs⟩ ∧ vs[2]? = some (.str file tf) ∧ ((P.main.file : Str) == file) = true ∧ K.lookup cc = some ⟨cl, cld, .cell (some (.ref C)), csl⟩
  top : (P.main.scope.names.lookup ("super" : Str)).isSome = false
  fr : mg "super" = none
/-- .. of its class -/
structure XSu (K : PySem.W.Frag) (C : Addr) (B initId : String) : Prop where
  op : PySem.W.nsIn K cStatics "thirdparty.any" = some none
  su : PySem.W.ks_superIn K C C "__init__" = some (some (.builtin initId))
  sb : PySem.W.subIn K (.ref C) (.type B) = some true
  me : PySem.W.mroIn K C (.ref C) = some true
  cl : ∃ cd, PySem.W.clsIn K C = some cd
/-- its names -/
structure XSc (ps : List Str) (sc : Scope) : Prop where
  kind : sc.kind = .function
  co : sc.isCoroutine = false
  gen : sc.isGenerator = false
  nd : ps.Nodup
  par : ∀ x ∈ ps, sc.names.lookup x = some .local
  su : sc.names.lookup ("super" : Str) = some .globalImplicit
  cl : sc.names.lookup ("__class__" : Str) = some .free
  nc : ∀ x ∈ sc.names, x.2 ≠ .cell
  fre : ∀ x : Str, sc.names.lookup x = some .free → x = "__class__"
theorem zip_look {x : Str} {u : Value} : ∀ {ps : List Str} {us : List Value} {i : Nat}, ps.Nodup → ps[i]? = some x → us[i]? = some u → ((ps.zip us).reverse).lookup x = some u
  | [], _, _, _, h, _ => by simp at h
  | _ :: _, [], _, _, _, h => by simp at h
  | p :: ps, w :: us, 0, nd, h1, h2 => by
    simp at h1 h2
    subst h1 h2
    have nn : ((ps.zip us).reverse).lookup p = none := by
      rw [List.lookup_eq_none_iff]
      intro q hq
      have hq := (List.of_mem_zip (List.mem_reverse.mp hq)).1
      have : p ≠ q.1 := fun z => (List.nodup_cons.mp nd).1 (z ▸ hq)
      simpa using this
    rw [List.zip_cons_cons, List.reverse_cons, List.lookup_append, nn]
    simp
  | p :: ps, w :: us, i + 1, nd, h1, h2 => by
    have ih := zip_look (ps := ps) (us := us) (i := i) (List.nodup_cons.mp nd).2 (by simpa using h1) (by simpa using h2)
    rw [List.zip_cons_cons, List.reverse_cons, List.lookup_append, ih]
    rfl
def cxX (CX : CXT) (P : Program) (w : World) (K : PySem.W.Frag) (mg : Str → Option Value) (base : Heap) (N : List Str) (qual : Str) (scope : Scope) (f cda cc : Addr) (A : Around) (outer : List PySem.Env) (s : Shared) (H : Hp) (E : XK) : Cx where
  prog := P
  w := w
  K := K
  mg := mg
  base := base
  A := A.deeper (PySem.W.ksEnv qual scope s.heap.objs.size f (.ref cda) cc)
  N := N
  s_0 := s
  H_0 := H
  env := PySem.W.ksEnv qual scope s.heap.objs.size f (.ref cda) cc
  outer := outer
  stack := PySem.W.ksEnv qual scope s.heap.objs.size f (.ref cda) cc :: outer
  ex := []
  calm := true
  fn := fun _ => false
  pn := []
  xe := fun e s' => wpAny (model P w) (A.deeper (PySem.W.ksEnv qual scope s.heap.objs.size f (.ref cda) cc)) (leaving (PySem.W.ksEnv qual scope s.heap.objs.size f (.ref cda) cc) e) (fun _ s'' => CX outer H s E e s'') (fun e' s'' => CX outer H s E e' s'') s'
theorem inv_startX {CX : CXT} {P : Program} {w : World} {K : PySem.W.Frag} {mg : Str → Option Value} {base : Heap} {ps : List Str} {qual : Str} {scope : Scope} {f cda cc : Addr} {A : Around} {outer : List PySem.Env} {s : Shared} {h1 : Heap} {tk : Nat} {H : Hp} {E : XK} {us : List Value} {vs : List V} {cl : Value} {cld : Option Addr} {csl : Array (Option Value)} {C : Addr}
    (S : XSc ps scope) (hd : A.handled = none) (e0 : Env0 P w K mg base A outer s H) (hl : vs.length = ps.length) (r : Vals vs us) (hcc : K.lookup cc = some ⟨cl, cld, .cell (some (.ref C)), csl⟩)
    (hns : h1.Ns s.heap.objs.size (fun x => (ps.zip us).reverse.lookup x)) (hk : ∀ b o, s.heap.get? b = some o → h1.get? b = some o) :
    Inv (cxX CX P w K mg base ps qual scope f cda cc A outer s H E) [] (L2.start ps vs) H { s with heap := h1, toks := tk } := by
  have noA : ∀ b : Addr, b ∉ (cxX CX P w K mg base ps qual scope f cda cc A outer s H E).ex := fun b z => absurd (show b ∈ ([] : List Addr) from z) (by simp)
  have KB := e0.mod.kin
  have hcb := KB _ _ hcc
  have cel : ∀ (x : Str) (c : Addr), (PySem.W.ksEnv qual scope s.heap.objs.size f (.ref cda) cc).cells.lookup x = some c → x = "__class__" ∧ c = cc := fun x c h => by
    have h : ([("__class__", cc)] : List (Str × Addr)).lookup x = some c := h
    simp only [List.lookup] at h
    split at h
    · rename_i q
      exact ⟨by simpa using q, (Option.some.inj h).symm⟩
    · cases h
  refine ⟨⟨e0.mod, S.kind, rfl, rfl, Nat.le_refl _, fun y z c h1 h2 => ?_, fun y hy => ?_, fun y c z _ => (by cases z), fun _ => hd, Around.frames_deeper e0.frames, .inr ⟨rfl, rfl⟩, fun b z => absurd z (noA b), e0.bs, e0.bsz, fun b _ _ => noA b, fun b z => absurd z (noA b), e0.funs, e0.frf⟩,
    rfl, e0.bare, Un.kept hk, ⟨_, hns, fun i y v h1 h2 h3 => ?_⟩, fun y c h => ?_, e0.hok.fresh (Nat.le_refl _), fun y c h => ?_, fun p hp => absurd (show p ∈ ([] : List (Addr × Obj)) from hp) (by simp), e0.hok.kept hk, ?_⟩
  · exact (cel y c h1).1.trans (cel z c h2).1.symm
  · have hy : scope.names.lookup y = some .cell ∨ scope.names.lookup y = some .free := hy
    rcases hy with hy | hy
    · exact absurd rfl (S.nc _ (PySem.mem_of_lookup hy))
    · obtain rfl := S.fre y hy
      exact ⟨cc, rfl⟩
  · have hN : ps[i]? = some y := h1
    have ha : vs[i]? = some v := by
      unfold L2.start at h2
      have hi : i < vs.length := by
        obtain ⟨q, _⟩ := List.getElem?_eq_some_iff.mp hN
        omega
      rw [List.getElem?_append_left (by simpa using hi), List.getElem?_map] at h2
      cases e : vs[i]? with
      | none => rw [e] at h2; cases h2
      | some a => rw [e] at h2; cases h2; rfl
    obtain ⟨u, hu, rv⟩ := r.get ha
    exact ⟨u, rv, .inl ⟨S.par y (List.mem_of_getElem? hN), zip_look S.nd hN hu⟩⟩
  · obtain ⟨_, rfl⟩ := cel y c h
    exact ⟨_, _, hk _ _ (e0.bs _ _ hcb).1, rfl⟩
  · obtain ⟨_, rfl⟩ := cel y c h
    exact (e0.bs _ _ hcb).2
  · unfold L2.start
    show _ = ps.length
    rw [List.length_append, List.length_map, List.length_replicate]
    omega
section
variable {X : Cx} {pins : List (Addr × Obj)} {σ : L2.St} {H : Hp} {s : Shared} {B newId initId : String} {bmB : List Value} {C a : Addr} {qual : Str} {scope : Scope} {L f cda cc : Addr} {params : Arguments} {ps : List Str}
/-- super().__init__(..) -/
theorem sup_run {all : List Stmt} {e : Expr} {es : List Expr} {ta : TA} {p0 p1 p2 p3 p4 : Pos} {fd : FuncData} {ar : PySem.Arg} {oc ccl cl : Value} {od cdd cld : Option Addr} {osl ccs csl : Array (Option Value)} {vs : Array Value} {file : Str} {tf : Tok} {pl : Sem Bool} {Q : L2.St → Hp → Prop} (XF : XB B newId initId bmB) (T : XK1 X.K C bmB newId) (U : XSu X.K C B initId) (hf : X.K.lookup f = some ⟨oc, od, .func fd, osl⟩) (hp : (fd.params.posonlyargs ++ fd.params.args).head? = some ar) (har : ar.arg = "self")
    (hcode : X.K.lookup cda = some ⟨ccl, cdd, .fields vs, ccs⟩) (hvs : vs[2]? = some (.str file tf)) (hfile : ((X.prog.main.file : Str) == file) = true) (hcell : X.K.lookup cc = some ⟨cl, cld, .cell (some (.ref C)), csl⟩) (htop : (X.prog.main.scope.names.lookup ("super" : Str)).isSome = false) (hfr : X.mg "super" = none)
    (S : XSc ps scope) (hX : X.env = PySem.W.ksEnv qual scope L f (.ref cda) cc) (hN : X.N = ps) (h0 : ps[0]? = some ("self" : Str)) (I : Inv X pins σ H s) (hσ : σ[0]? = some (some (.ref a))) (ea : H a = some (exo a C none)) (ha : PA X (e :: es) ta)
    (h : ta σ H fun vs H1 => vs.length ≤ 1000 ∧ H1 a = some (exo a C none) ∧ Q σ H1)
    (he : starEach (e :: es) X.env = (false, eval e X.env) :: starEach es X.env := by rfl) (hpl : (backTo p3 (starEach es X.env)).any (·.1) = false := by rfl) 
    (hm : eval (.Call (.Attribute (.Call (.Name "super" p0) [] [] p1) "__init__" p2) (e :: es) [] p3) X.env = (do
      let ov ← attributeBase (.Call (.Name "super" p0) [] [] p1) "__init__" X.env (eval (.Call (.Name "super" p0) [] [] p1) X.env)
      standAt p2.atName
      let (f, first) ← holding [ov] (getMethod ov "__init__" pl)
      callWith p3 f first (backTo p3 (starEach (e :: es) X.env)) []) := by rfl) (hi : interactive X.env = false := by rfl) (hs : swapsWith (.Call (.Attribute (.Call (.Name "super" p0) [] [] p1) "__init__" p2) (e :: es) [] p3) none p4.line X.env = pure false := by rfl) :
    PySem.wpAt (model X.prog X.w) X.A (.func all X.env) (exec (.Expr (.Call (.Attribute (.Call (.Name "super" p0) [] [] p1) "__init__" p2) (e :: es) [] p3) p4) X.env) (fun fl s' => fl = .next ∧ ∃ H1, Inv X pins σ H1 s' ∧ H1 a = some (exo a C none) ∧ Q σ H1) X.xe s := by
  refine PySem.ks_wpAt_Expr_any (PySem.ks_wpAt_MethodCall ?_ hm) hi hs
  have X0 : X.K.In s.heap := I.kIn
  obtain ⟨m, hns, hl⟩ := I.loc
  obtain ⟨u, ru, lk⟩ := hl 0 "self" (.ref a) (by rw [hN]; exact h0) hσ (by rw [hX]; exact .inl (S.par _ (List.mem_of_getElem? h0)))
  obtain rfl : u = .ref a := ru
  have hm0 : m "self" = some (.ref a) := by
    rcases lk with ⟨_, q⟩ | ⟨q, _⟩
    · exact q
    · rw [hX] at q
      have q : scope.names.lookup ("self" : Str) = some .cell ∨ scope.names.lookup ("self" : Str) = some .free := q
      rw [S.par _ (List.mem_of_getElem? h0)] at q
      rcases q with q | q <;> cases q
  obtain ⟨cd, hcd⟩ := U.cl
  obtain ⟨oD, hD1, hD2⟩ : ∃ oD, s.heap.get? C = some oD ∧ oD.data = .cls cd := by
    unfold PySem.W.clsIn at hcd
    split at hcd
    · rename_i c d cd' sl ho
      cases hcd
      exact ⟨_, X0 _ _ ho, rfl⟩
    · cases hcd
  obtain ⟨t1, ho⟩ := exo_at I.hok ea
  have II : PySem.W.InstAt s.heap a _ C none := ⟨ho, rfl, rfl, trivial⟩
  have k1 : X.env.kindOf "super" = some .globalImplicit := by rw [hX]; exact S.su
  have k2 : X.env.kindOf "__class__" = some .free := by rw [hX]; exact S.cl
  have k3 : X.env.kindOf "self" = some .local := by rw [hX]; exact S.par _ (List.mem_of_getElem? h0)
  obtain ⟨mb, b1, b2⟩ := I.mod.blt
  refine PySem.ks_wpAt_super_base (env := X.env) k1 k2 (by decide) (by rw [hX]) (X0 _ _ hf) rfl hp (by rw [hX]) (X0 _ _ hcode) rfl hvs hfile htop ?_
  refine PySem.W.ks_loadName_global I.ok.kind k1 (Calls.loadGlobal_builtin (by rw [I.ok.glob]; exact I.mod.glob.keeps I.bk) hfr (by rw [I.ok.blt]; exact b1.keeps I.bk) ((b2 "super" (by decide)).trans (show bootBuiltins "super" = some (.type "super") by decide +kernel)) ⟨rfl, ?_⟩)
  refine wpAny_loadName_free I.ok.kind k2 (by rw [hX]; rfl) ⟨_, X0 _ _ hcell, rfl⟩ ?_
  rw [har]
  refine wpAny_loadName_local I.ok.kind k3 hns hm0 ?_
  refine PySem.ks_wpAny_isType_cls hD1 hD2 ⟨rfl, ?_⟩
  obtain ⟨hh, gs, dr, tk, os⟩ := s
  refine PySem.ks_wpAny_call_super hD1 hD2 ho rfl (fun c e => by cases e) (PySem.W.looks_mroIn X0 U.me) fun h1 e1 kp1 => ?_
  have I1 : Inv X pins σ H ⟨h1, gs, dr, tk, os⟩ := I.kept (t' := tk) kp1
  have X1 : X.K.In h1 := I1.kIn
  have II1 : PySem.W.InstAt h1 a _ C none := ⟨kp1 _ _ ho, rfl, rfl, trivial⟩
  have hsu := U.su
  unfold PySem.W.ks_superIn at hsu
  rw [hcd] at hsu
  refine PySem.W.kxs_getMethod XF.kx e1 (PySem.W.looks_opaque X1 U.op) (l₀ := cd.mro) ((PySem.W.looks_clsIn X1 hcd).andThen .now) rfl X1 hsu (II1.type.andThen (PySem.W.looks_subIn X1 U.sb)) (PySem.W.ks_ne X1 II1 hcd) (by decide) ?_
  have kp2 : ∀ b o, h1.get? b = some o → (h1.push (PySem.W.kxs_mw initId a)).get? b = some o := fun b o z => Heap.get?_push_of_some _ z
  have I2 : Inv X pins σ H ⟨h1.push (PySem.W.kxs_mw initId a), gs, dr, tk + 1, os⟩ := I1.kept (t' := tk + 1) kp2
  have hu : (h1.push (PySem.W.kxs_mw initId a)).get? h1.objs.size = some (PySem.W.kxs_mw initId a) := Heap.get?_push_at rfl rfl
  have I3 : Inv X ((h1.objs.size, PySem.W.kxs_mw initId a) :: pins) σ H ⟨h1.push (PySem.W.kxs_mw initId a), gs, dr, tk + 1, os⟩ := I2.pins_of fun p hp => by
    rcases List.mem_cons.mp hp with rfl | hp
    · exact ⟨hu, I1.hok.fresh (Nat.le_refl _), Nat.ne_of_gt I1.lt, I1.nofs (Nat.le_refl _), fun v z => by cases z⟩
    · exact I2.pin p (List.mem_append_right _ hp)
  refine PySem.W.kxs_callWith1 (i := initId) (x := a) (h₀ := hh) (L := h1.objs.size + 1) (news := [(h1.objs.size, PySem.W.kxs_mw initId a)]) (fun p hp => ?_) List.mem_cons_self ?_ he hpl
  · obtain rfl := List.mem_singleton.mp hp
    refine ⟨hu, Nat.ne_of_lt (Nat.lt_succ_self _), ?_⟩
    cases z : hh.get? h1.objs.size with
    | none => rfl
    | some o => exact absurd (Heap.lt_size (kp1 _ _ z)) (Nat.lt_irrefl _)
  refine thn (ha.run p3 _ _ σ H _ I3 h) fun us s4 ⟨vs4, H4, I4, r4, hz, e4, q⟩ => ?_
  have hu4 := (I4.pin (h1.objs.size, PySem.W.kxs_mw initId a) (List.mem_append_right _ List.mem_cons_self)).1
  refine ⟨hu4, xinit_run XF T I4 e4 hu4 (by rw [← Paired.length r4, sizeLine_eq]; omega) fun s5 I5 => ⟨rfl, H4, I5.pins_of fun p hp => I5.pin p (List.mem_append_right _ (List.mem_cons_of_mem _ hp)), e4, q⟩⟩
end
/-! ### such an __init__ as a def -/
section
variable {P : Program} {w : World} {K : PySem.W.Frag} {mg : Str → Option Value} {base : Heap} {B newId initId : String} {bmB : List Value} {C f : Addr} {qual : Str} {params : Arguments} {scope : Scope} {fd : FuncData} {ps : List Str}
def spXi (C : Addr) (n : Nat) (Z : List V → Hp → VK → Prop) : Sp := fun vs H Q _ => vs.length = n ∧ ∃ a ws, vs = .ref a :: ws ∧ H a = some (exo a C none) ∧ Z vs H Q
theorem fn_xi {CX : CXT} {e : Expr} {es : List Expr} {rest : List Stmt} {p0 p1 p2 p3 p4 : Pos} {pl : PySem.Env → Sem Bool} {ar : PySem.Arg} {Z : List V → Hp → VK → Prop} (XF : XB B newId initId bmB) (T : XK1 K C bmB newId) (U : XSu K C B initId) (S : XSc ps scope)
    (F : XIn P K mg C qual params (.Expr (.Call (.Attribute (.Call (.Name "super" p0) [] [] p1) "__init__" p2) (e :: es) [] p3) p4 :: rest) scope f fd) (hp : (params.posonlyargs ++ params.args).head? = some ar) (har : ar.arg = "self") (h0 : ps[0]? = some ("self" : Str))
    (hbody : ∀ (cda cc : Addr) (A : Around) (outer : List PySem.Env) (s : Shared) (H : Hp) (E : XK), ∃ ta t, PA (cxX CX P w K mg base ps qual scope f cda cc A outer s H E) (e :: es) ta ∧ PSs (cxX CX P w K mg base ps qual scope f cda cc A outer s H E) rest t ∧
      ∀ vs H0 Q a, vs.length = ps.length → vs[0]? = some (.ref a) → H0 a = some (exo a C none) → Z vs H0 Q → ta (L2.start ps vs) H0 fun us H1 => us.length ≤ 1000 ∧ H1 a = some (exo a C none) ∧ t { nx := fun _ H' => Q .non H', rt := Q } (L2.start ps vs) H1)
    (he : ∀ env, starEach (e :: es) env = (false, eval e env) :: starEach es env := by intro _; rfl) (hpl : ∀ env, (backTo p3 (starEach es env)).any (·.1) = false := by intro _; rfl)
    (hm : ∀ env, eval (.Call (.Attribute (.Call (.Name "super" p0) [] [] p1) "__init__" p2) (e :: es) [] p3) env = (do
      let ov ← attributeBase (.Call (.Name "super" p0) [] [] p1) "__init__" env (eval (.Call (.Name "super" p0) [] [] p1) env)
      standAt p2.atName
      let (f, first) ← holding [ov] (getMethod ov "__init__" (pl env))
      callWith p3 f first (backTo p3 (starEach (e :: es) env)) []) := by intro _; rfl) :
    FnOk P w K mg base CX 1 f fd ps (spXi C ps.length Z) := by
  refine ⟨fun vs H Q E q => q.1, fun A outer s H args us vs Q E hr e0 hb r hsp => ?_⟩
  obtain ⟨hl, a, ws, ev, ea, hz⟩ := hsp
  obtain ⟨oc, od, dV, kV, doc, pm, an, cda, cc, ct, osl, ccl, cdd, vs2, ccs, file, tf, cl, cld, csl, _, rfl, lk, hcd, lcd, hvs, hfile, lcc⟩ := F.ex
  have KX : K.In s.heap := e0.mod.kin.keeps fun b o e => (e0.bs b o e).1
  have lim : s.heap.NoLimit := e0.mod.nolimit.keeps fun b o e => (e0.bs b o e).1
  obtain ⟨ta, t, pa, pt, hq⟩ := hbody cda cc A outer s H E
  refine PySem.ks_codeAny_call_defAt hr.depth (KX _ _ lk) rfl lim (PySem.W.codeRec_of KX hcd) rfl hb S.nc (fun x hx => S.par _ (List.of_mem_zip hx).1) (fun h1 hns hk => ?_) S.co S.gen S.kind
  have I : Inv (cxX CX P w K mg base ps qual scope f cda cc A outer s H E) [] (L2.start ps vs) H { s with heap := h1, toks := s.toks + (ps.zip us).length } := inv_startX S hr.hd e0 hl r lcc hns hk
  have hσ : (L2.start ps vs)[0]? = some (some (.ref a)) := by rw [ev]; rfl
  refine PySem.ks_wpAt_execs_cons (PySem.ks_wpAt_mono (sup_run (X := cxX CX P w K mg base ps qual scope f cda cc A outer s H E) (Q := fun σ H1 => t { nx := fun _ H' => Q .non H', rt := Q } σ H1) XF T U lk hp har lcd hvs hfile lcc F.top F.fr S rfl rfl h0 I hσ ea pa ?_ (he _) (hpl _) (hm _) (hi := by unfold interactive; rw [show (cxX CX P w K mg base ps qual scope f cda cc A outer s H E).env.scope.kind = .function from S.kind]; rfl)) (fun fl s' hh => ?_) fun _ _ z => z)
  · exact hq vs H Q a hl (by rw [ev]; rfl) ea hz
  · obtain ⟨rfl, H1, I1, e1, q1⟩ := hh
    refine PySem.wpAt_of_wpAny (wpAny_mono (pt.run [] s' (L2.start ps vs) H1 _ I1 q1) (fun fl s2 hs => ?_) fun e s' hs => hs)
    have fin : ∀ {σ' : L2.St} {H' : Hp} {v : V} {u : Value}, Inv (cxX CX P w K mg base ps qual scope f cda cc A outer s H E) [] σ' H' s2 → RelV v u → Q v H' → CE outer P w H s Q u s2 :=
      fun {σ' H' v u} J rv q => ⟨v, H', J.os, J.bare, J.base, J.hok, rv, q⟩
    cases fl with
    | ret u =>
      obtain ⟨v, σ', H', J, rv, q⟩ := hs
      exact fin J rv q
    | next =>
      obtain ⟨σ', H', J, q⟩ := hs
      exact fin (v := V.non) (u := Value.none) J rfl q
    | brk =>
      obtain ⟨_, _, _, q⟩ := hs
      exact False.elim q
    | cont =>
      obtain ⟨_, _, _, q⟩ := hs
      exact False.elim q
end
end AH
namespace AH
open PySem PySem.Spec PyProof.Rows L2
/-! ### self.f = .. of an exception that is being made, as a target -/
def gXs (C : Addr) (to : TE) (f : Str) : TG := fun y σ H Q => to σ H fun x H2 => ∃ a : Addr, x = .ref a ∧
  ((H2 a = some (exo a C none) ∧ ∀ dx, H2 dx = none → dx ≠ a → Q σ (upd (upd H2 dx (exd dx [(f, y)])) a (exo a C (some dx)))) ∨
    ∃ (dx : Addr) (fs : List (Str × V)), H2 a = some (exo a C (some dx)) ∧ H2 dx = some (exd dx fs) ∧ fs.length ≤ 900 ∧ Q σ (upd H2 dx (exd dx ((f, y) :: fs))))
section
variable {X : Cx} {B newId initId : String} {bmB : List Value} {C : Addr}
theorem pg_xs {o : Expr} {to : TE} {f : Str} {pos : Pos} (XF : XB B newId initId bmB) (T : XK1 X.K C bmB newId) (hno : PySem.W.takerIn X.K C f = some none) (ho : PE X o to)
    (ha : ∀ v, assign (.Attribute o f pos) X.env v = (do
      let ov ← holding [v] (eval o X.env)
      standAt pos.atName
      holding [v, ov] (setAttr ov f v)
      release [v, ov] []) := by intro _; rfl) : PG X (.Attribute o f pos) (gXs C to f) := by
  refine ⟨fun pins s σ H v u Q I r h => ?_⟩
  rw [ha]
  refine wpAny_bind (wpAny_holding (thn (ho.run pins s σ H _ I h) fun ov s1 ⟨x, H1, I1, r1, a, ex, q⟩ => ?_))
  subst ex
  obtain rfl : ov = Value.ref a := r1
  refine wpAny_bind (wpAny_standAt (wpAny_bind (wpAny_holding ?_)))
  rcases q with ⟨ea, q⟩ | ⟨dx, fs, ea, ed, hl, q⟩
  · exact xst_new XF T I1 ea hno r fun dx s3 n ne J => wpAny_release ⟨σ, _, J, q dx n ne⟩
  · exact xst_old XF T I1 ea ed hl hno r fun s3 J => wpAny_release ⟨σ, _, J, q⟩
end
/-- what the maker of an exception promises: the given values in the fields -/
def ZX (C : Addr) (fsN : List Str) : List V → Hp → VK → Prop := fun vs H Q => ∃ a ws, vs = .ref a :: ws ∧ ∀ H' dx, (∀ b o, b ≠ a → H b = some o → H' b = some o) → H dx = none → dx ≠ a → H' a = some (exo a C (some dx)) → H' dx = some (exd dx (fsN.zip ws)) → Q .non H'
section
variable {P : Program} {w : World} {K : PySem.W.Frag} {mg : Str → Option Value} {base : Heap} {B newId initId : String} {bmB : List Value} {C f : Addr} {qual : Str} {params : Arguments} {scope : Scope} {fd : FuncData}
def xiBody1 (a : Str) (p0 p1 p2 p3 p4 q1 q2 q3 q4 q5 : Pos) : List Stmt := [
  .Expr (.Call (.Attribute (.Call (.Name "super" p0) [] [] p1) "__init__" p2) [.Name a q1] [] p3) p4,
  .Assign [.Attribute (.Name "self" q2) a q3] (.Name a q4) q5]
/-- one field -/
theorem fn_xi1 {CX : CXT} {a : Str} {p0 p1 p2 p3 p4 q1 q2 q3 q4 q5 : Pos} {ar : PySem.Arg} {body : List Stmt} {pl : PySem.Env → Sem Bool} (XF : XB B newId initId bmB) (T : XK1 K C bmB newId) (U : XSu K C B initId) (S : XSc ["self", a] scope)
    (F : XIn P K mg C qual params body scope f fd) (hb : body = xiBody1 a p0 p1 p2 p3 p4 q1 q2 q3 q4 q5) (hp : (params.posonlyargs ++ params.args).head? = some ar) (har : ar.arg = "self")
    (hm : ∀ env, eval (.Call (.Attribute (.Call (.Name "super" p0) [] [] p1) "__init__" p2) [.Name a q1] [] p3) env = (do
      let ov ← attributeBase (.Call (.Name "super" p0) [] [] p1) "__init__" env (eval (.Call (.Name "super" p0) [] [] p1) env)
      standAt p2.atName
      let (f, first) ← holding [ov] (getMethod ov "__init__" (pl env))
      callWith p3 f first (backTo p3 (starEach [.Name a q1] env)) []))
    (n1 : PySem.W.takerIn K C a = some none) (hda : (a == ("__debug__" : Str)) = false) (hca : (a == ("__classdict__" : Str)) = false) :
    FnOk P w K mg base CX 1 f fd ["self", a] (spXi C 2 (ZX C [a])) := by
  subst hb
  have v0 : Vis scope "self" := .inl (S.par _ (by simp))
  have v1 : Vis scope a := .inl (S.par _ (by simp))
  refine fn_xi XF T U S F hp har rfl (fun cda cc A outer s H E => ?_) (hm := hm)
  refine ⟨_, _, pa_cons (pe_var (i := 1) rfl v1 hda hca) pa_nil, pss_one (ps_asg (pe_var (i := 1) rfl v1 hda hca) (pg_xs XF T n1 (pe_var (i := 0) rfl v0 rfl rfl))), ?_⟩
  intro vs H0 Q x hl ev ex hz
  obtain ⟨a', ws, rfl, hz⟩ := hz
  obtain rfl : x = a' := by cases ev; rfl
  match ws, hl with
  | [y1], _ =>
    refine ⟨y1, rfl, Nat.le_of_ble_eq_true rfl, ex, y1, rfl, .ref x, rfl, x, rfl, .inl ⟨ex, fun dx hd ne => ?_⟩⟩
    show Q _ _
    refine hz _ dx (fun b' o hb ho => ?_) hd ne upd_same (by rw [upd_ne ne, upd_same]; rfl)
    have nd : b' ≠ dx := fun z => by
      rw [z, hd] at ho
      cases ho
    rw [upd_ne hb, upd_ne nd]
    exact ho
end
end AH
namespace AH
open PySem PySem.Spec PyProof.Rows L2
/-! ### C(e, ..) of such a class -/
def tMkX (C : Addr) (fsN : List Str) (ta : TA) : L2.St → Hp → L2.XK → Prop := fun σ H Q => ta σ H fun vs H1 => (vs.length = fsN.length ∧ vs.length ≤ 1000) ∧ ∀ H' d, (∀ b o, H1 b = some o → H' b = some o) → H1 d = none → H' d = some (.xd (fsN.zip vs)) → Q (.ref C) (some d) H'
section
variable {X : Cx} {B newId initId : String} {bmB : List Value} {C fI : Addr} {fd : FuncData} {ps fsN : List Str} {e : Expr} {es : List Expr} {ta : TA} {c : Str} {p pos : Pos}
theorem pmk_x (XF : XB B newId initId bmB) (T : XK1 X.K C bmB newId) (iC : PySem.W.findIn X.K (.ref C) "__init__" = some (some (.ref fI))) (tI : PySem.W.typeIn X.K (.ref fI) = some (.type "function"))
    (F1 : FnOk X.prog X.w X.K X.mg X.base CX0 1 fI fd ps (spXi C (fsN.length + 1) (ZX C fsN))) (hr : Room 2 X.A) (hb : Binds X.K fd ps []) (hg : Gl X c) (hm : X.mg c = some (.ref C)) (ha : PA X (e :: es) ta)
    (hdb : (c == ("__debug__" : Str)) = false := by decide) (he : starEach (e :: es) X.env = (false, eval e X.env) :: starEach es X.env := by rfl) (hpl : (backTo pos (starEach es X.env)).any (·.1) = false := by rfl) :
    PMk X (.Call (.Name c p) (e :: es) [] pos) (tMkX C fsN ta) := by
  intro pins s σ H Q I h
  refine wpAny_Call_Name_kw (ld_glob I hg hm ?_ hdb)
  refine PySem.W.callWith_K (h₀ := X.base) I.ok.mod.kin T.kC (thn (ha.run pos pins s σ H _ I h) fun us s1 ⟨vs, H1, I1, r1, ⟨hz1, hz⟩, q1⟩ => ⟨I1.kIn, ?_⟩) he hpl
  show wpAny _ _ (call (.ref C) us) _ _ _
  obtain ⟨nm, N', qn, bs, bm, hdct, sn, sub, ab, col, dd, k0, k1, k2, k3, k5, hC, hT⟩ := PySem.W.excInit_of I1.kIn T.q
  obtain ⟨hp, g, dr, tk, os⟩ := s1
  have hsz : hp.objs.size ≤ hp.objs.size + 1 := Nat.le_succ _
  have hn : H1 (hp.objs.size + 1) = none := I1.hok.fresh hsz
  have kk : ∀ b o, hp.get? b = some o → ((hp.push (PySem.W.kdv_tup us)).push (PySem.HandSPX.excO C hp.objs.size)).get? b = some o := fun b o e => Heap.get?_push_of_some _ (Heap.get?_push_of_some _ e)
  have hget : ((hp.push (PySem.W.kdv_tup us)).push (PySem.HandSPX.excO C hp.objs.size)).get? (hp.objs.size + 1) = some (PySem.HandSPX.excO C hp.objs.size) := by heap_get
  have I2 : Inv X pins σ (upd H1 (hp.objs.size + 1) (exo (hp.objs.size + 1) C none)) ⟨(hp.push (PySem.W.kdv_tup us)).push (PySem.HandSPX.excO C hp.objs.size), g, dr, tk, os⟩ :=
    I1.laid (t' := tk) (a := hp.objs.size + 1) (o := exo (hp.objs.size + 1) C none) (h' := (hp.push (PySem.W.kdv_tup us)).push (PySem.HandSPX.excO C hp.objs.size)) kk hsz (exo_ok hget)
  have r2 : Vals (V.ref (hp.objs.size + 1) :: (vs ++ [])) (Value.ref (hp.objs.size + 1) :: us ++ []) := .cons rfl (r1.append .nil)
  have hq : spXi C (fsN.length + 1) (ZX C fsN) (V.ref (hp.objs.size + 1) :: (vs ++ [])) (upd H1 (hp.objs.size + 1) (exo (hp.objs.size + 1) C none))
      (fun v H2 => v = .non ∧ ∃ (d : Addr) (fs : List (Str × V)), H2 (hp.objs.size + 1) = some (exo (hp.objs.size + 1) C (some d)) ∧ H2 d = some (exd d fs) ∧ H1 d = none ∧ Q (.ref C) (some d) (upd (del H2 (hp.objs.size + 1)) d (.xd fs))) (fun _ _ _ => False) := by
    rw [List.append_nil]
    refine ⟨by rw [List.length_cons, hz1], _, _, rfl, upd_same, _, _, rfl, fun H' dx k hd ne ea ed => ⟨rfl, dx, _, ea, ed, by rw [upd_ne ne] at hd; exact hd, ?_⟩⟩
    have hd1 : H1 dx = none := by rw [upd_ne ne] at hd; exact hd
    refine q1 _ dx (fun b o ho => ?_) hd1 upd_same
    have b1 : b ≠ hp.objs.size + 1 := ne_of_none ho hn
    rw [upd_ne (ne_of_none ho hd1), del_ne b1]
    exact k b o b1 (by rw [upd_ne b1]; exact ho)
  have hl : (Value.ref (hp.objs.size + 1) :: us ++ []).length = ps.length := by
    have e := r2.length
    rw [F1.len _ _ _ _ hq] at e
    exact e.symm
  have hus : us.length ≤ sizeLine := by
    rw [← Paired.length r1, sizeLine_eq]
    omega
  refine wpAny_call (PySem.HandSPX.call_own XF.eb hT hC (PySem.W.looks_findIn I1.kIn iC) (fun self => PySem.W.bind_fn I1.kIn self tI) hus
    (codeAny_mono (F1.run _ X.stack _ _ ⟨Value.ref (hp.objs.size + 1) :: us, []⟩ (Value.ref (hp.objs.size + 1) :: us ++ []) _ _ (fun _ _ _ => False) (hr.make C us []) (I2.env0.make C us []) (hb _ (Value.ref (hp.objs.size + 1) :: us) I2.kIn hl) r2 hq) fun r s' hq' => ?_))
  cases r with
  | error er => exact pass0 pins σ _ _ er s' I2 hq'
  | ok fl =>
    cases fl with
    | ret u =>
      obtain ⟨v, H2, os2, bare2, un2, hok2, rv, ev, d, fs, ea, ed, hd1, q2⟩ := hq'
      subst ev
      obtain ⟨h2, g2, d2, t2, os'⟩ := s'
      exact ⟨rv, mk_end (raises_own T.exC T.tyC) I1 hsz kk un2 hok2 os2 bare2 ea ed hd1 q2⟩
    | next => exact False.elim hq'
    | brk => exact False.elim hq'
    | cont => exact False.elim hq'
end
section
variable [TheK]
/-- what is known of an own exception class with fields -/
structure XcA (P : Program) (w : World) (K : PySem.W.Frag) (mg : Str → Option Value) (base : Heap) (c : Str) : Prop where
  ex : ∃ (B newId initId : String) (bmB : List Value) (fI : Addr) (fd : FuncData) (ps : List Str), XB B newId initId bmB ∧ XK1 K (He.ga K c) bmB newId ∧ PySem.W.findIn K (.ref (He.ga K c)) "__init__" = some (some (.ref fI)) ∧ PySem.W.typeIn K (.ref fI) = some (.type "function") ∧
    FnOk P w K mg base CX0 1 fI fd ps (spXi (He.ga K c) ((fieldsOf c).length + 1) (ZX (He.ga K c) (fieldsOf c))) ∧ Binds K fd ps []
  mg : mg c = some (.ref (He.ga K c))
def sRaiseA (c : Str) (n : Nat) (r : DL) : DS := r.bind fun xs e => if xs.length = n then .ex c xs e else .bad
theorem sd_raiseA {fl : Fl} {X : Cx} {Wx : WX} {c : Str} {e : Expr} {es : List Expr} {r : DL} {n j : Nat} {p p1 pos : Pos} (hc : X.calm = true) (tk : Takes X Wx) (hr : Room j X.A) (hx : c ∈ TheK.xs) (G : XcA X.prog X.w X.K X.mg X.base c) (hn : (fieldsOf c).length = n) (hg : Gl X c) (ha : AD X Wx (e :: es) r) (hn9 : n ≤ 9 := by decide) (hj : 2 ≤ j := by decide) (hdb : (c == ("__debug__" : Str)) = false := by decide)
    (he : starEach (e :: es) X.env = (false, eval e X.env) :: starEach es X.env := by rfl) (hpl : (backTo p1 (starEach es X.env)).any (·.1) = false := by rfl) :
    SD fl X Wx (.Raise (some (.Call (.Name c p) (e :: es) [] p1)) none pos) (sRaiseA c n r) := by
  obtain ⟨B, newId, initId, bmB, fI, fd, ps, XF, T, iC, tI, F1, hb⟩ := G.ex
  obtain ⟨ta, pa, qa⟩ := ha
  refine ⟨_, ps_raise hc tk (pmk_x XF T iC tI F1 (hr.mono hj) hb hg G.mg pa hdb he hpl), fun F O env σ H D S w => ?_⟩
  refine qa F O env σ H _ S (w.bind.imp (fun ds e1 w1 vs H1 S1 k1 p1 => ?_) XWs.xw)
  unfold Want at w1
  simp only at w1
  by_cases hl : ds.length = n
  · rw [if_pos hl] at w1
    have hv : vs.length = n := p1.len.trans hl
    refine ⟨⟨hv.trans hn.symm, by omega⟩, fun H' d k hd hxd => ?_⟩
    have ke : Ke (Jo O) H1 H' := ke_all k
    refine w1 O σ (.ref (He.ga X.K c)) (some d) H' (S1.ext k) ((KeS.of k1).trans (.of ke)) ⟨⟨rfl, hx⟩, S1.noW hd, vs, hxd, hv.trans hn.symm, p1.mono (ke_all k)⟩
  · rw [if_neg hl] at w1
    exact w1.elim
end
end AH
namespace AH
open PySem PySem.Spec PyProof.Rows L2
/-! ### the head's look at own exception classes with fields -/
structure XiD where
  c : Str
  qual : Str
  params : Arguments
  body : List Stmt
  scope : Scope
abbrev XiV : Type := Option (Str × Str × Arguments × FuncBody × Scope × Addr × List Str × Addr)
def xiA (K : PySem.W.Frag) (c : Str) : Addr := He.ma K (He.ga K c) "__init__"
def xiW (K : PySem.W.Frag) (d : XiD) : XiV := match K.lookup (xiA K d.c) with
  | some ⟨_, _, .func fd, _⟩ => some (fd.name, fd.qualname, fd.params, fd.body, fd.scope, fd.globals, fd.closure.map (·.1), fd.builtins)
  | _ => none
def XiD.val (d : XiD) : XiV := some ("__init__", d.qual, d.params, .stmts d.body, d.scope, mainGlobals, ["__class__"], builtinsNs)
def hookY (n : Nat) (ck : PySem.W.Frag → Bool) (fx : List XiD) (fa : List He.Fa) (fn : List He.DefD) : PySem.W.Hook where
  α := Bool × He.AlD × List XiV
  obs := fun s => (ck (He.frG s.heap.get? (cStatics :: He.asD s.heap.get? n)), He.obsD fa fn (He.frG s.heap.get? (cStatics :: He.asD s.heap.get? n)), fx.map (xiW (He.frG s.heap.get? (cStatics :: He.asD s.heap.get? n))))
  val := fun _ => (true, He.valD fn, fx.map XiD.val)
  says := fun _ h => ∃ K : PySem.W.Frag, K.In h ∧ He.SaysD fa fn K ∧ ck K = true ∧ fx.map (xiW K) = fx.map XiD.val
  of := fun _ _ e => ⟨_, He.frG_in, congrArg (fun z : Bool × He.AlD × List XiV => z.2.1) e, congrArg (fun z : Bool × He.AlD × List XiV => z.1) e, congrArg (fun z : Bool × He.AlD × List XiV => z.2.2) e⟩
  keeps := fun _ _ _ ⟨K, hK, c⟩ k => ⟨K, PySem.W.Frag.In.keeps hK k, c⟩
def obsY (n : Nat) (ck : PySem.W.Frag → Bool) (fx : List XiD) (fa : List He.Fa) (fn : List He.DefD) (g : Addr → Option Obj) : Bool × He.AlD × List XiV :=
  (ck (He.frG g (cStatics :: He.asD g n)), He.obsD fa fn (He.frG g (cStatics :: He.asD g n)), fx.map (xiW (He.frG g (cStatics :: He.asD g n))))
theorem obsY_eq {n : Nat} {ck : PySem.W.Frag → Bool} {fx : List XiD} {fa : List He.Fa} {fn : List He.DefD} {g : Addr → Option Obj} {s : Shared} (h : ∀ a, g a = s.heap.get? a) : obsY n ck fx fa fn g = (hookY n ck fx fa fn).obs s := by
  have e : g = s.heap.get? := funext h
  rw [e] <;> rfl
def xiFile (K : PySem.W.Frag) (file : Str) (C : Addr) (fd : FuncData) : Bool := match fd.closure, fd.code, fd.defaults with
  | [(_, cc)], .ref cda, .none => (match K.lookup cda with
      | some ⟨_, _, .fields vs, _⟩ => (match (vs[2]? : Option Value) with
          | some (.str f _) => file == f
          | _ => false)
      | _ => false) && (match K.lookup cc with
      | some ⟨_, _, .cell (some (.ref C')), _⟩ => decide (C' = C)
      | _ => false)
  | _, _, _ => false
def xiB (K : PySem.W.Frag) (file : Str) (B newId initId : String) (bmB : List Value) (d : XiD) : Bool :=
  (match K.lookup (xiA K d.c) with
  | some ⟨_, _, .func fd, _⟩ => PySem.W.codeIn K fd.code d.qual && xiFile K file (He.ga K d.c) fd
  | _ => false) &&
  ((PySem.W.excInitIn K (He.ga K d.c) bmB newId && (PySem.W.excOver K (He.ga K d.c) bmB && (PySem.W.hasDictIn K (He.ga K d.c) && (He.eqO (PySem.W.findIn K (.ref (He.ga K d.c)) "__setattr__") (some (some (.builtin "object.__setattr__"))) &&
  (decide (PySem.W.subIn K (.ref (He.ga K d.c)) (.type "BaseException") = some true) && (decide (PySem.W.typeIn K (.ref (He.ga K d.c)) = some (.type "type")) && PySem.W.keepIn K (.ref (He.ga K d.c)))))))) &&
  ((He.eqO (PySem.W.nsIn K cStatics "thirdparty.any") (some none) && (He.eqO (PySem.W.ks_superIn K (He.ga K d.c) (He.ga K d.c) "__init__") (some (some (.builtin initId))) && (decide (PySem.W.subIn K (.ref (He.ga K d.c)) (.type B) = some true) &&
  (decide (PySem.W.mroIn K (He.ga K d.c) (.ref (He.ga K d.c)) = some true) && (PySem.W.clsIn K (He.ga K d.c)).isSome)))) &&
  (((fieldsOf d.c).all fun f => He.eqO (PySem.W.takerIn K (He.ga K d.c) f) (some none)) && (He.eqO (PySem.W.findIn K (.ref (He.ga K d.c)) "__init__") (some (some (.ref (xiA K d.c)))) && decide (PySem.W.typeIn K (.ref (xiA K d.c)) = some (.type "function"))))))
structure XiO (P : Program) (K : PySem.W.Frag) (mg : Str → Option Value) (B newId initId : String) (bmB : List Value) (d : XiD) : Prop where
  x : ∃ fd, XIn P K mg (He.ga K d.c) d.qual d.params d.body d.scope (xiA K d.c) fd
  t : XK1 K (He.ga K d.c) bmB newId
  u : XSu K (He.ga K d.c) B initId
  f : ∀ f ∈ fieldsOf d.c, PySem.W.takerIn K (He.ga K d.c) f = some none
  i : PySem.W.findIn K (.ref (He.ga K d.c)) "__init__" = some (some (.ref (xiA K d.c)))
  k : PySem.W.typeIn K (.ref (xiA K d.c)) = some (.type "function")
theorem xiB_ok {P : Program} {K : PySem.W.Frag} {mg : Str → Option Value} {B newId initId : String} {bmB : List Value} {d : XiD} (h : xiB K P.main.file B newId initId bmB d = true) (e : xiW K d = d.val) (top : (P.main.scope.names.lookup ("super" : Str)).isSome = false) (fr : mg "super" = none) : XiO P K mg B newId initId bmB d := by
  unfold xiB at h
  obtain ⟨h1, h⟩ := He.ba h
  obtain ⟨h2, h⟩ := He.ba h
  obtain ⟨h3, h⟩ := He.ba h
  obtain ⟨h4, h⟩ := He.ba h
  obtain ⟨h5, h6⟩ := He.ba h
  obtain ⟨a1, h2⟩ := He.ba h2
  obtain ⟨a2, h2⟩ := He.ba h2
  obtain ⟨a3, h2⟩ := He.ba h2
  obtain ⟨a4, h2⟩ := He.ba h2
  obtain ⟨a5, h2⟩ := He.ba h2
  obtain ⟨a6, a7⟩ := He.ba h2
  obtain ⟨b1, h3⟩ := He.ba h3
  obtain ⟨b2, h3⟩ := He.ba h3
  obtain ⟨b3, h3⟩ := He.ba h3
  obtain ⟨b4, b5⟩ := He.ba h3
  refine ⟨?_, ⟨a1, a2, a3, He.eqO_ok a4, of_decide_eq_true a5, of_decide_eq_true a6, a7⟩, ⟨He.eqO_ok b1, He.eqO_ok b2, of_decide_eq_true b3, of_decide_eq_true b4, Option.isSome_iff_exists.mp b5⟩, fun f hf => He.eqO_ok (List.all_eq_true.mp h4 f hf), He.eqO_ok h5, of_decide_eq_true h6⟩
  unfold xiW at e
  cases q : K.lookup (xiA K d.c) with
  | none => rw [q] at h1; cases h1
  | some o =>
    obtain ⟨oc, od, dt, osl⟩ := o
    rw [q] at h1 e
    cases dt with
    | func fd =>
      obtain ⟨n1, n2, n3, n4, n5, n6, n7, n8, n9, n10, n11, n12, n13, n14, n15⟩ := fd
      have e2 : (some (n1, n2, n3, n4, n5, n6, n7.map (·.1), n15) : XiV) = (some ("__init__", d.qual, d.params, .stmts d.body, d.scope, mainGlobals, ["__class__"], builtinsNs) : XiV) := e
      simp only [Option.some.injEq, Prod.mk.injEq] at e2
      obtain ⟨z1, z2, z3, z4, z5, z6, z7, z8⟩ := e2
      subst z1 z2 z3 z4 z5 z6 z8
      obtain ⟨c1, c2⟩ := He.ba (show (PySem.W.codeIn K n13 d.qual && _) = true from h1)
      unfold xiFile at c2
      simp only at c2
      split at c2
      · rename_i nm cc cda
        obtain rfl : nm = "__class__" := by simpa using z7
        obtain ⟨c3, c4⟩ := He.ba c2
        split at c3
        · rename_i ccl cdd vs ccs lcd
          split at c3
          · rename_i file tf hvs
            split at c4
            · rename_i cl cld C' csl lcc
              obtain rfl := of_decide_eq_true c4
              exact ⟨_, ⟨oc, od, .none, n9, n10, n11, n12, cda, cc, n14, osl, ccl, cdd, vs, ccs, file, tf, cl, cld, csl, rfl, rfl, q, c1, lcd, hvs, c3, lcc⟩, top, fr⟩
            · cases c4
          · cases c3
        · cases c3
      · cases c2
    | _ => cases h1
theorem XIn.binds {P : Program} {K : PySem.W.Frag} {mg : Str → Option Value} {C : Addr} {qual : Str} {params : Arguments} {body : List Stmt} {scope : Scope} {f : Addr} {fd : FuncData} {ps : List Str} (F : XIn P K mg C qual params body scope f fd)
    (h : ∀ (kV doc pm : Value) (an : Option Addr) (cdv ct : Value) (cc : Addr) (us : List Value), us.length = ps.length → bindArgs (PySem.W.ksFn "__init__" qual params body scope .none kV doc pm an cdv ct cc) ⟨us, []⟩ = pure (ps.zip us)) : Binds K fd ps [] := by
  obtain ⟨oc, od, dV, kV, doc, pm, an, cda, cc, ct, osl, ccl, cdd, vs2, ccs, file, tf, cl, cld, csl, rfl, rfl, _⟩ := F.ex
  exact Binds.all fun us hl => h _ _ _ _ _ _ _ us hl
end AH
namespace AH
open PySem PySem.Spec PyProof.Rows L2
variable [TheK]
/-! ### sum of a list or a tuple -/
section
variable {X : Cx} {Wx : WX} {a : Expr} {ma : DE} {p pos : Pos}
end
end AH
namespace AH
open PySem PySem.Spec PyProof.Rows L2
variable [TheK]
/-! ### ranges that are not walked -/
section
variable {X : Cx} {Wx : WX} {a b c : Expr} {ma mb mc : DE} {p pos p2 : Pos}
/-! ### list(range(..)) -/
end
end AH
namespace AH
open PySem PySem.Spec PyProof.Rows L2
/-! ### dict(xs) of pairs whose keys are tuples -/
section
variable {X : Cx}
end
section
variable [TheK] {X : Cx} {Wx : WX} {a : Expr} {ma : DE} {p pos : Pos}
/-! ### {} -/
/-! ### d.get(k, e), d a name -/
end
end AH
namespace AH
open PySem PySem.Spec PyProof.Rows L2
/-! ### sorted(xs) of plain data that can be compared -/
def ins {α : Type} (le : α → α → Bool) (a : α) : List α → List α
  | [] => [a]
  | b :: l => if le a b then a :: b :: l else b :: ins le a l
section
variable {X : Cx}
end
section
variable [TheK] {X : Cx} {Wx : WX} {a : Expr} {ma : DE} {p pos : Pos}
theorem RepL.zip {W : Pr} {H : Hp} : ∀ {vs : List V} {xs : List D}, RepL W H vs xs → ∃ bs : List (V × D), bs.map (·.1) = vs ∧ bs.map (·.2) = xs ∧ ∀ b ∈ bs, Rep W H b.1 b.2
  | _, _, .nil => ⟨[], rfl, rfl, by simp⟩
  | _, _, .cons (v := v) (d := d) r l => by
    obtain ⟨bs, h1, h2, h3⟩ := RepL.zip l
    refine ⟨(v, d) :: bs, by rw [List.map_cons, h1], by rw [List.map_cons, h2], fun b hb => ?_⟩
    rcases List.mem_cons.mp hb with rfl | hb
    · exact r
    · exact h3 b hb
end
end AH
namespace AH
open PySem PySem.Spec PyProof.Rows L2
section
variable [TheK] {fl : Fl} {X : Cx} {Wx : WX} {e a b c d tg : Expr} {ma mb mc md : DE} {pos p : Pos} {st : Stmt} {rest : List Stmt} {m n : DS}
/-! ### an own dict handed back, let go -/
/-! ### xs + e, xs an own list -/
/-! ### *e in a display -/
end
/-! ### sorted(d): its key tuples -/
section
variable {X : Cx}
end
section
variable [TheK] {X : Cx} {Wx : WX} {a : Expr} {ma : DE} {p pos : Pos}
theorem RepK.keys {W : Pr} {H : Hp} : ∀ {ks : List (List Key × V)} {kvs : List (List Key × D)}, RepK W H ks kvs → ks.map (·.1) = kvs.map (·.1)
  | _, _, .nil => rfl
  | _, _, .cons _ l => by rw [List.map_cons, List.map_cons, RepK.keys l]
end
end AH
namespace AH
open PySem PySem.Spec PyProof.Rows L2
variable [TheK]
/-! ### an own dict locked while an expression runs -/
def Fm.lk (F : Fm) (a : Addr) : Fm := { F with P := fun b => F.P b ∨ b = a, N := fun b => F.N b ∧ b ≠ a }
section
variable {K : PySem.W.Frag} {F : Fm} {O : Nat → Option Addr} {env e1 : Env} {σ : L2.St} {H H' : Hp} {i : Nat} {a : Addr}
end
section
variable {X : Cx} {Wx : WX} {e : Expr} {m : DE} {i : Nat}
end
end AH
namespace AH
open PySem PySem.Spec PyProof.Rows L2
/-! ### the items of a locked dict with tuple keys -/
section
variable {X : Cx} {pins : List (Addr × Obj)} {σ : L2.St} {H : Hp} {s : Shared} {d : Addr} {o : Obj}
end
section
variable {P : Program} {w : World} {K : PySem.W.Frag} {d : Addr} {o : Obj} {es : Array DictEntry} {ep : Nat}
end
section
variable {X : Cx} {tg e : Expr} {td : TE} {apos cpos : Pos}
end
section
variable [TheK] {X : Cx} {Wx : WX} {tg a : Expr} {ma : DE} {p apos cpos : Pos}
theorem RepK.get {W : Pr} {H : Hp} : ∀ {ks : List (List Key × V)} {kvs : List (List Key × D)} {i : Nat} {k : List Key} {v : V}, RepK W H ks kvs → ks[i]? = some (k, v) → ∃ d, kvs[i]? = some (k, d) ∧ Rep W H v d
  | _, _, _, _, _, .nil, e => by simp at e
  | _, _, 0, _, _, .cons r _, e => by simp at e; obtain ⟨rfl, rfl⟩ := e; exact ⟨_, rfl, r⟩
  | _, _, i + 1, k, v, .cons _ t, e => by
    obtain ⟨u, h1, h2⟩ := RepK.get (i := i) (k := k) (v := v) t (by simpa using e)
    exact ⟨u, by simpa using h1, h2⟩
/-! ### of a locked name; of a new dict -/
end
end AH
namespace AH
open PySem PySem.Spec PyProof.Rows L2
variable [TheK]
/-! ### a, b = x, y with new dicts among them -/
inductive PKd where
  | v | l | d
inductive PRK (F : Fm) (O : Nat → Option Addr) (H : Hp) : List PKd → List V → List D → List Addr → Prop
  | nil : PRK F O H [] [] [] []
  | val {bs : List PKd} {vs : List V} {ds : List D} {ps : List Addr} {v : V} {d : D} : Rep (Ow F O) H v d → PRK F O H bs vs ds ps → PRK F O H (.v :: bs) (v :: vs) (d :: ds) ps
  | new {bs : List PKd} {vs : List V} {ds : List D} {ps : List Addr} {p : Addr} {us : List V} {ys : List D} : F.P p → F.N p → ¬ Jo O p → F.H0 p = none → p ∉ ps → H p = some (.lst us) → RepL (Ow F O) H us ys → PRK F O H bs vs ds ps → PRK F O H (.l :: bs) (.ref p :: vs) (.lst ys :: ds) (p :: ps)
  | dic {bs : List PKd} {vs : List V} {ds : List D} {ps : List Addr} {p : Addr} {us : List (List Key × V)} {ys : List (List Key × D)} : F.P p → F.N p → ¬ Jo O p → F.H0 p = none → p ∉ ps → H p = some (.dT us) → RepK (Ow F O) H us ys → PRK F O H bs vs ds ps → PRK F O H (.d :: bs) (.ref p :: vs) (.dic ys :: ds) (p :: ps)
theorem PRK.len {F : Fm} {O : Nat → Option Addr} {H : Hp} {bs : List PKd} {vs : List V} {ds : List D} {ps : List Addr} (r : PRK F O H bs vs ds ps) : vs.length = bs.length := by
  induction r with
  | nil => rfl
  | val _ _ ih => simp [ih]
  | new _ _ _ _ _ _ _ _ ih => simp [ih]
  | dic _ _ _ _ _ _ _ _ ih => simp [ih]
theorem PRK.go {F F' : Fm} {O O' : Nat → Option Addr} {H : Hp} {bs : List PKd} {vs : List V} {ds : List D} {ps : List Addr} (r : PRK F O H bs vs ds ps) (g : ∀ a, Ow F' O' a → Ow F O a) (h0 : F'.H0 = F.H0) : (∀ p ∈ ps, F.P p → F'.P p) → (∀ p ∈ ps, F.N p → F'.N p) → (∀ p ∈ ps, ¬ Jo O p → ¬ Jo O' p) → PRK F' O' H bs vs ds ps := by
  induction r with
  | nil => intro _ _ _; exact .nil
  | val r l ih => intro a b c; exact .val (r.sub fun a z => .inl (g a z)) (ih a b c)
  | new h1 h2 h3 h4 h5 h6 h7 l ih =>
    intro a b c
    exact .new (a _ List.mem_cons_self h1) (b _ List.mem_cons_self h2) (c _ List.mem_cons_self h3) (by rw [h0]; exact h4) h5 h6 (h7.sub fun a z => .inl (g a z)) (ih (fun p hp => a p (List.mem_cons_of_mem _ hp)) (fun p hp => b p (List.mem_cons_of_mem _ hp)) fun p hp => c p (List.mem_cons_of_mem _ hp))
  | dic h1 h2 h3 h4 h5 h6 h7 l ih =>
    intro a b c
    exact .dic (a _ List.mem_cons_self h1) (b _ List.mem_cons_self h2) (c _ List.mem_cons_self h3) (by rw [h0]; exact h4) h5 h6 (h7.sub fun a z => .inl (g a z)) (ih (fun p hp => a p (List.mem_cons_of_mem _ hp)) (fun p hp => b p (List.mem_cons_of_mem _ hp)) fun p hp => c p (List.mem_cons_of_mem _ hp))
section
variable {fl : Fl} {X : Cx} {Wx : WX} {e a b c d tg iter elt : Expr} {ma mb mc md : DE} {pos p : Pos} {st : Stmt} {es : List Expr} {ks : List (PKd × DE)}
end
end AH
namespace AH
open PySem PySem.Spec PyProof.Rows L2
variable [TheK]
/-! ### the same where a name is a cell: by way of a tuple -/
theorem PRK.ext {F : Fm} {O : Nat → Option Addr} {H H' : Hp} {bs : List PKd} {vs : List V} {ds : List D} {ps : List Addr} (r : PRK F O H bs vs ds ps) (k : ∀ a o, H a = some o → H' a = some o) : PRK F O H' bs vs ds ps := by
  induction r with
  | nil => exact .nil
  | val r l ih => exact .val (r.mono (ke_ext k)) ih
  | new h1 h2 h3 h4 h5 h6 h7 l ih => exact .new h1 h2 h3 h4 h5 (k _ _ h6) (h7.mono (ke_ext k)) ih
  | dic h1 h2 h3 h4 h5 h6 h7 l ih => exact .dic h1 h2 h3 h4 h5 (k _ _ h6) (h7.mono (ke_ext k)) ih
section
variable {fl : Fl} {X : Cx} {Wx : WX} {e a b c d tg iter elt : Expr} {ma mb mc md : DE} {pos p : Pos} {st : Stmt} {es : List Expr} {ks : List (PKd × DE)}
theorem boot_ValueError : bootBuiltins "ValueError" = some (.type "ValueError") := by decide +kernel
end
end AH
namespace AH
open PySem PySem.Spec PyProof.Rows L2
/-! ### enumerate over a list or a tuple -/
theorem enum_new1 {v : Value} {o : Obj} {H : Heap → Prop} (B : Begins v o H) :
    Meets (Builtin.«enumerate.__new__» ⟨[.type "enumerate", v], []⟩) (fun _ R s => H s.heap ∧
      R (.ok (.ret (.ref (s.heap.push o).objs.size))) { s with heap := (s.heap.push o).push { cls := .type "enumerate", data := .fields #[.none, .bool false, .ref s.heap.objs.size, rawInt 0, .none, .none] } }) :=
  .of_wp fun prog w A R s h => by
    obtain ⟨hp, g, d, tk, os⟩ := s; obtain ⟨h1, h⟩ := h
    have hsub := sub_enumerate
    have q1 : ∀ {A' : Around} {E : Value → Shared → Prop} {Q : Value → Shared → Prop}, Q (.ref hp.objs.size) ⟨hp.push o, g, d, tk, os⟩ → wpAny (model prog w) A' (pyIter v) Q E ⟨hp, g, d, tk, os⟩ :=
      fun q => B.iter prog w _ _ ⟨hp, g, d, tk, os⟩ _ h1 q
    wp_walk using q1
    refine wpAny_stack_any fun st => wpAny_pure ?_
    split
    · rename_i c _ _ _ _ _
      cases (c == Value.type "enumerate")
      · wp_walk using q1
        exact ⟨_, rfl, h⟩
      · wp_walk using q1
        exact ⟨_, rfl, h⟩
    · wp_walk using q1
      exact ⟨_, rfl, h⟩
theorem enum_begins1 {prog : Program} {w : World} {A : Around} {E : Value → Shared → Prop} {s : Shared} {v : Value} {o : Obj} {H : Heap → Prop} {Q : Value → Shared → Prop} (B : Begins v o H) (h1 : H s.heap)
    (h : ∀ h', IsEnum h' (s.heap.objs.size + 1) s.heap.objs.size 0 .none → h'.get? s.heap.objs.size = some o → h'.objs.size = s.heap.objs.size + 2 →
      (∀ b o, s.heap.get? b = some o → h'.get? b = some o) → Q (.ref (s.heap.objs.size + 1)) { s with heap := h' }) :
    wpAny (model prog w) A (call (.type "enumerate") [v]) Q E s := by
  refine callType_new F.called_enumerate (by decide) (F.typeCall_enumerate_1 _) (F.newCall_enumerate_1 _) (fun obj => F.args_object_init_2 obj _) F.entry_enumerate_new
    (enum_new1 B) ⟨h1, ?_⟩
  have hz : (s.heap.push o).objs.size = s.heap.objs.size + 1 := Heap.size_push ..
  show _ ∧ _
  rw [hz]
  have he : IsEnum ((s.heap.push o).push { cls := .type "enumerate", data := .fields #[.none, .bool false, .ref s.heap.objs.size, rawInt 0, .none, .none] }) (s.heap.objs.size + 1) s.heap.objs.size 0 .none := by
    have := Heap.get?_push_size (s.heap.push o) (o := { cls := .type "enumerate", data := .fields #[.none, .bool false, .ref s.heap.objs.size, rawInt 0, .none, .none] }) rfl
    rw [hz] at this; exact this
  refine ⟨⟨_, he, rfl⟩, h _ he (Heap.get?_push_of_some _ (Heap.get?_push_size _ B.free)) (by rw [Heap.size_push, hz]) fun b o x => Heap.get?_push_of_some _ (Heap.get?_push_of_some _ x)⟩
def IteK (k : Bool) (K : PySem.W.Frag) (a : Addr) : It :=
  ⟨fun i H => ∃ (xs : List V) (x : V), SqK k K H a xs ∧ xs[i]? = some x, fun i H v H' => ∃ T x, v = .ref T ∧ H T = none ∧ H' = upd H T (.tup [.int (i : Nat), x]) ∧ ∀ xs, SqK k K H a xs → xs[i]? = some x, fun i H => ∃ xs : List V, SqK k K H a xs ∧ i = xs.length⟩
theorem turn_enK {P : Program} {w : World} {K : PySem.W.Frag} {elts : List Expr} {kk : Nat} {tpos : Pos} {k : Bool} {a n : Nat} (ha : a < n) :
    Turn P w K (.Tuple elts kk tpos) (IteK k K a) [n + 1, n] (n + 1) (fun i h => (∃ old, IsEnum h (n + 1) n ((i : Nat) : Int) old) ∧ ItK k h n a i) where
  mem := by simp
  obj := fun i h st b hb => by
    obtain ⟨⟨old, he⟩, hi⟩ := st
    have e' : b = n + 1 ∨ b = n := by simpa using hb
    rcases e' with z | z
    · rw [z]; exact ⟨_, he, fun v q => nomatch q⟩
    · rw [z]; exact hi.obj
  keep := fun i h h' st kk => let ⟨⟨old, he⟩, hi⟩ := st; ⟨⟨old, kk _ (by simp) _ he⟩, hi.keep fun o q => kk _ (by simp) o q⟩
  item := by
    intro X hP hw hK hc i pins s σ H E I hf st hg
    subst hP hw hK
    obtain ⟨⟨old, he⟩, hit⟩ := st
    obtain ⟨xs, x, hq, hx⟩ := hg
    obtain ⟨its, rv, p, hz⟩ := Inv.sqK I hq
    obtain ⟨u, hu, ru⟩ := rv.get hx
    have hel : n + 1 < s.heap.objs.size := Heap.lt_size he
    have hh : X.A.in1.handled = none := I.ok.hd hc
    have il : i < its.toArray.size := by
      have := (List.getElem?_eq_some_iff.mp hu).1
      simpa using this
    refine wpAny_pyNext_enum_itemD (drawsK hh k n a (by first | omega | (show @Ne Nat _ _; omega)) its.toArray) he ⟨hit, p⟩ il (by first | omega | (show @Ne Nat _ _; omega)) (nin2 (by omega) (by omega)) fun y h' tk px ho st' hT hsz hk => ?_
    have ey : y = u := by
      have z : its[i]? = some y := by simpa using px
      rw [hu] at z; cases z; rfl
    subst ey
    refine ⟨_, rfl, wpAny_letOwnedTupleGo_enum (s := { s with heap := h', toks := tk + 1 }) ho fun h'' he' sb => ?_⟩
    have hT2 : h''.get? s.heap.objs.size = some { cls := .type "tuple", data := .seq #[.int i tk, y] } := (sb.2 _ (Nat.ne_of_gt hel)).trans hT
    have new : ObjOk X.prog X.w (upd H s.heap.objs.size (.tup [.int (i : Nat), x])) h'' s.heap.objs.size (.tup [.int (i : Nat), x]) :=
      ⟨by show 2 ≤ sizeLine; decide, [.int i tk, y], .cons ⟨_, rfl⟩ (.cons ru .nil), ⟨_, hT2, rfl, _, rfl⟩⟩
    have I1 : Inv X pins σ (upd H s.heap.objs.size (.tup [.int (i : Nat), x])) { s with heap := h'', toks := tk + 1 } :=
      I.turnedNew (t' := tk + 1) (ch := [n + 1, n]) (fun b ob hb q => (sb.2 b (fun z => hb (by simp [z]))).trans (hk b ob (fun z => hb (by simp [z])) (fun z => hb (by simp [z])) q)) hf (Nat.le_refl _) new
    refine ⟨.ref s.heap.objs.size, _, I1, rfl, ⟨_, x, rfl, I.hok.fresh (Nat.le_refl _), rfl, fun ys hy => by rw [Inv.sqK_inj I hy hq]; exact hx⟩, ⟨⟨y, ?_⟩, st'.1.keep fun o q => (sb.2 _ (by first | omega | (show @Ne Nat _ _; omega))).trans q⟩, fun b hb => ?_⟩
    · have e1 : ((i + 1 : Nat) : Int) = (i : Int) + 1 := by omega
      rw [e1]; exact he'
    · have hb' : b < s.heap.objs.size := by
        have e' : @Eq Nat b (n + 1) ∨ @Eq Nat b n := by simpa using hb
        have hel' : @LT.lt Nat _ (n + 1) s.heap.objs.size := hel
        show @LT.lt Nat _ b s.heap.objs.size
        omega
      rw [upd_ne (Nat.ne_of_lt hb')]
      exact (hf b hb).1
  done := by
    intro X hP hw hK hc i pins s σ H E I hf st hg
    subst hP hw hK
    obtain ⟨⟨old, he⟩, hit⟩ := st
    obtain ⟨xs, hq, hx⟩ := hg
    obtain ⟨its, rv, p, hz⟩ := Inv.sqK I hq
    have hl := rv.length
    have hh : X.A.in1.handled = none := I.ok.hd hc
    have ei : i = its.toArray.size := by simp; omega
    subst ei
    exact wpAny_pyNext_enum_endD (drawsK hh k n a (by first | omega | (show @Ne Nat _ _; omega)) its.toArray) he ⟨hit, p⟩ fun h' eb => ⟨rfl, I.turnedL (t' := s.toks) (ch := [n + 1, n]) (fun c o hb q => eb c o (fun z => hb (by simp [z])) q) hf⟩
  self := fun A i s Q E st h => let ⟨⟨_, he⟩, _⟩ := st; wpAny_pyIter_enum he h
variable [TheK]
def iEnumK (a : DE) : DI := a.bind fun x => match seqD x with
  | some xs => M.pure ((rng 0 xs.length).zip xs |>.map fun p => D.tup [p.1, p.2])
  | none => fun _ => .bad
section
variable {X : Cx} {Wx : WX} {a : Expr} {ma : DE} {p pos : Pos}
def tiEK (K : PySem.W.Frag) (ta : TA) : TI := fun σ H R => ta σ H fun vs H1 => ∃ (k : Bool) (a : Addr) (xs : List V), vs = [.ref a] ∧ SqK k K H1 a xs ∧ R (IteK k K a) H1
theorem pi_enK {e : Expr} {ta : TA} {tpos : Pos} {elts : List Expr} {kk : Nat} (hg : Gl X "enumerate") (hm : X.mg "enumerate" = none) (ha : PA X [e] ta) (hs : starEach [e] X.env = [(false, eval e X.env)] := by rfl) :
    PI X (.Tuple elts kk tpos) (.Call (.Name "enumerate" p) [e] [] pos) (tiEK X.K ta) := by
  refine ⟨fun pins s σ H R I h => Call_ (ld_blt I hg hm boot_enumerate (PyProof.Rows.callWith_type1 (thn (ha.run pos pins s σ H _ I h) fun us s1 ⟨vs, H1, I1, r1, q1⟩ => ?_) hs rfl))⟩
  obtain ⟨k, a, xs, ex, hq, q⟩ := q1
  subst ex
  cases r1 with
  | cons r rr =>
    cases rr
    cases r
    obtain ⟨its, rv, p1, l1⟩ := Inv.sqK I1 hq
    refine enum_begins1 (beginsK k a its.toArray) p1 fun h' he hit hsz hk => wpAny_pyIter_enum he ?_
    have I2 : Inv X pins σ H1 { s1 with heap := h' } := I1.kept (t' := s1.toks) hk
    refine ⟨s1.heap.objs.size + 1, [s1.heap.objs.size + 1, s1.heap.objs.size], _, _, H1, rfl, I2, turn_enK l1, ⟨⟨.none, he⟩, itK0 hit⟩, fun b hb => ?_, q⟩
    have e' : b = s1.heap.objs.size + 1 ∨ b = s1.heap.objs.size + 0 := by simpa using hb
    rcases e' with z | z <;> (rw [z]; exact fresh_of I1 rfl _)
theorem id_enK {elts : List Expr} {kk : Nat} {tpos : Pos} (hb : Bn X "enumerate" (.type "enumerate")) (ha : PD .s X Wx a ma) (hs : starEach [a] X.env = [(false, eval a X.env)] := by rfl) (hs2 : starEach [a] X.env = (false, eval a X.env) :: starEach [] X.env := by rfl) :
    ID X Wx (.Tuple elts kk tpos) (.Call (.Name "enumerate" p) [a] [] pos) (iEnumK ma) := by
  obtain ⟨ta, pa, qa⟩ := ha
  refine ⟨_, pi_enK hb.gl hb.mg (pa_cons pa pa_nil hs2) hs, fun F O env σ H R S w => ?_⟩
  refine qa F O env σ H _ S (w.bind.imp (fun dx e1 w1 x H1 S1 k1 p1 => ?_) fun _ _ _ z => z)
  cases q1 : seqD dx with
  | none => rw [q1] at w1; exact w1.elim
  | some xs =>
    rw [q1] at w1
    obtain ⟨ka, aa, va, rfl, la, sa⟩ := Rep.sqK (K := X.K) p1 q1
    have zn : ((rng 0 (xs.length : Int)).zip xs |>.map fun p => D.tup [p.1, p.2]).length = va.length := by rw [List.length_map, List.length_zip, rng0_len, la.len]; omega
    refine ⟨ka, aa, va, rfl, sa H1 .refl, w1 _ H1 S1 k1 ⟨fun i H3 k3 hi => ?_, fun H3 k3 => ?_, fun i H3 v H' d W' k3 g al hd yy => ?_⟩⟩
    · rw [zn] at hi
      exact ⟨va, va[i], sa H3 k3.wo, by simp [hi]⟩
    · rw [zn]
      exact ⟨va, sa H3 k3.wo, rfl⟩
    · obtain ⟨T, x, rfl, hT, rfl, hx⟩ := yy
      have hx := hx va (sa H3 k3.wo)
      rw [List.getElem?_map] at hd
      cases hz : ((rng 0 (xs.length : Int)).zip xs)[i]? with
      | none => rw [hz] at hd; cases hd
      | some q =>
        rw [hz] at hd
        cases hd
        obtain ⟨g1, g2⟩ := List.getElem?_zip_eq_some.mp hz
        have hi : i < xs.length := (List.getElem?_eq_some_iff.mp g2).1
        rw [rng0_get hi] at g1
        obtain ⟨v1, ev1, r1⟩ := la.get g2
        rw [hx] at ev1; cases ev1
        have st : ∀ a o, H3 a = some o → upd H3 T (.tup [.int (i : Nat), x]) a = some o := new_ext hT
        refine ⟨st, .tup (fun z => (al T z).1 hT) upd_same (.cons ?_ (.cons ?_ .nil))⟩
        · rw [← Option.some.inj g1]; exact .int _
        · exact (r1.ke k3.wo g).ke (ke_ext st) fun a z => .inl z
end
end AH
namespace AH
open PySem PySem.Spec PyProof.Rows L2
variable [TheK]
/-! ### xs[i] op= v, xs an own or a lent list of ints -/
section
variable {fl : Fl} {X : Cx} {Wx : WX} {a b : Expr} {ma mb : DE} {pos p : Pos}
end
end AH
namespace AH
open PySem PySem.Spec PyProof.Rows L2
variable [TheK]
/-! ### x is True, x is False: of bools alone -/
section
variable {X : Cx} {Wx : WX} {a : Expr} {ma : DE} {pos p : Pos} {c : Bool} {j : Nat}
end
end AH
namespace AH
open PySem PySem.Spec PyProof.Rows L2
variable [TheK]
/-! ### x = [f(..), ..]; if t: ..; x[0].append(v): the first item is changed in place -/
section
variable {K : PySem.W.Frag} {F : Fm} {O : Nat → Option Addr} {env : Env} {σ : L2.St} {H H' : Hp} {i : Nat}
end
section
variable {fl : Fl} {X : Cx} {Wx : WX} {e0 c a : Expr} {es : List Expr} {sa rest : List Stmt} {m0 mv : DE} {mr : DL} {t : DT} {r n : DS} {pos pl p pos2 p1 p2 p3 pos3 ps pz : Pos}
end
end AH
namespace AH
open PySem PySem.W PySem.Spec PySem.Calls PyProof.Rows PyProof.V L2
/-! ### list(zip(a, b)): the pairs kept -/
section
variable {prog : Program} {w : World} {A : Around} {E : Value → Shared → Prop} {s : Shared} {z TI TO T i1 i2 Sa : Addr} {fp1 fp2 : List Addr} {n1 n2 i : Nat} {P1 P2 : Nat → Value → Prop} {St1 St2 : Nat → Heap → Prop} {f : Bool} {oT : Obj}
/-- where a zip that is gathered into Sa stands -/
def ZlS (z TI TO i1 i2 Sa : Addr) (St1 St2 : Nat → Heap → Prop) (i : Nat) (h : Heap) : Prop :=
  IsTupOf2 h TI (.ref i1) (.ref i2) ∧ St1 i h ∧ St2 i h ∧ ((IsZip h z TI TO .none ∧ ∃ a b, IsTupOf2 h TO a b) ∨ ∃ T f oT, IsZipHeld h z TI TO T f ∧ h.get? T = some oT ∧ T ≠ z ∧ T ≠ i1 ∧ T ≠ i2 ∧ T ≠ Sa)
theorem ZlS.keep {h h' : Heap} (S : ZipSep2 z TI TO i1 i2 fp1 fp2) (D1 : Draws prog w A i1 fp1 n1 P1 St1) (D2 : Draws prog w A i2 fp2 n2 P2 St2) (h1 : Sa ∉ fp1) (h2 : Sa ∉ fp2) (hz : Sa ≠ z) (hTI : Sa ≠ TI) (hTO : Sa ≠ TO) (x : ZlS z TI TO i1 i2 Sa St1 St2 i h) (hk : ∀ b o, b ≠ Sa → h.get? b = some o → h'.get? b = some o) : ZlS z TI TO i1 i2 Sa St1 St2 i h' := by
  obtain ⟨a1, a2, a3, a4⟩ := x
  refine ⟨hk _ _ hTI.symm a1, D1.frame _ _ _ a2 fun b hb o e => hk b o (fun q => h1 (q ▸ hb)) e, D2.frame _ _ _ a3 fun b hb o e => hk b o (fun q => h2 (q ▸ hb)) e, ?_⟩
  rcases a4 with ⟨b1, a, b, b2⟩ | ⟨T, f, oT, b1, b2, b3, b4, b5, b6⟩
  · exact .inl ⟨hk _ _ hz.symm b1, a, b, hk _ _ hTO.symm b2⟩
  · exact .inr ⟨T, f, oT, hk _ _ hz.symm b1, hk _ _ b6 b2, b3, b4, b5, b6⟩
/-- the pairs made so far -/
structure ZlG (P1 P2 : Nat → Value → Prop) (lo : Addr) (h : Heap) (as : List Addr) : Prop where
  rise : as.Pairwise (· < ·)
  above : ∀ a ∈ as, lo < a
  pairs : ∀ (j : Nat) (a : Addr), as[j]? = some a → ∃ x y, P1 j x ∧ P2 j y ∧ IsTupOf2 h a x y
theorem ZlG.there {lo : Addr} {h : Heap} {as : List Addr} (g : ZlG P1 P2 lo h as) {a : Addr} (ha : a ∈ as) : a < h.objs.size := by
  obtain ⟨j, hj⟩ := List.mem_iff_getElem?.mp ha
  obtain ⟨_, _, _, _, e⟩ := g.pairs j a hj
  exact Heap.lt_size e
end
section
variable {prog : Program} {w : World} {A : Around} {E : Value → Shared → Prop} {s : Shared} {R : Result → Shared → Prop} {z TI TO T i1 i2 Sa lo : Addr} {fp1 fp2 : List Addr} {n n1 n2 i : Nat} {P1 P2 : Nat → Value → Prop} {St1 St2 : Nat → Heap → Prop}
/-- the list's cell lies apart -/
structure ZlA (z TI TO i1 i2 Sa : Addr) (fp1 fp2 : List Addr) : Prop where
  f1 : Sa ∉ fp1
  f2 : Sa ∉ fp2
  nz : Sa ≠ z
  nTI : Sa ≠ TI
  nTO : Sa ≠ TO
  n1 : Sa ≠ i1
  n2 : Sa ≠ i2
structure ZlLo (z TO i1 i2 Sa lo : Addr) : Prop where
  s : Sa ≤ lo
  z : z ≤ lo
  t : TO ≤ lo
  i : i1 ≤ lo
  j : i2 ≤ lo
end
section
variable {prog : Program} {w : World} {A : Around} {E : Value → Shared → Prop} {s : Shared} {z TI TO i1 i2 : Addr} {fp1 fp2 : List Addr} {n n1 n2 : Nat} {P1 P2 : Nat → Value → Prop} {St1 St2 : Nat → Heap → Prop}
end
/-! ### at the level of the hand -/
section
variable {X : Cx}
theorem IsK.keep {k : Bool} {h h' : Heap} {a : Addr} {items : Array Value} (x : IsK k h a items) (hk : ∀ b o, h.get? b = some o → h'.get? b = some o) : IsK k h' a items := by
  cases k
  · exact Heap.IsList.at x fun o e => hk _ o e
  · obtain ⟨o, ho, r⟩ := x
    exact ⟨o, hk _ _ ho, r⟩
end
section
variable [TheK] {X : Cx} {Wx : WX} {a b : Expr} {ma mb : DE} {p p2 pos pos2 : Pos}
end
end AH
namespace AH
open PySem PySem.Spec PyProof.Rows L2
/-! ### {k: v for ..}: the keys tuples -/
section
variable {X : Cx}
end
section
variable [TheK]
variable {X : Cx} {Wx : WX} {kx vx tg iter : Expr} {mk mv : DE} {pos : Pos}
end
end AH
namespace AH
open PySem PySem.Spec PyProof.Rows L2
variable [TheK]
/-! ### [f, g, ..][i](a, ..): one of some defs -/
def FnA (X : Cx) (ms : List Md) (g : DF) (f : Addr) : Prop := ∃ (fl : Fl) (N ps : List Str) (k : Nat) (fd : FuncData), FnOk X.prog X.w X.K X.mg X.base (L2.CX X.prog X.w) k f fd ps (spD fl X.K N ms g) ∧ Room k X.A ∧ PySem.W.keepIn X.K (.ref f) = true ∧ Binds X.K fd ps [] ∧ (fl ≠ .w ∧ fl ≠ .ft) ∧ ms.length ≤ N.length
inductive FnsI (X : Cx) (ms : List Md) : List Expr → List DF → Prop
  | nil : FnsI X ms [] []
  | cons {x : Str} {fl : Fl} {N ps : List Str} {g : DF} {p : Pos} {es : List Expr} {gs : List DF} : Fn X fl x N ps ms g → Gl X x → (x == ("__debug__" : Str)) = false → starEach (.Name x p :: es) X.env = (false, eval (.Name x p) X.env) :: starEach es X.env → FnsI X ms es gs → (nt : fl ≠ .ft := by intro h; cases h) → FnsI X ms (.Name x p :: es) (g :: gs)
theorem FnsI.pa {X : Cx} {ms : List Md} {es : List Expr} {gs : List DF} (h : FnsI X ms es gs) : ∃ (t : TA) (fs : List Addr), PA X es t ∧ (∀ σ H Q, Q (fs.map V.ref) H → t σ H Q) ∧ fs.length = gs.length ∧ ∀ (i : Nat) (f : Addr), fs[i]? = some f → ∃ g, gs[i]? = some g ∧ FnA X ms g f := by
  induction h with
  | nil => exact ⟨_, [], pa_nil, fun _ _ _ q => q, rfl, fun i f e => by simp at e⟩
  | @cons x fl N ps g p es gs F hg hd hs _ nt ih =>
    obtain ⟨t, fs, pt, qt, hl, hf⟩ := ih
    obtain ⟨k, f, fd, a, b, c, d, e⟩ := F.ex
    refine ⟨_, f :: fs, pa_cons (pe_glob (v := .ref f) hg c rfl hd) pt hs, fun σ H Q q => qt σ H _ q, by rw [List.length_cons, List.length_cons, hl], fun i f' e' => ?_⟩
    cases i with
    | zero => cases (Option.some.inj (by simpa using e') : f = f'); exact ⟨g, rfl, fl, N, ps, k, fd, a, b, d, e, ⟨F.nw, nt⟩, F.le⟩
    | succ i => exact hf i f' (by simpa using e')
end AH
namespace AH
open PySem PySem.Spec PyProof.Rows L2
variable [TheK]
/-! ### for x in (f(..), g(..)): x.append("..") : new lists that nobody keeps -/
section
variable {fl : Fl} {X : Cx} {Wx : WX} {e1 e2 : Expr} {m1 m2 : DE} {pos pt p p1 p2 p3 pos3 pz : Pos}
end
end AH
namespace AH
open PySem PySem.Spec PyProof.Rows L2
variable [TheK]
/-! ### min, max of a list or a tuple -/
section
variable {prog : Program} {w : World} {A : Around} {E : Value → Shared → Prop} {s : Shared} {t : Addr} {its : List Value} {ns : List Int}
end
section
variable {X : Cx} {Wx : WX} {a : Expr} {ma : DE} {p pos : Pos}
end
end AH
namespace AH
open PySem PySem.Spec PyProof.Rows L2
/-! ### try with two handlers that keep the error -/
section
variable {X : Cx} {x x2 n : Str} {c c2 : Value} {i : Nat} {body suite suite2 : List Stmt} {b₀ b₂ : Stmt} {np np2 pos pos' pos2 : Pos} {tb : WX → TS} {ts ts2 : TS} {Wout : WX}
theorem ps_try_keep2 (hs : X.stack = X.env :: X.outer) (hf : X.env.frame = some X.env.locals) (hex : X.ex = []) (hN : X.N.Nodup) (hi : X.N[i]? = some n) (hln : X.env.kindOf n = some .local) (hc : Names X x c) (hc2 : Names X x2 c2) (tk : Takes X Wout)
    (hb : ∀ (W : WX) (pn : List (Addr × Obj)) (xe : Value → Shared → Prop),  Takes (X.tr pn xe) W → PassesOwn (model X.prog X.w) X.A X.env xe → PSs (X.tr pn xe) body (tb W))
    (hsu : ∀ (a : Addr) (pn : List (Addr × Obj)), PSs (X.suite a pn) (b₀ :: suite) ts)
    (hsu2 : ∀ (a : Addr) (pn : List (Addr × Obj)), PSs (X.suite a pn) (b₂ :: suite2) ts2) :
    PS X (.Try body [.ExceptHandler (some (.Name x np)) (some n) (b₀ :: suite) pos', .ExceptHandler (some (.Name x2 np2)) (some n) (b₂ :: suite2) pos2] [] [] pos) (fun D σ H => tb (wKp X.K c i ts (wKp X.K c2 i ts2 Wout D) D) D σ H) := by
  refine ⟨fun pins s σ H D I h => ?_⟩; have ok := I.ok
  have hff : X.A.frames = some (X.env :: X.outer) := by rw [ok.frames, hs]
  have hlo : Loc X.env.scope n := .inl hln
  refine wpAny_Try_except ?_
  refine wpAny_mono ((hb (wKp X.K c i ts (wKp X.K c2 i ts2 Wout D) D) (X.pn ++ pins) (fun e s₁ => wpAny (model X.prog X.w) X.A (noteFrame e X.env) (fun _ s₂ => wpAny (model X.prog X.w) X.A (setFlight e none) (fun _ s₃ =>
    wpAny (model X.prog X.w) X.A (handleBy e X.env [.ExceptHandler (some (.Name x np)) (some n) (b₀ :: suite) pos', .ExceptHandler (some (.Name x2 np2)) (some n) (b₂ :: suite2) pos2]) (SP X pins D) X.xe s₃) X.xe s₂) X.xe s₁) (fun u s' xw => ?_) PassesOwn.looking).run [] s σ H D (I.toTry _) h) (fun f s1 sp1 => ?_) (fun e s1 he => he)
  · obtain ⟨a, B, sI, pins', σ', H', cls, d, rfl, Y', nb, uq, sk, na, os, ag, b, mb1, yes, nay⟩ := xw
    have Y : Inv X pins σ' H' sI := Y'.ofTry ok
    have sk' : Sky B (X.env :: X.outer) a (Zc cls d) X.env.locals s'.heap := by rw [← hs]; exact sk
    refine Sky.land Zc.steady hff hf sk' fun h3 fy3 uq3 => ?_
    have Y3 : Inv X pins σ' H' { s' with heap := h3 } := Y.landed nb fy3.1 (uq.trans uq3) os ag
    obtain ⟨ob3, ws3, at3, zc3, da3⟩ := fy3.there
    have isNoFr : ∀ {h : Heap} {o : Obj} {vs : Array Value}, h.FunFrames B (X.env :: X.outer) → h.get? a = some o → o.data = .fields vs → a ∉ frs (X.env :: X.outer) := fun {h o vs} ff e dd hm => by
      obtain ⟨_, o2, e2, hn2⟩ := ff.mem hm
      rw [e] at e2; cases e2
      exact hn2 _ dd
    have nofr := isNoFr fy3.2.2.1 at3 da3
    have nL : a ≠ X.env.locals := fun z => nofr (List.mem_filterMap.mpr ⟨X.env, List.mem_cons_self, by rw [hf, z]⟩)
    have nF : a ∉ X.fs := fun hmm => by
      obtain ⟨e, he, q⟩ := List.mem_filterMap.mp hmm
      exact nofr (List.mem_filterMap.mpr ⟨e, List.mem_cons_of_mem _ he, q⟩)
    have nB : B.get? a = none := fy3.2.1
    have nI : sI.heap.get? a = none := by
      cases q : sI.heap.get? a with
      | none => rfl
      | some o =>
        have z := nb a o q (by rw [hs]; exact nofr)
        rw [nB] at z; cases z
    have n00 : X.s_0.heap.get? a = none := by
      cases q : X.s_0.heap.get? a with
      | none => rfl
      | some o =>
        obtain ⟨o', z⟩ := Y.base.there a o q (by rw [hex]; simp)
        rw [nI] at z; cases z
    have npn : ∀ p ∈ X.pn ++ pins, p.1 ≠ a := fun p hp z => by
      obtain ⟨e, _⟩ := Y.pin p hp
      rw [z, nI] at e; cases e
    have Z3 := Y3.suite at3 da3 na nL nF
    refine wpAny_handleBy_cons (codeAny_handlers_test ?_) (by intro z; cases z)
    have lty : PySem.W.Looks (model X.prog X.w) h3 (typeOf (.ref a)) cls := fun A Q E s k q => wpAny_typeOf_ref (k _ _ at3) (by rw [zc3.1]; exact q)
    have lmt := PySem.W.exm_one (M := model X.prog X.w) (Y3.kIn) lty mb1
    have tst : ∀ {Q : Value → Shared → Prop} {E : Value → Shared → Prop}, Q c { s' with heap := h3 } → wpAny (model X.prog X.w) (X.A.mark (some (.ref a))) (eval (.Name x np) X.env) Q E { s' with heap := h3 } := fun {Q E} q => by
      obtain ⟨hg, hdg, hm | ⟨hm, hv, hnn⟩⟩ := hc
      · exact ld_glob (X := X.suite a ((a, ob3) :: (X.pn ++ pins))) Z3 hg hm q hdg
      · exact ld_blt (X := X.suite a ((a, ob3) :: (X.pn ++ pins))) Z3 hg hm hv q hnn hdg
    refine tst (lmt.here ?_)
    cases b with
    | true =>
      refine codeAny_handlers_suite_as (HandSPX.lands_againZ fy3 fun h4 fy4 uq4 => ?_)
      have Y4 : Inv X pins σ' H' { s' with heap := h4 } := Y.landed nb fy4.1 ((uq.trans uq3).trans uq4) os ag
      obtain ⟨ob4, ws4, at4, zc4, da4⟩ := fy4.there
      have Z4 := Inv.suiteK Y4 at4 da4 zc4 na nL n00 npn
      refine store_ok (X := X.suite a (X.pn ++ pins)) (v := .ref a) Z4 hN hi hlo rfl (fun s5 Z5 => ?_) (.inr hln)
      refine wpAny_mono ((hsu a (X.pn ++ pins)).run [] s5 _ _ _ Z5 (yes rfl a na)) (fun f s6 sp1 => ?_) (fun _ _ z => False.elim z)
      have fin_ : ∀ {τ6 : L2.St} {G6 : Hp} {Q : Shared → Prop}, Inv (X.suite a (X.pn ++ pins)) [] τ6 G6 s6 → (∀ s7, Inv X pins (τ6.set i none) G6 s7 → Q s7) →
          wpAny (model X.prog X.w) X.A (do bindName X.env n .none; unbindBehindTheSuite X.env n pos') (fun _ s7 => Q s7) X.xe s6 := fun {τ6 G6 Q} Z6 hq => gone_ok (Inv.unsuiteK Z6 ok) hN hi hln hq
      cases f with
      | next =>
        obtain ⟨τ6, G6, Z6, w6⟩ := sp1
        exact fin_ Z6 fun s7 Y7 => ⟨_, _, Y7, w6⟩
      | brk =>
        obtain ⟨τ6, G6, Z6, w6⟩ := sp1
        exact fin_ Z6 fun s7 Y7 => ⟨_, _, Y7, w6⟩
      | cont =>
        obtain ⟨τ6, G6, Z6, w6⟩ := sp1
        exact fin_ Z6 fun s7 Y7 => ⟨_, _, Y7, w6⟩
      | ret u =>
        obtain ⟨vl6, τ6, G6, Z6, rl6, w6⟩ := sp1
        exact fin_ Z6 fun s7 Y7 => ⟨_, _, _, Y7, rl6, w6⟩
    | false =>
      obtain ⟨b2, mb2, yes2, nay2⟩ := nay rfl
      refine wpAny_handleBy_cons (codeAny_handlers_test ?_) (by intro z; cases z)
      have lmt2 := PySem.W.exm_one (M := model X.prog X.w) (Y3.kIn) lty mb2
      have tst2 : ∀ {Q : Value → Shared → Prop} {E : Value → Shared → Prop}, Q c2 { s' with heap := h3 } → wpAny (model X.prog X.w) (X.A.mark (some (.ref a))) (eval (.Name x2 np2) X.env) Q E { s' with heap := h3 } := fun {Q E} q => by
        obtain ⟨hg, hdg, hm | ⟨hm, hv, hnn⟩⟩ := hc2
        · exact ld_glob (X := X.suite a ((a, ob3) :: (X.pn ++ pins))) Z3 hg hm q hdg
        · exact ld_blt (X := X.suite a ((a, ob3) :: (X.pn ++ pins))) Z3 hg hm hv q hnn hdg
      refine tst2 (lmt2.here ?_)
      cases b2 with
      | true =>
        refine codeAny_handlers_suite_as (HandSPX.lands_againZ fy3 fun h4 fy4 uq4 => ?_)
        have Y4 : Inv X pins σ' H' { s' with heap := h4 } := Y.landed nb fy4.1 ((uq.trans uq3).trans uq4) os ag
        obtain ⟨ob4, ws4, at4, zc4, da4⟩ := fy4.there
        have Z4 := Inv.suiteK Y4 at4 da4 zc4 na nL n00 npn
        refine store_ok (X := X.suite a (X.pn ++ pins)) (v := .ref a) Z4 hN hi hlo rfl (fun s5 Z5 => ?_) (.inr hln)
        refine wpAny_mono ((hsu2 a (X.pn ++ pins)).run [] s5 _ _ _ Z5 (yes2 rfl a na)) (fun f s6 sp1 => ?_) (fun _ _ z => False.elim z)
        have fin_ : ∀ {τ6 : L2.St} {G6 : Hp} {Q : Shared → Prop}, Inv (X.suite a (X.pn ++ pins)) [] τ6 G6 s6 → (∀ s7, Inv X pins (τ6.set i none) G6 s7 → Q s7) →
            wpAny (model X.prog X.w) X.A (do bindName X.env n .none; unbindBehindTheSuite X.env n pos2) (fun _ s7 => Q s7) X.xe s6 := fun {τ6 G6 Q} Z6 hq => gone_ok (Inv.unsuiteK Z6 ok) hN hi hln hq
        cases f with
        | next =>
          obtain ⟨τ6, G6, Z6, w6⟩ := sp1
          exact fin_ Z6 fun s7 Y7 => ⟨_, _, Y7, w6⟩
        | brk =>
          obtain ⟨τ6, G6, Z6, w6⟩ := sp1
          exact fin_ Z6 fun s7 Y7 => ⟨_, _, Y7, w6⟩
        | cont =>
          obtain ⟨τ6, G6, Z6, w6⟩ := sp1
          exact fin_ Z6 fun s7 Y7 => ⟨_, _, Y7, w6⟩
        | ret u =>
          obtain ⟨vl6, τ6, G6, Z6, rl6, w6⟩ := sp1
          exact fin_ Z6 fun s7 Y7 => ⟨_, _, _, Y7, rl6, w6⟩
      | false =>
        refine wpAny_handleBy_nil (?_)
        obtain ⟨k1, k2, k3, oe, vs, T, oT, ts', he, hz, hd, h1, hr⟩ := id fy3
        unfold PySem.passOn
        refine wpAny_bind (wpAny_field he hd h1 (?_)); rw [if_neg (show ¬ ((Value.ref T == Value.none) = true) by simp)]
        have finn : wpAny (model X.prog X.w) X.A (setFlight (.ref a) X.env.frame) (fun _ s4 => wpAny (model X.prog X.w) X.A (throw (.ref a) : Sem Flow) (SP X pins D) X.xe s4) X.xe { s' with heap := h3 } := by
          rw [hf]
          refine HandSPX.setFlight_upZ fy3 fun h4 hh4 uq4 => wpAny_throw (tk _ _ ?_)
          exact ⟨a, B, sI, pins, σ', H', cls, d, rfl, Y, nb, (uq.trans uq3).trans uq4, .inr (.inr (by rw [hs]; exact hh4)), na, os, ag, nay2 rfl⟩
        first
          | exact wpAny_bind (wpAny_pure (wpAny_bind finn))
          | exact wpAny_bind finn
  · cases f with
    | next =>
      obtain ⟨σ', H', Y', q⟩ := sp1
      exact wpAny_execs_nil ⟨σ', H', Y'.ofTry ok, q⟩
    | brk =>
      obtain ⟨σ', H', Y', q⟩ := sp1
      exact ⟨σ', H', Y'.ofTry ok, q⟩
    | cont =>
      obtain ⟨σ', H', Y', q⟩ := sp1
      exact ⟨σ', H', Y'.ofTry ok, q⟩
    | ret u =>
      obtain ⟨v, σ', H', Y', r, q⟩ := sp1
      exact ⟨v, σ', H', Y'.ofTry ok, r, q⟩
end
end AH
namespace AH
open PySem PySem.Spec PyProof.Rows L2
variable [TheK]
/-- the handler's suite, the error in slot i -/
def hdlX (i : Nat) (ms : DS) (e1 : Env) (c' : Str) (fs : List D) : R Out := if isOwn (sl e1 i) || !decide (i < e1.length) then .bad else match ms (put e1 i (.val (.exc c' [] fs))) with
  | .ok .nx e3 => .ok .nx (put e3 i .no)
  | _ => .bad
def sTry2X (c c2 : Str) (i : Nat) (ms ms2 m : DS) : DS := fun e => match m e with
  | .ok o e1 => .ok o e1
  | .ex c' fs e1 => if c' = c then hdlX i ms e1 c' fs else if c' = c2 then hdlX i ms2 e1 c' fs else .ex c' fs e1
  | .bad => .bad
section
variable {fl : Fl} {X : Cx} {Wx W1 W2 : WX} {n c c2 : Str} {i : Nat} {body : List Stmt} {s1 s2 : Stmt} {m ms ms2 : DS} {np np2 pos pos' pos2 : Pos}
theorem hdl_run {K : PySem.W.Frag} {F : Fm} {O O1 : Nat → Option Addr} {e1 : Env} {σ1 : L2.St} {H H1 : Hp} {D : Ends} {c' : Str} {fs : List AH.D} {cls : Value} {d : Option Addr} {E : Str → List AH.D → Env → Prop} (hK : K = TheK.K) (S1 : SR K F O1 e1 σ1 H1) (k1 : KeS O H O1 H1) (xr : XR K (Ow F O1) c' fs cls d H1)
    (w : Want (fun _ : Env => hdlX i ms e1 c' fs) e1 (Post fl K F O H D) E) (a : Addr) (na : H1 a = none) :
    tSs fl K ms W1 { nx := fun σ' H' => D.nx (σ'.set i none) H', rt := D.rt, bk := fun σ' H' => D.bk (σ'.set i none) H', ct := fun σ' H' => D.ct (σ'.set i none) H' } (σ1.set i (some (.ref a))) (upd H1 a (CgO cls d a)) := by
  unfold Want hdlX at w
  cases hoo : (isOwn (sl e1 i) || !decide (i < e1.length)) with
  | true => rw [hoo] at w; exact w.elim
  | false =>
  rw [hoo] at w
  simp only [Bool.false_eq_true, if_false] at w
  have hmem := xr.1.2
  have ecls := xr.1.1
  have nW : ¬ Ow F O1 a := fun z => S1.prot a z na
  have S2 : SR K F O1 e1 σ1 (upd H1 a (CgO cls d a)) := S1.newX na
  have ke1 : Ke (Jo O1) H1 (upd H1 a (CgO cls d a)) := Ke.new na
  have r : Rep (Ow F O1) (upd H1 a (CgO cls d a)) (.ref a) (.exc c' [] fs) := by
    obtain ⟨_, x2⟩ := xr
    have ea : upd H1 a (CgO cls d a) a = some (CgO (.ref (He.ga TheK.K c')) d a) := by rw [upd_same, ecls, hK]
    cases d with
    | none =>
      have x2 : fs = [] := x2
      subst x2
      exact .exc (vs := []) nW hmem ea (fun _ => rfl) (fun d z => by cases z) .nil
    | some dd =>
      obtain ⟨y0, vs, y1, y2, y3⟩ := x2
      exact .exc (vs := vs) nW hmem ea (fun z => by cases z) (fun d z => by cases z; exact ⟨y0, by rw [upd_ne (ne_of_none y1 na)]; exact y1, y2⟩) (y3.mono (Ke.new na))
  have S3 := S2.setVal (i := i) r
  refine ⟨F, _, _, S3, ?_⟩
  unfold Want
  cases hm : ms (put e1 i (.val (.exc c' [] fs))) with
  | bad => rw [hm] at w; exact w.elim
  | ex _ _ _ => rw [hm] at w; exact w.elim
  | ok o e3 =>
    rw [hm] at w
    cases o with
    | nx =>
      have w : Post fl K F O H D .nx (put e3 i .no) := w
      intro O2 σ2 H2 S4 k2
      have kn : KeS O1 H1 (setO O1 i none) (upd H1 a (CgO cls d a)) := ⟨ke1, fun b z => .inl (jo_setN z)⟩
      exact w _ _ _ (S4.dropS (i := i) (o := none)) ((k1.trans kn).trans (k2.trans ⟨Ke.refl, fun b z => .inl (jo_setN z)⟩))
    | rt _ => exact w.elim
    | bk => exact w.elim
    | ct => exact w.elim
theorem sd_try2X (hs : X.stack = X.env :: X.outer) (hf : X.env.frame = some X.env.locals) (hex : X.ex = []) (hN : X.N.Nodup) (hi : X.N[i]? = some n) (hln : X.env.kindOf n = some .local)
    (hK : X.K = TheK.K) (hg : Gl X c) (hdb : (c == ("__debug__" : Str)) = false) (hm : X.mg c = some (.ref (He.ga X.K c))) (hx : ∀ c' ∈ TheK.xs, PySem.W.exmOne X.K (.ref (He.ga X.K c')) (.ref (He.ga X.K c)) = some (decide (c' = c)))
    (hg2 : Gl X c2) (hdb2 : (c2 == ("__debug__" : Str)) = false) (hm2 : X.mg c2 = some (.ref (He.ga X.K c2))) (hx2 : ∀ c' ∈ TheK.xs, PySem.W.exmOne X.K (.ref (He.ga X.K c')) (.ref (He.ga X.K c2)) = some (decide (c' = c2))) (tk : Takes X Wx)
    (hb : ∀ (W : WX) (pn : List (Addr × Obj)) (xe : Value → Shared → Prop), Takes (X.tr pn xe) W → PassesOwn (model X.prog X.w) X.A X.env xe → SsD fl (X.tr pn xe) W body m)
    (hsu : ∀ (a : Addr) (pn : List (Addr × Obj)), SsD fl (X.suite a pn) (fun _ _ _ _ => False) [s1] ms) (hsu2 : ∀ (a : Addr) (pn : List (Addr × Obj)), SsD fl (X.suite a pn) (fun _ _ _ _ => False) [s2] ms2) :
    SD fl X Wx (.Try body [.ExceptHandler (some (.Name c np)) (some n) [s1] pos', .ExceptHandler (some (.Name c2 np2)) (some n) [s2] pos2] [] [] pos) (sTry2X c c2 i ms ms2 m) := by
  refine ⟨_, ps_try_keep2 (tb := tSs fl X.K m) (ts := tSs fl X.K ms fun _ _ _ _ => False) (ts2 := tSs fl X.K ms2 fun _ _ _ _ => False) hs hf hex hN hi hln (c := .ref (He.ga X.K c)) (c2 := .ref (He.ga X.K c2)) ⟨hg, hdb, .inl hm⟩ ⟨hg2, hdb2, .inl hm2⟩ tk (fun W pn xe t p => SsD.pss (hb W pn xe t p)) (fun a pns => SsD.pss (hsu a pns)) (fun a pns => SsD.pss (hsu2 a pns)), fun F O env σ H D S w => ?_⟩
  refine ⟨F, O, env, S, ?_⟩
  unfold Want at w ⊢
  unfold sTry2X at w
  cases hm : m env with
  | bad => rw [hm] at w; exact w
  | ok o e1 => rw [hm] at w; exact w
  | ex c' fs e1 =>
    rw [hm] at w
    simp only at w ⊢
    intro O1 σ1 cls d H1 S1 k1 xr
    have hmem := xr.1.2
    have ecls := xr.1.1
    refine ⟨decide (c' = c), by rw [ecls]; exact hx c' hmem, fun hb a na => ?_, fun hb => ?_⟩
    · rw [if_pos (of_decide_eq_true hb)] at w
      exact hdl_run (E := XWs X.K F O H Wx) hK S1 k1 xr w a na
    · rw [if_neg (of_decide_eq_false hb)] at w
      refine ⟨decide (c' = c2), by rw [ecls]; exact hx2 c' hmem, fun hb2 a na => ?_, fun hb2 => ?_⟩
      · rw [if_pos (of_decide_eq_true hb2)] at w
        exact hdl_run (E := XWs X.K F O H Wx) hK S1 k1 xr w a na
      · rw [if_neg (of_decide_eq_false hb2)] at w
        exact w O1 σ1 cls d H1 S1 k1 xr
end
/-! ### xs.count(x), ints -/
section
variable {X : Cx} {Wx : WX} {a b : Expr} {ma mb : DE} {apos cpos : Pos}
end
end AH
namespace AH
open PySem PySem.Spec PyProof.Rows L2
/-! ### min of a list of plain data that can be compared -/
section
variable {X : Cx}
end
section
variable [TheK] {X : Cx} {Wx : WX} {a : Expr} {ma : DE} {p pos : Pos}
end
end AH
namespace AH
open PySem PySem.Spec PyProof.Rows L2 PySem.F
/-! ### set of a list of ints: what it makes is known as set of a tuple's is -/
section
variable {P : Program} {w : World} {A : Around} {E : Value → Shared → Prop} {s : Shared}
end
section
variable {X : Cx}
end
section
variable [TheK] {X : Cx} {Wx : WX} {a : Expr} {ma : DE} {p p2 pos pos2 : Pos}
end
end AH
namespace AH
open PySem PySem.Spec PyProof.Rows L2
variable [TheK]
/-! ### tuple(range(..)) -/
section
variable {X : Cx} {Wx : WX} {b : Expr} {mb : DE} {p p2 p3 pos : Pos}
end
end AH
namespace AH
open PySem PySem.Spec PyProof.Rows L2
variable [TheK]
/-! ### xs.index(x), ints, x there -/
section
variable {X : Cx} {Wx : WX} {a b : Expr} {ma mb : DE} {apos cpos : Pos}
end
end AH
namespace AH
open PySem PySem.Spec PyProof.Rows L2
variable [TheK]
/-! ### while, so many turns at the most -/
section
variable {fl : Fl} {X : Cx} {Wx : WX} {c : Expr} {mt : DT} {m : DS} {body : List Stmt} {pos : Pos}
end
end AH
namespace AH
open PySem PySem.Spec PyProof.Rows L2
/-! ### max(d.values()), min(d.values()) of ints -/
section
variable {prog : Program} {w : World} {A : Around} {E : Value → Shared → Prop} {s : Shared} {v d : Addr} {es : Array DictEntry} {ep : Nat} {ns : List Int}
end
section
variable [TheK] {X : Cx} {Wx : WX} {e : Expr} {td : TE} {p apos cpos pos : Pos}
end
end AH
namespace AH
open PySem PySem.Spec PyProof.Rows L2
variable [TheK]
/-! ### defs with defaults for their last parameters -/
structure KnV (P : Program) (w : World) (K : PySem.W.Frag) (mg : Str → Option Value) (base : Heap) (fl : Fl) (x : Str) (st : Stmt) (N ps : List Str) (ms : List Md) (g : DF) (k : Nat) (dvs : List V) : Prop where
  ex : ∃ (f : Addr) (fd : FuncData), FnOk P w K mg base (L2.CX P w) k f fd ps (spD fl K N ms g) ∧ mg x = some (.ref f) ∧ FunD K x x (defArgs st) (defBody st) (defScope st) dvs [] f fd ∧ Binds K fd ps [] ∧ ∃ ds, Vals dvs ds ∧ Binds K fd ps ds
  nw : fl ≠ .w
  le : ms.length ≤ N.length
  dv : dvs ≠ []
section
variable {P : Program} {w : World} {K : PySem.W.Frag} {mg : Str → Option Value} {base : Heap} {fl : Fl} {x : Str} {st : Stmt} {N ps : List Str} {ms : List Md} {g : DF} {k : Nat} {m : DS} {dvs : List V}
/-- THE RULE for such a def -/
theorem KnV.fn {X : Cx} (F : KnV X.prog X.w X.K X.mg X.base fl x st N ps ms g k dvs) {j : Nat} (hr : Room j X.A) (h : k ≤ j := by decide) : Fn X fl x N ps ms g := by
  obtain ⟨⟨f, fd, a, b, c, d, _⟩, e1, e2, _⟩ := F
  exact ⟨⟨k, f, fd, a, hr.mono h, b, c.kp, d⟩, e1, e2⟩
end
/-- a def with defaults, called without the last ones -/
structure FnV (X : Cx) (fl : Fl) (x : Str) (N ps : List Str) (ms : List Md) (g : DF) (dvs : List V) : Prop where
  ex : ∃ (k : Nat) (f : Addr) (fd : FuncData) (ds : List Value), FnOk X.prog X.w X.K X.mg X.base (L2.CX X.prog X.w) k f fd ps (spD fl X.K N ms g) ∧ Room k X.A ∧ X.mg x = some (.ref f) ∧ PySem.W.keepIn X.K (.ref f) = true ∧ Vals dvs ds ∧ Binds X.K fd ps ds
  nw : fl ≠ .w
  le : ms.length ≤ N.length
section
variable {X : Cx} {Wx : WX} {e : Expr} {es : List Expr} {ms : List Md} {as : List Arg} {ma : DE} {p pos : Pos} {i : Int} {fl : Fl} {N ps : List Str} {g : DF} {x : Str}
end
end AH
namespace AH
open PySem PySem.Spec PyProof.Rows L2
/-! ### an exception class that keeps its one value as a tuple -/
def ZXT (K : PySem.W.Frag) (C : Addr) (f : Str) : List V → Hp → VK → Prop := fun vs H Q => (∃ p ys, vs[1]? = some (.ref p) ∧ SqT K H p ys) ∧ ZX C [f] vs H Q
section
variable {P : Program} {w : World} {K : PySem.W.Frag} {mg : Str → Option Value} {base : Heap} {B newId initId : String} {bmB : List Value} {C f : Addr} {qual : Str} {params : Arguments} {scope : Scope} {fd : FuncData}
end
section
variable [TheK] {X : Cx} {B newId initId : String} {bmB : List Value} {C fI : Addr} {fd : FuncData} {ps : List Str} {fN : Str} {e : Expr} {es : List Expr} {ta : TA} {c : Str} {p pos : Pos}
end
section
variable [TheK]
/-- what is known of an own exception class that keeps a tuple -/
structure XcT (P : Program) (w : World) (K : PySem.W.Frag) (mg : Str → Option Value) (base : Heap) (c : Str) : Prop where
  ex : ∃ (B newId initId : String) (bmB : List Value) (fI : Addr) (fd : FuncData) (ps : List Str) (f : Str), fieldsOf c = [f] ∧ XB B newId initId bmB ∧ XK1 K (He.ga K c) bmB newId ∧ PySem.W.findIn K (.ref (He.ga K c)) "__init__" = some (some (.ref fI)) ∧ PySem.W.typeIn K (.ref fI) = some (.type "function") ∧
    FnOk P w K mg base CX0 1 fI fd ps (spXi (He.ga K c) 2 (ZXT K (He.ga K c) f)) ∧ Binds K fd ps []
  mg : mg c = some (.ref (He.ga K c))
end
end AH
namespace AH
open PySem PySem.Spec PyProof.Rows L2
/-! ### dict(f(x)) where f answers a new tuple of pairs -/
section
variable {X : Cx}
end
section
variable [TheK] {X : Cx} {Wx : WX} {a : Expr} {ma : DE} {x : Str} {p pos : Pos}
end
end AH
/-! an own exception class called with keywords -/
namespace PySem.HandSPX
open PySem PyProof.Rows
section
variable {M : Model} {A : Around} {E : Value → Shared → Prop} {h : Heap} {g : Array GenState} {d : Drawn} {t : Nat} {os : OsState}
variable {nm q : Str} {C N : Addr} {bs bm bmB : List Value} {hdct : Bool} {sn : List Str} {sub : List Value} {ab : Bool} {col : Option Bool} {dd : Option Addr} {k0 k1 k2 k3 k5 : Option Value} {B newId initId : String} {kw : List (Str × Value)}
end
section
variable {prog : Program} {w : World} {A : Around} {E : Value → Shared → Prop} {R : Result → Shared → Prop} {h : Heap} {g : Array GenState} {d : Drawn} {t : Nat} {os : OsState}
variable {nm q : Str} {C N : Addr} {bs bm bmB : List Value} {hdct : Bool} {sn : List Str} {sub : List Value} {ab : Bool} {col : Option Bool} {dd : Option Addr} {k0 k1 k2 k3 k5 : Option Value} {B newId initId : String} {kw : List (Str × Value)}
end
end PySem.HandSPX
namespace AH
open PySem PySem.Spec PyProof.Rows L2
/-! ### exceptions as values -/
section
variable {X : Cx} {σ : L2.St} {H : Hp} {pins : List (Addr × Obj)} {s : Shared}
end
/-! ### C(..): the call of the class -/
section
variable {X : Cx} {B newId initId : String} {bmB : List Value} {C fI : Addr} {fd : FuncData} {ps : List Str} {n : Nat} {Z : List V → Hp → VK → Prop} {pins : List (Addr × Obj)} {σ : L2.St} {H1 : Hp} {s1 : Shared} {Q : L2.XK}
end
end AH
namespace AH
open PySem PySem.Spec PyProof.Rows L2
/-! ### an exception class that keeps its one value as a tuple: of a list or of a tuple -/
section
variable {P : Program} {w : World} {K : PySem.W.Frag} {mg : Str → Option Value} {base : Heap} {B newId initId : String} {bmB : List Value} {C f : Addr} {qual : Str} {params : Arguments} {scope : Scope} {fd : FuncData}
end
/-! ### the class is called: by places, by names -/
/-- what is known of the class: its __init__ -/
structure XcG (P : Program) (w : World) (K : PySem.W.Frag) (mg : Str → Option Value) (base : Heap) (c : Str) (n : Nat) (Z : Addr → List V → Hp → VK → Prop) (nu : Nat) (ks : List Str) (ix : List Nat) : Prop where
  ex : ∃ (B newId initId : String) (bmB : List Value) (fI : Addr) (fd : FuncData) (ps : List Str), XB B newId initId bmB ∧ XK1 K (He.ga K c) bmB newId ∧ PySem.W.findIn K (.ref (He.ga K c)) "__init__" = some (some (.ref fI)) ∧ PySem.W.typeIn K (.ref fI) = some (.type "function") ∧
    FnOk P w K mg base CX0 1 fI fd ps (spXi (He.ga K c) n (Z (He.ga K c))) ∧ ∀ (s : Shared) (u : Value) (us ws : List Value), us.length = nu → ws.length = ks.length → BindsTo s fd ⟨u :: us, ks.zip ws⟩ (ps.zip (u :: perm ix (us ++ ws)))
  mg : mg c = some (.ref (He.ga K c))
section
variable [TheK] {X : Cx} {c : Str} {n nu j : Nat} {Z : Addr → List V → Hp → VK → Prop} {ks : List Str} {ix : List Nat} {kws : List Keyword} {e : Expr} {es : List Expr} {p pos : Pos} {ta : TA}
end
/-! ### what is kept -/
section
variable [TheK] {K : PySem.W.Frag} {C a : Addr} {H1 : Hp} {Q : L2.XK} {fsN : List Str} {vs : List V} {f : Str} {p : Addr} {ys : List V}
end
variable [TheK]
/-! ### .. as data -/
section
variable {K : PySem.W.Frag} {F : Fm} {O : Nat → Option Addr} {e1 : Env} {σ : L2.St} {H1 H' : Hp} {a : Addr} {dd : Option Addr} {c : Str} {vs : List V} {ds : List D}
end
section
variable {X : Cx} {Wx : WX} {c f : Str} {n nu j : Nat} {ks : List Str} {ix : List Nat} {kws : List Keyword} {e : Expr} {es : List Expr} {r : DL} {p pos : Pos}
end
/-! ### isinstance(error, C), isinstance(error, (B, B')) -/
structure XkF (K : PySem.W.Frag) (mg : Str → Option Value) (y : Str) : Prop where
  g : mg y = some (.ref (He.ga K y))
  k : ∀ c ∈ TheK.xs, PySem.W.kitOne K (.ref (He.ga K c)) (.ref (He.ga K y)) = some (decide (c = y))
  x : ∀ c ∈ TheK.xs, ExcC K (He.ga K c)
section
variable {X : Cx} {Wx : WX} {a : Expr} {ma : DE} {p p2 pos : Pos}
/-- none of two built-in classes -/
structure XnF (K : PySem.W.Frag) (B1 B2 : String) : Prop where
  a : ∀ c ∈ TheK.xs, PySem.W.kitOne K (.ref (He.ga K c)) (.type B1) = some false
  b : ∀ c ∈ TheK.xs, PySem.W.kitOne K (.ref (He.ga K c)) (.type B2) = some false
  x : ∀ c ∈ TheK.xs, ExcC K (He.ga K c)
end
end AH
namespace AH
open PySem PySem.Spec PyProof.Rows L2
section
variable [TheK]
/-- an own exception class without fields under LookupError -/
structure XcL (K : PySem.W.Frag) (mg : Str → Option Value) (c : Str) : Prop where
  q : PySem.W.excIn K (He.ga K c) lT "LookupError.__new__" = true
  g : mg c = some (.ref (He.ga K c))
  k : PySem.W.keepIn K (.ref (He.ga K c)) = true
  b : PySem.W.subIn K (.ref (He.ga K c)) (.type "BaseException") = some true
  t : PySem.W.typeIn K (.ref (He.ga K c)) = some (.type "type")
variable {X : Cx} {Wx : WX} {c : Str} {p pos : Pos}
end
/-! ### the head's looks -/
end AH
namespace AH
open PySem PySem.W PySem.Spec PySem.Calls PyProof.Rows PyProof.V L2
/-! ### dict(zip(a, b)), lists or tuples -/
section
variable {prog : Program} {w : World}
end
section
variable {X : Cx}
end
section
variable [TheK] {X : Cx} {Wx : WX} {a b : Expr} {ma mb : DE} {p p2 pos pos2 : Pos}
end
end AH
namespace AH
open PySem PySem.Spec PyProof.Rows L2
/-! ### a def that only reads: the heap stays -/
section
variable {prog : Program} {w : World} {A : Around} {E : Value → Shared → Prop} {s : Shared} {K : PySem.W.Frag} {x : Str} {st : Stmt} {f : Addr} {fd : FuncData} {ps : List Str} {us : List Value} {Q : Value → Shared → Prop}
end
section
variable {prog : Program} {w : World} {A : Around} {s : Shared} {name x : Str} {scope : Scope} {L f : Addr} {cd : Value} {h₀ : Heap} {m : Str → Option Value} {a : Addr} {u v : Value}
end
/-! ### sorted(xs, key=f), f such a def -/
/-- a key def of the text -/
structure KeyD (K : PySem.W.Frag) (mg : Str → Option Value) (x : Str) (f : Addr) : Prop where
  mg : mg x = some (.ref f)
  run : ∀ {prog : Program} {w : World} {A : Around} {E : Value → Shared → Prop} {s : Shared} {a : Addr} {u v : Value} {Q : Value → Shared → Prop}, K.In s.heap → s.heap.NoLimit → A.depth < recursionLimit → IsTup s.heap a #[u, v] →
    (∀ h' tk q, (∀ b o, s.heap.get? b = some o → h'.get? b = some o) → h'.get? q = some { cls := .type "tuple", data := .seq #[v, u] } → Q (.ref q) { s with heap := h', toks := tk }) → wpAny (model prog w) A (call (.ref f) [.ref a]) Q E s
section
variable {X : Cx}
end
section
variable [TheK] {X : Cx} {Wx : WX} {a : Expr} {ma : DE} {x : Str} {f : Addr} {j : Nat} {p pf pos kpos : Pos}
end
end AH
namespace AH
open PySem PySem.Spec PyProof.Rows L2
variable [TheK]
/-! ### d[k], y = a tuple of two -/
section
variable {fl : Fl} {X : Cx} {Wx : WX} {a b : Expr} {ma mb : DE} {p pos : Pos}
end
end AH
namespace AH
open PySem PySem.Spec PyProof.Rows L2
/-! ### sorted(t), t a tuple -/
section
variable {prog : Program} {w : World} {A : Around} {E : Value → Shared → Prop} {s : Shared} {tp : Addr} {us : List Value} {Q : Value → Shared → Prop}
end
section
variable {X : Cx}
end
section
variable [TheK] {X : Cx} {Wx : WX} {a : Expr} {ma : DE} {p pos : Pos}
end
end AH
namespace AH
open PySem PySem.Spec PyProof.Rows L2
variable [TheK]
/-! ### texts -/
def dStr : D → Rv D
  | .int i => if decide (i.natAbs.log2 < 1920) then .ok (.str (toString i)) else .bad
  | _ => .bad
def dIntS : D → Rv D
  | .str a => (match PySem.intText? a with
    | some n => if decide (a.length ≤ 640) then .ok (.int n) else .bad
    | none => .bad)
  | _ => .bad
/-- len, of a text too -/
def dLenA : D → Rv D
  | .str a => if decide (a.length ≤ 100000) then .ok (.int a.length) else .bad
  | x => dLen x
def dGeS : D → D → Rv Bool
  | .str a, .str b => .ok (!decide (a.cps.toList < b.cps.toList))
  | _, _ => .bad
def dLeS : D → D → Rv Bool
  | .str a, .str b => .ok (!decide (b.cps.toList < a.cps.toList))
  | _, _ => .bad
/-- a sign in a text -/
def dInS : D → D → Rv Bool
  | .str a, .str z => (match a.cps.toList with
    | [c] => .ok (decide (c ∈ z.cps.toList))
    | _ => .bad)
  | _, _ => .bad
def dNotInS (x y : D) : Rv Bool := match dInS x y with
  | .ok b => .ok (!b)
  | .bad => .bad
/-- an item, of a text too -/
def dIxA : D → D → Rv D
  | .str z, .int i => (match atI z.cps.toList i with
    | some c => if decide (z.length ≤ 100000) then .ok (.str ⟨#[c]⟩) else .bad
    | none => .bad)
  | x, y => dIx x y
def dSlS (x : D) (lo hi : Option Int) : Rv D := match x with
  | .str z => if decide (z.length ≤ 100000) then .ok (.str (cutS z lo hi)) else .bad
  | _ => .bad
def eSlS (a : DE) (lo hi : DO) : DE := a.bind fun x => lo.bind fun l => hi.bind fun h => M.of (dSlS x l h)
def strsL : List D → Option (List Str)
  | [] => some []
  | .str s :: r => (strsL r).map (s :: ·)
  | _ :: _ => none
/-- the signs of a text, one by one -/
def iChr (ma : DE) : DI := ma.bind fun x => match x with
  | .str z => M.pure (z.cps.toList.map fun c => .str ⟨#[c]⟩)
  | _ => fun _ => .bad
theorem RepL.strs {W : Pr} {H : Hp} : ∀ {xs : List D} {vs : List V} {ys : List Str}, RepL W H vs xs → strsL xs = some ys → vs = ys.map V.str
  | [], _, _, .nil, h => by cases h; rfl
  | .str s :: r, _, ys, .cons a l, h => by
    cases a
    show _ :: _ = _
    unfold strsL at h
    cases e : strsL r with
    | none => rw [e] at h; cases h
    | some zs =>
      rw [e] at h
      cases h
      rw [l.strs e]
      rfl
  | .int _ :: _, _, _, .cons _ _, h => by cases h
  | .bl _ :: _, _, _, .cons _ _, h => by cases h
  | .non :: _, _, _, .cons _ _, h => by cases h
  | .lst _ :: _, _, _, .cons _ _, h => by cases h
  | .tup _ :: _, _, _, .cons _ _, h => by cases h
  | .dic _ :: _, _, _, .cons _ _, h => by cases h
section
variable {X : Cx} {Wx : WX} {e a b c d : Expr} {ma mb mc md : DE} {pos p : Pos}
theorem cb_str1 : Cb1 .s X.K (fun xs H Q => ∃ i, xs = [.int i] ∧ i.natAbs.log2 < 1920 ∧ Q (.str (toString i)) H) dStr := by
  intro F O env σ H x dx dz Q S rx ef q
  unfold dStr at ef
  split at ef
  · obtain ⟨h, rfl⟩ := if_ok ef
    exact ⟨_, by rw [rx.int'], of_decide_eq_true h, q _ H S Ke.refl (.str _)⟩
  · cases ef
theorem pd_str1 (hb : Bn X "str" (.type "str")) (ha : PD .s X Wx a ma) (hs : starEach [a] X.env = (false, eval a X.env) :: starEach [] X.env := by rfl) : PD .s X Wx (.Call (.Name "str" p) [a] [] pos) (e1 dStr ma) := pd_t1 call_str_int cb_str1 hb ha.weak hs
theorem cb_intS : Cb1 .s X.K (fun xs H Q => ∃ a n, xs = [.str a] ∧ PySem.intText? a = some n ∧ a.length ≤ 640 ∧ Q (.int n) H) dIntS := by
  intro F O env σ H x dx dz Q S rx ef q
  unfold dIntS at ef
  split at ef
  · split at ef
    · rename_i n hn
      obtain ⟨h, rfl⟩ := if_ok ef
      exact ⟨_, n, by rw [rx.str'], hn, of_decide_eq_true h, q _ H S Ke.refl (.int _)⟩
    · cases ef
  · cases ef
theorem pd_intS (hb : Bn X "int" (.type "int")) (ha : PD .s X Wx a ma) (hs : starEach [a] X.env = (false, eval a X.env) :: starEach [] X.env := by rfl) : PD .s X Wx (.Call (.Name "int" p) [a] [] pos) (e1 dIntS ma) := pd_t1 call_int_str cb_intS hb ha.weak hs
theorem le_line {n : Nat} (h : n ≤ 100000) : n ≤ sizeLine := by rw [sizeLine_eq]; omega
theorem cb_lenA : Cb1 .s X.K (fun xs H Q => ∃ x n, xs = [x] ∧ LenV X.K x H n ∧ Q (.int n) H) dLenA := by
  intro F O env σ H x dx dz Q S rx ef q
  unfold dLenA at ef
  split at ef
  · obtain ⟨h, rfl⟩ := if_ok ef
    rw [rx.str']
    exact ⟨.str _, _, rfl, ⟨le_line (of_decide_eq_true h), rfl⟩, q _ H S Ke.refl (.int _)⟩
  · exact cb_len F O env σ H x _ dz Q S rx ef q
theorem pd_lenA (hb : Bn X "len" (.builtin "len")) (ha : PD .w X Wx a ma) (hs : starEach [a] X.env = (false, eval a X.env) :: starEach [] X.env := by rfl) : PD .s X Wx (.Call (.Name "len" p) [a] [] pos) (e1 dLenA ma) := pd_b1 call_len cb_lenA hb ha hs
theorem oc_geS : Oc X.K (fun x y H Q => ∃ i j, x = .str i ∧ y = .str j ∧ Q (.bl (!decide (i.cps.toList < j.cps.toList))) H) dGeS := by
  intro W H x y dx dy b Q rx ry ef q
  unfold dGeS at ef
  split at ef
  · cases ef
    exact ⟨_, _, rx.str', ry.str', q⟩
  · cases ef
theorem ck_geS : CmpK X .GtE dGeS := ⟨_, op_ge_str, oc_geS⟩
theorem oc_leS : Oc X.K (fun x y H Q => ∃ i j, x = .str i ∧ y = .str j ∧ Q (.bl (!decide (j.cps.toList < i.cps.toList))) H) dLeS := by
  intro W H x y dx dy b Q rx ry ef q
  unfold dLeS at ef
  split at ef
  · cases ef
    exact ⟨_, _, rx.str', ry.str', q⟩
  · cases ef
theorem ck_leS : CmpK X .LtE dLeS := ⟨_, op_le_str, oc_leS⟩
theorem oi_inS : Oi X.K (fun x y H Q => ∃ (c : Nat) (z : Str), x = .str ⟨#[c]⟩ ∧ y = .str z ∧ Q (.bl (decide (c ∈ z.cps.toList))) H) dInS := by
  intro W H x y dx dy b Q rx ry ef q
  unfold dInS at ef
  split at ef
  · rename_i a z
    split at ef
    · rename_i c hc
      cases ef
      cases rx
      refine ⟨c, z, ?_, ry.str', q⟩
      obtain ⟨⟨l⟩⟩ := a
      simp only at hc
      rw [hc]
    · cases ef
  · cases ef
theorem ik_inS : InK X .In dInS := ⟨_, op_in_sign, oi_inS⟩
theorem oi_notInS : Oi X.K (fun x y H Q => ∃ (c : Nat) (z : Str), x = .str ⟨#[c]⟩ ∧ y = .str z ∧ Q (.bl (!decide (c ∈ z.cps.toList))) H) dNotInS := by
  intro W H x y dx dy b Q rx ry ef q
  unfold dNotInS at ef
  split at ef
  · rename_i k hk
    cases ef
    obtain ⟨c, z, h1, h2, e, _⟩ := oi_inS (X := X) W H x y dx dy k (fun z H' => z = .bl k ∧ H' = H) rx ry hk ⟨rfl, rfl⟩
    injection e with e
    exact ⟨c, z, h1, h2, by rw [e]; exact q⟩
  · cases ef
theorem ik_notInS : InK X .NotIn dNotInS := ⟨_, op_notIn_sign, oi_notInS⟩
def rIxT2 (K : PySem.W.Frag) : R2 := fun x y H Q => rIxA K x y H Q ∨ rIxS x y H Q
theorem o_ixA : Op2k .s X.K (rIxT2 X.K) dIxA := by
  intro F O env σ H x y dx dy dz Q S rx ry ef q
  unfold dIxA at ef
  split at ef
  · split at ef
    · rename_i c hc
      obtain ⟨h, rfl⟩ := if_ok ef
      cases ry
      exact .inr ⟨_, _, c, rx.str', rfl, le_line (of_decide_eq_true h), hc, q _ H S Ke.refl (.str _)⟩
    · cases ef
  · exact .inl (o_ix F O env σ H x y _ _ dz Q S rx ry ef q)
theorem pd_ixA (hu : X.A.units + 65 < cLine) (ha : PD .s X Wx a ma) (hb : PD .s X Wx b mb) (hs : PlainIx b := by intro _ _; rfl) : PD .s X Wx (.Subscript a b pos) (e2 dIxA ma mb) := by
  obtain ⟨ta, pa, qa⟩ := ha
  obtain ⟨tb, pb, qb⟩ := hb
  refine ⟨_, pe_ix ((ix_any hu).or ix_str) pa pb hs, fun F O env σ H Q S w => ?_⟩
  refine qa F O env σ H _ S (w.bind.imp (fun dx e1 w1 x H1 S1 k1 p1 => ?_) fun _ _ _ z => z)
  refine qb F O e1 σ H1 _ S1 (w1.bind.imp (fun dy e2 w2 y H2 S2 k2 p2 => ?_) (XW.later k1))
  obtain ⟨dz, ef, q⟩ := w2.of
  exact o_ixA F O e2 σ H2 x y dx dy dz Q S2 (.of (Rep.mj k2 p1)) p2 ef fun z H' S' k3 p3 => q z H' S' (k1.trans (k2.trans k3)) p3
theorem pd_slS {lo hi : Option Expr} {ml mh : DO} {p2 : Pos} (ha : PD .s X Wx a ma) (hl : OD X Wx lo ml) (hh : OD X Wx hi mh) :
    PD .s X Wx (.Subscript a (.Slice lo hi none p2) pos) (eSlS ma ml mh) := by
  obtain ⟨ta, pa, qa⟩ := ha
  obtain ⟨tl, pl, ql⟩ := hl
  obtain ⟨th, ph, qh⟩ := hh
  refine ⟨_, pe_slice sl_str pa pl ph, fun F O env σ H Q S w => ?_⟩
  refine qa F O env σ H _ S (w.bind.imp (fun dx e1 w1 x H1 S1 k1 p1 => ?_) fun _ _ _ z => z)
  refine ql F O e1 σ H1 _ S1 (w1.bind.imp (fun lo e2 w2 H2 S2 k2 => ?_) (XW.later k1))
  refine qh F O e2 σ H2 _ S2 (w2.bind.imp (fun hi e3 w3 H3 S3 k3 => ?_) (XW.later (k1.trans k2)))
  obtain ⟨dz, ef, q⟩ := w3.of
  unfold dSlS at ef
  split at ef
  · obtain ⟨h, rfl⟩ := if_ok ef
    cases p1
    exact ⟨_, rfl, le_line (of_decide_eq_true h), q _ H3 S3 (k1.trans (k2.trans k3)) (.str _)⟩
  · cases ef
/-! ### methods of one argument -/
def eS1 (f : Str → D → Rv D) (ma mb : DE) : DE := ma.bind fun x => match x with
  | .str s => mb.bind fun y => M.of (f s y)
  | _ => fun _ => .bad
def Os1 (fl : Fl) (K : PySem.W.Frag) (r : V → List V → Hp → VK → Prop) (f : Str → D → Rv D) : Prop := ∀ (F : Fm) (O : Nat → Option Addr) (env : Env) (σ : L2.St) (H : Hp) (s : Str) (y : V) (dy dz : D) (Q : VK), SR K F O env σ H →
  RepW K (Ow F O) H y dy → f s dy = .ok dz → (∀ z H', SR K F O env σ H' → Ke (Jo O) H H' → Po fl K F O env σ H H' z dz → Q z H') → r (.str s) [y] H Q
theorem pd_s1 {fl : Fl} {r : V → List V → Hp → VK → Prop} {f : Str → D → Rv D} (hop : Os1 fl X.K r f) (ha : PD .s X Wx a ma) (hb : PD .w X Wx b mb) (pe : ∀ {ta tb : TE}, PE X a ta → PE X b tb → PE X e (tM1 r ta tb)) : PD fl X Wx e (eS1 f ma mb) := by
  obtain ⟨ta, pa, qa⟩ := ha
  obtain ⟨tb, pb, qb⟩ := hb
  refine ⟨_, pe pa pb, fun F O env σ H Q S w => ?_⟩
  refine qa F O env σ H _ S (w.bind.imp (fun dx e1 w1 x H1 S1 k1 p1 => ?_) fun _ _ _ z => z)
  cases p1 with
  | str s =>
    refine ⟨⟨s, rfl⟩, ?_⟩
    refine qb F O e1 σ H1 _ S1 (w1.bind.imp (fun dy e2 w2 y H2 S2 k2 p2 => ?_) (XW.later k1))
    obtain ⟨dz, ef, q⟩ := w2.of
    exact hop F O e2 σ H2 s y dy dz Q S2 p2 ef fun z H' S' k3 p3 => q z H' S' (k1.trans (k2.trans k3)) (p3.back (k1.trans k2))
  | _ => exact w1.elim
def dSplit (a : Str) : D → Rv D
  | .str b => if decide (0 < b.length) && decide (a.length ≤ 90000) then .ok (.lst ((Txt.split a b).map D.str)) else .bad
  | _ => .bad
def dPart (a : Str) : D → Rv D
  | .str b => if decide (0 < b.length) && decide (a.length ≤ 90000) then .ok (.tup [.str (Txt.partition a b).1, .str (Txt.partition a b).2.1, .str (Txt.partition a b).2.2]) else .bad
  | _ => .bad
def dJoin (a : Str) (x : D) : Rv D := match seqD x with
  | some xs => (match strsL xs with
    | some ys => if decide ((ys.map (·.length)).sum + ys.length * a.length ≤ 90000) then .ok (.str (Txt.join a ys)) else .bad
    | none => .bad)
  | none => .bad
theorem repL_strs {W : Pr} {H : Hp} : ∀ ys : List Str, RepL W H (ys.map V.str) (ys.map D.str)
  | [] => .nil
  | y :: ys => .cons (.str y) (repL_strs ys)
theorem os_split : Os1 .f X.K (fun x xs H Q => ∃ a b, x = .str a ∧ xs = [.str b] ∧ (b.length == 0) = false ∧ a.length + 2 ≤ sizeLine ∧ rNewStrs (Txt.split a b) H Q) dSplit := by
  intro F O env σ H s y dy dz Q S ry ef q
  unfold dSplit at ef
  split at ef
  · rename_i b
    obtain ⟨h, rfl⟩ := if_ok ef
    obtain ⟨h1, h2⟩ := Bool.and_eq_true_iff.mp h
    have h1 := of_decide_eq_true h1
    have h2 := of_decide_eq_true h2
    exact ⟨s, b, rfl, by rw [ry.str'], by simpa using (by omega : b.length ≠ 0), by rw [sizeLine_eq]; omega, fun p hp => new_lst S (repL_strs _) q hp⟩
  · cases ef
theorem pd_split {apos : Pos} (ha : PD .s X Wx a ma) (hb : PD .s X Wx b mb) (hs : starEach [b] X.env = [(false, eval b X.env)] := by rfl) (hbase : attributeBase a "split" X.env (eval a X.env) = eval a X.env := by rfl) (hline : (apos.endLine == pos.line) = true := by rfl) :
    PD .f X Wx (.Call (.Attribute a "split" apos) [b] [] pos) (eS1 dSplit ma mb) := pd_s1 os_split ha hb.weak fun p q => pe_split p q hs hbase hline
theorem os_part : Os1 .s X.K (fun x xs H Q => ∃ a b, x = .str a ∧ xs = [.str b] ∧ (b.length == 0) = false ∧ a.length ≤ sizeLine ∧
      ∀ p, H p = none → Q (.ref p) (upd H p (.tup [.str (Txt.partition a b).1, .str (Txt.partition a b).2.1, .str (Txt.partition a b).2.2]))) dPart := by
  intro F O env σ H s y dy dz Q S ry ef q
  unfold dPart at ef
  split at ef
  · rename_i b
    obtain ⟨h, rfl⟩ := if_ok ef
    obtain ⟨h1, h2⟩ := Bool.and_eq_true_iff.mp h
    have h1 := of_decide_eq_true h1
    have h2 := of_decide_eq_true h2
    exact ⟨s, b, rfl, by rw [ry.str'], by simpa using (by omega : b.length ≠ 0), by rw [sizeLine_eq]; omega, fun p hp => new_tup S (.cons (.str _) (.cons (.str _) (.cons (.str _) .nil))) q hp⟩
  · cases ef
theorem pd_part {apos : Pos} (ha : PD .s X Wx a ma) (hb : PD .s X Wx b mb) (hs : starEach [b] X.env = [(false, eval b X.env)] := by rfl) (hbase : attributeBase a "partition" X.env (eval a X.env) = eval a X.env := by rfl) (hline : (apos.endLine == pos.line) = true := by rfl) :
    PD .s X Wx (.Call (.Attribute a "partition" apos) [b] [] pos) (eS1 dPart ma mb) := pd_s1 os_part ha hb.weak fun p q => pe_partition p q hs hbase hline
theorem os_join : Os1 .s X.K (fun x xs H Q => ∃ a p, ∃ ys : List Str, x = .str a ∧ xs = [.ref p] ∧ (SqL X.K H p (ys.map V.str) ∨ SqT X.K H p (ys.map V.str)) ∧
      (ys.map (·.length)).sum + ys.length * a.length ≤ 16777216 ∧ Q (.str (Txt.join a ys)) H) dJoin := by
  intro F O env σ H s y dy dz Q S ry ef q
  unfold dJoin at ef
  cases hx : seqD dy with
  | none => rw [hx] at ef; cases ef
  | some xs =>
    rw [hx] at ef
    simp only at ef
    split at ef
    · rename_i ys hy
      obtain ⟨h, rfl⟩ := if_ok ef
      have h := of_decide_eq_true h
      cases dy with
      | lst zs =>
        cases hx
        obtain ⟨A, vs, rfl, sq, l⟩ := ry.lst'
        rw [l.strs hy] at sq
        exact ⟨s, A, ys, rfl, rfl, .inl sq, by omega, q _ H S Ke.refl (.str _)⟩
      | tup zs =>
        cases hx
        obtain ⟨A, vs, rfl, sq, l⟩ := ry.tup'
        rw [l.strs hy] at sq
        exact ⟨s, A, ys, rfl, rfl, .inr sq, by omega, q _ H S Ke.refl (.str _)⟩
      | _ => cases hx
    · cases ef
theorem pd_join {apos : Pos} (ha : PD .s X Wx a ma) (hb : PD .w X Wx b mb) (hs : starEach [b] X.env = [(false, eval b X.env)] := by rfl) (hbase : attributeBase a "join" X.env (eval a X.env) = eval a X.env := by rfl) (hline : (apos.endLine == pos.line) = true := by rfl) :
    PD .s X Wx (.Call (.Attribute a "join" apos) [b] [] pos) (eS1 dJoin ma mb) := pd_s1 os_join ha hb fun p q => pe_join p q hs hbase hline
/-! ### the signs, walked -/
theorem wk_str {F : Fm} {O : Nat → Option Addr} {H1 : Hp} (z : Str) : Wk F O H1 (Its z) (z.cps.toList.map fun c => .str ⟨#[c]⟩) where
  go := fun i H _ hi => by
    rw [List.length_map, Array.length_toList] at hi
    exact hi
  stop := fun H _ => by
    show z.cps.size ≤ _
    rw [List.length_map, Array.length_toList]
    exact Nat.le_refl _
  yld := fun i H x H' d W' _ _ _ hd y => by
    obtain ⟨rfl, c, hc, rfl⟩ := y
    rw [List.getElem?_map, Array.getElem?_toList, hc] at hd
    cases hd
    exact ⟨fun _ _ e => e, .str _⟩
theorem id_chr {tg : Expr} (ha : PD .s X Wx a ma) : ID X Wx tg a (iChr ma) := by
  obtain ⟨ta, pa, qa⟩ := ha
  refine ⟨_, pi_str pa, fun F O env σ H R S w => ?_⟩
  refine qa F O env σ H _ S (w.bind.imp (fun dx e1 w1 x H1 S1 k1 p1 => ?_) fun _ _ _ z => z)
  cases p1 with
  | str z => exact ⟨z, rfl, w1 _ H1 S1 k1 (wk_str z)⟩
  | _ => exact w1.elim
end
end AH
namespace AH
open PySem PySem.Spec PyProof.Rows L2
/-! ### try: body, except x: a statement (no name) -/
section
variable [TheK]
def sTry0 (c : Str) (ms m : DS) : DS := fun e => match m e with
  | .ok o e1 => .ok o e1
  | .ex c' fs e1 => if c' = c then (match ms e1 with
    | .ok o e2 => .ok o e2
    | _ => .bad) else .ex c' fs e1
  | .bad => .bad
variable {fl : Fl} {X : Cx} {Wx : WX} {c : Str} {body : List Stmt} {s1 : Stmt} {m ms : DS} {np pos pos' : Pos}
theorem sd_try0 (hs : X.stack = X.env :: X.outer) (hf : X.env.frame = some X.env.locals)
    (hK : X.K = TheK.K) (hg : Gl X c) (hdb : (c == ("__debug__" : Str)) = false) (hm : X.mg c = some (.ref (He.ga X.K c))) (hx : ∀ c' ∈ TheK.xs, PySem.W.exmOne X.K (.ref (He.ga X.K c')) (.ref (He.ga X.K c)) = some (decide (c' = c))) (tk : Takes X Wx)
    (hb : ∀ (W : WX) (pn : List (Addr × Obj)) (xe : Value → Shared → Prop), Takes (X.tr pn xe) W → PassesOwn (model X.prog X.w) X.A X.env xe → SsD fl (X.tr pn xe) W body m)
    (hsu : ∀ (a : Addr) (pn : List (Addr × Obj)), SsD fl (X.suite a pn) (fun _ _ _ _ => False) [s1] ms) :
    SD fl X Wx (.Try body [.ExceptHandler (some (.Name c np)) none [s1] pos'] [] [] pos) (sTry0 c ms m) := by
  refine ⟨_, ps_try_only (tb := tSs fl X.K m) (ts := fun _ _ _ => tSs fl X.K ms fun _ _ _ _ => False) hs hf (c := .ref (He.ga X.K c)) ⟨hg, hdb, .inl hm⟩ tk (fun W pn xe t p => SsD.pss (hb W pn xe t p)) (fun a oe cls d pn _ _ => SsD.pss (hsu a ((a, oe) :: pn))), fun F O env σ H D S w => ?_⟩
  refine ⟨F, O, env, S, ?_⟩
  unfold Want at w ⊢
  unfold sTry0 at w
  cases hm : m env with
  | bad => rw [hm] at w; exact w
  | ok o e1 => rw [hm] at w; exact w
  | ex c' fs e1 =>
    rw [hm] at w
    simp only at w ⊢
    intro O1 σ1 cls d H1 S1 k1 xr
    have hmem := xr.1.2
    have ecls := xr.1.1
    refine ⟨decide (c' = c), by rw [ecls]; exact hx c' hmem, fun hb a na => ?_, fun hb => ?_⟩
    · rw [if_pos (of_decide_eq_true hb)] at w
      refine ⟨F, O1, e1, S1, ?_⟩
      unfold Want
      cases hq : ms e1 with
      | bad => rw [hq] at w; exact w.elim
      | ex _ _ _ => rw [hq] at w; exact w.elim
      | ok o e2 =>
        rw [hq] at w
        exact Post.later k1 _ _ w
    · rw [if_neg (of_decide_eq_false hb)] at w
      exact w O1 σ1 cls d H1 S1 k1 xr
end
/-! ### sorted(set(xs)), xs a list of pairs of ints from nought -/
theorem asc_uniq {α : Type} {R : α → α → Prop} (irr : ∀ x, ¬ R x x) (asy : ∀ x y, R x y → R y x → False) : ∀ {l m : List α}, l.Pairwise R → m.Pairwise R → (∀ x, x ∈ l ↔ x ∈ m) → l = m
  | [], [], _, _, _ => rfl
  | [], b :: m, _, _, h => by have := (h b).mpr List.mem_cons_self; cases this
  | a :: l, [], _, _, h => by have := (h a).mp List.mem_cons_self; cases this
  | a :: l, b :: m, hl, hm, h => by
    obtain ⟨l1, l2⟩ := List.pairwise_cons.mp hl
    obtain ⟨m1, m2⟩ := List.pairwise_cons.mp hm
    have e : a = b := by
      have h1 := (h a).mp List.mem_cons_self
      have h2 := (h b).mpr List.mem_cons_self
      rcases List.mem_cons.mp h1 with h1 | h1
      · exact h1
      · rcases List.mem_cons.mp h2 with h2 | h2
        · exact h2.symm
        · exact (asy _ _ (m1 a h1) (l1 b h2)).elim
    subst e
    rw [asc_uniq irr asy l2 m2 fun x => ?_]
    have := h x
    rw [List.mem_cons, List.mem_cons] at this
    constructor
    · intro hx
      rcases this.mp (.inr hx) with e | e
      · subst e; exact (irr _ (l1 _ hx)).elim
      · exact e
    · intro hx
      rcases this.mpr (.inr hx) with e | e
      · subst e; exact (irr _ (m1 _ hx)).elim
      · exact e
def pLt (p q : Int × Int) : Prop := p.1 < q.1 ∨ (p.1 = q.1 ∧ p.2 < q.2)
instance (p q : Int × Int) : Decidable (pLt p q) := by unfold pLt; infer_instance
def insP (a : Int × Int) : List (Int × Int) → List (Int × Int)
  | [] => [a]
  | b :: l => if pLt a b then a :: b :: l else if a = b then b :: l else b :: insP a l
def pset : List (Int × Int) → List (Int × Int)
  | [] => []
  | a :: l => insP a (pset l)
theorem insP_mem {a x : Int × Int} : ∀ {l : List (Int × Int)}, x ∈ insP a l ↔ x = a ∨ x ∈ l
  | [] => by simp [insP]
  | b :: l => by
    unfold insP
    split
    · simp
    · split
      · rename_i h; subst h; simp
      · rw [List.mem_cons, insP_mem, List.mem_cons]
        constructor
        · rintro (h | h | h)
          · exact .inr (.inl h)
          · exact .inl h
          · exact .inr (.inr h)
        · rintro (h | h | h)
          · exact .inr (.inl h)
          · exact .inl h
          · exact .inr (.inr h)
theorem pLt_tri {a b : Int × Int} (h1 : ¬ pLt a b) (h2 : ¬ a = b) : pLt b a := by
  obtain ⟨a1, a2⟩ := a
  obtain ⟨b1, b2⟩ := b
  have h2 : ¬ (a1 = b1 ∧ a2 = b2) := fun z => h2 (by rw [z.1, z.2])
  unfold pLt at *
  simp only at *
  omega
theorem pLt_trans {a b c : Int × Int} (h1 : pLt a b) (h2 : pLt b c) : pLt a c := by unfold pLt at *; omega
theorem insP_sorted {a : Int × Int} : ∀ {l : List (Int × Int)}, l.Pairwise pLt → (insP a l).Pairwise pLt
  | [], _ => by simp [insP]
  | b :: l, h => by
    obtain ⟨h1, h2⟩ := List.pairwise_cons.mp h
    unfold insP
    split
    · rename_i c
      refine List.pairwise_cons.mpr ⟨fun x hx => ?_, h⟩
      rcases List.mem_cons.mp hx with rfl | hx
      · exact c
      · exact pLt_trans c (h1 x hx)
    · split
      · exact h
      · rename_i n1 n2
        refine List.pairwise_cons.mpr ⟨fun x hx => ?_, insP_sorted h2⟩
        rcases insP_mem.mp hx with rfl | hx
        · exact pLt_tri n1 n2
        · exact h1 x hx
theorem pset_mem {x : Int × Int} : ∀ {l : List (Int × Int)}, x ∈ pset l ↔ x ∈ l
  | [] => Iff.rfl
  | a :: l => by
    show x ∈ insP a (pset l) ↔ _
    rw [insP_mem, pset_mem, List.mem_cons]
theorem pset_sorted : ∀ {l : List (Int × Int)}, (pset l).Pairwise pLt
  | [] => List.Pairwise.nil
  | _ :: _ => insP_sorted pset_sorted
theorem pset_self {l : List (Int × Int)} : pset l = l ↔ l.Pairwise pLt :=
  ⟨fun e => e ▸ pset_sorted, fun h => asc_uniq (fun x z => by unfold pLt at z; omega) (fun x y a b => by unfold pLt at a b; omega) pset_sorted h fun _ => pset_mem⟩
def winsL : List D → Option (List (Int × Int))
  | [] => some []
  | .tup [.int a, .int b] :: r => (winsL r).map ((a, b) :: ·)
  | _ :: _ => none
def dSortSetP : D → Rv D
  | .lst xs => (match winsL xs with
    | some ws => if decide (ws.length ≤ 60) && ws.all (fun p => decide (0 ≤ p.1) && decide (0 ≤ p.2)) then .ok (.lst ((pset ws).map fun p => .tup [.int p.1, .int p.2])) else .bad
    | none => .bad)
  | _ => .bad
theorem code_lt {B : Int} {p q : Int × Int} (h : TS.code B [p.1, p.2] ≤ TS.code B [q.1, q.2]) (ne : p ≠ q) (b1 : 0 ≤ p.2 ∧ p.2 < B) (b2 : 0 ≤ q.2 ∧ q.2 < B) : pLt p q := by
  have c : ∀ x y : Int, TS.code B [x, y] = x * B + y := fun x y => by
    show x * B ^ 1 + (y * B ^ 0 + 0) = x * B + y
    rw [Int.pow_succ, Int.pow_zero, Int.mul_one, Int.one_mul, Int.add_zero]
  rw [c, c] at h
  rcases Int.lt_trichotomy p.1 q.1 with k | k | k
  · exact .inl k
  · refine .inr ⟨k, ?_⟩
    rw [k] at h
    rcases Int.lt_or_eq_of_le (show p.2 ≤ q.2 by omega) with z | z
    · exact z
    · exact absurd (Prod.ext k z) ne
  · have := Int.mul_le_mul_of_nonneg_right (show q.1 + 1 ≤ p.1 by omega) (show 0 ≤ B by omega)
    rw [Int.add_mul, Int.one_mul] at this
    omega
theorem wins_bound : ∀ ws : List (Int × Int), ∃ B : Int, ∀ p ∈ ws, p.1 < B ∧ p.2 < B
  | [] => ⟨0, fun p h => by cases h⟩
  | q :: ws => by
    obtain ⟨B, h⟩ := wins_bound ws
    refine ⟨B.natAbs + q.1.natAbs + q.2.natAbs + 1, fun p hp => ?_⟩
    rcases List.mem_cons.mp hp with rfl | hp
    · omega
    · have := h p hp; omega
section
variable [TheK]
theorem winsL_cons {x : D} {xs : List D} {ws : List (Int × Int)} (h : winsL (x :: xs) = some ws) : ∃ i j ws2, x = .tup [.int i, .int j] ∧ winsL xs = some ws2 ∧ ws = (i, j) :: ws2 := by
  unfold winsL at h
  split at h
  · rename_i e; cases e
  · rename_i e
    cases e
    cases hw : winsL xs with
    | none => rw [hw] at h; cases h
    | some ws2 => rw [hw] at h; cases h; exact ⟨_, _, _, rfl, rfl, rfl⟩
  · cases h
theorem wins_reps {K : PySem.W.Frag} {W : Pr} {H : Hp} : ∀ {vs : List V} {xs : List D} {ws : List (Int × Int)}, RepL W H vs xs → winsL xs = some ws →
    ∃ ks : List (Addr × List Int), vs = ks.map (fun p => V.ref p.1) ∧ ks.map (·.2) = ws.map (fun p => [p.1, p.2]) ∧ ∀ p ∈ ks, Rep W H (.ref p.1) (.tup (p.2.map D.int))
  | _, [], ws, .nil, h => by cases h; exact ⟨[], rfl, rfl, fun p hp => by cases hp⟩
  | _, x :: xs, ws, .cons a l, h => by
    obtain ⟨i, j, ws2, rfl, hw, rfl⟩ := winsL_cons h
    obtain ⟨ks, e1, e2, e3⟩ := wins_reps (K := K) l hw
    cases a with
    | tup n hh la =>
      rename_i A vs2
      refine ⟨(A, [i, j]) :: ks, by rw [e1] <;> rfl, by rw [List.map_cons, List.map_cons, e2], fun p hp => ?_⟩
      rcases List.mem_cons.mp hp with rfl | hp
      · exact .tup n hh la
      · exact e3 p hp
theorem rep_sqT {K : PySem.W.Frag} {W : Pr} {H : Hp} {a : Addr} {ns : List Int} (r : Rep W H (.ref a) (.tup (ns.map D.int))) : SqT K H a (ns.map V.int) := by
  obtain ⟨b, vs, e, sq, l⟩ := (RepW.of (K := K) r).tup'
  cases e
  have : intsL (ns.map D.int) = some ns := by
    clear r sq l
    induction ns with
    | nil => rfl
    | cons n ns ih =>
      show (intsL (ns.map D.int)).map _ = _
      rw [ih] <;> rfl
  rw [l.ints this] at sq
  exact sq
variable {X : Cx} {Wx : WX} {a : Expr} {ma : DE} {p p2 pos pos2 : Pos}
theorem pd_sortSetP (hc : X.calm = true) (hu : X.A.units + 65 < cLine) (hb : Bn X "sorted" (.builtin "sorted")) (hb2 : Bn X "set" (.type "set")) (ha : PD .w X Wx a ma)
    (hs : starEach [a] X.env = (false, eval a X.env) :: starEach [] X.env := by rfl) (hs2 : starEach [.Call (.Name "set" p2) [a] [] pos2] X.env = (false, eval (.Call (.Name "set" p2) [a] [] pos2) X.env) :: starEach [] X.env := by rfl) :
    PD .f X Wx (.Call (.Name "sorted" p) [.Call (.Name "set" p2) [a] [] pos2] [] pos) (e1 dSortSetP ma) := by
  obtain ⟨ta, pa, qa⟩ := ha
  refine ⟨_, pe_callB (cr_sortedT hc) hb.gl hb.mg hb.bt (pa_cons (pe_callTy (cr_setOfT hc (by omega)) hb2.gl hb2.mg hb2.bt (pa_cons pa pa_nil hs) hb2.nn hb2.nd hs rfl) pa_nil hs2) hb.nn hb.nd hs2 rfl, fun F O env σ H Q S w => ?_⟩
  refine qa F O env σ H _ S (w.bind.imp (fun dx e1 w1 x H1 S1 k1 p1 => ?_) fun _ _ _ z => z)
  obtain ⟨dz, ef, q⟩ := w1.of
  unfold dSortSetP at ef
  split at ef
  · rename_i xs
    split at ef
    · rename_i ws hw
      obtain ⟨hcond, rfl⟩ := if_ok ef
      obtain ⟨hn, hpos⟩ := Bool.and_eq_true_iff.mp hcond
      have hn : ws.length ≤ 60 := of_decide_eq_true hn
      have hpos : ∀ p ∈ ws, 0 ≤ p.1 ∧ 0 ≤ p.2 := fun p hp => by
        have := List.all_eq_true.mp hpos p hp
        simpa using this
      obtain ⟨A, vs, rfl, sq, l⟩ := p1.lst'
      obtain ⟨ks, rfl, ek, er⟩ := wins_reps (K := X.K) l hw
      obtain ⟨B, hB⟩ := wins_bound ws
      have lk : ks.length = ws.length := by
        have := congrArg List.length ek
        simpa using this
      have inW : ∀ p ∈ ks, ∃ w ∈ ws, p.2 = [w.1, w.2] := fun p hp => by
        have : p.2 ∈ ws.map fun p => [p.1, p.2] := ek ▸ List.mem_map.mpr ⟨p, hp, rfl⟩
        obtain ⟨w, hw, e⟩ := List.mem_map.mp this
        exact ⟨w, hw, e.symm⟩
      refine ⟨A, ks, rfl, sq, fun p hp => rep_sqT (er p hp), by omega, fun a L hna hL1 hL2 => ?_⟩
      have kn : Ke (Jo O) H1 (upd H1 a (SetTO X.prog X.w a L)) := Ke.new hna
      have er2 : ∀ p ∈ L, Rep (Ow F O) (upd H1 a (SetTO X.prog X.w a L)) (.ref p.1) (.tup (p.2.map D.int)) := fun p hp => (er p (hL1 p hp)).mono (Ke.new hna)
      refine ⟨a, L, 2, B, rfl, upd_same, fun p hp => rep_sqT (er2 p hp), by omega, fun p hp => ?_, fun L' p hperm hnd hlen hpw hna2 => ?_⟩
      · obtain ⟨w, hw, e⟩ := inW p (hL1 p hp)
        rw [e]
        refine ⟨rfl, fun m hm => ?_⟩
        simp only [List.mem_cons, List.not_mem_nil, or_false] at hm
        have h1 := hpos w hw
        have h2 := hB w hw
        rcases hm with rfl | rfl
        · exact ⟨h1.1, h2.1⟩
        · exact ⟨h1.2, h2.2⟩
      · have inL : ∀ q ∈ L', q ∈ L := fun q hq => hperm.mem_iff.mp hq
        have inW' : ∀ q ∈ L', ∃ w ∈ ws, q.2 = [w.1, w.2] := fun q hq => inW q (hL1 q (inL q hq))
        let pr : Addr × List Int → Int × Int := fun q => (q.2.getD 0 0, q.2.getD 1 0)
        have prq : ∀ q ∈ L', q.2 = [(pr q).1, (pr q).2] := fun q hq => by
          obtain ⟨w, _, e⟩ := inW' q hq
          show q.2 = [q.2.getD 0 0, q.2.getD 1 0]
          rw [e] <;> rfl
        have prw : ∀ q ∈ L', pr q ∈ ws := fun q hq => by
          obtain ⟨w, hw, e⟩ := inW' q hq
          show (q.2.getD 0 0, q.2.getD 1 0) ∈ ws
          rw [e]
          exact hw
        have e2 : L'.map pr = pset ws := by
          refine asc_uniq (R := pLt) (fun x z => by unfold pLt at z; omega) (fun x y a b => by unfold pLt at a b; omega) ?_ pset_sorted fun x => ?_
          · rw [List.pairwise_map]
            have hnd2 : L'.Pairwise fun q r => q.2 ≠ r.2 := List.pairwise_map.mp hnd
            refine List.Pairwise.imp_of_mem (fun {q r} hq hr h => ?_) (hpw.and hnd2)
            obtain ⟨hle, hne⟩ := h
            rw [prq q hq, prq r hr] at hle
            have h1 := hpos _ (prw q hq)
            have h2 := hB _ (prw q hq)
            have h3 := hpos _ (prw r hr)
            have h4 := hB _ (prw r hr)
            exact code_lt hle (fun z => hne (by rw [prq q hq, prq r hr, z])) ⟨h1.2, h2.2⟩ ⟨h3.2, h4.2⟩
          · rw [pset_mem]
            constructor
            · intro hx
              obtain ⟨q, hq, rfl⟩ := List.mem_map.mp hx
              exact prw q hq
            · intro hx
              have : [x.1, x.2] ∈ ks.map (·.2) := ek ▸ List.mem_map.mpr ⟨x, hx, rfl⟩
              obtain ⟨k0, hk0, e0⟩ := List.mem_map.mp this
              obtain ⟨q, hq, e1⟩ := List.mem_map.mp (hL2 k0 hk0)
              refine List.mem_map.mpr ⟨q, hperm.mem_iff.mpr hq, ?_⟩
              show (q.2.getD 0 0, q.2.getD 1 0) = x
              rw [e1, e0] <;> rfl
        have rl : ∀ {M : List (Addr × List Int)}, (∀ q ∈ M, q ∈ L') → RepL (Ow F O) (upd H1 a (SetTO X.prog X.w a L)) (M.map fun q => V.ref q.1) (M.map fun q => D.tup [.int (pr q).1, .int (pr q).2]) := by
          intro M
          induction M with
          | nil => intro _; exact .nil
          | cons q M ih =>
            intro h
            refine .cons ?_ (ih fun r hr => h r (List.mem_cons_of_mem _ hr))
            have := er2 q (inL q (h q List.mem_cons_self))
            rw [prq q (h q List.mem_cons_self)] at this
            exact this
        have rr := rl (M := L') fun _ h => h
        have e3 : (L'.map fun q => D.tup [.int (pr q).1, .int (pr q).2]) = (pset ws).map fun p => D.tup [.int p.1, .int p.2] := by rw [← e2, List.map_map] <;> rfl
        rw [e3] at rr
        exact new_lst (S1.new' hna) rr (fun z H' S'' k pp => q z H' S'' (k1.trans (kn.trans k)) (pp.back (k1.trans kn))) hna2
    · cases ef
  · cases ef
end
end AH
namespace AH
open PySem PySem.Spec PyProof.Rows L2 PySem.F
/-! ### set(xs), sorted(set(xs)), xs a list of texts -/
def txtOf : Value → Str
  | .str x _ => x
  | _ => Str.empty
/-- the set of texts at b: its members are those of M, each once -/
def SetW (P : Program) (w : World) (h : Heap) (b : Addr) (M : List Str) : Prop :=
  ∃ ob rows ep tb, h.get? b = some ob ∧ ob.ExactSet ∧ ob.data = .set rows ep tb ∧ ElemsOf (strKind P w) rows.toList ∧ (rows.toList.map fun r => txtOf r.2).Perm M ∧ M.Nodup ∧
    rows.size < scanBound ∧ tb.fits rows.size = true ∧ Ris tb.place.toList ∧ (w.params.followText "set-order" = true ∨ tb.led = true)
section
variable {P : Program} {w : World} {h h' : Heap} {b : Addr} {M : List Str}
theorem SetW.at (R : SetW P w h b M) (k : ∀ o, h.get? b = some o → h'.get? b = some o) : SetW P w h' b M := by
  obtain ⟨ob, rows, ep, tb, h1, r⟩ := R
  exact ⟨ob, rows, ep, tb, k ob h1, r⟩
theorem SetW.len (R : SetW P w h b M) : ∃ ob rows ep tb, h.get? b = some ob ∧ ob.data = .set rows ep tb ∧ rows.size = M.length := by
  obtain ⟨ob, rows, ep, tb, h1, _, h3, _, h5, _⟩ := R
  refine ⟨ob, rows, ep, tb, h1, h3, ?_⟩
  rw [← h5.length_eq, List.length_map, Array.length_toList]
end
section
variable {P : Program} {w : World} {A : Around} {E : Value → Shared → Prop} {s : Shared} {b : Addr} {M : List Str}
end
/-! ### the rules -/
section
variable {X : Cx}
end
end AH
namespace AH
open PySem PySem.Spec PyProof.Rows L2
/-! ### texts in order -/
def tLt (a b : Str) : Prop := a.cps.toList < b.cps.toList
instance (a b : Str) : Decidable (tLt a b) := by unfold tLt; infer_instance
section
variable [TheK] {X : Cx} {Wx : WX} {a : Expr} {ma : DE} {p p2 pos pos2 : Pos}
end
end AH
namespace AH
open PySem PySem.Spec PyProof.Rows L2
variable [TheK]
/-! ### tuple(range(.., ..)) -/
section
variable {X : Cx} {Wx : WX} {b c : Expr} {mb mc : DE} {p p2 p3 pos : Pos}
end
end AH
namespace AH
open PySem PySem.Spec PyProof.Rows L2
/-! ### enumerate over a text -/
variable [TheK]
section
variable {X : Cx} {Wx : WX} {a : Expr} {ma : DE} {p pos : Pos}
end
end AH
namespace AH
open PySem PySem.Spec PyProof.Rows L2
/-! ### x = {text: text, ..}; return y == x[z] and .. -/
section
variable [TheK] {X : Cx} {Wx : WX} {kvs : List (Str × Str)}
end
end AH
namespace AH
open PySem PySem.Spec PyProof.Rows L2
/-! ### an exception that leaves a comprehension's block -/
section
variable {M : Model} {A : Around} {E : Value → Shared → Prop} {s : Shared} {Z : Obj → Prop} {B : Heap} {env : PySem.Env} {outer l : List PySem.Env} {L C a : Addr}
theorem raw_ne {x y : Addr} (h : x ≠ y) : (rawInt x == rawInt y) = false := by
  have : ¬ ((x : Int) = (y : Int)) := fun z => h (Int.ofNat_inj.mp z)
  simp [rawInt, this]
/-- the block's own frame is the def's: noted like the def itself -/
theorem noteX {ce : PySem.Env} {Q : Unit → Shared → Prop} (hZ : HandSPX.Steady Z) (hfr : A.frames = some (env :: outer)) (hf : env.frame = some L) (hce : ce.frame = some L) (hC : C ≠ L)
    (x : Sky B (env :: outer) a Z C s.heap) (hQ : ∀ h', HandSPX.HeldZ B (env :: outer) a Z L h' → s.heap.UpToSlots h' → Q () { s with heap := h' }) : wpAny M A (noteFrame (.ref a) ce) Q E s := by
  have same : noteFrame (.ref a) ce = noteFrame (.ref a) env := by
    unfold noteFrame PySem.frameOf
    rw [hce, hf]
  rw [same]
  rcases x with ⟨hB, hn, hl, oe, vs, he, hz, hd, h1⟩ | fl | ⟨f1, f2, f3, oe, vs, T, oT, ts, he, hz, hd, h1, hnT, hTe, hT, hdT, h3⟩
  · exact HandSPX.look_newZ hZ hfr hl hf he hB hn hd h1 hz hQ
  · exact HandSPX.looks_onZ hZ hfr hf fl hQ
  · -- noted by the block's namespace: never so, but it does no harm
    have isT : (Value.ref T != Value.none) = true := by simp
    unfold noteFrame
    simp only [hf]
    refine wpAny_bind (wpAny_field he hd h1 ?_)
    rw [if_pos isT]
    refine wpAny_bind (wpAny_field hT hdT h3 ?_)
    rw [if_neg (by rw [raw_ne hC]; decide)]
    have sz3 : 3 < ts.size := (Array.getElem?_eq_some_iff.mp h3).1
    refine wpAny_bind (wpAny_setField hT hdT sz3 ?_)
    obtain ⟨h1', eh⟩ : ∃ g, s.heap.update T (Obj.mapFields (·.setIfInBounds 3 Value.none)) = g := ⟨_, rfl⟩
    have off : ∀ b, b ≠ T → h1'.get? b = s.heap.get? b := fun b hb => by rw [← eh]; exact Heap.get?_update_other _ _ (Ne.symm hb)
    have notT : ∀ b o, s.heap.get? b = some o → (∀ vs, o.data ≠ .fields vs) → b ≠ T := fun b o hb hnf q => by
      rw [q, hT] at hb
      cases hb
      exact hnf ts hdT
    rw [eh]
    refine HandSPX.wpAny_entryZ (s := { s with heap := h1' }) hZ hfr (f3.of_keeps fun b o hb hnf => ⟨o, (off b (notT b o hb hnf)).trans hb, rfl⟩) hf ((off a (Ne.symm hTe)).trans he)
      (fun b o hbo => (off b fun q => by rw [q, hnT] at hbo; cases hbo).trans (f1 b o hbo)) f2 hd (Array.getElem?_eq_some_iff.mp h1).1 hz fun h' N => ?_
    obtain ⟨x1, x2, x3, x4⟩ := N
    exact hQ h' ⟨x1, f2, x2, x3⟩ fun b o hb hnf => x4 b o ((off b (notT b o hb hnf)).trans hb) hnf
theorem funFrames_at {h h' B' : Heap} : ∀ {l : List PySem.Env}, h.FunFrames B l → (∀ b ∈ frs l, B'.get? b = none) → (∀ b ∈ frs l, h'.get? b = h.get? b) → h'.FunFrames B' l
  | [], _, _, _ => trivial
  | e :: l, x, n, k => by
    obtain ⟨hk, ⟨L, o, hf, _, ho, hd⟩, hr⟩ := x
    have hm : L ∈ frs (e :: l) := List.mem_filterMap.mpr ⟨e, List.mem_cons_self, hf⟩
    have up : ∀ b, b ∈ frs l → b ∈ frs (e :: l) := fun b hb => by
      obtain ⟨e', he, q⟩ := List.mem_filterMap.mp hb
      exact List.mem_filterMap.mpr ⟨e', List.mem_cons_of_mem _ he, q⟩
    exact ⟨hk, ⟨L, o, hf, n L hm, (k L hm).trans ho, hd⟩, funFrames_at hr (fun b hb => n b (up b hb)) fun b hb => k b (up b hb)⟩
/-- the block's variables let go, the exception passed on -/
theorem passX {α : Type} {ce : PySem.Env} {what : String} {h2 : Heap} {Q : α → Shared → Prop} (hce : ce.frame = some L) (hh : HandSPX.HeldZ B l a Z L s.heap) (hC : C ∉ frs l) {m : Str → Option Value} (hn : s.heap.Ns C m) (sb : Heap.SameBut C s.heap h2)
    (hE : ∀ h3, HandSPX.HeldZ (PySem.W.hideAll B [C]) l a Z L h3 → h2.UpToSlots h3 → E (.ref a) { s with heap := h3 }) : wpAny M A (PySem.passOn what (.ref a) ce : Sem α) Q E { s with heap := h2 } := by
  obtain ⟨f1, f2, f3, oe, vs, T, oT, ts, he, hz, hd, h1, hnT, hTe, hT, hdT, h3⟩ := hh
  obtain ⟨oC, es, ep, hC1, hC2, _⟩ := hn
  have aC : a ≠ C := fun z => by rw [z, hC1] at he; cases he; rw [hC2] at hd; cases hd
  have tC : T ≠ C := fun z => by rw [z, hC1] at hT; cases hT; rw [hC2] at hdT; cases hdT
  have he2 : h2.get? a = some oe := (sb.2 a aC).trans he
  have hT2 : h2.get? T = some oT := (sb.2 T tC).trans hT
  have hid : ∀ b o, (PySem.W.hideAll B [C]).get? b = some o → B.get? b = some o ∧ b ≠ C := fun b o e => by
    refine ⟨PySem.W.of_hideAll _ e, fun z => ?_⟩
    rw [z, PySem.W.hideAll_none [C] List.mem_cons_self] at e
    cases e
  have non : ∀ b, B.get? b = none → (PySem.W.hideAll B [C]).get? b = none := fun b e => by
    cases q : (PySem.W.hideAll B [C]).get? b with
    | none => rfl
    | some o => rw [(hid b o q).1] at e; cases e
  have st2 : (PySem.W.hideAll B [C]).StaysIn h2 := fun b o e => (sb.2 b (hid b o e).2).trans (f1 b o (hid b o e).1)
  have fr2 : h2.FunFrames (PySem.W.hideAll B [C]) l := funFrames_at f3 (fun b hb => non b (f3.mem hb).1) fun b hb => sb.2 b fun z => hC (z ▸ hb)
  have isT : (Value.ref T == Value.none) = false := by simp
  unfold PySem.passOn
  refine wpAny_bind (wpAny_field he2 hd h1 ?_)
  rw [isT]
  simp only [Bool.false_eq_true, if_false]
  rw [hce]
  refine wpAny_bind (HandSPX.setFlight_anyZ (s := { s with heap := h2 }) (fl := rawInt L) (fr := some L) st2 fr2 ⟨oe, vs, T, oT, ts, he2, hz, hd, h1, non T hnT, hTe, hT2, hdT, h3⟩ fun h3 k1 k2 k3 k4 => ?_)
  exact wpAny_throw (hE h3 ⟨k1, non a f2, k2, k3⟩ k4)
end
section
variable {X : Cx}
abbrev blkX (X : Cx) (s : Shared) (H : Hp) (scope : Scope) (ce : PySem.Env) (fp : List Addr) (xe : Value → Shared → Prop) : Cx := (X.blk s H scope ce fp).tr [] xe
/-- what is wished of an exception of the block: the def's slots are those ahead of the block -/
def wishB (Wx : WX) (σ : L2.St) : WX := fun cls d _ H => Wx cls d σ H
def tLcX (wi : TI) (g : TG) (tt : TT) (te : WX → TE) (vs : List Nat) (Wx : WX) : TE := fun σ H Q => tLc wi g tt (te (wishB Wx σ)) vs σ H Q
theorem clo_nil {cells : List (Str × Addr)} : ∀ {names : List (Str × NameKind)}, (∀ y ∈ names, y.2 ≠ .free) → cloFrom cells names [] = []
  | [], _ => rfl
  | (n, k) :: r, h => by
    have hk : (k == NameKind.free) = false := by simpa using h (n, k) List.mem_cons_self
    unfold cloFrom
    rw [hk]
    exact clo_nil fun y hy => h y (List.mem_cons_of_mem _ hy)
theorem relabel_nil {scope : Scope} {env : PySem.Env} (h : ∀ y ∈ scope.names, y.2 ≠ .free) : relabel scope env = scope := by
  have e : ∀ l : List (Str × NameKind), (∀ y ∈ l, y.2 ≠ .free) → (l.map fun (n, k) => if (k == .free && env.scope.kind == .function && env.kindOf n == some .cell) then (n, .cell) else (n, k)) = l := by
    intro l
    induction l with
    | nil => intro _; rfl
    | cons y l ih =>
      intro hl
      obtain ⟨n, k⟩ := y
      have hk : (k == NameKind.free) = false := by simpa using hl (n, k) List.mem_cons_self
      rw [List.map_cons, ih fun y hy => hl y (List.mem_cons_of_mem _ hy)]
      simp only [hk, Bool.false_and, Bool.false_eq_true, if_false]
  unfold relabel
  rw [e scope.names h]
/-- what the block lets out is in the def's air -/
theorem leaveB {pins : List (Addr × Obj)} {σ : L2.St} {H3 : Hp} {s3 : Shared} {fp : List Addr} {scope : Scope} {C : Addr} {Wx : WX} {α : Type} {what : String} {ce : PySem.Env} {xe E₁ : Value → Shared → Prop} {Qn : α → Shared → Prop}
    (I3 : Inv X pins σ H3 s3) (hst : X.stack = X.env :: X.outer) (hfr : X.env.frame = some X.env.locals) (tk : Takes X Wx) (eC : C = s3.heap.objs.size) (hce : ce.frame = X.env.frame) (hcl : ce.locals = C)
    (f3 : ∀ b ∈ fp, FpOk X pins H3 b) {u : Value} {s' : Shared} (x : XE (blkX X s3 H3 scope ce fp xe) (wishB Wx σ) u s') :
    wpAny (model X.prog X.w) X.A (noteFrame u ce) (fun _ s1 => ∃ m, s1.heap.Ns C m ∧ ∀ h', Heap.SameBut C s1.heap h' → wpAny (model X.prog X.w) X.A (PySem.passOn what u ce : Sem α) Qn X.xe { s1 with heap := h' }) E₁ s' := by
  obtain ⟨a, B, sI, pinsB, σB, H', cls, d, rfl, I', nb, up, sky, na, os, ag, w⟩ := x
  have hfs : X.A.frames = some (X.env :: X.outer) := by rw [I3.ok.frames, hst]
  have hceL : ce.frame = some X.env.locals := by rw [hce, hfr]
  have nC : H' C = none := by
    have z : H' ce.locals = none := I'.free
    rw [hcl] at z
    exact z
  have fC : FpOk X pins H' C := I3.fpOk (by rw [eC]; exact Nat.le_refl _) nC
  have notF : C ∉ frs X.stack := fun hb => by
    rw [hst] at hb
    obtain ⟨e, he, q⟩ := List.mem_filterMap.mp hb
    rcases List.mem_cons.mp he with rfl | he
    · rw [hfr] at q
      cases q
      exact fC.2.1 rfl
    · exact fC.2.2.1 (List.mem_filterMap.mpr ⟨e, he, q⟩)
  have sky' : Sky B (X.env :: X.outer) a (Zc cls d) C s'.heap := by
    have z : Sky B X.stack a (Zc cls d) ce.locals s'.heap := sky
    rw [hcl, hst] at z
    exact z
  obtain ⟨m, hn, _⟩ := I'.loc
  have hn : sI.heap.Ns C m := by
    have z : sI.heap.Ns ce.locals m := hn
    rw [hcl] at z
    exact z
  refine noteX Zc.steady hfs hfr hceL (fun z => fC.2.1 z) sky' fun h1 held up1 => ?_
  have hn1 : h1.Ns C m := by
    obtain ⟨o, es, ep, ho, r⟩ := hn
    exact ⟨o, es, ep, held.1 C o (nb C o ho notF), r⟩
  refine ⟨m, hn1, fun h2 sb => ?_⟩
  have notF' : C ∉ frs (X.env :: X.outer) := by rw [← hst]; exact notF
  refine passX (s := { s' with heap := h1 }) hceL held notF' hn1 sb fun h3 held3 up3 => ?_
  have J : Inv X pins σ H' sI := I3.call' (ch := fp) I'.os I'.base I'.hok I'.bare fun b hb => ⟨(f3 b hb).2.2.2.1, (f3 b hb).2.1, (f3 b hb).2.2.2.2.1, (f3 b hb).2.2.2.2.2⟩
  obtain ⟨g0, g1, g2, g3, g4, g5⟩ := fC
  have J2 : Inv X pins σ H' { sI with heap := PySem.W.hideAll sI.heap [C], toks := sI.toks } := J.turned (fun b o hb e => PySem.W.hideAll_get _ e (by simpa using hb)) g0 g1 g3 g4 g5
  have out : ∀ b o, (PySem.W.hideAll sI.heap [C]).get? b = some o → sI.heap.get? b = some o ∧ b ≠ C := fun b o e => by
    refine ⟨PySem.W.of_hideAll _ e, fun z => ?_⟩
    rw [z, PySem.W.hideAll_none [C] List.mem_cons_self] at e
    cases e
  refine tk _ _ ⟨a, PySem.W.hideAll B [C], _, pins, σ, H', cls, d, rfl, J2, fun b o e hb => ?_, fun b o e hnf => ?_, .inr (.inr ?_), na, os, ag, w⟩
  · exact PySem.W.hideAll_get _ (nb b o (out b o e).1 hb) (by simpa using (out b o e).2)
  · obtain ⟨e1, ne⟩ := out b o e
    obtain ⟨sl1, q1⟩ := up b o e1 hnf
    obtain ⟨sl2, q2⟩ := up1 b _ q1 hnf
    have q3 : h2.get? b = some { o with slots := sl2 } := (sb.2 b ne).trans q2
    obtain ⟨sl4, q4⟩ := up3 b _ q3 hnf
    exact ⟨sl4, q4⟩
  · rw [hst]
    exact held3
/-- a list comprehension whose items may raise -/
theorem lcX_core {pins : List (Addr × Obj)} {s : Shared} {σ : L2.St} {H : Hp} {Q : VK} {elt tg iter : Expr} {ifs : List Expr} {scope : Scope} {own : List (Str × Nat)} {pos pos' : Pos} {wi : TI} {g : TG} {tt : TT} {te : WX → TE} {Wx : WX}
    (calm : X.calm = true) (nd : X.N.Nodup) (I : Inv X pins σ H s) (hst : X.stack = X.env :: X.outer) (hfr : X.env.frame = some X.env.locals) (tk : Takes X Wx) (hi : PI X tg iter wi) (blk : BlkOk X.N X.env.scope scope own) (nofree : ∀ y ∈ scope.names, y.2 ≠ .free)
    (hg : ∀ (s : Shared) (H : Hp) (C : Addr) (cl : List (Str × Addr)) (fp : List Addr) (xe : Value → Shared → Prop), PG (blkX X s H scope (compEnvC scope cl C X.env) fp xe) tg g)
    (ht : ∀ (s : Shared) (H : Hp) (C : Addr) (cl : List (Str × Addr)) (fp : List Addr) (xe : Value → Shared → Prop), PTs (blkX X s H scope (compEnvC scope cl C X.env) fp xe) ifs tt)
    (he : ∀ (s : Shared) (H : Hp) (C : Addr) (cl : List (Str × Addr)) (fp : List Addr) (xe : Value → Shared → Prop) (Wb : WX), Takes (blkX X s H scope (compEnvC scope cl C X.env) fp xe) Wb → PE (blkX X s H scope (compEnvC scope cl C X.env) fp xe) elt (te Wb))
    (fold : ∀ x, foldedSetIterable iter X.env x = pure x) (want : tLcX wi g tt te (own.map (·.2)) Wx σ H Q) :
    wpAny (model X.prog X.w) X.A (comprehension (.ListComp elt [⟨tg, iter, ifs, 0⟩] scope pos) scope X.env pos' (newList []) false (eval iter X.env)) (EP X pins σ Q) X.xe s := by
  refine wpAny_comprehension rfl fold nofree blk.kind (fun y hy e => by rw [blk.uniq y hy, e]) (thn (hi.run pins s σ H _ I want) fun xv s1 hx => thn hx fun itv s2 run2 => ?_)
  obtain ⟨it, fp, tn, J, H2, rfl, I2, T, at0, f2, q⟩ := run2
  refine wpAny_newObj_type (newEnv_comp ?_) (by show 0 ≤ sizeLine; decide)
  generalize eD : s2.heap.objs.size = D
  have freeD : H2 D = none := I2.hok.fresh (Nat.le_of_eq eD)
  obtain ⟨W, ⟨m0, w0⟩, turn⟩ := q D freeD
  generalize e3 : ({ s2 with heap := s2.heap.push { cls := .type "list", data := .seq ([] : List Value).toArray } } : Shared) = s3
  have I3 : Inv X pins σ (upd H2 D (.lst [])) s3 := by
    rw [← e3]
    refine I2.laid (t' := s2.toks) (fun b o e => Heap.get?_push_of_some _ e) (Nat.le_of_eq eD) ⟨Nat.zero_le _, [], 0, .nil, ?_⟩
    rw [← eD]
    exact Heap.get?_push_size _ rfl
  have heap3 : s3.heap = s2.heap.push { cls := .type "list", data := .seq ([] : List Value).toArray } := by rw [← e3]
  have low : ∀ b ∈ fp, b < s2.heap.objs.size := fun b hb => let ⟨_, e, _⟩ := T.obj _ _ at0 b hb; Heap.lt_size e
  have f3 : ∀ b ∈ fp, FpOk X pins (upd H2 D (.lst [])) b ∧ b < s3.heap.objs.size := fun b hb => by
    refine ⟨⟨?_, (f2 b hb).2⟩, by rw [heap3, Heap.size_push]; exact Nat.lt_succ_of_lt (low b hb)⟩
    rw [upd_ne (by rw [← eD]; exact Nat.ne_of_lt (low b hb))]
    exact (f2 b hb).1
  have at3 : tn 0 s3.heap := T.keep _ _ _ at0 fun b _ o e => by rw [heap3]; exact Heap.get?_push_of_some _ e
  have I4 := block_start I3 blk nd f3
  rw [clo_nil nofree] at I4
  generalize ecl : cellsFrom (s3.heap.objs.size + 1) scope.names [] = cl at I4
  obtain ⟨C, eC⟩ : ∃ C, C = s3.heap.objs.size := ⟨_, rfl⟩
  have envEq : { newEnv scope s3.heap.objs.size X.env.globals cl X.env.qual none .none (some X.env) builtinsNs with scope := scope } = compEnvC scope cl s3.heap.objs.size X.env := by
    unfold compEnvC
    rw [relabel_nil nofree]
    rfl
  let R : Result → Shared → Prop := fun r s' => ∃ m, s'.heap.Ns C m ∧ ∀ h', Heap.SameBut C s'.heap h' → match r with
    | .ok _ => EP X pins σ Q (.ref D) { s' with heap := h' }
    | .error x => wpAny (model X.prog X.w) X.A (PySem.passOn "comprehension.variables-let-go" x (compEnvC scope cl s3.heap.objs.size X.env) : Sem Value) (EP X pins σ Q) X.xe { s' with heap := h' }
  suffices run : codeAny (model X.prog X.w) X.A (.compStart (.ListComp elt [⟨tg, iter, ifs, 0⟩] scope pos) 0 (.ref it) (.ref D) (compEnvC scope cl s3.heap.objs.size X.env)) R { s3 with heap := pushCells (s3.heap.push { cls := .type "dict", data := .dict #[] }) scope.names } by
    subst e3
    rw [← envEq] at run
    have run2 := run
    simp only [R, eC, ← envEq] at run2
    exact run2
  have pg := hg s3 (upd H2 D (.lst [])) s3.heap.objs.size cl fp
  have pt := ht s3 (upd H2 D (.lst [])) s3.heap.objs.size cl fp
  have pe := he s3 (upd H2 D (.lst [])) s3.heap.objs.size cl fp
  have none3 : ∀ b ∈ fp, (upd H2 D (.lst [])) b = none := fun b hb => (f3 b hb).1.1
  have eL : (compEnvC scope cl s3.heap.objs.size X.env).locals = s3.heap.objs.size := rfl
  have eF : (compEnvC scope cl s3.heap.objs.size X.env).frame = X.env.frame := rfl
  generalize ece : compEnvC scope cl s3.heap.objs.size X.env = ce at I4 pg pt pe eL eF ⊢
  have eL : ce.locals = C := by rw [eL, eC]
  obtain ⟨R', eR⟩ : ∃ R' : Result → Shared → Prop, R' = fun r s' => ∃ m, s'.heap.Ns C m ∧ ∀ h', Heap.SameBut C s'.heap h' → match r with
    | .ok _ => EP X pins σ Q (.ref D) { s' with heap := h' }
    | .error x => wpAny (model X.prog X.w) X.A (PySem.passOn "comprehension.variables-let-go" x ce : Sem Value) (EP X pins σ Q) X.xe { s' with heap := h' } := ⟨_, rfl⟩
  have eRR : R = R' := by
    show (fun r s' => _) = R'
    rw [eR, ← ece]
  rw [eRR]
  generalize eH : upd H2 D (.lst []) = H3 at I3 I4 pg pt pe none3 f3 w0
  generalize e4 : ({ s3 with heap := pushCells (s3.heap.push { cls := .type "dict", data := .dict #[] }) scope.names } : Shared) = s4 at I4 ⊢
  have at4 : tn 0 s4.heap := T.keep _ _ _ at3 fun b _ o e => by rw [← e4]; exact pushCells_keeps _ _ _ _ (Heap.get?_push_of_some _ e)
  obtain ⟨xe, exe⟩ : ∃ xe, xe = notedBy (model X.prog X.w) X.A ce (fun e s' => R' (.error e) s') := ⟨_, rfl⟩
  have tkB : Takes (blkX X s3 H3 scope ce fp xe) (wishB Wx σ) := fun u s' x => by
    show xe u s'
    have z := leaveB (α := Value) (what := "comprehension.variables-let-go") (Qn := EP X pins σ Q) (E₁ := fun e s' => R' (.error e) s') I3 hst hfr tk eC eF eL (fun b hb => (f3 b hb).1) x
    rw [exe, eR]
    rw [eR] at z
    exact z
  have pg := pg xe
  have pt := pt xe
  have pe := pe xe (wishB Wx σ) tkB
  have I4 : Inv (blkX X s3 H3 scope ce fp xe) [] (wipe σ (own.map (·.2))) H3 s4 := I4.toTry xe
  have stat : ∀ {σ' : L2.St} {H' : Hp} {s' : Shared}, Inv (blkX X s3 H3 scope ce fp xe) [] σ' H' s' → (∀ b ∈ fp, H' b = none) → ∀ b ∈ fp, FpOk (blkX X s3 H3 scope ce fp xe) [] H' b := fun {σ' H' s'} I' hn b hb =>
    ⟨hn b hb, (I'.ok.exf b hb).1, I'.ok.exfs b hb, .inl hb, fun x c e => (I'.ok.exf b hb).2 x c e, fun p hp => absurd (show p ∈ ([] : List (Addr × Obj)) ++ [] from hp) (by simp)⟩
  have loop : codeAny (model X.prog X.w) X.A (.compLoop (.ListComp elt [⟨tg, iter, ifs, 0⟩] scope pos) 0 (.ref it) (.ref D) ce) R' s4 := by
    refine compLoop_any (fun n s' => ∃ i H', Inv (blkX X s3 H3 scope ce fp xe) [] (wipe σ (own.map (·.2))) H' s' ∧ tn i s'.heap ∧ (∀ b ∈ fp, H' b = none) ∧ W i n H') ?_ m0 ⟨0, H3, I4, at4, none3, w0⟩
    rw [← exe]
    rintro n s5 ⟨i, H5, I5, at5, n5, w5⟩
    rcases turn i n H5 w5 with ⟨stop, done⟩ | ⟨go, Nx, next, step⟩
    · refine thnF (T.done (blkX X s3 H3 scope ce fp xe) rfl rfl rfl calm i [] s5 _ H5 (fun _ _ => False) I5 (stat I5 n5) at5 stop) fun r s6 ⟨er, I6⟩ => ?_
      subst er
      have I7 : Inv X pins σ H5 s6 := I3.call' (ch := fp) I6.os I6.base I6.hok I6.bare fun b hb => ⟨(f3 b hb).1.2.2.2.1, (f3 b hb).1.2.1, (f3 b hb).1.2.2.2.2.1, (f3 b hb).1.2.2.2.2.2⟩
      have nC : H5 ce.locals = none := I6.free
      obtain ⟨m, hn, _⟩ := I6.loc
      have hn : s6.heap.Ns ce.locals m := hn
      rw [eL] at hn nC
      obtain ⟨g0, g1, g2, g3, g4, g5⟩ := I3.fpOk (by rw [eC]; exact Nat.le_refl _) nC
      rw [eR]
      exact ⟨m, hn, fun h'' sb => ⟨.ref D, H5, I7.turned (t' := s6.toks) (fun b o hb e => (sb.2 b hb).trans e) g0 g1 g3 g4 g5, rfl, done⟩⟩
    · refine thnF (T.item (blkX X s3 H3 scope ce fp xe) rfl rfl rfl calm i [] s5 _ H5 (fun _ _ => False) I5 (stat I5 n5) at5 go) fun r s6 ⟨u, er, run6⟩ => ?_
      subst er
      refine thnF run6 fun _ s7 ⟨x, H7, I7, r7, y7, at7, n7⟩ => ?_
      refine thn (pg.run _ s7 _ H7 x u _ (I7.pinned (stat I7 n7) (T.obj _ _ at7)) r7 (step x H7 y7)) fun _ s8 ⟨σ8, H8, I8, same, q8⟩ => ?_
      refine thn (pt.run _ s8 σ8 H8 _ I8 q8) fun b s9 ⟨H9, I9, q9⟩ => ?_
      have turned : ∀ {s' : Shared} {H' : Hp}, Inv (blkX X s3 H3 scope ce fp xe) ([] ++ pinsAt fp s7.heap) σ8 H' s' → Nx H' → ∃ m, m < n ∧ ∃ i H', Inv (blkX X s3 H3 scope ce fp xe) [] (wipe σ (own.map (·.2))) H' s' ∧ tn i s'.heap ∧ (∀ b ∈ fp, H' b = none) ∧ W i m H' := fun {s' H'} I' nx => by
        obtain ⟨m', less, w'⟩ := next H' nx
        have pin : ∀ b ∈ fp, ∀ o, s7.heap.get? b = some o → s'.heap.get? b = some o ∧ H' b = none := fun b hb o e =>
          let z := I'.pin (b, o) (List.mem_append_right _ (List.mem_append_right _ (mem_pinsAt hb e)))
          ⟨z.1, z.2.1⟩
        refine ⟨m', less, i + 1, H', (I'.unpinned (pins := [])).weak (by rw [← same, wipe_length]) (fun j v e => ?_), T.keep _ _ _ at7 fun b hb o e => (pin b hb o e).1, fun b hb => ?_, w'⟩
        · rw [← same] at e
          exact (wipe_some e).1
        · obtain ⟨o, e, _⟩ := T.obj _ _ at7 b hb
          exact (pin b hb o e).2
      cases b with
      | false =>
        simp only [Bool.false_eq_true, if_false] at q9 ⊢
        exact turned I9 q9
      | true =>
        simp only [if_true] at q9 ⊢
        refine thn (pe.run _ s9 σ8 H9 _ I9 q9) fun z s10 ⟨yv, H10, I10, r10, acc, hD, hz, nx⟩ => ?_
        exact app_ok (X := blkX X s3 H3 scope ce fp xe) I10 hD hz r10 fun s11 I11 => turned I11 nx
  exact codeAny_compStart_list loop (T.self X.A 0 _ _ _ at4 loop)
theorem pe_lcX {elt tg iter : Expr} {ifs : List Expr} {scope : Scope} {own : List (Str × Nat)} {pos : Pos} {wi : TI} {g : TG} {tt : TT} {te : WX → TE} {Wx : WX} (calm : X.calm = true) (nd : X.N.Nodup) (hst : X.stack = X.env :: X.outer) (hfr : X.env.frame = some X.env.locals) (tk : Takes X Wx) (hi : PI X tg iter wi) (blk : BlkOk X.N X.env.scope scope own) (nofree : ∀ y ∈ scope.names, y.2 ≠ .free)
    (hg : ∀ (s : Shared) (H : Hp) (C : Addr) (cl : List (Str × Addr)) (fp : List Addr) (xe : Value → Shared → Prop), PG (blkX X s H scope (compEnvC scope cl C X.env) fp xe) tg g)
    (ht : ∀ (s : Shared) (H : Hp) (C : Addr) (cl : List (Str × Addr)) (fp : List Addr) (xe : Value → Shared → Prop), PTs (blkX X s H scope (compEnvC scope cl C X.env) fp xe) ifs tt)
    (he : ∀ (s : Shared) (H : Hp) (C : Addr) (cl : List (Str × Addr)) (fp : List Addr) (xe : Value → Shared → Prop) (Wb : WX), Takes (blkX X s H scope (compEnvC scope cl C X.env) fp xe) Wb → PE (blkX X s H scope (compEnvC scope cl C X.env) fp xe) elt (te Wb))
    (fold : ∀ x, foldedSetIterable iter X.env x = pure x := by intro _; rfl) : PE X (.ListComp elt [⟨tg, iter, ifs, 0⟩] scope pos) (tLcX wi g tt te (own.map (·.2)) Wx) := by
  refine ⟨fun pins s σ H Q I want => ?_⟩
  rw [eval_ListComp]
  exact lcX_core calm nd I hst hfr tk hi blk nofree hg ht he fold want
end
end AH
namespace AH
open PySem PySem.Spec PyProof.Rows L2
section
variable [TheK]
variable {fl : Fl} {X : Cx} {Wx : WX} {tg iter elt : Expr} {ma : DE} {pos : Pos}
/-- a list comprehension whose items may raise -/
def eLcX (vs : List Nat) (it : DI) (g : DG) (t : DT) (a : DE) : DE := it.bind fun xs => fun e =>
  if (vs.any fun v => isOwn (sl e v)) || !lenOk xs.length then .bad else
  match compL vs e g (noX t) a xs (wipeE e vs) with
  | .ok ys e1 => .ok (.lst ys) (back e e1 vs)
  | .ex c fs e1 => .ex c fs (back e (wipeE e1 vs) vs)
  | .bad => .bad
theorem xr_sub {K : PySem.W.Frag} {W W' : Pr} {c : Str} {fs : List D} {cls : Value} {dd : Option Addr} {H : Hp} (g : ∀ a, W' a → W a) (x : XR K W c fs cls dd H) : XR K W' c fs cls dd H := by
  refine ⟨x.1, ?_⟩
  have x2 := x.2
  cases dd with
  | none => exact x2
  | some d =>
    obtain ⟨n, vs, h1, h2, l⟩ := x2
    exact ⟨fun z => n (g _ z), vs, h1, h2, l.sub fun a z => .inl (g a z)⟩
theorem lcX_sound {K : PySem.W.Frag} {vs js : List Nat} {it : DI} {g : DG} {t : DT} {el : DE} (hj : ∀ j ∈ js, j ∈ vs) {F : Fm} {O : Nat → Option Addr} {env : Env} {σ : L2.St} {H : Hp} {Q : VK} (S : SR K F O env σ H)
    (w : Want (eLcX vs it g t el) env (fun d e1 => ∀ v H', SR K F O e1 σ H' → Ke (Jo O) H H' → Po .f K F O e1 σ H H' v d → Q v H') (XW K F O σ H Wx)) :
    tLcX (tI K Wx it) (tG K js g) (tT K W0 t) (fun Wb => tD .s K Wb el) vs Wx σ H Q := by
  refine ⟨F, O, env, S, w.bind.imp (fun xs e0 w1 J H1 S1 k1 wk D hD => ?_) fun _ _ _ z => z⟩
  have nj : ¬ Jo O D := fun z => S1.prot D (.inr z) hD
  have h0 : F.H0 D = none := al_none S1.al hD
  have w2 : ((vs.any fun v => isOwn (sl e0 v)) = false ∧ lenOk xs.length = true) ∧ Want (compL vs e0 g (AH.noX t) el xs) (wipeE e0 vs) (fun ys e1 => ∀ v H', SR K F O (back e0 e1 vs) σ H' → Ke (Jo O) H H' → Po .f K F O (back e0 e1 vs) σ H H' v (.lst ys) → Q v H') (fun c fs e1 => XW K F O σ H Wx c fs (back e0 (wipeE e1 vs) vs)) := by
    unfold Want at w1
    cases hb : (vs.any fun v => isOwn (sl e0 v)) || !lenOk xs.length with
    | true => simp only [hb] at w1; exact w1.elim
    | false =>
      simp only [hb] at w1
      refine ⟨?_, ?_⟩
      · cases h1 : (vs.any fun v => isOwn (sl e0 v)) with
        | true => rw [h1] at hb; cases hb
        | false => rw [h1] at hb; cases h2 : lenOk xs.length with
          | true => exact ⟨rfl, rfl⟩
          | false => rw [h2] at hb; cases hb
      · unfold Want
        cases hm : compL vs e0 g (AH.noX t) el xs (wipeE e0 vs) with
        | ok ys e1 => rw [hm] at w1; exact w1
        | ex c fs e1 => rw [hm] at w1; exact w1
        | bad => rw [hm] at w1; exact w1
  obtain ⟨⟨hno, hlen⟩, w2⟩ := w2
  have hno' : ∀ v ∈ vs, isOwn (sl e0 v) = false := fun v hv => by
    have := List.any_eq_false.mp hno v hv
    simpa using this
  have hOn : ∀ v ∈ vs, O v = none := fun v hv => S1.notOwn (hno' v hv)
  have Sw : SR K F O (wipeE e0 vs) (L2.wipe σ vs) H1 := S1.wipe vs hOn
  refine ⟨fun i k H' => k = xs.length - i ∧ i ≤ xs.length ∧ ∃ e' acc ys, SR K (F.ad D) O e' (L2.wipe σ vs) H' ∧ Ke (Jo O) H1 H' ∧ H' D = some (.lst acc) ∧ RepL (Ow (F.ad D) O) H' acc ys ∧ ys.length ≤ i ∧
    Want (compL vs e0 g (AH.noX t) el (xs.drop i)) e' (fun zs e1 => ∀ v H', SR K F O (back e0 e1 vs) σ H' → Ke (Jo O) H H' → Po .f K F O (back e0 e1 vs) σ H H' v (.lst (ys ++ zs)) → Q v H') (fun c fs e1 => XW K F O σ H Wx c fs (back e0 (wipeE e1 vs) vs)), ⟨xs.length, by simp, Nat.zero_le _, _, [], [], Sw.ad hD, Ke.new hD, upd_same, .nil, Nat.le_refl _, w2⟩, ?_⟩
  rintro i k H2 ⟨rfl, hi, e', acc, ys, S2, k2, hD2, l2, hy, w3⟩
  by_cases hlt : i < xs.length
  · have hd : xs.drop i = xs[i] :: xs.drop (i + 1) := (List.drop_eq_getElem_cons hlt)
    rw [hd] at w3
    refine .inr ⟨wk.go i H2 k2.wj hlt, fun H' => i + 1 ≤ xs.length ∧ ∃ e' acc ys, SR K (F.ad D) O e' (L2.wipe σ vs) H' ∧ Ke (Jo O) H1 H' ∧ H' D = some (.lst acc) ∧ RepL (Ow (F.ad D) O) H' acc ys ∧ ys.length ≤ i + 1 ∧
      Want (compL vs e0 g (AH.noX t) el (xs.drop (i + 1))) e' (fun zs e1 => ∀ v H', SR K F O (back e0 e1 vs) σ H' → Ke (Jo O) H H' → Po .f K F O (back e0 e1 vs) σ H H' v (.lst (ys ++ zs)) → Q v H') (fun c fs e1 => XW K F O σ H Wx c fs (back e0 (wipeE e1 vs) vs)), fun H' h => ⟨xs.length - (i + 1), by omega, rfl, h.1, h.2⟩, fun x H3 y => ?_⟩
    obtain ⟨ext, r⟩ := wk.yld i H2 x H3 xs[i] (Ow (F.ad D) O) k2.wj (fun a z => by
      rcases z with (z | rfl) | z
      · exact .inl (.inl z)
      · exact .inr hD
      · exact .inl (.inr z)) S2.prot2 (by simp [hlt]) y
    have S3 : SR K (F.ad D) O e' (L2.wipe σ vs) H3 := S2.ext ext
    have w4 := Want.bind (m := g xs[i]) w3
    refine ⟨F.ad D, O, e', xs[i], S3, r, w4.imp (fun _ e4 w5 σ4 S4 wp => ?_) fun _ _ _ _ => trivial⟩
    refine ⟨(wp vs hj).trans (by
      apply List.ext_getElem?
      intro j
      rw [wipe_get, wipe_get]
      split
      · cases σ[j]? <;> rfl
      · rfl), F.ad D, O, e4, S4, (Want.noX (Want.bind w5)).imp (fun bb e5 w6 H5 S5 k5 => ?_) fun _ _ _ z => z.elim⟩
    have k25 : Ke (Jo O) H1 H5 := k2.trans ((ke_ext ext).trans k5)
    have hD5 : H5 D = some (.lst acc) := k5.stay _ _ nj (ext _ _ hD2)
    have l5 : RepL (Ow (F.ad D) O) H5 acc ys := (l2.ke (ke_ext ext) (fun _ z => .inl z)).mj k5
    cases bb with
    | false =>
      simp only [Bool.false_eq_true, if_false]
      refine ⟨hlt, wipeE e5 vs, acc, ys, ?_, k25, hD5, l5, by omega, ?_⟩
      · have := S5.wipe vs hOn
        rw [show L2.wipe σ4 vs = L2.wipe σ vs from (wp vs hj).trans (by
          apply List.ext_getElem?
          intro j
          rw [wipe_get, wipe_get]
          split
          · cases σ[j]? <;> rfl
          · rfl)] at this
        exact this
      · have w7 := Want.bind (m := compL vs e0 g (AH.noX t) el (xs.drop (i + 1))) (show Want ((compL vs e0 g (AH.noX t) el (xs.drop (i + 1))).bind fun zs => M.pure ([] ++ zs)) (wipeE e5 vs) _ _ from w6)
        exact w7
    | true =>
      simp only [if_true]
      refine ⟨F.ad D, O, e5, S5, (Want.bind (Want.bind w6)).imp (fun dd e6 w7 v H6 S6 k6 r6 => ?_) fun c fs e6 z cls dd H6 S6 k6 xr => ?_⟩
      rotate_left
      · have S7 := S6.wipe vs hOn
        rw [show L2.wipe σ4 vs = L2.wipe σ vs from (wp vs hj).trans (by
          apply List.ext_getElem?
          intro j
          rw [wipe_get, wipe_get]
          split
          · cases σ[j]? <;> rfl
          · rfl)] at S7
        have Sb : SR K (F.ad D) O (back e0 (wipeE e6 vs) vs) σ H6 := SR.back (F' := F.ad D) S1 rfl rfl (fun a z => z.elim .inl fun z => .inr (z ▸ hD)) (fun a z => z.elim .inl fun z => .inr (z ▸ hD)) S7 (k25.trans k6) hno'
        exact z cls dd H6 Sb.unad (k1.trans (k25.trans k6)) (xr_sub (fun a w => w.elim (fun z => .inl (.inl z)) .inr) xr)
      refine ⟨acc, k6.stay _ _ nj hD5, ?_, hlt, wipeE e6 vs, acc ++ [v], ys ++ [dd], ?_⟩
      · rw [l5.len]
        have h1 : decide (xs.length ≤ 100000) = true := hlen
        have := of_decide_eq_true h1
        have h2 : sizeLine > 100000 := by decide
        omega
      obtain ⟨S7, l7⟩ := SR.snoc (o := .lst (acc ++ [v])) S6 nj h0 (l5.mj k6) r6
      have k26 := k25.trans k6
      refine ⟨?_, ⟨fun a o n e => by rw [upd_ne (ne_of_none e hD)]; exact k26.stay a o n e, fun a e => ?_⟩, upd_same, l7, ?_, ?_⟩
      · have := S7.wipe vs hOn
        rw [show L2.wipe σ4 vs = L2.wipe σ vs from (wp vs hj).trans (by
          apply List.ext_getElem?
          intro j
          rw [wipe_get, wipe_get]
          split
          · cases σ[j]? <;> rfl
          · rfl)] at this
        exact this
      · by_cases z : a = D
        · rw [z, upd_same]; simp
        · rw [upd_ne z]; exact k26.there a e
      · rw [List.length_append]; simp; omega
      · have w8 := Want.bind (m := compL vs e0 g (AH.noX t) el (xs.drop (i + 1))) (show Want ((compL vs e0 g (AH.noX t) el (xs.drop (i + 1))).bind fun zs => M.pure ([dd] ++ zs)) (wipeE e6 vs) _ _ from w7)
        refine w8.imp (fun zs e1 z v H' S k p => ?_) fun _ _ _ z => z
        refine z v H' S k ?_
        rw [List.append_assoc] at p
        exact p
  · have e : i = xs.length := by omega
    subst e
    refine .inl ⟨wk.stop H2 k2.wj, ?_⟩
    rw [List.drop_length] at w3
    have w4 := w3 (.ref D) H2
    rw [List.append_nil] at w4
    have Sb : SR K (F.ad D) O (back e0 e' vs) σ H2 := SR.back (F' := F.ad D) S1 rfl rfl (fun a z => z.elim .inl fun z => .inr (z ▸ hD)) (fun a z => z.elim .inl fun z => .inr (z ▸ hD)) S2 k2 hno'
    exact w4 Sb.unad (k1.trans k2) ⟨D, acc, ys, rfl, rfl, by
      cases q : H D with
      | none => rfl
      | some o => exact absurd hD (k1.there D (by rw [q]; simp)), hD2, l2, Sb⟩
/-- a block whose exceptions the def takes -/
def BlkDX (X : Cx) (P : Cx → Prop) (scope : Scope) : Prop := ∀ (s : Shared) (H : Hp) (C : Addr) (cl : List (Str × Addr)) (fp : List Addr) (xe : Value → Shared → Prop), P (blkX X s H scope (compEnvC scope cl C X.env) fp xe)
theorem pd_lcX {ifs : List Expr} {scope : Scope} {own : List (Str × Nat)} {js : List Nat} {it : DI} {g : DG} {t : DT} (hc : X.calm = true) (hN : X.N.Nodup) (hst : X.stack = X.env :: X.outer) (hfr : X.env.frame = some X.env.locals) (tk : Takes X Wx) (hb : blkC X.N X.env.scope scope own = true) (nf : (scope.names.all fun y => !(y.2 == .free)) = true) (hj : (js.all fun j => (own.map (·.2)).contains j) = true)
    (hi : ID X Wx tg iter it) (hg : BlkDX X (fun X => GD X tg js g) scope) (ht : BlkDX X (fun X => CD X W0 ifs t) scope) (he : BlkDX X (fun X => ∀ Wb : WX, Takes X Wb → PD .s X Wb elt ma) scope) (hs : ∀ x, foldedSetIterable iter X.env x = pure x := by intro _; rfl) :
    PD .f X Wx (.ListComp elt [⟨tg, iter, ifs, 0⟩] scope pos) (eLcX (own.map (·.2)) it g t ma) :=
  ⟨_, pe_lcX hc hN hst hfr tk hi.pi (blkOk_by hb) (fun y hy e => by
      have := List.all_eq_true.mp nf y hy
      rw [e] at this
      cases this) (fun s H C cl fp xe => (hg s H C cl fp xe).pg) (fun s H C cl fp xe => (ht s H C cl fp xe).pt) (fun s H C cl fp xe Wb tkb => (he s H C cl fp xe Wb tkb).pe) hs,
    fun F O env σ H Q S w => lcX_sound (fun j h => by simpa using List.all_eq_true.mp hj j h) S w⟩
end
end AH
namespace AH
open PySem L2
variable [TheK]
def b_law_cells_1 : DS := (sFg [3, 4, 5] (sSeq (sAsgN 5 (e2 dMod (e1 dInt (eVar 3)) (eVar 1))) (sSetL 2 (eVar 5) (e2 dAdd (e2L dIx 2 (eVar 5)) (e2 dMul (eVar 4) (e2 dAdd (eVar 3) (eC (.int 2))))))))
def l_law_cells_1 : DS := (sFor (iEnumL (eSlN 0 (oSome (eVar 1)) (oSome (eC (.int 63))))) (gT (gsCons (gN 3) (gsCons (gN 4) gsNil))) b_law_cells_1)
def m_law_cells : DS := (sSeq (sOwn 2 (eOrT (e1 dList (eSlN 0 oNone (oSome (eVar 1)))) (eLst (aCons (eC (.int 0)) aNil)))) (sSeq l_law_cells_1 (sSeq (sRelL 2) (sRet (eVar 2)))))
def f_law_cells : DF := mkF 6 [.ro, .val] m_law_cells
def c_law_same_1 (n_f : DF) : DE := (eLc [2, 3] (iZip2 (eVar 0) (eVar 1)) (gT (gsCons (gN 2) (gsCons (gN 3) gsNil))) tYes (eCall n_f [.e (eVar 2), .e (eVar 3)]))
def m_law_same (n_f : DF) : DS := (sSeq (sIf (tV (eIsi2 .list .tuple (eVar 1))) (sSeq (sIf (tOr (c2 dNe (eIsi .list (eVar 0)) (eIsi .list (eVar 1))) (c2 dNe (eIsi .tuple (eVar 0)) (eIsi .tuple (eVar 1)))) (sRet (eC (.bl false))) sNil) (sRet (eAnd (eB (c2 dEq (e1 dLen (eVar 0)) (e1 dLen (eVar 1)))) (e1 dAll (c_law_same_1 n_f))))) sNil) (sSeq (sIf (tOr (tIsN (eVar 1)) (tV (eIsi2 .bool .str (eVar 1)))) (sRet (eAnd (eB (c2 dEq (eVar 0) (eVar 1))) (eAnd (eB (c2 dEq (eIsi .bool (eVar 0)) (eIsi .bool (eVar 1)))) (eB (c2 dEq (eB (tIsN (eVar 0))) (eB (tIsN (eVar 1)))))))) sNil) (sRet (eAnd (eIsi .int (eVar 0)) (eAnd (eNot (eIsi .bool (eVar 0))) (eB (c2 dEq (eVar 0) (eVar 1))))))))
def f_law_same : Nat → DF
  | 0 => fun _ => .bad
  | n + 1 => mkF 4 [.val, .val] (m_law_same (f_law_same n))
def m_law_take : DS := (sSeq (sIf (c2 dGt (e2L dIx 0 (eC (.int 0))) (eC (.int 0))) (sSeq (sAsgN 2 (e2 dMod (e1 dInt (e2L dIx 0 (eC (.int 0)))) (eVar 1))) (sSeq (sSetL 0 (eC (.int 0)) (e2 dDiv (e2L dIx 0 (eC (.int 0))) (eVar 1))) (sRet (eVar 2)))) sNil) (sSeq (sSetL 0 (eC (.int 2)) (e2 dAdd (e2L dIx 0 (eC (.int 2))) (eC (.int 1)))) (sSeq (sAsgN 3 (e2 dMod (e1 dInt (e2 dMul (e2 dAdd (e2L dIx 0 (eC (.int 1))) (e2 dMul (eC (.int 48271)) (e2L dIx 0 (eC (.int 2))))) (e2 dAdd (eC (.int 39373)) (e2L dIx 0 (eC (.int 2)))))) (eC (.int 2147483647)))) (sSeq (sAsgN 4 (e2 dAdd (e2 dMod (e1 dInt (eVar 3)) (eC (.int 40009))) (eC (.int 7)))) (sSeq (sAsgN 5 (e2 dMod (e1 dInt (e2 dMul (e2 dAdd (e2 dAdd (eVar 3) (e2L dIx 0 (eC (.int 2)))) (e2 dDiv (e2L dIx 0 (eC (.int 1))) (eC (.int 1000003)))) (eVar 4))) (eC (.int 2147483629)))) (sRet (e2 dMod (e1 dInt (e2 dDiv (e2 dMod (e1 dInt (e2 dAdd (e2 dMul (eVar 5) (eC (.int 48271))) (eVar 3))) (eC (.int 2147483587))) (eC (.int 64)))) (eVar 1))))))))
def f_law_take : DF := mkF 6 [.bor, .val] m_law_take
def m_law_of : DS := (sRet (e2L dIx 1 (eCall f_law_take [.lend 0, .e (e1 dLen (eTmp 1))])))
def f_law_of : DF := mkF 2 [.bor, .ro] m_law_of
def c_law_spans_1 : DE := (eLc [3] (iRng2 (eVar 2) (eVar 0)) (gN 3) tYes (eTup (aCons (eVar 2) (aCons (eVar 3) aNil))))
def b_law_spans_1 : DS := (sFg [2] (sAsgN 1 (e2 dAdd (eVar 1) c_law_spans_1)))
def l_law_spans_1 : DS := (sFor (iRng1 (eVar 0)) (gN 2) b_law_spans_1)
def m_law_spans : DS := (sSeq (sAsgN 1 (eLst aNil)) (sSeq l_law_spans_1 (sRet (eVar 1))))
def f_law_spans : DF := mkF 4 [.val] m_law_spans
def b_law_lot_1 : DS := (sFg [5, 6] (sSeq (sAsgN 6 (eIf (tOr (c2 dLt (eVar 3) (eC (.int 1))) (c2 dEq (eCall f_law_take [.lend 0, .e (e2 dAdd (eC (.int 1)) (eVar 3))]) (eC (.int 0)))) (eCall f_law_take [.lend 0, .e (e2 dAdd (eVar 2) (eC (.int 1)))]) (eC (.int 0)))) (sIf (c2 dGt (eVar 6) (eC (.int 0))) (sApp 4 (eTup (aCons (eVar 5) (aCons (eVar 6) aNil)))) sNil)))
def l_law_lot_1 : DS := (sFor (iSeq (eCall f_law_spans [.e (eVar 1)])) (gN 5) b_law_lot_1)
def m_law_lot : DS := (sSeq (sPar [(3, false), (4, true)] [.e (eCall f_law_take [.lend 0, .e (eC (.int 4))]), .new (eLst aNil)]) (sSeq l_law_lot_1 (sSeq (sRelL 4) (sRet (eTup (aCons (eVar 1) (aCons (e1 dTuple (eVar 4)) aNil)))))))
def f_law_lot : DF := mkF 7 [.bor, .val, .val] m_law_lot
def c_all_stretches_1 : DE := (eLc2 [1, 2] [2] (iRng1 (eVar 0)) (gN 1) tYes (iRng2 (eVar 1) (eVar 0)) (gN 2) tYes (eTup (aCons (eVar 1) (aCons (eVar 2) aNil))))
def m_all_stretches : DS := (sRet c_all_stretches_1)
def f_all_stretches : DF := mkF 3 [.val] m_all_stretches
def b_law_hands_1 : DS := (sFg [4] (sApp 3 (eIf (c2 dGt (eCall f_law_take [.lend 0, .e (eC (.int 4))]) (eC (.int 0))) (eCall f_law_take [.lend 0, .e (e2 dAdd (eVar 2) (eC (.int 1)))]) (eC (.int 0)))))
def l_law_hands_1 : DS := (sFor (iRng1 (eVar 1)) (gN 4) b_law_hands_1)
def m_law_hands : DS := (sSeq (sOwn 3 (eLst aNil)) (sSeq l_law_hands_1 (sSeq (sRelL 3) (sRet (e1 dTuple (eVar 3))))))
def f_law_hands : DF := mkF 5 [.bor, .val, .val] m_law_hands
def c_rises_1 : DE := (eLc [1, 2] (iZip2 (eVar 0) (eSl (eVar 0) (oSome (eC (.int 1))) oNone)) (gT (gsCons (gN 1) (gsCons (gN 2) gsNil))) tYes (eB (c2 dLt (eVar 1) (eVar 2))))
def m_rises : DS := (sRet (e1 dAll c_rises_1))
def f_rises : DF := mkF 3 [.val] m_rises
def c_tupled_1 (n_f : DF) : DE := (eLc [1] (iSeq (eVar 0)) (gN 1) tYes (eCall n_f [.e (eVar 1)]))
def m_tupled (n_f : DF) : DS := (sRet (eIf (tV (eIsi2 .list .tuple (eVar 0))) (e1 dTuple (c_tupled_1 n_f)) (eVar 0)))
def f_tupled : Nat → DF
  | 0 => fun _ => .bad
  | n + 1 => mkF 2 [.val] (m_tupled (f_tupled n))
def c_is_name_1 : DE := (eLc [1] (iSeq (eVar 0)) (gN 1) tYes (eB (c2 dIn (eVar 1) (eC (.str "abcdefghijklmnopqrstuvwxyz")))))
def m_is_name : DS := (sRet (eAnd (eIsi .str (eVar 0)) (eAnd (eB (c3 dLe dLe (eC (.int 1)) (e1 dLen (eVar 0)) (eC (.int 8)))) (e1 dAll c_is_name_1))))
def f_is_name : DF := mkF 2 [.val] m_is_name
def c_number_in_1 : DE := (eLc [1] (iSeq (eVar 0)) (gN 1) tYes (eB (c2 dIn (eVar 1) (eC (.str "0123456789")))))
def m_number_in : DS := (sSeq (sIf (tOr (c2 dEq (eVar 0) (eC (.str ""))) (tOr (tNot (tV (e1 dAll c_number_in_1))) (tAnd (c2 dEq (e2 dIx (eVar 0) (eC (.int 0))) (eC (.str "0"))) (c2 dNe (eVar 0) (eC (.str "0")))))) (sRaise "BadText") sNil) (sRet (e1 dInt (eVar 0))))
def f_number_in : DF := mkF 2 [.val] m_number_in
end AH
namespace AH
open PySem L2
variable [TheK]
/-! ### tupled(thing) as dict() takes it: a new tuple, if the thing is a list or a tuple -/
end AH
namespace LW
open PySem PySem.Spec PyProof.Rows L2 AH
variable [TheK]
def top (i : Nat) : Stmt := PySem.Challenge.pw_anyhands_k55_what_is_no_such_text.main.body.getD i (.Pass ⟨0, 0, 0, 0⟩)
abbrev s_law_cells : Stmt := top 30
abbrev s_parts_in : Stmt := top 16
abbrev s_number_in : Stmt := top 15
abbrev s_rises : Stmt := top 5
abbrev s_pair_in : Stmt := top 17
abbrev s_errand_in : Stmt := top 18
abbrev s_read_lot : Stmt := top 20
abbrev s_read_numbers : Stmt := top 22
abbrev s_read_ranges : Stmt := top 24
abbrev s_tupled : Stmt := top 4
abbrev s_is_name : Stmt := top 14
abbrev s_line_in : Stmt := top 25
abbrev s_read_sheet : Stmt := top 26
abbrev s_law_heard : Stmt := top 36
abbrev s_law_same : Stmt := top 32
abbrev s_law_number : Stmt := top 37
abbrev s_law_wide : Stmt := top 43
abbrev s_law_pair : Stmt := top 38
abbrev s_law_lot_in : Stmt := top 39
abbrev s_law_numbers_in : Stmt := top 40
abbrev s_law_ranges_in : Stmt := top 41
abbrev s_law_lines_in : Stmt := top 42
abbrev s_law_text_right : Stmt := top 44
abbrev s_law_by_hand_right : Stmt := top 45
abbrev s_law_take : Stmt := top 29
abbrev s_law_spans : Stmt := top 33
abbrev s_law_lot : Stmt := top 34
abbrev s_law_hands : Stmt := top 35
abbrev s_lot_text : Stmt := top 19
abbrev s_numbers_text : Stmt := top 21
abbrev s_ranges_text : Stmt := top 23
abbrev s_law_of : Stmt := top 31
abbrev s_law_bent : Stmt := top 46
abbrev s_law_right : Stmt := top 47
abbrev s_law_box : Stmt := top 28
abbrev s_law : Stmt := top 48
/-- what is asked of the module -/
structure Bf (K : PySem.W.Frag) (mg : Str → Option Value) : Prop where
  ValueError : mg "ValueError" = none
  abs : mg "abs" = none
  all : mg "all" = none
  any : mg "any" = none
  bool : mg "bool" = none
  enumerate : mg "enumerate" = none
  int : mg "int" = none
  isinstance : mg "isinstance" = none
  len : mg "len" = none
  list : mg "list" = none
  range : mg "range" = none
  set : mg "set" = none
  sorted : mg "sorted" = none
  str : mg "str" = none
  tuple : mg "tuple" = none
  zip : mg "zip" = none
  g_COLON : ∃ t, mg "COLON" = some (.str ": " t)
  g_COMMA : ∃ t, mg "COMMA" = some (.str ", " t)
  g_DASH : ∃ t, mg "DASH" = some (.str "-" t)
  g_DIGITS : ∃ t, mg "DIGITS" = some (.str "0123456789" t)
  g_DOTS : ∃ t, mg "DOTS" = some (.str ".." t)
  g_FEED : ∃ t, mg "FEED" = some (.str "\n" t)
  g_LETTERS : ∃ t, mg "LETTERS" = some (.str "abcdefghijklmnopqrstuvwxyz" t)
  xc_BadText : XcF K mg "BadText"
  xx_BadLine : ("BadLine" : Str) ∈ TheK.xs
  xx_BadText : ("BadText" : Str) ∈ TheK.xs
  xg_BadLine : mg "BadLine" = some (.ref (He.ga K "BadLine"))
  xm_BadLine : ∀ c' ∈ TheK.xs, PySem.W.exmOne K (.ref (He.ga K c')) (.ref (He.ga K "BadLine")) = some (decide (c' = "BadLine"))
  xg_BadText : mg "BadText" = some (.ref (He.ga K "BadText"))
  xm_BadText : ∀ c' ∈ TheK.xs, PySem.W.exmOne K (.ref (He.ga K c')) (.ref (He.ga K "BadText")) = some (decide (c' = "BadText"))
  xv : ∀ c ∈ TheK.xs, XvF K c
  xa : ∀ c ∈ TheK.xs, XaF K c
abbrev n_law_cells : List Str := ["_law_script", "_law_most_so", "_law_cells_here", "_law_k", "_law_cell", "_law_at_so"]
abbrev p_law_cells : List Str := ["_law_script", "_law_most_so"]
theorem sc_law_cells : FnScope n_law_cells p_law_cells (defScope s_law_cells) := ⟨rfl, rfl, rfl, by decide +kernel, rfl, by decide +kernel, by decide +kernel⟩
theorem b_law_cells : BindsOk "_law_cells" s_law_cells p_law_cells := fun _ _ _ _ _ _ us hl => match us, hl with | [_, _], _ => rfl
theorem ok_law_cells {P : Program} {w : World} {K : PySem.W.Frag} {mg : Str → Option Value} {base : Heap} (hK : K = TheK.K) (B : Bf K mg) (F : Fu K mg "_law_cells" s_law_cells) : Kn P w K mg base .s "_law_cells" s_law_cells n_law_cells p_law_cells [.ro, .val] f_law_cells 1 := kn_of F sc_law_cells rfl b_law_cells (.inl ⟨rfl, rfl⟩) fun f cdv A outer s H E hr tk hp => by
  have nd : n_law_cells.Nodup := sc_law_cells.nd
  have hc : (cxD P w K mg base n_law_cells "_law_cells" (defScope s_law_cells) f cdv A outer s H E).calm = true := rfl
  have hu := room_u hr
  exact (ss_cons (sd_own (i := 2) nd rfl (.inl rfl) (pd_orT (pd_list (bn_any rfl B.list boot_list) (PD.weak (PD.str (pd_slN (i := 0) rfl (.inl rfl) od_none (od_some (pd_var (i := 1) rfl (.inl rfl))))))) (pd_lst (ad_cons pd_int ad_nil)) (.inl rfl))) (ss_cons (sd_for hp hc (id_enum (bn_any rfl B.enumerate boot_enumerate) (PD.str (pd_slN (i := 0) rfl (.inl rfl) (od_some (pd_var (i := 1) rfl (.inl rfl))) (od_some pd_int)))) (gd_tup (n := 2) hc (gsd_cons (gd_name (i := 3) nd rfl (.inl rfl)) (gsd_cons (gd_name (i := 4) nd rfl (.inl rfl)) gsd_nil)) (gs_lenS (gs_lenS gs_len0))) (ss_fg (vs := [3, 4, 5]) (ss_cons (sd_asgN (i := 5) nd rfl (.inl rfl) (pd_mod (pd_toint (bn_any rfl B.int boot_int) (pd_var (i := 3) rfl (.inl rfl))) (pd_var (i := 1) rfl (.inl rfl)))) (ss_one (sd_setL (i := 2) rfl (.inl rfl) (pd_var (i := 5) rfl (.inl rfl)) (pd_add (pd_ixL (i := 2) hu rfl (.inl rfl) (pd_var (i := 5) rfl (.inl rfl))) (pd_mul (pd_var (i := 4) rfl (.inl rfl)) (pd_add (pd_var (i := 3) rfl (.inl rfl)) pd_int)))))))) (ss_rel (i := 2) (ss_one (sd_ret (pd_var (i := 2) rfl (.inl rfl)))))))
abbrev n_parts_in : List Str := ["text", "mark", "parts"]
abbrev p_parts_in : List Str := ["text", "mark"]
theorem sc_parts_in : FnScope n_parts_in p_parts_in (defScope s_parts_in) := ⟨rfl, rfl, rfl, by decide +kernel, rfl, by decide +kernel, by decide +kernel⟩
theorem b_parts_in : BindsOk "parts_in" s_parts_in p_parts_in := fun _ _ _ _ _ _ us hl => match us, hl with | [_, _], _ => rfl
def m_parts_in : DS := (sSeq (sAsgN 2 (eS1 dSplit (eVar 0) (eVar 1))) (sSeq (sIf (c2 dNe (e1 dLen (eVar 2)) (eC (.int 2))) (sRaise "BadText") sNil) (sRet (eVar 2))))
def f_parts_in : DF := mkF 3 [.val, .val] m_parts_in
theorem ok_parts_in {P : Program} {w : World} {K : PySem.W.Frag} {mg : Str → Option Value} {base : Heap} (hK : K = TheK.K) (B : Bf K mg) (F : Fu K mg "parts_in" s_parts_in) : Kn P w K mg base .s "parts_in" s_parts_in n_parts_in p_parts_in [.val, .val] f_parts_in 3 := kn_of F sc_parts_in rfl b_parts_in (.inl ⟨rfl, rfl⟩) fun f cdv A outer s H E hr tk hp => by
  have nd : n_parts_in.Nodup := sc_parts_in.nd
  have hc : (cxD P w K mg base n_parts_in "parts_in" (defScope s_parts_in) f cdv A outer s H E).calm = true := rfl
  have hu := room_u hr
  exact (ss_cons (sd_asgN (i := 2) nd rfl (.inl rfl) (PD.str (pd_split (pd_var (i := 0) rfl (.inl rfl)) (pd_var (i := 1) rfl (.inl rfl))))) (ss_cons (sd_if (td_cmp (ck_ne hu) (pd_len (bn_any rfl B.len boot_len) (PD.weak (pd_var (i := 2) rfl (.inl rfl)))) (PD.weak pd_int) rfl) (ss_one (sd_raise0 hc tk B.xx_BadText B.xc_BadText rfl)) ss_nil) (ss_one (sd_ret (pd_var (i := 2) rfl (.inl rfl))))))
abbrev n_number_in : List Str := ["word", "sign"]
abbrev p_number_in : List Str := ["word"]
theorem sc_number_in : FnScope n_number_in p_number_in (defScope s_number_in) := ⟨rfl, rfl, rfl, by decide +kernel, rfl, by decide +kernel, by decide +kernel⟩
theorem b_number_in : BindsOk "number_in" s_number_in p_number_in := fun _ _ _ _ _ _ us hl => match us, hl with | [_], _ => rfl
def c_number_in_1 : DE := (eLc [1] (iChr (eVar 0)) (gN 1) tYes (eB (c2 dInS (eVar 1) (eC (.str "0123456789")))))
def m_number_in : DS := (sSeq (sIf (tOr (c2 dEq (eVar 0) (eC (.str ""))) (tOr (tNot (tV (e1 dAll c_number_in_1))) (tAnd (c2 dEq (e2 dIxA (eVar 0) (eC (.int 0))) (eC (.str "0"))) (c2 dNe (eVar 0) (eC (.str "0")))))) (sRaise "BadText") sNil) (sRet (e1 dIntS (eVar 0))))
def f_number_in : DF := mkF 2 [.val] m_number_in
theorem ok_number_in {P : Program} {w : World} {K : PySem.W.Frag} {mg : Str → Option Value} {base : Heap} (hK : K = TheK.K) (B : Bf K mg) (F : Fu K mg "number_in" s_number_in) : Kn P w K mg base .s "number_in" s_number_in n_number_in p_number_in [.val] f_number_in 3 := kn_of F sc_number_in rfl b_number_in (.inl ⟨rfl, rfl⟩) fun f cdv A outer s H E hr tk hp => by
  have nd : n_number_in.Nodup := sc_number_in.nd
  have hc : (cxD P w K mg base n_number_in "number_in" (defScope s_number_in) f cdv A outer s H E).calm = true := rfl
  have hu := room_u hr
  exact (ss_cons (sd_if (WD.td (wd_or (td_cmp (ck_eq hu) (pd_var (i := 0) rfl (.inl rfl)) (PD.weak pd_str) rfl) (wd_or (td_not (td_val (pd_all hc (bn_any rfl B.all boot_all) (PD.weak (PD.str (pd_lc (own := [("sign", 1)]) hc nd (by kernel_rfl) rfl (id_chr (pd_var (i := 0) rfl (.inl rfl))) (fun s H C cl fp => (gd_name (i := 1) nd rfl (.inl rfl))) (fun s H C cl fp => cd_nil) (fun s H C cl fp => (pd_in ik_inS (pd_var (i := 1) rfl (.inl rfl)) (PD.weak (pd_gstr rfl B.g_DIGITS)) rfl)))))))) (wd_or1 (WD.td (wd_and (td_cmp (ck_eq hu) (pd_ixA hu (pd_var (i := 0) rfl (.inl rfl)) pd_int) (PD.weak pd_str) rfl) (wd_and1 (td_cmp (ck_ne hu) (pd_var (i := 0) rfl (.inl rfl)) (PD.weak pd_str) rfl)))))))) (ss_one (sd_raise0 hc tk B.xx_BadText B.xc_BadText rfl)) ss_nil) (ss_one (sd_ret (pd_intS (bn_any rfl B.int boot_int) (pd_var (i := 0) rfl (.inl rfl))))))
abbrev n_rises : List Str := ["things", "one", "other"]
abbrev p_rises : List Str := ["things"]
theorem sc_rises : FnScope n_rises p_rises (defScope s_rises) := ⟨rfl, rfl, rfl, by decide +kernel, rfl, by decide +kernel, by decide +kernel⟩
theorem b_rises : BindsOk "rises" s_rises p_rises := fun _ _ _ _ _ _ us hl => match us, hl with | [_], _ => rfl
theorem ok_rises {P : Program} {w : World} {K : PySem.W.Frag} {mg : Str → Option Value} {base : Heap} (hK : K = TheK.K) (B : Bf K mg) (F : Fu K mg "rises" s_rises) : Kn P w K mg base .s "rises" s_rises n_rises p_rises [.val] f_rises 1 := kn_of F sc_rises rfl b_rises (.inl ⟨rfl, rfl⟩) fun f cdv A outer s H E hr tk hp => by
  have nd : n_rises.Nodup := sc_rises.nd
  have hc : (cxD P w K mg base n_rises "rises" (defScope s_rises) f cdv A outer s H E).calm = true := rfl
  have hu := room_u hr
  exact (ss_one (sd_ret (pd_all hc (bn_any rfl B.all boot_all) (PD.weak (PD.str (pd_lc (own := [("one", 1), ("other", 2)]) hc nd (by kernel_rfl) rfl (id_zip2 (bn_any rfl B.zip boot_zip) (pd_var (i := 0) rfl (.inl rfl)) (pd_sl (pd_var (i := 0) rfl (.inl rfl)) (od_some pd_int) od_none)) (fun s H C cl fp => (gd_tup (n := 2) hc (gsd_cons (gd_name (i := 1) nd rfl (.inl rfl)) (gsd_cons (gd_name (i := 2) nd rfl (.inl rfl)) gsd_nil)) (gs_lenS (gs_lenS gs_len0)))) (fun s H C cl fp => cd_nil) (fun s H C cl fp => (pd_cmp (ck_lt hu) (pd_var (i := 1) rfl (.inl rfl)) (PD.weak (pd_var (i := 2) rfl (.inl rfl))) rfl))))))))
abbrev n_pair_in : List Str := ["text", "mark", "found", "part"]
abbrev p_pair_in : List Str := ["text", "mark"]
theorem sc_pair_in : FnScope n_pair_in p_pair_in (defScope s_pair_in) := ⟨rfl, rfl, rfl, by decide +kernel, rfl, by decide +kernel, by decide +kernel⟩
theorem b_pair_in : BindsOk "pair_in" s_pair_in p_pair_in := fun _ _ _ _ _ _ us hl => match us, hl with | [_, _], _ => rfl
def c_pair_in_1 : DE := (eLcX [3] (iSeq (eCall f_parts_in [.e (eVar 0), .e (eVar 1)])) (gN 3) tYes (eCall f_number_in [.e (eVar 3)]))
def m_pair_in : DS := (sSeq (sAsgN 2 (e1 dTuple c_pair_in_1)) (sSeq (sIf (c2 dLt (e2 dIx (eVar 2) (eC (.int 1))) (e2 dIx (eVar 2) (eC (.int 0)))) (sRaise "BadText") sNil) (sRet (eVar 2))))
def f_pair_in : DF := mkF 4 [.val, .val] m_pair_in
theorem ok_pair_in {P : Program} {w : World} {K : PySem.W.Frag} {mg : Str → Option Value} {base : Heap} (hK : K = TheK.K) (B : Bf K mg) (F : Fu K mg "pair_in" s_pair_in) (k_number_in : Kn P w K mg base .s "number_in" s_number_in n_number_in p_number_in [.val] f_number_in 3) (k_parts_in : Kn P w K mg base .s "parts_in" s_parts_in n_parts_in p_parts_in [.val, .val] f_parts_in 3) : Kn P w K mg base .s "pair_in" s_pair_in n_pair_in p_pair_in [.val, .val] f_pair_in 4 := kn_of F sc_pair_in rfl b_pair_in (.inl ⟨rfl, rfl⟩) fun f cdv A outer s H E hr tk hp => by
  have nd : n_pair_in.Nodup := sc_pair_in.nd
  have hc : (cxD P w K mg base n_pair_in "pair_in" (defScope s_pair_in) f cdv A outer s H E).calm = true := rfl
  have hu := room_u hr
  exact (ss_cons (sd_asgN (i := 2) nd rfl (.inl rfl) (pd_tuple (bn_any rfl B.tuple boot_tuple) (PD.str (pd_lcX (own := [("part", 3)]) hc nd rfl rfl tk (by kernel_rfl) rfl rfl (id_seq (pd_call (k_parts_in.fn hr) tk rfl (ga_val (pd_var (i := 0) rfl (.inl rfl)) (ga_val (pd_var (i := 1) rfl (.inl rfl)) ga_nil)))) (fun s H C cl fp xe => (gd_name (i := 3) nd rfl (.inl rfl))) (fun s H C cl fp xe => cd_nil) (fun s H C cl fp xe Wb tkb => (pd_call (k_number_in.fn hr) tkb rfl (ga_val (pd_var (i := 3) rfl (.inl rfl)) ga_nil))))))) (ss_cons (sd_if (td_cmp (ck_lt hu) (pd_ix hu (pd_var (i := 2) rfl (.inl rfl)) pd_int) (PD.weak (pd_ix hu (pd_var (i := 2) rfl (.inl rfl)) pd_int)) rfl) (ss_one (sd_raise0 hc tk B.xx_BadText B.xc_BadText rfl)) ss_nil) (ss_one (sd_ret (pd_var (i := 2) rfl (.inl rfl))))))
abbrev n_errand_in : List Str := ["text", "window", "work", "found"]
abbrev p_errand_in : List Str := ["text"]
theorem sc_errand_in : FnScope n_errand_in p_errand_in (defScope s_errand_in) := ⟨rfl, rfl, rfl, by decide +kernel, rfl, by decide +kernel, by decide +kernel⟩
theorem b_errand_in : BindsOk "errand_in" s_errand_in p_errand_in := fun _ _ _ _ _ _ us hl => match us, hl with | [_], _ => rfl
def m_errand_in : DS := (sSeq (sAsg (eCall f_parts_in [.e (eVar 0), .e (eC (.str " "))]) (gT (gsCons (gN 1) (gsCons (gN 2) gsNil)))) (sSeq (sAsgN 3 (eTup (aCons (eCall f_pair_in [.e (eVar 1), .e (eC (.str "-"))]) (aCons (eCall f_number_in [.e (eVar 2)]) aNil)))) (sSeq (sIf (c2 dLt (e2 dIx (eVar 3) (eC (.int 1))) (eC (.int 1))) (sRaise "BadText") sNil) (sRet (eVar 3)))))
def f_errand_in : DF := mkF 4 [.val] m_errand_in
theorem ok_errand_in {P : Program} {w : World} {K : PySem.W.Frag} {mg : Str → Option Value} {base : Heap} (hK : K = TheK.K) (B : Bf K mg) (F : Fu K mg "errand_in" s_errand_in) (k_parts_in : Kn P w K mg base .s "parts_in" s_parts_in n_parts_in p_parts_in [.val, .val] f_parts_in 3) (k_pair_in : Kn P w K mg base .s "pair_in" s_pair_in n_pair_in p_pair_in [.val, .val] f_pair_in 4) (k_number_in : Kn P w K mg base .s "number_in" s_number_in n_number_in p_number_in [.val] f_number_in 3) : Kn P w K mg base .s "errand_in" s_errand_in n_errand_in p_errand_in [.val] f_errand_in 5 := kn_of F sc_errand_in rfl b_errand_in (.inl ⟨rfl, rfl⟩) fun f cdv A outer s H E hr tk hp => by
  have nd : n_errand_in.Nodup := sc_errand_in.nd
  have hc : (cxD P w K mg base n_errand_in "errand_in" (defScope s_errand_in) f cdv A outer s H E).calm = true := rfl
  have hu := room_u hr
  exact (ss_cons (sd_asgT (pd_call (k_parts_in.fn hr) tk rfl (ga_val (pd_var (i := 0) rfl (.inl rfl)) (ga_val pd_str ga_nil))) (gd_tup (n := 2) hc (gsd_cons (gd_name (i := 1) nd rfl (.inl rfl)) (gsd_cons (gd_name (i := 2) nd rfl (.inl rfl)) gsd_nil)) (gs_lenS (gs_lenS gs_len0)))) (ss_cons (sd_asgN (i := 3) nd rfl (.inl rfl) (pd_tup (ad_cons (pd_call (k_pair_in.fn hr) tk rfl (ga_val (pd_var (i := 1) rfl (.inl rfl)) (ga_val (pd_gstr rfl B.g_DASH) ga_nil))) (ad_cons (pd_call (k_number_in.fn hr) tk rfl (ga_val (pd_var (i := 2) rfl (.inl rfl)) ga_nil)) ad_nil)))) (ss_cons (sd_if (td_cmp (ck_lt hu) (pd_ix hu (pd_var (i := 3) rfl (.inl rfl)) pd_int) (PD.weak pd_int) rfl) (ss_one (sd_raise0 hc tk B.xx_BadText B.xc_BadText rfl)) ss_nil) (ss_one (sd_ret (pd_var (i := 3) rfl (.inl rfl)))))))
abbrev n_read_lot : List Str := ["text", "head", "rest", "hours", "errands", "part", "window", "work"]
abbrev p_read_lot : List Str := ["text"]
theorem sc_read_lot : FnScope n_read_lot p_read_lot (defScope s_read_lot) := ⟨rfl, rfl, rfl, by decide +kernel, rfl, by decide +kernel, by decide +kernel⟩
theorem b_read_lot : BindsOk "read_lot" s_read_lot p_read_lot := fun _ _ _ _ _ _ us hl => match us, hl with | [_], _ => rfl
def c_read_lot_1 : DE := (eLcX [5] (iSeq (eS1 dSplit (eVar 2) (eC (.str ", ")))) (gN 5) tYes (eCall f_errand_in [.e (eVar 5)]))
def c_read_lot_2 : DE := (eLc [6, 7] (iSeq (eVar 4)) (gT (gsCons (gN 6) (gsCons (gN 7) gsNil))) tYes (eVar 6))
def c_read_lot_3 : DE := (eLc [6, 7] (iSeq (eVar 4)) (gT (gsCons (gN 6) (gsCons (gN 7) gsNil))) tYes (eB (c2 dGe (e2 dIx (eVar 6) (eC (.int 1))) (eVar 3))))
def m_read_lot : DS := (sSeq (sAsg (eCall f_parts_in [.e (eVar 0), .e (eC (.str ": "))]) (gT (gsCons (gN 1) (gsCons (gN 2) gsNil)))) (sSeq (sAsg (eTup (aCons (eCall f_number_in [.e (eVar 1)]) (aCons (eIf (c2 dEq (eVar 2) (eC (.str "-"))) (eTup aNil) (e1 dTuple c_read_lot_1)) aNil))) (gT (gsCons (gN 3) (gsCons (gN 4) gsNil)))) (sSeq (sIf (tOr (c2 dLt (eVar 3) (eC (.int 1))) (tNot (tV (eCall f_rises [.e c_read_lot_2])))) (sRaise "BadText") sNil) (sSeq (sIf (tV (e1 dAny c_read_lot_3)) (sRaise "BadText") sNil) (sRet (eTup (aCons (eVar 3) (aCons (eVar 4) aNil))))))))
def f_read_lot : DF := mkF 8 [.val] m_read_lot
theorem ok_read_lot {P : Program} {w : World} {K : PySem.W.Frag} {mg : Str → Option Value} {base : Heap} (hK : K = TheK.K) (B : Bf K mg) (F : Fu K mg "read_lot" s_read_lot) (k_parts_in : Kn P w K mg base .s "parts_in" s_parts_in n_parts_in p_parts_in [.val, .val] f_parts_in 3) (k_number_in : Kn P w K mg base .s "number_in" s_number_in n_number_in p_number_in [.val] f_number_in 3) (k_rises : Kn P w K mg base .s "rises" s_rises n_rises p_rises [.val] f_rises 1) (k_errand_in : Kn P w K mg base .s "errand_in" s_errand_in n_errand_in p_errand_in [.val] f_errand_in 5) : Kn P w K mg base .s "read_lot" s_read_lot n_read_lot p_read_lot [.val] f_read_lot 6 := kn_of F sc_read_lot rfl b_read_lot (.inl ⟨rfl, rfl⟩) fun f cdv A outer s H E hr tk hp => by
  have nd : n_read_lot.Nodup := sc_read_lot.nd
  have hc : (cxD P w K mg base n_read_lot "read_lot" (defScope s_read_lot) f cdv A outer s H E).calm = true := rfl
  have hu := room_u hr
  exact (ss_cons (sd_asgT (pd_call (k_parts_in.fn hr) tk rfl (ga_val (pd_var (i := 0) rfl (.inl rfl)) (ga_val (pd_gstr rfl B.g_COLON) ga_nil))) (gd_tup (n := 2) hc (gsd_cons (gd_name (i := 1) nd rfl (.inl rfl)) (gsd_cons (gd_name (i := 2) nd rfl (.inl rfl)) gsd_nil)) (gs_lenS (gs_lenS gs_len0)))) (ss_cons (sd_asgT (pd_tup (ad_cons (pd_call (k_number_in.fn hr) tk rfl (ga_val (pd_var (i := 1) rfl (.inl rfl)) ga_nil)) (ad_cons (pd_if (td_cmp (ck_eq hu) (pd_var (i := 2) rfl (.inl rfl)) (PD.weak (pd_gstr rfl B.g_DASH)) rfl) (pd_tup ad_nil) (pd_tuple (bn_any rfl B.tuple boot_tuple) (PD.str (pd_lcX (own := [("part", 5)]) hc nd rfl rfl tk (by kernel_rfl) rfl rfl (id_seq (PD.str (pd_split (pd_var (i := 2) rfl (.inl rfl)) (pd_gstr rfl B.g_COMMA)))) (fun s H C cl fp xe => (gd_name (i := 5) nd rfl (.inl rfl))) (fun s H C cl fp xe => cd_nil) (fun s H C cl fp xe Wb tkb => (pd_call (k_errand_in.fn hr) tkb rfl (ga_val (pd_var (i := 5) rfl (.inl rfl)) ga_nil))))))) ad_nil))) (gd_tup (n := 2) hc (gsd_cons (gd_name (i := 3) nd rfl (.inr rfl)) (gsd_cons (gd_name (i := 4) nd rfl (.inl rfl)) gsd_nil)) (gs_lenS (gs_lenS gs_len0)))) (ss_cons (sd_if (WD.td (wd_or (td_cmp (ck_lt hu) (pd_var (i := 3) rfl (.inr (.inl rfl))) (PD.weak pd_int) rfl) (wd_or1 (td_not (td_val (pd_call (k_rises.fn hr) tk rfl (ga_val (PD.str (pd_lc (own := [("window", 6), ("work", 7)]) hc nd (by kernel_rfl) rfl (id_seq (pd_var (i := 4) rfl (.inl rfl))) (fun s H C cl fp => (gd_tup (n := 2) hc (gsd_cons (gd_name (i := 6) nd rfl (.inl rfl)) (gsd_cons (gd_name (i := 7) nd rfl (.inl rfl)) gsd_nil)) (gs_lenS (gs_lenS gs_len0)))) (fun s H C cl fp => cd_nil) (fun s H C cl fp => (pd_var (i := 6) rfl (.inl rfl))))) ga_nil))))))) (ss_one (sd_raise0 hc tk B.xx_BadText B.xc_BadText rfl)) ss_nil) (ss_cons (sd_if (td_val (pd_any hc (bn_any rfl B.any boot_any) (PD.weak (PD.str (pd_lc (own := [("window", 6), ("work", 7)]) hc nd (by kernel_rfl) rfl (id_seq (pd_var (i := 4) rfl (.inl rfl))) (fun s H C cl fp => (gd_tup (n := 2) hc (gsd_cons (gd_name (i := 6) nd rfl (.inl rfl)) (gsd_cons (gd_name (i := 7) nd rfl (.inl rfl)) gsd_nil)) (gs_lenS (gs_lenS gs_len0)))) (fun s H C cl fp => cd_nil) (fun s H C cl fp => (pd_cmp ck_ge (pd_ix hu (pd_var (i := 6) rfl (.inl rfl)) pd_int) (PD.weak (pd_var (i := 3) rfl (.inr (.inl rfl)))) rfl))))))) (ss_one (sd_raise0 hc tk B.xx_BadText B.xc_BadText rfl)) ss_nil) (ss_one (sd_ret (pd_tup (ad_cons (pd_var (i := 3) rfl (.inr (.inl rfl))) (ad_cons (pd_var (i := 4) rfl (.inl rfl)) ad_nil)))))))))
abbrev n_read_numbers : List Str := ["text", "word"]
abbrev p_read_numbers : List Str := ["text"]
theorem sc_read_numbers : FnScope n_read_numbers p_read_numbers (defScope s_read_numbers) := ⟨rfl, rfl, rfl, by decide +kernel, rfl, by decide +kernel, by decide +kernel⟩
theorem b_read_numbers : BindsOk "read_numbers" s_read_numbers p_read_numbers := fun _ _ _ _ _ _ us hl => match us, hl with | [_], _ => rfl
def c_read_numbers_1 : DE := (eLcX [1] (iSeq (eS1 dSplit (eVar 0) (eC (.str " ")))) (gN 1) tYes (eCall f_number_in [.e (eVar 1)]))
def m_read_numbers : DS := (sRet (e1 dTuple c_read_numbers_1))
def f_read_numbers : DF := mkF 2 [.val] m_read_numbers
theorem ok_read_numbers {P : Program} {w : World} {K : PySem.W.Frag} {mg : Str → Option Value} {base : Heap} (hK : K = TheK.K) (B : Bf K mg) (F : Fu K mg "read_numbers" s_read_numbers) (k_number_in : Kn P w K mg base .s "number_in" s_number_in n_number_in p_number_in [.val] f_number_in 3) : Kn P w K mg base .s "read_numbers" s_read_numbers n_read_numbers p_read_numbers [.val] f_read_numbers 4 := kn_of F sc_read_numbers rfl b_read_numbers (.inl ⟨rfl, rfl⟩) fun f cdv A outer s H E hr tk hp => by
  have nd : n_read_numbers.Nodup := sc_read_numbers.nd
  have hc : (cxD P w K mg base n_read_numbers "read_numbers" (defScope s_read_numbers) f cdv A outer s H E).calm = true := rfl
  have hu := room_u hr
  exact (ss_one (sd_ret (pd_tuple (bn_any rfl B.tuple boot_tuple) (PD.str (pd_lcX (own := [("word", 1)]) hc nd rfl rfl tk (by kernel_rfl) rfl rfl (id_seq (PD.str (pd_split (pd_var (i := 0) rfl (.inl rfl)) pd_str))) (fun s H C cl fp xe => (gd_name (i := 1) nd rfl (.inl rfl))) (fun s H C cl fp xe => cd_nil) (fun s H C cl fp xe Wb tkb => (pd_call (k_number_in.fn hr) tkb rfl (ga_val (pd_var (i := 1) rfl (.inl rfl)) ga_nil))))))))
abbrev n_read_ranges : List Str := ["text", "part"]
abbrev p_read_ranges : List Str := ["text"]
theorem sc_read_ranges : FnScope n_read_ranges p_read_ranges (defScope s_read_ranges) := ⟨rfl, rfl, rfl, by decide +kernel, rfl, by decide +kernel, by decide +kernel⟩
theorem b_read_ranges : BindsOk "read_ranges" s_read_ranges p_read_ranges := fun _ _ _ _ _ _ us hl => match us, hl with | [_], _ => rfl
def c_read_ranges_1 : DE := (eLcX [1] (iSeq (eS1 dSplit (eVar 0) (eC (.str " ")))) (gN 1) tYes (eCall f_pair_in [.e (eVar 1), .e (eC (.str ".."))]))
def m_read_ranges : DS := (sRet (e1 dTuple c_read_ranges_1))
def f_read_ranges : DF := mkF 2 [.val] m_read_ranges
theorem ok_read_ranges {P : Program} {w : World} {K : PySem.W.Frag} {mg : Str → Option Value} {base : Heap} (hK : K = TheK.K) (B : Bf K mg) (F : Fu K mg "read_ranges" s_read_ranges) (k_pair_in : Kn P w K mg base .s "pair_in" s_pair_in n_pair_in p_pair_in [.val, .val] f_pair_in 4) : Kn P w K mg base .s "read_ranges" s_read_ranges n_read_ranges p_read_ranges [.val] f_read_ranges 5 := kn_of F sc_read_ranges rfl b_read_ranges (.inl ⟨rfl, rfl⟩) fun f cdv A outer s H E hr tk hp => by
  have nd : n_read_ranges.Nodup := sc_read_ranges.nd
  have hc : (cxD P w K mg base n_read_ranges "read_ranges" (defScope s_read_ranges) f cdv A outer s H E).calm = true := rfl
  have hu := room_u hr
  exact (ss_one (sd_ret (pd_tuple (bn_any rfl B.tuple boot_tuple) (PD.str (pd_lcX (own := [("part", 1)]) hc nd rfl rfl tk (by kernel_rfl) rfl rfl (id_seq (PD.str (pd_split (pd_var (i := 0) rfl (.inl rfl)) pd_str))) (fun s H C cl fp xe => (gd_name (i := 1) nd rfl (.inl rfl))) (fun s H C cl fp xe => cd_nil) (fun s H C cl fp xe Wb tkb => (pd_call (k_pair_in.fn hr) tkb rfl (ga_val (pd_var (i := 1) rfl (.inl rfl)) (ga_val (pd_gstr rfl B.g_DOTS) ga_nil)))))))))
abbrev n_tupled : List Str := ["thing", "own"]
abbrev p_tupled : List Str := ["thing"]
theorem sc_tupled : FnScope n_tupled p_tupled (defScope s_tupled) := ⟨rfl, rfl, rfl, by decide +kernel, rfl, by decide +kernel, by decide +kernel⟩
theorem b_tupled : BindsOk "tupled" s_tupled p_tupled := fun _ _ _ _ _ _ us hl => match us, hl with | [_], _ => rfl
theorem ok_tupled {P : Program} {w : World} {K : PySem.W.Frag} {mg : Str → Option Value} {base : Heap} (hK : K = TheK.K) (B : Bf K mg) (F : Fu K mg "tupled" s_tupled) : ∀ n : Nat, Kn P w K mg base .s "tupled" s_tupled n_tupled p_tupled [.val] (f_tupled n) (1 + n)
  | 0 => kn_bad F rfl b_tupled
  | n + 1 => kn_of F sc_tupled rfl b_tupled (.inl ⟨rfl, rfl⟩) fun f cdv A outer s H E hr tk hp => by
    have k_tupled := ok_tupled (P := P) (w := w) (base := base) hK B F n
    have nd : n_tupled.Nodup := sc_tupled.nd
    have hc : (cxD P w K mg base n_tupled "tupled" (defScope s_tupled) f cdv A outer s H E).calm = true := rfl
    have hu := room_u hr
    exact (ss_one (sd_ret (pd_if (td_val (pd_isi2 (t := .list) (u := .tuple) (bn_any rfl B.isinstance boot_isinstance) (bn_any rfl B.list boot_list) (bn_any rfl B.tuple boot_tuple) (pd_var (i := 0) rfl (.inl rfl)))) (pd_tuple (bn_any rfl B.tuple boot_tuple) (PD.str (pd_lc (own := [("own", 1)]) hc nd (by kernel_rfl) rfl (id_seq (pd_var (i := 0) rfl (.inl rfl))) (fun s H C cl fp => (gd_name (i := 1) nd rfl (.inl rfl))) (fun s H C cl fp => cd_nil) (fun s H C cl fp => (pd_call (k_tupled.fn hr (Nat.le_refl _)) tkNone rfl (ga_val (pd_var (i := 1) rfl (.inl rfl)) ga_nil)))))) (pd_var (i := 0) rfl (.inl rfl)))))
abbrev n_is_name : List Str := ["word", "sign"]
abbrev p_is_name : List Str := ["word"]
theorem sc_is_name : FnScope n_is_name p_is_name (defScope s_is_name) := ⟨rfl, rfl, rfl, by decide +kernel, rfl, by decide +kernel, by decide +kernel⟩
theorem b_is_name : BindsOk "is_name" s_is_name p_is_name := fun _ _ _ _ _ _ us hl => match us, hl with | [_], _ => rfl
def c_is_name_1 : DE := (eLc [1] (iChr (eVar 0)) (gN 1) tYes (eB (c2 dInS (eVar 1) (eC (.str "abcdefghijklmnopqrstuvwxyz")))))
def m_is_name : DS := (sRet (eAnd (eIsi .str (eVar 0)) (eAnd (eB (c3 dLe dLe (eC (.int 1)) (e1 dLenA (eVar 0)) (eC (.int 8)))) (e1 dAll c_is_name_1))))
def f_is_name : DF := mkF 2 [.val] m_is_name
theorem ok_is_name {P : Program} {w : World} {K : PySem.W.Frag} {mg : Str → Option Value} {base : Heap} (hK : K = TheK.K) (B : Bf K mg) (F : Fu K mg "is_name" s_is_name) : Kn P w K mg base .s "is_name" s_is_name n_is_name p_is_name [.val] f_is_name 1 := kn_of F sc_is_name rfl b_is_name (.inl ⟨rfl, rfl⟩) fun f cdv A outer s H E hr tk hp => by
  have nd : n_is_name.Nodup := sc_is_name.nd
  have hc : (cxD P w K mg base n_is_name "is_name" (defScope s_is_name) f cdv A outer s H E).calm = true := rfl
  have hu := room_u hr
  exact (ss_one (sd_ret (pd_and (pd_isi (t := .str) hK (bn_any rfl B.isinstance boot_isinstance) (bn_any rfl B.str boot_str) (pd_var (i := 0) rfl (.inl rfl))) (pd_and (pd_chain (ck_le hu) (ck_le hu) pd_int (pd_lenA (bn_any rfl B.len boot_len) (PD.weak (pd_var (i := 0) rfl (.inl rfl)))) (PD.weak pd_int)) (pd_one (pd_all hc (bn_any rfl B.all boot_all) (PD.weak (PD.str (pd_lc (own := [("sign", 1)]) hc nd (by kernel_rfl) rfl (id_chr (pd_var (i := 0) rfl (.inl rfl))) (fun s H C cl fp => (gd_name (i := 1) nd rfl (.inl rfl))) (fun s H C cl fp => cd_nil) (fun s H C cl fp => (pd_in ik_inS (pd_var (i := 1) rfl (.inl rfl)) (PD.weak (pd_gstr rfl B.g_LETTERS)) rfl)))))))))))
abbrev n_line_in : List Str := ["line", "name", "gap", "rest"]
abbrev p_line_in : List Str := ["line"]
theorem sc_line_in : FnScope n_line_in p_line_in (defScope s_line_in) := ⟨rfl, rfl, rfl, by decide +kernel, rfl, by decide +kernel, by decide +kernel⟩
theorem b_line_in : BindsOk "line_in" s_line_in p_line_in := fun _ _ _ _ _ _ us hl => match us, hl with | [_], _ => rfl
def t_line_in_1 : DS := (sRet (eTup (aCons (eVar 1) (aCons (eCall f_read_lot [.e (eVar 3)]) aNil))))
def m_line_in : DS := (sSeq (sAsg (eS1 dPart (eVar 0) (eC (.str " "))) (gT (gsCons (gN 1) (gsCons (gN 2) (gsCons (gN 3) gsNil))))) (sSeq (sIf (tOr (c2 dEq (eVar 2) (eC (.str ""))) (tNot (tV (eCall f_is_name [.e (eVar 1)])))) (sRet (eC .non)) sNil) (sTry0 "BadText" (sRet (eC .non)) t_line_in_1)))
def f_line_in : DF := mkF 4 [.val] m_line_in
theorem ok_line_in {P : Program} {w : World} {K : PySem.W.Frag} {mg : Str → Option Value} {base : Heap} (hK : K = TheK.K) (B : Bf K mg) (F : Fu K mg "line_in" s_line_in) (k_is_name : Kn P w K mg base .s "is_name" s_is_name n_is_name p_is_name [.val] f_is_name 1) (k_read_lot : Kn P w K mg base .s "read_lot" s_read_lot n_read_lot p_read_lot [.val] f_read_lot 6) : Kn P w K mg base .s "line_in" s_line_in n_line_in p_line_in [.val] f_line_in 7 := kn_of F sc_line_in rfl b_line_in (.inl ⟨rfl, rfl⟩) fun f cdv A outer s H E hr tk hp => by
  have nd : n_line_in.Nodup := sc_line_in.nd
  have hc : (cxD P w K mg base n_line_in "line_in" (defScope s_line_in) f cdv A outer s H E).calm = true := rfl
  have hu := room_u hr
  exact (ss_cons (sd_asgT (pd_part (pd_var (i := 0) rfl (.inl rfl)) pd_str) (gd_tup (n := 3) hc (gsd_cons (gd_name (i := 1) nd rfl (.inl rfl)) (gsd_cons (gd_name (i := 2) nd rfl (.inl rfl)) (gsd_cons (gd_name (i := 3) nd rfl (.inl rfl)) gsd_nil))) (gs_lenS (gs_lenS (gs_lenS gs_len0))))) (ss_cons (sd_if (WD.td (wd_or (td_cmp (ck_eq hu) (pd_var (i := 2) rfl (.inl rfl)) (PD.weak pd_str) rfl) (wd_or1 (td_not (td_val (pd_call (k_is_name.fn hr) tk rfl (ga_val (pd_var (i := 1) rfl (.inl rfl)) ga_nil))))))) (ss_one (sd_ret pd_non)) ss_nil) (ss_one (sd_try0 rfl rfl hK rfl (by decide) B.xg_BadText B.xm_BadText tk (fun W pn xe tk hp => (ss_one (sd_ret (pd_tup (ad_cons (pd_var (i := 1) rfl (.inl rfl)) (ad_cons (pd_call (k_read_lot.fn hr) tk rfl (ga_val (pd_var (i := 3) rfl (.inl rfl)) ga_nil)) ad_nil)))))) (fun a pns => ss_one (sd_ret pd_non))))))
abbrev n_read_sheet : List Str := ["text", "found", "number", "line", "own"]
abbrev p_read_sheet : List Str := ["text"]
theorem sc_read_sheet : FnScope n_read_sheet p_read_sheet (defScope s_read_sheet) := ⟨rfl, rfl, rfl, by decide +kernel, rfl, by decide +kernel, by decide +kernel⟩
theorem b_read_sheet : BindsOk "read_sheet" s_read_sheet p_read_sheet := fun _ _ _ _ _ _ us hl => match us, hl with | [_], _ => rfl
def b_read_sheet_1 : DS := (sFg [2, 3, 4] (sSeq (sAsgN 4 (eCall f_line_in [.e (eVar 3)])) (sSeq (sIf (tOr (tIsN (eVar 4)) (tAnd (c2 dGt (e1 dLen (eTmp 1)) (eC (.int 0))) (c2 dGeS (e2 dIx (e2L dIx 1 (e1 dNeg (eC (.int 1)))) (eC (.int 0))) (e2 dIx (eVar 4) (eC (.int 0)))))) (sRaiseA "BadLine" 1 (aCons (eVar 2) aNil)) sNil) (sApp 1 (eVar 4)))))
def l_read_sheet_1 : DS := (sFor (iEnumK (eS1 dSplit (eVar 0) (eC (.str "\n")))) (gT (gsCons (gN 2) (gsCons (gN 3) gsNil))) b_read_sheet_1)
def m_read_sheet : DS := (sSeq (sOwn 1 (eLst aNil)) (sSeq l_read_sheet_1 (sSeq (sRelL 1) (sRet (eCall (f_tupled 30) [.e (eVar 1)])))))
def f_read_sheet : DF := mkF 5 [.val] m_read_sheet
theorem ok_read_sheet {P : Program} {w : World} {K : PySem.W.Frag} {mg : Str → Option Value} {base : Heap} (hK : K = TheK.K) (B : Bf K mg) (XA_BadLine : XcA P w K mg base "BadLine") (F : Fu K mg "read_sheet" s_read_sheet) (k_tupled : Kn P w K mg base .s "tupled" s_tupled n_tupled p_tupled [.val] (f_tupled 30) 31) (k_line_in : Kn P w K mg base .s "line_in" s_line_in n_line_in p_line_in [.val] f_line_in 7) : Kn P w K mg base .s "read_sheet" s_read_sheet n_read_sheet p_read_sheet [.val] f_read_sheet 32 := kn_of F sc_read_sheet rfl b_read_sheet (.inl ⟨rfl, rfl⟩) fun f cdv A outer s H E hr tk hp => by
  have nd : n_read_sheet.Nodup := sc_read_sheet.nd
  have hc : (cxD P w K mg base n_read_sheet "read_sheet" (defScope s_read_sheet) f cdv A outer s H E).calm = true := rfl
  have hu := room_u hr
  exact (ss_cons (sd_own (i := 1) nd rfl (.inl rfl) (pd_lst ad_nil)) (ss_cons (sd_for hp hc (id_enK (bn_any rfl B.enumerate boot_enumerate) (PD.str (pd_split (pd_var (i := 0) rfl (.inl rfl)) (pd_gstr rfl B.g_FEED)))) (gd_tup (n := 2) hc (gsd_cons (gd_name (i := 2) nd rfl (.inl rfl)) (gsd_cons (gd_name (i := 3) nd rfl (.inl rfl)) gsd_nil)) (gs_lenS (gs_lenS gs_len0))) (ss_fg (vs := [2, 3, 4]) (ss_cons (sd_asgN (i := 4) nd rfl (.inl rfl) (pd_call (k_line_in.fn hr) tk rfl (ga_val (pd_var (i := 3) rfl (.inl rfl)) ga_nil))) (ss_cons (sd_if (WD.td (wd_or (td_isN (PD.weak (pd_var (i := 4) rfl (.inl rfl)))) (wd_or1 (WD.td (wd_and (td_cmp ck_gt (pd_len (bn_any rfl B.len boot_len) (pd_tmp (i := 1) rfl (.inl rfl))) (PD.weak pd_int) rfl) (wd_and1 (td_cmp ck_geS (pd_ix hu (pd_ixL (i := 1) hu rfl (.inl rfl) (pd_neg pd_int)) pd_int) (PD.weak (pd_ix hu (pd_var (i := 4) rfl (.inl rfl)) pd_int)) rfl))))))) (ss_one (sd_raiseA hc tk hr B.xx_BadLine XA_BadLine rfl rfl (ad_cons (pd_var (i := 2) rfl (.inl rfl)) ad_nil))) ss_nil) (ss_one (sd_app (i := 1) rfl (.inl rfl) (pd_var (i := 4) rfl (.inl rfl)))))))) (ss_rel (i := 1) (ss_one (sd_ret (pd_call (k_tupled.fn hr) tk rfl (ga_val (pd_var (i := 1) rfl (.inl rfl)) ga_nil)))))))
abbrev n_law_heard : List Str := ["_law_door_so", "_law_say_so", "_law_caught", "_law_found", "error_so"]
abbrev p_law_heard : List Str := ["_law_door_so", "_law_say_so"]
theorem sc_law_heard : FnScope n_law_heard p_law_heard (defScope s_law_heard) := ⟨rfl, rfl, rfl, by decide +kernel, rfl, by decide +kernel, by decide +kernel⟩
theorem b_law_heard : BindsOk "_law_heard" s_law_heard p_law_heard := fun _ _ _ _ _ _ us hl => match us, hl with | [_, _], _ => rfl
def t_law_heard_1 : DS := (sIf (c2 dLt (eVar 0) (eC (.int 2))) (sAsgN 3 (eIf (c2 dEq (eVar 0) (eC (.int 0))) (eCall f_read_lot [.e (eVar 1)]) (eCall f_read_numbers [.e (eVar 1)]))) (sAsgN 3 (eIf (c2 dEq (eVar 0) (eC (.int 2))) (eCall f_read_ranges [.e (eVar 1)]) (eCall f_read_sheet [.e (eVar 1)]))))
def m_law_heard : DS := (sSeq (sAsg (eTup (aCons (eC .non) (aCons (eC .non) aNil))) (gT (gsCons (gN 2) (gsCons (gN 3) gsNil)))) (sSeq (sTry2X "BadText" "BadLine" 4 (sAsgN 2 (eIf (tV (e1 (dIsX true) (eVar 4))) (eC (.str "text")) (eC (.str "other")))) (sAsgN 2 (eIf (tV (e1 (dIsX true) (eVar 4))) (e1 (dXa "number") (eVar 4)) (eC (.str "other")))) t_law_heard_1) (sRet (eIf (tIsN (eVar 2)) (eTup (aCons (eC (.str "told")) (aCons (eVar 3) aNil))) (eVar 2)))))
def f_law_heard : DF := mkF 5 [.val, .val] m_law_heard
theorem ok_law_heard {P : Program} {w : World} {K : PySem.W.Frag} {mg : Str → Option Value} {base : Heap} (hK : K = TheK.K) (B : Bf K mg) (F : Fu K mg "_law_heard" s_law_heard) (k_read_lot : Kn P w K mg base .s "read_lot" s_read_lot n_read_lot p_read_lot [.val] f_read_lot 6) (k_read_numbers : Kn P w K mg base .s "read_numbers" s_read_numbers n_read_numbers p_read_numbers [.val] f_read_numbers 4) (k_read_ranges : Kn P w K mg base .s "read_ranges" s_read_ranges n_read_ranges p_read_ranges [.val] f_read_ranges 5) (k_read_sheet : Kn P w K mg base .s "read_sheet" s_read_sheet n_read_sheet p_read_sheet [.val] f_read_sheet 32) : Kn P w K mg base .s "_law_heard" s_law_heard n_law_heard p_law_heard [.val, .val] f_law_heard 33 := kn_of F sc_law_heard rfl b_law_heard (.inl ⟨rfl, rfl⟩) fun f cdv A outer s H E hr tk hp => by
  have nd : n_law_heard.Nodup := sc_law_heard.nd
  have hc : (cxD P w K mg base n_law_heard "_law_heard" (defScope s_law_heard) f cdv A outer s H E).calm = true := rfl
  have hu := room_u hr
  exact (ss_cons (sd_asgT (pd_tup (ad_cons pd_non (ad_cons pd_non ad_nil))) (gd_tup (n := 2) hc (gsd_cons (gd_name (i := 2) nd rfl (.inl rfl)) (gsd_cons (gd_name (i := 3) nd rfl (.inl rfl)) gsd_nil)) (gs_lenS (gs_lenS gs_len0)))) (ss_cons (sd_try2X (i := 4) rfl rfl rfl nd rfl rfl hK rfl (by decide) B.xg_BadText B.xm_BadText rfl (by decide) B.xg_BadLine B.xm_BadLine tk (fun W pn xe tk hp => (ss_one (sd_if (td_cmp (ck_lt hu) (pd_var (i := 0) rfl (.inl rfl)) (PD.weak pd_int) rfl) (ss_one (sd_asgN (i := 3) nd rfl (.inl rfl) (pd_if (td_cmp (ck_eq hu) (pd_var (i := 0) rfl (.inl rfl)) (PD.weak pd_int) rfl) (pd_call (k_read_lot.fn hr) tk rfl (ga_val (pd_var (i := 1) rfl (.inl rfl)) ga_nil)) (pd_call (k_read_numbers.fn hr) tk rfl (ga_val (pd_var (i := 1) rfl (.inl rfl)) ga_nil))))) (ss_one (sd_asgN (i := 3) nd rfl (.inl rfl) (pd_if (td_cmp (ck_eq hu) (pd_var (i := 0) rfl (.inl rfl)) (PD.weak pd_int) rfl) (pd_call (k_read_ranges.fn hr) tk rfl (ga_val (pd_var (i := 1) rfl (.inl rfl)) ga_nil)) (pd_call (k_read_sheet.fn hr) tk rfl (ga_val (pd_var (i := 1) rfl (.inl rfl)) ga_nil)))))))) (fun a pns => ss_one (sd_asgN (i := 2) nd rfl (.inl rfl) (pd_if (td_val (pd_isX (v := true) hK B.xv (bn_any rfl B.isinstance boot_isinstance) (bn_any rfl B.ValueError boot_ValueError) (pd_var (i := 4) rfl (.inl rfl)))) pd_str pd_str))) (fun a pns => ss_one (sd_asgN (i := 2) nd rfl (.inl rfl) (pd_if (td_val (pd_isX (v := true) hK B.xv (bn_any rfl B.isinstance boot_isinstance) (bn_any rfl B.ValueError boot_ValueError) (pd_var (i := 4) rfl (.inl rfl)))) (pd_xa hK B.xa (pd_var (i := 4) rfl (.inl rfl))) pd_str)))) (ss_one (sd_ret (pd_if (td_isN (PD.weak (pd_var (i := 2) rfl (.inl rfl)))) (pd_tup (ad_cons pd_str (ad_cons (pd_var (i := 3) rfl (.inl rfl)) ad_nil))) (pd_var (i := 2) rfl (.inl rfl)))))))
abbrev n_law_same : List Str := ["_law_got", "_law_due_so", "_law_mine", "_law_its"]
abbrev p_law_same : List Str := ["_law_got", "_law_due_so"]
theorem sc_law_same : FnScope n_law_same p_law_same (defScope s_law_same) := ⟨rfl, rfl, rfl, by decide +kernel, rfl, by decide +kernel, by decide +kernel⟩
theorem b_law_same : BindsOk "_law_same" s_law_same p_law_same := fun _ _ _ _ _ _ us hl => match us, hl with | [_, _], _ => rfl
theorem ok_law_same {P : Program} {w : World} {K : PySem.W.Frag} {mg : Str → Option Value} {base : Heap} (hK : K = TheK.K) (B : Bf K mg) (F : Fu K mg "_law_same" s_law_same) : ∀ n : Nat, Kn P w K mg base .s "_law_same" s_law_same n_law_same p_law_same [.val, .val] (f_law_same n) (1 + n)
  | 0 => kn_bad F rfl b_law_same
  | n + 1 => kn_of F sc_law_same rfl b_law_same (.inl ⟨rfl, rfl⟩) fun f cdv A outer s H E hr tk hp => by
    have k_law_same := ok_law_same (P := P) (w := w) (base := base) hK B F n
    have nd : n_law_same.Nodup := sc_law_same.nd
    have hc : (cxD P w K mg base n_law_same "_law_same" (defScope s_law_same) f cdv A outer s H E).calm = true := rfl
    have hu := room_u hr
    exact (ss_cons (sd_if (td_val (pd_isi2 (t := .list) (u := .tuple) (bn_any rfl B.isinstance boot_isinstance) (bn_any rfl B.list boot_list) (bn_any rfl B.tuple boot_tuple) (pd_var (i := 1) rfl (.inl rfl)))) (ss_cons (sd_if (WD.td (wd_or (td_cmp (ck_ne hu) (pd_isi (t := .list) hK (bn_any rfl B.isinstance boot_isinstance) (bn_any rfl B.list boot_list) (pd_var (i := 0) rfl (.inl rfl))) (PD.weak (pd_isi (t := .list) hK (bn_any rfl B.isinstance boot_isinstance) (bn_any rfl B.list boot_list) (pd_var (i := 1) rfl (.inl rfl)))) rfl) (wd_or1 (td_cmp (ck_ne hu) (pd_isi (t := .tuple) hK (bn_any rfl B.isinstance boot_isinstance) (bn_any rfl B.tuple boot_tuple) (pd_var (i := 0) rfl (.inl rfl))) (PD.weak (pd_isi (t := .tuple) hK (bn_any rfl B.isinstance boot_isinstance) (bn_any rfl B.tuple boot_tuple) (pd_var (i := 1) rfl (.inl rfl)))) rfl)))) (ss_one (sd_ret pd_bl)) ss_nil) (ss_one (sd_ret (pd_and (pd_cmp (ck_eq hu) (pd_len (bn_any rfl B.len boot_len) (PD.weak (pd_var (i := 0) rfl (.inl rfl)))) (PD.weak (pd_len (bn_any rfl B.len boot_len) (PD.weak (pd_var (i := 1) rfl (.inl rfl))))) rfl) (pd_one (pd_all hc (bn_any rfl B.all boot_all) (PD.weak (PD.str (pd_lc (own := [("_law_mine", 2), ("_law_its", 3)]) hc nd (by kernel_rfl) rfl (id_zip2 (bn_any rfl B.zip boot_zip) (pd_var (i := 0) rfl (.inl rfl)) (pd_var (i := 1) rfl (.inl rfl))) (fun s H C cl fp => (gd_tup (n := 2) hc (gsd_cons (gd_name (i := 2) nd rfl (.inl rfl)) (gsd_cons (gd_name (i := 3) nd rfl (.inl rfl)) gsd_nil)) (gs_lenS (gs_lenS gs_len0)))) (fun s H C cl fp => cd_nil) (fun s H C cl fp => (pd_call (k_law_same.fn hr (Nat.le_refl _)) tkNone rfl (ga_val (pd_var (i := 2) rfl (.inl rfl)) (ga_val (pd_var (i := 3) rfl (.inl rfl)) ga_nil))))))))))))) ss_nil) (ss_cons (sd_if (WD.td (wd_or (td_isN (PD.weak (pd_var (i := 1) rfl (.inl rfl)))) (wd_or1 (td_val (pd_isi2 (t := .bool) (u := .str) (bn_any rfl B.isinstance boot_isinstance) (bn_any rfl B.bool boot_bool) (bn_any rfl B.str boot_str) (pd_var (i := 1) rfl (.inl rfl))))))) (ss_one (sd_ret (pd_and (pd_cmp (ck_eq hu) (pd_var (i := 0) rfl (.inl rfl)) (PD.weak (pd_var (i := 1) rfl (.inl rfl))) rfl) (pd_and (pd_cmp (ck_eq hu) (pd_isi (t := .bool) hK (bn_any rfl B.isinstance boot_isinstance) (bn_any rfl B.bool boot_bool) (pd_var (i := 0) rfl (.inl rfl))) (PD.weak (pd_isi (t := .bool) hK (bn_any rfl B.isinstance boot_isinstance) (bn_any rfl B.bool boot_bool) (pd_var (i := 1) rfl (.inl rfl)))) rfl) (pd_one (pd_cmp (ck_eq hu) (pd_isN (PD.weak (pd_var (i := 0) rfl (.inl rfl)))) (PD.weak (pd_isN (PD.weak (pd_var (i := 1) rfl (.inl rfl))))) rfl)))))) ss_nil) (ss_one (sd_ret (pd_and (pd_isi (t := .int) hK (bn_any rfl B.isinstance boot_isinstance) (bn_any rfl B.int boot_int) (pd_var (i := 0) rfl (.inl rfl))) (pd_and (pd_not (pd_isi (t := .bool) hK (bn_any rfl B.isinstance boot_isinstance) (bn_any rfl B.bool boot_bool) (pd_var (i := 0) rfl (.inl rfl)))) (pd_one (pd_cmp (ck_eq hu) (pd_var (i := 0) rfl (.inl rfl)) (PD.weak (pd_var (i := 1) rfl (.inl rfl))) rfl))))))))
abbrev n_law_number : List Str := ["_law_word_so", "_law_low_so", "_law_much_so", "_law_own"]
abbrev p_law_number : List Str := ["_law_word_so", "_law_low_so"]
theorem sc_law_number : FnScope n_law_number p_law_number (defScope s_law_number) := ⟨rfl, rfl, rfl, by decide +kernel, rfl, by decide +kernel, by decide +kernel⟩
theorem b_law_number : BindsOk "_law_number" s_law_number p_law_number := fun _ _ _ _ _ _ us hl => match us, hl with | [_, _], _ => rfl
def c_law_number_1 : DE := (eLc [3] (iChr (eVar 0)) (gN 3) (c2 dNotInS (eVar 3) (eC (.str "0123456789"))) (eVar 3))
def m_law_number : DS := (sSeq (sIf (tOr (c2 dEq (eVar 0) (eC (.str ""))) (c2 dNe c_law_number_1 (eLst aNil))) (sRet (eC .non)) sNil) (sSeq (sAsgN 2 (e1 dIntS (eVar 0))) (sRet (eIf (tAnd (c2 dEq (e1 dStr (eVar 2)) (eVar 0)) (c2 dGe (eVar 2) (eVar 1))) (eVar 2) (eC .non)))))
def f_law_number : DF := mkF 4 [.val, .val] m_law_number
theorem ok_law_number {P : Program} {w : World} {K : PySem.W.Frag} {mg : Str → Option Value} {base : Heap} (hK : K = TheK.K) (B : Bf K mg) (F : Fu K mg "_law_number" s_law_number) : Kn P w K mg base .s "_law_number" s_law_number n_law_number p_law_number [.val, .val] f_law_number 1 := kn_of F sc_law_number rfl b_law_number (.inl ⟨rfl, rfl⟩) fun f cdv A outer s H E hr tk hp => by
  have nd : n_law_number.Nodup := sc_law_number.nd
  have hc : (cxD P w K mg base n_law_number "_law_number" (defScope s_law_number) f cdv A outer s H E).calm = true := rfl
  have hu := room_u hr
  exact (ss_cons (sd_if (WD.td (wd_or (td_cmp (ck_eq hu) (pd_var (i := 0) rfl (.inl rfl)) (PD.weak pd_str) rfl) (wd_or1 (td_cmp (ck_ne hu) (PD.str (pd_lc (own := [("_law_own", 3)]) hc nd (by kernel_rfl) rfl (id_chr (pd_var (i := 0) rfl (.inl rfl))) (fun s H C cl fp => (gd_name (i := 3) nd rfl (.inl rfl))) (fun s H C cl fp => (cd_one (td_in ik_notInS (pd_var (i := 3) rfl (.inl rfl)) (PD.weak pd_str) rfl))) (fun s H C cl fp => (pd_var (i := 3) rfl (.inl rfl))))) (PD.weak (PD.str (pd_lst ad_nil))) rfl)))) (ss_one (sd_ret pd_non)) ss_nil) (ss_cons (sd_asgN (i := 2) nd rfl (.inl rfl) (pd_intS (bn_any rfl B.int boot_int) (pd_var (i := 0) rfl (.inl rfl)))) (ss_one (sd_ret (pd_if (WD.td (wd_and (td_cmp (ck_eq hu) (pd_str1 (bn_any rfl B.str boot_str) (pd_var (i := 2) rfl (.inl rfl))) (PD.weak (pd_var (i := 0) rfl (.inl rfl))) rfl) (wd_and1 (td_cmp ck_ge (pd_var (i := 2) rfl (.inl rfl)) (PD.weak (pd_var (i := 1) rfl (.inl rfl))) rfl)))) (pd_var (i := 2) rfl (.inl rfl)) pd_non)))))
abbrev n_law_wide : List Str := ["_law_say_so", "_law_line_so", "_law_word_so"]
abbrev p_law_wide : List Str := ["_law_say_so"]
theorem sc_law_wide : FnScope n_law_wide p_law_wide (defScope s_law_wide) := ⟨rfl, rfl, rfl, by decide +kernel, rfl, by decide +kernel, by decide +kernel⟩
theorem b_law_wide : BindsOk "_law_wide" s_law_wide p_law_wide := fun _ _ _ _ _ _ us hl => match us, hl with | [_], _ => rfl
def b_law_wide_1 : DS := (sFg [2] (sIf (tAnd (c2 dEq (eSlS (eVar 2) (oSome (e1 dNeg (eC (.int 1)))) oNone) (eC (.str ":"))) (tNotN (eCall f_law_number [.e (eSlS (eVar 2) oNone (oSome (e1 dNeg (eC (.int 1))))), .e (eC (.int 9))]))) (sRet (eC (.bl true))) sNil))
def l_law_wide_1 : DS := (sFor (iSeq (eS1 dSplit (eVar 1) (eC (.str " ")))) (gN 2) b_law_wide_1)
def b_law_wide_2 : DS := (sFg [1, 2] l_law_wide_1)
def l_law_wide_2 : DS := (sFor (iSeq (eS1 dSplit (eVar 0) (eC (.str "\n")))) (gN 1) b_law_wide_2)
def m_law_wide : DS := (sSeq l_law_wide_2 (sRet (eC (.bl false))))
def f_law_wide : DF := mkF 3 [.val] m_law_wide
theorem ok_law_wide {P : Program} {w : World} {K : PySem.W.Frag} {mg : Str → Option Value} {base : Heap} (hK : K = TheK.K) (B : Bf K mg) (F : Fu K mg "_law_wide" s_law_wide) (k_law_number : Kn P w K mg base .s "_law_number" s_law_number n_law_number p_law_number [.val, .val] f_law_number 1) : Kn P w K mg base .s "_law_wide" s_law_wide n_law_wide p_law_wide [.val] f_law_wide 2 := kn_of F sc_law_wide rfl b_law_wide (.inl ⟨rfl, rfl⟩) fun f cdv A outer s H E hr tk hp => by
  have nd : n_law_wide.Nodup := sc_law_wide.nd
  have hc : (cxD P w K mg base n_law_wide "_law_wide" (defScope s_law_wide) f cdv A outer s H E).calm = true := rfl
  have hu := room_u hr
  exact (ss_cons (sd_for hp hc (id_seq (PD.str (pd_split (pd_var (i := 0) rfl (.inl rfl)) pd_str))) (gd_name (i := 1) nd rfl (.inl rfl)) (ss_fg (vs := [1, 2]) (ss_one (sd_for hp hc (id_seq (PD.str (pd_split (pd_var (i := 1) rfl (.inl rfl)) pd_str))) (gd_name (i := 2) nd rfl (.inl rfl)) (ss_fg (vs := [2]) (ss_one (sd_if (WD.td (wd_and (td_cmp (ck_eq hu) (pd_slS (pd_var (i := 2) rfl (.inl rfl)) (od_some (pd_neg pd_int)) od_none) (PD.weak pd_str) rfl) (wd_and1 (td_notN (PD.weak (pd_call (k_law_number.fn hr) tk rfl (ga_val (pd_slS (pd_var (i := 2) rfl (.inl rfl)) od_none (od_some (pd_neg pd_int))) (ga_val pd_int ga_nil)))))))) (ss_one (sd_ret pd_bl)) ss_nil))))))) (ss_one (sd_ret pd_bl)))
abbrev n_law_pair : List Str := ["_law_say_so", "_law_mark_so", "_law_parts_so", "_law_own"]
abbrev p_law_pair : List Str := ["_law_say_so", "_law_mark_so"]
theorem sc_law_pair : FnScope n_law_pair p_law_pair (defScope s_law_pair) := ⟨rfl, rfl, rfl, by decide +kernel, rfl, by decide +kernel, by decide +kernel⟩
theorem b_law_pair : BindsOk "_law_pair" s_law_pair p_law_pair := fun _ _ _ _ _ _ us hl => match us, hl with | [_, _], _ => rfl
def c_law_pair_1 : DE := (eLc [3] (iSeq (eS1 dSplit (eVar 0) (eVar 1))) (gN 3) tYes (eCall f_law_number [.e (eVar 3), .e (eC (.int 0))]))
def m_law_pair : DS := (sSeq (sAsgN 2 c_law_pair_1) (sSeq (sIf (tOr (c2 dNe (e1 dLen (eVar 2)) (eC (.int 2))) (tOr (c2 dIn (eC .non) (eVar 2)) (c2 dLt (e2 dIx (eVar 2) (eC (.int 1))) (e2 dIx (eVar 2) (eC (.int 0)))))) (sRet (eC .non)) sNil) (sRet (eTup (aCons (e2 dIx (eVar 2) (eC (.int 0))) (aCons (e2 dIx (eVar 2) (eC (.int 1))) aNil))))))
def f_law_pair : DF := mkF 4 [.val, .val] m_law_pair
theorem ok_law_pair {P : Program} {w : World} {K : PySem.W.Frag} {mg : Str → Option Value} {base : Heap} (hK : K = TheK.K) (B : Bf K mg) (F : Fu K mg "_law_pair" s_law_pair) (k_law_number : Kn P w K mg base .s "_law_number" s_law_number n_law_number p_law_number [.val, .val] f_law_number 1) : Kn P w K mg base .s "_law_pair" s_law_pair n_law_pair p_law_pair [.val, .val] f_law_pair 2 := kn_of F sc_law_pair rfl b_law_pair (.inl ⟨rfl, rfl⟩) fun f cdv A outer s H E hr tk hp => by
  have nd : n_law_pair.Nodup := sc_law_pair.nd
  have hc : (cxD P w K mg base n_law_pair "_law_pair" (defScope s_law_pair) f cdv A outer s H E).calm = true := rfl
  have hu := room_u hr
  exact (ss_cons (sd_lc (i := 2) (own := [("_law_own", 3)]) hc nd rfl rfl rfl rfl (by kernel_rfl) (by kernel_rfl) rfl (id_seq (PD.str (pd_split (pd_var (i := 0) rfl (.inl rfl)) (pd_var (i := 1) rfl (.inl rfl))))) (fun s H C cl fp => (gd_name (i := 3) nd rfl (.inl rfl))) (fun s H C cl fp => cd_nil) (fun s H C cl fp => (pd_call (k_law_number.fn hr) tkNone rfl (ga_val (pd_var (i := 3) rfl (.inl rfl)) (ga_val pd_int ga_nil))))) (ss_cons (sd_if (WD.td (wd_or (td_cmp (ck_ne hu) (pd_len (bn_any rfl B.len boot_len) (PD.weak (pd_var (i := 2) rfl (.inl rfl)))) (PD.weak pd_int) rfl) (wd_or (td_in (ik_in hu) pd_non (PD.weak (pd_var (i := 2) rfl (.inl rfl))) rfl) (wd_or1 (td_cmp (ck_lt hu) (pd_ix hu (pd_var (i := 2) rfl (.inl rfl)) pd_int) (PD.weak (pd_ix hu (pd_var (i := 2) rfl (.inl rfl)) pd_int)) rfl))))) (ss_one (sd_ret pd_non)) ss_nil) (ss_one (sd_ret (pd_tup (ad_cons (pd_ix hu (pd_var (i := 2) rfl (.inl rfl)) pd_int) (ad_cons (pd_ix hu (pd_var (i := 2) rfl (.inl rfl)) pd_int) ad_nil)))))))
abbrev n_law_lot_in : List Str := ["_law_say_so", "_law_parts_so", "_law_size_so", "_law_found", "_law_own", "_law_words_so", "_law_span_so", "_law_spans_so"]
abbrev p_law_lot_in : List Str := ["_law_say_so"]
theorem sc_law_lot_in : FnScope n_law_lot_in p_law_lot_in (defScope s_law_lot_in) := ⟨rfl, rfl, rfl, by decide +kernel, rfl, by decide +kernel, by decide +kernel⟩
theorem b_law_lot_in : BindsOk "_law_lot_in" s_law_lot_in p_law_lot_in := fun _ _ _ _ _ _ us hl => match us, hl with | [_], _ => rfl
def b_law_lot_in_1 : DS := (sFg [4, 5, 6] (sSeq (sAsgN 5 (eS1 dSplit (eVar 4) (eC (.str " ")))) (sSeq (sAsgN 6 (eIf (c2 dEq (e1 dLen (eVar 5)) (eC (.int 2))) (eCall f_law_pair [.e (e2 dIx (eVar 5) (eC (.int 0))), .e (eC (.str "-"))]) (eC .non))) (sSeq (sIf (tOr (tIsN (eVar 6)) (tOr (tIsN (eCall f_law_number [.e (e2 dIx (eVar 5) (eC (.int 1))), .e (eC (.int 1))])) (c2 dGe (e2 dIx (eVar 6) (eC (.int 1))) (eVar 2)))) (sRet (eC .non)) sNil) (sApp 3 (eTup (aCons (eVar 6) (aCons (e1 dIntS (e2 dIx (eVar 5) (eC (.int 1)))) aNil))))))))
def l_law_lot_in_1 : DS := (sFor (iSeq (eIf (c2 dNe (e2 dIx (eVar 1) (eC (.int 1))) (eC (.str "-"))) (eS1 dSplit (e2 dIx (eVar 1) (eC (.int 1))) (eC (.str ", "))) (eLst aNil))) (gN 4) b_law_lot_in_1)
def c_law_lot_in_1 : DE := (eLc [4] (iSeq (eVar 3)) (gN 4) tYes (e2 dIxA (eVar 4) (eC (.int 0))))
def m_law_lot_in : DS := (sSeq (sAsgN 1 (eS1 dSplit (eVar 0) (eC (.str ": ")))) (sSeq (sAsgN 2 (eIf (c2 dEq (e1 dLen (eVar 1)) (eC (.int 2))) (eCall f_law_number [.e (e2 dIx (eVar 1) (eC (.int 0))), .e (eC (.int 1))]) (eC .non))) (sSeq (sIf (tIsN (eVar 2)) (sRet (eC .non)) sNil) (sSeq (sOwn 3 (eLst aNil)) (sSeq l_law_lot_in_1 (sSeq (sRelL 3) (sSeq (sAsgN 7 c_law_lot_in_1) (sRet (eIf (c2 dEq (eVar 7) (e1 dSortSetP (eVar 7))) (eTup (aCons (eVar 2) (aCons (e1 dTuple (eVar 3)) aNil))) (eC .non))))))))))
def f_law_lot_in : DF := mkF 8 [.val] m_law_lot_in
theorem ok_law_lot_in {P : Program} {w : World} {K : PySem.W.Frag} {mg : Str → Option Value} {base : Heap} (hK : K = TheK.K) (B : Bf K mg) (F : Fu K mg "_law_lot_in" s_law_lot_in) (k_law_number : Kn P w K mg base .s "_law_number" s_law_number n_law_number p_law_number [.val, .val] f_law_number 1) (k_law_pair : Kn P w K mg base .s "_law_pair" s_law_pair n_law_pair p_law_pair [.val, .val] f_law_pair 2) : Kn P w K mg base .s "_law_lot_in" s_law_lot_in n_law_lot_in p_law_lot_in [.val] f_law_lot_in 3 := kn_of F sc_law_lot_in rfl b_law_lot_in (.inl ⟨rfl, rfl⟩) fun f cdv A outer s H E hr tk hp => by
  have nd : n_law_lot_in.Nodup := sc_law_lot_in.nd
  have hc : (cxD P w K mg base n_law_lot_in "_law_lot_in" (defScope s_law_lot_in) f cdv A outer s H E).calm = true := rfl
  have hu := room_u hr
  exact (ss_cons (sd_asgN (i := 1) nd rfl (.inl rfl) (PD.str (pd_split (pd_var (i := 0) rfl (.inl rfl)) pd_str))) (ss_cons (sd_asgN (i := 2) nd rfl (.inl rfl) (pd_if (td_cmp (ck_eq hu) (pd_len (bn_any rfl B.len boot_len) (PD.weak (pd_var (i := 1) rfl (.inl rfl)))) (PD.weak pd_int) rfl) (pd_call (k_law_number.fn hr) tk rfl (ga_val (pd_ix hu (pd_var (i := 1) rfl (.inl rfl)) pd_int) (ga_val pd_int ga_nil))) pd_non)) (ss_cons (sd_if (td_isN (PD.weak (pd_var (i := 2) rfl (.inl rfl)))) (ss_one (sd_ret pd_non)) ss_nil) (ss_cons (sd_own (i := 3) nd rfl (.inl rfl) (pd_lst ad_nil)) (ss_cons (sd_for hp hc (id_seq (pd_if (td_cmp (ck_ne hu) (pd_ix hu (pd_var (i := 1) rfl (.inl rfl)) pd_int) (PD.weak pd_str) rfl) (PD.str (pd_split (pd_ix hu (pd_var (i := 1) rfl (.inl rfl)) pd_int) pd_str)) (PD.str (pd_lst ad_nil)))) (gd_name (i := 4) nd rfl (.inl rfl)) (ss_fg (vs := [4, 5, 6]) (ss_cons (sd_asgN (i := 5) nd rfl (.inl rfl) (PD.str (pd_split (pd_var (i := 4) rfl (.inl rfl)) pd_str))) (ss_cons (sd_asgN (i := 6) nd rfl (.inl rfl) (pd_if (td_cmp (ck_eq hu) (pd_len (bn_any rfl B.len boot_len) (PD.weak (pd_var (i := 5) rfl (.inl rfl)))) (PD.weak pd_int) rfl) (pd_call (k_law_pair.fn hr) tk rfl (ga_val (pd_ix hu (pd_var (i := 5) rfl (.inl rfl)) pd_int) (ga_val pd_str ga_nil))) pd_non)) (ss_cons (sd_if (WD.td (wd_or (td_isN (PD.weak (pd_var (i := 6) rfl (.inl rfl)))) (wd_or (td_isN (PD.weak (pd_call (k_law_number.fn hr) tk rfl (ga_val (pd_ix hu (pd_var (i := 5) rfl (.inl rfl)) pd_int) (ga_val pd_int ga_nil))))) (wd_or1 (td_cmp ck_ge (pd_ix hu (pd_var (i := 6) rfl (.inl rfl)) pd_int) (PD.weak (pd_var (i := 2) rfl (.inl rfl))) rfl))))) (ss_one (sd_ret pd_non)) ss_nil) (ss_one (sd_app (i := 3) rfl (.inl rfl) (pd_tup (ad_cons (pd_var (i := 6) rfl (.inl rfl)) (ad_cons (pd_intS (bn_any rfl B.int boot_int) (pd_ix hu (pd_var (i := 5) rfl (.inl rfl)) pd_int)) ad_nil)))))))))) (ss_rel (i := 3) (ss_cons (sd_lc (i := 7) (own := [("_law_own", 4)]) hc nd rfl rfl rfl rfl (by kernel_rfl) (by kernel_rfl) rfl (id_seq (pd_var (i := 3) rfl (.inl rfl))) (fun s H C cl fp => (gd_name (i := 4) nd rfl (.inl rfl))) (fun s H C cl fp => cd_nil) (fun s H C cl fp => (pd_ixA hu (pd_var (i := 4) rfl (.inl rfl)) pd_int))) (ss_one (sd_ret (pd_if (td_cmp (ck_eq hu) (pd_var (i := 7) rfl (.inl rfl)) (PD.weak (PD.str (pd_sortSetP hc hu (bn_any rfl B.sorted boot_sorted) (bn_any rfl B.set boot_set) (PD.weak (pd_var (i := 7) rfl (.inl rfl)))))) rfl) (pd_tup (ad_cons (pd_var (i := 2) rfl (.inl rfl)) (ad_cons (pd_tuple (bn_any rfl B.tuple boot_tuple) (pd_var (i := 3) rfl (.inl rfl))) ad_nil))) pd_non))))))))))
abbrev n_law_numbers_in : List Str := ["_law_say_so", "_law_found", "_law_own"]
abbrev p_law_numbers_in : List Str := ["_law_say_so"]
theorem sc_law_numbers_in : FnScope n_law_numbers_in p_law_numbers_in (defScope s_law_numbers_in) := ⟨rfl, rfl, rfl, by decide +kernel, rfl, by decide +kernel, by decide +kernel⟩
theorem b_law_numbers_in : BindsOk "_law_numbers_in" s_law_numbers_in p_law_numbers_in := fun _ _ _ _ _ _ us hl => match us, hl with | [_], _ => rfl
def c_law_numbers_in_1 : DE := (eLc [2] (iSeq (eS1 dSplit (eVar 0) (eC (.str " ")))) (gN 2) tYes (eCall f_law_number [.e (eVar 2), .e (eC (.int 0))]))
def m_law_numbers_in : DS := (sSeq (sAsgN 1 (e1 dTuple c_law_numbers_in_1)) (sRet (eIf (c2 dIn (eC .non) (eVar 1)) (eC .non) (eVar 1))))
def f_law_numbers_in : DF := mkF 3 [.val] m_law_numbers_in
theorem ok_law_numbers_in {P : Program} {w : World} {K : PySem.W.Frag} {mg : Str → Option Value} {base : Heap} (hK : K = TheK.K) (B : Bf K mg) (F : Fu K mg "_law_numbers_in" s_law_numbers_in) (k_law_number : Kn P w K mg base .s "_law_number" s_law_number n_law_number p_law_number [.val, .val] f_law_number 1) : Kn P w K mg base .s "_law_numbers_in" s_law_numbers_in n_law_numbers_in p_law_numbers_in [.val] f_law_numbers_in 2 := kn_of F sc_law_numbers_in rfl b_law_numbers_in (.inl ⟨rfl, rfl⟩) fun f cdv A outer s H E hr tk hp => by
  have nd : n_law_numbers_in.Nodup := sc_law_numbers_in.nd
  have hc : (cxD P w K mg base n_law_numbers_in "_law_numbers_in" (defScope s_law_numbers_in) f cdv A outer s H E).calm = true := rfl
  have hu := room_u hr
  exact (ss_cons (sd_asgN (i := 1) nd rfl (.inl rfl) (pd_tuple (bn_any rfl B.tuple boot_tuple) (PD.str (pd_lc (own := [("_law_own", 2)]) hc nd (by kernel_rfl) rfl (id_seq (PD.str (pd_split (pd_var (i := 0) rfl (.inl rfl)) pd_str))) (fun s H C cl fp => (gd_name (i := 2) nd rfl (.inl rfl))) (fun s H C cl fp => cd_nil) (fun s H C cl fp => (pd_call (k_law_number.fn hr) tkNone rfl (ga_val (pd_var (i := 2) rfl (.inl rfl)) (ga_val pd_int ga_nil)))))))) (ss_one (sd_ret (pd_if (td_in (ik_in hu) pd_non (PD.weak (pd_var (i := 1) rfl (.inl rfl))) rfl) pd_non (pd_var (i := 1) rfl (.inl rfl))))))
abbrev n_law_ranges_in : List Str := ["_law_say_so", "_law_found", "_law_own"]
abbrev p_law_ranges_in : List Str := ["_law_say_so"]
theorem sc_law_ranges_in : FnScope n_law_ranges_in p_law_ranges_in (defScope s_law_ranges_in) := ⟨rfl, rfl, rfl, by decide +kernel, rfl, by decide +kernel, by decide +kernel⟩
theorem b_law_ranges_in : BindsOk "_law_ranges_in" s_law_ranges_in p_law_ranges_in := fun _ _ _ _ _ _ us hl => match us, hl with | [_], _ => rfl
def c_law_ranges_in_1 : DE := (eLc [2] (iSeq (eS1 dSplit (eVar 0) (eC (.str " ")))) (gN 2) tYes (eCall f_law_pair [.e (eVar 2), .e (eC (.str ".."))]))
def m_law_ranges_in : DS := (sSeq (sAsgN 1 (e1 dTuple c_law_ranges_in_1)) (sRet (eIf (c2 dIn (eC .non) (eVar 1)) (eC .non) (eVar 1))))
def f_law_ranges_in : DF := mkF 3 [.val] m_law_ranges_in
theorem ok_law_ranges_in {P : Program} {w : World} {K : PySem.W.Frag} {mg : Str → Option Value} {base : Heap} (hK : K = TheK.K) (B : Bf K mg) (F : Fu K mg "_law_ranges_in" s_law_ranges_in) (k_law_pair : Kn P w K mg base .s "_law_pair" s_law_pair n_law_pair p_law_pair [.val, .val] f_law_pair 2) : Kn P w K mg base .s "_law_ranges_in" s_law_ranges_in n_law_ranges_in p_law_ranges_in [.val] f_law_ranges_in 3 := kn_of F sc_law_ranges_in rfl b_law_ranges_in (.inl ⟨rfl, rfl⟩) fun f cdv A outer s H E hr tk hp => by
  have nd : n_law_ranges_in.Nodup := sc_law_ranges_in.nd
  have hc : (cxD P w K mg base n_law_ranges_in "_law_ranges_in" (defScope s_law_ranges_in) f cdv A outer s H E).calm = true := rfl
  have hu := room_u hr
  exact (ss_cons (sd_asgN (i := 1) nd rfl (.inl rfl) (pd_tuple (bn_any rfl B.tuple boot_tuple) (PD.str (pd_lc (own := [("_law_own", 2)]) hc nd (by kernel_rfl) rfl (id_seq (PD.str (pd_split (pd_var (i := 0) rfl (.inl rfl)) pd_str))) (fun s H C cl fp => (gd_name (i := 2) nd rfl (.inl rfl))) (fun s H C cl fp => cd_nil) (fun s H C cl fp => (pd_call (k_law_pair.fn hr) tkNone rfl (ga_val (pd_var (i := 2) rfl (.inl rfl)) (ga_val pd_str ga_nil)))))))) (ss_one (sd_ret (pd_if (td_in (ik_in hu) pd_non (PD.weak (pd_var (i := 1) rfl (.inl rfl))) rfl) pd_non (pd_var (i := 1) rfl (.inl rfl))))))
abbrev n_law_lines_in : List Str := ["_law_say_so", "_law_found", "_law_k", "_law_line_so", "_law_tag_so", "_law_mark_so", "_law_rest_so", "_law_told_so", "_law_fine_so", "_law_own"]
abbrev p_law_lines_in : List Str := ["_law_say_so"]
theorem sc_law_lines_in : FnScope n_law_lines_in p_law_lines_in (defScope s_law_lines_in) := ⟨rfl, rfl, rfl, by decide +kernel, rfl, by decide +kernel, by decide +kernel⟩
theorem b_law_lines_in : BindsOk "_law_lines_in" s_law_lines_in p_law_lines_in := fun _ _ _ _ _ _ us hl => match us, hl with | [_], _ => rfl
def c_law_lines_in_1 : DE := (eLc [9] (iChr (eVar 4)) (gN 9) (tNot (c3 dLeS dLeS (eC (.str "a")) (eVar 9) (eC (.str "z")))) (eVar 9))
def b_law_lines_in_1 : DS := (sFg [2, 3, 4, 5, 6, 7, 8] (sSeq (sAsg (eS1 dPart (eVar 3) (eC (.str " "))) (gT (gsCons (gN 4) (gsCons (gN 5) (gsCons (gN 6) gsNil))))) (sSeq (sAsgN 7 (eCall f_law_lot_in [.e (eVar 6)])) (sSeq (sAsgN 8 (eAnd (eB (c3 dLe dLe (eC (.int 1)) (e1 dLenA (eVar 4)) (eC (.int 8)))) (eB (c2 dEq c_law_lines_in_1 (eLst aNil))))) (sSeq (sIf (tOr (tIsN (eVar 7)) (tOr (tNot (tV (eVar 8))) (tAnd (c2L dNe 1 (eLst aNil)) (c2 dGeS (e2 dIx (e2L dIx 1 (e1 dNeg (eC (.int 1)))) (eC (.int 0))) (eVar 4))))) (sRet (eVar 2)) sNil) (sApp 1 (eTup (aCons (eVar 4) (aCons (eVar 7) aNil)))))))))
def l_law_lines_in_1 : DS := (sFor (iEnumK (eS1 dSplit (eVar 0) (eC (.str "\n")))) (gT (gsCons (gN 2) (gsCons (gN 3) gsNil))) b_law_lines_in_1)
def m_law_lines_in : DS := (sSeq (sOwn 1 (eLst aNil)) (sSeq l_law_lines_in_1 (sSeq (sRelL 1) (sRet (eTup (aCons (eC (.str "told")) (aCons (e1 dTuple (eVar 1)) aNil)))))))
def f_law_lines_in : DF := mkF 10 [.val] m_law_lines_in
theorem ok_law_lines_in {P : Program} {w : World} {K : PySem.W.Frag} {mg : Str → Option Value} {base : Heap} (hK : K = TheK.K) (B : Bf K mg) (F : Fu K mg "_law_lines_in" s_law_lines_in) (k_law_lot_in : Kn P w K mg base .s "_law_lot_in" s_law_lot_in n_law_lot_in p_law_lot_in [.val] f_law_lot_in 3) : Kn P w K mg base .s "_law_lines_in" s_law_lines_in n_law_lines_in p_law_lines_in [.val] f_law_lines_in 4 := kn_of F sc_law_lines_in rfl b_law_lines_in (.inl ⟨rfl, rfl⟩) fun f cdv A outer s H E hr tk hp => by
  have nd : n_law_lines_in.Nodup := sc_law_lines_in.nd
  have hc : (cxD P w K mg base n_law_lines_in "_law_lines_in" (defScope s_law_lines_in) f cdv A outer s H E).calm = true := rfl
  have hu := room_u hr
  exact (ss_cons (sd_own (i := 1) nd rfl (.inl rfl) (pd_lst ad_nil)) (ss_cons (sd_for hp hc (id_enK (bn_any rfl B.enumerate boot_enumerate) (PD.str (pd_split (pd_var (i := 0) rfl (.inl rfl)) pd_str))) (gd_tup (n := 2) hc (gsd_cons (gd_name (i := 2) nd rfl (.inl rfl)) (gsd_cons (gd_name (i := 3) nd rfl (.inl rfl)) gsd_nil)) (gs_lenS (gs_lenS gs_len0))) (ss_fg (vs := [2, 3, 4, 5, 6, 7, 8]) (ss_cons (sd_asgT (pd_part (pd_var (i := 3) rfl (.inl rfl)) pd_str) (gd_tup (n := 3) hc (gsd_cons (gd_name (i := 4) nd rfl (.inl rfl)) (gsd_cons (gd_name (i := 5) nd rfl (.inl rfl)) (gsd_cons (gd_name (i := 6) nd rfl (.inl rfl)) gsd_nil))) (gs_lenS (gs_lenS (gs_lenS gs_len0))))) (ss_cons (sd_asgN (i := 7) nd rfl (.inl rfl) (pd_call (k_law_lot_in.fn hr) tk rfl (ga_val (pd_var (i := 6) rfl (.inl rfl)) ga_nil))) (ss_cons (sd_asgN (i := 8) nd rfl (.inl rfl) (pd_and (pd_chain (ck_le hu) (ck_le hu) pd_int (pd_lenA (bn_any rfl B.len boot_len) (PD.weak (pd_var (i := 4) rfl (.inl rfl)))) (PD.weak pd_int)) (pd_one (pd_cmp (ck_eq hu) (PD.str (pd_lc (own := [("_law_own", 9)]) hc nd (by kernel_rfl) rfl (id_chr (pd_var (i := 4) rfl (.inl rfl))) (fun s H C cl fp => (gd_name (i := 9) nd rfl (.inl rfl))) (fun s H C cl fp => (cd_one (td_not (td_chain ck_leS ck_leS pd_str (pd_var (i := 9) rfl (.inl rfl)) (PD.weak pd_str))))) (fun s H C cl fp => (pd_var (i := 9) rfl (.inl rfl))))) (PD.weak (PD.str (pd_lst ad_nil))) rfl)))) (ss_cons (sd_if (WD.td (wd_or (td_isN (PD.weak (pd_var (i := 7) rfl (.inl rfl)))) (wd_or (td_not (td_val (pd_var (i := 8) rfl (.inl rfl)))) (wd_or1 (WD.td (wd_and (td_cmpL (i := 1) (ck_ne hu) rfl (.inl rfl) (PD.weak (PD.str (pd_lst ad_nil))) rfl) (wd_and1 (td_cmp ck_geS (pd_ix hu (pd_ixL (i := 1) hu rfl (.inl rfl) (pd_neg pd_int)) pd_int) (PD.weak (pd_var (i := 4) rfl (.inl rfl))) rfl)))))))) (ss_one (sd_ret (pd_var (i := 2) rfl (.inl rfl)))) ss_nil) (ss_one (sd_app (i := 1) rfl (.inl rfl) (pd_tup (ad_cons (pd_var (i := 4) rfl (.inl rfl)) (ad_cons (pd_var (i := 7) rfl (.inl rfl)) ad_nil))))))))))) (ss_rel (i := 1) (ss_one (sd_ret (pd_tup (ad_cons pd_str (ad_cons (pd_tuple (bn_any rfl B.tuple boot_tuple) (pd_var (i := 1) rfl (.inl rfl))) ad_nil))))))))
abbrev n_law_text_right : List Str := ["_law_door_so", "_law_say_so", "_law_told_so"]
abbrev p_law_text_right : List Str := ["_law_door_so", "_law_say_so"]
theorem sc_law_text_right : FnScope n_law_text_right p_law_text_right (defScope s_law_text_right) := ⟨rfl, rfl, rfl, by decide +kernel, rfl, by decide +kernel, by decide +kernel⟩
theorem b_law_text_right : BindsOk "_law_text_right" s_law_text_right p_law_text_right := fun _ _ _ _ _ _ us hl => match us, hl with | [_, _], _ => rfl
def m_law_text_right : DS := (sSeq (sIf (tAnd (c2 dIn (eVar 0) (eTup (aCons (eC (.int 0)) (aCons (eC (.int 3)) aNil)))) (tV (eCall f_law_wide [.e (eVar 1)]))) (sRet (eC (.bl true))) sNil) (sSeq (sIf (c2 dEq (eVar 0) (eC (.int 3))) (sRet (eCall (f_law_same 30) [.e (eCall f_law_heard [.e (eC (.int 3)), .e (eVar 1)]), .e (eCall f_law_lines_in [.e (eVar 1)])])) sNil) (sSeq (sAsgN 2 (eIf (c2 dEq (eVar 0) (eC (.int 0))) (eCall f_law_lot_in [.e (eVar 1)]) (eCall f_law_numbers_in [.e (eVar 1)]))) (sSeq (sAsgN 2 (eIf (c2 dEq (eVar 0) (eC (.int 2))) (eCall f_law_ranges_in [.e (eVar 1)]) (eVar 2))) (sRet (eCall (f_law_same 30) [.e (eCall f_law_heard [.e (eVar 0), .e (eVar 1)]), .e (eIf (tIsN (eVar 2)) (eC (.str "text")) (eTup (aCons (eC (.str "told")) (aCons (eVar 2) aNil))))]))))))
def f_law_text_right : DF := mkF 3 [.val, .val] m_law_text_right
theorem ok_law_text_right {P : Program} {w : World} {K : PySem.W.Frag} {mg : Str → Option Value} {base : Heap} (hK : K = TheK.K) (B : Bf K mg) (F : Fu K mg "_law_text_right" s_law_text_right) (k_law_same : Kn P w K mg base .s "_law_same" s_law_same n_law_same p_law_same [.val, .val] (f_law_same 30) 31) (k_law_wide : Kn P w K mg base .s "_law_wide" s_law_wide n_law_wide p_law_wide [.val] f_law_wide 2) (k_law_lot_in : Kn P w K mg base .s "_law_lot_in" s_law_lot_in n_law_lot_in p_law_lot_in [.val] f_law_lot_in 3) (k_law_numbers_in : Kn P w K mg base .s "_law_numbers_in" s_law_numbers_in n_law_numbers_in p_law_numbers_in [.val] f_law_numbers_in 2) (k_law_ranges_in : Kn P w K mg base .s "_law_ranges_in" s_law_ranges_in n_law_ranges_in p_law_ranges_in [.val] f_law_ranges_in 3) (k_law_heard : Kn P w K mg base .s "_law_heard" s_law_heard n_law_heard p_law_heard [.val, .val] f_law_heard 33) (k_law_lines_in : Kn P w K mg base .s "_law_lines_in" s_law_lines_in n_law_lines_in p_law_lines_in [.val] f_law_lines_in 4) : Kn P w K mg base .s "_law_text_right" s_law_text_right n_law_text_right p_law_text_right [.val, .val] f_law_text_right 34 := kn_of F sc_law_text_right rfl b_law_text_right (.inl ⟨rfl, rfl⟩) fun f cdv A outer s H E hr tk hp => by
  have nd : n_law_text_right.Nodup := sc_law_text_right.nd
  have hc : (cxD P w K mg base n_law_text_right "_law_text_right" (defScope s_law_text_right) f cdv A outer s H E).calm = true := rfl
  have hu := room_u hr
  exact (ss_cons (sd_if (WD.td (wd_and (td_in (ik_in hu) (pd_var (i := 0) rfl (.inl rfl)) (PD.weak (pd_tup (ad_cons pd_int (ad_cons pd_int ad_nil)))) rfl) (wd_and1 (td_val (pd_call (k_law_wide.fn hr) tk rfl (ga_val (pd_var (i := 1) rfl (.inl rfl)) ga_nil)))))) (ss_one (sd_ret pd_bl)) ss_nil) (ss_cons (sd_if (td_cmp (ck_eq hu) (pd_var (i := 0) rfl (.inl rfl)) (PD.weak pd_int) rfl) (ss_one (sd_ret (pd_call (k_law_same.fn hr) tk rfl (ga_val (pd_call (k_law_heard.fn hr) tk rfl (ga_val pd_int (ga_val (pd_var (i := 1) rfl (.inl rfl)) ga_nil))) (ga_val (pd_call (k_law_lines_in.fn hr) tk rfl (ga_val (pd_var (i := 1) rfl (.inl rfl)) ga_nil)) ga_nil))))) ss_nil) (ss_cons (sd_asgN (i := 2) nd rfl (.inl rfl) (pd_if (td_cmp (ck_eq hu) (pd_var (i := 0) rfl (.inl rfl)) (PD.weak pd_int) rfl) (pd_call (k_law_lot_in.fn hr) tk rfl (ga_val (pd_var (i := 1) rfl (.inl rfl)) ga_nil)) (pd_call (k_law_numbers_in.fn hr) tk rfl (ga_val (pd_var (i := 1) rfl (.inl rfl)) ga_nil)))) (ss_cons (sd_asgN (i := 2) nd rfl (.inl rfl) (pd_if (td_cmp (ck_eq hu) (pd_var (i := 0) rfl (.inl rfl)) (PD.weak pd_int) rfl) (pd_call (k_law_ranges_in.fn hr) tk rfl (ga_val (pd_var (i := 1) rfl (.inl rfl)) ga_nil)) (pd_var (i := 2) rfl (.inl rfl)))) (ss_one (sd_ret (pd_call (k_law_same.fn hr) tk rfl (ga_val (pd_call (k_law_heard.fn hr) tk rfl (ga_val (pd_var (i := 0) rfl (.inl rfl)) (ga_val (pd_var (i := 1) rfl (.inl rfl)) ga_nil))) (ga_val (pd_if (td_isN (PD.weak (pd_var (i := 2) rfl (.inl rfl)))) pd_str (pd_tup (ad_cons pd_str (ad_cons (pd_var (i := 2) rfl (.inl rfl)) ad_nil)))) ga_nil)))))))))
abbrev n_law_by_hand_right : List Str := ["_law_bad", "_law_door_so", "_law_lines_so", "_law_got", "_law_tags_so", "_law_one_so", "_law_say_so", "_law_own", "_law_two_so"]
abbrev p_law_by_hand_right : List Str := []
theorem sc_law_by_hand_right : FnScope n_law_by_hand_right p_law_by_hand_right (defScope s_law_by_hand_right) := ⟨rfl, rfl, rfl, by decide +kernel, rfl, by decide +kernel, by decide +kernel⟩
theorem b_law_by_hand_right : BindsOk "_law_by_hand_right" s_law_by_hand_right p_law_by_hand_right := fun _ _ _ _ _ _ us hl => match us, hl with | [], _ => rfl
def c_law_by_hand_right_1 : DE := (eLc [7] (iSeq (e2 dIx (eVar 0) (eVar 1))) (gN 7) (c2 dNe (eCall f_law_heard [.e (eVar 1), .e (eVar 7)]) (eC (.str "text"))) (eVar 7))
def c_law_by_hand_right_2 : DE := (eLc [7] (iSeq (e2 dIx (eVar 0) (eVar 1))) (gN 7) tYes (eCall f_law_text_right [.e (eVar 1), .e (eVar 7)]))
def b_law_by_hand_right_1 : DS := (sFg [1] (sSeq (sIf (c2 dNe c_law_by_hand_right_1 (eLst aNil)) (sRet (eC (.bl false))) sNil) (sIf (tNot (tV (e1 dAll c_law_by_hand_right_2))) (sRet (eC (.bl false))) sNil)))
def l_law_by_hand_right_1 : DS := (sFor (iRng1 (eC (.int 3))) (gN 1) b_law_by_hand_right_1)
def c_law_by_hand_right_3 : DE := (eLc [7] (iSeq (eVar 2)) (gN 7) tYes (eCall f_law_heard [.e (eC (.int 3)), .e (e2 dIx (eVar 7) (eC (.int 0)))]))
def c_law_by_hand_right_4 : DE := (eLc [7] (iSeq (eVar 2)) (gN 7) tYes (e2 dIx (eVar 7) (eC (.int 1))))
def c_law_by_hand_right_5 : DE := (eLc [7] (iSeq (eVar 2)) (gN 7) tYes (eCall f_law_text_right [.e (eC (.int 3)), .e (e2 dIx (eVar 7) (eC (.int 0)))]))
def c_law_by_hand_right_6 : DE := (eLc [8] (iChr (eC (.str "abcdefghij"))) (gN 8) tYes (e2 dAdd (eVar 5) (eVar 8)))
def b_law_by_hand_right_2 : DS := (sFg [5] (sAsgN 4 (e2 dAdd (eVar 4) c_law_by_hand_right_6)))
def l_law_by_hand_right_2 : DS := (sFor (iChr (eC (.str "abcdef"))) (gN 5) b_law_by_hand_right_2)
def c_law_by_hand_right_7 : DE := (eLc [7] (iSeq (eVar 4)) (gN 7) tYes (e2 dAdd (eVar 7) (eC (.str " 2: 0-1 3"))))
def m_law_by_hand_right : DS := (sSeq (sOwn 0 (eLst (aCons (eLst (aCons (eC (.str "")) (aCons (eC (.str "4")) (aCons (eC (.str "4: ")) (aCons (eC (.str "4:-")) (aCons (eC (.str "0: -")) (aCons (eC (.str "4: 1-1 1, 0-2 3")) (aCons (eC (.str "4: 0-2 3,1-1 1")) (aCons (eC (.str "4: 0-4 1")) (aCons (eC (.str "4: 2-0 1")) (aCons (eC (.str "4: 0-2 0")) aNil))))))))))) aNil))) (sSeq (sSetL 0 (eC (.int 0)) (e2 dAdd (e2L dIx 0 (eC (.int 0))) (eLst (aCons (eC (.str "4: 0-2")) (aCons (eC (.str "4: 0-2 1 ")) (aCons (eC (.str "04: -")) (aCons (eC (.str "4: 0-2 01")) (aCons (eC (.str "4: 0-2 1, 0-2 1")) (aCons (eC (.str "4: -: -")) (aCons (eC (.str "-4: -")) (aCons (eC (.str "4: 0 2 1")) aNil))))))))))) (sSeq (sSetL 0 (eC (.int 0)) (e2 dAdd (e2L dIx 0 (eC (.int 0))) (eLst (aCons (eC (.str "4: 0--2 1")) (aCons (eC (.str "4: 0/2 1")) (aCons (eC (.str "4: -, 0-1 1")) (aCons (eC (.str "four: -")) (aCons (eC (.str "4: - ")) (aCons (eC (.str " 4: -")) (aCons (eC (.str "4: 0-2 -1")) (aCons (eC (.str "4: 0-2 1\n")) aNil))))))))))) (sSeq (sApp 0 (eLst (aCons (eC (.str "")) (aCons (eC (.str " ")) (aCons (eC (.str "1  2")) (aCons (eC (.str "1 ")) (aCons (eC (.str " 1")) (aCons (eC (.str "01")) (aCons (eC (.str "-1")) (aCons (eC (.str "+1")) (aCons (eC (.str "1,2")) (aCons (eC (.str "a")) (aCons (eC (.str "1\n")) (aCons (eC (.str "00")) (aCons (eC (.str "1.0")) (aCons (eC (.str "3 -1")) (aCons (eC (.str "-")) aNil))))))))))))))))) (sSeq (sApp 0 (eLst (aCons (eC (.str "")) (aCons (eC (.str "2..1")) (aCons (eC (.str "1")) (aCons (eC (.str "1..")) (aCons (eC (.str "..1")) (aCons (eC (.str "1...2")) (aCons (eC (.str "1..2 ")) (aCons (eC (.str "1..2  3..4")) (aCons (eC (.str "01..2")) (aCons (eC (.str "1..-2")) (aCons (eC (.str "1-2")) aNil))))))))))))) (sSeq (sSetL 0 (eC (.int 2)) (e2 dAdd (e2L dIx 0 (eC (.int 2))) (eLst (aCons (eC (.str "1..2,3..4")) (aCons (eC (.str "-")) aNil))))) (sSeq (sRelL 0) (sSeq l_law_by_hand_right_1 (sSeq (sAsgN 2 (eLst (aCons (eTup (aCons (eC (.str "")) (aCons (eC (.int 0)) aNil))) (aCons (eTup (aCons (eC (.str "a 2: -\na 2: -")) (aCons (eC (.int 1)) aNil))) (aCons (eTup (aCons (eC (.str "b 2: -\na 2: -")) (aCons (eC (.int 1)) aNil))) (aCons (eTup (aCons (eC (.str "a 2: -\n")) (aCons (eC (.int 1)) aNil))) (aCons (eTup (aCons (eC (.str "a2: -")) (aCons (eC (.int 0)) aNil))) (aCons (eTup (aCons (eC (.str "A 2: -")) (aCons (eC (.int 0)) aNil))) aNil)))))))) (sSeq (sAsgN 2 (e2 dAdd (eVar 2) (eLst (aCons (eTup (aCons (eC (.str "abcdefghi 2: -")) (aCons (eC (.int 0)) aNil))) (aCons (eTup (aCons (eC (.str " 2: -")) (aCons (eC (.int 0)) aNil))) (aCons (eTup (aCons (eC (.str "a 2: -\n\nb 2: -")) (aCons (eC (.int 1)) aNil))) (aCons (eTup (aCons (eC (.str "a 0: -")) (aCons (eC (.int 0)) aNil))) (aCons (eTup (aCons (eC (.str "a  2: -")) (aCons (eC (.int 0)) aNil))) aNil)))))))) (sSeq (sAsgN 2 (e2 dAdd (eVar 2) (eLst (aCons (eTup (aCons (eC (.str "a 2: -\nab 2: 0-1 0")) (aCons (eC (.int 1)) aNil))) aNil)))) (sSeq (sAsgN 3 c_law_by_hand_right_3) (sSeq (sIf (tOr (tNot (tV (eCall (f_law_same 30) [.e (eVar 3), .e c_law_by_hand_right_4]))) (tNot (tV (e1 dAll c_law_by_hand_right_5)))) (sRet (eC (.bl false))) sNil) (sSeq (sAsgN 4 (eLst aNil)) (sSeq l_law_by_hand_right_2 (sSeq (sAsgN 6 (eS1 dJoin (eC (.str "\n")) c_law_by_hand_right_7)) (sRet (eAnd (eCall f_law_text_right [.e (eC (.int 3)), .e (eVar 6)]) (eCall (f_law_same 30) [.e (eCall f_law_heard [.e (eC (.int 3)), .e (e2 dAdd (eVar 6) (eC (.str " ")))]), .e (eC (.int 59))])))))))))))))))))))
def f_law_by_hand_right : DF := mkF 9 [] m_law_by_hand_right
theorem ok_law_by_hand_right {P : Program} {w : World} {K : PySem.W.Frag} {mg : Str → Option Value} {base : Heap} (hK : K = TheK.K) (B : Bf K mg) (F : Fu K mg "_law_by_hand_right" s_law_by_hand_right) (k_law_heard : Kn P w K mg base .s "_law_heard" s_law_heard n_law_heard p_law_heard [.val, .val] f_law_heard 33) (k_law_text_right : Kn P w K mg base .s "_law_text_right" s_law_text_right n_law_text_right p_law_text_right [.val, .val] f_law_text_right 34) (k_law_same : Kn P w K mg base .s "_law_same" s_law_same n_law_same p_law_same [.val, .val] (f_law_same 30) 31) : Kn P w K mg base .s "_law_by_hand_right" s_law_by_hand_right n_law_by_hand_right p_law_by_hand_right [] f_law_by_hand_right 35 := kn_of F sc_law_by_hand_right rfl b_law_by_hand_right (.inl ⟨rfl, rfl⟩) fun f cdv A outer s H E hr tk hp => by
  have nd : n_law_by_hand_right.Nodup := sc_law_by_hand_right.nd
  have hc : (cxD P w K mg base n_law_by_hand_right "_law_by_hand_right" (defScope s_law_by_hand_right) f cdv A outer s H E).calm = true := rfl
  have hu := room_u hr
  exact (ss_cons (sd_own (i := 0) nd rfl (.inl rfl) (pd_lst (ad_cons (PD.str (pd_lst (ad_cons pd_str (ad_cons pd_str (ad_cons pd_str (ad_cons pd_str (ad_cons pd_str (ad_cons pd_str (ad_cons pd_str (ad_cons pd_str (ad_cons pd_str (ad_cons pd_str ad_nil)))))))))))) ad_nil))) (ss_cons (sd_setL (i := 0) rfl (.inl rfl) pd_int (pd_add (pd_ixL (i := 0) hu rfl (.inl rfl) pd_int) (PD.str (pd_lst (ad_cons pd_str (ad_cons pd_str (ad_cons pd_str (ad_cons pd_str (ad_cons pd_str (ad_cons pd_str (ad_cons pd_str (ad_cons pd_str ad_nil)))))))))))) (ss_cons (sd_setL (i := 0) rfl (.inl rfl) pd_int (pd_add (pd_ixL (i := 0) hu rfl (.inl rfl) pd_int) (PD.str (pd_lst (ad_cons pd_str (ad_cons pd_str (ad_cons pd_str (ad_cons pd_str (ad_cons pd_str (ad_cons pd_str (ad_cons pd_str (ad_cons pd_str ad_nil)))))))))))) (ss_cons (sd_app (i := 0) rfl (.inl rfl) (PD.str (pd_lst (ad_cons pd_str (ad_cons pd_str (ad_cons pd_str (ad_cons pd_str (ad_cons pd_str (ad_cons pd_str (ad_cons pd_str (ad_cons pd_str (ad_cons pd_str (ad_cons pd_str (ad_cons pd_str (ad_cons pd_str (ad_cons pd_str (ad_cons pd_str (ad_cons pd_str ad_nil)))))))))))))))))) (ss_cons (sd_app (i := 0) rfl (.inl rfl) (PD.str (pd_lst (ad_cons pd_str (ad_cons pd_str (ad_cons pd_str (ad_cons pd_str (ad_cons pd_str (ad_cons pd_str (ad_cons pd_str (ad_cons pd_str (ad_cons pd_str (ad_cons pd_str (ad_cons pd_str ad_nil)))))))))))))) (ss_cons (sd_setL (i := 0) rfl (.inl rfl) pd_int (pd_add (pd_ixL (i := 0) hu rfl (.inl rfl) pd_int) (PD.str (pd_lst (ad_cons pd_str (ad_cons pd_str ad_nil)))))) (ss_rel (i := 0) (ss_cons (sd_for hp hc (id_range1 (bn_any rfl B.range boot_range) pd_int) (gd_name (i := 1) nd rfl (.inr rfl)) (ss_fg (vs := [1]) (ss_cons (sd_if (td_cmp (ck_ne hu) (PD.str (pd_lc (own := [("_law_own", 7)]) hc nd (by kernel_rfl) rfl (id_seq (pd_ix hu (pd_var (i := 0) rfl (.inl rfl)) (pd_var (i := 1) rfl (.inr (.inl rfl))))) (fun s H C cl fp => (gd_name (i := 7) nd rfl (.inl rfl))) (fun s H C cl fp => (cd_one (td_cmp (ck_ne hu) (pd_call (k_law_heard.fn hr) tkNone rfl (ga_val (pd_var (i := 1) rfl (.inr (.inl rfl))) (ga_val (pd_var (i := 7) rfl (.inl rfl)) ga_nil))) (PD.weak pd_str) rfl))) (fun s H C cl fp => (pd_var (i := 7) rfl (.inl rfl))))) (PD.weak (PD.str (pd_lst ad_nil))) rfl) (ss_one (sd_ret pd_bl)) ss_nil) (ss_one (sd_if (td_not (td_val (pd_all hc (bn_any rfl B.all boot_all) (PD.weak (PD.str (pd_lc (own := [("_law_own", 7)]) hc nd (by kernel_rfl) rfl (id_seq (pd_ix hu (pd_var (i := 0) rfl (.inl rfl)) (pd_var (i := 1) rfl (.inr (.inl rfl))))) (fun s H C cl fp => (gd_name (i := 7) nd rfl (.inl rfl))) (fun s H C cl fp => cd_nil) (fun s H C cl fp => (pd_call (k_law_text_right.fn hr) tkNone rfl (ga_val (pd_var (i := 1) rfl (.inr (.inl rfl))) (ga_val (pd_var (i := 7) rfl (.inl rfl)) ga_nil)))))))))) (ss_one (sd_ret pd_bl)) ss_nil))))) (ss_cons (sd_asgN (i := 2) nd rfl (.inl rfl) (PD.str (pd_lst (ad_cons (pd_tup (ad_cons pd_str (ad_cons pd_int ad_nil))) (ad_cons (pd_tup (ad_cons pd_str (ad_cons pd_int ad_nil))) (ad_cons (pd_tup (ad_cons pd_str (ad_cons pd_int ad_nil))) (ad_cons (pd_tup (ad_cons pd_str (ad_cons pd_int ad_nil))) (ad_cons (pd_tup (ad_cons pd_str (ad_cons pd_int ad_nil))) (ad_cons (pd_tup (ad_cons pd_str (ad_cons pd_int ad_nil))) ad_nil))))))))) (ss_cons (sd_asgN (i := 2) nd rfl (.inl rfl) (pd_add (pd_var (i := 2) rfl (.inl rfl)) (PD.str (pd_lst (ad_cons (pd_tup (ad_cons pd_str (ad_cons pd_int ad_nil))) (ad_cons (pd_tup (ad_cons pd_str (ad_cons pd_int ad_nil))) (ad_cons (pd_tup (ad_cons pd_str (ad_cons pd_int ad_nil))) (ad_cons (pd_tup (ad_cons pd_str (ad_cons pd_int ad_nil))) (ad_cons (pd_tup (ad_cons pd_str (ad_cons pd_int ad_nil))) ad_nil))))))))) (ss_cons (sd_asgN (i := 2) nd rfl (.inl rfl) (pd_add (pd_var (i := 2) rfl (.inl rfl)) (PD.str (pd_lst (ad_cons (pd_tup (ad_cons pd_str (ad_cons pd_int ad_nil))) ad_nil))))) (ss_cons (sd_lc (i := 3) (own := [("_law_own", 7)]) hc nd rfl rfl rfl rfl (by kernel_rfl) (by kernel_rfl) rfl (id_seq (pd_var (i := 2) rfl (.inl rfl))) (fun s H C cl fp => (gd_name (i := 7) nd rfl (.inl rfl))) (fun s H C cl fp => cd_nil) (fun s H C cl fp => (pd_call (k_law_heard.fn hr) tkNone rfl (ga_val pd_int (ga_val (pd_ix hu (pd_var (i := 7) rfl (.inl rfl)) pd_int) ga_nil))))) (ss_cons (sd_if (WD.td (wd_or (td_not (td_val (pd_call (k_law_same.fn hr) tk rfl (ga_val (pd_var (i := 3) rfl (.inl rfl)) (ga_val (PD.str (pd_lc (own := [("_law_own", 7)]) hc nd (by kernel_rfl) rfl (id_seq (pd_var (i := 2) rfl (.inl rfl))) (fun s H C cl fp => (gd_name (i := 7) nd rfl (.inl rfl))) (fun s H C cl fp => cd_nil) (fun s H C cl fp => (pd_ix hu (pd_var (i := 7) rfl (.inl rfl)) pd_int)))) ga_nil))))) (wd_or1 (td_not (td_val (pd_all hc (bn_any rfl B.all boot_all) (PD.weak (PD.str (pd_lc (own := [("_law_own", 7)]) hc nd (by kernel_rfl) rfl (id_seq (pd_var (i := 2) rfl (.inl rfl))) (fun s H C cl fp => (gd_name (i := 7) nd rfl (.inl rfl))) (fun s H C cl fp => cd_nil) (fun s H C cl fp => (pd_call (k_law_text_right.fn hr) tkNone rfl (ga_val pd_int (ga_val (pd_ix hu (pd_var (i := 7) rfl (.inl rfl)) pd_int) ga_nil))))))))))))) (ss_one (sd_ret pd_bl)) ss_nil) (ss_cons (sd_asgN (i := 4) nd rfl (.inl rfl) (PD.str (pd_lst ad_nil))) (ss_cons (sd_for hp hc (id_chr pd_str) (gd_name (i := 5) nd rfl (.inr rfl)) (ss_fg (vs := [5]) (ss_one (sd_asgN (i := 4) nd rfl (.inl rfl) (pd_add (pd_var (i := 4) rfl (.inl rfl)) (PD.str (pd_lc (own := [("_law_two_so", 8)]) hc nd (by kernel_rfl) rfl (id_chr pd_str) (fun s H C cl fp => (gd_name (i := 8) nd rfl (.inl rfl))) (fun s H C cl fp => cd_nil) (fun s H C cl fp => (pd_add (pd_var (i := 5) rfl (.inr (.inl rfl))) (pd_var (i := 8) rfl (.inl rfl))))))))))) (ss_cons (sd_asgN (i := 6) nd rfl (.inl rfl) (pd_join pd_str (PD.weak (PD.str (pd_lc (own := [("_law_own", 7)]) hc nd (by kernel_rfl) rfl (id_seq (pd_var (i := 4) rfl (.inl rfl))) (fun s H C cl fp => (gd_name (i := 7) nd rfl (.inl rfl))) (fun s H C cl fp => cd_nil) (fun s H C cl fp => (pd_add (pd_var (i := 7) rfl (.inl rfl)) pd_str))))))) (ss_one (sd_ret (pd_and (pd_call (k_law_text_right.fn hr) tk rfl (ga_val pd_int (ga_val (pd_var (i := 6) rfl (.inl rfl)) ga_nil))) (pd_one (pd_call (k_law_same.fn hr) tk rfl (ga_val (pd_call (k_law_heard.fn hr) tk rfl (ga_val pd_int (ga_val (pd_add (pd_var (i := 6) rfl (.inl rfl)) pd_str) ga_nil))) (ga_val pd_int ga_nil)))))))))))))))))))))))
abbrev n_law_take : List Str := ["_law_box_here", "_law_below_so", "_law_drawn_so", "_law_once", "_law_far_so", "_law_twice_so"]
abbrev p_law_take : List Str := ["_law_box_here", "_law_below_so"]
theorem sc_law_take : FnScope n_law_take p_law_take (defScope s_law_take) := ⟨rfl, rfl, rfl, by decide +kernel, rfl, by decide +kernel, by decide +kernel⟩
theorem b_law_take : BindsOk "_law_take" s_law_take p_law_take := fun _ _ _ _ _ _ us hl => match us, hl with | [_, _], _ => rfl
theorem ok_law_take {P : Program} {w : World} {K : PySem.W.Frag} {mg : Str → Option Value} {base : Heap} (hK : K = TheK.K) (B : Bf K mg) (F : Fu K mg "_law_take" s_law_take) : Kn P w K mg base .s "_law_take" s_law_take n_law_take p_law_take [.bor, .val] f_law_take 1 := kn_of F sc_law_take rfl b_law_take (.inl ⟨rfl, rfl⟩) fun f cdv A outer s H E hr tk hp => by
  have nd : n_law_take.Nodup := sc_law_take.nd
  have hc : (cxD P w K mg base n_law_take "_law_take" (defScope s_law_take) f cdv A outer s H E).calm = true := rfl
  have hu := room_u hr
  exact (ss_cons (sd_if (td_cmp ck_gt (pd_ixL (i := 0) hu rfl (.inl rfl) pd_int) (PD.weak pd_int) rfl) (ss_cons (sd_asgN (i := 2) nd rfl (.inl rfl) (pd_mod (pd_toint (bn_any rfl B.int boot_int) (pd_ixL (i := 0) hu rfl (.inl rfl) pd_int)) (pd_var (i := 1) rfl (.inl rfl)))) (ss_cons (sd_setL (i := 0) rfl (.inl rfl) pd_int (pd_div (pd_ixL (i := 0) hu rfl (.inl rfl) pd_int) (pd_var (i := 1) rfl (.inl rfl)))) (ss_one (sd_ret (pd_var (i := 2) rfl (.inl rfl)))))) ss_nil) (ss_cons (sd_setL (i := 0) rfl (.inl rfl) pd_int (pd_add (pd_ixL (i := 0) hu rfl (.inl rfl) pd_int) pd_int)) (ss_cons (sd_asgN (i := 3) nd rfl (.inl rfl) (pd_mod (pd_toint (bn_any rfl B.int boot_int) (pd_mul (pd_add (pd_ixL (i := 0) hu rfl (.inl rfl) pd_int) (pd_mul pd_int (pd_ixL (i := 0) hu rfl (.inl rfl) pd_int))) (pd_add pd_int (pd_ixL (i := 0) hu rfl (.inl rfl) pd_int)))) pd_int)) (ss_cons (sd_asgN (i := 4) nd rfl (.inl rfl) (pd_add (pd_mod (pd_toint (bn_any rfl B.int boot_int) (pd_var (i := 3) rfl (.inl rfl))) pd_int) pd_int)) (ss_cons (sd_asgN (i := 5) nd rfl (.inl rfl) (pd_mod (pd_toint (bn_any rfl B.int boot_int) (pd_mul (pd_add (pd_add (pd_var (i := 3) rfl (.inl rfl)) (pd_ixL (i := 0) hu rfl (.inl rfl) pd_int)) (pd_div (pd_ixL (i := 0) hu rfl (.inl rfl) pd_int) pd_int)) (pd_var (i := 4) rfl (.inl rfl)))) pd_int)) (ss_one (sd_ret (pd_mod (pd_toint (bn_any rfl B.int boot_int) (pd_div (pd_mod (pd_toint (bn_any rfl B.int boot_int) (pd_add (pd_mul (pd_var (i := 5) rfl (.inl rfl)) pd_int) (pd_var (i := 3) rfl (.inl rfl)))) pd_int) pd_int)) (pd_var (i := 1) rfl (.inl rfl))))))))))
abbrev n_law_spans : List Str := ["_law_size_so", "_law_found", "_law_near_so", "_law_far_so"]
abbrev p_law_spans : List Str := ["_law_size_so"]
theorem sc_law_spans : FnScope n_law_spans p_law_spans (defScope s_law_spans) := ⟨rfl, rfl, rfl, by decide +kernel, rfl, by decide +kernel, by decide +kernel⟩
theorem b_law_spans : BindsOk "_law_spans" s_law_spans p_law_spans := fun _ _ _ _ _ _ us hl => match us, hl with | [_], _ => rfl
theorem ok_law_spans {P : Program} {w : World} {K : PySem.W.Frag} {mg : Str → Option Value} {base : Heap} (hK : K = TheK.K) (B : Bf K mg) (F : Fu K mg "_law_spans" s_law_spans) : Kn P w K mg base .s "_law_spans" s_law_spans n_law_spans p_law_spans [.val] f_law_spans 1 := kn_of F sc_law_spans rfl b_law_spans (.inl ⟨rfl, rfl⟩) fun f cdv A outer s H E hr tk hp => by
  have nd : n_law_spans.Nodup := sc_law_spans.nd
  have hc : (cxD P w K mg base n_law_spans "_law_spans" (defScope s_law_spans) f cdv A outer s H E).calm = true := rfl
  have hu := room_u hr
  exact (ss_cons (sd_asgN (i := 1) nd rfl (.inl rfl) (PD.str (pd_lst ad_nil))) (ss_cons (sd_for hp hc (id_range1 (bn_any rfl B.range boot_range) (pd_var (i := 0) rfl (.inl rfl))) (gd_name (i := 2) nd rfl (.inr rfl)) (ss_fg (vs := [2]) (ss_one (sd_asgN (i := 1) nd rfl (.inl rfl) (pd_add (pd_var (i := 1) rfl (.inl rfl)) (PD.str (pd_lc (own := [("_law_far_so", 3)]) hc nd (by kernel_rfl) rfl (id_range2 (bn_any rfl B.range boot_range) (pd_var (i := 2) rfl (.inr (.inl rfl))) (pd_var (i := 0) rfl (.inl rfl))) (fun s H C cl fp => (gd_name (i := 3) nd rfl (.inl rfl))) (fun s H C cl fp => cd_nil) (fun s H C cl fp => (pd_tup (ad_cons (pd_var (i := 2) rfl (.inr (.inl rfl))) (ad_cons (pd_var (i := 3) rfl (.inl rfl)) ad_nil))))))))))) (ss_one (sd_ret (pd_var (i := 1) rfl (.inl rfl))))))
abbrev n_law_lot : List Str := ["_law_box_here", "_law_size_so", "_law_top_so", "_law_sort_so", "_law_found", "_law_span_so", "_law_many_so"]
abbrev p_law_lot : List Str := ["_law_box_here", "_law_size_so", "_law_top_so"]
theorem sc_law_lot : FnScope n_law_lot p_law_lot (defScope s_law_lot) := ⟨rfl, rfl, rfl, by decide +kernel, rfl, by decide +kernel, by decide +kernel⟩
theorem b_law_lot : BindsOk "_law_lot" s_law_lot p_law_lot := fun _ _ _ _ _ _ us hl => match us, hl with | [_, _, _], _ => rfl
theorem ok_law_lot {P : Program} {w : World} {K : PySem.W.Frag} {mg : Str → Option Value} {base : Heap} (hK : K = TheK.K) (B : Bf K mg) (F : Fu K mg "_law_lot" s_law_lot) (k_law_spans : Kn P w K mg base .s "_law_spans" s_law_spans n_law_spans p_law_spans [.val] f_law_spans 1) (k_law_take : Kn P w K mg base .s "_law_take" s_law_take n_law_take p_law_take [.bor, .val] f_law_take 1) : Kn P w K mg base .s "_law_lot" s_law_lot n_law_lot p_law_lot [.bor, .val, .val] f_law_lot 2 := kn_of F sc_law_lot rfl b_law_lot (.inl ⟨rfl, rfl⟩) fun f cdv A outer s H E hr tk hp => by
  have nd : n_law_lot.Nodup := sc_law_lot.nd
  have hc : (cxD P w K mg base n_law_lot "_law_lot" (defScope s_law_lot) f cdv A outer s H E).calm = true := rfl
  have hu := room_u hr
  exact (ss_cons (sd_par2 (i := 3) (j := 4) hc nd rfl rfl (by decide) rfl rfl (ga_val (pd_call (k_law_take.fn hr) tk rfl (ga_lend (i := 0) rfl (.inl rfl) (ga_val pd_int ga_nil))) (ga_new (pd_lst ad_nil) ga_nil)) rfl rfl) (ss_cons (sd_for hp hc (id_seq (pd_call (k_law_spans.fn hr) tk rfl (ga_val (pd_var (i := 1) rfl (.inl rfl)) ga_nil))) (gd_name (i := 5) nd rfl (.inl rfl)) (ss_fg (vs := [5, 6]) (ss_cons (sd_asgN (i := 6) nd rfl (.inl rfl) (pd_if (WD.td (wd_or (td_cmp (ck_lt hu) (pd_var (i := 3) rfl (.inl rfl)) (PD.weak pd_int) rfl) (wd_or1 (td_cmp (ck_eq hu) (pd_call (k_law_take.fn hr) tk rfl (ga_lend (i := 0) rfl (.inl rfl) (ga_val (pd_add pd_int (pd_var (i := 3) rfl (.inl rfl))) ga_nil))) (PD.weak pd_int) rfl)))) (pd_call (k_law_take.fn hr) tk rfl (ga_lend (i := 0) rfl (.inl rfl) (ga_val (pd_add (pd_var (i := 2) rfl (.inl rfl)) pd_int) ga_nil))) pd_int)) (ss_one (sd_if (td_cmp ck_gt (pd_var (i := 6) rfl (.inl rfl)) (PD.weak pd_int) rfl) (ss_one (sd_app (i := 4) rfl (.inl rfl) (pd_tup (ad_cons (pd_var (i := 5) rfl (.inl rfl)) (ad_cons (pd_var (i := 6) rfl (.inl rfl)) ad_nil))))) ss_nil))))) (ss_rel (i := 4) (ss_one (sd_ret (pd_tup (ad_cons (pd_var (i := 1) rfl (.inl rfl)) (ad_cons (pd_tuple (bn_any rfl B.tuple boot_tuple) (pd_var (i := 4) rfl (.inl rfl))) ad_nil))))))))
abbrev n_law_hands : List Str := ["_law_box_here", "_law_size_so", "_law_top_so", "_law_found", "_law_turn"]
abbrev p_law_hands : List Str := ["_law_box_here", "_law_size_so", "_law_top_so"]
theorem sc_law_hands : FnScope n_law_hands p_law_hands (defScope s_law_hands) := ⟨rfl, rfl, rfl, by decide +kernel, rfl, by decide +kernel, by decide +kernel⟩
theorem b_law_hands : BindsOk "_law_hands" s_law_hands p_law_hands := fun _ _ _ _ _ _ us hl => match us, hl with | [_, _, _], _ => rfl
theorem ok_law_hands {P : Program} {w : World} {K : PySem.W.Frag} {mg : Str → Option Value} {base : Heap} (hK : K = TheK.K) (B : Bf K mg) (F : Fu K mg "_law_hands" s_law_hands) (k_law_take : Kn P w K mg base .s "_law_take" s_law_take n_law_take p_law_take [.bor, .val] f_law_take 1) : Kn P w K mg base .s "_law_hands" s_law_hands n_law_hands p_law_hands [.bor, .val, .val] f_law_hands 2 := kn_of F sc_law_hands rfl b_law_hands (.inl ⟨rfl, rfl⟩) fun f cdv A outer s H E hr tk hp => by
  have nd : n_law_hands.Nodup := sc_law_hands.nd
  have hc : (cxD P w K mg base n_law_hands "_law_hands" (defScope s_law_hands) f cdv A outer s H E).calm = true := rfl
  have hu := room_u hr
  exact (ss_cons (sd_own (i := 3) nd rfl (.inl rfl) (pd_lst ad_nil)) (ss_cons (sd_for hp hc (id_range1 (bn_any rfl B.range boot_range) (pd_var (i := 1) rfl (.inl rfl))) (gd_name (i := 4) nd rfl (.inl rfl)) (ss_fg (vs := [4]) (ss_one (sd_app (i := 3) rfl (.inl rfl) (pd_if (td_cmp ck_gt (pd_call (k_law_take.fn hr) tk rfl (ga_lend (i := 0) rfl (.inl rfl) (ga_val pd_int ga_nil))) (PD.weak pd_int) rfl) (pd_call (k_law_take.fn hr) tk rfl (ga_lend (i := 0) rfl (.inl rfl) (ga_val (pd_add (pd_var (i := 2) rfl (.inl rfl)) pd_int) ga_nil))) pd_int))))) (ss_rel (i := 3) (ss_one (sd_ret (pd_tuple (bn_any rfl B.tuple boot_tuple) (pd_var (i := 3) rfl (.inl rfl))))))))
abbrev n_lot_text : List Str := ["lot", "parts", "first", "last", "work"]
abbrev p_lot_text : List Str := ["lot"]
theorem sc_lot_text : FnScope n_lot_text p_lot_text (defScope s_lot_text) := ⟨rfl, rfl, rfl, by decide +kernel, rfl, by decide +kernel, by decide +kernel⟩
theorem b_lot_text : BindsOk "lot_text" s_lot_text p_lot_text := fun _ _ _ _ _ _ us hl => match us, hl with | [_], _ => rfl
def c_lot_text_1 : DE := (eLc [2, 3, 4] (iSeq (e2 dIx (eVar 0) (eC (.int 1)))) (gT (gsCons (gT (gsCons (gN 2) (gsCons (gN 3) gsNil))) (gsCons (gN 4) gsNil))) tYes (e2 dAdd (e2 dAdd (e2 dAdd (e2 dAdd (e1 dStr (eVar 2)) (eC (.str "-"))) (e1 dStr (eVar 3))) (eC (.str " "))) (e1 dStr (eVar 4))))
def m_lot_text : DS := (sSeq (sAsgN 1 c_lot_text_1) (sRet (e2 dAdd (e2 dAdd (e1 dStr (e2 dIx (eVar 0) (eC (.int 0)))) (eC (.str ": "))) (eIf (c2 dGt (e1 dLen (eVar 1)) (eC (.int 0))) (eS1 dJoin (eC (.str ", ")) (eVar 1)) (eC (.str "-"))))))
def f_lot_text : DF := mkF 5 [.val] m_lot_text
theorem ok_lot_text {P : Program} {w : World} {K : PySem.W.Frag} {mg : Str → Option Value} {base : Heap} (hK : K = TheK.K) (B : Bf K mg) (F : Fu K mg "lot_text" s_lot_text) : Kn P w K mg base .s "lot_text" s_lot_text n_lot_text p_lot_text [.val] f_lot_text 1 := kn_of F sc_lot_text rfl b_lot_text (.inl ⟨rfl, rfl⟩) fun f cdv A outer s H E hr tk hp => by
  have nd : n_lot_text.Nodup := sc_lot_text.nd
  have hc : (cxD P w K mg base n_lot_text "lot_text" (defScope s_lot_text) f cdv A outer s H E).calm = true := rfl
  have hu := room_u hr
  exact (ss_cons (sd_lc (i := 1) (own := [("first", 2), ("last", 3), ("work", 4)]) hc nd rfl rfl rfl rfl (by kernel_rfl) (by kernel_rfl) rfl (id_seq (pd_ix hu (pd_var (i := 0) rfl (.inl rfl)) pd_int)) (fun s H C cl fp => (gd_tup (n := 2) hc (gsd_cons (gd_tup (n := 2) hc (gsd_cons (gd_name (i := 2) nd rfl (.inl rfl)) (gsd_cons (gd_name (i := 3) nd rfl (.inl rfl)) gsd_nil)) (gs_lenS (gs_lenS gs_len0))) (gsd_cons (gd_name (i := 4) nd rfl (.inl rfl)) gsd_nil)) (gs_lenS (gs_lenS gs_len0)))) (fun s H C cl fp => cd_nil) (fun s H C cl fp => (pd_add (pd_add (pd_add (pd_add (pd_str1 (bn_any rfl B.str boot_str) (pd_var (i := 2) rfl (.inl rfl))) (pd_gstr rfl B.g_DASH)) (pd_str1 (bn_any rfl B.str boot_str) (pd_var (i := 3) rfl (.inl rfl)))) pd_str) (pd_str1 (bn_any rfl B.str boot_str) (pd_var (i := 4) rfl (.inl rfl)))))) (ss_one (sd_ret (pd_add (pd_add (pd_str1 (bn_any rfl B.str boot_str) (pd_ix hu (pd_var (i := 0) rfl (.inl rfl)) pd_int)) (pd_gstr rfl B.g_COLON)) (pd_if (td_cmp ck_gt (pd_len (bn_any rfl B.len boot_len) (PD.weak (pd_var (i := 1) rfl (.inl rfl)))) (PD.weak pd_int) rfl) (pd_join (pd_gstr rfl B.g_COMMA) (PD.weak (pd_var (i := 1) rfl (.inl rfl)))) (pd_gstr rfl B.g_DASH))))))
abbrev n_numbers_text : List Str := ["numbers", "number"]
abbrev p_numbers_text : List Str := ["numbers"]
theorem sc_numbers_text : FnScope n_numbers_text p_numbers_text (defScope s_numbers_text) := ⟨rfl, rfl, rfl, by decide +kernel, rfl, by decide +kernel, by decide +kernel⟩
theorem b_numbers_text : BindsOk "numbers_text" s_numbers_text p_numbers_text := fun _ _ _ _ _ _ us hl => match us, hl with | [_], _ => rfl
def c_numbers_text_1 : DE := (eLc [1] (iSeq (eVar 0)) (gN 1) tYes (e1 dStr (eVar 1)))
def m_numbers_text : DS := (sRet (eS1 dJoin (eC (.str " ")) c_numbers_text_1))
def f_numbers_text : DF := mkF 2 [.val] m_numbers_text
theorem ok_numbers_text {P : Program} {w : World} {K : PySem.W.Frag} {mg : Str → Option Value} {base : Heap} (hK : K = TheK.K) (B : Bf K mg) (F : Fu K mg "numbers_text" s_numbers_text) : Kn P w K mg base .s "numbers_text" s_numbers_text n_numbers_text p_numbers_text [.val] f_numbers_text 1 := kn_of F sc_numbers_text rfl b_numbers_text (.inl ⟨rfl, rfl⟩) fun f cdv A outer s H E hr tk hp => by
  have nd : n_numbers_text.Nodup := sc_numbers_text.nd
  have hc : (cxD P w K mg base n_numbers_text "numbers_text" (defScope s_numbers_text) f cdv A outer s H E).calm = true := rfl
  have hu := room_u hr
  exact (ss_one (sd_ret (pd_join pd_str (PD.weak (PD.str (pd_lc (own := [("number", 1)]) hc nd (by kernel_rfl) rfl (id_seq (pd_var (i := 0) rfl (.inl rfl))) (fun s H C cl fp => (gd_name (i := 1) nd rfl (.inl rfl))) (fun s H C cl fp => cd_nil) (fun s H C cl fp => (pd_str1 (bn_any rfl B.str boot_str) (pd_var (i := 1) rfl (.inl rfl))))))))))
abbrev n_ranges_text : List Str := ["ranges", "low", "high"]
abbrev p_ranges_text : List Str := ["ranges"]
theorem sc_ranges_text : FnScope n_ranges_text p_ranges_text (defScope s_ranges_text) := ⟨rfl, rfl, rfl, by decide +kernel, rfl, by decide +kernel, by decide +kernel⟩
theorem b_ranges_text : BindsOk "ranges_text" s_ranges_text p_ranges_text := fun _ _ _ _ _ _ us hl => match us, hl with | [_], _ => rfl
def c_ranges_text_1 : DE := (eLc [1, 2] (iSeq (eVar 0)) (gT (gsCons (gN 1) (gsCons (gN 2) gsNil))) tYes (e2 dAdd (e2 dAdd (e1 dStr (eVar 1)) (eC (.str ".."))) (e1 dStr (eVar 2))))
def m_ranges_text : DS := (sRet (eS1 dJoin (eC (.str " ")) c_ranges_text_1))
def f_ranges_text : DF := mkF 3 [.val] m_ranges_text
theorem ok_ranges_text {P : Program} {w : World} {K : PySem.W.Frag} {mg : Str → Option Value} {base : Heap} (hK : K = TheK.K) (B : Bf K mg) (F : Fu K mg "ranges_text" s_ranges_text) : Kn P w K mg base .s "ranges_text" s_ranges_text n_ranges_text p_ranges_text [.val] f_ranges_text 1 := kn_of F sc_ranges_text rfl b_ranges_text (.inl ⟨rfl, rfl⟩) fun f cdv A outer s H E hr tk hp => by
  have nd : n_ranges_text.Nodup := sc_ranges_text.nd
  have hc : (cxD P w K mg base n_ranges_text "ranges_text" (defScope s_ranges_text) f cdv A outer s H E).calm = true := rfl
  have hu := room_u hr
  exact (ss_one (sd_ret (pd_join pd_str (PD.weak (PD.str (pd_lc (own := [("low", 1), ("high", 2)]) hc nd (by kernel_rfl) rfl (id_seq (pd_var (i := 0) rfl (.inl rfl))) (fun s H C cl fp => (gd_tup (n := 2) hc (gsd_cons (gd_name (i := 1) nd rfl (.inl rfl)) (gsd_cons (gd_name (i := 2) nd rfl (.inl rfl)) gsd_nil)) (gs_lenS (gs_lenS gs_len0)))) (fun s H C cl fp => cd_nil) (fun s H C cl fp => (pd_add (pd_add (pd_str1 (bn_any rfl B.str boot_str) (pd_var (i := 1) rfl (.inl rfl))) (pd_gstr rfl B.g_DOTS)) (pd_str1 (bn_any rfl B.str boot_str) (pd_var (i := 2) rfl (.inl rfl)))))))))))
abbrev n_law_of : List Str := ["_law_box_here", "_law_pool_so"]
abbrev p_law_of : List Str := ["_law_box_here", "_law_pool_so"]
theorem sc_law_of : FnScope n_law_of p_law_of (defScope s_law_of) := ⟨rfl, rfl, rfl, by decide +kernel, rfl, by decide +kernel, by decide +kernel⟩
theorem b_law_of : BindsOk "_law_of" s_law_of p_law_of := fun _ _ _ _ _ _ us hl => match us, hl with | [_, _], _ => rfl
def m_law_of : DS := (sRet (e2 dIxA (eVar 1) (eCall f_law_take [.lend 0, .e (e1 dLenA (eVar 1))])))
def f_law_of : DF := mkF 2 [.bor, .val] m_law_of
theorem ok_law_of {P : Program} {w : World} {K : PySem.W.Frag} {mg : Str → Option Value} {base : Heap} (hK : K = TheK.K) (B : Bf K mg) (F : Fu K mg "_law_of" s_law_of) (k_law_take : Kn P w K mg base .s "_law_take" s_law_take n_law_take p_law_take [.bor, .val] f_law_take 1) : Kn P w K mg base .s "_law_of" s_law_of n_law_of p_law_of [.bor, .val] f_law_of 2 := kn_of F sc_law_of rfl b_law_of (.inl ⟨rfl, rfl⟩) fun f cdv A outer s H E hr tk hp => by
  have nd : n_law_of.Nodup := sc_law_of.nd
  have hc : (cxD P w K mg base n_law_of "_law_of" (defScope s_law_of) f cdv A outer s H E).calm = true := rfl
  have hu := room_u hr
  exact (ss_one (sd_ret (pd_ixA hu (pd_var (i := 1) rfl (.inl rfl)) (pd_call (k_law_take.fn hr) tk rfl (ga_lend (i := 0) rfl (.inl rfl) (ga_val (pd_lenA (bn_any rfl B.len boot_len) (PD.weak (pd_var (i := 1) rfl (.inl rfl)))) ga_nil))))))
abbrev n_law_bent : List Str := ["_law_box_here", "_law_say_so", "_law_spot_so", "_law_way_so", "_law_sign_so"]
abbrev p_law_bent : List Str := ["_law_box_here", "_law_say_so"]
theorem sc_law_bent : FnScope n_law_bent p_law_bent (defScope s_law_bent) := ⟨rfl, rfl, rfl, by decide +kernel, rfl, by decide +kernel, by decide +kernel⟩
theorem b_law_bent : BindsOk "_law_bent" s_law_bent p_law_bent := fun _ _ _ _ _ _ us hl => match us, hl with | [_, _], _ => rfl
def m_law_bent : DS := (sSeq (sPar [(2, false), (3, false)] [.e (eCall f_law_take [.lend 0, .e (e2 dAdd (e1 dLenA (eVar 1)) (eC (.int 1)))]), .e (eCall f_law_take [.lend 0, .e (eC (.int 3))])]) (sSeq (sAsgN 4 (eIf (c2 dGt (eVar 3) (eC (.int 0))) (eCall f_law_of [.lend 0, .e (eC (.str " 0123-,.:a\n"))]) (eC (.str "")))) (sRet (e2 dAdd (e2 dAdd (eSlS (eVar 1) oNone (oSome (eVar 2))) (eVar 4)) (eSlS (eVar 1) (oSome (e2 dAdd (eVar 2) (e1 dInt (eB (c2 dLt (eVar 3) (eC (.int 2))))))) oNone)))))
def f_law_bent : DF := mkF 5 [.bor, .val] m_law_bent
theorem ok_law_bent {P : Program} {w : World} {K : PySem.W.Frag} {mg : Str → Option Value} {base : Heap} (hK : K = TheK.K) (B : Bf K mg) (F : Fu K mg "_law_bent" s_law_bent) (k_law_take : Kn P w K mg base .s "_law_take" s_law_take n_law_take p_law_take [.bor, .val] f_law_take 1) (k_law_of : Kn P w K mg base .s "_law_of" s_law_of n_law_of p_law_of [.bor, .val] f_law_of 2) : Kn P w K mg base .s "_law_bent" s_law_bent n_law_bent p_law_bent [.bor, .val] f_law_bent 3 := kn_of F sc_law_bent rfl b_law_bent (.inl ⟨rfl, rfl⟩) fun f cdv A outer s H E hr tk hp => by
  have nd : n_law_bent.Nodup := sc_law_bent.nd
  have hc : (cxD P w K mg base n_law_bent "_law_bent" (defScope s_law_bent) f cdv A outer s H E).calm = true := rfl
  have hu := room_u hr
  exact (ss_cons (sd_par2 (i := 2) (j := 3) hc nd rfl rfl (by decide) rfl rfl (ga_val (pd_call (k_law_take.fn hr) tk rfl (ga_lend (i := 0) rfl (.inl rfl) (ga_val (pd_add (pd_lenA (bn_any rfl B.len boot_len) (PD.weak (pd_var (i := 1) rfl (.inl rfl)))) pd_int) ga_nil))) (ga_val (pd_call (k_law_take.fn hr) tk rfl (ga_lend (i := 0) rfl (.inl rfl) (ga_val pd_int ga_nil))) ga_nil)) rfl rfl) (ss_cons (sd_asgN (i := 4) nd rfl (.inl rfl) (pd_if (td_cmp ck_gt (pd_var (i := 3) rfl (.inl rfl)) (PD.weak pd_int) rfl) (pd_call (k_law_of.fn hr) tk rfl (ga_lend (i := 0) rfl (.inl rfl) (ga_val pd_str ga_nil))) pd_str)) (ss_one (sd_ret (pd_add (pd_add (pd_slS (pd_var (i := 1) rfl (.inl rfl)) od_none (od_some (pd_var (i := 2) rfl (.inl rfl)))) (pd_var (i := 4) rfl (.inl rfl))) (pd_slS (pd_var (i := 1) rfl (.inl rfl)) (od_some (pd_add (pd_var (i := 2) rfl (.inl rfl)) (pd_toint (bn_any rfl B.int boot_int) (pd_cmp (ck_lt hu) (pd_var (i := 3) rfl (.inl rfl)) (PD.weak pd_int) rfl)))) od_none))))))
abbrev n_law_right : List Str := ["_law_box_here", "_law_turn", "_law_size_so", "_law_lot_so", "_law_hands_so", "_law_says_so", "_law_door_so", "_law_say_so", "_law_lap", "_law_own"]
abbrev p_law_right : List Str := ["_law_box_here"]
theorem sc_law_right : FnScope n_law_right p_law_right (defScope s_law_right) := ⟨rfl, rfl, rfl, by decide +kernel, rfl, by decide +kernel, by decide +kernel⟩
theorem b_law_right : BindsOk "_law_right" s_law_right p_law_right := fun _ _ _ _ _ _ us hl => match us, hl with | [_], _ => rfl
def c_law_right_1 : DE := (eLc [9] (iSeq (eVar 4)) (gN 9) tYes (eTup (aCons (eVar 9) (aCons (e2 dAdd (eVar 9) (eC (.int 3))) aNil))))
def c_law_right_2 : DE := (eLc [9] (iSeq (eSl (eTup (aCons (eC (.str "a")) (aCons (eC (.str "bb")) (aCons (eC (.str "c")) aNil)))) oNone (oSome (e2 dAdd (eC (.int 1)) (eCall f_law_take [.lend 0, .e (eC (.int 3))]))))) (gN 9) tYes (e2 dAdd (e2 dAdd (eVar 9) (eC (.str " "))) (eCall f_lot_text [.e (eVar 3)])))
def b_law_right_1 : DS := (sFg [8] (sSeq (sIf (tOr (tNot (tV (eIsi .str (eVar 7)))) (tNot (tV (eCall f_law_text_right [.e (eVar 6), .e (eVar 7)])))) (sRet (eC (.bl false))) sNil) (sAsgN 7 (eCall f_law_bent [.lend 0, .e (eVar 7)]))))
def l_law_right_1 : DS := (sFor (iRng1 (eC (.int 3))) (gN 8) b_law_right_1)
def b_law_right_2 : DS := (sFg [6, 7, 8] (sSeq (sAsgN 7 (e2 dIx (eVar 5) (eVar 6))) l_law_right_1))
def l_law_right_2 : DS := (sFor (iRng1 (eC (.int 4))) (gN 6) b_law_right_2)
def b_law_right_3 : DS := (sFg [1, 2, 3, 4, 5, 6, 7, 8] (sSeq (sAsgN 2 (e2 dAdd (eC (.int 1)) (eCall f_law_take [.lend 0, .e (eC (.int 5))]))) (sSeq (sAsg (eTup (aCons (eCall f_law_lot [.lend 0, .e (eVar 2), .e (eC (.int 12))]) (aCons (eCall f_law_hands [.lend 0, .e (eVar 2), .e (eC (.int 20))]) aNil))) (gT (gsCons (gN 3) (gsCons (gN 4) gsNil)))) (sSeq (sOwn 5 (eLst (aCons (eCall f_lot_text [.e (eVar 3)]) (aCons (eCall f_numbers_text [.e (eVar 4)]) (aCons (eCall f_ranges_text [.e (e1 dTuple c_law_right_1)]) aNil))))) (sSeq (sApp 5 (eS1 dJoin (eC (.str "\n")) c_law_right_2)) (sSeq (sRelL 5) l_law_right_2))))))
def l_law_right_3 : DS := (sFor (iRng1 (eC (.int 8))) (gN 1) b_law_right_3)
def m_law_right : DS := (sSeq l_law_right_3 (sRet (eC (.bl true))))
def f_law_right : DF := mkF 10 [.bor] m_law_right
theorem ok_law_right {P : Program} {w : World} {K : PySem.W.Frag} {mg : Str → Option Value} {base : Heap} (hK : K = TheK.K) (B : Bf K mg) (F : Fu K mg "_law_right" s_law_right) (k_law_take : Kn P w K mg base .s "_law_take" s_law_take n_law_take p_law_take [.bor, .val] f_law_take 1) (k_law_lot : Kn P w K mg base .s "_law_lot" s_law_lot n_law_lot p_law_lot [.bor, .val, .val] f_law_lot 2) (k_law_hands : Kn P w K mg base .s "_law_hands" s_law_hands n_law_hands p_law_hands [.bor, .val, .val] f_law_hands 2) (k_lot_text : Kn P w K mg base .s "lot_text" s_lot_text n_lot_text p_lot_text [.val] f_lot_text 1) (k_numbers_text : Kn P w K mg base .s "numbers_text" s_numbers_text n_numbers_text p_numbers_text [.val] f_numbers_text 1) (k_ranges_text : Kn P w K mg base .s "ranges_text" s_ranges_text n_ranges_text p_ranges_text [.val] f_ranges_text 1) (k_law_bent : Kn P w K mg base .s "_law_bent" s_law_bent n_law_bent p_law_bent [.bor, .val] f_law_bent 3) (k_law_text_right : Kn P w K mg base .s "_law_text_right" s_law_text_right n_law_text_right p_law_text_right [.val, .val] f_law_text_right 34) : Kn P w K mg base .s "_law_right" s_law_right n_law_right p_law_right [.bor] f_law_right 35 := kn_of F sc_law_right rfl b_law_right (.inl ⟨rfl, rfl⟩) fun f cdv A outer s H E hr tk hp => by
  have nd : n_law_right.Nodup := sc_law_right.nd
  have hc : (cxD P w K mg base n_law_right "_law_right" (defScope s_law_right) f cdv A outer s H E).calm = true := rfl
  have hu := room_u hr
  exact (ss_cons (sd_for hp hc (id_range1 (bn_any rfl B.range boot_range) pd_int) (gd_name (i := 1) nd rfl (.inl rfl)) (ss_fg (vs := [1, 2, 3, 4, 5, 6, 7, 8]) (ss_cons (sd_asgN (i := 2) nd rfl (.inl rfl) (pd_add pd_int (pd_call (k_law_take.fn hr) tk rfl (ga_lend (i := 0) rfl (.inl rfl) (ga_val pd_int ga_nil))))) (ss_cons (sd_asgT (pd_tup (ad_cons (pd_call (k_law_lot.fn hr) tk rfl (ga_lend (i := 0) rfl (.inl rfl) (ga_val (pd_var (i := 2) rfl (.inl rfl)) (ga_val pd_int ga_nil)))) (ad_cons (pd_call (k_law_hands.fn hr) tk rfl (ga_lend (i := 0) rfl (.inl rfl) (ga_val (pd_var (i := 2) rfl (.inl rfl)) (ga_val pd_int ga_nil)))) ad_nil))) (gd_tup (n := 2) hc (gsd_cons (gd_name (i := 3) nd rfl (.inr rfl)) (gsd_cons (gd_name (i := 4) nd rfl (.inl rfl)) gsd_nil)) (gs_lenS (gs_lenS gs_len0)))) (ss_cons (sd_own (i := 5) nd rfl (.inl rfl) (pd_lst (ad_cons (pd_call (k_lot_text.fn hr) tk rfl (ga_val (pd_var (i := 3) rfl (.inr (.inl rfl))) ga_nil)) (ad_cons (pd_call (k_numbers_text.fn hr) tk rfl (ga_val (pd_var (i := 4) rfl (.inl rfl)) ga_nil)) (ad_cons (pd_call (k_ranges_text.fn hr) tk rfl (ga_val (pd_tuple (bn_any rfl B.tuple boot_tuple) (PD.str (pd_lc (own := [("_law_own", 9)]) hc nd (by kernel_rfl) rfl (id_seq (pd_var (i := 4) rfl (.inl rfl))) (fun s H C cl fp => (gd_name (i := 9) nd rfl (.inl rfl))) (fun s H C cl fp => cd_nil) (fun s H C cl fp => (pd_tup (ad_cons (pd_var (i := 9) rfl (.inl rfl)) (ad_cons (pd_add (pd_var (i := 9) rfl (.inl rfl)) pd_int) ad_nil))))))) ga_nil)) ad_nil))))) (ss_cons (sd_app (i := 5) rfl (.inl rfl) (pd_join pd_str (PD.weak (PD.str (pd_lc (own := [("_law_own", 9)]) hc nd (by kernel_rfl) rfl (id_seq (pd_sl (pd_tup (ad_cons pd_str (ad_cons pd_str (ad_cons pd_str ad_nil)))) od_none (od_some (pd_add pd_int (pd_call (k_law_take.fn hr) tk rfl (ga_lend (i := 0) rfl (.inl rfl) (ga_val pd_int ga_nil))))))) (fun s H C cl fp => (gd_name (i := 9) nd rfl (.inl rfl))) (fun s H C cl fp => cd_nil) (fun s H C cl fp => (pd_add (pd_add (pd_var (i := 9) rfl (.inl rfl)) pd_str) (pd_call (k_lot_text.fn hr) tkNone rfl (ga_val (pd_var (i := 3) rfl (.inr (.inl rfl))) ga_nil))))))))) (ss_rel (i := 5) (ss_one (sd_for hp hc (id_range1 (bn_any rfl B.range boot_range) pd_int) (gd_name (i := 6) nd rfl (.inl rfl)) (ss_fg (vs := [6, 7, 8]) (ss_cons (sd_asgN (i := 7) nd rfl (.inl rfl) (pd_ix hu (pd_var (i := 5) rfl (.inl rfl)) (pd_var (i := 6) rfl (.inl rfl)))) (ss_one (sd_for hp hc (id_range1 (bn_any rfl B.range boot_range) pd_int) (gd_name (i := 8) nd rfl (.inl rfl)) (ss_fg (vs := [8]) (ss_cons (sd_if (WD.td (wd_or (td_not (td_val (pd_isi (t := .str) hK (bn_any rfl B.isinstance boot_isinstance) (bn_any rfl B.str boot_str) (pd_var (i := 7) rfl (.inl rfl))))) (wd_or1 (td_not (td_val (pd_call (k_law_text_right.fn hr) tk rfl (ga_val (pd_var (i := 6) rfl (.inl rfl)) (ga_val (pd_var (i := 7) rfl (.inl rfl)) ga_nil)))))))) (ss_one (sd_ret pd_bl)) ss_nil) (ss_one (sd_asgN (i := 7) nd rfl (.inl rfl) (pd_call (k_law_bent.fn hr) tk rfl (ga_lend (i := 0) rfl (.inl rfl) (ga_val (pd_var (i := 7) rfl (.inl rfl)) ga_nil)))))))))))))))))))) (ss_one (sd_ret pd_bl)))
abbrev n_law_box : List Str := ["_law_script", "_law_k", "_law_cell"]
abbrev p_law_box : List Str := ["_law_script", "_law_k"]
theorem sc_law_box : FnScope n_law_box p_law_box (defScope s_law_box) := ⟨rfl, rfl, rfl, by decide +kernel, rfl, by decide +kernel, by decide +kernel⟩
theorem b_law_box : BindsOk "_law_box" s_law_box p_law_box := fun _ _ _ _ _ _ us hl => match us, hl with | [_, _], _ => rfl
def m_law_box : DS := (sSeq (sAsgN 2 (eIf (c2 dLt (eVar 1) (e1 dLen (eVar 0))) (e2 dIx (eVar 0) (eVar 1)) (eC (.int 0)))) (sRet (eLst (aCons (e2 dMul (e1 dAbs (eVar 2)) (e1 dInt (eB (c2 dGe (e1 dAbs (eVar 2)) (e2 dPow (eC (.int 10)) (eC (.int 18))))))) (aCons (e2 dAdd (e2 dAdd (e2 dMod (e1 dInt (eVar 2)) (eC (.int 2305843009213693951))) (e2 dMul (eC (.int 39373)) (eVar 1))) (eC (.int 57515))) (aCons (eC (.int 0)) aNil))))))
def f_law_box : DF := mkR 3 [.val, .val] m_law_box
theorem ok_law_box {P : Program} {w : World} {K : PySem.W.Frag} {mg : Str → Option Value} {base : Heap} (hK : K = TheK.K) (B : Bf K mg) (F : Fu K mg "_law_box" s_law_box) : Kn P w K mg base .f "_law_box" s_law_box n_law_box p_law_box [.val, .val] f_law_box 1 := kn_of F sc_law_box rfl b_law_box (.inr rfl) fun f cdv A outer s H E hr tk hp => by
  have nd : n_law_box.Nodup := sc_law_box.nd
  have hc : (cxD P w K mg base n_law_box "_law_box" (defScope s_law_box) f cdv A outer s H E).calm = true := rfl
  have hu := room_u hr
  exact (ss_cons (sd_asgN (i := 2) nd rfl (.inl rfl) (pd_if (td_cmp (ck_lt hu) (pd_var (i := 1) rfl (.inl rfl)) (PD.weak (pd_len (bn_any rfl B.len boot_len) (PD.weak (pd_var (i := 0) rfl (.inl rfl))))) rfl) (pd_ix hu (pd_var (i := 0) rfl (.inl rfl)) (pd_var (i := 1) rfl (.inl rfl))) pd_int)) (ss_one (sd_retF (pd_lst (ad_cons (pd_mul (pd_abs (bn_any rfl B.abs boot_abs) (pd_var (i := 2) rfl (.inl rfl))) (pd_toint (bn_any rfl B.int boot_int) (pd_cmp ck_ge (pd_abs (bn_any rfl B.abs boot_abs) (pd_var (i := 2) rfl (.inl rfl))) (PD.weak (pd_pow pd_int pd_int)) rfl))) (ad_cons (pd_add (pd_add (pd_mod (pd_toint (bn_any rfl B.int boot_int) (pd_var (i := 2) rfl (.inl rfl))) pd_int) (pd_mul pd_int (pd_var (i := 1) rfl (.inl rfl)))) pd_int) (ad_cons pd_int ad_nil)))))))
abbrev n_law : List Str := ["_law_script", "_law_cells_so", "_law_k"]
abbrev p_law : List Str := ["_law_script"]
theorem sc_law : FnScope n_law p_law (defScope s_law) := ⟨rfl, rfl, rfl, by decide +kernel, rfl, by decide +kernel, by decide +kernel⟩
theorem b_law : BindsOk "law" s_law p_law := fun _ _ _ _ _ _ us hl => match us, hl with | [_], _ => rfl
def c_law_1 : DE := (eLc [2] (iRng1 (e1 dLen (eVar 1))) (gN 2) tYes (eCall f_law_right [.new (eCall f_law_box [.e (eVar 1), .e (eVar 2)])]))
def m_law : DS := (sSeq (sIf (tNot (tV (eCall f_law_by_hand_right []))) (sRet (eC (.bl false))) sNil) (sSeq (sAsgN 1 (eCall f_law_cells [.look 0, .e (eC (.int 3))])) (sRet (e1 dAll c_law_1))))
def f_law : DF := mkF 3 [.ro] m_law
theorem ok_law {P : Program} {w : World} {K : PySem.W.Frag} {mg : Str → Option Value} {base : Heap} (hK : K = TheK.K) (B : Bf K mg) (F : Fu K mg "law" s_law) (k_law_cells : Kn P w K mg base .s "_law_cells" s_law_cells n_law_cells p_law_cells [.ro, .val] f_law_cells 1) (k_law_by_hand_right : Kn P w K mg base .s "_law_by_hand_right" s_law_by_hand_right n_law_by_hand_right p_law_by_hand_right [] f_law_by_hand_right 35) (k_law_right : Kn P w K mg base .s "_law_right" s_law_right n_law_right p_law_right [.bor] f_law_right 35) (k_law_box : Kn P w K mg base .f "_law_box" s_law_box n_law_box p_law_box [.val, .val] f_law_box 1) : Kn P w K mg base .s "law" s_law n_law p_law [.ro] f_law 36 := kn_of F sc_law rfl b_law (.inl ⟨rfl, rfl⟩) fun f cdv A outer s H E hr tk hp => by
  have nd : n_law.Nodup := sc_law.nd
  have hc : (cxD P w K mg base n_law "law" (defScope s_law) f cdv A outer s H E).calm = true := rfl
  have hu := room_u hr
  exact (ss_cons (sd_if (td_not (td_val (pd_call0 (k_law_by_hand_right.fn hr) tk rfl))) (ss_one (sd_ret pd_bl)) ss_nil) (ss_cons (sd_asgN (i := 1) nd rfl (.inr rfl) (pd_call (k_law_cells.fn hr) tk rfl (ga_look (i := 0) rfl (.inl rfl) (ga_val pd_int ga_nil)))) (ss_one (sd_ret (pd_all hc (bn_any rfl B.all boot_all) (PD.weak (PD.str (pd_lc (own := [("_law_k", 2)]) hc nd (by kernel_rfl) rfl (id_range1 (bn_any rfl B.range boot_range) (pd_len (bn_any rfl B.len boot_len) (PD.weak (pd_var (i := 1) rfl (.inr (.inl rfl)))))) (fun s H C cl fp => (gd_name (i := 2) nd rfl (.inl rfl))) (fun s H C cl fp => cd_nil) (fun s H C cl fp => (pd_call (k_law_right.fn hr) tkNone rfl (ga_new (pd_call (k_law_box.fn hr) tkNone rfl (ga_val (pd_var (i := 1) rfl (.inr (.inl rfl))) (ga_val (pd_var (i := 2) rfl (.inl rfl)) ga_nil))) ga_nil)))))))))))
end LW
namespace AH
open PySem L2
variable [TheK]
/-! ### what a run comes to, exceptions too -/
@[irreducible] def Wn {α : Type} (m : M α) (e : Env) (Q : α → Env → Prop) (E : Str → List D → Env → Prop) : Prop := match m e with
  | .ok a e1 => Q a e1
  | .ex c fs e1 => E c fs e1
  | .bad => False
@[irreducible] def WF (r : Rf) (Q : D → List (List D) → Prop) (E : Str → List D → List (List D) → Prop) : Prop := match r with
  | .ok d bs => Q d bs
  | .ex c fs bs => E c fs bs
  | .bad => False
def WR {α : Type} (r : Rv α) (Q : α → Prop) : Prop := match r with
  | .ok a => Q a
  | .bad => False
abbrev NoE : Str → List D → Env → Prop := fun _ _ _ => False
abbrev NoF : Str → List D → List (List D) → Prop := fun _ _ _ => False
section
variable {α β : Type} {e : Env} {i j : Nat} {a b c d : DE} {t u : DT} {x y z : D} {xs ys : List D} {m n : DS} {g : DG} {E : Str → List D → Env → Prop}
theorem Wn.imp {m : M α} {Q Q' : α → Env → Prop} {E' : Str → List D → Env → Prop} (h : Wn m e Q E) (q : ∀ a e1, Q a e1 → Q' a e1) (x : ∀ c fs e1, E c fs e1 → E' c fs e1 := by intro _ _ _ h; exact h) : Wn m e Q' E' := by
  unfold Wn at h ⊢
  split at h <;> rename_i q1
  · exact q _ _ h
  · exact x _ _ _ h
  · exact h
theorem WF.imp {r : Rf} {Q Q' : D → List (List D) → Prop} {E E' : Str → List D → List (List D) → Prop} (h : WF r Q E) (q : ∀ a e1, Q a e1 → Q' a e1) (x : ∀ c fs e1, E c fs e1 → E' c fs e1 := by intro _ _ _ h; exact h) : WF r Q' E' := by
  unfold WF at h ⊢
  cases r with
  | ok d bs => exact q _ _ h
  | ex c fs bs => exact x _ _ _ h
  | bad => exact h
theorem wn_eq {m : M α} {v : α} {e1 : Env} {Q : α → Env → Prop} (h : m e = .ok v e1) : Wn m e Q E = Q v e1 := by unfold Wn; rw [h]
theorem wn_ex {m : M α} {c : Str} {fs : List D} {e1 : Env} {Q : α → Env → Prop} (h : m e = .ex c fs e1) : Wn m e Q E = E c fs e1 := by unfold Wn; rw [h]
theorem Wn.eq {m : M α} {v : α} {e1 : Env} (h : Wn m e (fun a e2 => a = v ∧ e2 = e1) NoE) : m e = .ok v e1 := by
  unfold Wn at h
  cases q : m e with
  | ok a e2 => rw [q] at h; obtain ⟨rfl, rfl⟩ := h; rfl
  | ex _ _ _ => rw [q] at h; exact h.elim
  | bad => rw [q] at h; exact h.elim
theorem WF.eq {r : Rf} {v : D} {bs : List (List D)} (h : WF r (fun a b => a = v ∧ b = bs) NoF) : r = .ok v bs := by
  unfold WF at h
  cases r with
  | ok a b => obtain ⟨rfl, rfl⟩ := h; rfl
  | ex _ _ _ => exact h.elim
  | bad => exact h.elim
theorem WF.ex_eq {r : Rf} {c : Str} {fs : List D} {bs : List (List D)} (h : WF r (fun _ _ => False) (fun c' fs' bs' => c' = c ∧ fs' = fs ∧ bs' = bs)) : r = .ex c fs bs := by
  unfold WF at h
  cases r with
  | ok a b => exact h.elim
  | ex _ _ _ => obtain ⟨rfl, rfl, rfl⟩ := h; rfl
  | bad => exact h.elim
theorem WF.run {r : Rf} {Q : D → List (List D) → Prop} (h : WF r Q NoF) : ∃ d bs, r = .ok d bs ∧ Q d bs := by
  unfold WF at h
  cases r with
  | ok d bs => exact ⟨d, bs, rfl, h⟩
  | ex _ _ _ => exact h.elim
  | bad => exact h.elim
@[simp] theorem wf_ok {d : D} {bs : List (List D)} {Q : D → List (List D) → Prop} {E : Str → List D → List (List D) → Prop} : WF (.ok d bs) Q E = Q d bs := by unfold WF; rfl
@[simp] theorem wf_ex {c : Str} {fs : List D} {bs : List (List D)} {Q : D → List (List D) → Prop} {E : Str → List D → List (List D) → Prop} : WF (.ex c fs bs) Q E = E c fs bs := by unfold WF; rfl
@[simp] theorem wf_bad {Q : D → List (List D) → Prop} {E : Str → List D → List (List D) → Prop} : WF .bad Q E = False := by unfold WF; rfl
@[simp] theorem wr_ok {v : α} {Q : α → Prop} : WR (.ok v) Q = Q v := nr rfl
@[simp] theorem wr_bad {Q : α → Prop} : WR (.bad : Rv α) Q = False := nr rfl
@[simp] theorem wr_ite {k : Prop} [Decidable k] {r s : Rv α} {Q : α → Prop} : WR (if k then r else s) Q = if k then WR r Q else WR s Q := by split <;> rfl
@[simp] theorem wn_bind {m : M α} {f : α → M β} {Q : β → Env → Prop} : Wn (M.bind m f) e Q E = Wn m e (fun a e1 => Wn (f a) e1 Q E) E := by
  unfold Wn M.bind
  cases m e <;> rfl
@[simp] theorem wn_pure {v : α} {Q : α → Env → Prop} : Wn (M.pure v) e Q E = Q v e := by unfold Wn; rfl
@[simp] theorem wn_of {r : Rv α} {Q : α → Env → Prop} : Wn (M.of r) e Q E = WR r fun v => Q v e := by unfold Wn; cases r <;> rfl
@[simp] theorem wn_bad {Q : α → Env → Prop} : Wn (fun _ => .bad : M α) e Q E = False := by unfold Wn; rfl
@[simp] theorem wn_ite {k : Prop} [Decidable k] {p q : M α} {Q : α → Env → Prop} : Wn (if k then p else q) e Q E = if k then Wn p e Q E else Wn q e Q E := by split <;> rfl
def WS (s : Sl) (Q : D → Prop) : Prop := match s with
  | .val d => Q d
  | _ => False
@[simp] theorem ws_val {Q : D → Prop} : WS (.val x) Q = Q x := nr rfl
def WT (s : Sl) (Q : D → Prop) : Prop := match s with
  | .val d => Q d
  | .ro d => Q d
  | .own xs => Q (.lst xs)
  | .bor xs => Q (.lst xs)
  | .odc kvs => Q (.dic kvs)
  | .ldc kvs => Q (.dic kvs)
  | .no => False
@[simp] theorem wt_val {Q : D → Prop} : WT (.val x) Q = Q x := nr rfl
@[simp] theorem wt_ro {Q : D → Prop} : WT (.ro x) Q = Q x := nr rfl
@[simp] theorem wt_own {Q : D → Prop} : WT (.own xs) Q = Q (.lst xs) := nr rfl
@[simp] theorem wt_bor {Q : D → Prop} : WT (.bor xs) Q = Q (.lst xs) := nr rfl
@[simp] theorem wt_odc {k : List (List Key × D)} {Q : D → Prop} : WT (.odc k) Q = Q (.dic k) := nr rfl
@[simp] theorem wn_var {Q : D → Env → Prop} : Wn (eVar i) e Q E = WS (sl e i) fun v => Q v e := by
  unfold Wn eVar WS
  cases sl e i <;> rfl
@[simp] theorem wn_tmp {Q : D → Env → Prop} : Wn (eTmp i) e Q E = WT (sl e i) fun v => Q v e := by
  unfold Wn eTmp WT
  cases sl e i <;> rfl
@[simp] theorem wn_c {Q : D → Env → Prop} : Wn (eC x) e Q E = Q x e := by unfold Wn; rfl
@[simp] theorem wn_e2 {f : D → D → Rv D} {Q : D → Env → Prop} : Wn (e2 f a b) e Q E = Wn a e (fun x e1 => Wn b e1 (fun y e2 => WR (f x y) fun z => Q z e2) E) E := by simp only [e2, wn_bind, wn_of]
@[simp] theorem wn_e1 {f : D → Rv D} {Q : D → Env → Prop} : Wn (e1 f a) e Q E = Wn a e (fun x e1 => WR (f x) fun z => Q z e1) E := by simp only [e1, wn_bind, wn_of]
@[simp] theorem wn_e2L {f : D → D → Rv D} {Q : D → Env → Prop} : Wn (e2L f i b) e Q E = WT (sl e i) fun _ => Wn b e (fun y e2 => WT (sl e2 i) fun x => WR (f x y) fun z => Q z e2) E := by simp only [e2L, wn_bind, wn_of, wn_tmp]
@[simp] theorem wn_c2 {f : D → D → Rv Bool} {Q : Bool → Env → Prop} : Wn (c2 f a b) e Q E = Wn a e (fun x e1 => Wn b e1 (fun y e2 => WR (f x y) fun z => Q z e2) E) E := by simp only [c2, wn_bind, wn_of]
@[simp] theorem wn_c2L {f : D → D → Rv Bool} {Q : Bool → Env → Prop} : Wn (c2L f i b) e Q E = WT (sl e i) fun _ => Wn b e (fun y e2 => WT (sl e2 i) fun x => WR (f x y) fun z => Q z e2) E := by simp only [c2L, wn_bind, wn_of, wn_tmp]
@[simp] theorem wn_eB {Q : D → Env → Prop} : Wn (eB t) e Q E = Wn t e (fun k e1 => Q (.bl k) e1) E := by simp only [eB, wn_bind, wn_pure]
def WB (d : D) (Q : Bool → Prop) : Prop := match d with
  | .bl k => Q k
  | _ => False
@[simp] theorem wb_bl {k : Bool} {Q : Bool → Prop} : WB (.bl k) Q = Q k := nr rfl
@[simp] theorem wn_tV {Q : Bool → Env → Prop} : Wn (tV a) e Q E = Wn a e (fun x e1 => WB x fun k => Q k e1) E := by
  simp only [tV, wn_bind]
  congr 1
  funext x e1
  unfold Wn; cases x <;> rfl
@[simp] theorem wn_tNot {Q : Bool → Env → Prop} : Wn (tNot t) e Q E = Wn t e (fun k e1 => Q (!k) e1) E := by simp only [tNot, wn_bind, wn_pure]
@[simp] theorem wn_tAnd {Q : Bool → Env → Prop} : Wn (AH.tAnd t u) e Q E = Wn t e (fun k e1 => if k = true then Wn u e1 Q E else Q false e1) E := by simp only [AH.tAnd, wn_bind, wn_ite, wn_pure]
@[simp] theorem wn_tOr {Q : Bool → Env → Prop} : Wn (AH.tOr t u) e Q E = Wn t e (fun k e1 => if k = true then Q true e1 else Wn u e1 Q E) E := by simp only [AH.tOr, wn_bind, wn_ite, wn_pure]
@[simp] theorem wn_tIsN {Q : Bool → Env → Prop} : Wn (tIsN a) e Q E = Wn a e (fun x e1 => Q (dIsN x) e1) E := by simp only [tIsN, wn_bind, wn_pure]
@[simp] theorem wn_tNotN {Q : Bool → Env → Prop} : Wn (tNotN a) e Q E = Wn a e (fun x e1 => Q (!dIsN x) e1) E := by simp only [tNotN, wn_bind, wn_pure]
@[simp] theorem wn_c3 {f g : D → D → Rv Bool} {Q : Bool → Env → Prop} : Wn (c3 f g a b c) e Q E = Wn a e (fun x e1 => Wn b e1 (fun y e2 => WR (f x y) fun k => if k = true then Wn c e2 (fun z e3 => WR (g y z) fun l => Q l e3) E else Q false e2) E) E := by simp only [c3, wn_bind, wn_ite, wn_pure, wn_of]
@[simp] theorem wn_c4 {f g h : D → D → Rv Bool} {Q : Bool → Env → Prop} : Wn (c4 f g h a b c d) e Q E = Wn a e (fun x e1 => Wn b e1 (fun y e2 => WR (f x y) fun k => if k = true then Wn c e2 (fun z e3 => WR (g y z) fun l => if l = true then Wn d e3 (fun u e4 => WR (h z u) fun o => Q o e4) E else Q false e3) E else Q false e2) E) E := by simp only [c4, wn_bind, wn_ite, wn_pure, wn_of]
@[simp] theorem wn_eIf {Q : D → Env → Prop} : Wn (eIf t a b) e Q E = Wn t e (fun k e1 => if k = true then Wn a e1 Q E else Wn b e1 Q E) E := by simp only [eIf, wn_bind, wn_ite]
@[simp] theorem wn_eAnd {Q : D → Env → Prop} : Wn (eAnd a b) e Q E = Wn a e (fun x e1 => WB x fun k => if k = true then Wn b e1 Q E else Q (.bl false) e1) E := by simp only [eAnd, wn_bind, wn_ite, wn_pure, wn_tV]
@[simp] theorem wn_eNot {Q : D → Env → Prop} : Wn (eNot a) e Q E = Wn a e (fun x e1 => WB x fun k => Q (.bl (!k)) e1) E := by simp only [eNot, wn_bind, wn_pure, wn_tV]
@[simp] theorem wn_eOrT {Q : D → Env → Prop} : Wn (eOrT a b) e Q E = Wn a e (fun x e1 => WR (truth x) fun k => if k = true then Q x e1 else Wn b e1 Q E) E := by simp only [eOrT, wn_bind, wn_ite, wn_pure, wn_of]
@[simp] theorem wn_aNil {Q : List D → Env → Prop} : Wn aNil e Q E = Q [] e := by unfold Wn; rfl
@[simp] theorem wn_aCons {r : DL} {Q : List D → Env → Prop} : Wn (aCons a r) e Q E = Wn a e (fun x e1 => Wn r e1 (fun xs e2 => Q (x :: xs) e2) E) E := by simp only [aCons, wn_bind, wn_pure]
@[simp] theorem wn_eTup {r : DL} {Q : D → Env → Prop} : Wn (eTup r) e Q E = Wn r e (fun xs e1 => lenOk xs.length = true ∧ Q (.tup xs) e1) E := by
  simp only [eTup, wn_bind, wn_ite, wn_pure, wn_bad]
  congr 1; funext xs e1; split <;> simp [*]
@[simp] theorem wn_eLst {r : DL} {Q : D → Env → Prop} : Wn (eLst r) e Q E = Wn r e (fun xs e1 => lenOk xs.length = true ∧ Q (.lst xs) e1) E := by
  simp only [eLst, wn_bind, wn_ite, wn_pure, wn_bad]
  congr 1; funext xs e1; split <;> simp [*]
@[simp] theorem wn_oNone {Q : Option Int → Env → Prop} : Wn oNone e Q E = Q none e := by unfold Wn; rfl
def WI (d : D) (Q : Int → Prop) : Prop := match d with
  | .int k => Q k
  | _ => False
@[simp] theorem wi_int {k : Int} {Q : Int → Prop} : WI (.int k) Q = Q k := nr rfl
@[simp] theorem wn_oSome {Q : Option Int → Env → Prop} : Wn (oSome a) e Q E = Wn a e (fun x e1 => WI x fun k => Q (some k) e1) E := by
  simp only [oSome, wn_bind]
  congr 1
  funext x e1
  unfold Wn; cases x <;> rfl
@[simp] theorem wn_eSl {lo hi : DO} {Q : D → Env → Prop} : Wn (eSl a lo hi) e Q E = Wn a e (fun x e1 => Wn lo e1 (fun l e2 => Wn hi e2 (fun h e3 => WR (dSl x l h) fun z => Q z e3) E) E) E := by simp only [eSl, wn_bind, wn_of]
@[simp] theorem wn_eSlN {lo hi : DO} {Q : D → Env → Prop} : Wn (eSlN i lo hi) e Q E = WT (sl e i) fun _ => Wn lo e (fun l e2 => Wn hi e2 (fun h e3 => WT (sl e3 i) fun x => WR (dSlL x l h) fun z => Q z e3) E) E := by simp only [eSlN, wn_bind, wn_of, wn_tmp]
@[simp] theorem wn_isi {t : Ty} {Q : D → Env → Prop} : Wn (eIsi t a) e Q E = Wn a e (fun x e1 => isExc x = false ∧ Q (.bl (isi t x)) e1) E := by
  simp only [eIsi, wn_bind, wn_ite, wn_pure, wn_bad]
  congr 1; funext x e1; cases isExc x <;> simp
@[simp] theorem wn_isi2 {t u : Ty} {Q : D → Env → Prop} : Wn (eIsi2 t u a) e Q E = Wn a e (fun x e1 => isPy x = true ∧ Q (.bl (isi t x || isi u x)) e1) E := by
  simp only [eIsi2, wn_bind, wn_ite, wn_pure, wn_bad]
  congr 1; funext x e1; cases isPy x <;> simp
def WL (d : D) (Q : List D → Prop) : Prop := match d with
  | .lst xs => Q xs
  | .tup xs => Q xs
  | _ => False
@[simp] theorem wl_lst {Q : List D → Prop} : WL (.lst xs) Q = Q xs := nr rfl
@[simp] theorem wl_tup {Q : List D → Prop} : WL (.tup xs) Q = Q xs := nr rfl
@[simp] theorem wn_iSeq {Q : List D → Env → Prop} : Wn (iSeq a) e Q E = Wn a e (fun x e1 => WL x fun xs => Q xs e1) E := by
  simp only [iSeq, wn_bind]
  congr 1
  funext x e1
  unfold Wn; cases x <;> rfl
@[simp] theorem wn_iRng1 {Q : List D → Env → Prop} : Wn (AH.iRng1 a) e Q E = Wn a e (fun x e1 => WI x fun k => rngOk 0 k = true ∧ Q (rng 0 k) e1) E := by
  simp only [AH.iRng1, wn_bind]
  congr 1
  funext x e1
  cases x with
  | int k => simp only [wn_ite, wn_pure, wn_bad, wi_int]; cases rngOk 0 k <;> simp
  | _ => unfold Wn; rfl
@[simp] theorem wn_iRng2 {Q : List D → Env → Prop} : Wn (AH.iRng2 a b) e Q E = Wn a e (fun x e1 => Wn b e1 (fun y e2 => WI x fun k => WI y fun l => rngOk k l = true ∧ Q (rng k l) e2) E) E := by
  simp only [AH.iRng2, wn_bind]
  congr 1
  funext x e1
  congr 1
  funext y e2
  cases x with
  | int k => cases y with
    | int l => simp only [wn_ite, wn_pure, wn_bad, wi_int]; cases rngOk k l <;> simp
    | _ => unfold Wn; rfl
  | _ => unfold Wn; rfl
@[simp] theorem seqD_lst : seqD (.lst xs) = some xs := nr rfl
@[simp] theorem seqD_tup : seqD (.tup xs) = some xs := nr rfl
def WZ2 (x y : D) (Q : List D → Prop) : Prop := match seqD x, seqD y with
  | some xs, some ys => Q (pairs xs ys)
  | _, _ => False
@[simp] theorem wz2_ok {Q : List D → Prop} (h1 : seqD x = some xs) (h2 : seqD y = some ys) : WZ2 x y Q = Q (pairs xs ys) := by unfold WZ2; rw [h1, h2]
@[simp] theorem wn_iZip2 {Q : List D → Env → Prop} : Wn (iZip2 a b) e Q E = Wn a e (fun x e1 => Wn b e1 (fun y e2 => WZ2 x y fun zs => Q zs e2) E) E := by
  simp only [iZip2, wn_bind]
  congr 1
  funext x e1
  congr 1
  funext y e2
  unfold WZ2
  cases seqD x <;> cases seqD y <;> (unfold Wn; rfl)
def enumL (xs : List D) : List D := (rng 0 xs.length).zip xs |>.map fun p => D.tup [p.1, p.2]
def WM (d : D) (Q : List D → Prop) : Prop := match d with
  | .lst xs => Q xs
  | _ => False
@[simp] theorem wm_lst {Q : List D → Prop} : WM (.lst xs) Q = Q xs := nr rfl
@[simp] theorem wn_iEnum {Q : List D → Env → Prop} : Wn (iEnumL a) e Q E = Wn a e (fun x e1 => WM x fun xs => Q (enumL xs) e1) E := by
  simp only [iEnumL, wn_bind]
  congr 1
  funext x e1
  cases x <;> (unfold Wn; rfl)
@[simp] theorem wn_iEnumK {Q : List D → Env → Prop} : Wn (iEnumK a) e Q E = Wn a e (fun x e1 => WL x fun xs => Q (enumL xs) e1) E := by
  simp only [iEnumK, wn_bind]
  congr 1
  funext x e1
  cases x <;> (unfold Wn; rfl)
@[simp] theorem wn_gN {Q : Unit → Env → Prop} : Wn (gN i x) e Q E = (isOwn (sl e i) = false ∧ Q () (put e i (.val x))) := by
  unfold Wn gN
  cases isOwn (sl e i) <;> simp
@[simp] theorem wn_gsNil {Q : Unit → Env → Prop} : Wn (gsNil []) e Q E = Q () e := by unfold Wn; rfl
@[simp] theorem wn_gsCons {r : DGs} {Q : Unit → Env → Prop} : Wn (gsCons g r (x :: xs)) e Q E = Wn (g x) e (fun _ e1 => Wn (r xs) e1 Q E) E := by simp only [gsCons, wn_bind]
@[simp] theorem wn_gT {r : DGs} {Q : Unit → Env → Prop} : Wn (gT r x) e Q E = WL x fun xs => Wn (r xs) e Q E := by cases x <;> (unfold Wn; rfl)
/-! ### statements -/
@[simp] theorem wn_sNil {Q : Out → Env → Prop} : Wn sNil e Q E = Q .nx e := by unfold Wn; rfl
def WO (o : Out) (P : Prop) (Q : Out → Prop) : Prop := match o with
  | .nx => P
  | o => Q o
@[simp] theorem wo_nx {P : Prop} {Q : Out → Prop} : WO .nx P Q = P := nr rfl
@[simp] theorem wo_rt {P : Prop} {Q : Out → Prop} : WO (.rt x) P Q = Q (.rt x) := nr rfl
@[simp] theorem wo_bk {P : Prop} {Q : Out → Prop} : WO .bk P Q = Q .bk := nr rfl
@[simp] theorem wo_ct {P : Prop} {Q : Out → Prop} : WO .ct P Q = Q .ct := nr rfl
theorem wn_seq {Q : Out → Env → Prop} : Wn (sSeq m n) e Q E = Wn m e (fun o e1 => WO o (Wn n e1 Q E) fun o => Q o e1) E := by
  simp only [sSeq, wn_bind]
  congr 1
  funext o e1
  cases o <;> (unfold Wn; rfl)
@[simp] theorem wn_sAsg {Q : Out → Env → Prop} : Wn (sAsg a g) e Q E = Wn a e (fun x e1 => Wn (g x) e1 (fun _ e2 => Q .nx e2) E) E := by simp only [sAsg, wn_bind, wn_pure]
@[simp] theorem wn_sAsgN {Q : Out → Env → Prop} : Wn (sAsgN i a) e Q E = Wn a e (fun x e1 => isFix (sl e1 i) = false ∧ Q .nx (put e1 i (.val x))) E := by
  simp only [sAsgN, wn_bind]
  congr 1
  funext x e1
  unfold Wn
  dsimp only
  cases isFix (sl e1 i) <;> simp
@[simp] theorem wn_sOwn {Q : Out → Env → Prop} : Wn (sOwn i a) e Q E = Wn a e (fun x e1 => WM x fun xs => isFix (sl e1 i) = false ∧ i < e1.length ∧ Q .nx (put e1 i (.own xs))) E := by
  simp only [sOwn, wn_bind]
  congr 1
  funext x e1
  cases x with
  | lst xs =>
    unfold Wn
    simp only [wm_lst]
    cases isFix (sl e1 i) <;> by_cases h : i < e1.length <;> simp [h]
  | _ => (unfold Wn; rfl)
@[simp] theorem wn_sRelL {Q : Out → Env → Prop} : Wn (sRelL i) e Q E = (match sl e i with | .own xs => Q .nx (put e i (.val (.lst xs))) | _ => False) := by
  unfold Wn sRelL
  cases sl e i <;> rfl
@[simp] theorem wn_sIf {Q : Out → Env → Prop} : Wn (sIf t m n) e Q E = Wn t e (fun k e1 => if k = true then Wn m e1 Q E else Wn n e1 Q E) E := by simp only [sIf, wn_bind, wn_ite]
@[simp] theorem wn_sRet {Q : Out → Env → Prop} : Wn (sRet a) e Q E = Wn a e (fun x e1 => Q (.rt x) e1) E := by simp only [sRet, wn_bind, wn_pure]
@[simp] theorem wn_sRaise {c : Str} {Q : Out → Env → Prop} : Wn (sRaise c) e Q E = E c [] e := by unfold Wn; rfl
@[simp] theorem wn_sRaiseA {c : Str} {n : Nat} {r : DL} {Q : Out → Env → Prop} : Wn (sRaiseA c n r) e Q E = Wn r e (fun xs e1 => xs.length = n ∧ E c xs e1) E := by
  simp only [sRaiseA, wn_bind]
  congr 1; funext xs e1
  by_cases h : xs.length = n <;> (unfold Wn; simp [h])
def WQ (s : Sl) (Q : List D → Prop) : Prop := match s with
  | .own xs => Q xs
  | .bor xs => Q xs
  | _ => False
@[simp] theorem wq_own {Q : List D → Prop} : WQ (.own xs) Q = Q xs := nr rfl
@[simp] theorem wq_bor {Q : List D → Prop} : WQ (.bor xs) Q = Q xs := nr rfl
@[simp] theorem wn_ownL {Q : List D → Env → Prop} : Wn (ownL i) e Q E = WQ (sl e i) fun xs => Q xs e := by
  unfold Wn ownL
  cases sl e i <;> rfl
@[simp] theorem putL_own : putL (.own xs :: e) 0 ys = .own ys :: e := nr rfl
@[simp] theorem putL_bor : putL (.bor xs :: e) 0 ys = .bor ys :: e := nr rfl
@[simp] theorem putL_S {s : Sl} : putL (s :: e) (i + 1) ys = s :: putL e i ys := by simp [putL]
@[simp] theorem wn_sApp {Q : Out → Env → Prop} : Wn (sApp i a) e Q E = WQ (sl e i) fun _ => Wn a e (fun x e1 => WQ (sl e1 i) fun xs => lenOk (xs.length + 1) = true ∧ Q .nx (putL e1 i (xs ++ [x]))) E := by
  simp only [sApp, wn_bind, wn_ownL]
  congr 1
  funext _
  congr 1
  funext x e1
  congr 1
  funext xs
  unfold Wn
  cases lenOk (xs.length + 1) <;> simp
def WX1 (r : Option Nat) (Q : Nat → Prop) : Prop := match r with
  | some n => Q n
  | none => False
@[simp] theorem wx1_some {n : Nat} {Q : Nat → Prop} : WX1 (some n) Q = Q n := nr rfl
@[simp] theorem wn_sSetL {Q : Out → Env → Prop} : Wn (sSetL i a b) e Q E = Wn b e (fun x e1 => WQ (sl e1 i) fun _ => Wn a e1 (fun k e2 => WQ (sl e2 i) fun xs => WI k fun k => WX1 (ixN xs.length k) fun n => Q .nx (putL e2 i (xs.set n x))) E) E := by
  simp only [sSetL, wn_bind, wn_ownL]
  congr 1
  funext x e1
  congr 1
  funext _
  congr 1
  funext k e2
  congr 1
  funext xs
  cases k with
  | int k =>
    simp only [wi_int]
    cases ixN xs.length k <;> (unfold Wn; rfl)
  | _ => (unfold Wn; rfl)
@[simp] theorem wn_sFor {it : DI} {Q : Out → Env → Prop} : Wn (sFor it g m) e Q E = Wn it e (fun xs e1 => Wn (loop g m xs) e1 Q E) E := by simp only [sFor, wn_bind]
def fgO (vs : List Nat) (o : Out) (e : Env) : Env := match o with
  | .rt _ => e
  | _ => fgt e vs
@[simp] theorem fgO_nx {vs : List Nat} : fgO vs .nx e = fgt e vs := nr rfl
@[simp] theorem fgO_ct {vs : List Nat} : fgO vs .ct e = fgt e vs := nr rfl
@[simp] theorem fgO_bk {vs : List Nat} : fgO vs .bk e = fgt e vs := nr rfl
@[simp] theorem fgO_rt {vs : List Nat} : fgO vs (.rt x) e = e := nr rfl
theorem wn_sFg {vs : List Nat} {Q : Out → Env → Prop} : Wn (sFg vs m) e Q E = Wn m e (fun o e1 => Q o (fgO vs o e1)) E := by
  simp only [sFg, wn_bind]
  congr 1
  funext o e1
  cases o <;> (unfold Wn; rfl)
@[simp] theorem fgt_nil : fgt e [] = e := nr rfl
@[simp] theorem fgt_cons {vs : List Nat} : fgt e (i :: vs) = fgt (fgt1 e i) vs := nr rfl
@[simp] theorem fgt1_S {s : Sl} : fgt1 (s :: e) (i + 1) = s :: fgt1 e i := by
  by_cases h : isFix (sl e i) = true <;> simp [fgt1, h]
@[simp] theorem fgt1_0v : fgt1 (.val x :: e) 0 = .no :: e := nr rfl
@[simp] theorem fgt1_0n : fgt1 (.no :: e) 0 = .no :: e := nr rfl
@[simp] theorem fgt1_0o : fgt1 (.own xs :: e) 0 = .no :: e := nr rfl
@[simp] theorem fgt1_0b : fgt1 (.bor xs :: e) 0 = .bor xs :: e := nr rfl
/-! ### calls -/
theorem wn_call {f : DF} {as : List Arg} {Q : D → Env → Prop} : Wn (eCall f as) e Q E = Wn (argsV as) e (fun vs e1 => (lends as).all (fun i => isL (sl e1 i)) = true ∧ match argsD e1 vs with
    | some ds => WF (f ds) (fun d bs => match giveBack as bs e1 with | some e2 => Q d e2 | none => False) (fun c fs bs => match giveBack as bs e1 with | some e2 => E c fs e2 | none => False)
    | none => False) E := by
  unfold eCall Wn
  dsimp only
  cases argsV as e with
  | ok vs e1 =>
    simp only
    cases (lends as).all fun i => isL (sl e1 i) with
    | false => simp
    | true =>
      simp only [Bool.not_true, Bool.false_eq_true, if_false, true_and]
      cases argsD e1 vs with
      | none => simp
      | some ds =>
        simp only
        cases f ds with
        | ok d bs => simp only [wf_ok]; cases giveBack as bs e1 <;> simp
        | ex c fs bs => simp only [wf_ex]; cases giveBack as bs e1 <;> simp
        | bad => simp
  | ex c fs e1 => rfl
  | bad => rfl
@[simp] theorem wn_call0 {f : DF} {Q : D → Env → Prop} : Wn (eCall f []) e Q E = WF (f []) (fun d bs => bs = [] ∧ Q d e) (fun c fs bs => bs = [] ∧ E c fs e) := by
  rw [wn_call]
  simp only [argsV, wn_pure, lends, List.all_nil, true_and, argsD]
  congr 1
  · funext d bs; cases bs <;> simp [giveBack]
  · funext c fs bs; cases bs <;> simp [giveBack]
@[simp] theorem wn_call1 {f : DF} {Q : D → Env → Prop} : Wn (eCall f [.e a]) e Q E = Wn a e (fun x e1 => WF (f [x]) (fun d bs => bs = [] ∧ Q d e1) (fun c fs bs => bs = [] ∧ E c fs e1)) E := by
  rw [wn_call]
  simp only [argsV, wn_bind, wn_pure, lends, List.all_nil, true_and, argsD, argD]
  congr 1; funext x e1
  congr 1
  · funext d bs; cases bs <;> simp [giveBack]
  · funext c fs bs; cases bs <;> simp [giveBack]
@[simp] theorem wn_call2 {f : DF} {Q : D → Env → Prop} : Wn (eCall f [.e a, .e b]) e Q E = Wn a e (fun x e1 => Wn b e1 (fun y e2 => WF (f [x, y]) (fun d bs => bs = [] ∧ Q d e2) (fun c fs bs => bs = [] ∧ E c fs e2)) E) E := by
  rw [wn_call]
  simp only [argsV, wn_bind, wn_pure, lends, List.all_nil, true_and, argsD, argD]
  congr 1; funext x e1
  congr 1; funext y e2
  congr 1
  · funext d bs; cases bs <;> simp [giveBack]
  · funext c fs bs; cases bs <;> simp [giveBack]
@[simp] theorem wn_call3 {f : DF} {Q : D → Env → Prop} : Wn (eCall f [.e a, .e b, .e c]) e Q E = Wn a e (fun x e1 => Wn b e1 (fun y e2 => Wn c e2 (fun z e3 => WF (f [x, y, z]) (fun d bs => bs = [] ∧ Q d e3) (fun c fs bs => bs = [] ∧ E c fs e3)) E) E) E := by
  rw [wn_call]
  simp only [argsV, wn_bind, wn_pure, lends, List.all_nil, true_and, argsD, argD]
  congr 1; funext x e1
  congr 1; funext y e2
  congr 1; funext z e3
  congr 1
  · funext d bs; cases bs <;> simp [giveBack]
  · funext c fs bs; cases bs <;> simp [giveBack]
@[simp] theorem wn_call4 {f : DF} {Q : D → Env → Prop} : Wn (eCall f [.e a, .e b, .e c, .e d]) e Q E = Wn a e (fun x e1 => Wn b e1 (fun y e2 => Wn c e2 (fun z e3 => Wn d e3 (fun u e4 => WF (f [x, y, z, u]) (fun d bs => bs = [] ∧ Q d e4) (fun c fs bs => bs = [] ∧ E c fs e4)) E) E) E) E := by
  rw [wn_call]
  simp only [argsV, wn_bind, wn_pure, lends, List.all_nil, true_and, argsD, argD]
  congr 1; funext x e1
  congr 1; funext y e2
  congr 1; funext z e3
  congr 1; funext u e4
  congr 1
  · funext d bs; cases bs <;> simp [giveBack]
  · funext c fs bs; cases bs <;> simp [giveBack]
/-- the box in slot 0 is lent -/
@[simp] theorem wn_lend1 {f : DF} {Q : D → Env → Prop} : Wn (eCall f [.lend 0]) (.bor xs :: e) Q E = WF (f [.lst xs]) (fun d bs => ∃ ys, bs = [ys] ∧ Q d (.bor ys :: e)) (fun c fs bs => ∃ ys, bs = [ys] ∧ E c fs (.bor ys :: e)) := by
  rw [wn_call]
  simp only [argsV, wn_bind, wn_pure, wn_tmp, x_sl0, wt_bor, lends, List.all_cons, List.all_nil, Bool.and_true, isL, true_and, argsD, argD, slD]
  congr 1
  · funext d bs
    match bs with
    | [] => simp [giveBack]
    | [ys] => simp [giveBack]
    | _ :: _ :: _ => simp [giveBack]
  · funext c fs bs
    match bs with
    | [] => simp [giveBack]
    | [ys] => simp [giveBack]
    | _ :: _ :: _ => simp [giveBack]
end
/-- an argument leaves the box where it is -/
theorem wn_lendE {f : DF} {a : DE} {xs : List D} {e : Env} {x : D} {Q : D → Env → Prop} {E : Str → List D → Env → Prop} {xs' : List D} {e' : Env} (ha : a (.bor xs :: e) = .ok x (.bor xs' :: e')) : Wn (eCall f [.lend 0, .e a]) (.bor xs :: e) Q E = WF (f [.lst xs', x]) (fun d bs => ∃ ys, bs = [ys] ∧ Q d (.bor ys :: e')) (fun c fs bs => ∃ ys, bs = [ys] ∧ E c fs (.bor ys :: e')) := by
  rw [wn_call]
  simp only [argsV, wn_bind, wn_pure, wn_tmp, x_sl0, wt_bor, wn_eq ha, lends, List.all_cons, List.all_nil, Bool.and_true, isL, true_and, argsD, argD, slD]
  congr 1
  · funext d bs
    match bs with
    | [] => simp [giveBack]
    | [ys] => simp [giveBack]
    | _ :: _ :: _ => simp [giveBack]
  · funext c fs bs
    match bs with
    | [] => simp [giveBack]
    | [ys] => simp [giveBack]
    | _ :: _ :: _ => simp [giveBack]
end AH
namespace AH
open PySem L2
variable [TheK]
/-! ### small facts -/
@[simp] theorem lenOk_iff {n : Nat} : lenOk n = true ↔ n ≤ 100000 := by unfold lenOk; simp
@[simp] theorem rngOk_iff {a b : Int} : rngOk a b = true ↔ ((-(2 ^ 62) ≤ a ∧ a < 2 ^ 62) ∧ -(2 ^ 62) ≤ b) ∧ b < 2 ^ 62 := by unfold rngOk; simp
theorem rng_mem {a b : Int} {x : D} (h : x ∈ rng a b) : ∃ i : Int, a ≤ i ∧ i < b ∧ x = .int i := by
  unfold rng at h
  obtain ⟨i, hi, rfl⟩ := List.mem_map.mp h
  have := List.mem_range.mp hi
  exact ⟨a + i, by omega, by omega, rfl⟩
theorem rng_len {a b : Int} : (rng a b).length = (b - a).toNat := by
  unfold rng; rw [List.length_map, List.length_range]
/-- the intsR of a range -/
def intsR (a b : Int) : List Int := (List.range (b - a).toNat).map fun i => a + (i : Nat)
theorem rng_eq {a b : Int} : rng a b = (intsR a b).map D.int := by
  unfold rng intsR; rw [List.map_map]; rfl
theorem mem_intsR {a b i : Int} : i ∈ intsR a b ↔ a ≤ i ∧ i < b := by
  unfold intsR
  rw [List.mem_map]
  constructor
  · rintro ⟨j, hj, rfl⟩
    have := List.mem_range.mp hj
    omega
  · intro h
    exact ⟨(i - a).toNat, List.mem_range.mpr (by omega), by omega⟩
theorem intsR_len {a b : Int} : (intsR a b).length = (b - a).toNat := by
  unfold intsR; rw [List.length_map, List.length_range]
@[simp] theorem dAdd_int {i j : Int} : dAdd (.int i) (.int j) = .ok (.int (i + j)) := nr rfl
@[simp] theorem dAdd_lst {a b : List D} : dAdd (.lst a) (.lst b) = if lenOk (a.length + b.length) then .ok (.lst (a ++ b)) else .bad := nr rfl
@[simp] theorem dAdd_tup {a b : List D} : dAdd (.tup a) (.tup b) = if lenOk (a.length + b.length) then .ok (.tup (a ++ b)) else .bad := nr rfl
@[simp] theorem dNeg_int {i : Int} : dNeg (.int i) = .ok (.int (-i)) := nr rfl
@[simp] theorem dMul_int {i j : Int} : dMul (.int i) (.int j) = if mulOk i j then .ok (.int (i * j)) else .bad := nr rfl
@[simp] theorem dDiv_int {i j : Int} : dDiv (.int i) (.int j) = if divOk j then .ok (.int (i / j)) else .bad := nr rfl
@[simp] theorem dMod_int {i j : Int} : dMod (.int i) (.int j) = if decide (0 < j) then .ok (.int (i % j)) else .bad := nr rfl
@[simp] theorem dInt_int {i : Int} : dInt (.int i) = .ok (.int i) := nr rfl
@[simp] theorem dInt_bl {k : Bool} : dInt (.bl k) = .ok (.int (if k then 1 else 0)) := nr rfl
@[simp] theorem dAbs_int {i : Int} : dAbs (.int i) = .ok (.int (if i < 0 then -i else i)) := nr rfl
@[simp] theorem dLt_int {i j : Int} : dLt (.int i) (.int j) = .ok (decide (i < j)) := nr rfl
@[simp] theorem dLe_int {i j : Int} : dLe (.int i) (.int j) = .ok (decide (i ≤ j)) := nr rfl
@[simp] theorem dGt_int {i j : Int} : dGt (.int i) (.int j) = .ok (decide (j < i)) := nr rfl
@[simp] theorem dGe_int {i j : Int} : dGe (.int i) (.int j) = .ok (decide (j ≤ i)) := nr rfl
@[simp] theorem dEq_int {i j : Int} : dEq (.int i) (.int j) = .ok (i == j) := by simp [dEq, D.plain, D.eqv]
@[simp] theorem dNe_int {i j : Int} : dNe (.int i) (.int j) = .ok (!(i == j)) := by simp [dNe, D.plain, D.eqv]
@[simp] theorem dEq_bl {i j : Bool} : dEq (.bl i) (.bl j) = .ok (i == j) := by simp [dEq, D.plain, D.eqv]
@[simp] theorem dNe_bl {i j : Bool} : dNe (.bl i) (.bl j) = .ok (!(i == j)) := by simp [dNe, D.plain, D.eqv]
@[simp] theorem dEq_non : dEq .non .non = .ok true := nr rfl
theorem dEq_str {s : Str} (h : PySem.PyData.strOk s = true) : dEq (.str s) (.str s) = .ok true := by
  have hp : D.plain 40 (.str s) = true := h
  have he : D.eqv (.str s) (.str s) = true := by show (s == s) = true; simp
  unfold dEq
  rw [hp, he]
  rfl
@[simp] theorem dLen_lst {xs : List D} : dLen (.lst xs) = .ok (.int xs.length) := nr rfl
@[simp] theorem dLen_tup {xs : List D} : dLen (.tup xs) = .ok (.int xs.length) := nr rfl
@[simp] theorem dTuple_lst {xs : List D} : dTuple (.lst xs) = .ok (.tup xs) := nr rfl
@[simp] theorem dTuple_tup {xs : List D} : dTuple (.tup xs) = .ok (.tup xs) := nr rfl
@[simp] theorem dList_lst {xs : List D} : dList (.lst xs) = .ok (.lst xs) := nr rfl
@[simp] theorem dList_tup {xs : List D} : dList (.tup xs) = .ok (.lst xs) := nr rfl
@[simp] theorem dIx_lst {xs : List D} {i : Int} : dIx (.lst xs) (.int i) = (match atI xs i with | some v => .ok v | none => .bad) := nr rfl
@[simp] theorem dIx_tup {xs : List D} {i : Int} : dIx (.tup xs) (.int i) = (match atI xs i with | some v => .ok v | none => .bad) := nr rfl
@[simp] theorem dSl_lst {xs : List D} {l h : Option Int} : dSl (.lst xs) l h = .ok (.lst (cut xs l h)) := nr rfl
@[simp] theorem dSl_tup {xs : List D} {l h : Option Int} : dSl (.tup xs) l h = .ok (.tup (cut xs l h)) := nr rfl
@[simp] theorem dSlL_lst {xs : List D} {l h : Option Int} : dSlL (.lst xs) l h = .ok (.lst (cut xs l h)) := nr rfl
@[simp] theorem dIsN_int {i : Int} : dIsN (.int i) = false := nr rfl
@[simp] theorem dIsN_bl {i : Bool} : dIsN (.bl i) = false := nr rfl
@[simp] theorem dIsN_tup {i : List D} : dIsN (.tup i) = false := nr rfl
@[simp] theorem dIsN_lst {i : List D} : dIsN (.lst i) = false := nr rfl
@[simp] theorem dIsN_str {i : Str} : dIsN (.str i) = false := nr rfl
@[simp] theorem dIsN_exc {c : Str} {ns : List Str} {fs : List D} : dIsN (.exc c ns fs) = false := nr rfl
@[simp] theorem isi_li {xs : List D} : isi .list (.lst xs) = true := nr rfl
@[simp] theorem isi_lt {xs : List D} : isi .list (.tup xs) = false := nr rfl
@[simp] theorem isi_ln {i : Int} : isi .list (.int i) = false := nr rfl
@[simp] theorem isi_tt {xs : List D} : isi .tuple (.tup xs) = true := nr rfl
@[simp] theorem isi_tl {xs : List D} : isi .tuple (.lst xs) = false := nr rfl
@[simp] theorem isi_tn {i : Int} : isi .tuple (.int i) = false := nr rfl
@[simp] theorem isi_ii {i : Int} : isi .int (.int i) = true := nr rfl
@[simp] theorem isi_bi {i : Int} : isi .bool (.int i) = false := nr rfl
theorem atI_nat {xs : List D} {k : Nat} (h : k < xs.length) : atI xs (k : Int) = some xs[k] := by
  have : ixN xs.length (k : Int) = some k := by
    unfold ixN
    rw [if_pos (by omega), if_pos (by omega)]
    rfl
  unfold atI
  rw [this]
  exact List.getElem?_eq_getElem h
theorem cut_to {xs : List D} {i : Nat} (h : i ≤ xs.length) : cut xs none (some (i : Int)) = xs.take i := by
  have h1 : HT.sIx xs.length 0 none = 0 := rfl
  have h2 : HT.sIx xs.length xs.length (some (i : Int)) = i := by rw [HT.sIx_nat]; omega
  unfold cut
  rw [h1, h2]
  rfl
theorem cut_from {xs : List D} {i : Nat} (h : i ≤ xs.length) : cut xs (some (i : Int)) none = xs.drop i := by
  have h1 : HT.sIx xs.length 0 (some (i : Int)) = i := by rw [HT.sIx_nat]; omega
  have h2 : HT.sIx xs.length xs.length none = xs.length := rfl
  unfold cut
  rw [h1, h2, List.take_of_length_le]
  rw [List.length_drop]
  exact Nat.le_refl _
theorem mulOk_r {i j : Int} (h : j.natAbs < 2 ^ 64) : mulOk i j = true := by
  unfold mulOk; rw [decide_eq_true h, Bool.or_true, Bool.or_true]
theorem mulOk_l {i j : Int} (h : i.natAbs < 2 ^ 64) : mulOk i j = true := by
  unfold mulOk; rw [decide_eq_true h, Bool.true_or, Bool.or_true]
theorem bools_map {α : Type} {f : α → Bool} : ∀ xs : List α, bools (xs.map fun x => .bl (f x)) = some (xs.map f)
  | [] => rfl
  | x :: xs => by simp [bools, bools_map xs]
@[simp] theorem dAll_map {α : Type} {f : α → Bool} {xs : List α} : dAll (.lst (xs.map fun x => .bl (f x))) = .ok (.bl (xs.all f)) := by
  simp [dAll, bools_map, Function.comp_def]
@[simp] theorem dAny_map {α : Type} {f : α → Bool} {xs : List α} : dAny (.lst (xs.map fun x => .bl (f x))) = .ok (.bl (xs.any f)) := by
  simp [dAny, bools_map, Function.comp_def]
/-! ### loops -/
section
variable {g : DG} {b : DS} {E : Str → List D → Env → Prop}
@[simp] theorem wn_loop_nil {e : Env} {Q : Out → Env → Prop} : Wn (loop g b []) e Q E = Q .nx e := wn_eq rfl
theorem wn_wipe {α : Type} {m : M α} {vs : List Nat} {e : Env} {Q : α → Env → Prop} : Wn (fun e1 => m (wipeE e1 vs)) e Q E = Wn m (wipeE e vs) Q E := by unfold Wn; rfl
theorem wn_loop (I : List D → Env → Prop) {Q : Out → Env → Prop} (hs : ∀ x r e, I (x :: r) e → Wn (g x) e (fun _ e1 => Wn b e1 (fun o e2 => match o with | .nx => I r e2 | .ct => I r e2 | .bk => Q .nx e2 | .rt d => Q (.rt d) e2) E) E) (hend : ∀ e, I [] e → Q .nx e) :
    ∀ {xs : List D} {e : Env}, I xs e → Wn (loop g b xs) e Q E
  | [], e, h => by rw [wn_loop_nil]; exact hend e h
  | x :: xs, e, h => by
    unfold loop
    rw [wn_bind]
    refine (hs x xs e h).imp fun _ e1 h1 => ?_
    rw [wn_bind]
    refine h1.imp fun o e2 h2 => ?_
    cases o with
    | nx => exact wn_loop I hs hend h2
    | ct => exact wn_loop I hs hend h2
    | bk => exact (wn_eq rfl).mpr h2
    | rt d => exact (wn_eq rfl).mpr h2
theorem loop_cons {x : D} {xs : List D} {e e' : Env} (h : Wn (g x) e (fun _ e1 => Wn b e1 (fun o e2 => o = .nx ∧ e2 = e') NoE) NoE) : loop g b (x :: xs) e = loop g b xs e' := by
  have q : ∃ e1, g x e = .ok () e1 ∧ b e1 = .ok .nx e' := by
    unfold Wn at h
    cases h1 : g x e with
    | ok u e1 =>
      rw [h1] at h
      simp only at h
      exact ⟨e1, rfl, Wn.eq (by unfold Wn; exact h)⟩
    | ex _ _ _ => rw [h1] at h; exact h.elim
    | bad => rw [h1] at h; exact h.elim
  obtain ⟨e1, h1, h2⟩ := q
  show M.bind (g x) _ e = _
  rw [bind_ok h1, bind_ok h2]
/-! ### comprehensions -/
theorem lc_filter {T : Type} {vs : List Nat} {it : DI} {t : DT} {a : DE} {e : Env} {L : List T} {enc : T → D} (p : T → Bool) (f : T → D) (hi : it e = .ok (L.map enc) e) (hv : (vs.any fun v => isOwn (sl e v)) = false) (hl : L.length ≤ 100000)
    (h : ∀ y ∈ L, Wn (g (enc y)) (wipeE e vs) (fun _ e1 => wipeE e1 vs = wipeE e vs ∧ Wn t e1 (fun k e2 => k = p y ∧ e2 = e1) NoE ∧ (p y = true → Wn a e1 (fun d e2 => d = f y ∧ e2 = e1) NoE)) NoE) : eLc vs it g t a e = .ok (.lst ((L.filter p).map f)) e := by
  have key : ∀ L : List T, (∀ y ∈ L, Wn (g (enc y)) (wipeE e vs) (fun _ e1 => wipeE e1 vs = wipeE e vs ∧ Wn t e1 (fun k e2 => k = p y ∧ e2 = e1) NoE ∧ (p y = true → Wn a e1 (fun d e2 => d = f y ∧ e2 = e1) NoE)) NoE) → compL vs e g t a (L.map enc) (wipeE e vs) = .ok ((L.filter p).map f) (wipeE e vs) := by
    intro L
    induction L with
    | nil => intro _; rfl
    | cons y L ih =>
      intro h
      have h1 := h y List.mem_cons_self
      have ih := ih fun z hz => h z (List.mem_cons_of_mem _ hz)
      refine Wn.eq ?_
      rw [List.map_cons]
      unfold compL
      show Wn (M.bind _ _) _ _ _
      rw [wn_bind]
      refine h1.imp fun _ e1 h2 => ?_
      obtain ⟨hw, ht, ha⟩ := h2
      rw [wn_bind]
      refine ht.imp fun k e2 hk => ?_
      obtain ⟨rfl, rfl⟩ := hk
      rw [wn_bind]
      cases hp : p y with
      | false =>
        simp only [Bool.false_eq_true, if_false, wn_pure]
        rw [wn_wipe, wn_bind, hw, wn_eq ih]
        simp [hp]
      | true =>
        simp only [if_true, wn_bind, wn_pure]
        refine (ha hp).imp fun d e3 hd => ?_
        obtain ⟨rfl, rfl⟩ := hd
        rw [wn_wipe, wn_bind, hw, wn_eq ih]
        simp [hp]
  unfold eLc
  rw [bind_ok hi]
  have hl' : lenOk (L.map enc).length = true := by rw [List.length_map]; exact decide_eq_true hl
  simp only [hv, hl', Bool.not_true, Bool.or_self]
  unfold noX
  rw [key L h]
  show R.ok (D.lst ((L.filter p).map f)) (back e (wipeE e vs) vs) = _
  rw [back_wipe]
theorem lc_map {T : Type} {vs : List Nat} {it : DI} {a : DE} {e : Env} {L : List T} {enc : T → D} (f : T → D) (hi : it e = .ok (L.map enc) e) (hv : (vs.any fun v => isOwn (sl e v)) = false) (hl : L.length ≤ 100000)
    (h : ∀ y ∈ L, Wn (g (enc y)) (wipeE e vs) (fun _ e1 => wipeE e1 vs = wipeE e vs ∧ Wn a e1 (fun d e2 => d = f y ∧ e2 = e1) NoE) NoE) : eLc vs it g tYes a e = .ok (.lst (L.map f)) e := by
  have q := lc_filter (t := tYes) (fun _ => true) f hi hv hl fun y hy => (h y hy).imp fun _ e1 h1 => ⟨h1.1, (wn_eq rfl).mpr ⟨rfl, rfl⟩, fun _ => h1.2⟩
  rw [List.filter_eq_self.mpr fun _ _ => rfl] at q
  exact q
/-- items as they are -/
theorem lc_mapD {vs : List Nat} {it : DI} {a : DE} {e : Env} {L : List D} (f : D → D) (hi : it e = .ok L e) (hv : (vs.any fun v => isOwn (sl e v)) = false) (hl : L.length ≤ 100000)
    (h : ∀ y ∈ L, Wn (g y) (wipeE e vs) (fun _ e1 => wipeE e1 vs = wipeE e vs ∧ Wn a e1 (fun d e2 => d = f y ∧ e2 = e1) NoE) NoE) : eLc vs it g tYes a e = .ok (.lst (L.map f)) e :=
  lc_map (enc := id) f (by rw [List.map_id]; exact hi) hv hl h
end
/-! ### draws -/
def Bx (n : Nat) (xs : List D) : Prop := ∃ a m c : Int, xs = [.int a, .int m, .int c] ∧ 0 ≤ a ∧ 0 ≤ m ∧ m < 2 ^ 62 ∧ 0 ≤ c ∧ c + n ≤ 2 ^ 59
theorem Bx.le {n k : Nat} {xs : List D} (h : Bx n xs) (hk : k ≤ n) : Bx k xs := by
  obtain ⟨a, m, c, e, h1, h2, h3, h4, h5⟩ := h
  exact ⟨a, m, c, e, h1, h2, h3, h4, by omega⟩
theorem take_ok {n : Nat} {xs : List D} {b : Int} (hb : Bx (n + 1) xs) (h1 : 0 < b) (h2 : b.natAbs.log2 < 9000) : ∃ r xs', f_law_take [.lst xs, .int b] = .ok (.int r) [xs'] ∧ 0 ≤ r ∧ r < b ∧ Bx n xs' := by
  obtain ⟨a, m, c, rfl, hn, hm, hm2, hc, hck⟩ := hb
  have d2 : divOk b = true := by unfold divOk; rw [decide_eq_true h1, decide_eq_true h2]; rfl
  by_cases h0 : 0 < a
  · refine ⟨a % b, [.int (a / b), .int m, .int c], ?_, Int.emod_nonneg _ (by omega), Int.emod_lt_of_pos _ h1, a / b, m, c, rfl, Int.ediv_nonneg hn (by omega), hm, hm2, hc, by omega⟩
    simp [f_law_take, m_law_take, mkF, lstsOk, startE, ixN, h0, h1, d2, lentOf]
  · have m1 : ∀ i : Int, mulOk i (39373 + (c + 1)) = true := fun i => mulOk_r (by omega)
    have m2 : ∀ i : Int, mulOk 48271 i = true := fun i => mulOk_l (by decide)
    have m3 : ∀ i j : Int, mulOk i (j % 40009 + 7) = true := fun i j => mulOk_r (by omega)
    have m4 : ∀ i : Int, mulOk i 48271 = true := fun i => mulOk_r (by decide)
    have d3 : divOk 1000003 = true := by decide
    have d4 : divOk 64 = true := by decide
    have key : ∃ r, f_law_take [.lst [.int a, .int m, .int c], .int b] = .ok (.int (r % b)) [[.int a, .int m, .int (c + 1)]] := by
      refine ⟨((((m + 48271 * (c + 1)) * (39373 + (c + 1)) % 2147483647 + (c + 1) + m / 1000003) * ((m + 48271 * (c + 1)) * (39373 + (c + 1)) % 2147483647 % 40009 + 7)) % 2147483629 * 48271 + (m + 48271 * (c + 1)) * (39373 + (c + 1)) % 2147483647) % 2147483587 / 64, ?_⟩
      simp [f_law_take, m_law_take, mkF, lstsOk, startE, ixN, h0, h1, d2, d3, d4, m1, m2, m3, m4, lentOf]
    obtain ⟨r, key⟩ := key
    exact ⟨r % b, [.int a, .int m, .int (c + 1)], key, Int.emod_nonneg _ (by omega), Int.emod_lt_of_pos _ h1, a, m, c + 1, rfl, hn, hm, hm2, by omega, by omega⟩
theorem log_lt {b : Int} (h0 : 0 < b) (h : b < 2 ^ 140) : b.natAbs.log2 < 9000 := by
  have h1 : b.natAbs < 2 ^ 140 := by omega
  have := (Nat.log2_lt (n := b.natAbs) (k := 140) (by omega)).mpr h1
  omega
/-- a draw, as a wish -/
theorem wf_take {n : Nat} {xs : List D} {b : Int} {Q : D → List (List D) → Prop} {E : Str → List D → List (List D) → Prop} (hb : Bx (n + 1) xs) (h1 : 0 < b) (h2 : b < 2 ^ 140) (q : ∀ v ys, 0 ≤ v → v < b → Bx n ys → Q (.int v) [ys]) : WF (f_law_take [.lst xs, .int b]) Q E := by
  obtain ⟨r, xs', h, h3, h4, h5⟩ := take_ok hb h1 (log_lt h1 h2)
  rw [h, wf_ok]
  exact q r xs' h3 h4 h5
theorem wn_take {n : Nat} {xs : List D} {b : Int} {a : DE} {e : Env} {Q : D → Env → Prop} {E : Str → List D → Env → Prop} (ha : a (.bor xs :: e) = .ok (.int b) (.bor xs :: e)) (hb : Bx (n + 1) xs) (h1 : 0 < b) (h2 : b < 2 ^ 140) (q : ∀ v ys, 0 ≤ v → v < b → Bx n ys → Q (.int v) (.bor ys :: e)) : Wn (eCall f_law_take [.lend 0, .e a]) (.bor xs :: e) Q E := by
  rw [wn_lendE ha]
  exact wf_take hb h1 h2 fun v ys h3 h4 h5 => ⟨ys, rfl, q v ys h3 h4 h5⟩
end AH
namespace AH
open PySem L2
variable [TheK]
/-! ### small plain data -/
mutual
def D.sm : Nat → D → Bool
  | _, .non => true
  | _, .bl _ => true
  | _, .int _ => true
  | _, .str s => PySem.PyData.strOk s
  | n + 1, .tup xs => decide (xs.length ≤ 10000) && D.smL n xs
  | n + 1, .lst xs => decide (xs.length ≤ 10000) && D.smL n xs
  | _, _ => false
def D.smL : Nat → List D → Bool
  | _, [] => true
  | n, x :: xs => D.sm n x && D.smL n xs
end
mutual
def D.li : D → D
  | .tup xs => .lst (D.liL xs)
  | .lst xs => .lst (D.liL xs)
  | d => d
def D.liL : List D → List D
  | [] => []
  | x :: xs => D.li x :: D.liL xs
end
mutual
def D.tu : D → D
  | .tup xs => .tup (D.tuL xs)
  | .lst xs => .tup (D.tuL xs)
  | d => d
def D.tuL : List D → List D
  | [] => []
  | x :: xs => D.tu x :: D.tuL xs
end
theorem smL_iff {n : Nat} : ∀ {xs : List D}, D.smL n xs = true ↔ ∀ x ∈ xs, D.sm n x = true
  | [] => by simp [D.smL]
  | x :: xs => by simp [D.smL, smL_iff (xs := xs)]
theorem liL_map : ∀ xs : List D, D.liL xs = xs.map D.li
  | [] => rfl
  | x :: xs => by simp [D.liL, liL_map xs]
theorem tuL_map : ∀ xs : List D, D.tuL xs = xs.map D.tu
  | [] => rfl
  | x :: xs => by simp [D.tuL, tuL_map xs]
@[simp] theorem li_tup {xs : List D} : (D.tup xs).li = .lst (xs.map D.li) := by rw [D.li, liL_map]
@[simp] theorem li_lst {xs : List D} : (D.lst xs).li = .lst (xs.map D.li) := by rw [D.li, liL_map]
@[simp] theorem li_int {i : Int} : (D.int i).li = .int i := by simp [D.li]
@[simp] theorem tu_tup {xs : List D} : (D.tup xs).tu = .tup (xs.map D.tu) := by rw [D.tu, tuL_map]
@[simp] theorem tu_lst {xs : List D} : (D.lst xs).tu = .tup (xs.map D.tu) := by rw [D.tu, tuL_map]
@[simp] theorem tu_int {i : Int} : (D.int i).tu = .int i := by simp [D.tu]
@[simp] theorem sm_int {n : Nat} {i : Int} : (D.int i).sm n = true := by cases n <;> rfl
@[simp] theorem sm_bl {n : Nat} {i : Bool} : (D.bl i).sm n = true := by cases n <;> rfl
@[simp] theorem sm_non {n : Nat} : D.non.sm n = true := by cases n <;> rfl
@[simp] theorem sm_tup {n : Nat} {xs : List D} : (D.tup xs).sm (n + 1) = true ↔ xs.length ≤ 10000 ∧ ∀ x ∈ xs, x.sm n = true := by
  rw [D.sm, Bool.and_eq_true, decide_eq_true_eq, smL_iff]
@[simp] theorem sm_lst {n : Nat} {xs : List D} : (D.lst xs).sm (n + 1) = true ↔ xs.length ≤ 10000 ∧ ∀ x ∈ xs, x.sm n = true := by
  rw [D.sm, Bool.and_eq_true, decide_eq_true_eq, smL_iff]
/-! ### the same again -/
theorem same_lc {nf : DF} {xs : List D} {d1 d2 : D} (hd : (d1 = .tup xs ∧ d2 = .tup xs) ∨ (d1 = .lst xs ∧ d2 = .lst xs)) (hl : xs.length ≤ 10000) (h : ∀ x ∈ xs, nf [x, x] = .ok (.bl true) []) :
    c_law_same_1 nf [.val d1, .val d2, .no, .no] = .ok (.lst ((xs.zip xs).map fun _ => .bl true)) [.val d1, .val d2, .no, .no] := by
  unfold c_law_same_1
  refine lc_map (L := xs.zip xs) (enc := fun p => .tup [p.1, p.2]) (fun _ => .bl true) ?_ rfl (by rw [List.length_zip]; omega) fun y hy => ?_
  · rcases hd with ⟨rfl, rfl⟩ | ⟨rfl, rfl⟩ <;> rfl
  · have e : ∀ {xs : List D} {p : D × D}, p ∈ xs.zip xs → p.1 = p.2 ∧ p.1 ∈ xs := by
      intro xs
      induction xs with
      | nil => intro p h; cases h
      | cons x xs ih =>
        intro p h
        rw [List.zip_cons_cons] at h
        rcases List.mem_cons.mp h with rfl | h
        · exact ⟨rfl, List.mem_cons_self⟩
        · exact ⟨(ih h).1, List.mem_cons_of_mem _ (ih h).2⟩
    obtain ⟨h1, h2⟩ := e hy
    have h3 := h _ h2
    rw [h1] at h3
    simp [wipeE, h1, h3]
theorem same_refl : ∀ {k n : Nat} {d : D}, d.sm n = true → n + 1 ≤ k → f_law_same k [d, d] = .ok (.bl true) [] := by
  intro k
  induction k with
  | zero => intro n d _ h; omega
  | succ k ih =>
    intro n d hd hk
    cases d with
    | tup xs =>
      cases n with
      | zero => cases hd
      | succ n =>
        rw [sm_tup] at hd
        have lc := same_lc (nf := f_law_same k) (d1 := .tup xs) (d2 := .tup xs) (.inl ⟨rfl, rfl⟩) hd.1 fun x hx => ih (hd.2 x hx) (by omega)
        have al : dAll (.lst ((xs.zip xs).map fun _ => .bl true)) = .ok (.bl true) := by rw [dAll_map (f := fun _ => true)]; simp
        refine mkF_rt rfl (e := [.val (.tup xs), .val (.tup xs), .no, .no]) (show m_law_same (f_law_same k) [.val (.tup xs), .val (.tup xs), .no, .no] = _ from ?_) rfl
        simp [m_law_same, lc, al]
    | lst xs =>
      cases n with
      | zero => cases hd
      | succ n =>
        rw [sm_lst] at hd
        have lc := same_lc (nf := f_law_same k) (d1 := .lst xs) (d2 := .lst xs) (.inr ⟨rfl, rfl⟩) hd.1 fun x hx => ih (hd.2 x hx) (by omega)
        have al : dAll (.lst ((xs.zip xs).map fun _ => .bl true)) = .ok (.bl true) := by rw [dAll_map (f := fun _ => true)]; simp
        refine mkF_rt rfl (e := [.val (.lst xs), .val (.lst xs), .no, .no]) (show m_law_same (f_law_same k) [.val (.lst xs), .val (.lst xs), .no, .no] = _ from ?_) rfl
        simp [m_law_same, lc, al]
    | int i => simp [f_law_same, m_law_same, mkF, lstsOk, startE, lentOf, isi]
    | bl i => simp [f_law_same, m_law_same, mkF, lstsOk, startE, lentOf, isi]
    | non => simp [f_law_same, m_law_same, mkF, lstsOk, startE, lentOf, isi]
    | str s =>
      have h : PySem.PyData.strOk s = true := by cases n <;> exact hd
      simp [f_law_same, m_law_same, mkF, lstsOk, startE, lentOf, isi, dEq_str h]
    | dic _ => cases n <;> cases hd
    | exc _ _ _ => cases n <;> cases hd
    | obj _ => cases n <;> cases hd
/-- a check by the law's own word: both sides are the same small thing -/
theorem same_eq {n : Nat} {x y : D} (h : x = y) (hs : y.sm n = true) (hn : n ≤ 29 := by decide) : f_law_same 30 [x, y] = .ok (.bl true) [] := by
  subst h
  exact same_refl hs (by omega)
/-! ### with lists; with tuples -/
/-! ### the script's cells -/
theorem cells_fold {ns cs : List Int} {m : Nat} (hm : 1 ≤ m) (hm3 : m ≤ 3) (S : List D) (L : List (Int × Int)) (hL : ∀ p ∈ L, 0 ≤ p.1 ∧ p.1 < 100) (hc : cs.length = m) :
    ∃ cs' : List Int, cs'.length = m ∧ loop (gT (gsCons (gN 3) (gsCons (gN 4) gsNil))) b_law_cells_1 (L.map fun p => .tup [.int p.1, .int p.2]) [.ro (.lst S), .val (.int m), .own (cs.map D.int), .no, .no, .no] = .ok .nx [.ro (.lst S), .val (.int m), .own (cs'.map D.int), .no, .no, .no] := by
  induction L generalizing cs with
  | nil => exact ⟨cs, hc, rfl⟩
  | cons p L ih =>
    obtain ⟨h0, h1⟩ := hL p List.mem_cons_self
    have hmod : 0 ≤ p.1 % (m : Int) ∧ p.1 % (m : Int) < m := ⟨Int.emod_nonneg _ (by omega), Int.emod_lt_of_pos _ (by omega)⟩
    obtain ⟨i, hi⟩ : ∃ i : Nat, p.1 % (m : Int) = i := ⟨(p.1 % (m : Int)).toNat, by omega⟩
    have hil : i < cs.length := by omega
    have hm0 : (0 : Int) < m := by omega
    have hmul : mulOk p.2 (p.1 + 2) = true := mulOk_r (by omega)
    have hat : atI (cs.map D.int) (i : Int) = some (.int cs[i]) := by rw [atI_nat (by rw [List.length_map]; exact hil), List.getElem_map]
    have hix : ixN (cs.map D.int).length (i : Int) = some i := by
      unfold ixN
      rw [if_pos (by omega), if_pos (by rw [List.length_map]; omega)]
      rfl
    rw [List.length_map] at hix
    obtain ⟨cs', hl', e'⟩ := ih (cs := cs.set i (cs[i] + p.2 * (p.1 + 2))) (fun q hq => hL q (List.mem_cons_of_mem _ hq)) (by rw [List.length_set]; exact hc)
    refine ⟨cs', hl', ?_⟩
    rw [List.map_cons, loop_cons (e' := [.ro (.lst S), .val (.int m), .own ((cs.set i (cs[i] + p.2 * (p.1 + 2))).map D.int), .no, .no, .no])]
    · exact e'
    · simp [b_law_cells_1, wn_sFg, wn_seq, hm0, hi, hat, hix, hmul, List.map_set]
      omega
theorem enum_ints (ns : List Int) : enumL (ns.map D.int) = ((intsR 0 ns.length).zip ns).map fun p => .tup [.int p.1, .int p.2] := by
  unfold enumL
  rw [rng_eq, List.length_map, List.zip_map, List.map_map]
  rfl
theorem cut_ints (ns : List Int) (lo hi : Option Int) : cut (ns.map D.int) lo hi = (cut ns lo hi).map D.int := by
  unfold cut
  simp
theorem cells_ok (ns : List Int) (hn : ns.length ≤ 63) (m : Nat) (hm : 1 ≤ m) (hm3 : m ≤ 3) : ∃ cs : List Int, 1 ≤ cs.length ∧ cs.length ≤ 3 ∧ f_law_cells [.lst (ns.map D.int), .int m] = .ok (.lst (cs.map D.int)) [] := by
  obtain ⟨c0, h1, h2, h3, h4⟩ : ∃ c0 : List Int, 1 ≤ c0.length ∧ c0.length ≤ 3 ∧ (c0.length = m ∨ ns.length ≤ m) ∧ (if cut ns none (some (m : Int)) = [] then [0] else cut ns none (some (m : Int))) = c0 := by
    refine ⟨_, ?_, ?_, ?_, rfl⟩
    · split
      · simp
      · rename_i h; exact List.length_pos_iff.mpr h
    · split
      · simp
      · have : (cut ns none (some (m : Int))).length ≤ m := by
          unfold cut
          rw [List.length_take, show HT.sIx ns.length 0 none = 0 from rfl, HT.sIx_nat]
          omega
        omega
    · by_cases h : ns.length ≤ m
      · exact .inr h
      · refine .inl ?_
        have e : (cut ns none (some (m : Int))).length = m := by
          unfold cut
          rw [List.length_take, List.length_drop, show HT.sIx ns.length 0 none = 0 from rfl, HT.sIx_nat]
          omega
        rw [if_neg (fun z => by rw [z] at e; simp at e; omega)]
        exact e
  have hcut : (cut ns (some (m : Int)) (some 63)).length ≤ 63 := by
    unfold cut
    rw [List.length_take, List.length_drop]
    omega
  have fin : ∀ cs' : List Int, cs'.length ≤ 3 → 1 ≤ cs'.length → loop (gT (gsCons (gN 3) (gsCons (gN 4) gsNil))) b_law_cells_1 (enumL (cut (ns.map D.int) (some (m : Int)) (some 63))) [.ro (.lst (ns.map D.int)), .val (.int m), .own (c0.map D.int), .no, .no, .no] = .ok .nx [.ro (.lst (ns.map D.int)), .val (.int m), .own (cs'.map D.int), .no, .no, .no] →
      ∃ cs : List Int, 1 ≤ cs.length ∧ cs.length ≤ 3 ∧ f_law_cells [.lst (ns.map D.int), .int m] = .ok (.lst (cs.map D.int)) [] := by
    intro cs' hl h0 he
    refine ⟨cs', h0, hl, ?_⟩
    refine mkF_rt rfl (e := [.ro (.lst (ns.map D.int)), .val (.int m), .val (.lst (cs'.map D.int)), .no, .no, .no]) (show m_law_cells [.ro (.lst (ns.map D.int)), .val (.int m), .no, .no, .no, .no] = _ from ?_) rfl
    refine Wn.eq ?_
    unfold m_law_cells
    rw [wn_seq]
    have tr : ∀ Q, WR (truth (.lst (cut (ns.map D.int) none (some (m : Int))))) Q = Q (!(cut ns none (some (m : Int))).isEmpty) := fun Q => by
      rw [cut_ints]
      show Q _ = _
      rw [List.isEmpty_map]
    have first : Wn (sOwn 2 (eOrT (e1 dList (eSlN 0 oNone (oSome (eVar 1)))) (eLst (aCons (eC (.int 0)) aNil)))) [.ro (.lst (ns.map D.int)), .val (.int m), .no, .no, .no, .no] (fun o e1 => o = .nx ∧ e1 = [.ro (.lst (ns.map D.int)), .val (.int m), .own (c0.map D.int), .no, .no, .no]) NoE := by
      simp [tr]
      by_cases hz : cut ns none (some (m : Int)) = []
      · rw [if_pos hz] at h4
        simp [hz, ← h4]
      · rw [if_neg hz] at h4
        simp [hz, cut_ints, h4]
        intro z
        rw [z] at h1
        simp at h1
    refine first.imp fun o e1 h => ?_
    obtain ⟨rfl, rfl⟩ := h
    rw [wo_nx, wn_seq]
    unfold l_law_cells_1
    simp only [wn_sFor, wn_iEnum, wn_eSlN, x_sl0, wt_ro, wn_oSome, wn_var, x_slS, ws_val, wi_int, wn_c, dSlL_lst, wr_ok, wm_lst]
    rw [wn_eq he]
    simp [wn_seq]
  rw [cut_ints, enum_ints] at fin
  rcases h3 with h3 | h3
  · obtain ⟨cs', hl, he⟩ := cells_fold (ns := ns) (cs := c0) hm hm3 (ns.map D.int) ((intsR 0 (cut ns (some (m : Int)) (some 63)).length).zip (cut ns (some (m : Int)) (some 63))) (fun p hp => by
      have := mem_intsR.mp (List.of_mem_zip hp).1
      omega) h3
    exact fin cs' (by omega) (by omega) he
  · have e : cut ns (some (m : Int)) (some 63) = [] := by
      unfold cut
      rw [HT.sIx_nat]
      apply List.eq_nil_of_length_eq_zero
      rw [List.length_take, List.length_drop]
      omega
    rw [e] at fin
    exact fin c0 h2 h1 rfl
end AH
namespace AH
open PySem L2 PySem.Builtin.Str PySem.StrLaws
/-! ### texts taken apart where they were put together -/
theorem tl_app (a b : Str) : (a ++ b).cps.toList = a.cps.toList ++ b.cps.toList := by
  show (a.cps ++ b.cps).toList = _
  rw [Array.toList_append]
theorem str_ext {a b : Str} (h : a.cps.toList = b.cps.toList) : a = b := by
  obtain ⟨⟨x⟩⟩ := a
  obtain ⟨⟨y⟩⟩ := b
  simp only at h
  rw [h]
theorem len_tl (x : Str) : x.cps.toList.length = x.length := Array.length_toList
theorem at_iff {x y : Str} {i : Nat} (hy : y.cps.toList ≠ []) : At x y x.length i ↔ (x.cps.toList.drop i).take y.length = y.cps.toList := by
  unfold At subAt
  have e : (x.cps.extract i (i + y.length) == y.cps) = true ↔ (x.cps.toList.drop i).take y.length = y.cps.toList := by
    rw [beq_iff_eq, ← Array.toList_inj]
    simp
  rw [e]
  constructor
  · exact fun h => h.2
  · intro h
    refine ⟨?_, h⟩
    have hl := congrArg List.length h
    rw [List.length_take, List.length_drop, len_tl, len_tl] at hl
    have : 0 < y.length := by rw [← len_tl]; exact List.length_pos_iff.mpr hy
    omega
/-- where y begins, its first sign stands -/
theorem at_head {x y : Str} {i c0 : Nat} {r : List Nat} (hy : y.cps.toList = c0 :: r) (h : At x y x.length i) : (x.cps.toList.drop i).head? = some c0 := by
  have h := (at_iff (by rw [hy]; simp)).mp h
  have : 0 < y.length := by rw [← len_tl, hy]; simp
  rw [hy] at h
  cases hd : x.cps.toList.drop i with
  | nil => rw [hd] at h; simp at h
  | cons a l =>
    rw [hd] at h
    obtain ⟨n, hn⟩ : ∃ n, y.length = n + 1 := ⟨y.length - 1, by omega⟩
    rw [hn, List.take_succ_cons] at h
    simp at h
    rw [List.head?_cons, h.1]
theorem join_cons {y a b : Str} {r : List Str} : (Str.join y (a :: b :: r)).cps.toList = a.cps.toList ++ (y.cps.toList ++ (Str.join y (b :: r)).cps.toList) := by
  show (a ++ y ++ Str.join y (b :: r)).cps.toList = _
  rw [tl_app, tl_app, List.append_assoc]
theorem parts_eq {x y : Str} {c0 : Nat} {r0 : List Nat} (hy : y.cps.toList = c0 :: r0) : ∀ (ps : List Str) (p : Str) (a f : Nat) (cuts : List Nat), (∀ q ∈ p :: ps, c0 ∉ q.cps.toList) → a ≤ x.length → x.cps.toList.drop a = (Str.join y (p :: ps)).cps.toList →
    ChainG x y x.length a cuts f → (∀ k, f ≤ k → ¬ At x y x.length k) → partsFrom x y.length a cuts = p :: ps
  | [], p, a, f, cuts, hf, ha, hx, ch, hno => by
    have hx : x.cps.toList.drop a = p.cps.toList := hx
    cases cuts with
    | nil =>
      show [strSub x a x.length] = [p]
      rw [show strSub x a x.length = p from str_ext (by
        rw [strSub_toList, hx, List.take_of_length_le]
        rw [← hx, List.length_drop, len_tl]
        exact Nat.le_refl _)]
    | cons c r =>
      obtain ⟨h1, h2, _, _⟩ := ch
      have h3 := at_head hy h2
      refine absurd ?_ (hf p List.mem_cons_self)
      rw [← hx]
      have e : x.cps.toList.drop c = (x.cps.toList.drop a).drop (c - a) := by rw [List.drop_drop]; congr 1; omega
      rw [e] at h3
      exact List.mem_of_mem_drop (List.mem_of_mem_head? h3)
  | q :: ps, p, a, f, cuts, hf, ha, hx, ch, hno => by
    rw [join_cons] at hx
    have here : At x y x.length (a + p.length) := by
      rw [at_iff (by rw [hy]; simp)]
      have e : x.cps.toList.drop (a + p.length) = (x.cps.toList.drop a).drop p.length := by rw [List.drop_drop]
      rw [e, hx, ← len_tl p, List.drop_left, ← len_tl y, List.take_left]
    cases cuts with
    | nil =>
      have : f = a := ch
      exact absurd here (hno _ (by omega))
    | cons c r =>
      obtain ⟨h1, h2, h3, h4⟩ := ch
      have e : x.cps.toList.drop c = (x.cps.toList.drop a).drop (c - a) := by rw [List.drop_drop]; congr 1; omega
      have hc : c = a + p.length := by
        rcases Nat.lt_trichotomy c (a + p.length) with z | z | z
        · have h5 := at_head hy h2
          rw [e, hx, List.drop_append_of_le_length (by rw [len_tl]; omega)] at h5
          refine absurd ?_ (hf p List.mem_cons_self)
          cases hd : p.cps.toList.drop (c - a) with
          | nil =>
            have := congrArg List.length hd
            rw [List.length_drop, len_tl] at this
            simp at this
            omega
          | cons s t =>
            rw [hd] at h5
            have : s = c0 := by simpa using h5
            exact List.mem_of_mem_drop (i := c - a) (by rw [hd, this]; exact List.mem_cons_self)
        · exact z
        · exact absurd here (h3 _ (by omega) z)
      subst hc
      have nx : x.cps.toList.drop (a + p.length + y.length) = (Str.join y (q :: ps)).cps.toList := by
        have e2 : x.cps.toList.drop (a + p.length + y.length) = ((x.cps.toList.drop a).drop p.length).drop y.length := by rw [List.drop_drop, List.drop_drop, Nat.add_assoc]
        rw [e2, hx, ← len_tl p, List.drop_left, ← len_tl y, List.drop_left]
      have hle : a + p.length + y.length ≤ x.length := by
        have := h2.1
        omega
      have ih := parts_eq hy ps q (a + p.length + y.length) f r (fun z hz => hf z (List.mem_cons_of_mem _ hz)) hle nx h4 hno
      show strSub x a (a + p.length) :: partsFrom x y.length (a + p.length + y.length) r = _
      rw [ih, show strSub x a (a + p.length) = p from str_ext (by
        rw [strSub_toList, hx, Nat.add_sub_cancel_left, ← len_tl p, List.take_left])]
theorem kind1 {y : Str} (h : ∀ c ∈ y.cps.toList, c < 256) : Builtin.Str.strKind y = 1 := by
  unfold Builtin.Str.strKind
  rw [if_pos]
  rw [Array.all_eq_true_iff_forall_mem]
  intro c hc
  exact decide_eq_true (h c (by simpa using hc))
theorem kind_pos (x : Str) : 1 ≤ Builtin.Str.strKind x := by
  unfold Builtin.Str.strKind
  split
  · decide
  · split <;> decide
/-- a text put together of parts without the mark's first sign falls into these parts -/
theorem split_join {y : Str} {c0 : Nat} {r0 : List Nat} (hy : y.cps.toList = c0 :: r0) (ha : ∀ c ∈ y.cps.toList, c < 256) {p : Str} {ps : List Str} (hf : ∀ q ∈ p :: ps, c0 ∉ q.cps.toList) : Txt.split (Str.join y (p :: ps)) y = p :: ps := by
  have ypos : 0 < y.length := by rw [← len_tl, hy]; simp
  obtain ⟨f, ch, hno⟩ := occ_tight (Str.join y (p :: ps)) y ypos
  have key := parts_eq (x := Str.join y (p :: ps)) hy ps p 0 f _ hf (Nat.zero_le _) (by rw [List.drop_zero]) ch hno
  have kd : ¬ Builtin.Str.strKind (Str.join y (p :: ps)) < Builtin.Str.strKind y := by rw [kind1 ha]; exact Nat.not_lt.mpr (kind_pos _)
  unfold Txt.split
  split
  · rename_i h
    simp only [Bool.or_eq_true, decide_eq_true_eq] at h
    have h := h.resolve_right kd
    cases ps with
    | nil => rfl
    | cons q ps =>
      have := congrArg List.length (join_cons (y := y) (a := p) (b := q) (r := ps))
      rw [List.length_append, List.length_append, len_tl, len_tl, len_tl] at this
      omega
  · split
    · rename_i h
      rw [List.isEmpty_iff] at h
      rw [h] at key
      have key : [strSub (Str.join y (p :: ps)) 0 (Str.join y (p :: ps)).length] = p :: ps := key
      rw [sub_whole] at key
      exact key
    · rw [partsBetween_eq]
      exact key
end AH
namespace AH
open PySem L2
variable [TheK]
/-! ### the source of draws -/
def M_box (K : Int) : DS := (sSeq (sAsgN 2 (eIf (c2 dLt (eVar 1) (e1 dLen (eVar 0))) (e2 dIx (eVar 0) (eVar 1)) (eC (.int 0)))) (sRet (eLst (aCons (e2 dMul (e1 dAbs (eVar 2)) (e1 dInt (eB (c2 dGe (e1 dAbs (eVar 2)) (e2 dPow (eC (.int 10)) (eC (.int 18))))))) (aCons (e2 dAdd (e2 dAdd (e2 dMod (e1 dInt (eVar 2)) (eC (.int 2305843009213693951))) (e2 dMul (eC (.int 39373)) (eVar 1))) (eC (.int K))) (aCons (eC (.int 0)) aNil))))))
theorem pow18 : dPow (.int 10) (.int 18) = .ok (.int 1000000000000000000) := by kernel_rfl
theorem box_ok {K : Int} (hK0 : 0 ≤ K) (hK : K < 2 ^ 60) {cs : List Int} {i : Nat} (hi : i < cs.length) (hl : cs.length ≤ 3) : ∃ bx, mkR 3 [.val, .val] (M_box K) [.lst (cs.map D.int), .int i] = .ok (.lst bx) [] ∧ Bx (2 ^ 59) bx := by
  obtain ⟨c, hc⟩ : ∃ c, atI (cs.map D.int) (i : Int) = some (.int c) := ⟨_, by rw [atI_nat (by rw [List.length_map]; exact hi), List.getElem_map]⟩
  obtain ⟨a, ha, ha0⟩ : ∃ a : Int, (if c < 0 then -c else c) = a ∧ 0 ≤ a := ⟨_, rfl, by split <;> omega⟩
  have hm : ∀ x : Int, ∀ b : Bool, mulOk x (if b = true then 1 else 0) = true := fun x b => mulOk_r (by cases b <;> decide)
  have hm0 : ∀ x : Int, mulOk x 0 = true := fun x => mulOk_r (by decide)
  have hm1 : ∀ x : Int, mulOk x 1 = true := fun x => mulOk_r (by decide)
  have h39 : mulOk 39373 (i : Int) = true := mulOk_l (by decide)
  have h62 : (2 : Int) ^ 62 = 4611686018427387904 := by decide
  have h60 : (2 : Int) ^ 60 = 1152921504606846976 := by decide
  refine ⟨[.int (a * (if decide ((1000000000000000000 : Int) ≤ a) = true then 1 else 0)), .int (c % 2305843009213693951 + 39373 * (i : Int) + K), .int 0], ?_, _, _, _, rfl, ?_, ?_, ?_, by omega, by omega⟩
  · refine mkR_rt rfl (e := [.val (.lst (cs.map D.int)), .val (.int i), .val (.int c)]) (show M_box K [.val (.lst (cs.map D.int)), .val (.int i), .no] = _ from ?_) rfl
    refine Wn.eq ?_
    unfold M_box
    rw [wn_seq]
    simp only [wn_sAsgN, wn_eIf, wn_c2, wn_var, x_sl0, x_slS, ws_val, wn_e1, dLen_lst, wr_ok, dLt_int, List.length_map]
    rw [if_pos (by rw [decide_eq_true_eq]; omega)]
    simp [hc, ha, pow18, hm, h39, hm0, hm1]
    split <;> first | exact hm1 a | exact hm0 a
  · split <;> omega
  · have := Int.emod_nonneg c (b := 2305843009213693951) (by decide)
    omega
  · have := Int.emod_lt_of_pos c (b := 2305843009213693951) (by decide)
    omega
/-! ### the law -/
def C_law (fr fb : DF) : DE := (eLc [2] (iRng1 (e1 dLen (eVar 1))) (gN 2) tYes (eCall fr [.new (eCall fb [.e (eVar 1), .e (eVar 2)])]))
def M_law (fh fr fb : DF) : DS := (sSeq (sIf (tNot (tV (eCall fh []))) (sRet (eC (.bl false))) sNil) (sSeq (sAsgN 1 (eCall f_law_cells [.look 0, .e (eC (.int 3))])) (sRet (e1 dAll (C_law fr fb)))))
def Right (fr : DF) : Prop := ∀ xs, Bx (2 ^ 59) xs → WF (fr [.lst xs]) (fun d bs => d = .bl true ∧ ∃ ys, bs = [ys]) NoF
theorem law_lc {K : Int} (hK0 : 0 ≤ K) (hK : K < 2 ^ 60) {fr : DF} (hr : Right fr) {S : D} {cs : List Int} (h1 : 1 ≤ cs.length) (h3 : cs.length ≤ 3) : C_law fr (mkR 3 [.val, .val] (M_box K)) [.ro S, .val (.lst (cs.map D.int)), .no] = .ok (.lst ((intsR 0 cs.length).map fun _ => .bl true)) [.ro S, .val (.lst (cs.map D.int)), .no] := by
  unfold C_law
  refine lc_map (L := intsR 0 cs.length) (enc := D.int) (fun _ => .bl true) ?_ rfl (by rw [intsR_len]; omega) fun y hy => ?_
  · refine Wn.eq ?_
    simp only [wn_iRng1, wn_e1, wn_var, x_slS, x_sl0, ws_val, dLen_lst, wr_ok, wi_int, List.length_map, rng_eq]
    refine ⟨?_, by simp⟩
    rw [rngOk_iff]
    omega
  · obtain ⟨y0, y1⟩ := mem_intsR.mp hy
    obtain ⟨i, rfl⟩ : ∃ i : Nat, y = i := ⟨y.toNat, by omega⟩
    obtain ⟨bx, b1, b2⟩ := box_ok hK0 hK (cs := cs) (i := i) (by omega) h3
    obtain ⟨d, bs, r1, rfl, ys, rfl⟩ := (hr bx b2).run
    have c : eCall fr [.new (eCall (mkR 3 [.val, .val] (M_box K)) [.e (eVar 1), .e (eVar 2)])] [.ro S, .val (.lst (cs.map D.int)), .val (.int i)] = .ok (.bl true) [.ro S, .val (.lst (cs.map D.int)), .val (.int i)] :=
      call_ok (args_new (x := .lst bx) (call2 (x := .lst (cs.map D.int)) (y := .int i) (e1 := [.ro S, .val (.lst (cs.map D.int)), .val (.int i)]) rfl rfl b1) rfl) rfl rfl r1 rfl
    simp [wipeE, wn_eq c]
theorem law_end {K : Int} (hK0 : 0 ≤ K) (hK : K < 2 ^ 60) {fh fr : DF} (hh : fh [] = .ok (.bl true) []) (hr : Right fr) (ns : List Int) (hn : ns.length ≤ 63) : mkF 3 [.ro] (M_law fh fr (mkR 3 [.val, .val] (M_box K))) [.lst (ns.map D.int)] = .ok (.bl true) [] := by
  obtain ⟨cs, h1, h2, hc⟩ := cells_ok ns hn 3 (by omega) (by omega)
  refine mkF_rt rfl (e := [.ro (.lst (ns.map D.int)), .val (.lst (cs.map D.int)), .no]) (show M_law fh fr _ [.ro (.lst (ns.map D.int)), .no, .no] = _ from ?_) rfl
  have a1 : eCall f_law_cells [.look 0, .e (eC (.int 3))] [.ro (.lst (ns.map D.int)), .no, .no] = .ok (.lst (cs.map D.int)) [.ro (.lst (ns.map D.int)), .no, .no] := call_ok (args_look (x := .lst (ns.map D.int)) rfl (args_e (a := eC (.int 3)) (as := []) (x := .int 3) (e1 := [.ro (.lst (ns.map D.int)), .no, .no]) (xs := []) rfl rfl)) rfl rfl hc rfl
  have al : dAll (.lst ((intsR 0 cs.length).map fun _ => .bl true)) = .ok (.bl true) := by rw [dAll_map (f := fun _ => true)]; simp
  refine Wn.eq ?_
  unfold M_law
  rw [wn_seq]
  simp [hh, wn_seq, wn_eq a1, wn_eq (law_lc hK0 hK hr h1 h2), al]
end AH
namespace AH
open PySem L2
variable [TheK]
/-! ### defs, as wishes -/
def WE (ms : List Md) (o : Out) (e : Env) (Q : D → List (List D) → Prop) : Prop := match lentOf ms e with
  | some bs => (match o with
    | .rt d => Q d bs
    | .nx => Q .non bs
    | _ => False)
  | none => False
theorem wf_mkF {n : Nat} {ms : List Md} {b : DS} {ds : List D} {Q : D → List (List D) → Prop} {E : Str → List D → List (List D) → Prop} (h : lstsOk ms ds = true) : WF (mkF n ms b ds) Q E = Wn b (startE ms ds ++ List.replicate (n - ms.length) .no) (fun o e => WE ms o e Q) (fun c fs e => match lentOf ms e with | some bs => E c fs bs | none => False) := by
  unfold mkF
  simp only [h, Bool.not_true, Bool.false_eq_true, if_false]
  unfold Wn WE
  cases b (startE ms ds ++ List.replicate (n - ms.length) .no) with
  | ok o e =>
    simp only
    cases o with
    | rt d => simp only; cases lentOf ms e <;> (unfold WF; rfl)
    | nx => simp only; cases lentOf ms e <;> (unfold WF; rfl)
    | bk => simp only; cases lentOf ms e <;> (unfold WF; rfl)
    | ct => simp only; cases lentOf ms e <;> (unfold WF; rfl)
  | ex c fs e => simp only; cases lentOf ms e <;> (unfold WF; rfl)
  | bad => (unfold WF; rfl)
@[simp] theorem we_nil {o : Out} {e : Env} {Q : D → List (List D) → Prop} : WE [] o e Q = (match o with | .rt d => Q d [] | .nx => Q .non [] | _ => False) := by
  unfold WE; cases e <;> rfl
@[simp] theorem we_val {ms : List Md} {s : Sl} {o : Out} {e : Env} {Q : D → List (List D) → Prop} : WE (.val :: ms) o (s :: e) Q = WE ms o e Q := by
  have h : lentOf (.val :: ms) (s :: e) = lentOf ms e := by cases s <;> rfl
  unfold WE; rw [h]
@[simp] theorem we_ro {ms : List Md} {s : Sl} {o : Out} {e : Env} {Q : D → List (List D) → Prop} : WE (.ro :: ms) o (s :: e) Q = WE ms o e Q := by
  have h : lentOf (.ro :: ms) (s :: e) = lentOf ms e := by cases s <;> rfl
  unfold WE; rw [h]
@[simp] theorem we_bor {ms : List Md} {xs : List D} {o : Out} {e : Env} {Q : D → List (List D) → Prop} : WE (.bor :: ms) o (.bor xs :: e) Q = WE ms o e (fun d bs => Q d (xs :: bs)) := by
  unfold WE
  rw [lentOf]
  cases lentOf ms e <;> rfl
/-! ### loops that look for a thing that is not so -/
/-- .. that appends drawn things to a list in slot j -/
@[simp] theorem we_rt_bor {xs : List D} {d : D} {e : Env} {Q : D → List (List D) → Prop} : WE [.bor] (.rt d) (.bor xs :: e) Q = Q d [xs] := by simp
end AH
namespace AH
open PySem L2
variable [TheK]
section
variable {e : Env} {i j l : Nat} {a b c : DE} {E : Str → List D → Env → Prop} {Q : Out → Env → Prop}
@[simp] theorem wn_par_vv : Wn (sPar [(i, false), (j, false)] [.e a, .e b]) e Q E = Wn a e (fun x e1 => Wn b e1 (fun y e2 => isFix (sl e2 i) = false ∧ isFix (sl (put e2 i (.val x)) j) = false ∧ Q .nx (put (put e2 i (.val x)) j (.val y))) E) E := by
  simp only [sPar, argsV, wn_bind, wn_pure, allL, Option.map]
  congr 1; funext x e1; congr 1; funext y e2
  unfold Wn
  simp only [parPut]
  cases isFix (sl e2 i) <;> cases isFix (sl (put e2 i (.val x)) j) <;> simp
@[simp] theorem wn_par_vn : Wn (sPar [(i, false), (j, true)] [.e a, .new b]) e Q E = Wn a e (fun x e1 => Wn b e1 (fun y e2 => WM y fun ys => isFix (sl e2 i) = false ∧ isFix (sl (put e2 i (.val x)) j) = false ∧ j < e2.length ∧ Q .nx (put (put e2 i (.val x)) j (.own ys))) E) E := by
  simp only [sPar, argsV, wn_bind, wn_pure, allL, Option.map]
  congr 1; funext x e1; congr 1; funext y e2
  cases y with
  | lst ys =>
    unfold Wn
    simp only [parPut, wm_lst, put_len]
    cases isFix (sl e2 i) <;> cases isFix (sl (put e2 i (.val x)) j) <;> by_cases h : j < e2.length <;> simp [h]
  | _ =>
    unfold Wn
    simp only [parPut]
    cases isFix (sl e2 i) <;> rfl
@[simp] theorem wn_par_nv : Wn (sPar [(i, true), (j, false)] [.new a, .e b]) e Q E = Wn a e (fun x e1 => Wn b e1 (fun y e2 => WM x fun xs => isFix (sl e2 i) = false ∧ i < e2.length ∧ isFix (sl (put e2 i (.own xs)) j) = false ∧ Q .nx (put (put e2 i (.own xs)) j (.val y))) E) E := by
  simp only [sPar, argsV, wn_bind, wn_pure, allL, Option.map]
  congr 1; funext x e1; congr 1; funext y e2
  cases x with
  | lst xs =>
    unfold Wn
    simp only [parPut, wm_lst]
    cases isFix (sl e2 i) <;> cases isFix (sl (put e2 i (.own xs)) j) <;> by_cases h : i < e2.length <;> simp [h]
  | _ => (unfold Wn; rfl)
@[simp] theorem wn_par_vvv : Wn (sPar [(i, false), (j, false), (l, false)] [.e a, .e b, .e c]) e Q E = Wn a e (fun x e1 => Wn b e1 (fun y e2 => Wn c e2 (fun z e3 => isFix (sl e3 i) = false ∧ isFix (sl (put e3 i (.val x)) j) = false ∧ isFix (sl (put (put e3 i (.val x)) j (.val y)) l) = false ∧ Q .nx (put (put (put e3 i (.val x)) j (.val y)) l (.val z))) E) E) E := by
  simp only [sPar, argsV, wn_bind, wn_pure, allL, Option.map]
  congr 1; funext x e1; congr 1; funext y e2; congr 1; funext z e3
  unfold Wn
  simp only [parPut]
  cases isFix (sl e3 i) <;> cases isFix (sl (put e3 i (.val x)) j) <;> cases isFix (sl (put (put e3 i (.val x)) j (.val y)) l) <;> simp
end
/-! ### plain data; few items -/
theorem plainL_iff {n : Nat} : ∀ {xs : List D}, D.plainL n xs = true ↔ ∀ x ∈ xs, D.plain n x = true
  | [] => by simp [D.plainL]
  | x :: xs => by simp [D.plainL, plainL_iff (xs := xs)]
theorem sm_plain : ∀ {n m : Nat} {d : D}, d.sm n = true → n ≤ m → d.plain m = true := by
  intro n
  induction n with
  | zero => intro m d h _; cases d <;> first | (cases m <;> rfl) | (cases m <;> exact h) | (cases h)
  | succ n ih =>
    intro m d h hm
    cases m with
    | zero => omega
    | succ m =>
      cases d with
      | tup xs =>
        rw [sm_tup] at h
        show D.plainL m xs = true
        exact plainL_iff.mpr fun x hx => ih (h.2 x hx) (by omega)
      | lst xs =>
        rw [sm_lst] at h
        show D.plainL m xs = true
        exact plainL_iff.mpr fun x hx => ih (h.2 x hx) (by omega)
      | dic _ => cases h
      | exc _ _ _ => cases h
      | obj _ => cases h
      | str s => exact h
      | _ => rfl
/-- data of a depth, its lists of at most b items -/
def D.fit (b : Nat) : Nat → D → Prop
  | _, .non => True
  | _, .bl _ => True
  | _, .int _ => True
  | _, .str s => PySem.PyData.strOk s = true
  | n + 1, .tup xs => xs.length ≤ b ∧ ∀ x ∈ xs, D.fit b n x
  | n + 1, .lst xs => xs.length ≤ b ∧ ∀ x ∈ xs, D.fit b n x
  | _, _ => False
end AH
namespace AH
open PySem L2
variable [TheK]
/-! ### numbers, rows of numbers -/
def nnB (l : Int) : D → Bool
  | .int a => decide (l ≤ a)
  | _ => false
def rowB (s l : Int) : D → Bool
  | .tup xs => decide ((xs.length : Int) = s) && xs.all (nnB l)
  | _ => false
/-! ### drawn rows -/
/-- a row of numbers from 0, below a bound -/
def Row (s : Nat) (t : Int) (d : D) : Prop := ∃ ns : List Int, d = .tup (ns.map D.int) ∧ ns.length = s ∧ ∀ n ∈ ns, 0 ≤ n ∧ n ≤ t
theorem wn_lendE3 {f : DF} {a b c : DE} {xs : List D} {e : Env} {x y z : D} {Q : D → Env → Prop} {E : Str → List D → Env → Prop} (ha : a (.bor xs :: e) = .ok x (.bor xs :: e)) (hb : b (.bor xs :: e) = .ok y (.bor xs :: e)) : Wn (eCall f [.lend 0, .e a, .e b]) (.bor xs :: e) Q E = WF (f [.lst xs, x, y]) (fun d bs => ∃ ys, bs = [ys] ∧ Q d (.bor ys :: e)) (fun c fs bs => ∃ ys, bs = [ys] ∧ E c fs (.bor ys :: e)) := by
  rw [wn_call]
  simp only [argsV, wn_bind, wn_pure, wn_tmp, x_sl0, wt_bor, wn_eq ha, wn_eq hb, lends, List.all_cons, List.all_nil, Bool.and_true, isL, true_and, argsD, argD, slD]
  congr 1
  · funext d bs
    match bs with
    | [] => simp [giveBack]
    | [ys] => simp [giveBack]
    | _ :: _ :: _ => simp [giveBack]
  · funext c fs bs
    match bs with
    | [] => simp [giveBack]
    | [ys] => simp [giveBack]
    | _ :: _ :: _ => simp [giveBack]
theorem lend2 {f : DF} {a : DE} {xs xs' : List D} {e e' : Env} {x : D} {Q : D → Env → Prop} {E : Str → List D → Env → Prop} (ha : a (.bor xs :: e) = .ok x (.bor xs' :: e')) (h : WF (f [.lst xs', x]) (fun d bs => ∃ ys, bs = [ys] ∧ Q d (.bor ys :: e')) (fun c fs bs => ∃ ys, bs = [ys] ∧ E c fs (.bor ys :: e'))) : Wn (eCall f [.lend 0, .e a]) (.bor xs :: e) Q E := by
  rw [wn_lendE ha]; exact h
theorem lend3 {f : DF} {a b : DE} {xs : List D} {e : Env} {x y : D} {Q : D → Env → Prop} {E : Str → List D → Env → Prop} (ha : a (.bor xs :: e) = .ok x (.bor xs :: e)) (hb : b (.bor xs :: e) = .ok y (.bor xs :: e)) (h : WF (f [.lst xs, x, y]) (fun d bs => ∃ ys, bs = [ys] ∧ Q d (.bor ys :: e)) (fun c fs bs => ∃ ys, bs = [ys] ∧ E c fs (.bor ys :: e))) : Wn (eCall f [.lend 0, .e a, .e b]) (.bor xs :: e) Q E := by
  rw [wn_lendE3 (c := eC .non) (z := .non) ha hb]; exact h
/-- a loop that fills the list in the last used slot with drawn things -/
theorem fill {α : Type} {g : DG} {b : DS} {c : Nat} {enc : α → D} {P : α → Prop} {st : List D → List D → Env} {E : Str → List D → Env → Prop} {m : Nat}
    (hs : ∀ (n : Nat) (x : D) (bx fs : List D), fs.length < m → Bx (n + c) bx → Wn (g x) (st bx fs) (fun _ e1 => Wn b e1 (fun o e2 => o = .nx ∧ ∃ by_ y, P y ∧ e2 = st by_ (fs ++ [enc y]) ∧ Bx n by_) NoE) NoE) :
    ∀ {xs : List D} {n : Nat} {bx : List D} {L : List α} {Q : Out → Env → Prop}, xs.length + L.length ≤ m → (∀ y ∈ L, P y) → Bx (n + c * xs.length) bx → (∀ (by_ : List D) (L' : List α), L'.length = xs.length + L.length → (∀ y ∈ L', P y) → Bx n by_ → Q .nx (st by_ (L'.map enc))) → Wn (loop g b xs) (st bx (L.map enc)) Q E
  | [], n, bx, L, Q, hl, hL, hb, q => by
    rw [wn_eq (show loop g b [] (st bx (L.map enc)) = .ok .nx (st bx (L.map enc)) from rfl)]
    exact q bx L (by simp) hL hb
  | x :: xs, n, bx, L, Q, hl, hL, hb, q => by
    rw [List.length_cons] at hl
    unfold loop
    rw [wn_bind]
    refine (hs (n + c * xs.length) x bx (L.map enc) (by rw [List.length_map]; omega) (by rw [List.length_cons] at hb; exact hb.le (by rw [Nat.mul_succ]; omega))).imp (fun _ e1 h1 => ?_) fun _ _ _ z => z.elim
    rw [wn_bind]
    refine h1.imp (fun o e2 h2 => ?_) fun _ _ _ z => z.elim
    obtain ⟨rfl, by_, y, hy, rfl, h3⟩ := h2
    have e : L.map enc ++ [enc y] = (L ++ [y]).map enc := by simp
    rw [e]
    refine fill hs (by simp; omega) (fun z hz => ?_) h3 fun by2 L' hl' hL' hb' => q by2 L' (by rw [hl', List.length_append, List.length_cons, List.length_cons, List.length_nil]; omega) hL' hb'
    rcases List.mem_append.mp hz with hz | hz
    · exact hL z hz
    · rw [List.mem_singleton.mp hz]; exact hy
theorem hands_ok {n s : Nat} {t : Int} {xs : List D} {Q : D → List (List D) → Prop} {E : Str → List D → List (List D) → Prop} (hs : s ≤ 1000) (ht : 0 ≤ t) (ht2 : t < 2 ^ 139) (hb : Bx (n + 2 * s) xs) (q : ∀ d ys, Row s t d → Bx n ys → Q d [ys]) : WF (f_law_hands [.lst xs, .int s, .int t]) Q E := by
  rw [f_law_hands, wf_mkF rfl]
  simp only [startE, m_law_hands, wn_seq]
  simp [l_law_hands_1, wn_seq]
  refine ⟨by omega, ?_⟩
  refine fill (α := Int) (enc := D.int) (P := fun v => 0 ≤ v ∧ v ≤ t) (c := 2) (m := 1000) (L := []) (n := n) (st := fun bx fs => [.bor bx, .val (.int s), .val (.int t), .own fs, .no]) (fun k x bx fs hf hbx => ?_) (by rw [rng_len]; simp; omega) (by simp) (by rw [rng_len]; exact hb.le (by omega)) fun by_ L' hl hL hb' => ?_
  · simp only [b_law_hands_1, wn_sFg]
    simp only [wn_gN, x_slS, x_sl0, x_isOwn1, true_and, x_putS, x_put0, wn_sApp, wq_own, wn_eIf, wn_c2]
    refine wn_take (b := 4) rfl hbx (by omega) (by omega) fun v ys h0 h1 hy => ?_
    by_cases hv : 0 < v
    · simp only [wn_c, dGt_int, wr_ok, hv, decide_true, if_true]
      refine wn_take (b := t + 1) rfl hy (by omega) (by omega) fun u zs h2 h3 hz => ?_
      simp
      exact ⟨by omega, zs, u, ⟨h2, by omega⟩, ⟨rfl, rfl⟩, hz⟩
    · simp [hv]
      exact ⟨by omega, ys, 0, ⟨by omega, ht⟩, ⟨rfl, rfl⟩, hy.le (by omega)⟩
  · rw [rng_len] at hl
    simp
    exact q _ by_ ⟨L', rfl, by simp at hl; omega, hL⟩ hb'
end AH
namespace AH
open PySem L2
variable [TheK]
/-! ### drawn ranges -/
def encR (p : Int × Int) : D := .tup [.int p.1, .int p.2]
end AH
namespace AH
open PySem L2
variable [TheK]
@[simp] theorem perm_nil {α : Type} {l : List α} : perm [] l = [] := rfl
@[simp] theorem perm_cons {α : Type} {l : List α} {i : Nat} {ix : List Nat} : perm (i :: ix) l = (match l[i]? with | some x => x :: perm ix l | none => perm ix l) := by
  unfold perm
  rw [List.filterMap_cons]
  cases l[i]? <;> rfl
/-! ### stretches -/
@[simp] theorem xa_ns1 {x y : D} : dXa "first" (.exc "NoStretch" [] [x, y]) = .ok x := rfl
@[simp] theorem xa_ns2 {x y : D} : dXa "last" (.exc "NoStretch" [] [x, y]) = .ok y := rfl
@[simp] theorem xa_tf1 {x y : D} : dXa "first" (.exc "TooFew" [] [x, y]) = .ok x := rfl
@[simp] theorem xa_tf2 {x y : D} : dXa "last" (.exc "TooFew" [] [x, y]) = .ok y := rfl
@[simp] theorem xa_nh {x : D} : dXa "hour" (.exc "NoHour" [] [x]) = .ok x := rfl
@[simp] theorem xa_bl {x : D} : dXa "number" (.exc "BadLine" [] [x]) = .ok x := rfl
@[simp] theorem isx_ns {fs : List D} : dIsX false (.exc "NoStretch" [] fs) = .ok (.bl true) := rfl
@[simp] theorem isx_nh {fs : List D} : dIsX false (.exc "NoHour" [] fs) = .ok (.bl true) := rfl
@[simp] theorem isx_tf {fs : List D} : dIsX true (.exc "TooFew" [] fs) = .ok (.bl true) := rfl
@[simp] theorem isx_bl {fs : List D} : dIsX true (.exc "BadLine" [] fs) = .ok (.bl true) := rfl
@[simp] theorem isx_ul {fs : List D} : dIsX true (.exc "Unlike" [] fs) = .ok (.bl true) := rfl
@[simp] theorem isx_uf {fs : List D} : dIsX true (.exc "Unfit" [] fs) = .ok (.bl true) := rfl
@[simp] theorem isx_nm {fs : List D} : dIsX true (.exc "NoMove" [] fs) = .ok (.bl true) := rfl
def spansL (s : Int) : List (Int × Int) := (intsR 0 s).flatMap fun a => (intsR a s).map fun b => (a, b)
theorem mem_spansL {s : Int} {p : Int × Int} : p ∈ spansL s ↔ 0 ≤ p.1 ∧ p.1 ≤ p.2 ∧ p.2 < s := by
  unfold spansL
  rw [List.mem_flatMap]
  constructor
  · rintro ⟨a, ha, hp⟩
    obtain ⟨b, hb, rfl⟩ := List.mem_map.mp hp
    rw [mem_intsR] at ha hb
    exact ⟨ha.1, hb.1, hb.2⟩
  · rintro ⟨h0, h1, h2⟩
    exact ⟨p.1, mem_intsR.mpr ⟨h0, by omega⟩, List.mem_map.mpr ⟨p.2, mem_intsR.mpr ⟨h1, h2⟩, rfl⟩⟩
theorem flat_len {α β : Type} {f : α → List β} {m : Nat} : ∀ {L : List α}, (∀ x ∈ L, (f x).length ≤ m) → (L.flatMap f).length ≤ L.length * m
  | [], _ => by simp
  | x :: L, h => by
    have h1 := h x List.mem_cons_self
    have h2 := flat_len (L := L) fun y hy => h y (List.mem_cons_of_mem _ hy)
    rw [List.flatMap_cons, List.length_append, List.length_cons, Nat.succ_mul]
    omega
theorem spansL_len {s : Int} (h : 0 ≤ s) : (spansL s).length ≤ s.toNat * s.toNat := by
  have := flat_len (L := intsR 0 s) (f := fun a => (intsR a s).map fun b => (a, b)) (m := s.toNat) fun x hx => by
    have := mem_intsR.mp hx
    rw [List.length_map, intsR_len]
    omega
  rw [intsR_len] at this
  have e : (s - 0).toNat = s.toNat := by rw [Int.sub_zero]
  rw [e] at this
  exact this
theorem spans_ok {s : Int} (h0 : 0 ≤ s) (h1 : s ≤ 100) : f_law_spans [.int s] = .ok (.lst ((spansL s).map encR)) [] := by
  have sq : s.toNat * s.toNat ≤ 10000 := Nat.mul_le_mul (show s.toNat ≤ 100 by omega) (show s.toNat ≤ 100 by omega)
  have pre : ∀ (L : List Int) (M : List Int), M ++ L = intsR 0 s → ((M.flatMap fun a => (intsR a s).map fun b => (a, b)).length ≤ 10000) := fun L M e => by
    have : (spansL s).length ≤ 10000 := Nat.le_trans (spansL_len h0) sq
    unfold spansL at this
    rw [← e, List.flatMap_append, List.length_append] at this
    omega
  have key : ∀ (L M : List Int), M ++ L = intsR 0 s → loop (gN 2) b_law_spans_1 (L.map D.int) [.val (.int s), .val (.lst ((M.flatMap fun a => (intsR a s).map fun b => (a, b)).map encR)), .no, .no] = .ok .nx [.val (.int s), .val (.lst ((spansL s).map encR)), .no, .no] := by
    intro L
    induction L with
    | nil =>
      intro M e
      rw [List.append_nil] at e
      subst e
      rfl
    | cons x L ih =>
      intro M e
      rw [List.map_cons]
      have hx : 0 ≤ x ∧ x < s := mem_intsR.mp (by rw [← e]; simp)
      have ih := ih (M ++ [x]) (by rw [List.append_assoc]; exact e)
      have pl := pre L (M ++ [x]) (by rw [List.append_assoc]; exact e)
      rw [loop_cons (e' := [.val (.int s), .val (.lst (((M ++ [x]).flatMap fun a => (intsR a s).map fun b => (a, b)).map encR)), .no, .no]), ih]
      have lc : c_law_spans_1 [.val (.int s), .val (.lst ((M.flatMap fun a => (intsR a s).map fun b => (a, b)).map encR)), .val (.int x), .no] = .ok (.lst ((intsR x s).map fun b => encR (x, b))) [.val (.int s), .val (.lst ((M.flatMap fun a => (intsR a s).map fun b => (a, b)).map encR)), .val (.int x), .no] := by
        unfold c_law_spans_1
        refine lc_map (L := intsR x s) (enc := D.int) (fun b => encR (x, b)) ?_ rfl (by rw [intsR_len]; omega) fun y hy => ?_
        · refine Wn.eq ?_
          simp [rng_eq]
          omega
        · simp [wipeE, encR]
      have ee : ((M ++ [x]).flatMap fun a => (intsR a s).map fun b => (a, b)).map encR = (M.flatMap fun a => (intsR a s).map fun b => (a, b)).map encR ++ (intsR x s).map fun b => encR (x, b) := by
        rw [List.flatMap_append, List.map_append]
        congr 1
        simp [Function.comp_def]
      have ln : ((M.flatMap fun a => (intsR a s).map fun b => (a, b)).map encR).length + ((intsR x s).map fun b => encR (x, b)).length ≤ 100000 := by
        have := congrArg List.length ee
        rw [List.length_append, List.length_map] at this
        omega
      rw [ee]
      unfold b_law_spans_1
      simp only [wn_gN, x_slS, x_sl0, x_isOwn1, true_and, x_putS, x_put0, wn_sFg, wn_sAsgN, wn_e2, wn_var, ws_val, wn_eq lc, dAdd_lst, lenOk_iff.mpr ln, if_true, wr_ok, x_isFix1, wo_nx]
      simp
  have k0 := key (intsR 0 s) [] rfl
  refine WF.eq ?_
  rw [f_law_spans, wf_mkF rfl]
  simp only [startE, m_law_spans, wn_seq]
  simp [l_law_spans_1, rng_eq]
  refine ⟨by omega, ?_⟩
  have k0 : loop (gN 2) b_law_spans_1 ((intsR 0 s).map D.int) [.val (.int s), .val (.lst []), .no, .no] = .ok .nx [.val (.int s), .val (.lst ((spansL s).map encR)), .no, .no] := k0
  rw [wn_eq k0]
  simp
/-! ### rows, by index -/
def sq (k : Bool) (xs : List D) : D := if k then .tup xs else .lst xs
@[simp] theorem seqD_sq {k : Bool} {xs : List D} : seqD (sq k xs) = some xs := by cases k <;> rfl
@[simp] theorem dLen_sq {k : Bool} {xs : List D} : dLen (sq k xs) = .ok (.int xs.length) := by cases k <;> rfl
@[simp] theorem wl_sq {k : Bool} {xs : List D} {Q : List D → Prop} : WL (sq k xs) Q = Q xs := by cases k <;> rfl
@[simp] theorem dSl_sq {k : Bool} {xs : List D} {l h : Option Int} : dSl (sq k xs) l h = .ok (sq k (cut xs l h)) := by cases k <;> rfl
@[simp] theorem dIx_sq {k : Bool} {xs : List D} {i : Int} : dIx (sq k xs) (.int i) = (match atI xs i with | some v => .ok v | none => .bad) := by cases k <;> rfl
@[simp] theorem dList_sq {k : Bool} {xs : List D} : dList (sq k xs) = .ok (.lst xs) := by cases k <;> rfl
@[simp] theorem dTuple_sq {k : Bool} {xs : List D} : dTuple (sq k xs) = .ok (.tup xs) := by cases k <;> rfl
theorem sq_true {xs : List D} : sq true xs = .tup xs := rfl
theorem sq_false {xs : List D} : sq false xs = .lst xs := rfl
/-- the box is lent, an argument draws from it -/
theorem dEq_nilL {n : Nat} {xs : List D} (h : (D.lst xs).sm n = true) (hn : n ≤ 40) : dEq (.lst xs) (.lst []) = .ok xs.isEmpty := by
  have h1 : D.plain 40 (.lst xs) = true := sm_plain h hn
  have h2 : D.plain 40 (.lst []) = true := rfl
  have h3 : D.eqv (.lst xs) (.lst []) = xs.isEmpty := by cases xs <;> rfl
  unfold dEq
  rw [h1, h2, h3]
  rfl
end AH
namespace AH
open PySem L2
variable [TheK]
/-! ### comprehensions over two sources -/
theorem compL_map {T : Type} {vs : List Nat} {e0 e : Env} {g : DG} {t : DT} {a : DE} {enc : T → D} (p : T → Bool) (f : T → D) : ∀ {L : List T}, (∀ y ∈ L, Wn (g (enc y)) e (fun _ e1 => wipeE e1 vs = e ∧ Wn t e1 (fun k e2 => k = p y ∧ e2 = e1) NoE ∧ (p y = true → Wn a e1 (fun d e2 => d = f y ∧ e2 = e1) NoE)) NoE) → compL vs e0 g t a (L.map enc) e = .ok ((L.filter p).map f) e := by
  intro L
  induction L with
  | nil => intro _; rfl
  | cons y L ih =>
    intro h
    have h1 := h y List.mem_cons_self
    have ih := ih fun z hz => h z (List.mem_cons_of_mem _ hz)
    refine Wn.eq ?_
    rw [List.map_cons]
    unfold compL
    show Wn (M.bind _ _) _ _ _
    rw [wn_bind]
    refine h1.imp fun _ e1 h2 => ?_
    obtain ⟨hw, ht, ha⟩ := h2
    rw [wn_bind]
    refine ht.imp fun k e2 hk => ?_
    obtain ⟨rfl, rfl⟩ := hk
    rw [wn_bind]
    cases hp : p y with
    | false =>
      simp only [Bool.false_eq_true, if_false, wn_pure]
      rw [wn_wipe, wn_bind, hw, wn_eq ih]
      simp [hp]
    | true =>
      simp only [if_true, wn_bind, wn_pure]
      refine (ha hp).imp fun d e3 hd => ?_
      obtain ⟨rfl, rfl⟩ := hd
      rw [wn_wipe, wn_bind, hw, wn_eq ih]
      simp [hp]
theorem lc2_map {T U : Type} {vs vs1 : List Nat} {it it1 : DI} {g g1 : DG} {t t1 : DT} {a : DE} {e : Env} {L : List T} {L1 : T → List U} {enc : T → D} {enc1 : U → D} (q : T → Bool) (p : T → U → Bool) (f : T → U → D) (hi : it e = .ok (L.map enc) e) (hv : (vs.any fun v => isOwn (sl e v)) = false) (hl : len2Ok L.length = true)
    (h : ∀ y ∈ L, Wn (g (enc y)) (wipeE e vs) (fun _ e1 => Wn t e1 (fun k e2 => k = q y ∧ e2 = e1) NoE ∧ (q y = false → wipeE e1 vs = wipeE e vs) ∧ (q y = true → (vs1.any fun v => isOwn (sl e1 v)) = false ∧ wipeE (wipeE e1 vs1) vs = wipeE e vs ∧ len2Ok (L1 y).length = true ∧ it1 e1 = .ok ((L1 y).map enc1) e1 ∧
      ∀ z ∈ L1 y, Wn (g1 (enc1 z)) (wipeE e1 vs1) (fun _ e2 => wipeE e2 vs1 = wipeE e1 vs1 ∧ Wn t1 e2 (fun k e3 => k = p y z ∧ e3 = e2) NoE ∧ (p y z = true → Wn a e2 (fun d e3 => d = f y z ∧ e3 = e2) NoE)) NoE)) NoE) :
    eLc2 vs vs1 it g t it1 g1 t1 a e = .ok (.lst ((L.filter q).flatMap fun y => ((L1 y).filter (p y)).map (f y))) e := by
  have key : ∀ L : List T, (∀ y ∈ L, Wn (g (enc y)) (wipeE e vs) (fun _ e1 => Wn t e1 (fun k e2 => k = q y ∧ e2 = e1) NoE ∧ (q y = false → wipeE e1 vs = wipeE e vs) ∧ (q y = true → (vs1.any fun v => isOwn (sl e1 v)) = false ∧ wipeE (wipeE e1 vs1) vs = wipeE e vs ∧ len2Ok (L1 y).length = true ∧ it1 e1 = .ok ((L1 y).map enc1) e1 ∧
      ∀ z ∈ L1 y, Wn (g1 (enc1 z)) (wipeE e1 vs1) (fun _ e2 => wipeE e2 vs1 = wipeE e1 vs1 ∧ Wn t1 e2 (fun k e3 => k = p y z ∧ e3 = e2) NoE ∧ (p y z = true → Wn a e2 (fun d e3 => d = f y z ∧ e3 = e2) NoE)) NoE)) NoE) →
      compL2 vs vs1 g t it1 g1 t1 a (L.map enc) (wipeE e vs) = .ok ((L.filter q).flatMap fun y => ((L1 y).filter (p y)).map (f y)) (wipeE e vs) := by
    intro L
    induction L with
    | nil => intro _; rfl
    | cons y L ih =>
      intro h
      have h1 := h y List.mem_cons_self
      have ih := ih fun z hz => h z (List.mem_cons_of_mem _ hz)
      refine Wn.eq ?_
      rw [List.map_cons]
      unfold compL2
      rw [wn_bind]
      refine h1.imp fun _ e1 h2 => ?_
      obtain ⟨ht, hno, hyes⟩ := h2
      rw [wn_bind]
      refine ht.imp fun k e2 hk => ?_
      obtain ⟨rfl, rfl⟩ := hk
      rw [wn_bind]
      cases hp : q y with
      | false =>
        simp only [Bool.false_eq_true, if_false, wn_pure]
        rw [wn_wipe, wn_bind, hno hp, wn_eq ih]
        simp [hp]
      | true =>
        obtain ⟨v1, w1, l1, i1, z1⟩ := hyes hp
        simp only [if_true, wn_bind, wn_eq i1]
        have l1' : len2Ok ((L1 y).map enc1).length = true := by rw [List.length_map]; exact l1
        have c := compL_map (e0 := e2) (p y) (f y) z1
        have c2 : (fun e => if (vs1.any fun v => isOwn (sl e v)) || !len2Ok ((L1 y).map enc1).length then .bad else compL vs1 e g1 t1 a ((L1 y).map enc1) (wipeE e vs1) : M (List D)) e2 = .ok (((L1 y).filter (p y)).map (f y)) (wipeE e2 vs1) := by
          simp only [v1, l1', Bool.not_true, Bool.or_self, Bool.false_eq_true, if_false]
          exact c
        rw [wn_eq c2, wn_wipe, wn_bind, w1, wn_eq ih]
        simp [hp]
  unfold eLc2
  rw [bind_ok hi]
  have hl' : len2Ok (L.map enc).length = true := by rw [List.length_map]; exact hl
  simp only [hv, hl', Bool.not_true, Bool.or_self]
  unfold noX
  rw [key L h]
  show R.ok (D.lst _) (back e (wipeE e vs) vs) = _
  rw [back_wipe]
theorem len2_ok {n : Nat} (h : n ≤ 1000) : len2Ok n = true := decide_eq_true (by omega)
/-! ### all stretches -/
theorem str_ok {s : Int} (h0 : 0 ≤ s) (h1 : s ≤ 100) : f_all_stretches [.int s] = .ok (.lst ((spansL s).map encR)) [] := by
  have lc : c_all_stretches_1 [.val (.int s), .no, .no] = .ok (.lst ((spansL s).map encR)) [.val (.int s), .no, .no] := by
    unfold c_all_stretches_1
    have := lc2_map (T := Int) (U := Int) (vs := [1, 2]) (vs1 := [2]) (it := iRng1 (eVar 0)) (it1 := iRng2 (eVar 1) (eVar 0)) (g := gN 1) (g1 := gN 2) (t := tYes) (t1 := tYes) (a := eTup (aCons (eVar 1) (aCons (eVar 2) aNil))) (e := [.val (.int s), .no, .no]) (L := intsR 0 s) (L1 := fun a => intsR a s) (enc := D.int) (enc1 := D.int) (fun _ => true) (fun _ _ => true) (fun a b => encR (a, b))
      (Wn.eq (by simp [rng_eq]; omega)) rfl (len2_ok (by rw [intsR_len]; omega)) fun y hy => by
        have hy := mem_intsR.mp hy
        simp only [wn_gN, wipeE, x_slS, x_sl0, x_isOwn1, true_and, x_putS, x_put0]
        exact ⟨(wn_eq rfl).mpr ⟨rfl, rfl⟩, fun _ => trivial, fun _ => ⟨rfl, len2_ok (by rw [intsR_len]; omega), Wn.eq (by simp [rng_eq]; omega), fun z hz => ⟨(wn_eq rfl).mpr ⟨rfl, rfl⟩, fun _ => by simp [encR]⟩⟩⟩
    rw [this]
    congr 2
    unfold spansL
    rw [List.map_flatMap, List.filter_eq_self.mpr fun _ _ => rfl]
    congr 1
    funext a
    rw [List.filter_eq_self.mpr fun _ _ => rfl, List.map_map]
    rfl
  refine WF.eq ?_
  rw [f_all_stretches, wf_mkF rfl]
  simp [startE, m_all_stretches, wn_eq lc]
end AH
namespace AH
open PySem L2
variable [TheK]
/-! ### lots -/
abbrev Er := (Int × Int) × Int
def encE (k : Bool) (it : Er) : D := sq k [sq k [.int it.1.1, .int it.1.2], .int it.2]
def lotD (k : Bool) (s : Int) (its : List Er) : D := sq k [.int s, sq k (its.map (encE k))]
structure Lot (s : Int) (t : Int) (its : List Er) : Prop where
  sub : (its.map (·.1)).Sublist (spansL s)
  pos : ∀ it ∈ its, 0 < it.2 ∧ it.2 ≤ t
theorem Lot.mem {s t : Int} {its : List Er} (h : Lot s t its) {it : Er} (hi : it ∈ its) : 0 ≤ it.1.1 ∧ it.1.1 ≤ it.1.2 ∧ it.1.2 < s := mem_spansL.mp (h.sub.mem (List.mem_map.mpr ⟨it, hi, rfl⟩))
theorem Lot.len {s t : Int} {its : List Er} (h : Lot s t its) : its.length ≤ (spansL s).length := by
  have := h.sub.length_le
  rwa [List.length_map] at this
theorem spans8 {s : Int} (h0 : 0 ≤ s) (h1 : s ≤ 8) : (spansL s).length ≤ 36 := by
  have : s = 0 ∨ s = 1 ∨ s = 2 ∨ s = 3 ∨ s = 4 ∨ s = 5 ∨ s = 6 ∨ s = 7 ∨ s = 8 := by omega
  rcases this with rfl | rfl | rfl | rfl | rfl | rfl | rfl | rfl | rfl <;> decide +kernel
/-- a loop that puts things, one or none a turn, to a list -/
theorem fillS {T α : Type} {g : DG} {b : DS} {c m : Nat} {enc : T → D} {en : α → D} {key : α → T} {P : α → Prop} {st : List D → List D → Env} {E : Str → List D → Env → Prop} :
    ∀ {L : List T} {n : Nat} {bx : List D} {M : List α} {Q : Out → Env → Prop}, (∀ (n : Nat) (y : T) (bx fs : List D), y ∈ L → fs.length < m → Bx (n + c) bx → Wn (g (enc y)) (st bx fs) (fun _ e1 => Wn b e1 (fun o e2 => o = .nx ∧ ∃ by_, Bx n by_ ∧ (e2 = st by_ fs ∨ ∃ z, key z = y ∧ P z ∧ e2 = st by_ (fs ++ [en z]))) NoE) NoE) →
      L.length + M.length ≤ m → Bx (n + c * L.length) bx → (∀ (by_ : List D) (zs : List α), (zs.map key).Sublist L → (∀ z ∈ zs, P z) → Bx n by_ → Q .nx (st by_ ((M ++ zs).map en))) → Wn (loop g b (L.map enc)) (st bx (M.map en)) Q E
  | [], n, bx, M, Q, hs, hl, hb, q => by
    rw [List.map_nil, wn_loop_nil]
    have := q bx [] (by simp) (by simp) (hb.le (by simp))
    rwa [List.append_nil] at this
  | y :: L, n, bx, M, Q, hs, hl, hb, q => by
    rw [List.length_cons] at hl hb
    rw [List.map_cons]
    unfold loop
    rw [wn_bind]
    refine (hs (n + c * L.length) y bx (M.map en) List.mem_cons_self (by rw [List.length_map]; omega) (hb.le (by rw [Nat.mul_succ]; omega))).imp (fun _ e1 h1 => ?_) fun _ _ _ z => z.elim
    rw [wn_bind]
    refine h1.imp (fun o e2 h2 => ?_) fun _ _ _ z => z.elim
    have hs' : ∀ (n : Nat) (z : T) (bx fs : List D), z ∈ L → fs.length < m → Bx (n + c) bx → Wn (g (enc z)) (st bx fs) (fun _ e1 => Wn b e1 (fun o e2 => o = .nx ∧ ∃ by_, Bx n by_ ∧ (e2 = st by_ fs ∨ ∃ w, key w = z ∧ P w ∧ e2 = st by_ (fs ++ [en w]))) NoE) NoE := fun n z bx fs hz => hs n z bx fs (List.mem_cons_of_mem _ hz)
    obtain ⟨rfl, by_, h3, rfl | ⟨z, hz, hP, rfl⟩⟩ := h2
    · exact fillS hs' (by omega) h3 fun by2 zs s1 s2 s3 => q by2 zs (s1.cons y) s2 s3
    · have e : M.map en ++ [en z] = (M ++ [z]).map en := by simp
      rw [e]
      refine fillS hs' (by rw [List.length_append]; simp; omega) h3 fun by2 zs s1 s2 s3 => ?_
      have := q by2 (z :: zs) (by rw [List.map_cons, hz]; exact s1.cons₂ y) (fun w hw => by
        rcases List.mem_cons.mp hw with rfl | hw
        · exact hP
        · exact s2 w hw) s3
      rw [List.append_assoc]
      exact this
theorem rel_sp {i : Nat} {e : Env} {Q : Out → Env → Prop} {E : Str → List D → Env → Prop} {xs : List D} (h : sl e i = .own xs) : Wn (sRelL i) e Q E = Q .nx (put e i (.val (.lst xs))) := by
  refine wn_eq ?_
  unfold sRelL
  rw [h]
theorem lot_ok {n : Nat} {s t : Int} {xs : List D} {Q : D → List (List D) → Prop} {E : Str → List D → List (List D) → Prop} (h0 : 0 ≤ s) (hs : s ≤ 8) (ht : 0 ≤ t) (ht2 : t < 2 ^ 139) (hb : Bx (n + 73) xs) (q : ∀ its ys, Lot s t its → Bx n ys → Q (lotD true s its) [ys]) : WF (f_law_lot [.lst xs, .int s, .int t]) Q E := by
  have sl36 := spans8 h0 hs
  have sp := spans_ok h0 (by omega)
  rw [f_law_lot, wf_mkF rfl]
  simp only [startE, m_law_lot, wn_seq, wn_par_vn]
  refine wn_take (n := n + 72) (b := 4) rfl hb (by omega) (by omega) fun v b1 v0 v1 hb1 => ?_
  simp [l_law_lot_1, sp]
  refine fillS (T := Int × Int) (α := Er) (enc := encR) (en := encE true) (key := (·.1)) (P := fun z => 0 < z.2 ∧ z.2 ≤ t) (c := 2) (m := 100) (M := []) (n := n) (st := fun bx fs => [.bor bx, .val (.int s), .val (.int t), .val (.int v), .own fs, .no, .no]) (fun k y bx fs hy hf hbx => ?_) (by simp; omega) (hb1.le (by omega)) fun by_ zs z1 z2 z3 => ?_
  · simp only [b_law_lot_1, wn_sFg, wn_seq]
    simp only [wn_gN, x_slS, x_sl0, x_isOwn1, true_and, x_putS, x_put0, wn_sAsgN, wn_eIf, wn_tOr, wn_c2, wn_var, ws_val, wn_c, dLt_int, wr_ok]
    have last : ∀ (u : Int) (zs : List D), 0 ≤ u → u ≤ t → Bx k zs → isFix (sl [.bor zs, .val (.int s), .val (.int t), .val (.int v), .own fs, .val (encR y), .no] 6) = false ∧ WO .nx (Wn (sIf (c2 dGt (eVar 6) (eC (.int 0))) (sApp 4 (eTup (aCons (eVar 5) (aCons (eVar 6) aNil)))) sNil) (put [.bor zs, .val (.int s), .val (.int t), .val (.int v), .own fs, .val (encR y), .no] 6 (.val (.int u)))
        (fun o e1 => o = .nx ∧ ∃ by_, Bx k by_ ∧ (fgO [5, 6] o e1 = [.bor by_, .val (.int s), .val (.int t), .val (.int v), .own fs, .no, .no] ∨ ∃ z : Er, z.1 = y ∧ (0 < z.2 ∧ z.2 ≤ t) ∧ fgO [5, 6] o e1 = [.bor by_, .val (.int s), .val (.int t), .val (.int v), .own (fs ++ [encE true z]), .no, .no])) NoE)
        (fun o => o = .nx ∧ ∃ by_, Bx k by_ ∧ (fgO [5, 6] o (put [.bor zs, .val (.int s), .val (.int t), .val (.int v), .own fs, .val (encR y), .no] 6 (.val (.int u))) = [.bor by_, .val (.int s), .val (.int t), .val (.int v), .own fs, .no, .no] ∨ ∃ z : Er, z.1 = y ∧ (0 < z.2 ∧ z.2 ≤ t) ∧ fgO [5, 6] o (put [.bor zs, .val (.int s), .val (.int t), .val (.int v), .own fs, .val (encR y), .no] 6 (.val (.int u))) = [.bor by_, .val (.int s), .val (.int t), .val (.int v), .own (fs ++ [encE true z]), .no, .no])) := by
      intro u zs u0 u1 hz
      by_cases hu : 0 < u
      · simp [hu]
        exact ⟨by omega, zs, hz, u, ⟨hu, u1⟩, rfl, rfl⟩
      · simp [hu]
        exact hz
    by_cases c1 : v < 1
    · simp only [c1, decide_true, if_true]
      refine wn_take (n := k) (b := t + 1) (Wn.eq (by simp)) (hbx.le (by omega)) (by omega) (by omega) fun u zs u0 u1 hz => ?_
      exact last u zs u0 (by omega) hz
    · simp only [c1, decide_false, Bool.false_eq_true, if_false]
      refine wn_take (n := k + 1) (b := 1 + v) (Wn.eq (by simp)) hbx (by omega) (by omega) fun u zs u0 u1 hz => ?_
      simp only [wn_c, dEq_int, wr_ok]
      by_cases c2 : u = 0
      · subst c2
        simp only [show ((0 : Int) == 0) = true from rfl, if_true]
        refine wn_take (n := k) (b := t + 1) (Wn.eq (by simp)) hz (by omega) (by omega) fun u2 zs2 w0 w1 hz2 => ?_
        exact last u2 zs2 w0 (by omega) hz2
      · simp only [show (u == 0) = false by simpa using c2, Bool.false_eq_true, if_false, wn_c]
        exact last 0 zs (by omega) ht (hz.le (by omega))
  · rw [List.nil_append]
    simp [rel_sp]
    exact q zs by_ ⟨z1, z2⟩ z3
/-! ### what a stretch asks -/
theorem ix0 {k : Bool} {x y : D} : dIx (sq k [x, y]) (.int 0) = .ok x := by cases k <;> rfl
theorem ix1 {k : Bool} {x y : D} : dIx (sq k [x, y]) (.int 1) = .ok y := by cases k <;> rfl
@[simp] theorem lot_ix0 {k : Bool} {s : Int} {its : List Er} : dIx (lotD k s its) (.int 0) = .ok (.int s) := ix0
@[simp] theorem lot_ix1 {k : Bool} {s : Int} {its : List Er} : dIx (lotD k s its) (.int 1) = .ok (sq k (its.map (encE k))) := ix1
end AH
namespace AH
open PySem L2
variable [TheK]
/-! ### wishes for dicts -/
section
variable {e : Env} {i j l : Nat} {a b c : DE} {E : Str → List D → Env → Prop} {kvs : List (List Key × D)} {xs : List D}
@[simp] theorem wt_ldc {Q : D → Prop} : WT (.ldc kvs) Q = Q (.dic kvs) := nr rfl
end
/-! ### dicts by windows -/
def keyR (p : Int × Int) : List Key := [.inl p.1, .inl p.2]
theorem keyR_inj {p q : Int × Int} : keyR p = keyR q ↔ p = q := by
  unfold keyR
  constructor
  · intro h
    simp at h
    exact Prod.ext h.1 h.2
  · intro h; rw [h]
def tabD (L : List (Int × Int)) (f : Int × Int → Int) : List (List Key × D) := L.map fun p => (keyR p, .int (f p))
theorem dput_in {L : List (Int × Int)} {f : Int × Int → Int} {q : Int × Int} {v : Int} (h : q ∈ L) : dput (tabD L f) (keyR q) (.int v) = tabD L fun p => if p = q then v else f p := by
  unfold dput
  have ha : ((tabD L f).any fun p => decide (p.1 = keyR q)) = true := by
    rw [List.any_eq_true]
    exact ⟨(keyR q, .int (f q)), List.mem_map.mpr ⟨q, h, rfl⟩, by simp⟩
  rw [ha, if_pos rfl]
  unfold tabD
  rw [List.map_map]
  apply List.map_congr_left
  intro p _
  show (if keyR p = keyR q then (keyR p, D.int v) else (keyR p, .int (f p))) = _
  by_cases hp : p = q
  · subst hp; simp
  · rw [if_neg (fun z => hp (keyR_inj.mp z))]
    simp [hp]
theorem dput_out {L : List (Int × Int)} {f : Int × Int → Int} {q : Int × Int} {v : Int} (h : q ∉ L) : dput (tabD L f) (keyR q) (.int v) = tabD (L ++ [q]) fun p => if p = q then v else f p := by
  unfold dput
  have ha : ((tabD L f).any fun p => decide (p.1 = keyR q)) = false := by
    rw [List.any_eq_false]
    intro x hx
    obtain ⟨p, hp, rfl⟩ := List.mem_map.mp hx
    simp [keyR_inj]
    exact fun z => h (z ▸ hp)
  rw [ha, if_neg (by simp)]
  unfold tabD
  rw [List.map_append]
  congr 1
  · apply List.map_congr_left
    intro p hp
    have : p ≠ q := fun z => h (z ▸ hp)
    simp [this]
  · simp
end AH
namespace AH
open PySem L2
/-! ### sorting windows -/
def lxP (p q : Int × Int) : Prop := p.1 < q.1 ∨ (p.1 = q.1 ∧ p.2 < q.2)
theorem intsR_sorted {a b : Int} : (intsR a b).Pairwise (· < ·) := by
  unfold intsR
  rw [List.pairwise_map]
  exact List.pairwise_lt_range.imp fun {x y} h => by omega
theorem spansL_sorted {s : Int} : (spansL s).Pairwise lxP := by
  unfold spansL
  rw [List.pairwise_flatMap]
  refine ⟨fun a _ => ?_, intsR_sorted.imp fun {x y} h p hp q hq => ?_⟩
  · rw [List.pairwise_map]
    exact intsR_sorted.imp fun {x y} h => .inr ⟨rfl, h⟩
  · obtain ⟨_, _, rfl⟩ := List.mem_map.mp hp
    obtain ⟨_, _, rfl⟩ := List.mem_map.mp hq
    exact .inl h
theorem lxP_ne {p q : Int × Int} (h : lxP p q) : p ≠ q := fun z => by
  subst z
  unfold lxP at h
  omega
theorem lxP_trans {p q r : Int × Int} (h : lxP p q) (h' : lxP q r) : lxP p r := by unfold lxP at *; omega
theorem spansL_nodup {s : Int} : (spansL s).Nodup := spansL_sorted.imp fun h => lxP_ne h
/-! ### the work of a window; lots by it -/
def wkI (its : List Er) (p : Int × Int) : Int := ((its.filter fun it => decide (it.1 = p)).map (·.2)).sum
theorem wkI_nil {p : Int × Int} : wkI [] p = 0 := rfl
theorem wkI_cons {it : Er} {its : List Er} {p : Int × Int} : wkI (it :: its) p = (if it.1 = p then it.2 else 0) + wkI its p := by
  unfold wkI
  rw [List.filter_cons]
  by_cases h : it.1 = p <;> simp [h]
theorem wkI_app {xs ys : List Er} {p : Int × Int} : wkI (xs ++ ys) p = wkI xs p + wkI ys p := by
  unfold wkI
  rw [List.filter_append, List.map_append, List.sum_append]
theorem wkI_out {its : List Er} {p : Int × Int} (h : p ∉ its.map (·.1)) : wkI its p = 0 := by
  unfold wkI
  rw [List.filter_eq_nil_iff.mpr fun it hi => ?_]
  · rfl
  · simp
    exact fun z => h (z ▸ List.mem_map.mpr ⟨it, hi, rfl⟩)
end AH
namespace AH
open PySem L2
variable [TheK]
@[simp] theorem gd_sq {k : Bool} {r : DGs} {xs : List D} {e : Env} {Q : Unit → Env → Prop} {E : Str → List D → Env → Prop} : Wn (gT r (sq k xs)) e Q E = Wn (r xs) e Q E := by rw [wn_gT, wl_sq]
/-! ### the law's own table -/
theorem Lot.nd {s t : Int} {its : List Er} (h : Lot s t its) : (its.map (·.1)).Nodup := spansL_nodup.sublist h.sub
/-! ### the lot of a table -/
/-! ### made_lot -/
end AH
namespace AH
open PySem L2
variable [TheK]
theorem eqv_encR {p q : Int × Int} : D.eqv (encR p) (encR q) = decide (p = q) := by
  obtain ⟨x, y⟩ := p
  obtain ⟨a, b⟩ := q
  show (x == a && (y == b && true)) = _
  by_cases h1 : x = a <;> by_cases h2 : y = b <;> simp [h1, h2]
theorem plainL_encR (L : List (Int × Int)) : D.plainL 39 (L.map encR) = true := plainL_iff.mpr fun x hx => by
  obtain ⟨p, _, rfl⟩ := List.mem_map.mp hx
  rfl
theorem sm_str {n : Nat} {s : Str} (h : PySem.PyData.strOk s = true) : (D.str s).sm n = true := by cases n <;> exact h
@[simp] theorem sm_none {n : Nat} : (D.str "none").sm n = true := sm_str (by kernel_rfl)
@[simp] theorem sm_unlike {n : Nat} : (D.str "unlike").sm n = true := sm_str (by kernel_rfl)
@[simp] theorem sm_unfit {n : Nat} : (D.str "unfit").sm n = true := sm_str (by kernel_rfl)
@[simp] theorem sm_alike {n : Nat} : (D.str "alike").sm n = true := sm_str (by kernel_rfl)
@[simp] theorem sm_lighter {n : Nat} : (D.str "lighter").sm n = true := sm_str (by kernel_rfl)
@[simp] theorem sm_heavier {n : Nat} : (D.str "heavier").sm n = true := sm_str (by kernel_rfl)
@[simp] theorem sm_neither {n : Nat} : (D.str "neither").sm n = true := sm_str (by kernel_rfl)
/-! ### lots as lists; their size -/
theorem sm_encE {k : Bool} {it : Er} : (encE k it).sm 2 = true := by cases k <;> simp [encE, sq]
theorem sm_sq {k : Bool} {n : Nat} {xs : List D} (h1 : xs.length ≤ 10000) (h2 : ∀ x ∈ xs, x.sm n = true) : (sq k xs).sm (n + 1) = true := by
  cases k
  · exact sm_lst.mpr ⟨h1, h2⟩
  · exact sm_tup.mpr ⟨h1, h2⟩
theorem sm_errs {k j : Bool} {its : List Er} (h : its.length ≤ 10000) : (sq j (its.map (encE k))).sm 3 = true := sm_sq (by rw [List.length_map]; omega) fun x hx => by
  obtain ⟨r, _, rfl⟩ := List.mem_map.mp hx
  exact sm_encE
theorem sm_lot {k : Bool} {s : Int} {its : List Er} (h : its.length ≤ 10000) : (lotD k s its).sm 4 = true := sm_sq (by simp) fun x hx => by
  simp only [List.mem_cons, List.not_mem_nil, or_false] at hx
  rcases hx with rfl | rfl
  · rfl
  · exact sm_errs h
/-! ### all work -/
/-! ### the turns of a law -/
theorem right_turns {n : Nat} {c m : Nat} {b : DS} {fs : List Sl} (hm : c * m ≤ 2 ^ 59) (hm1 : m ≤ 1000) (hf : fs = List.replicate n .no)
    (ht : ∀ (k : Nat) (x : Int) (bx : List D), 0 ≤ x → x < m → Bx (k + c) bx → Wn b (.bor bx :: .val (.int x) :: fs) (fun o e => o = .nx ∧ ∃ by_, e = .bor by_ :: .no :: fs ∧ Bx k by_) NoE) :
    Right (mkF (n + 2) [.bor] (sSeq (sFor (iRng1 (eC (.int m))) (gN 1) b) (sRet (eC (.bl true))))) := by
  intro xs hb
  rw [wf_mkF rfl]
  simp only [startE, wn_seq]
  have e0 : [Sl.bor xs] ++ List.replicate (n + 2 - [Md.bor].length) Sl.no = .bor xs :: .no :: fs := by
    rw [hf]
    show Sl.bor xs :: List.replicate (n + 1) Sl.no = _
    rw [List.replicate_succ]
  rw [e0]
  simp only [wn_sFor, wn_iRng1, wn_c, wi_int]
  refine ⟨by simp; omega, ?_⟩
  refine wn_loop (fun xs e => ∃ by_, e = .bor by_ :: .no :: fs ∧ Bx (c * xs.length) by_ ∧ ∀ y ∈ xs, ∃ i : Int, 0 ≤ i ∧ i < m ∧ y = .int i) (fun y r e hI => ?_) (fun e hI => ?_) ⟨xs, rfl, hb.le (by rw [rng_len]; simpa using hm), fun y hy => by obtain ⟨i, h0, h1, rfl⟩ := rng_mem hy; exact ⟨i, h0, h1, rfl⟩⟩
  · obtain ⟨by_, rfl, h1, h2⟩ := hI
    obtain ⟨i, i0, i1, rfl⟩ := h2 y List.mem_cons_self
    rw [List.length_cons, Nat.mul_succ] at h1
    simp only [wn_gN, x_slS, x_sl0, x_isOwn1, true_and, x_putS, x_put0]
    refine (ht (c * r.length) i by_ i0 i1 h1).imp (fun o e h => ?_) fun _ _ _ z => z.elim
    obtain ⟨rfl, by2, rfl, g1⟩ := h
    exact ⟨by2, rfl, g1, fun z hz => h2 z (List.mem_cons_of_mem _ hz)⟩
  · obtain ⟨by_, rfl, h1, _⟩ := hI
    simp
end AH
namespace AH
/-! ### sums over a list -/
def sg {α : Type} (S : List α) (f : α → Int) : Int := (S.map f).sum
section
variable {α : Type} {S : List α} {f g : α → Int}
@[simp] theorem sg_nil : sg ([] : List α) f = 0 := rfl
@[simp] theorem sg_cons {x : α} : sg (x :: S) f = f x + sg S f := by simp [sg]
theorem sg_add : sg S (fun x => f x + g x) = sg S f + sg S g := by
  induction S with
  | nil => rfl
  | cons x S ih => simp only [sg_cons, ih]; omega
theorem sg_sub : sg S (fun x => f x - g x) = sg S f - sg S g := by
  induction S with
  | nil => rfl
  | cons x S ih => simp only [sg_cons, ih]; omega
theorem sg_le (h : ∀ x ∈ S, f x ≤ g x) : sg S f ≤ sg S g := by
  induction S with
  | nil => exact Int.le_refl _
  | cons x S ih =>
    have h1 := h x List.mem_cons_self
    have h2 := ih fun y hy => h y (List.mem_cons_of_mem _ hy)
    simp only [sg_cons]
    omega
theorem sg_congr (h : ∀ x ∈ S, f x = g x) : sg S f = sg S g :=
  Int.le_antisymm (sg_le fun x hx => Int.le_of_eq (h x hx)) (sg_le fun x hx => Int.le_of_eq (h x hx).symm)
theorem sg_zero : sg S (fun _ => 0) = 0 := by
  induction S with
  | nil => rfl
  | cons x S ih => simp only [sg_cons, ih]; omega
theorem sg_nn (h : ∀ x ∈ S, 0 ≤ f x) : 0 ≤ sg S f := by
  have := sg_le (f := fun _ => 0) h
  rw [sg_zero] at this
  exact this
theorem sg_z (h : ∀ x ∈ S, f x = 0) : sg S f = 0 := (sg_congr h).trans sg_zero
theorem sg_ge {x : α} (hx : x ∈ S) (h : ∀ y ∈ S, 0 ≤ f y) : f x ≤ sg S f := by
  induction S with
  | nil => cases hx
  | cons y S ih =>
    simp only [sg_cons]
    have h1 := sg_nn (S := S) fun z hz => h z (List.mem_cons_of_mem _ hz)
    rcases List.mem_cons.mp hx with rfl | hx
    · omega
    · have h2 := ih hx fun z hz => h z (List.mem_cons_of_mem _ hz)
      have h3 := h y List.mem_cons_self
      omega
end
/-! ### what is due first -/
abbrev Wd := Int × Int
/-- an hour, from what is left ahead of it to what is left behind it -/
structure EStep (S : List Wd) (h : Int) (c : Int) (r r' : Wd → Int) : Prop where
  lo : ∀ w ∈ S, 0 ≤ r' w
  le : ∀ w ∈ S, r' w ≤ r w
  off : ∀ w ∈ S, ¬ (w.1 ≤ h ∧ h ≤ w.2) → r' w = r w
  use : sg S (fun w => r w - r' w) ≤ c
  pri : ∀ w ∈ S, w.1 ≤ h → h ≤ w.2 → 0 < r' w → sg S (fun v => if v.2 ≤ w.2 then r v - r' v else 0) = c
def pre (c : Nat → Int) : Nat → Int
  | 0 => 0
  | n + 1 => pre c n + c n
structure ERun (S : List Wd) (n : Nat) (c : Nat → Int) (R : Nat → Wd → Int) : Prop where
  win : ∀ w ∈ S, 0 ≤ w.1 ∧ w.1 ≤ w.2 ∧ w.2 < n
  nn : ∀ w ∈ S, 0 ≤ R 0 w
  st : ∀ h : Nat, h < n → EStep S h (c h) (R h) (R (h + 1))
def askW (S : List Wd) (r : Wd → Int) (i j : Nat) : Int := sg S fun w => if (i : Int) ≤ w.1 ∧ w.2 < j then r w else 0
def undW (S : List Wd) (r : Wd → Int) (j : Nat) : Int := sg S fun w => if w.2 < (j : Int) then r w else 0
def lackW (S : List Wd) (c : Nat → Int) (r : Wd → Int) (i j : Nat) : Int := askW S r i j - (pre c j - pre c i)
namespace ERun
variable {S : List Wd} {n : Nat} {c : Nat → Int} {R : Nat → Wd → Int}
theorem nn' (E : ERun S n c R) {h : Nat} (hn : h ≤ n) {w : Wd} (hw : w ∈ S) : 0 ≤ R h w := by
  cases h with
  | zero => exact E.nn w hw
  | succ h => exact (E.st h hn).lo w hw
theorem mono (E : ERun S n c R) {h : Nat} {w : Wd} (hw : w ∈ S) : ∀ {k : Nat}, h ≤ k → k ≤ n → R k w ≤ R h w := by
  intro k
  induction k with
  | zero => intro h1 _; rw [Nat.le_zero.mp h1]; exact Int.le_refl _
  | succ k ih =>
    intro h1 h2
    by_cases e : h = k + 1
    · rw [e]; exact Int.le_refl _
    · have := ih (by omega) (by omega)
      have := (E.st k h2).le w hw
      omega
theorem early (E : ERun S n c R) {w : Wd} (hw : w ∈ S) : ∀ {h : Nat}, (h : Int) ≤ w.1 → h ≤ n → R h w = R 0 w := by
  intro h
  induction h with
  | zero => intro _ _; rfl
  | succ h ih =>
    intro h1 h2
    rw [(E.st h h2).off w hw (by omega), ih (by omega) (by omega)]
theorem late (E : ERun S n c R) {w : Wd} (hw : w ∈ S) {h : Nat} (hl : w.2 < h) : ∀ {k : Nat}, h ≤ k → k ≤ n → R k w = R h w := by
  intro k
  induction k with
  | zero => intro h1 _; rw [Nat.le_zero.mp h1]
  | succ k ih =>
    intro h1 h2
    by_cases e : h = k + 1
    · rw [e]
    · rw [(E.st k h2).off w hw (by omega), ih (by omega) (by omega)]
/-- what is left within a stretch -/
theorem least (E : ERun S n c R) {i j : Nat} (hij : i ≤ j) (hj : j ≤ n) : lackW S c (R 0) i j ≤ askW S (R n) i j := by
  have key : ∀ k, i ≤ k → k ≤ j → sg S (fun w => if (i : Int) ≤ w.1 ∧ w.2 < j then R i w - R k w else 0) ≤ pre c k - pre c i := by
    intro k
    induction k with
    | zero =>
      intro h1 _
      have e : i = 0 := by omega
      subst e
      rw [sg_z fun w _ => by split <;> omega]
      omega
    | succ k ih =>
      intro h1 h2
      by_cases e : i = k + 1
      · subst e
        rw [sg_z fun w _ => by split <;> omega]
        omega
      · have h3 := ih (by omega) (by omega)
        have st := E.st k (by omega)
        have h4 : sg S (fun w => if (i : Int) ≤ w.1 ∧ w.2 < j then R i w - R (k + 1) w else 0) ≤ sg S (fun w => (if (i : Int) ≤ w.1 ∧ w.2 < j then R i w - R k w else 0) + (R k w - R (k + 1) w)) := sg_le fun w hw => by
          have := st.le w hw
          split <;> omega
        rw [sg_add] at h4
        have := st.use
        show _ ≤ pre c k + c k - pre c i
        omega
  have h1 := key j hij (Nat.le_refl _)
  have h2 : sg S (fun w => if (i : Int) ≤ w.1 ∧ w.2 < j then R i w - R j w else 0) = askW S (R 0) i j - askW S (R n) i j := by
    unfold askW
    rw [← sg_sub]
    refine sg_congr fun w hw => ?_
    split
    · rename_i z
      rw [E.early hw z.1 (by omega), E.late hw z.2 hj (Nat.le_refl _)]
    · omega
  unfold lackW
  omega
/-- where something is left at an hour, a stretch that lacks just as much ends with it -/
theorem most (E : ERun S n c R) {j : Nat} (hj : j < n) : undW S (R n) (j + 1) = undW S (R n) j ∨ ∃ i, i ≤ j ∧ undW S (R n) (j + 1) = undW S (R n) i + lackW S c (R 0) i (j + 1) := by
  by_cases hw : ∃ w ∈ S, w.2 = j ∧ 0 < R n w
  · obtain ⟨w0, hw0, e0, p0⟩ := hw
    have wb := E.win w0 hw0
    let Full : Nat → Prop := fun h => sg S (fun v => if v.2 < (j : Int) + 1 then R h v - R (h + 1) v else 0) = c h
    have full : ∀ h : Nat, w0.1.toNat ≤ h → h ≤ j → Full h := fun h h1 h2 => by
      have m := E.mono hw0 (h := h + 1) (k := n) (by omega) (Nat.le_refl _)
      have p := (E.st h (by omega)).pri w0 hw0 (by omega) (by omega) (by omega)
      rw [e0] at p
      show sg S _ = c h
      rw [← p]
      exact sg_congr fun v _ => by
        by_cases z : v.2 ≤ (j : Int)
        · rw [if_pos z, if_pos (by omega)]
        · rw [if_neg z, if_neg (by omega)]
    have down : ∀ e : Nat, (∀ h, e ≤ h → h ≤ j → Full h) → ∃ i, i ≤ e ∧ (∀ h, i ≤ h → h ≤ j → Full h) ∧ (i = 0 ∨ ¬ Full (i - 1)) := by
      intro e
      induction e with
      | zero => intro f; exact ⟨0, Nat.le_refl _, f, .inl rfl⟩
      | succ e ih =>
        intro f
        by_cases z : Full e
        · obtain ⟨i, h1, h2⟩ := ih fun h h1 h2 => by
            by_cases q : h = e
            · rw [q]; exact z
            · exact f h (by omega) h2
          exact ⟨i, by omega, h2⟩
        · exact ⟨e + 1, Nat.le_refl _, f, .inr z⟩
    obtain ⟨i, hie, hf, hmin⟩ := down w0.1.toNat full
    have hij : i ≤ j := by omega
    have zero : ∀ v ∈ S, v.1 < i → (i : Int) ≤ v.2 → v.2 < (j : Int) + 1 → R i v = 0 := by
      intro v hv h1 h2 h3
      have vb := E.win v hv
      obtain ⟨k, rfl⟩ : ∃ k, i = k + 1 := ⟨i - 1, by omega⟩
      have nf := hmin.resolve_left (by omega)
      have nn := E.nn' (h := k + 1) (by omega) hv
      refine Int.le_antisymm (Int.not_lt.mp fun pos => nf ?_) nn
      have st := E.st k (by omega)
      have p := st.pri v hv (by omega) (by omega) pos
      have u := st.use
      have g1 : sg S (fun u => if u.2 ≤ v.2 then R k u - R (k + 1) u else 0) ≤ sg S (fun u => if u.2 < (j : Int) + 1 then R k u - R (k + 1) u else 0) := sg_le fun u hu => by
        have := st.le u hu
        split <;> split <;> omega
      have g2 : sg S (fun u => if u.2 < (j : Int) + 1 then R k u - R (k + 1) u else 0) ≤ sg S (fun u => R k u - R (k + 1) u) := sg_le fun u hu => by
        have := st.le u hu
        split <;> omega
      show sg S _ = c (k + 1 - 1)
      show sg S (fun u => if u.2 < (j : Int) + 1 then R k u - R (k + 1) u else 0) = c k
      omega
    have zero' : ∀ v ∈ S, v.1 < i → (i : Int) ≤ v.2 → v.2 < (j : Int) + 1 → ∀ h, i ≤ h → h ≤ n → R h v = 0 := fun v hv h1 h2 h3 h h4 h5 => by
      have z := zero v hv h1 h2 h3
      have := E.mono hv h4 h5
      have := E.nn' h5 hv
      omega
    have hour : ∀ h, i ≤ h → h ≤ j → c h = sg S (fun v => if (i : Int) ≤ v.1 ∧ v.2 < (j : Int) + 1 then R h v - R (h + 1) v else 0) := by
      intro h h1 h2
      rw [← hf h h1 h2]
      refine sg_congr fun v hv => ?_
      have vb := E.win v hv
      by_cases z : v.2 < (j : Int) + 1
      · rw [if_pos z]
        by_cases y : (i : Int) ≤ v.1
        · rw [if_pos ⟨y, z⟩]
        · rw [if_neg fun q => y q.1]
          by_cases x : (i : Int) ≤ v.2
          · rw [zero' v hv (by omega) x z h h1 (by omega), zero' v hv (by omega) x z (h + 1) (by omega) (by omega)]
            omega
          · rw [(E.st h (by omega)).off v hv (by omega)]
            omega
      · rw [if_neg z, if_neg fun q => z q.2]
    have tele : ∀ k, i ≤ k → k ≤ j + 1 → pre c k - pre c i = sg S (fun v => if (i : Int) ≤ v.1 ∧ v.2 < (j : Int) + 1 then R i v - R k v else 0) := by
      intro k
      induction k with
      | zero =>
        intro h1 _
        have e : i = 0 := by omega
        subst e
        rw [sg_z fun w _ => by split <;> omega]
        omega
      | succ k ih =>
        intro h1 h2
        by_cases e : i = k + 1
        · subst e
          rw [sg_z fun w _ => by split <;> omega]
          omega
        · have h3 := ih (by omega) (by omega)
          have h4 := hour k (by omega) (by omega)
          show pre c k + c k - pre c i = _
          have h5 : sg S (fun v => if (i : Int) ≤ v.1 ∧ v.2 < (j : Int) + 1 then R i v - R (k + 1) v else 0) = sg S (fun v => (if (i : Int) ≤ v.1 ∧ v.2 < (j : Int) + 1 then R i v - R k v else 0) + (if (i : Int) ≤ v.1 ∧ v.2 < (j : Int) + 1 then R k v - R (k + 1) v else 0)) := sg_congr fun v _ => by split <;> omega
          rw [sg_add] at h5
          omega
    refine .inr ⟨i, hij, ?_⟩
    have t := tele (j + 1) (by omega) (Nat.le_refl _)
    have h6 : undW S (R n) (j + 1) = undW S (R n) i + askW S (R n) i (j + 1) := by
      unfold undW askW
      rw [← sg_add]
      refine sg_congr fun v hv => ?_
      have vb := E.win v hv
      push_cast
      by_cases z : v.2 < (j : Int) + 1
      · rw [if_pos z]
        by_cases x : v.2 < (i : Int)
        · rw [if_pos x, if_neg (by omega)]
          omega
        · rw [if_neg x]
          by_cases y : (i : Int) ≤ v.1
          · rw [if_pos ⟨y, z⟩]
            omega
          · rw [if_neg fun q => y q.1, zero' v hv (by omega) (by omega) z n (by omega) (Nat.le_refl _)]
            omega
      · rw [if_neg z, if_neg (by omega), if_neg fun q => z q.2]
        omega
    have h7 : sg S (fun v => if (i : Int) ≤ v.1 ∧ v.2 < (j : Int) + 1 then R i v - R (j + 1) v else 0) = askW S (R 0) i (j + 1) - askW S (R n) i (j + 1) := by
      unfold askW
      rw [← sg_sub]
      refine sg_congr fun v hv => ?_
      push_cast
      split
      · rename_i z
        rw [E.early hv z.1 (by omega), E.late hv (h := j + 1) (by omega) (k := n) (by omega) (Nat.le_refl _)]
      · omega
    unfold lackW
    omega
  · refine .inl (sg_congr fun v hv => ?_)
    have nn := E.nn' (h := n) (Nat.le_refl _) hv
    push_cast
    by_cases z : v.2 < (j : Int)
    · rw [if_pos z, if_pos (by omega)]
    · rw [if_neg z]
      by_cases y : v.2 < (j : Int) + 1
      · rw [if_pos y]
        refine Int.le_antisymm (Int.not_lt.mp fun pos => hw ⟨v, hv, by omega, pos⟩) nn
      · rw [if_neg y]
end ERun
end AH
namespace AH
open PySem L2
variable [TheK]
/-! ### dicts that grow -/
structure Grow (M : List Er) (W : List (Int × Int)) (f : Int × Int → Int) : Prop where
  nd : W.Nodup
  mem : ∀ p, p ∈ W ↔ p ∈ M.map (·.1)
  val : ∀ p ∈ W, f p = wkI M p
  len : W.length ≤ M.length
theorem Grow.nil : Grow [] [] fun _ => 0 := ⟨List.nodup_nil, by simp, by simp, Nat.le_refl _⟩
theorem Grow.add {M : List Er} {W : List (Int × Int)} {f : Int × Int → Int} (G : Grow M W f) (y : Er) : ∃ W' f', dput (tabD W f) (keyR y.1) (.int ((if y.1 ∈ W then f y.1 else 0) + y.2)) = tabD W' f' ∧ Grow (M ++ [y]) W' f' := by
  by_cases hw : y.1 ∈ W
  · refine ⟨W, _, by rw [if_pos hw]; exact dput_in hw, G.nd, fun p => ?_, fun p hp => ?_, by have := G.len; simp; omega⟩
    · rw [G.mem p, List.map_append, List.mem_append]
      refine ⟨.inl, fun z => z.elim id fun z => ?_⟩
      have : p = y.1 := by simpa using z
      rw [this]; exact (G.mem _).mp hw
    · rw [wkI_app, wkI_cons, wkI_nil]
      by_cases hpy : p = y.1
      · subst hpy; simp [G.val _ hp]
      · have hpy' : y.1 ≠ p := fun z => hpy z.symm
        simp [hpy, hpy', G.val p hp]
  · refine ⟨W ++ [y.1], _, by rw [if_neg hw]; exact dput_out hw, ?_, fun p => ?_, fun p hp => ?_, by have := G.len; simp; omega⟩
    · rw [List.nodup_append]
      exact ⟨G.nd, by simp, fun a ha b hb => by rw [List.mem_singleton.mp hb]; exact fun z => hw (z ▸ ha)⟩
    · rw [List.mem_append, G.mem p, List.map_append, List.mem_append]
      simp
    · rw [wkI_app, wkI_cons, wkI_nil]
      by_cases hpy : p = y.1
      · subst hpy
        have : wkI M y.1 = 0 := wkI_out fun z => hw ((G.mem _).mpr z)
        simp [this]
      · have hpW : p ∈ W := by
          rcases List.mem_append.mp hp with z | z
          · exact z
          · exact absurd (List.mem_singleton.mp z) hpy
        have hpy' : y.1 ≠ p := fun z => hpy z.symm
        simp [hpy, hpy', G.val p hpW]
theorem Grow.set {M : List Er} {W : List (Int × Int)} {f : Int × Int → Int} (G : Grow M W f) (y : Er) (hy : y.1 ∉ M.map (·.1)) : ∃ W' f', dput (tabD W f) (keyR y.1) (.int y.2) = tabD W' f' ∧ Grow (M ++ [y]) W' f' := by
  obtain ⟨W', f', h1, h2⟩ := G.add y
  rw [if_neg (fun z => hy ((G.mem _).mp z)), Int.zero_add] at h1
  exact ⟨W', f', h1, h2⟩
/-! ### hours counted otherwise -/
end AH
namespace AH
open PySem L2
variable [TheK]
/-! ### two lots of as many hours -/
end AH
namespace AH
open PySem L2
variable [TheK]
/-! ### what stretches ask more -/
theorem Wn.ex_eq {α : Type} {m : M α} {e e1 : Env} {c : Str} {fs : List D} (h : Wn m e (fun _ _ => False) (fun c' fs' e' => c' = c ∧ fs' = fs ∧ e' = e1)) : m e = .ex c fs e1 := by
  unfold Wn at h
  cases q : m e with
  | ok a e2 => rw [q] at h; exact h.elim
  | ex _ _ _ => rw [q] at h; obtain ⟨rfl, rfl, rfl⟩ := h; rfl
  | bad => rw [q] at h; exact h.elim
/-! ### the least, the greatest -/
end AH
namespace AH
open PySem L2
variable [TheK]
/-! ### drawn moves of a lot -/
abbrev mvE (bx : List D) (s m : Int) (its : List Er) (f : Int × Int → Int) (r : List Sl) : Env := .bor bx :: .val (lotD true s its) :: .val (.int m) :: .odc (tabD (spansL s) f) :: .val (.int (s - 1)) :: r
def MvP (n : Nat) (s m : Int) (its : List Er) (o : Out) (e : Env) : Prop := o = .nx ∧ ∃ by_ g, fgO [5, 6, 7, 8, 9, 10, 11, 12, 13] o e = mvE by_ s m its g [.no, .no, .no, .no, .no, .no, .no, .no, .no] ∧ Bx n by_
theorem MvP.of {n : Nat} {s m : Int} {its : List Er} {e : Env} {by_ : List D} {g : Int × Int → Int} (h : fgO [5, 6, 7, 8, 9, 10, 11, 12, 13] .nx e = mvE by_ s m its g [.no, .no, .no, .no, .no, .no, .no, .no, .no]) (hb : Bx n by_) : MvP n s m its .nx e := ⟨rfl, by_, g, h, hb⟩
end AH
namespace AH
open PySem L2
variable [TheK]
/-! ### an hour: what is due first -/
abbrev GS := Int × (Wd → Int) × Int
structure FillOk (S L : List Wd) (m : Int) (r : Wd → Int) (d : Int) (s : GS) : Prop where
  lo : ∀ w ∈ S, 0 ≤ s.2.1 w
  le : ∀ w ∈ S, s.2.1 w ≤ r w
  off : ∀ w, w ∉ L → s.2.1 w = r w
  rest : 0 ≤ s.1
  sum : sg S (fun w => r w - s.2.1 w) = m - s.1
  don : s.2.2 - d = m - s.1
  pri : ∀ w ∈ L, 0 < s.2.1 w → s.1 = 0 ∧ sg S (fun v => if v.2 ≤ w.2 then r v - s.2.1 v else 0) = m
/-! the hour's windows, what is due first ahead -/
/-! hour by hour -/
end AH
namespace AH
open PySem L2
variable [TheK]
end AH
namespace AH
open PySem L2
variable [TheK]
/-! ### long rows of statements, run to some place -/
def seqs : List DS → DS → DS
  | [], r => r
  | s :: l, r => sSeq s (seqs l r)
theorem seqs_run : ∀ {l : List DS} {r : DS} {e e1 : Env}, seqs l sNil e = .ok .nx e1 → seqs l r e = r e1
  | [], r, e, e1, h => by cases h; rfl
  | s :: l, r, e, e1, h => by
    show sSeq s (seqs l r) e = _
    have h : sSeq s (seqs l sNil) e = .ok .nx e1 := h
    unfold sSeq M.bind at h ⊢
    cases q : s e with
    | ok o e2 =>
      rw [q] at h
      simp only at h ⊢
      cases o with
      | nx => exact seqs_run (l := l) h
      | rt d => cases h
      | bk => cases h
      | ct => cases h
    | ex c fs e2 => rw [q] at h; cases h
    | bad => rw [q] at h; cases h
end AH
namespace AH
open PySem L2
variable [TheK]
/-! ### list(zip(..)), the block x = [..]; if ..; x[0].append(..) -/
section
variable {e : Env} {i : Nat} {a b : DE} {E : Str → List D → Env → Prop}
end
end AH
namespace AH
open PySem L2
variable [TheK]
/-! ### of lots -/
structure Cal (s : Int) (ns : List Int) : Prop where
  len : (ns.length : Int) = s
  nn : ∀ n ∈ ns, 0 ≤ n
end AH
namespace AH
open PySem L2
variable [TheK]
/-! ### a dict by a comprehension over windows -/
end AH
namespace AH
open PySem L2
variable [TheK]
/-! ### [f, g][i](..); a def that ends by return -/
end AH
namespace AH
open PySem L2
variable [TheK]
theorem Row.cal {s : Nat} {t : Int} {d : D} (h : Row s t d) : ∃ ns, d = sq true (ns.map D.int) ∧ Cal s ns ∧ ∀ n ∈ ns, n ≤ t := by
  obtain ⟨ns, e, hl, hn⟩ := h
  exact ⟨ns, e, ⟨by omega, fun n hn' => (hn n hn').1⟩, fun n hn' => (hn n hn').2⟩
end AH
namespace AH
open PySem L2
variable [TheK]
/-! ### stretches apart: the greatest sum of worths -/
/-! ### a loop over a range, hour by hour -/
/-! ### rows that are told by index -/
end AH
namespace AH
open PySem L2
variable [TheK]
/-! ### drawn moves: how great the work can get -/
/-- a loop that carries a state on, with what holds of it -/
theorem loop_foldQ {S T : Type} {g : DG} {b : DS} {st : S → Env} {enc : T → D} (f : S → T → S) (P : S → List T → Prop) : ∀ (L : List T) (s : S), P s L → (∀ (s : S) (y : T) (R : List T), P s (y :: R) → P (f s y) R ∧ Wn (g (enc y)) (st s) (fun _ e1 => Wn b e1 (fun o e2 => o = .nx ∧ e2 = st (f s y)) NoE) NoE) → loop g b (L.map enc) (st s) = .ok .nx (st (L.foldl f s))
  | [], s, _, _ => rfl
  | y :: L, s, h, q => by
    obtain ⟨h1, h2⟩ := q s y L h
    rw [List.map_cons, List.foldl_cons, loop_cons h2]
    exact loop_foldQ f P L (f s y) h1 q
def MvQ (B : Int) (n : Nat) (s m : Int) (its : List Er) (o : Out) (e : Env) : Prop := o = .nx ∧ ∃ by_ g, fgO [5, 6, 7, 8, 9, 10, 11, 12, 13] o e = mvE by_ s m its g [.no, .no, .no, .no, .no, .no, .no, .no, .no] ∧ Bx n by_ ∧ ∀ p, g p ≤ B
theorem MvQ.of {B : Int} {n : Nat} {s m : Int} {its : List Er} {e : Env} {by_ : List D} {g : Int × Int → Int} (h : fgO [5, 6, 7, 8, 9, 10, 11, 12, 13] .nx e = mvE by_ s m its g [.no, .no, .no, .no, .no, .no, .no, .no, .no]) (hb : Bx n by_) (hg : ∀ p, g p ≤ B) : MvQ B n s m its .nx e := ⟨rfl, by_, g, h, hb, hg⟩
end AH
namespace AH
open PySem L2
variable [TheK]
/-! ### the stretches that prices see: plain law -/
/-! ### prices -/
section
variable {ns : List Int}
/-! ### what fits -/
end
end AH
namespace AH
open PySem L2
variable [TheK]
/-! ### runs of hours -/
def runStep (A : List Wd) (h : Int) : List Wd := match A.getLast? with
  | some q => if q.2 = h - 1 then A.dropLast ++ [(q.1, h)] else A ++ [(h, h)]
  | none => A ++ [(h, h)]
def RunOf (L : List Int) (p : Wd) : Prop := p.1 ≤ p.2 ∧ (∀ x, p.1 ≤ x → x ≤ p.2 → x ∈ L) ∧ p.1 - 1 ∉ L ∧ p.2 + 1 ∉ L
structure Runs (L : List Int) (A : List Wd) : Prop where
  mem : ∀ p, p ∈ A ↔ RunOf L p
  nd : A.Nodup
  last : ∀ q, A.getLast? = some q → ∀ x ∈ L, x ≤ q.2
  nil : A = [] → L = []
theorem Runs.none : Runs [] [] := ⟨fun p => ⟨fun h => (List.not_mem_nil h).elim, fun h => (List.not_mem_nil (h.2.1 p.1 (Int.le_refl _) h.1)).elim⟩, List.nodup_nil, (fun _ h => (nomatch h)), fun _ => rfl⟩
theorem Runs.step {L : List Int} {A : List Wd} {h : Int} (R : Runs L A) (hb : ∀ x ∈ L, x < h) : Runs (L ++ [h]) (runStep A h) := by
  have nh : h ∉ L := fun z => by have := hb h z; omega
  have mm : ∀ x, x ∈ L ++ [h] ↔ x ∈ L ∨ x = h := fun x => by simp
  have fresh : ∀ p ∈ A, p ≠ (h, h) := fun p hp e => by
    subst e
    exact nh (((R.mem _).mp hp).2.1 h (Int.le_refl _) (Int.le_refl _))
  have apart : h - 1 ∉ L → Runs (L ++ [h]) (A ++ [(h, h)]) := fun hl => by
    refine ⟨fun p => ?_, ?_, fun q hq x hx => ?_, fun e => by simp at e⟩
    · rw [List.mem_append, List.mem_singleton, R.mem]
      unfold RunOf
      constructor
      · rintro (⟨h1, h2, h3, h4⟩ | rfl)
        · have b2 := hb _ (h2 p.2 h1 (Int.le_refl _))
          have b1 := hb _ (h2 p.1 (Int.le_refl _) h1)
          refine ⟨h1, fun x x1 x2 => (mm x).mpr (.inl (h2 x x1 x2)), fun z => ?_, fun z => ?_⟩
          · rcases (mm _).mp z with z | z
            · exact h3 z
            · omega
          · rcases (mm _).mp z with z | z
            · exact h4 z
            · exact hl (by rw [show h - 1 = p.2 by omega]; exact h2 p.2 h1 (Int.le_refl _))
        · refine ⟨Int.le_refl _, fun x x1 x2 => (mm x).mpr (.inr (by dsimp only at x1 x2; omega)), fun z => ?_, fun z => ?_⟩
          · rcases (mm _).mp z with z | z
            · exact hl z
            · dsimp only at z; omega
          · rcases (mm _).mp z with z | z
            · have := hb _ z; dsimp only at this; omega
            · dsimp only at z; omega
      · rintro ⟨h1, h2, h3, h4⟩
        by_cases e : p.2 = h
        · have e1 : p.1 = h := by
            refine Classical.byContradiction fun ne => ?_
            rcases (mm _).mp (h2 (h - 1) (by omega) (by omega)) with z | z
            · exact hl z
            · omega
          exact .inr (Prod.ext e1 e)
        · have lt : p.2 < h := by
            rcases (mm _).mp (h2 p.2 h1 (Int.le_refl _)) with z | z
            · exact hb _ z
            · exact absurd z e
          refine .inl ⟨h1, fun x x1 x2 => ?_, fun z => h3 ((mm _).mpr (.inl z)), fun z => h4 ((mm _).mpr (.inl z))⟩
          rcases (mm _).mp (h2 x x1 x2) with z | z
          · exact z
          · omega
    · rw [List.nodup_append]
      exact ⟨R.nd, by simp, fun a ha b hb e => fresh a ha (by rw [e]; exact List.mem_singleton.mp hb)⟩
    · rw [List.getLast?_append] at hq
      simp at hq
      subst hq
      rcases (mm _).mp hx with z | z
      · exact Int.le_of_lt (hb _ z)
      · exact Int.le_of_eq z
  unfold runStep
  cases hq : A.getLast? with
  | none =>
    have : L = [] := R.nil (List.getLast?_eq_none_iff.mp hq)
    exact apart (by rw [this]; simp)
  | some q =>
    have qm : q ∈ A := List.mem_of_getLast? hq
    have qr := (R.mem q).mp qm
    by_cases e : q.2 = h - 1
    · simp only [e, if_true]
      obtain ⟨B, rfl⟩ : ∃ B, A = B ++ [q] := ⟨A.dropLast, by
        obtain ⟨ys, hy⟩ := List.getLast?_eq_some_iff.mp hq
        rw [hy]; simp⟩
      rw [List.dropLast_concat]
      have ndd := List.nodup_append.mp R.nd
      have q1h : q.1 ≤ h - 1 := by have := qr.1; omega
      have inB : ∀ p ∈ B, p.2 < q.1 ∧ p.1 ≤ p.2 := fun p hp => by
        have pr := (R.mem p).mp (List.mem_append_left _ hp)
        have ne : p ≠ q := fun z => ndd.2.2 p hp q (List.mem_singleton.mpr rfl) z
        refine ⟨Classical.byContradiction fun z => ?_, pr.1⟩
        have le : p.2 ≤ q.2 := by have := hb _ (pr.2.1 p.2 pr.1 (Int.le_refl _)); omega
        by_cases e2 : p.2 = q.2
        · by_cases l : p.1 < q.1
          · exact qr.2.2.1 (pr.2.1 (q.1 - 1) (by omega) (by omega))
          · by_cases g : q.1 < p.1
            · exact pr.2.2.1 (qr.2.1 (p.1 - 1) (by omega) (by have := pr.1; omega))
            · exact ne (Prod.ext (by omega) e2)
        · exact pr.2.2.2 (qr.2.1 (p.2 + 1) (by omega) (by omega))
      refine ⟨fun p => ?_, ?_, fun q' hq' x hx => ?_, fun e => by simp at e⟩
      · rw [List.mem_append, List.mem_singleton]
        constructor
        · rintro (hp | rfl)
          · have pr := (R.mem p).mp (List.mem_append_left _ hp)
            have b := inB p hp
            refine ⟨pr.1, fun x x1 x2 => (mm x).mpr (.inl (pr.2.1 x x1 x2)), fun z => ?_, fun z => ?_⟩
            · rcases (mm _).mp z with z | z
              · exact pr.2.2.1 z
              · omega
            · rcases (mm _).mp z with z | z
              · exact pr.2.2.2 z
              · omega
          · refine ⟨by dsimp only; omega, fun x x1 x2 => ?_, fun z => ?_, fun z => ?_⟩
            · dsimp only at x1 x2
              by_cases xe : x = h
              · exact (mm x).mpr (.inr xe)
              · exact (mm x).mpr (.inl (qr.2.1 x x1 (by omega)))
            · rcases (mm _).mp z with z | z
              · exact qr.2.2.1 z
              · dsimp only at z; omega
            · rcases (mm _).mp z with z | z
              · have := hb _ z; dsimp only at this; omega
              · dsimp only at z; omega
        · rintro ⟨h1, h2, h3, h4⟩
          by_cases pe : p.2 = h
          · right
            refine Prod.ext ?_ pe
            refine Classical.byContradiction fun ne => ?_
            by_cases l : p.1 < q.1
            · rcases (mm _).mp (h2 (q.1 - 1) (by omega) (by omega)) with z | z
              · exact qr.2.2.1 z
              · omega
            · have g : q.1 < p.1 := by dsimp only at ne; omega
              exact h3 ((mm _).mpr (.inl (qr.2.1 (p.1 - 1) (by omega) (by omega))))
          · have lt : p.2 < h := by
              rcases (mm _).mp (h2 p.2 h1 (Int.le_refl _)) with z | z
              · exact hb _ z
              · exact absurd z pe
            have pr : p ∈ B ++ [q] := (R.mem p).mpr ⟨h1, fun x x1 x2 => by
              rcases (mm _).mp (h2 x x1 x2) with z | z
              · exact z
              · omega, fun z => h3 ((mm _).mpr (.inl z)), fun z => h4 ((mm _).mpr (.inl z))⟩
            rcases List.mem_append.mp pr with z | z
            · exact .inl z
            · exact absurd ((mm _).mpr (.inr (by rw [List.mem_singleton.mp z]; omega))) h4
      · rw [List.nodup_append]
        exact ⟨ndd.1, by simp, fun a ha b hb e => by
          have := inB a ha
          have : b = (q.1, h) := List.mem_singleton.mp hb
          have l := inB a ha
          rw [e, this] at l
          have l1 := l.1
          have l2 := l.2
          dsimp only at l1 l2
          omega⟩
      · rw [List.getLast?_append] at hq'
        simp at hq'
        subst hq'
        rcases (mm _).mp hx with z | z
        · exact Int.le_of_lt (hb _ z)
        · exact Int.le_of_eq z
    · simp only [e, if_false]
      refine apart fun z => e ?_
      have h1 := R.last q hq _ z
      have h2 := hb _ (qr.2.1 q.2 qr.1 (Int.le_refl _))
      omega
end AH
namespace AH
open PySem L2
variable [TheK]
/-! ### levels -/
def levL (G : Int → Int) : Int → List Int → List (Int × Int)
  | _, [] => []
  | low, h :: r => (h - low, G h) :: levL G h r
theorem tele {m : Int} : ∀ {P : List Int} {a : Int}, (a :: P).Pairwise (· < ·) → m ∈ a :: P → ((levL (fun h => if h ≤ m then 1 else 0) a P).map fun p => p.1 * p.2).sum = m - a
  | [], a, _, hm => by
    rw [List.mem_singleton.mp hm]
    show (0 : Int) = _
    omega
  | h :: r, a, hp, hm => by
    obtain ⟨h1, h2⟩ := List.pairwise_cons.mp hp
    show (h - a) * (if h ≤ m then 1 else 0) + ((levL (fun h => if h ≤ m then 1 else 0) h r).map fun p => p.1 * p.2).sum = m - a
    rcases List.mem_cons.mp hm with rfl | hm
    · have lt := h1 h List.mem_cons_self
      have z : ∀ {P : List Int} {b : Int}, (∀ x ∈ P, m < x) → ((levL (fun h => if h ≤ m then 1 else 0) b P).map fun p => p.1 * p.2).sum = 0 := by
        intro P
        induction P with
        | nil => intro _ _; rfl
        | cons x P ih =>
          intro b hx
          show (x - b) * (if x ≤ m then 1 else 0) + _ = (0 : Int)
          have := hx x List.mem_cons_self
          rw [if_neg (by omega), Int.mul_zero, Int.zero_add]
          exact ih fun y hy => hx y (List.mem_cons_of_mem _ hy)
      rw [if_neg (by omega), Int.mul_zero, z fun x hx => h1 x (List.mem_cons_of_mem _ hx)]
      omega
    · have ge : h ≤ m := by
        rcases List.mem_cons.mp hm with e | hm
        · omega
        · have := (List.pairwise_cons.mp h2).1 m hm
          omega
      rw [if_pos ge, tele h2 hm]
      omega
section
variable {ns : List Int}
end
end AH
namespace AH
open PySem L2
variable [TheK]
/-! ### rows set at a place; rows piled up -/
end AH
namespace AH
open PySem L2
variable [TheK]
/-! ### what is due first, with no end: how late it is done -/
structure LStep (S : List Wd) (h : Int) (c : Int) (r r' : Wd → Int) : Prop where
  lo : ∀ w ∈ S, 0 ≤ r' w
  le : ∀ w ∈ S, r' w ≤ r w
  off : ∀ w ∈ S, ¬ (w.1 ≤ h) → r' w = r w
  use : sg S (fun w => r w - r' w) ≤ c
  pri : ∀ w ∈ S, w.1 ≤ h → 0 < r' w → sg S (fun v => if v.2 ≤ w.2 then r v - r' v else 0) = c
structure LRun (S : List Wd) (n : Nat) (c : Nat → Int) (R : Nat → Wd → Int) : Prop where
  win : ∀ w ∈ S, 0 ≤ w.1 ∧ w.1 ≤ w.2
  nn : ∀ w ∈ S, 0 ≤ R 0 w
  cn : ∀ h, 0 ≤ c h
  st : ∀ h : Nat, h < n → LStep S h (c h) (R h) (R (h + 1))
namespace LRun
variable {S : List Wd} {n : Nat} {c : Nat → Int} {R : Nat → Wd → Int}
theorem nn' (E : LRun S n c R) {h : Nat} (hn : h ≤ n) {w : Wd} (hw : w ∈ S) : 0 ≤ R h w := by
  cases h with
  | zero => exact E.nn w hw
  | succ h => exact (E.st h hn).lo w hw
theorem mono (E : LRun S n c R) {h : Nat} {w : Wd} (hw : w ∈ S) : ∀ {k : Nat}, h ≤ k → k ≤ n → R k w ≤ R h w := by
  intro k
  induction k with
  | zero => intro h1 _; rw [Nat.le_zero.mp h1]; exact Int.le_refl _
  | succ k ih =>
    intro h1 h2
    by_cases e : h = k + 1
    · rw [e]; exact Int.le_refl _
    · have := ih (by omega) (by omega)
      have := (E.st k h2).le w hw
      omega
theorem early (E : LRun S n c R) {w : Wd} (hw : w ∈ S) : ∀ {h : Nat}, (h : Int) ≤ w.1 → h ≤ n → R h w = R 0 w := by
  intro h
  induction h with
  | zero => intro _ _; rfl
  | succ h ih =>
    intro h1 h2
    rw [(E.st h h2).off w hw (by omega), ih (by omega) (by omega)]
/-- what is left at an hour: a stretch asks more than the hours have -/
theorem back (E : LRun S n c R) {h : Nat} (hh : h ≤ n) {w0 : Wd} (hw0 : w0 ∈ S) (p0 : 0 < R h w0) (l0 : w0.1 ≤ h) : ∃ i : Nat, (i : Int) ≤ w0.1 ∧ pre c h - pre c i < askW S (R 0) i (w0.2.toNat + 1) := by
  have wb := E.win w0 hw0
  let Full : Nat → Prop := fun k => sg S (fun v => if v.2 ≤ w0.2 then R k v - R (k + 1) v else 0) = c k
  have full : ∀ k : Nat, w0.1.toNat ≤ k → k < h → Full k := fun k h1 h2 => by
    have m := E.mono hw0 (h := k + 1) (k := h) (by omega) (by omega)
    exact (E.st k (by omega)).pri w0 hw0 (by omega) (by omega)
  have down : ∀ e : Nat, (∀ k, e ≤ k → k < h → Full k) → ∃ i, i ≤ e ∧ (∀ k, i ≤ k → k < h → Full k) ∧ (i = 0 ∨ ¬ Full (i - 1)) := by
    intro e
    induction e with
    | zero => intro f; exact ⟨0, Nat.le_refl _, f, .inl rfl⟩
    | succ e ih =>
      intro f
      by_cases z : Full e
      · obtain ⟨i, h1, h2⟩ := ih fun k h1 h2 => by
          by_cases q : k = e
          · rw [q]; exact z
          · exact f k (by omega) h2
        exact ⟨i, by omega, h2⟩
      · exact ⟨e + 1, Nat.le_refl _, f, .inr z⟩
  obtain ⟨i, hie, hf, hmin⟩ := down w0.1.toNat full
  have hij : i ≤ h := by omega
  have zero : ∀ v ∈ S, v.1 < i → v.2 ≤ w0.2 → R i v = 0 := by
    intro v hv h1 h3
    have vb := E.win v hv
    obtain ⟨k, rfl⟩ : ∃ k, i = k + 1 := ⟨i - 1, by omega⟩
    have nf := hmin.resolve_left (by omega)
    have nn := E.nn' (h := k + 1) (by omega) hv
    refine Int.le_antisymm (Int.not_lt.mp fun pos => nf ?_) nn
    have st := E.st k (by omega)
    have p := st.pri v hv (by omega) pos
    have u := st.use
    have g1 : sg S (fun u => if u.2 ≤ v.2 then R k u - R (k + 1) u else 0) ≤ sg S (fun u => if u.2 ≤ w0.2 then R k u - R (k + 1) u else 0) := sg_le fun u hu => by
      have := st.le u hu
      split <;> split <;> omega
    have g2 : sg S (fun u => if u.2 ≤ w0.2 then R k u - R (k + 1) u else 0) ≤ sg S (fun u => R k u - R (k + 1) u) := sg_le fun u hu => by
      have := st.le u hu
      split <;> omega
    show sg S _ = c (k + 1 - 1)
    show sg S (fun u => if u.2 ≤ w0.2 then R k u - R (k + 1) u else 0) = c k
    omega
  have zero' : ∀ v ∈ S, v.1 < i → v.2 ≤ w0.2 → ∀ k, i ≤ k → k ≤ h → R k v = 0 := fun v hv h1 h3 k h4 h5 => by
    have z := zero v hv h1 h3
    have := E.mono hv h4 (by omega)
    have := E.nn' (h := k) (by omega) hv
    omega
  have hour : ∀ k, i ≤ k → k < h → c k = sg S (fun v => if (i : Int) ≤ v.1 ∧ v.2 ≤ w0.2 then R k v - R (k + 1) v else 0) := by
    intro k h1 h2
    rw [← hf k h1 h2]
    refine sg_congr fun v hv => ?_
    by_cases z : v.2 ≤ w0.2
    · rw [if_pos z]
      by_cases y : (i : Int) ≤ v.1
      · rw [if_pos ⟨y, z⟩]
      · rw [if_neg fun q => y q.1, zero' v hv (by omega) z k h1 (by omega), zero' v hv (by omega) z (k + 1) (by omega) (by omega)]
        omega
    · rw [if_neg z, if_neg fun q => z q.2]
  have tele : ∀ k, i ≤ k → k ≤ h → pre c k - pre c i = sg S (fun v => if (i : Int) ≤ v.1 ∧ v.2 ≤ w0.2 then R i v - R k v else 0) := by
    intro k
    induction k with
    | zero =>
      intro h1 _
      have e : i = 0 := by omega
      subst e
      rw [sg_z fun w _ => by split <;> omega]
      omega
    | succ k ih =>
      intro h1 h2
      by_cases e : i = k + 1
      · subst e
        rw [sg_z fun w _ => by split <;> omega]
        omega
      · have h3 := ih (by omega) (by omega)
        have h4 := hour k (by omega) (by omega)
        show pre c k + c k - pre c i = _
        have h5 : sg S (fun v => if (i : Int) ≤ v.1 ∧ v.2 ≤ w0.2 then R i v - R (k + 1) v else 0) = sg S (fun v => (if (i : Int) ≤ v.1 ∧ v.2 ≤ w0.2 then R i v - R k v else 0) + (if (i : Int) ≤ v.1 ∧ v.2 ≤ w0.2 then R k v - R (k + 1) v else 0)) := sg_congr fun v _ => by split <;> omega
        rw [sg_add] at h5
        omega
  refine ⟨i, by omega, ?_⟩
  have t := tele h hij (Nat.le_refl _)
  have h7 : sg S (fun v => if (i : Int) ≤ v.1 ∧ v.2 ≤ w0.2 then R i v - R h v else 0) = askW S (R 0) i (w0.2.toNat + 1) - sg S (fun v => if (i : Int) ≤ v.1 ∧ v.2 ≤ w0.2 then R h v else 0) := by
    unfold askW
    rw [← sg_sub]
    refine sg_congr fun v hv => ?_
    by_cases z : (i : Int) ≤ v.1 ∧ v.2 ≤ w0.2
    · rw [if_pos z, if_pos z, if_pos ⟨z.1, by omega⟩, E.early hv z.1 (by omega)]
    · rw [if_neg z, if_neg z, if_neg fun q => z ⟨q.1, by omega⟩]
      omega
  have g := sg_ge (S := S) (f := fun v => if (i : Int) ≤ v.1 ∧ v.2 ≤ w0.2 then R h v else 0) hw0 fun u hu => by
    have := E.nn' hh hu
    split <;> omega
  simp only [Int.le_refl, and_true] at g
  rw [if_pos (by omega)] at g
  omega
end LRun
end AH
namespace AH
open PySem L2
variable [TheK]
/-! ### an hour, with how late -/
/-! hour by hour -/
section
variable {s : Int} {ns : List Int} {a : Int} {r : Wd → Int}
end
end AH
namespace AH
open PySem L2
variable [TheK]
/-! ### how many hours more a stretch needs -/
section
variable {s t : Int} {its : List Er} {ns : List Int} {a : Int} {W : Wd → Option Int}
end
/-! ### a while loop -/
end AH
namespace AH
open PySem L2
variable [TheK]
/-! ### rows of lots -/
def en {α : Type} (L : List α) : List (Int × α) := ((List.range L.length).map fun i : Nat => (i : Int)).zip L
structure LOk (s : Int) (L : List (List Er)) : Prop where
  s1 : 1 ≤ s
  s8 : s ≤ 8
  ne : L ≠ []
  len : L.length ≤ 100
  its : ∀ x ∈ L, x.length ≤ 1000
section
variable {k : Bool} {s : Int} {L : List (List Er)}
end
end AH
namespace AH
open PySem L2
/-! ### moves -/
inductive Mv where
  | out (p : Wd)
  | front (p : Wd)
  | back (p : Wd)
  | cross (p q : Wd)
  deriving DecidableEq
variable [TheK]
def okM (n : Int) : Mv → Prop
  | .out p => p ∈ spansL n
  | .front p => p ∈ spansL n ∧ 0 < p.1
  | .back p => p ∈ spansL n ∧ p.2 < n - 1
  | .cross p q => (p ∈ spansL n ∧ q ∈ spansL n) ∧ p.1 < q.1 ∧ q.2 < p.2
instance {n : Int} {m : Mv} : Decidable (okM n m) := by cases m <;> (unfold okM; infer_instance)
/-! ### all moves -/
end AH
namespace AH
open PySem L2 PySem.NumText
variable [TheK]
/-! ### plain texts -/
def Asc (s : Str) : Prop := ∀ c ∈ s.cps.toList, c < 128
theorem Asc.app {a b : Str} (h : Asc a) (k : Asc b) : Asc (a ++ b) := fun c hc => by
  rw [tl_app] at hc
  exact (List.mem_append.mp hc).elim (h c) (k c)
theorem Asc.join {y : Str} (hy : Asc y) : ∀ {ps : List Str}, (∀ p ∈ ps, Asc p) → Asc (Str.join y ps)
  | [], _ => fun c hc => by cases hc
  | [p], h => h p List.mem_cons_self
  | p :: q :: r, h => (((h p List.mem_cons_self).app hy).app (Asc.join hy fun z hz => h z (List.mem_cons_of_mem _ hz)))
theorem Asc.ok {s : Str} (h : Asc s) : PySem.PyData.strOk s = true := by
  unfold PySem.PyData.strOk
  rw [Array.all_eq_true_iff_forall_mem]
  intro c hc
  have := h c (by simpa using hc)
  exact decide_eq_true (by omega)
theorem dEq_ss {a b : Str} (ha : Asc a) (hb : Asc b) : dEq (.str a) (.str b) = .ok (decide (a = b)) := by
  have h1 : D.plain 40 (.str a) = true := ha.ok
  have h2 : D.plain 40 (.str b) = true := hb.ok
  have h3 : D.eqv (.str a) (.str b) = decide (a = b) := by
    show (a == b) = _
    by_cases e : a = b <;> simp [e]
  unfold dEq
  rw [h1, h2, h3] <;> rfl
theorem dNe_ss {a b : Str} (ha : Asc a) (hb : Asc b) : dNe (.str a) (.str b) = .ok (!decide (a = b)) := by
  have h1 : D.plain 40 (.str a) = true := ha.ok
  have h2 : D.plain 40 (.str b) = true := hb.ok
  have h3 : D.eqv (.str a) (.str b) = decide (a = b) := by
    show (a == b) = _
    by_cases e : a = b <;> simp [e]
  unfold dNe
  rw [h1, h2, h3] <;> rfl
def WSt (d : D) (Q : Str → Prop) : Prop := match d with
  | .str s => Q s
  | _ => False
@[simp] theorem wst_str {s : Str} {Q : Str → Prop} : WSt (.str s) Q = Q s := nr rfl
@[simp] theorem wn_eS1 {f : Str → D → Rv D} {a b : DE} {e : Env} {Q : D → Env → Prop} {E : Str → List D → Env → Prop} : Wn (eS1 f a b) e Q E = Wn a e (fun x e1 => WSt x fun s => Wn b e1 (fun y e2 => WR (f s y) fun z => Q z e2) E) E := by
  simp only [eS1, wn_bind]
  congr 1
  funext x e1
  cases x with
  | str s => simp only [wn_bind, wn_of, wst_str]
  | _ => unfold Wn; rfl
@[simp] theorem wn_iChr {a : DE} {e : Env} {Q : List D → Env → Prop} {E : Str → List D → Env → Prop} : Wn (iChr a) e Q E = Wn a e (fun x e1 => WSt x fun z => Q (z.cps.toList.map fun c => .str ⟨#[c]⟩) e1) E := by
  simp only [iChr, wn_bind]
  congr 1
  funext x e1
  cases x <;> (unfold Wn; rfl)
@[simp] theorem dAdd_str {a b : Str} : dAdd (.str a) (.str b) = if lenOk (a.length + b.length) then .ok (.str (a ++ b)) else .bad := nr rfl
theorem dSplit_ok {a b : Str} {l : List Str} (h : Txt.split a b = l) (hb : 0 < b.length) (ha : a.length ≤ 90000) : dSplit a (.str b) = .ok (.lst (l.map D.str)) := by
  unfold dSplit
  dsimp only
  rw [if_pos (by rw [decide_eq_true hb, decide_eq_true ha] <;> rfl), h]
theorem dPart_ok {a b x y z : Str} (h : Txt.partition a b = (x, y, z)) (hb : 0 < b.length) (ha : a.length ≤ 90000) : dPart a (.str b) = .ok (.tup [.str x, .str y, .str z]) := by
  unfold dPart
  dsimp only
  rw [if_pos (by rw [decide_eq_true hb, decide_eq_true ha] <;> rfl), h]
theorem strsL_map : ∀ l : List Str, strsL (l.map D.str) = some l
  | [] => rfl
  | s :: l => by
    show (strsL (l.map D.str)).map _ = _
    rw [strsL_map l] <;> rfl
theorem dJoin_ok {a : Str} {l : List Str} {k : Bool} (h : (l.map (·.length)).sum + l.length * a.length ≤ 90000) : dJoin a (sq k (l.map D.str)) = .ok (.str (Str.join a l)) := by
  unfold dJoin
  have e : seqD (sq k (l.map D.str)) = some (l.map D.str) := by cases k <;> rfl
  rw [e]
  simp only [strsL_map]
  rw [if_pos (decide_eq_true h)]
  show Rv.ok (D.str (Builtin.Str.glued a l)) = _
  rw [StrLaws.glued_eq_join]
theorem sum_le {l : List Str} {B : Nat} (h : ∀ s ∈ l, s.length ≤ B) : (l.map (·.length)).sum ≤ l.length * B := by
  induction l with
  | nil => simp
  | cons s l ih =>
    have h1 := h s List.mem_cons_self
    have h2 := ih fun z hz => h z (List.mem_cons_of_mem _ hz)
    simp only [List.map_cons, List.sum_cons, List.length_cons, Nat.succ_mul]
    omega
/-! ### numbers as texts -/
def numS (n : Int) : Str := Str.ofString (toString n)
theorem numS_tl (n : Nat) : (numS n).cps.toList = (Nat.toDigits 10 n).map Char.toNat := PySem.W.KIN.signs_num n
theorem digits_len : ∀ (k n : Nat), 1 ≤ k → n < 10 ^ k → (Nat.toDigits 10 n).length ≤ k := by
  intro k
  induction k with
  | zero => intro n h; omega
  | succ k ih =>
    intro n _ hn
    by_cases h : n < 10
    · rw [Nat.toDigits_of_lt_base h]; simp
    · have hm : n % 10 < 10 := Nat.mod_lt n (by decide)
      have t : Nat.toDigits 10 (n / 10) ++ Nat.toDigits 10 (n % 10) = Nat.toDigits 10 (10 * (n / 10) + n % 10) := Nat.toDigits_append_toDigits (by decide) (by omega) hm
      rw [Nat.div_add_mod] at t
      have k1 : 1 ≤ k := by
        rcases Nat.eq_zero_or_pos k with z | z
        · subst z; omega
        · exact z
      have lt : n / 10 < 10 ^ k := by
        rw [Nat.pow_succ] at hn
        exact Nat.div_lt_of_lt_mul (by omega)
      have := ih (n / 10) k1 lt
      rw [← t, List.length_append, Nat.toDigits_of_lt_base hm]
      simp
      omega
theorem digits_head : ∀ n : Nat, ∃ c r, (Nat.toDigits 10 n).map Char.toNat = c :: r ∧ (c = 48 → n = 0) := by
  intro n
  induction n using Nat.strongRecOn with
  | _ n ih =>
    by_cases h : n < 10
    · refine ⟨(Nat.digitChar n).toNat, [], by rw [Nat.toDigits_of_lt_base h] <;> rfl, fun e => ?_⟩
      have := PySem.W.KIN.digit_back n h
      omega
    · have hm : n % 10 < 10 := Nat.mod_lt n (by decide)
      have t : Nat.toDigits 10 (n / 10) ++ Nat.toDigits 10 (n % 10) = Nat.toDigits 10 (10 * (n / 10) + n % 10) := Nat.toDigits_append_toDigits (by decide) (by omega) hm
      rw [Nat.div_add_mod] at t
      obtain ⟨c, r, e, hc⟩ := ih (n / 10) (by omega)
      refine ⟨c, r ++ (Nat.toDigits 10 (n % 10)).map Char.toNat, by rw [← t, List.map_append, e] <;> rfl, fun z => ?_⟩
      have := hc z
      omega
theorem numS_dig {n : Int} (h0 : 0 ≤ n) : AllDigits (numS n).cps.toList := by
  obtain ⟨m, rfl⟩ := Int.eq_ofNat_of_zero_le h0
  intro c hc
  rw [numS_tl] at hc
  obtain ⟨ch, hch, e⟩ := List.mem_map.mp hc
  have r := PyProof.Rows.digit_range (Nat.isDigit_of_mem_toDigits (by decide) (by decide) hch)
  rw [← e]
  exact r
theorem numS_head {n : Int} (h0 : 0 ≤ n) : ∃ c r, (numS n).cps.toList = c :: r ∧ (c = 48 → n = 0) := by
  obtain ⟨m, rfl⟩ := Int.eq_ofNat_of_zero_le h0
  obtain ⟨c, r, e, h⟩ := digits_head m
  exact ⟨c, r, by rw [numS_tl, e], fun z => by rw [h z] <;> rfl⟩
theorem numS_asc {n : Int} (h0 : 0 ≤ n) : Asc (numS n) := fun c hc => by
  have := numS_dig h0 c hc
  omega
theorem dStr_num {n : Int} (h0 : 0 ≤ n) (h1 : n < 10 ^ 50) : dStr (.int n) = .ok (.str (numS n)) := by
  unfold dStr
  dsimp only
  rw [if_pos]
  · rfl
  · refine decide_eq_true ?_
    have h2 : n.natAbs < 2 ^ 200 := by omega
    by_cases z : n.natAbs = 0
    · rw [z]; decide
    · have := (Nat.log2_lt (n := n.natAbs) (k := 200) z).mpr h2
      omega
theorem isDig_in (c : Nat) : decide (c ∈ ("0123456789" : Str).cps.toList) = (decide (48 ≤ c) && decide (c ≤ 57)) := by
  have e : ("0123456789" : Str).cps.toList = [48, 49, 50, 51, 52, 53, 54, 55, 56, 57] := by kernel_rfl
  rw [e]
  by_cases h : 48 ≤ c ∧ c ≤ 57
  · rw [decide_eq_true h.1, decide_eq_true h.2]
    refine decide_eq_true ?_
    simp only [List.mem_cons, List.not_mem_nil, or_false]
    omega
  · have : ¬ c ∈ [48, 49, 50, 51, 52, 53, 54, 55, 56, 57] := fun z => by
      simp only [List.mem_cons, List.not_mem_nil, or_false] at z
      omega
    rw [decide_eq_false this]
    symm
    rw [Bool.and_eq_false_iff, decide_eq_false_iff_not, decide_eq_false_iff_not]
    omega
theorem numin_lc {w : Str} (hl : w.length ≤ 1000) : LW.c_number_in_1 [.val (.str w), .no] = .ok (.lst (w.cps.toList.map fun c => .bl (decide (48 ≤ c) && decide (c ≤ 57)))) [.val (.str w), .no] := by
  unfold LW.c_number_in_1
  refine lc_map (L := w.cps.toList) (enc := fun c => .str ⟨#[c]⟩) (fun c => .bl (decide (48 ≤ c) && decide (c ≤ 57))) (Wn.eq (by simp)) rfl (by rw [len_tl]; omega) fun c _ => ?_
  have : dInS (.str ⟨#[c]⟩) (.str "0123456789") = .ok (decide (48 ≤ c) && decide (c ≤ 57)) := by
    show Rv.ok (decide (c ∈ ("0123456789" : Str).cps.toList)) = _
    rw [isDig_in]
  simp [wipeE, this]
theorem dIxA_str0 {w : Str} {c : Nat} {r : List Nat} (h : w.cps.toList = c :: r) (hl : w.length ≤ 1000) : dIxA (.str w) (.int 0) = .ok (.str ⟨#[c]⟩) := by
  have e : atI w.cps.toList (0 : Int) = some c := by
    have e1 : ixN (c :: r).length 0 = some 0 := by
      unfold ixN
      rw [if_pos (by omega), if_pos (by simp)]
      rfl
    rw [h]
    unfold atI
    rw [e1]
    rfl
  show (match atI w.cps.toList 0 with | some c => if decide (w.length ≤ 100000) then Rv.ok (D.str ⟨#[c]⟩) else .bad | none => .bad) = _
  rw [e]
  simp only
  rw [if_pos (decide_eq_true (by omega))]
theorem asc_nil : Asc "" := fun c hc => by
  have e : ("" : Str).cps.toList = [] := by kernel_rfl
  rw [e] at hc
  cases hc
theorem asc_0 : Asc "0" := fun c hc => by
  have e : ("0" : Str).cps.toList = [48] := by kernel_rfl
  rw [e] at hc
  simp at hc
  omega
theorem numS_0 : numS 0 = "0" := by kernel_rfl
theorem asc_1 {w : Str} {c : Nat} {r : List Nat} (e : w.cps.toList = c :: r) (ha : Asc w) : Asc ⟨#[c]⟩ := fun d hd' => by
  have : d = c := by simpa using hd'
  subst this
  exact ha d (by rw [e]; exact List.mem_cons_self)
/-! ### what word is a number -/
theorem val_app (l : List Nat) (d : Nat) : digitsVal (l ++ [d]) = digitsVal l * 10 + (d - 48) := by
  unfold digitsVal
  rw [List.foldl_append]
  rfl
theorem val_lt : ∀ (n : Nat) (l : List Nat), l.length = n → AllDigits l → digitsVal l < 10 ^ n := by
  intro n
  induction n with
  | zero => intro l hl _; rw [List.eq_nil_of_length_eq_zero hl]; decide
  | succ n ih =>
    intro l hl h
    rcases List.eq_nil_or_concat l with rfl | ⟨k, d, rfl⟩
    · simp at hl
    · rw [List.concat_eq_append] at *
      have h1 := ih k (by simpa using hl) fun c hc => h c (List.mem_append_left _ hc)
      have h2 := h d (by simp)
      rw [val_app, Nat.pow_succ]
      omega
theorem val_pos {c : Nat} {r : List Nat} (hc : 49 ≤ c) : 1 ≤ digitsVal (c :: r) := by
  unfold digitsVal
  rw [List.foldl_cons]
  have : ∀ (r : List Nat) (a : Nat), 1 ≤ a → 1 ≤ r.foldl (fun acc c => acc * 10 + (c - 48)) a := by
    intro r
    induction r with
    | nil => intro a h; exact h
    | cons x r ih => intro a h; rw [List.foldl_cons]; exact ih _ (by omega)
  exact this r _ (by omega)
theorem dig1 {d : Nat} (h : 48 ≤ d ∧ d ≤ 57) : (Nat.toDigits 10 (d - 48)).map Char.toNat = [d] := by
  have : d = 48 ∨ d = 49 ∨ d = 50 ∨ d = 51 ∨ d = 52 ∨ d = 53 ∨ d = 54 ∨ d = 55 ∨ d = 56 ∨ d = 57 := by omega
  rcases this with rfl | rfl | rfl | rfl | rfl | rfl | rfl | rfl | rfl | rfl <;> decide +kernel
/-- a word without a nought ahead is what its number writes -/
theorem digits_canon : ∀ (n : Nat) (l : List Nat), l.length = n + 1 → AllDigits l → (∀ c r, l = c :: r → c ≠ 48 ∨ r = []) → (Nat.toDigits 10 (digitsVal l)).map Char.toNat = l := by
  intro n
  induction n with
  | zero =>
    intro l hl h _
    match l, hl with
    | [d], _ =>
      have := dig1 (h d List.mem_cons_self)
      show (Nat.toDigits 10 (0 * 10 + (d - 48))).map Char.toNat = [d]
      rw [Nat.zero_mul, Nat.zero_add]
      exact this
  | succ n ih =>
    intro l hl h hz
    rcases List.eq_nil_or_concat l with rfl | ⟨k, d, rfl⟩
    · simp at hl
    · rw [List.concat_eq_append] at *
      have kl : k.length = n + 1 := by simpa using hl
      have hd := h d (by simp)
      match k, kl with
      | c :: r, kl =>
        have c48 : c ≠ 48 := by
          rcases hz c (r ++ [d]) rfl with z | z
          · exact z
          · simp at z
        have hk : AllDigits (c :: r) := fun x hx => h x (List.mem_append_left _ hx)
        have e := ih (c :: r) kl hk fun c' r' e => by cases e; exact .inl c48
        have p := val_pos (c := c) (r := r) (by have := (hk c List.mem_cons_self).1; omega)
        have t : Nat.toDigits 10 (digitsVal (c :: r)) ++ Nat.toDigits 10 (d - 48) = Nat.toDigits 10 (10 * digitsVal (c :: r) + (d - 48)) := Nat.toDigits_append_toDigits (by decide) (by omega) (by omega)
        rw [val_app, Nat.mul_comm, ← t, List.map_append, e, dig1 hd]
def isD (c : Nat) : Bool := decide (48 ≤ c) && decide (c ≤ 57)
def numO (w : Str) : Option Int := match w.cps.toList with
  | [] => none
  | c :: r => if (c :: r).all isD && (decide (c ≠ 48) || r.isEmpty) then some ((digitsVal (c :: r) : Nat) : Int) else none
theorem allD {l : List Nat} (h : l.all isD = true) : AllDigits l := fun c hc => by
  have := List.all_eq_true.mp h c hc
  simpa [isD] using this
theorem str_nil {w : Str} : w.cps.toList = [] ↔ w = "" := by
  have e : ("" : Str).cps.toList = [] := by kernel_rfl
  exact ⟨fun h => str_ext (by rw [h, e]), fun h => by rw [h, e]⟩
theorem str_0 {w : Str} : w.cps.toList = [48] ↔ w = "0" := by
  have e : ("0" : Str).cps.toList = [48] := by kernel_rfl
  exact ⟨fun h => str_ext (by rw [h, e]), fun h => by rw [h, e]⟩
theorem numO_dig {w : Str} {n : Int} (h : numO w = some n) : ∃ c r, w.cps.toList = c :: r ∧ AllDigits (c :: r) ∧ (c ≠ 48 ∨ r = []) ∧ n = ((digitsVal (c :: r) : Nat) : Int) := by
  unfold numO at h
  split at h
  · cases h
  · rename_i c r e
    split at h
    · rename_i q
      cases h
      simp only [Bool.and_eq_true, Bool.or_eq_true, decide_eq_true_eq, List.isEmpty_iff] at q
      exact ⟨c, r, e, allD q.1, q.2, rfl⟩
    · cases h
theorem numO_len {w : Str} {n : Int} (h : numO w = some n) : 1 ≤ w.length := by
  obtain ⟨c, r, e, _⟩ := numO_dig h
  rw [← len_tl, e]
  simp
theorem numO_nn {w : Str} {n : Int} (h : numO w = some n) : 0 ≤ n := by
  obtain ⟨c, r, _, _, _, rfl⟩ := numO_dig h
  omega
theorem dIntS_dig {w : Str} (hd : AllDigits w.cps.toList) (ne : w.cps.toList ≠ []) (hl : w.length ≤ 400) : dIntS (.str w) = .ok (.int ((digitsVal w.cps.toList : Nat) : Int)) := by
  have key := intText_digits hd ne (by omega)
  unfold dIntS
  dsimp only
  rw [key]
  dsimp only
  rw [if_pos (decide_eq_true (by omega))]
theorem dStr_dig {w : Str} (hd : AllDigits w.cps.toList) (hl : w.length ≤ 400) : dStr (.int ((digitsVal w.cps.toList : Nat) : Int)) = .ok (.str (numS ((digitsVal w.cps.toList : Nat) : Int))) := by
  have lt := val_lt w.cps.toList.length w.cps.toList rfl hd
  have l2 : digitsVal w.cps.toList < 2 ^ 1900 := by
    refine Nat.lt_of_lt_of_le lt (Nat.le_trans (Nat.pow_le_pow_right (by decide) (show w.cps.toList.length ≤ 400 by rw [len_tl]; exact hl)) ?_)
    decide +kernel
  generalize digitsVal w.cps.toList = v at l2 ⊢
  unfold dStr
  dsimp only
  rw [if_pos]
  · rfl
  · refine decide_eq_true ?_
    show v.log2 < 1920
    by_cases z : v = 0
    · rw [z]; decide
    · have := (Nat.log2_lt (n := v) (k := 1900) z).mpr l2
      omega
/-- what its number writes: just a word without a nought ahead -/
theorem numS_same {w : Str} {c : Nat} {r : List Nat} (e : w.cps.toList = c :: r) (hd : AllDigits (c :: r)) : numS ((digitsVal (c :: r) : Nat) : Int) = w ↔ (c ≠ 48 ∨ r = []) := by
  constructor
  · intro h
    by_cases z : c = 48
    · right
      obtain ⟨c', r', e', h'⟩ := numS_head (n := ((digitsVal (c :: r) : Nat) : Int)) (by omega)
      rw [h, e] at e'
      cases e'
      have n0 := h' z
      rw [n0, numS_0] at h
      have := str_0.mpr h.symm
      rw [e] at this
      cases this
      rfl
    · exact .inl z
  · intro h
    refine str_ext ?_
    rw [numS_tl, e]
    exact digits_canon r.length (c :: r) rfl hd fun c' r' q => by cases q; exact h
theorem al_dig {w : Str} : dAll (.lst (w.cps.toList.map fun c => .bl (decide (48 ≤ c) && decide (c ≤ 57)))) = .ok (.bl (w.cps.toList.all isD)) := dAll_map (f := isD)
theorem number_in_wf {w : Str} (ha : Asc w) (hl : w.length ≤ 400) {Q : D → List (List D) → Prop} {E : Str → List D → List (List D) → Prop} (hq : ∀ n, numO w = some n → Q (.int n) []) (he : numO w = none → E "BadText" [] []) : WF (LW.f_number_in [.str w]) Q E := by
  have lc := numin_lc (w := w) (by omega)
  have q1 := dEq_ss ha asc_nil
  have al := al_dig (w := w)
  rw [LW.f_number_in, wf_mkF rfl]
  cases hw : w.cps.toList with
  | nil =>
    have : w = "" := str_nil.mp hw
    rw [decide_eq_true this] at q1
    simp [startE, LW.m_number_in, wn_seq, q1, lentOf]
    exact he (by unfold numO; rw [hw])
  | cons c r =>
    have n1 : ¬ w = "" := fun z => by rw [str_nil.mpr z] at hw; cases hw
    rw [decide_eq_false n1] at q1
    have q2 := dIxA_str0 hw (by omega)
    have q3 := dEq_ss (asc_1 hw ha) asc_0
    have q4 := dNe_ss ha asc_0
    have e48 : (⟨#[c]⟩ : Str) = "0" ↔ c = 48 := by
      rw [← str_0]
      simp
    have e0 : w = "0" ↔ (c = 48 ∧ r = []) := by
      rw [← str_0, hw]
      simp
    have q5 := fun hd => dIntS_dig (w := w) hd (by rw [hw]; simp) hl
    have nO : numO w = if (c :: r).all isD && (decide (c ≠ 48) || r.isEmpty) then some ((digitsVal (c :: r) : Nat) : Int) else none := by
      unfold numO
      rw [hw]
    cases hd : (c :: r).all isD with
    | false =>
      rw [hw, hd] at al
      rw [hw] at lc
      simp [startE, LW.m_number_in, wn_seq, q1, -List.map_cons, wn_eq lc, al, lentOf]
      exact he (by rw [nO, hd] <;> rfl)
    | true =>
      rw [hw, hd] at al
      rw [hw] at lc q5
      have q5 := q5 (allD hd)
      by_cases z : c = 48
      · rw [decide_eq_true (e48.mpr z)] at q3
        by_cases zr : r = []
        · rw [decide_eq_true (e0.mpr ⟨z, zr⟩)] at q4
          simp [startE, LW.m_number_in, wn_seq, q1, -List.map_cons, wn_eq lc, al, q2, q3, q4, q5]
          exact hq _ (by rw [nO, hd, zr]; simp)
        · rw [decide_eq_false fun k => zr (e0.mp k).2] at q4
          simp [startE, LW.m_number_in, wn_seq, q1, -List.map_cons, wn_eq lc, al, q2, q3, q4, lentOf]
          refine he ?_
          rw [nO, hd, z]
          cases r with
          | nil => exact absurd rfl zr
          | cons x r => rfl
      · rw [decide_eq_false fun k => z (e48.mp k)] at q3
        simp [startE, LW.m_number_in, wn_seq, q1, -List.map_cons, wn_eq lc, al, q2, q3, q5]
        exact hq _ (by rw [nO, hd]; simp [z])
/-! ### comprehensions whose items may raise -/
def mapO {T α : Type} (f : T → Option α) : List T → Option (List α)
  | [] => some []
  | x :: r => match f x, mapO f r with
    | some y, some ys => some (y :: ys)
    | _, _ => none
theorem mapO_cons {T α : Type} {f : T → Option α} {x : T} {r : List T} : mapO f (x :: r) = (match f x, mapO f r with
    | some y, some ys => some (y :: ys)
    | _, _ => none) := rfl
theorem compL_cons {vs : List Nat} {e0 : Env} {g : DG} {t : DT} {a : DE} {x : D} {xs : List D} {e : Env} : compL vs e0 g t a (x :: xs) e = ((g x).bind fun _ => t.bind fun k =>
      (if k then a.bind fun y => M.pure [y] else M.pure []).bind fun ys =>
      fun e1 => ((compL vs e0 g t a xs).bind fun zs => M.pure (ys ++ zs)) (wipeE e1 vs)) e := rfl
theorem mapO_len {T α : Type} {f : T → Option α} : ∀ {L : List T} {xs : List α}, mapO f L = some xs → xs.length = L.length
  | [], xs, h => by cases h; rfl
  | x :: r, xs, h => by
    unfold mapO at h
    split at h
    · rename_i y ys _ h2
      cases h
      simp [mapO_len h2]
    · cases h
theorem mapO_mem {T α : Type} {f : T → Option α} : ∀ {L : List T} {xs : List α}, mapO f L = some xs → ∀ z ∈ xs, ∃ y ∈ L, f y = some z
  | [], xs, h, z, hz => by cases h; cases hz
  | x :: r, xs, h, z, hz => by
    unfold mapO at h
    split at h
    · rename_i y ys h1 h2
      cases h
      rcases List.mem_cons.mp hz with rfl | hz
      · exact ⟨x, List.mem_cons_self, h1⟩
      · obtain ⟨w, hw, e⟩ := mapO_mem h2 z hz
        exact ⟨w, List.mem_cons_of_mem _ hw, e⟩
    · cases h
theorem mapO_each {T α : Type} {f : T → Option α} : ∀ {L : List T} {xs : List α}, mapO f L = some xs → ∀ y ∈ L, ∃ z, f y = some z
  | x :: r, xs, h, y, hy => by
    unfold mapO at h
    split at h
    · rename_i z zs h1 h2
      rcases List.mem_cons.mp hy with rfl | hy
      · exact ⟨z, h1⟩
      · exact mapO_each h2 y hy
    · cases h
theorem mapO_none {T α : Type} {f : T → Option α} : ∀ {L : List T}, mapO f L = none ↔ none ∈ L.map f
  | [] => by simp [mapO]
  | x :: r => by
    rw [List.map_cons, List.mem_cons, ← mapO_none, mapO_cons]
    cases f x <;> cases mapO f r <;> simp
theorem mapO_map {T α : Type} {f : T → Option α} : ∀ {L : List T} {xs : List α}, mapO f L = some xs → L.map f = xs.map some
  | [], xs, h => by cases h; rfl
  | x :: r, xs, h => by
    unfold mapO at h
    split at h
    · rename_i z zs h1 h2
      cases h
      rw [List.map_cons, List.map_cons, h1, mapO_map h2]
    · cases h
theorem Wn.two {α : Type} {m : M α} {e : Env} {Q : α → Env → Prop} {E : Str → List D → Env → Prop} (h : Wn m e Q E) : (∃ a e1, m e = .ok a e1 ∧ Q a e1) ∨ ∃ c fs e1, m e = .ex c fs e1 ∧ E c fs e1 := by
  unfold Wn at h
  cases q : m e with
  | ok a e1 => rw [q] at h; exact .inl ⟨a, e1, rfl, h⟩
  | ex c fs e1 => rw [q] at h; exact .inr ⟨c, fs, e1, rfl, h⟩
  | bad => rw [q] at h; exact h.elim
theorem bind_ex {α β : Type} {m : M α} {f : α → M β} {e e1 : Env} {c : Str} {fs : List D} (h : m e = .ex c fs e1) : M.bind m f e = .ex c fs e1 := by
  unfold M.bind
  rw [h]
theorem lcX_ok {T α : Type} {vs : List Nat} {it : DI} {g : DG} {a : DE} {e : Env} {L : List T} {enc : T → D} {c : Str} (f : T → Option α) (en : α → D) (hi : it e = .ok (L.map enc) e) (hv : (vs.any fun v => isOwn (sl e v)) = false) (hl : L.length ≤ 100000)
    (h : ∀ y ∈ L, Wn (g (enc y)) (wipeE e vs) (fun _ e1 => wipeE e1 vs = wipeE e vs ∧ Wn a e1 (fun d e2 => e2 = e1 ∧ ∃ x, f y = some x ∧ d = en x) (fun c' fs e2 => f y = none ∧ c' = c ∧ fs = [] ∧ e2 = e1)) NoE) :
    eLcX vs it g tYes a e = match mapO f L with
      | some xs => .ok (.lst (xs.map en)) e
      | none => .ex c [] e := by
  have key : ∀ L : List T, (∀ y ∈ L, Wn (g (enc y)) (wipeE e vs) (fun _ e1 => wipeE e1 vs = wipeE e vs ∧ Wn a e1 (fun d e2 => e2 = e1 ∧ ∃ x, f y = some x ∧ d = en x) (fun c' fs e2 => f y = none ∧ c' = c ∧ fs = [] ∧ e2 = e1)) NoE) →
      (∀ xs, mapO f L = some xs → compL vs e g (noX tYes) a (L.map enc) (wipeE e vs) = .ok (xs.map en) (wipeE e vs)) ∧ (mapO f L = none → ∃ e', compL vs e g (noX tYes) a (L.map enc) (wipeE e vs) = .ex c [] e' ∧ wipeE e' vs = wipeE e vs) := by
    intro L
    induction L with
    | nil => intro _; exact ⟨fun xs hx => by cases hx; rfl, fun hx => by cases hx⟩
    | cons y L ih =>
      intro h
      obtain ⟨ih1, ih2⟩ := ih fun z hz => h z (List.mem_cons_of_mem _ hz)
      rcases (h y List.mem_cons_self).two with ⟨u, e1, hg, hw, ha⟩ | ⟨_, _, _, _, z⟩
      · have yes : noX tYes e1 = .ok true e1 := rfl
        rcases ha.two with ⟨d, e2, ha, rfl, x, fx, rfl⟩ | ⟨c', fs, e2, ha, fx, rfl, rfl, rfl⟩
        · have step : compL vs e g (noX tYes) a ((y :: L).map enc) (wipeE e vs) = ((compL vs e g (noX tYes) a (L.map enc)).bind fun zs => M.pure ([en x] ++ zs)) (wipeE e2 vs) := by
            rw [List.map_cons, compL_cons, bind_ok hg, bind_ok yes]
            have q : (a.bind fun y => M.pure [y]) e2 = .ok [en x] e2 := by rw [bind_ok ha]; rfl
            simp only [if_true]
            rw [bind_ok q]
          rw [step, hw]
          constructor
          · intro xs hx
            unfold mapO at hx
            rw [fx] at hx
            cases hm : mapO f L with
            | none => rw [hm] at hx; cases hx
            | some ys =>
              rw [hm] at hx
              cases hx
              rw [bind_ok (ih1 ys hm)]
              rfl
          · intro hx
            unfold mapO at hx
            rw [fx] at hx
            cases hm : mapO f L with
            | some ys => rw [hm] at hx; cases hx
            | none =>
              obtain ⟨e', k1, k2⟩ := ih2 hm
              exact ⟨e', bind_ex k1, k2⟩
        · have step : compL vs e g (noX tYes) a ((y :: L).map enc) (wipeE e vs) = .ex c' [] e2 := by
            rw [List.map_cons, compL_cons, bind_ok hg, bind_ok yes]
            simp only [if_true]
            exact bind_ex (bind_ex ha)
          constructor
          · intro xs hx
            unfold mapO at hx
            rw [fx] at hx
            cases hx
          · intro _
            exact ⟨e2, step, hw⟩
      · exact z.elim
  obtain ⟨k1, k2⟩ := key L h
  unfold eLcX
  rw [bind_ok hi]
  have hl' : lenOk (L.map enc).length = true := by rw [List.length_map]; exact decide_eq_true hl
  simp only [hv, hl', Bool.not_true, Bool.or_self]
  cases hm : mapO f L with
  | some xs =>
    rw [k1 xs hm]
    show R.ok (D.lst (xs.map en)) (back e (wipeE e vs) vs) = _
    rw [back_wipe]
  | none =>
    obtain ⟨e', q1, q2⟩ := k2 hm
    rw [q1]
    show R.ex c [] (back e (wipeE e' vs) vs) = _
    rw [q2, back_wipe]
/-! ### the law's own reading of a number -/
def opt : Option Int → D
  | some n => .int n
  | none => .non
def numL (w : Str) (low : Int) : Option Int := match numO w with
  | some n => if low ≤ n then some n else none
  | none => none
theorem dNe_nil {n : Nat} {xs : List D} (h : (D.lst xs).sm n = true) (hn : n ≤ 40) : dNe (.lst xs) (.lst []) = .ok (!xs.isEmpty) := by
  have := dEq_nilL h hn
  unfold dEq at this
  unfold dNe
  split at this
  · rename_i hp
    rw [if_pos hp]
    have e : (D.lst xs).eqv (.lst []) = xs.isEmpty := by
      injection this
    rw [e]
  · cases this
theorem law_number_ok {w : Str} {low : Int} (ha : Asc w) (hl : w.length ≤ 400) : LW.f_law_number [.str w, .int low] = .ok (opt (numL w low)) [] := by
  have q1 := dEq_ss ha asc_nil
  have lc : LW.c_law_number_1 [.val (.str w), .val (.int low), .no, .no] = .ok (.lst ((w.cps.toList.filter fun c => !isD c).map fun c => .str ⟨#[c]⟩)) [.val (.str w), .val (.int low), .no, .no] := by
    unfold LW.c_law_number_1
    refine lc_filter (L := w.cps.toList) (enc := fun c => .str ⟨#[c]⟩) (fun c => !isD c) (fun c => .str ⟨#[c]⟩) (Wn.eq (by simp)) rfl (by rw [len_tl]; omega) fun c _ => ?_
    have : dNotInS (.str ⟨#[c]⟩) (.str "0123456789") = .ok (!isD c) := by
      show Rv.ok (!decide (c ∈ ("0123456789" : Str).cps.toList)) = _
      rw [isDig_in] <;> rfl
    simp [wipeE, this]
  have sm : (D.lst ((w.cps.toList.filter fun c => !isD c).map fun c => D.str ⟨#[c]⟩)).sm 1 = true := by
    refine sm_lst.mpr ⟨by rw [List.length_map]; exact Nat.le_trans (List.length_filter_le _ _) (by rw [len_tl]; omega), fun x hx => ?_⟩
    obtain ⟨c, hc, rfl⟩ := List.mem_map.mp hx
    have as : Asc ⟨#[c]⟩ := fun d hd => by
      have : d = c := by simpa using hd
      subst this
      exact ha d (List.mem_filter.mp hc).1
    exact as.ok
  have dn := dNe_nil sm (by omega)
  have em : ((w.cps.toList.filter fun c => !isD c).map fun c => D.str ⟨#[c]⟩).isEmpty = w.cps.toList.all isD := by
    generalize w.cps.toList = l
    rw [Bool.eq_iff_iff]
    simp [List.filter_eq_nil_iff]
  rw [em] at dn
  generalize ((w.cps.toList.filter fun c => !isD c).map fun c => D.str ⟨#[c]⟩) = G at lc dn
  refine WF.eq ?_
  rw [LW.f_law_number, wf_mkF rfl]
  cases hw : w.cps.toList with
  | nil =>
    rw [decide_eq_true (str_nil.mp hw)] at q1
    have : numL w low = none := by unfold numL numO; rw [hw]
    simp [startE, LW.m_law_number, wn_seq, q1, this, opt]
  | cons c r =>
    have n1 : ¬ w = "" := fun z => by rw [str_nil.mpr z] at hw; cases hw
    rw [decide_eq_false n1] at q1
    have nO : numO w = if (c :: r).all isD && (decide (c ≠ 48) || r.isEmpty) then some ((digitsVal (c :: r) : Nat) : Int) else none := by
      unfold numO
      rw [hw]
    rw [hw] at dn
    cases hd : (c :: r).all isD with
    | false =>
      rw [hd] at dn
      have : numL w low = none := by unfold numL; rw [nO, hd] <;> rfl
      simp [startE, LW.m_law_number, wn_seq, q1, wn_eq lc, dn, this, opt]
    | true =>
      rw [hd] at dn
      have hD := allD hd
      have q5 := dIntS_dig (w := w) (by rw [hw]; exact hD) (by rw [hw]; simp) hl
      have q6 := dStr_dig (w := w) (by rw [hw]; exact hD) hl
      have ns := numS_same hw hD
      rw [hw] at q5 q6
      have q7 := dEq_ss (numS_asc (n := ((digitsVal (c :: r) : Nat) : Int)) (by omega)) ha
      generalize hv : ((digitsVal (c :: r) : Nat) : Int) = v at *
      by_cases z : c ≠ 48 ∨ r = []
      · rw [decide_eq_true (ns.mpr z)] at q7
        have nv : numO w = some v := by
          rw [nO, hd]
          rcases z with z | z
          · simp [z]
          · simp [z]
        by_cases lo : low ≤ v
        · have : numL w low = some v := by unfold numL; rw [nv]; simp [lo]
          simp [startE, LW.m_law_number, wn_seq, q1, wn_eq lc, dn, this, opt, q5, q6, q7, lo]
        · have : numL w low = none := by unfold numL; rw [nv]; simp [lo]
          simp [startE, LW.m_law_number, wn_seq, q1, wn_eq lc, dn, this, opt, q5, q6, q7, lo]
      · rw [decide_eq_false fun k => z (ns.mp k)] at q7
        have : numL w low = none := by
          unfold numL
          rw [nO, hd]
          have z1 : c = 48 := Decidable.byContradiction fun k => z (.inl k)
          have z2 : r ≠ [] := fun k => z (.inr k)
          cases r with
          | nil => exact absurd rfl z2
          | cons x r => subst z1; rfl
        simp [startE, LW.m_law_number, wn_seq, q1, wn_eq lc, dn, this, opt, q5, q6, q7]
end AH
namespace AH
open PySem L2
variable [TheK]
/-! ### wishes for the words of DL61, DL62 -/
section
variable {e : Env} {E : Str → List D → Env → Prop}
end
/-! ### tupled -/
theorem tupled_ok : ∀ {k n : Nat} {d : D}, d.sm n = true → n + 1 ≤ k → f_tupled k [d] = .ok d.tu [] := by
  intro k
  induction k with
  | zero => intro n d _ h; omega
  | succ k ih =>
    intro n d hd hk
    have lc : ∀ {xs : List D} {d : D} {m : Nat}, (d = .tup xs ∨ d = .lst xs) → xs.length ≤ 10000 → (∀ x ∈ xs, f_tupled k [x] = .ok x.tu []) → c_tupled_1 (f_tupled k) [.val d, .no] = .ok (.lst (xs.map D.tu)) [.val d, .no] := by
      intro xs d m hd hl h
      unfold c_tupled_1
      refine lc_mapD D.tu ?_ rfl (by omega) fun y hy => ?_
      · rcases hd with rfl | rfl <;> rfl
      · simp [wipeE, h y hy]
    cases d with
    | tup xs =>
      cases n with
      | zero => cases hd
      | succ n =>
        rw [sm_tup] at hd
        have l := lc (d := .tup xs) (m := n) (.inl rfl) hd.1 fun x hx => ih (hd.2 x hx) (by omega)
        refine mkF_rt rfl (e := [.val (.tup xs), .no]) (show m_tupled (f_tupled k) [.val (.tup xs), .no] = _ from ?_) rfl
        simp [m_tupled, l]
    | lst xs =>
      cases n with
      | zero => cases hd
      | succ n =>
        rw [sm_lst] at hd
        have l := lc (d := .lst xs) (m := n) (.inr rfl) hd.1 fun x hx => ih (hd.2 x hx) (by omega)
        refine mkF_rt rfl (e := [.val (.lst xs), .no]) (show m_tupled (f_tupled k) [.val (.lst xs), .no] = _ from ?_) rfl
        simp [m_tupled, l]
    | int i => simp [f_tupled, m_tupled, mkF, lstsOk, startE, lentOf, isi, D.tu]
    | bl i => simp [f_tupled, m_tupled, mkF, lstsOk, startE, lentOf, isi, D.tu]
    | non => simp [f_tupled, m_tupled, mkF, lstsOk, startE, lentOf, isi, D.tu]
    | str s => simp [f_tupled, m_tupled, mkF, lstsOk, startE, lentOf, isi, D.tu]
    | dic _ => cases n <;> cases hd
    | exc _ _ _ => cases n <;> cases hd
    | obj _ => cases n <;> cases hd
end AH
namespace AH
open PySem L2 PySem.NumText
variable [TheK]
theorem c_dash : ("-" : Str).cps.toList = [45] := by kernel_rfl
theorem c_gap : (" " : Str).cps.toList = [32] := by kernel_rfl
theorem c_colon : (": " : Str).cps.toList = [58, 32] := by kernel_rfl
theorem c_comma : (", " : Str).cps.toList = [44, 32] := by kernel_rfl
theorem c_dots : (".." : Str).cps.toList = [46, 46] := by kernel_rfl
theorem c_feed : ("\n" : Str).cps.toList = [10] := by kernel_rfl
theorem l_dash : ("-" : Str).length = 1 := by kernel_rfl
theorem l_gap : (" " : Str).length = 1 := by kernel_rfl
theorem l_colon : (": " : Str).length = 2 := by kernel_rfl
theorem l_comma : (", " : Str).length = 2 := by kernel_rfl
theorem l_dots : (".." : Str).length = 2 := by kernel_rfl
theorem l_feed : ("\n" : Str).length = 1 := by kernel_rfl
theorem asc_of {s : Str} {l : List Nat} (h : s.cps.toList = l) (k : ∀ c ∈ l, c < 128) : Asc s := fun c hc => k c (h ▸ hc)
theorem a_dash : Asc "-" := asc_of c_dash (by decide)
theorem a_gap : Asc " " := asc_of c_gap (by decide)
theorem a_colon : Asc ": " := asc_of c_colon (by decide)
theorem a_comma : Asc ", " := asc_of c_comma (by decide)
theorem a_dots : Asc ".." := asc_of c_dots (by decide)
theorem a_feed : Asc "\n" := asc_of c_feed (by decide)
theorem len_app (a b : Str) : (a ++ b).length = a.length + b.length := Str.length_append a b
/-! ### texts taken apart -/
theorem split_ne (t m : Str) : Txt.split t m ≠ [] := by
  unfold Txt.split
  split
  · simp
  · split
    · simp
    · rw [StrLaws.partsBetween_eq]
      obtain ⟨p, r, e⟩ := StrLaws.partsFrom_ne t m.length 0 (Builtin.Str.occurrences t m 0 t.length (t.length + 1))
      intro z
      rw [z] at e
      cases e
theorem join_mem {y p : Str} : ∀ {ps : List Str}, p ∈ ps → ∀ c ∈ p.cps.toList, c ∈ (Str.join y ps).cps.toList
  | [q], h, c, hc => by
    rw [List.mem_singleton.mp h] at hc
    exact hc
  | q :: r :: ps, h, c, hc => by
    rw [join_cons]
    rcases List.mem_cons.mp h with rfl | h
    · exact List.mem_append_left _ hc
    · exact List.mem_append_right _ (List.mem_append_right _ (join_mem h c hc))
theorem join_len {y : Str} : ∀ {ps : List Str}, ps ≠ [] → (Str.join y ps).length + y.length = (ps.map (·.length)).sum + ps.length * y.length
  | [], h => absurd rfl h
  | [q], _ => by
    show q.length + y.length = _
    simp
  | q :: r :: ps, _ => by
    have ih := join_len (y := y) (ps := r :: ps) (by simp)
    have e := congrArg List.length (join_cons (y := y) (a := q) (b := r) (r := ps))
    rw [List.length_append, List.length_append, len_tl, len_tl, len_tl, len_tl] at e
    rw [List.map_cons, List.sum_cons, List.length_cons, Nat.succ_mul]
    omega
theorem part_len {p : Str} : ∀ {ps : List Str}, p ∈ ps → p.length ≤ (ps.map (·.length)).sum
  | q :: ps, h => by
    rw [List.map_cons, List.sum_cons]
    rcases List.mem_cons.mp h with rfl | h
    · omega
    · have := part_len h
      omega
structure SpT (t : Str) (ps : List Str) (m : Nat) : Prop where
  ne : ps ≠ []
  asc : ∀ p ∈ ps, Asc p
  len : ∀ p ∈ ps, p.length ≤ t.length
  num : ps.length ≤ t.length + 1
  sum : t.length + m = (ps.map (·.length)).sum + ps.length * m
theorem split_ok {t m : Str} (ha : Asc t) (hm : 0 < m.length) : SpT t (Txt.split t m) m.length := by
  have ne := split_ne t m
  have js := StrLaws.join_split t m
  have jl := join_len (y := m) ne
  rw [js] at jl
  have k1 : (Txt.split t m).length * 1 ≤ (Txt.split t m).length * m.length := Nat.mul_le_mul_left _ hm
  obtain ⟨n, hn⟩ : ∃ n, (Txt.split t m).length = n + 1 := by
    cases h : Txt.split t m with
    | nil => exact absurd h ne
    | cons a l => exact ⟨l.length, by simp⟩
  have k2 : (n + 1) * m.length = n * m.length + m.length := Nat.succ_mul _ _
  have k3 : n * 1 ≤ n * m.length := Nat.mul_le_mul_left _ hm
  refine ⟨ne, fun p hp c hc => ?_, fun p hp => ?_, ?_, jl⟩
  · have := join_mem (y := m) hp c hc
    rw [js] at this
    exact ha c this
  · have := part_len hp
    rw [hn] at jl
    omega
  · rw [hn] at jl ⊢
    omega
theorem split_nil {m : Str} (hm : 0 < m.length) : Txt.split ("" : Str) m = [("" : Str)] := by
  unfold Txt.split
  have e : ("" : Str).length = 0 := by kernel_rfl
  rw [if_pos]
  rw [e, decide_eq_true hm]
  rfl
theorem sp_ok {t m : Str} (hm : 0 < m.length) (ht : t.length ≤ 90000) : dSplit t (.str m) = .ok (.lst ((Txt.split t m).map D.str)) := dSplit_ok rfl hm ht
/-! ### what is read, or BadText -/
def resO {α : Type} (o : Option α) (en : α → D) : Rf := match o with
  | some x => .ok (en x) []
  | none => .ex "BadText" [] []
theorem number_in_eq {w : Str} (ha : Asc w) (hl : w.length ≤ 400) : LW.f_number_in [.str w] = resO (numO w) D.int := by
  cases h : numO w with
  | some n => exact WF.eq (number_in_wf ha hl (fun m hm => by rw [h] at hm; cases hm; exact ⟨rfl, rfl⟩) fun z => by rw [h] at z; cases z)
  | none => exact WF.ex_eq (number_in_wf ha hl (fun m hm => by rw [h] at hm; cases hm) fun _ => ⟨rfl, rfl, rfl⟩)
theorem parts_two {t m a b : Str} (h : Txt.split t m = [a, b]) (hm : 0 < m.length) (ht : t.length ≤ 90000) : LW.f_parts_in [.str t, .str m] = .ok (.lst [.str a, .str b]) [] := by
  have sp := dSplit_ok h hm ht
  refine WF.eq ?_
  rw [LW.f_parts_in, wf_mkF rfl]
  simp [startE, LW.m_parts_in, wn_seq, sp]
theorem parts_bad {t m : Str} (h : (Txt.split t m).length ≠ 2) (hm : 0 < m.length) (ht : t.length ≤ 90000) : LW.f_parts_in [.str t, .str m] = .ex "BadText" [] [] := by
  have sp := sp_ok (t := t) hm ht
  have h2 : ¬ ((Txt.split t m).length : Int) = 2 := by omega
  refine WF.ex_eq ?_
  rw [LW.f_parts_in, wf_mkF rfl]
  simp [startE, LW.m_parts_in, wn_seq, sp, h2, lentOf]
theorem two_or {t m : Str} : (∃ a b, Txt.split t m = [a, b]) ∨ (Txt.split t m).length ≠ 2 := by
  match h : Txt.split t m with
  | [] => exact .inr (by simp)
  | [a] => exact .inr (by simp)
  | [a, b] => exact .inl ⟨a, b, rfl⟩
  | a :: b :: c :: r => exact .inr (by simp)
def pairO (t m : Str) : Option (Int × Int) := match Txt.split t m with
  | [a, b] => (match numO a, numO b with
    | some x, some y => if x ≤ y then some (x, y) else none
    | _, _ => none)
  | _ => none
theorem pairO_two {t m a b : Str} (h : Txt.split t m = [a, b]) : pairO t m = (match numO a, numO b with
    | some x, some y => if x ≤ y then some (x, y) else none
    | _, _ => none) := by
  unfold pairO
  rw [h]
theorem pairO_bad {t m : Str} (h : (Txt.split t m).length ≠ 2) : pairO t m = none := by
  unfold pairO
  split
  · rename_i a b e
    rw [e] at h
    exact absurd rfl h
  · rfl
theorem pairO_le {t m : Str} {p : Int × Int} (h : pairO t m = some p) : 0 ≤ p.1 ∧ p.1 ≤ p.2 := by
  rcases two_or (t := t) (m := m) with ⟨a, b, e⟩ | e
  · rw [pairO_two e] at h
    cases h1 : numO a with
    | none => rw [h1] at h; cases h
    | some x =>
      cases h2 : numO b with
      | none => rw [h1, h2] at h; cases h
      | some y =>
        rw [h1, h2] at h
        simp only at h
        by_cases c : x ≤ y
        · rw [if_pos c] at h
          cases h
          exact ⟨numO_nn h1, c⟩
        · rw [if_neg c] at h
          cases h
  · rw [pairO_bad e] at h
    cases h
theorem pair_in_eq {t m : Str} (ha : Asc t) (hl : t.length ≤ 400) (hm : 0 < m.length) : LW.f_pair_in [.str t, .str m] = resO (pairO t m) encR := by
  rcases two_or (t := t) (m := m) with ⟨a, b, e⟩ | e
  · have S := split_ok ha hm
    rw [e] at S
    have aa := S.asc a (by simp)
    have ab := S.asc b (by simp)
    have la := S.len a (by simp)
    have lb := S.len b (by simp)
    have pi := parts_two e hm (by omega)
    have na := number_in_eq aa (by omega)
    have nb := number_in_eq ab (by omega)
    have lc := lcX_ok (vs := [3]) (it := iSeq (eCall LW.f_parts_in [.e (eVar 0), .e (eVar 1)])) (g := gN 3) (a := eCall LW.f_number_in [.e (eVar 3)]) (e := [.val (.str t), .val (.str m), .no, .no]) (L := [a, b]) (enc := D.str) (c := "BadText") numO D.int (Wn.eq (by simp [pi])) rfl (by simp) (fun y hy => by
      have : LW.f_number_in [.str y] = resO (numO y) D.int := by
        simp only [List.mem_cons, List.not_mem_nil, or_false] at hy
        rcases hy with rfl | rfl
        · exact na
        · exact nb
      cases h : numO y with
      | some x => rw [h] at this; simp [wipeE, this, resO]
      | none => rw [h] at this; simp [wipeE, this, resO, giveBack])
    have lc : LW.c_pair_in_1 [.val (.str t), .val (.str m), .no, .no] = _ := lc
    rw [pairO_two e]
    rw [LW.f_pair_in]
    cases h1 : numO a with
    | none =>
      have : mapO numO [a, b] = none := by rw [mapO_cons, h1]
      rw [this] at lc
      refine WF.ex_eq ?_
      rw [wf_mkF rfl]
      simp [startE, LW.m_pair_in, wn_seq, wn_ex lc, lentOf]
    | some x =>
      cases h2 : numO b with
      | none =>
        have : mapO numO [a, b] = none := by rw [mapO_cons, mapO_cons, h1, h2]
        rw [this] at lc
        refine WF.ex_eq ?_
        rw [wf_mkF rfl]
        simp [startE, LW.m_pair_in, wn_seq, wn_ex lc, lentOf]
      | some y =>
        have : mapO numO [a, b] = some [x, y] := by rw [mapO_cons, mapO_cons, h1, h2]; rfl
        rw [this] at lc
        have i0 : dIx (.tup [.int x, .int y]) (.int 0) = .ok (.int x) := rfl
        have i1 : dIx (.tup [.int x, .int y]) (.int 1) = .ok (.int y) := rfl
        by_cases c : x ≤ y
        · simp only [if_pos c]
          refine WF.eq ?_
          rw [wf_mkF rfl]
          have c' : ¬ y < x := by omega
          simp [startE, LW.m_pair_in, wn_seq, wn_eq lc, i0, i1, c', encR]
        · simp only [if_neg c]
          refine WF.ex_eq ?_
          rw [wf_mkF rfl]
          have c' : y < x := by omega
          simp [startE, LW.m_pair_in, wn_seq, wn_eq lc, i0, i1, c', lentOf]
  · have pi := parts_bad e hm (by omega)
    have cx : iSeq (eCall LW.f_parts_in [.e (eVar 0), .e (eVar 1)]) [.val (.str t), .val (.str m), .no, .no] = .ex "BadText" [] [.val (.str t), .val (.str m), .no, .no] := Wn.ex_eq (by simp [pi, giveBack])
    have lc : LW.c_pair_in_1 [.val (.str t), .val (.str m), .no, .no] = .ex "BadText" [] [.val (.str t), .val (.str m), .no, .no] := by
      unfold LW.c_pair_in_1 eLcX
      exact bind_ex cx
    rw [pairO_bad e, LW.f_pair_in]
    refine WF.ex_eq ?_
    rw [wf_mkF rfl]
    simp [startE, LW.m_pair_in, wn_seq, wn_ex lc, lentOf]
/-! the law's own -/
def optP : Option (Int × Int) → D
  | some p => encR p
  | none => .non
theorem eqv_opt {o : Option Int} : D.eqv (opt o) .non = decide (o = none) := by cases o <;> rfl
theorem dIn_opt {j : Bool} {L : List (Option Int)} : dIn .non (sq j (L.map opt)) = .ok (decide (none ∈ L)) := by
  have pl : D.plainL 39 (L.map opt) = true := plainL_iff.mpr fun x hx => by
    obtain ⟨o, _, rfl⟩ := List.mem_map.mp hx
    cases o <;> rfl
  have an : ((L.map opt).any fun y => y.eqv .non) = decide (none ∈ L) := by
    rw [List.any_map, Bool.eq_iff_iff, List.any_eq_true, decide_eq_true_eq]
    constructor
    · rintro ⟨o, ho, e⟩
      simp only [Function.comp, eqv_opt, decide_eq_true_eq] at e
      exact e ▸ ho
    · intro h
      exact ⟨none, h, by simp [Function.comp, eqv_opt]⟩
  cases j
  · show (if D.non.plain 40 && D.plainL 39 (L.map opt) then Rv.ok ((L.map opt).any fun y => y.eqv .non) else .bad) = _
    rw [pl, an]
    rfl
  · show (if D.non.plain 40 && D.plainL 39 (L.map opt) then Rv.ok ((L.map opt).any fun y => y.eqv .non) else .bad) = _
    rw [pl, an]
    rfl
theorem numL0 {w : Str} : numL w 0 = numO w := by
  unfold numL
  cases h : numO w with
  | none => rfl
  | some n => simp [numO_nn h]
theorem law_pair_ok {t m : Str} (ha : Asc t) (hl : t.length ≤ 400) (hm : 0 < m.length) : LW.f_law_pair [.str t, .str m] = .ok (optP (pairO t m)) [] := by
  have S := split_ok ha hm
  have sp := sp_ok (t := t) hm (by omega)
  have lc : LW.c_law_pair_1 [.val (.str t), .val (.str m), .no, .no] = .ok (.lst ((Txt.split t m).map fun p => opt (numO p))) [.val (.str t), .val (.str m), .no, .no] := by
    unfold LW.c_law_pair_1
    refine lc_map (L := Txt.split t m) (enc := D.str) (fun p => opt (numO p)) (Wn.eq (by simp [sp])) rfl (by have := S.num; omega) fun p hp => ?_
    have := law_number_ok (w := p) (low := 0) (S.asc p hp) (by have := S.len p hp; omega)
    rw [numL0] at this
    simp [wipeE, this]
  refine WF.eq ?_
  rw [LW.f_law_pair, wf_mkF rfl]
  rcases two_or (t := t) (m := m) with ⟨a, b, e⟩ | e
  · rw [e] at lc
    rw [pairO_two e]
    have di := dIn_opt (j := false) (L := [numO a, numO b])
    rw [sq_false] at di
    simp only [List.map_cons, List.map_nil] at lc di
    cases h1 : numO a with
    | none =>
      rw [h1] at lc di
      rw [decide_eq_true (by simp)] at di
      simp [startE, LW.m_law_pair, wn_seq, wn_eq lc, di, optP]
    | some x =>
      cases h2 : numO b with
      | none =>
        rw [h1, h2] at lc di
        rw [decide_eq_true (by simp)] at di
        simp [startE, LW.m_law_pair, wn_seq, wn_eq lc, di, optP]
      | some y =>
        rw [h1, h2] at lc di
        rw [decide_eq_false (by simp)] at di
        have i0 : dIx (.lst [opt (some x), opt (some y)]) (.int 0) = .ok (.int x) := rfl
        have i1 : dIx (.lst [opt (some x), opt (some y)]) (.int 1) = .ok (.int y) := rfl
        by_cases c : x ≤ y
        · have c' : ¬ y < x := by omega
          simp [startE, LW.m_law_pair, wn_seq, wn_eq lc, di, optP, i0, i1, c', c, encR]
        · have c' : y < x := by omega
          simp [startE, LW.m_law_pair, wn_seq, wn_eq lc, di, optP, i0, i1, c', c]
  · have h2 : ¬ ((Txt.split t m).length : Int) = 2 := by omega
    rw [pairO_bad e]
    simp [startE, LW.m_law_pair, wn_seq, wn_eq lc, h2, optP]
end AH
namespace AH
open PySem L2 PySem.NumText
variable [TheK]
def lcR {α : Type} (o : Option (List α)) (en : α → D) (c : Str) (e : Env) : R D := match o with
  | some xs => .ok (.lst (xs.map en)) e
  | none => .ex c [] e
theorem lcX_ok2 {T α : Type} {vs : List Nat} {it : DI} {g : DG} {a : DE} {e : Env} {L : List T} {enc : T → D} {c : Str} (f : T → Option α) (en : α → D) (hi : it e = .ok (L.map enc) e) (hv : (vs.any fun v => isOwn (sl e v)) = false) (hl : L.length ≤ 100000)
    (h : ∀ y ∈ L, Wn (g (enc y)) (wipeE e vs) (fun _ e1 => wipeE e1 vs = wipeE e vs ∧ Wn a e1 (fun d e2 => e2 = e1 ∧ ∃ x, f y = some x ∧ d = en x) (fun c' fs e2 => f y = none ∧ c' = c ∧ fs = [] ∧ e2 = e1)) NoE) : eLcX vs it g tYes a e = lcR (mapO f L) en c e :=
  (lcX_ok f en hi hv hl h).trans (by cases mapO f L <;> rfl)
/-! ### errands -/
def errO (t : Str) : Option Er := match Txt.split t " " with
  | [a, b] => (match pairO a "-", numO b with
    | some p, some n => if 1 ≤ n then some (p, n) else none
    | _, _ => none)
  | _ => none
theorem errO_two {t a b : Str} (h : Txt.split t " " = [a, b]) : errO t = (match pairO a "-", numO b with
    | some p, some n => if 1 ≤ n then some (p, n) else none
    | _, _ => none) := by
  unfold errO
  rw [h]
theorem errO_bad {t : Str} (h : (Txt.split t " ").length ≠ 2) : errO t = none := by
  unfold errO
  split
  · rename_i a b e
    rw [e] at h
    exact absurd rfl h
  · rfl
theorem pairO_parts {t m : Str} {p : Int × Int} (h : pairO t m = some p) : ∃ a b, Txt.split t m = [a, b] ∧ numO a = some p.1 ∧ numO b = some p.2 := by
  rcases two_or (t := t) (m := m) with ⟨a, b, e⟩ | e
  · rw [pairO_two e] at h
    cases h1 : numO a with
    | none => rw [h1] at h; cases h
    | some x =>
      cases h2 : numO b with
      | none => rw [h1, h2] at h; cases h
      | some y =>
        rw [h1, h2] at h
        simp only at h
        by_cases c : x ≤ y
        · rw [if_pos c] at h
          cases h
          exact ⟨a, b, e, h1, h2⟩
        · rw [if_neg c] at h
          cases h
  · rw [pairO_bad e] at h
    cases h
theorem errO_parts {t : Str} {it : Er} (h : errO t = some it) : ∃ a b, Txt.split t " " = [a, b] ∧ pairO a "-" = some it.1 ∧ numO b = some it.2 ∧ 1 ≤ it.2 := by
  rcases two_or (t := t) (m := " ") with ⟨a, b, e⟩ | e
  · rw [errO_two e] at h
    cases h1 : pairO a "-" with
    | none => rw [h1] at h; cases h
    | some x =>
      cases h2 : numO b with
      | none => rw [h1, h2] at h; cases h
      | some y =>
        rw [h1, h2] at h
        simp only at h
        by_cases c : 1 ≤ y
        · rw [if_pos c] at h
          cases h
          exact ⟨a, b, e, h1, h2, c⟩
        · rw [if_neg c] at h
          cases h
  · rw [errO_bad e] at h
    cases h
theorem errO_len {t : Str} {it : Er} (ha : Asc t) (h : errO t = some it) : 5 ≤ t.length := by
  obtain ⟨a, b, e, h1, h2, _⟩ := errO_parts h
  obtain ⟨c, d, e2, h3, h4⟩ := pairO_parts h1
  have S := split_ok (m := " ") ha (by rw [l_gap]; decide)
  rw [e] at S
  have S2 := split_ok (m := "-") (S.asc a (by simp)) (by rw [l_dash]; decide)
  rw [e2] at S2
  have k1 := S.sum
  have k2 := S2.sum
  have := numO_len h2
  have := numO_len h3
  have := numO_len h4
  rw [l_gap] at k1
  rw [l_dash] at k2
  simp at k1 k2
  omega
theorem errand_in_eq {t : Str} (ha : Asc t) (hl : t.length ≤ 400) : LW.f_errand_in [.str t] = resO (errO t) (encE true) := by
  have hm : 0 < (" " : Str).length := by rw [l_gap]; decide
  rcases two_or (t := t) (m := " ") with ⟨a, b, e⟩ | e
  · have S := split_ok ha hm
    rw [e] at S
    have pi := parts_two e hm (by omega)
    have pr := pair_in_eq (t := a) (m := "-") (S.asc a (by simp)) (by have := S.len a (by simp); omega) (by rw [l_dash]; decide)
    have nb := number_in_eq (w := b) (S.asc b (by simp)) (by have := S.len b (by simp); omega)
    rw [errO_two e, LW.f_errand_in]
    cases h1 : pairO a "-" with
    | none =>
      rw [h1] at pr
      refine WF.ex_eq ?_
      rw [wf_mkF rfl]
      simp [startE, LW.m_errand_in, wn_seq, pi, pr, resO, giveBack, lentOf]
    | some p =>
      rw [h1] at pr
      cases h2 : numO b with
      | none =>
        rw [h2] at nb
        refine WF.ex_eq ?_
        rw [wf_mkF rfl]
        simp [startE, LW.m_errand_in, wn_seq, pi, pr, nb, resO, giveBack, lentOf]
      | some n =>
        rw [h2] at nb
        have i1 : dIx (.tup [encR p, .int n]) (.int 1) = .ok (.int n) := rfl
        by_cases c : 1 ≤ n
        · simp only [if_pos c]
          refine WF.eq ?_
          rw [wf_mkF rfl]
          have c' : ¬ n < 1 := by omega
          simp [startE, LW.m_errand_in, wn_seq, pi, pr, nb, resO, i1, c', encE, sq_true, encR]
        · simp only [if_neg c]
          refine WF.ex_eq ?_
          rw [wf_mkF rfl]
          have c' : n < 1 := by omega
          simp [startE, LW.m_errand_in, wn_seq, pi, pr, nb, resO, i1, c', lentOf]
  · have pi := parts_bad e hm (by omega)
    rw [errO_bad e, LW.f_errand_in]
    refine WF.ex_eq ?_
    rw [wf_mkF rfl]
    simp [startE, LW.m_errand_in, wn_seq, pi, giveBack, lentOf]
/-! ### rising windows -/
instance (p q : Int × Int) : Decidable (lxP p q) := by unfold lxP; infer_instance
theorem zip_iff : ∀ {ws : List (Int × Int)}, (∀ p ∈ ws.zip (ws.drop 1), lxP p.1 p.2) ↔ ws.Pairwise lxP
  | [] => by simp
  | [a] => by simp
  | a :: b :: r => by
    have ih := zip_iff (ws := b :: r)
    have e : (a :: b :: r).zip ((a :: b :: r).drop 1) = (a, b) :: (b :: r).zip ((b :: r).drop 1) := rfl
    rw [e, List.forall_mem_cons, ih]
    constructor
    · rintro ⟨h1, h2⟩
      refine List.pairwise_cons.mpr ⟨fun x hx => ?_, h2⟩
      rcases List.mem_cons.mp hx with rfl | hx
      · exact h1
      · exact lxP_trans h1 ((List.pairwise_cons.mp h2).1 x hx)
    · intro h
      obtain ⟨h1, h2⟩ := List.pairwise_cons.mp h
      exact ⟨h1 b List.mem_cons_self, h2⟩
theorem dLt_encR {p q : Int × Int} : dLt (encR p) (encR q) = .ok (decide (lxP p q)) := by
  show Rv.ok (HT.lexLt [p.1, p.2] [q.1, q.2]) = _
  rw [HT.lexLt_cons, HT.lexLt_cons]
  congr 1
  by_cases h : lxP p q
  · rw [decide_eq_true h]
    unfold lxP at h
    split
    · rw [if_neg (by omega)]; exact decide_eq_true (by omega)
    · exact decide_eq_true (by omega)
  · rw [decide_eq_false h]
    unfold lxP at h
    split
    · split
      · rfl
      · exact decide_eq_false (by omega)
    · exact decide_eq_false (by omega)
theorem rises_eq2 {ws : List (Int × Int)} (hl : ws.length ≤ 1000) : f_rises [.lst (ws.map encR)] = .ok (.bl (decide (ws.Pairwise lxP))) [] := by
  have cu : cut (ws.map encR) (some 1) none = (ws.drop 1).map encR := by
    rcases Nat.eq_zero_or_pos ws.length with z | z
    · have : ws = [] := List.eq_nil_of_length_eq_zero z
      subst this
      rfl
    · have := cut_from (xs := ws.map encR) (i := 1) (by rw [List.length_map]; exact z)
      rw [show (some (1 : Int)) = some ((1 : Nat) : Int) from rfl, this, List.map_drop]
  have lc : c_rises_1 [.val (.lst (ws.map encR)), .no, .no] = .ok (.lst ((ws.zip (ws.drop 1)).map fun p => .bl (decide (lxP p.1 p.2)))) [.val (.lst (ws.map encR)), .no, .no] := by
    unfold c_rises_1
    refine lc_map (L := ws.zip (ws.drop 1)) (enc := fun p => .tup [encR p.1, encR p.2]) (fun p => .bl (decide (lxP p.1 p.2))) (Wn.eq ?_) rfl (by rw [List.length_zip]; omega) fun p hpz => ?_
    · have z2 : ∀ Q, WZ2 (.lst (ws.map encR)) (.lst ((ws.drop 1).map encR)) Q = Q (pairs (ws.map encR) ((ws.drop 1).map encR)) := fun Q => wz2_ok seqD_lst seqD_lst
      have pe : pairs (ws.map encR) ((ws.drop 1).map encR) = (ws.zip (ws.drop 1)).map fun p => .tup [encR p.1, encR p.2] := by
        unfold pairs
        rw [List.zip_map, List.map_map]
        rfl
      simp only [wn_iZip2, wn_var, x_sl0, ws_val, wn_eSl, wn_oSome, wn_c, wi_int, wn_oNone, dSl_lst, wr_ok, cu, z2, pe]
      simp
    · have lt := dLt_encR (p := p.1) (q := p.2)
      simp [wipeE, lt]
  have al : dAll (.lst ((ws.zip (ws.drop 1)).map fun p => .bl (decide (lxP p.1 p.2)))) = .ok (.bl (decide (ws.Pairwise lxP))) := by
    rw [dAll_map (f := fun p : (Int × Int) × (Int × Int) => decide (lxP p.1 p.2))]
    congr 2
    rw [Bool.eq_iff_iff, decide_eq_true_eq, ← zip_iff, List.all_eq_true]
    simp only [decide_eq_true_eq]
  generalize ((ws.zip (ws.drop 1)).map fun p => D.bl (decide (lxP p.1 p.2))) = Z at lc al
  refine WF.eq ?_
  rw [f_rises, wf_mkF rfl]
  simp only [startE, m_rises, List.length_cons, List.length_nil, List.replicate, List.nil_append, List.cons_append]
  simp [wn_eq lc, al]
/-! ### lots -/
def restO (r : Str) : Option (List Er) := if r = "-" then some [] else mapO errO (Txt.split r ", ")
def goodL (n : Int) (es : List Er) : Bool := decide (1 ≤ n) && (decide ((es.map (·.1)).Pairwise lxP) && es.all fun it => decide (it.1.2 < n))
def lotO (t : Str) : Option (Int × List Er) := match Txt.split t ": " with
  | [h, r] => (match numO h, restO r with
    | some n, some es => if goodL n es = true then some (n, es) else none
    | _, _ => none)
  | _ => none
def encLt (l : Int × List Er) : D := lotD true l.1 l.2
theorem lotO_two {t a b : Str} (h : Txt.split t ": " = [a, b]) : lotO t = (match numO a, restO b with
    | some n, some es => if goodL n es = true then some (n, es) else none
    | _, _ => none) := by
  unfold lotO
  rw [h]
theorem lotO_bad {t : Str} (h : (Txt.split t ": ").length ≠ 2) : lotO t = none := by
  unfold lotO
  split
  · rename_i a b e
    rw [e] at h
    exact absurd rfl h
  · rfl
theorem hm2 : 0 < (", " : Str).length := by rw [l_comma]; decide
theorem sum_ge {ps : List Str} (h : ∀ p ∈ ps, 5 ≤ p.length) : 5 * ps.length ≤ (ps.map (·.length)).sum := by
  induction ps with
  | nil => simp
  | cons p ps ih =>
    have := h p List.mem_cons_self
    have := ih fun q hq => h q (List.mem_cons_of_mem _ hq)
    simp
    omega
theorem restO_len {r : Str} {es : List Er} (ha : Asc r) (hl : r.length ≤ 400) (h : restO r = some es) : es.length ≤ 57 := by
  unfold restO at h
  by_cases c : r = "-"
  · rw [if_pos c] at h
    cases h
    simp
  · rw [if_neg c] at h
    have S := split_ok ha hm2
    have k := S.sum
    rw [l_comma] at k
    have := sum_ge (ps := Txt.split r ", ") fun p hp => by
      obtain ⟨it, hi⟩ := mapO_each h p hp
      exact errO_len (S.asc p hp) hi
    have := mapO_len h
    omega
theorem restO_nn {r : Str} {es : List Er} (h : restO r = some es) : ∀ it ∈ es, 0 ≤ it.1.1 ∧ it.1.1 ≤ it.1.2 ∧ 1 ≤ it.2 := fun it hi => by
  unfold restO at h
  by_cases c : r = "-"
  · rw [if_pos c] at h
    cases h
    cases hi
  · rw [if_neg c] at h
    obtain ⟨p, _, hp⟩ := mapO_mem h it hi
    obtain ⟨a, b, _, h1, _, h3⟩ := errO_parts hp
    have := pairO_le h1
    exact ⟨this.1, this.2, h3⟩
theorem read_lot_eq {t : Str} (ha : Asc t) (hl : t.length ≤ 400) : LW.f_read_lot [.str t] = resO (lotO t) encLt := by
  have hm : 0 < (": " : Str).length := by rw [l_colon]; decide
  rcases two_or (t := t) (m := ": ") with ⟨h, r, e⟩ | e
  · have S := split_ok ha hm
    rw [e] at S
    have ah := S.asc h (by simp)
    have ar := S.asc r (by simp)
    have lh := S.len h (by simp)
    have lr := S.len r (by simp)
    have pi := parts_two e hm (by omega)
    have nh := number_in_eq (w := h) ah (by omega)
    have de := dEq_ss ar a_dash
    have sp := sp_ok (t := r) hm2 (by omega)
    have SR := split_ok ar hm2
    have lc1 : ∀ x1 x2 : Sl, LW.c_read_lot_1 [x1, x2, .val (.str r), .no, .no, .no, .no, .no] = lcR (mapO errO (Txt.split r ", ")) (encE true) "BadText" [x1, x2, .val (.str r), .no, .no, .no, .no, .no] := fun x1 x2 => by
      unfold LW.c_read_lot_1
      refine lcX_ok2 (vs := [5]) (e := [x1, x2, .val (.str r), .no, .no, .no, .no, .no]) (L := Txt.split r ", ") (enc := D.str) errO (encE true) ?_ rfl (by have := SR.num; omega) fun p hp => ?_
      · exact Wn.eq (by simp [sp])
      have := errand_in_eq (t := p) (SR.asc p hp) (by have := SR.len p hp; omega)
      cases q : errO p with
      | some x => rw [q] at this; simp [wipeE, this, resO]
      | none => rw [q] at this; simp [wipeE, this, resO, giveBack]
    rw [lotO_two e, LW.f_read_lot]
    cases h1 : numO h with
    | none =>
      rw [h1] at nh
      refine WF.ex_eq ?_
      rw [wf_mkF rfl]
      simp [startE, LW.m_read_lot, wn_seq, pi, nh, resO, giveBack, lentOf]
    | some n =>
      rw [h1] at nh
      cases h2 : restO r with
      | none =>
        have hr : r ≠ "-" := fun z => by unfold restO at h2; rw [if_pos z] at h2; cases h2
        unfold restO at h2
        rw [if_neg hr] at h2
        rw [h2] at lc1
        rw [decide_eq_false hr] at de
        refine WF.ex_eq ?_
        rw [wf_mkF rfl]
        simp [startE, LW.m_read_lot, wn_seq, pi, nh, resO, de, wn_ex (lc1 _ _), lentOf]
      | some es =>
        have el := restO_len ar (by omega) h2
        have ri := rises_eq2 (ws := es.map (·.1)) (by rw [List.length_map]; omega)
        rw [List.map_map] at ri
        have lc2 : ∀ x1 x2 x3 x4 : Sl, LW.c_read_lot_2 [x1, x2, x3, x4, .val (.tup (es.map (encE true))), .no, .no, .no] = .ok (.lst (es.map (encR ∘ (·.1)))) [x1, x2, x3, x4, .val (.tup (es.map (encE true))), .no, .no, .no] := fun x1 x2 x3 x4 => by
          unfold LW.c_read_lot_2
          refine lc_map (L := es) (enc := encE true) (encR ∘ (·.1)) (Wn.eq (by simp)) rfl (by omega) fun it hi => ?_
          simp [wipeE, encE, sq_true, encR]
        have lc3 : ∀ x1 x2 x3 : Sl, LW.c_read_lot_3 [x1, x2, x3, .val (.int n), .val (.tup (es.map (encE true))), .no, .no, .no] = .ok (.lst (es.map fun it => .bl (decide (n ≤ it.1.2)))) [x1, x2, x3, .val (.int n), .val (.tup (es.map (encE true))), .no, .no, .no] := fun x1 x2 x3 => by
          unfold LW.c_read_lot_3
          refine lc_map (L := es) (enc := encE true) (fun it => .bl (decide (n ≤ it.1.2))) (Wn.eq (by simp)) rfl (by omega) fun it hi => ?_
          have i1 : dIx (.tup [.int it.1.1, .int it.1.2]) (.int 1) = .ok (.int it.1.2) := rfl
          simp [wipeE, encE, sq_true, i1]
        have an : dAny (.lst (es.map fun it => .bl (decide (n ≤ it.1.2)))) = .ok (.bl (!(es.all fun it => decide (it.1.2 < n)))) := by
          rw [dAny_map (f := fun it : Er => decide (n ≤ it.1.2))]
          congr 2
          rw [Bool.eq_iff_iff]
          simp
        have run : ∀ (Q : D → List (List D) → Prop) (E : Str → List D → List (List D) → Prop), (goodL n es = true → Q (lotD true n es) []) → (goodL n es = false → E "BadText" [] []) → WF (mkF 8 [.val] LW.m_read_lot [.str t]) Q E := by
          intro Q E hq he
          rw [wf_mkF rfl]
          have rest : Wn (sSeq (sIf (tOr (c2 dLt (eVar 3) (eC (.int 1))) (tNot (tV (eCall f_rises [.e LW.c_read_lot_2])))) (sRaise "BadText") sNil) (sSeq (sIf (tV (e1 dAny LW.c_read_lot_3)) (sRaise "BadText") sNil) (sRet (eTup (aCons (eVar 3) (aCons (eVar 4) aNil)))))) [.val (.str t), .val (.str h), .val (.str r), .val (.int n), .val (.tup (es.map (encE true))), .no, .no, .no] (fun o e => WE [.val] o e Q) (fun c fs e => match lentOf [.val] e with
              | some bs => E c fs bs
              | none => False) := by
            have g : goodL n es = (decide (1 ≤ n) && (decide ((es.map (·.1)).Pairwise lxP) && es.all fun it => decide (it.1.2 < n))) := rfl
            generalize (es.all fun it => decide (it.1.2 < n)) = b2 at g an
            generalize decide ((es.map (·.1)).Pairwise lxP) = b1 at g ri
            by_cases c : n < 1
            · have c' : ¬ 1 ≤ n := by omega
              rw [decide_eq_false c', Bool.false_and] at g
              simp [wn_seq, c, lentOf]
              exact he g
            · have c' : 1 ≤ n := by omega
              rw [decide_eq_true c', Bool.true_and] at g
              cases b1 with
              | false =>
                simp [wn_seq, c, wn_eq (lc2 _ _ _ _), ri, lentOf]
                exact he g
              | true =>
                cases b2 with
                | false =>
                  simp [wn_seq, c, wn_eq (lc2 _ _ _ _), ri, wn_eq (lc3 _ _ _), an, lentOf]
                  exact he g
                | true =>
                  simp [wn_seq, c, wn_eq (lc2 _ _ _ _), ri, wn_eq (lc3 _ _ _), an]
                  exact hq g
          by_cases hr : r = "-"
          · unfold restO at h2
            rw [if_pos hr] at h2
            cases h2
            rw [decide_eq_true hr] at de
            unfold LW.m_read_lot
            rw [wn_seq]
            simp [startE, pi]
            rw [wn_seq]
            simp [nh, resO, de]
            exact rest
          · unfold restO at h2
            rw [if_neg hr] at h2
            rw [h2] at lc1
            rw [decide_eq_false hr] at de
            unfold LW.m_read_lot
            rw [wn_seq]
            simp [startE, pi]
            rw [wn_seq]
            simp [nh, resO, de, wn_eq (lc1 _ _)]
            exact rest
        show _ = resO (if goodL n es = true then some (n, es) else none) encLt
        cases g : goodL n es with
        | true => exact WF.eq (run _ _ (fun _ => ⟨rfl, rfl⟩) fun z => by rw [g] at z; cases z)
        | false => exact WF.ex_eq (run _ _ (fun z => by rw [g] at z; cases z) fun _ => ⟨rfl, rfl, rfl⟩)
  · have pi := parts_bad e hm (by omega)
    rw [lotO_bad e, LW.f_read_lot]
    refine WF.ex_eq ?_
    rw [wf_mkF rfl]
    simp [startE, LW.m_read_lot, wn_seq, pi, giveBack, lentOf]
end AH
namespace AH
open PySem L2 PySem.NumText
variable [TheK]
theorem hm1 : 0 < (" " : Str).length := by rw [l_gap]; decide
theorem hmc : 0 < (": " : Str).length := by rw [l_colon]; decide
/-! ### numbers, ranges -/
def numsO (t : Str) : Option (List Int) := mapO numO (Txt.split t " ")
def rngsO (t : Str) : Option (List (Int × Int)) := mapO (fun p => pairO p "..") (Txt.split t " ")
def encNs (ns : List Int) : D := .tup (ns.map D.int)
def encRs (rs : List (Int × Int)) : D := .tup (rs.map encR)
def optD {α : Type} (en : α → D) : Option α → D
  | some x => en x
  | none => .non
theorem read_numbers_eq {t : Str} (ha : Asc t) (hl : t.length ≤ 400) : LW.f_read_numbers [.str t] = resO (numsO t) encNs := by
  have sp := sp_ok (t := t) hm1 (by omega)
  have S := split_ok ha hm1
  have lc : LW.c_read_numbers_1 [.val (.str t), .no] = lcR (mapO numO (Txt.split t " ")) D.int "BadText" [.val (.str t), .no] := by
    unfold LW.c_read_numbers_1
    refine lcX_ok2 (vs := [1]) (e := [.val (.str t), .no]) (L := Txt.split t " ") (enc := D.str) numO D.int ?_ rfl (by have := S.num; omega) fun p hp => ?_
    · exact Wn.eq (by simp [sp])
    have := number_in_eq (w := p) (S.asc p hp) (by have := S.len p hp; omega)
    cases q : numO p with
    | some x => rw [q] at this; simp [wipeE, this, resO]
    | none => rw [q] at this; simp [wipeE, this, resO, giveBack]
  unfold numsO
  rw [LW.f_read_numbers]
  cases h : mapO numO (Txt.split t " ") with
  | some ns =>
    rw [h] at lc
    refine WF.eq ?_
    rw [wf_mkF rfl]
    simp [startE, LW.m_read_numbers, wn_eq lc, encNs]
  | none =>
    rw [h] at lc
    refine WF.ex_eq ?_
    rw [wf_mkF rfl]
    simp [startE, LW.m_read_numbers, wn_ex lc, lentOf]
theorem read_ranges_eq {t : Str} (ha : Asc t) (hl : t.length ≤ 400) : LW.f_read_ranges [.str t] = resO (rngsO t) encRs := by
  have sp := sp_ok (t := t) hm1 (by omega)
  have S := split_ok ha hm1
  have lc : LW.c_read_ranges_1 [.val (.str t), .no] = lcR (mapO (fun p => pairO p "..") (Txt.split t " ")) encR "BadText" [.val (.str t), .no] := by
    unfold LW.c_read_ranges_1
    refine lcX_ok2 (vs := [1]) (e := [.val (.str t), .no]) (L := Txt.split t " ") (enc := D.str) (fun p => pairO p "..") encR ?_ rfl (by have := S.num; omega) fun p hp => ?_
    · exact Wn.eq (by simp [sp])
    have := pair_in_eq (t := p) (m := "..") (S.asc p hp) (by have := S.len p hp; omega) (by rw [l_dots]; decide)
    cases q : pairO p ".." with
    | some x => rw [q] at this; simp [wipeE, this, resO]
    | none => rw [q] at this; simp [wipeE, this, resO, giveBack]
  unfold rngsO
  rw [LW.f_read_ranges]
  cases h : mapO (fun p => pairO p "..") (Txt.split t " ") with
  | some ns =>
    rw [h] at lc
    refine WF.eq ?_
    rw [wf_mkF rfl]
    simp [startE, LW.m_read_ranges, wn_eq lc, encRs]
  | none =>
    rw [h] at lc
    refine WF.ex_eq ?_
    rw [wf_mkF rfl]
    simp [startE, LW.m_read_ranges, wn_ex lc, lentOf]
theorem eqv_optP {o : Option (Int × Int)} : D.eqv (optP o) .non = decide (o = none) := by cases o <;> rfl
theorem dIn_optP {L : List (Option (Int × Int))} : dIn .non (.tup (L.map optP)) = .ok (decide (none ∈ L)) := by
  have pl : D.plainL 39 (L.map optP) = true := plainL_iff.mpr fun x hx => by
    obtain ⟨o, _, rfl⟩ := List.mem_map.mp hx
    cases o <;> rfl
  have an : ((L.map optP).any fun y => y.eqv .non) = decide (none ∈ L) := by
    rw [List.any_map, Bool.eq_iff_iff, List.any_eq_true, decide_eq_true_eq]
    constructor
    · rintro ⟨o, ho, e⟩
      simp only [Function.comp, eqv_optP, decide_eq_true_eq] at e
      exact e ▸ ho
    · intro h
      exact ⟨none, h, by simp [Function.comp, eqv_optP]⟩
  show (if D.non.plain 40 && D.plainL 39 (L.map optP) then Rv.ok ((L.map optP).any fun y => y.eqv .non) else .bad) = _
  rw [pl, an]
  rfl
theorem law_numbers_ok {t : Str} (ha : Asc t) (hl : t.length ≤ 400) : LW.f_law_numbers_in [.str t] = .ok (optD encNs (numsO t)) [] := by
  have sp := sp_ok (t := t) hm1 (by omega)
  have S := split_ok ha hm1
  have lc : LW.c_law_numbers_in_1 [.val (.str t), .no, .no] = .ok (.lst (((Txt.split t " ").map numO).map opt)) [.val (.str t), .no, .no] := by
    unfold LW.c_law_numbers_in_1
    rw [List.map_map]
    refine lc_map (L := Txt.split t " ") (enc := D.str) (opt ∘ numO) (Wn.eq (by simp [sp])) rfl (by have := S.num; omega) fun p hp => ?_
    have := law_number_ok (w := p) (low := 0) (S.asc p hp) (by have := S.len p hp; omega)
    rw [numL0] at this
    simp [wipeE, this]
  have di := dIn_opt (j := true) (L := (Txt.split t " ").map numO)
  rw [sq_true] at di
  unfold numsO
  refine WF.eq ?_
  rw [LW.f_law_numbers_in, wf_mkF rfl]
  cases h : mapO numO (Txt.split t " ") with
  | none =>
    rw [decide_eq_true (mapO_none.mp h)] at di
    generalize ((Txt.split t " ").map numO).map opt = L at lc di
    simp [startE, LW.m_law_numbers_in, wn_seq, wn_eq lc, di, optD]
  | some ns =>
    have nn : none ∉ (Txt.split t " ").map numO := fun z => by rw [mapO_none.mpr z] at h; cases h
    rw [decide_eq_false nn] at di
    have e : ((Txt.split t " ").map numO).map opt = ns.map D.int := by
      rw [mapO_map h, List.map_map]
      rfl
    rw [e] at lc di
    rw [show optD encNs (some ns) = .tup (ns.map D.int) from rfl]
    generalize ns.map D.int = L at lc di ⊢
    simp [startE, LW.m_law_numbers_in, wn_seq, wn_eq lc, di]
theorem law_ranges_ok {t : Str} (ha : Asc t) (hl : t.length ≤ 400) : LW.f_law_ranges_in [.str t] = .ok (optD encRs (rngsO t)) [] := by
  have sp := sp_ok (t := t) hm1 (by omega)
  have S := split_ok ha hm1
  have lc : LW.c_law_ranges_in_1 [.val (.str t), .no, .no] = .ok (.lst (((Txt.split t " ").map fun p => pairO p "..").map optP)) [.val (.str t), .no, .no] := by
    unfold LW.c_law_ranges_in_1
    rw [List.map_map]
    refine lc_map (L := Txt.split t " ") (enc := D.str) (optP ∘ fun p => pairO p "..") (Wn.eq (by simp [sp])) rfl (by have := S.num; omega) fun p hp => ?_
    have := law_pair_ok (t := p) (m := "..") (S.asc p hp) (by have := S.len p hp; omega) (by rw [l_dots]; decide)
    simp [wipeE, this]
  have di := dIn_optP (L := (Txt.split t " ").map fun p => pairO p "..")
  unfold rngsO
  refine WF.eq ?_
  rw [LW.f_law_ranges_in, wf_mkF rfl]
  cases h : mapO (fun p => pairO p "..") (Txt.split t " ") with
  | none =>
    rw [decide_eq_true (mapO_none.mp h)] at di
    generalize ((Txt.split t " ").map fun p => pairO p "..").map optP = L at lc di
    simp [startE, LW.m_law_ranges_in, wn_seq, wn_eq lc, di, optD]
  | some ns =>
    have nn : none ∉ (Txt.split t " ").map fun p => pairO p ".." := fun z => by rw [mapO_none.mpr z] at h; cases h
    rw [decide_eq_false nn] at di
    have e : ((Txt.split t " ").map fun p => pairO p "..").map optP = ns.map encR := by
      rw [mapO_map h, List.map_map]
      rfl
    rw [e] at lc di
    rw [show optD encRs (some ns) = .tup (ns.map encR) from rfl]
    generalize ns.map encR = L at lc di ⊢
    simp [startE, LW.m_law_ranges_in, wn_seq, wn_eq lc, di]
/-! ### the law's own reading of a lot -/
def errL (n : Int) (p : Str) : Option Er := match errO p with
  | some it => if it.1.2 < n then some it else none
  | none => none
theorem dIntS_numO {w : Str} {n : Int} (h : numO w = some n) (hl : w.length ≤ 400) : dIntS (.str w) = .ok (.int n) := by
  obtain ⟨c, r, e, hd, _, rfl⟩ := numO_dig h
  have := dIntS_dig (w := w) (by rw [e]; exact hd) (by rw [e]; simp) hl
  rw [e] at this
  exact this
theorem lot_body {n : Int} {x0 x1 : D} {acc : List Er} {p : Str} (ha : Asc p) (hl : p.length ≤ 400) (hn : acc.length ≤ 1000) :
    Wn LW.b_law_lot_in_1 [.val x0, .val x1, .val (.int n), .own (acc.map (encE true)), .val (.str p), .no, .no, .no] (fun o e => match errL n p with
      | some it => o = .nx ∧ e = [.val x0, .val x1, .val (.int n), .own ((acc ++ [it]).map (encE true)), .no, .no, .no, .no]
      | none => o = .rt .non ∧ ∃ x r, e = x :: r) NoE := by
  have sp := sp_ok (t := p) hm1 (by omega)
  rcases two_or (t := p) (m := " ") with ⟨a, b, e⟩ | e
  · have S := split_ok ha hm1
    rw [e] at S sp
    simp only [List.map_cons, List.map_nil] at sp
    have lb := S.len b (by simp)
    have lp := law_pair_ok (t := a) (m := "-") (S.asc a (by simp)) (by have := S.len a (by simp); omega) (by rw [l_dash]; decide)
    have ln := law_number_ok (w := b) (low := 1) (S.asc b (by simp)) (by omega)
    have i0 : dIx (.lst [.str a, .str b]) (.int 0) = .ok (.str a) := rfl
    have i1 : dIx (.lst [.str a, .str b]) (.int 1) = .ok (.str b) := rfl
    unfold errL
    rw [errO_two e]
    cases h1 : pairO a "-" with
    | none =>
      rw [h1] at lp
      simp [LW.b_law_lot_in_1, wn_sFg, wn_seq, sp, i0, lp, optP]
    | some q =>
      rw [h1] at lp
      have nq : dIsN (encR q) = false := rfl
      cases h2 : numO b with
      | none =>
        have : numL b 1 = none := by unfold numL; rw [h2]
        rw [this] at ln
        simp [LW.b_law_lot_in_1, wn_sFg, wn_seq, sp, i0, i1, lp, ln, optP, opt, nq]
      | some v =>
        by_cases c : 1 ≤ v
        · have : numL b 1 = some v := by unfold numL; rw [h2]; simp [c]
          rw [this] at ln
          have iq : dIx (encR q) (.int 1) = .ok (.int q.2) := rfl
          have di := dIntS_numO h2 (by omega)
          simp only [if_pos c]
          by_cases d : q.2 < n
          · have d' : ¬ n ≤ q.2 := by omega
            simp [LW.b_law_lot_in_1, wn_sFg, wn_seq, sp, i0, i1, lp, ln, optP, opt, nq, iq, d, d', di]
            exact ⟨by omega, rfl⟩
          · have d' : n ≤ q.2 := by omega
            simp [LW.b_law_lot_in_1, wn_sFg, wn_seq, sp, i0, i1, lp, ln, optP, opt, nq, iq, d, d']
        · have : numL b 1 = none := by unfold numL; rw [h2]; simp [c]
          rw [this] at ln
          simp only [if_neg c]
          simp [LW.b_law_lot_in_1, wn_sFg, wn_seq, sp, i0, i1, lp, ln, optP, opt, nq]
  · have h2 : ¬ ((Txt.split p " ").length : Int) = 2 := by omega
    unfold errL
    rw [errO_bad e]
    simp [LW.b_law_lot_in_1, wn_sFg, wn_seq, sp, h2]
theorem lot_loop {n : Int} {x0 x1 : D} : ∀ (ps : List Str) (acc : List Er) {Q : Out → Env → Prop} {E : Str → List D → Env → Prop}, (∀ p ∈ ps, Asc p ∧ p.length ≤ 400) → acc.length + ps.length ≤ 1000 →
    (∀ es, mapO (errL n) ps = some es → Q .nx [.val x0, .val x1, .val (.int n), .own ((acc ++ es).map (encE true)), .no, .no, .no, .no]) → (mapO (errL n) ps = none → ∀ x e, Q (.rt .non) (x :: e)) →
    Wn (loop (gN 4) LW.b_law_lot_in_1 (ps.map D.str)) [.val x0, .val x1, .val (.int n), .own (acc.map (encE true)), .no, .no, .no, .no] Q E
  | [], acc, Q, E, _, _, hq, _ => by
    rw [List.map_nil, wn_loop_nil]
    have := hq [] rfl
    rw [List.append_nil] at this
    exact this
  | p :: ps, acc, Q, E, hp, hl, hq, hr => by
    obtain ⟨pa, pl⟩ := hp p List.mem_cons_self
    rw [List.length_cons] at hl
    have lb := lot_body (n := n) (x0 := x0) (x1 := x1) (acc := acc) pa pl (by omega)
    rw [List.map_cons]
    unfold loop
    rw [wn_bind]
    simp only [wn_gN, x_slS, x_sl0, x_isOwn1, true_and, x_putS, x_put0]
    rw [wn_bind]
    refine lb.imp (fun o e h => ?_) fun _ _ _ z => z.elim
    cases q : errL n p with
    | none =>
      rw [q] at h
      obtain ⟨rfl, x, r, rfl⟩ := h
      simp only [wn_pure]
      exact hr (by rw [mapO_cons, q]) _ _
    | some it =>
      rw [q] at h
      obtain ⟨rfl, rfl⟩ := h
      refine lot_loop ps (acc ++ [it]) (fun z hz => hp z (List.mem_cons_of_mem _ hz)) (by rw [List.length_append]; simp; omega) (fun es he => ?_) (fun hn => ?_)
      · have := hq (it :: es) (by rw [mapO_cons, q, he])
        rw [List.append_assoc]
        exact this
      · exact hr (by rw [mapO_cons, q, hn])
theorem errL_map {n : Int} : ∀ {ps : List Str}, mapO (errL n) ps = (match mapO errO ps with
    | some es => if (es.all fun it => decide (it.1.2 < n)) = true then some es else none
    | none => none)
  | [] => rfl
  | p :: ps => by
    rw [mapO_cons, mapO_cons, errL_map (ps := ps)]
    unfold errL
    cases errO p with
    | none => rfl
    | some it =>
      cases mapO errO ps with
      | none => by_cases c : it.1.2 < n <;> simp [c]
      | some es =>
        by_cases c : it.1.2 < n
        · by_cases d : (es.all fun it => decide (it.1.2 < n)) = true
          · simp [c, d]
          · simp [c, d]
        · simp [c]
theorem winsL_map : ∀ ws : List (Int × Int), winsL (ws.map encR) = some ws
  | [] => rfl
  | p :: ws => by
    show (winsL (ws.map encR)).map _ = _
    rw [winsL_map ws]
    rfl
theorem sortSet_ok {ws : List (Int × Int)} (hl : ws.length ≤ 60) (hn : ∀ p ∈ ws, 0 ≤ p.1 ∧ 0 ≤ p.2) : dSortSetP (.lst (ws.map encR)) = .ok (.lst ((pset ws).map encR)) := by
  unfold dSortSetP
  simp only [winsL_map]
  rw [if_pos]
  · rfl
  · rw [Bool.and_eq_true, decide_eq_true_eq, List.all_eq_true]
    refine ⟨hl, fun p hp => ?_⟩
    have := hn p hp
    simp only [Bool.and_eq_true, decide_eq_true_eq]
    exact this
theorem eqvL_wins : ∀ {ws vs : List (Int × Int)}, D.eqvL (ws.map encR) (vs.map encR) = decide (ws = vs)
  | [], [] => rfl
  | [], _ :: _ => rfl
  | _ :: _, [] => rfl
  | p :: ws, q :: vs => by
    show (D.eqv (encR p) (encR q) && D.eqvL (ws.map encR) (vs.map encR)) = _
    rw [eqv_encR, eqvL_wins]
    by_cases h1 : p = q <;> by_cases h2 : ws = vs <;> simp [h1, h2]
theorem dEq_wins {ws vs : List (Int × Int)} : dEq (.lst (ws.map encR)) (.lst (vs.map encR)) = .ok (decide (ws = vs)) := by
  have p1 : D.plain 40 (.lst (ws.map encR)) = true := plainL_encR ws
  have p2 : D.plain 40 (.lst (vs.map encR)) = true := plainL_encR vs
  have e : D.eqv (.lst (ws.map encR)) (.lst (vs.map encR)) = decide (ws = vs) := eqvL_wins
  unfold dEq
  rw [p1, p2, e] <;> rfl
theorem pset_lx {ws : List (Int × Int)} : (ws = pset ws) ↔ ws.Pairwise lxP := by
  rw [eq_comm]
  exact pset_self
theorem law_lot_ok {t : Str} (ha : Asc t) (hl : t.length ≤ 400) : LW.f_law_lot_in [.str t] = .ok (optD encLt (lotO t)) [] := by
  have sp := sp_ok (t := t) hmc (by omega)
  refine WF.eq ?_
  rw [LW.f_law_lot_in, wf_mkF rfl]
  rcases two_or (t := t) (m := ": ") with ⟨h, r, e⟩ | e
  · have S := split_ok ha hmc
    rw [e] at S sp
    simp only [List.map_cons, List.map_nil] at sp
    have lr := S.len r (by simp)
    have ar := S.asc r (by simp)
    have ln := law_number_ok (w := h) (low := 1) (S.asc h (by simp)) (by have := S.len h (by simp); omega)
    have i0 : dIx (.lst [.str h, .str r]) (.int 0) = .ok (.str h) := rfl
    have i1 : dIx (.lst [.str h, .str r]) (.int 1) = .ok (.str r) := rfl
    have dn := dNe_ss ar a_dash
    have spr := sp_ok (t := r) hm2 (by omega)
    have SR := split_ok ar hm2
    rw [lotO_two e]
    cases h1 : numO h with
    | none =>
      have : numL h 1 = none := by unfold numL; rw [h1]
      rw [this] at ln
      simp [startE, LW.m_law_lot_in, wn_seq, sp, i0, ln, opt, optD]
    | some n =>
      by_cases c : 1 ≤ n
      · have : numL h 1 = some n := by unfold numL; rw [h1]; simp [c]
        rw [this] at ln
        have fin : ∀ es : List Er, restO r = some es → (es.all fun it => decide (it.1.2 < n)) = true → Wn (sSeq (sRelL 3) (sSeq (sAsgN 7 LW.c_law_lot_in_1) (sRet (eIf (c2 dEq (eVar 7) (e1 dSortSetP (eVar 7))) (eTup (aCons (eVar 2) (aCons (e1 dTuple (eVar 3)) aNil))) (eC .non))))) [.val (.str t), .val (.lst [.str h, .str r]), .val (.int n), .own (es.map (encE true)), .no, .no, .no, .no]
            (fun o e => WE [.val] o e fun a b => a = optD encLt (if goodL n es = true then some (n, es) else none) ∧ b = []) (fun c fs e => match lentOf [.val] e with
              | some bs => NoF c fs bs
              | none => False) := by
          intro es he al
          have el := restO_len ar (by omega) he
          have nn := restO_nn he
          have g : goodL n es = decide ((es.map (·.1)).Pairwise lxP) := by
            unfold goodL
            rw [decide_eq_true c, al]
            simp
          have lc : LW.c_law_lot_in_1 [.val (.str t), .val (.lst [.str h, .str r]), .val (.int n), .val (.lst (es.map (encE true))), .no, .no, .no, .no] = .ok (.lst ((es.map (·.1)).map encR)) [.val (.str t), .val (.lst [.str h, .str r]), .val (.int n), .val (.lst (es.map (encE true))), .no, .no, .no, .no] := by
            unfold LW.c_law_lot_in_1
            rw [List.map_map]
            refine lc_map (L := es) (enc := encE true) (encR ∘ (·.1)) (Wn.eq (by simp)) rfl (by omega) fun it hi => ?_
            have : dIxA (encE true it) (.int 0) = .ok (encR it.1) := rfl
            simp [wipeE, this]
          have ss := sortSet_ok (ws := es.map (·.1)) (by rw [List.length_map]; omega) fun p hp => by
            obtain ⟨it, hi, rfl⟩ := List.mem_map.mp hp
            have := nn it hi
            omega
          have de := dEq_wins (ws := es.map (·.1)) (vs := pset (es.map (·.1)))
          have e2 : decide ((es.map (·.1)) = pset (es.map (·.1))) = decide ((es.map (·.1)).Pairwise lxP) := by
            rw [decide_eq_decide]
            exact pset_lx
          rw [e2] at de
          generalize (es.map (·.1)).map encR = W at lc ss de
          generalize (pset (es.map (·.1))).map encR = W2 at ss de
          rw [g]
          generalize decide ((es.map (·.1)).Pairwise lxP) = bb at de ⊢
          cases bb with
          | true => simp [wn_seq, rel_sp, wn_eq lc, ss, de, optD, encLt, lotD, sq_true]
          | false => simp [wn_seq, rel_sp, wn_eq lc, ss, de, optD]
        by_cases hr : r = "-"
        · have rs : restO r = some [] := by unfold restO; rw [if_pos hr]
          rw [decide_eq_true hr] at dn
          have f := fin [] rs rfl
          rw [rs]
          unfold LW.m_law_lot_in
          rw [wn_seq]
          simp [startE, sp]
          rw [wn_seq]
          simp [i0, ln, opt]
          rw [wn_seq]
          simp
          rw [wn_seq]
          simp
          rw [wn_seq]
          simp [LW.l_law_lot_in_1, i1, dn]
          exact f
        · rw [decide_eq_false hr] at dn
          have rs : restO r = mapO errO (Txt.split r ", ") := by unfold restO; rw [if_neg hr]
          unfold LW.m_law_lot_in
          rw [wn_seq]
          simp [startE, sp]
          rw [wn_seq]
          simp [i0, ln, opt]
          rw [wn_seq]
          simp
          rw [wn_seq]
          simp
          rw [wn_seq]
          simp [LW.l_law_lot_in_1, i1, dn, spr]
          refine lot_loop (n := n) (Txt.split r ", ") [] (fun p hp => ⟨SR.asc p hp, by have := SR.len p hp; omega⟩) (by have := SR.num; simp; omega) (fun es he => ?_) (fun hn x e => ?_)
          · rw [errL_map] at he
            cases hm : mapO errO (Txt.split r ", ") with
            | none => rw [hm] at he; cases he
            | some es2 =>
              rw [hm] at he
              simp only at he
              by_cases al : (es2.all fun it => decide (it.1.2 < n)) = true
              · rw [if_pos al] at he
                cases he
                rw [rs, hm]
                rw [hm] at rs
                exact fin es rs al
              · rw [if_neg al] at he
                cases he
          · rw [errL_map] at hn
            rw [rs]
            cases hm : mapO errO (Txt.split r ", ") with
            | none => simp [optD]
            | some es2 =>
              rw [hm] at hn
              simp only at hn
              by_cases al : (es2.all fun it => decide (it.1.2 < n)) = true
              · rw [if_pos al] at hn
                cases hn
              · have : goodL n es2 = false := by
                  unfold goodL
                  rw [Bool.eq_false_iff.mpr al]
                  simp
                simp [this, optD]
      · have : numL h 1 = none := by unfold numL; rw [h1]; simp [c]
        rw [this] at ln
        cases hrs : restO r with
        | none => simp [startE, LW.m_law_lot_in, wn_seq, sp, i0, ln, opt, optD]
        | some es =>
          have : goodL n es = false := by unfold goodL; rw [decide_eq_false c]; rfl
          simp [startE, LW.m_law_lot_in, wn_seq, sp, i0, ln, opt, optD, this]
  · have h2 : ¬ ((Txt.split t ": ").length : Int) = 2 := by omega
    rw [lotO_bad e]
    simp [startE, LW.m_law_lot_in, wn_seq, sp, h2, optD]
end AH
namespace AH
open PySem L2 PySem.NumText
variable [TheK]
/-! ### what is heard -/
theorem wn_try2 {c c2 : Str} {i : Nat} {ms ms2 m : DS} {e : Env} {Q : Out → Env → Prop} {E : Str → List D → Env → Prop}
    (h : Wn m e Q (fun c' fs e1 => if c' = c then isOwn (sl e1 i) = false ∧ i < e1.length ∧ Wn ms (put e1 i (.val (.exc c' [] fs))) (fun o e3 => o = .nx ∧ Q .nx (put e3 i .no)) NoE
      else if c' = c2 then isOwn (sl e1 i) = false ∧ i < e1.length ∧ Wn ms2 (put e1 i (.val (.exc c' [] fs))) (fun o e3 => o = .nx ∧ Q .nx (put e3 i .no)) NoE else E c' fs e1)) : Wn (sTry2X c c2 i ms ms2 m) e Q E := by
  have hd : ∀ {s : DS} {e1 : Env} {c' : Str} {fs : List D}, isOwn (sl e1 i) = false → i < e1.length → Wn s (put e1 i (.val (.exc c' [] fs))) (fun o e3 => o = .nx ∧ Q .nx (put e3 i .no)) NoE → ∃ e3, hdlX i s e1 c' fs = .ok .nx e3 ∧ Q .nx e3 := by
    intro s e1 c' fs h1 h2 h3
    unfold hdlX
    rw [h1, decide_eq_true h2]
    rcases h3.two with ⟨o, e3, q, rfl, hq⟩ | ⟨_, _, _, _, z⟩
    · simp only [Bool.not_true, Bool.or_self, Bool.false_eq_true, if_false]
      rw [q]
      exact ⟨_, rfl, hq⟩
    · exact z.elim
  unfold Wn sTry2X
  rcases h.two with ⟨o, e1, q, hq⟩ | ⟨c', fs, e1, q, hq⟩
  · rw [q]
    exact hq
  · rw [q]
    simp only
    by_cases k : c' = c
    · rw [if_pos k] at hq ⊢
      obtain ⟨e3, r, hr⟩ := hd hq.1 hq.2.1 hq.2.2
      rw [r]
      exact hr
    · rw [if_neg k] at hq ⊢
      by_cases k2 : c' = c2
      · rw [if_pos k2] at hq ⊢
        obtain ⟨e3, r, hr⟩ := hd hq.1 hq.2.1 hq.2.2
        rw [r]
        exact hr
      · rw [if_neg k2] at hq ⊢
        exact hq
theorem ve_text : dIsX true (.exc "BadText" [] []) = .ok (.bl true) := by kernel_rfl
theorem ve_line {n : Int} : dIsX true (.exc "BadLine" [] [.int n]) = .ok (.bl true) := by kernel_rfl
theorem nm_line {n : Int} : dXa "number" (.exc "BadLine" [] [.int n]) = .ok (.int n) := by kernel_rfl
theorem ne_tl : ("BadLine" : Str) ≠ "BadText" := by decide +kernel
def hrd {α : Type} (o : Option α) (en : α → D) : D := match o with
  | some x => .tup [.str "told", en x]
  | none => .str "text"
theorem heard_ok {α : Type} {door : Int} {t : Str} {o : Option α} {en : α → D} (hd : door = 0 ∨ door = 1 ∨ door = 2) (h0 : door = 0 → LW.f_read_lot [.str t] = resO o en) (h1 : door = 1 → LW.f_read_numbers [.str t] = resO o en) (h2 : door = 2 → LW.f_read_ranges [.str t] = resO o en) : LW.f_law_heard [.int door, .str t] = .ok (hrd o en) [] := by
  have ve := ve_text
  have body : Wn LW.t_law_heard_1 [.val (.int door), .val (.str t), .val .non, .val .non, .no] (fun r e => ∃ x, o = some x ∧ r = .nx ∧ e = [.val (.int door), .val (.str t), .val .non, .val (en x), .no]) (fun c' fs e => o = none ∧ c' = "BadText" ∧ fs = [] ∧ e = [.val (.int door), .val (.str t), .val .non, .val .non, .no]) := by
    cases o with
    | some x =>
      rcases hd with rfl | rfl | rfl
      · simp [LW.t_law_heard_1, h0 rfl, resO]
      · simp [LW.t_law_heard_1, h1 rfl, resO]
      · simp [LW.t_law_heard_1, h2 rfl, resO]
    | none =>
      rcases hd with rfl | rfl | rfl
      · simp [LW.t_law_heard_1, h0 rfl, resO, giveBack]
      · simp [LW.t_law_heard_1, h1 rfl, resO, giveBack]
      · simp [LW.t_law_heard_1, h2 rfl, resO, giveBack]
  refine WF.eq ?_
  rw [LW.f_law_heard, wf_mkF rfl]
  unfold LW.m_law_heard
  rw [wn_seq]
  simp [startE]
  rw [wn_seq]
  refine wn_try2 (body.imp (fun r e h => ?_) fun c' fs e h => ?_)
  · obtain ⟨x, rfl, rfl, rfl⟩ := h
    simp [hrd]
  · obtain ⟨rfl, rfl, rfl, rfl⟩ := h
    rw [if_pos rfl]
    simp [ve, hrd]
/-! ### more than eight hours told? -/
@[simp] theorem wn_eSlS {a : DE} {lo hi : DO} {e : Env} {Q : D → Env → Prop} {E : Str → List D → Env → Prop} : Wn (eSlS a lo hi) e Q E = Wn a e (fun x e1 => Wn lo e1 (fun l e2 => Wn hi e2 (fun h e3 => WR (dSlS x l h) fun z => Q z e3) E) E) E := by simp only [eSlS, wn_bind, wn_of]
theorem dSlS_ok {w : Str} {l h : Option Int} (hw : w.length ≤ 100000) : dSlS (.str w) l h = .ok (.str (cutS w l h)) := by
  unfold dSlS
  dsimp only
  rw [if_pos (decide_eq_true hw)]
def May (e0 : Env) (o : Out) (e2 : Env) : Prop := (o = .nx ∧ e2 = e0) ∨ (o = .rt (.bl true) ∧ ∃ x r, e2 = x :: r)
theorem loop_may {T : Type} {g : DG} {b : DS} {enc : T → D} {e : Env} : ∀ (L : List T), (∀ y ∈ L, Wn (g (enc y)) e (fun _ e1 => Wn b e1 (May e) NoE) NoE) → Wn (loop g b (L.map enc)) e (May e) NoE
  | [], _ => by
    rw [List.map_nil, wn_loop_nil]
    exact .inl ⟨rfl, rfl⟩
  | y :: L, h => by
    rw [List.map_cons]
    unfold loop
    rw [wn_bind]
    refine (h y List.mem_cons_self).imp (fun _ e1 h1 => ?_) fun _ _ _ z => z.elim
    rw [wn_bind]
    refine h1.imp (fun o e2 h2 => ?_) fun _ _ _ z => z.elim
    rcases h2 with ⟨rfl, rfl⟩ | ⟨rfl, x, r, rfl⟩
    · exact loop_may L fun z hz => h z (List.mem_cons_of_mem _ hz)
    · simp only [wn_pure]
      exact .inr ⟨rfl, x, r, rfl⟩
theorem cut_tl {w : Str} {l h : Option Int} : ∃ i n, (cutS w l h).cps.toList = (w.cps.toList.drop i).take n := ⟨_, _, by unfold cutS; rfl⟩
theorem cut_asc {w : Str} {l h : Option Int} (ha : Asc w) : Asc (cutS w l h) := fun c hc => by
  obtain ⟨i, n, e⟩ := cut_tl (w := w) (l := l) (h := h)
  rw [e] at hc
  exact ha c (List.mem_of_mem_drop (List.mem_of_mem_take hc))
theorem cut_le {w : Str} {l h : Option Int} : (cutS w l h).length ≤ w.length := by
  obtain ⟨i, n, e⟩ := cut_tl (w := w) (l := l) (h := h)
  rw [← len_tl, e, ← len_tl, List.length_take, List.length_drop]
  omega
theorem a_mark : Asc ":" := asc_of (show (":" : Str).cps.toList = [58] by kernel_rfl) (by decide)
theorem hmf : 0 < ("\n" : Str).length := by rw [l_feed]; decide
theorem wide_ok {t : Str} (ha : Asc t) (hl : t.length ≤ 5000) (hn : ∀ l ∈ Txt.split t "\n", l.length ≤ 400) : ∃ b, LW.f_law_wide [.str t] = .ok (.bl b) [] := by
  have sp := sp_ok (t := t) hmf (by omega)
  have S := split_ok ha hmf
  have inner : ∀ (x0 : D) (line : Str), Asc line → line.length ≤ 400 → Wn (loop (gN 2) LW.b_law_wide_1 ((Txt.split line " ").map D.str)) [.val x0, .val (.str line), .no] (May [.val x0, .val (.str line), .no]) NoE := by
    intro x0 line la ll
    have SL := split_ok la hm1
    refine loop_may (Txt.split line " ") fun w hw => ?_
    have wa := SL.asc w hw
    have wl := SL.len w hw
    have d1 := dSlS_ok (w := w) (l := some (-1)) (h := none) (by omega)
    have d2 := dSlS_ok (w := w) (l := none) (h := some (-1)) (by omega)
    have q := dEq_ss (cut_asc (l := some (-1)) (h := none) wa) a_mark
    have ln := law_number_ok (w := cutS w none (some (-1))) (low := 9) (cut_asc wa) (by have := cut_le (w := w) (l := none) (h := some (-1)); omega)
    generalize decide (cutS w (some (-1)) none = ":") = b at q
    cases b with
    | false => simp [LW.b_law_wide_1, wn_sFg, d1, q, May]
    | true =>
      cases numL (cutS w none (some (-1))) 9 with
      | none => simp [LW.b_law_wide_1, wn_sFg, d1, d2, q, ln, opt, May]
      | some n => simp [LW.b_law_wide_1, wn_sFg, d1, d2, q, ln, opt, May, fgO, fgt, fgt1]
  have outer : Wn (loop (gN 1) LW.b_law_wide_2 ((Txt.split t "\n").map D.str)) [.val (.str t), .no, .no] (May [.val (.str t), .no, .no]) NoE := by
    refine loop_may (Txt.split t "\n") fun line hline => ?_
    have la := S.asc line hline
    have ll := hn line hline
    have sl := sp_ok (t := line) hm1 (by omega)
    have i := inner (.str t) line la ll
    simp only [LW.b_law_wide_2, wn_gN, x_slS, x_sl0, x_isOwn1, true_and, x_putS, x_put0, wn_sFg, LW.l_law_wide_1, wn_sFor, wn_iSeq]
    simp [sl]
    refine i.imp (fun o e h => ?_) fun _ _ _ z => z.elim
    rcases h with ⟨rfl, rfl⟩ | ⟨rfl, x, r, rfl⟩
    · simp [May, fgO, fgt, fgt1]
    · refine .inr ⟨rfl, ?_⟩
      cases r with
      | nil => exact ⟨_, _, rfl⟩
      | cons y r => exact ⟨_, _, rfl⟩
  rcases outer.two with ⟨o, e, q, h⟩ | ⟨_, _, _, _, z⟩
  · rcases h with ⟨rfl, rfl⟩ | ⟨rfl, x, r, rfl⟩
    · refine ⟨false, WF.eq ?_⟩
      rw [LW.f_law_wide, wf_mkF rfl]
      simp [startE, LW.m_law_wide, wn_seq, LW.l_law_wide_2, sp]
      rw [wn_eq q]
      simp
    · refine ⟨true, WF.eq ?_⟩
      rw [LW.f_law_wide, wf_mkF rfl]
      simp [startE, LW.m_law_wide, wn_seq, LW.l_law_wide_2, sp]
      rw [wn_eq q]
      simp
  · exact z.elim
/-! ### doors 0, 1, 2 -/
theorem str_sm {n : Nat} {s : Str} (h : Asc s) : (D.str s).sm n = true := by
  have := h.ok
  cases n <;> exact this
theorem sm_told : ∀ n, (D.str "told").sm n = true := fun n => sm_str (by kernel_rfl)
theorem sm_text : ∀ n, (D.str "text").sm n = true := fun n => sm_str (by kernel_rfl)
theorem hrd_sm {α : Type} {o : Option α} {en : α → D} {n : Nat} (h : ∀ x, o = some x → (en x).sm n = true) : (hrd o en).sm (n + 1) = true := by
  cases o with
  | none => exact sm_text _
  | some x => exact sm_tup.mpr ⟨by simp, fun d hd => by
      simp only [List.mem_cons, List.not_mem_nil, or_false] at hd
      rcases hd with rfl | rfl
      · exact sm_told _
      · exact h x rfl⟩
theorem lotO_sm {t : Str} {l : Int × List Er} (ha : Asc t) (hl : t.length ≤ 400) (h : lotO t = some l) : l.2.length ≤ 57 ∧ 1 ≤ l.1 := by
  rcases two_or (t := t) (m := ": ") with ⟨a, r, e⟩ | e
  · have S := split_ok ha hmc
    rw [e] at S
    rw [lotO_two e] at h
    cases h1 : numO a with
    | none => rw [h1] at h; cases h
    | some n =>
      cases h2 : restO r with
      | none => rw [h1, h2] at h; cases h
      | some es =>
        rw [h1, h2] at h
        simp only at h
        by_cases g : goodL n es = true
        · rw [if_pos g] at h
          cases h
          refine ⟨restO_len (S.asc r (by simp)) (by have := S.len r (by simp); omega) h2, ?_⟩
          unfold goodL at g
          simp only [Bool.and_eq_true, decide_eq_true_eq] at g
          exact g.1
        · rw [if_neg g] at h
          cases h
  · rw [lotO_bad e] at h
    cases h
theorem text_right_ok {door : Int} {t : Str} (hd : door = 0 ∨ door = 1 ∨ door = 2) (ha : Asc t) (hl : t.length ≤ 400) : LW.f_law_text_right [.int door, .str t] = .ok (.bl true) [] := by
  have S := split_ok ha hm1
  have SF := split_ok ha hmf
  obtain ⟨b, wd⟩ := wide_ok ha (by omega) fun l hl' => by have := SF.len l hl'; omega
  have nm := law_numbers_ok ha hl
  have i0 : dIn (.int 0) (.tup [.int 0, .int 3]) = .ok true := by kernel_rfl
  have i1 : dIn (.int 1) (.tup [.int 0, .int 3]) = .ok false := by kernel_rfl
  have i2 : dIn (.int 2) (.tup [.int 0, .int 3]) = .ok false := by kernel_rfl
  refine WF.eq ?_
  rw [LW.f_law_text_right, wf_mkF rfl]
  rcases hd with rfl | rfl | rfl
  · cases b with
    | true => simp [startE, LW.m_law_text_right, wn_seq, i0, wd]
    | false =>
      have lo := law_lot_ok ha hl
      have he := heard_ok (door := 0) (t := t) (o := lotO t) (en := encLt) (.inl rfl) (fun _ => read_lot_eq ha hl) (fun z => by cases z) (fun z => by cases z)
      have sm := same_eq (n := 5) (x := hrd (lotO t) encLt) rfl (hrd_sm (n := 4) fun l hl' => by
        have := lotO_sm ha hl hl'
        exact sm_lot (by omega))
      cases h : lotO t with
      | none =>
        rw [h] at lo he sm
        simp [hrd] at sm he
        simp [startE, LW.m_law_text_right, wn_seq, i0, wd, lo, optD, he, sm]
      | some l =>
        rw [h] at lo he sm
        rw [show optD encLt (some l) = encLt l from rfl] at lo
        have nl : dIsN (encLt l) = false := rfl
        simp [hrd] at sm he
        generalize encLt l = L at *
        simp [startE, LW.m_law_text_right, wn_seq, i0, wd, lo, optD, he, sm, nl]
  · have he := heard_ok (door := 1) (t := t) (o := numsO t) (en := encNs) (.inr (.inl rfl)) (fun z => by cases z) (fun _ => read_numbers_eq ha hl) (fun z => by cases z)
    have sm := same_eq (n := 2) (x := hrd (numsO t) encNs) rfl (hrd_sm (n := 1) fun ns hn => sm_tup.mpr ⟨by
      have := mapO_len hn
      have := S.num
      rw [List.length_map]
      omega, fun d hd => by
      obtain ⟨n, _, rfl⟩ := List.mem_map.mp hd
      rfl⟩)
    cases h : numsO t with
    | none =>
      rw [h] at nm he sm
      simp [hrd] at sm he
      simp [startE, LW.m_law_text_right, wn_seq, i1, nm, optD, he, sm]
    | some l =>
      rw [h] at nm he sm
      rw [show optD encNs (some l) = encNs l from rfl] at nm
      have nl : dIsN (encNs l) = false := rfl
      simp [hrd] at sm he
      generalize encNs l = L at *
      simp [startE, LW.m_law_text_right, wn_seq, i1, nm, optD, he, sm, nl]
  · have rg := law_ranges_ok ha hl
    have he := heard_ok (door := 2) (t := t) (o := rngsO t) (en := encRs) (.inr (.inr rfl)) (fun z => by cases z) (fun z => by cases z) (fun _ => read_ranges_eq ha hl)
    have sm := same_eq (n := 3) (x := hrd (rngsO t) encRs) rfl (hrd_sm (n := 2) fun ns hn => sm_tup.mpr ⟨by
      have := mapO_len hn
      have := S.num
      rw [List.length_map]
      omega, fun d hd => by
      obtain ⟨n, _, rfl⟩ := List.mem_map.mp hd
      rfl⟩)
    generalize optD encNs (numsO t) = N at nm
    cases h : rngsO t with
    | none =>
      rw [h] at rg he sm
      simp [hrd] at sm he
      simp [startE, LW.m_law_text_right, wn_seq, i2, nm, rg, optD, he, sm]
    | some l =>
      rw [h] at rg he sm
      rw [show optD encRs (some l) = encRs l from rfl] at rg
      have nl : dIsN (encRs l) = false := rfl
      simp [hrd] at sm he
      generalize encRs l = L at *
      simp [startE, LW.m_law_text_right, wn_seq, i2, nm, rg, optD, he, sm, nl]
end AH
namespace AH
open PySem L2 PySem.NumText
variable [TheK]
/-! ### lines -/
theorem sub_asc {t : Str} {i j : Nat} (ha : Asc t) : Asc (Builtin.Str.strSub t i j) := fun c hc => by
  rw [StrLaws.strSub_toList] at hc
  exact ha c (List.mem_of_mem_drop (List.mem_of_mem_take hc))
theorem sub_le {t : Str} {i j : Nat} : (Builtin.Str.strSub t i j).length ≤ t.length := by
  rw [← len_tl, StrLaws.strSub_toList, ← len_tl, List.length_take, List.length_drop]
  omega
structure PaT (t m : Str) (p : Str × Str × Str) : Prop where
  a1 : Asc p.1
  a3 : Asc p.2.2
  l1 : p.1.length ≤ t.length
  l3 : p.2.2.length ≤ t.length
  mid : p.2.1 = m ∨ (p.2.1 = "" ∧ p.2.2 = "")
theorem part_ok {t m : Str} (ha : Asc t) : PaT t m (Txt.partition t m) := by
  unfold Txt.partition
  split
  · exact ⟨sub_asc ha, sub_asc ha, sub_le, sub_le, .inl rfl⟩
  · exact ⟨ha, asc_nil, Nat.le_refl _, Nat.zero_le _, .inr ⟨rfl, rfl⟩⟩
def isAz (c : Nat) : Bool := decide (97 ≤ c) && decide (c ≤ 122)
def nameB (w : Str) : Bool := (decide (1 ≤ w.length) && decide (w.length ≤ 8)) && w.cps.toList.all isAz
@[simp] theorem isi_ss {s : Str} : isi .str (.str s) = true := nr rfl
@[simp] theorem isx_s {s : Str} : isExc (.str s) = false := nr rfl
theorem dLenA_str {s : Str} (h : s.length ≤ 100000) : dLenA (.str s) = .ok (.int s.length) := by
  unfold dLenA
  dsimp only
  rw [if_pos (decide_eq_true h)]
theorem isAz_in (c : Nat) : decide (c ∈ ("abcdefghijklmnopqrstuvwxyz" : Str).cps.toList) = isAz c := by
  have e : ("abcdefghijklmnopqrstuvwxyz" : Str).cps.toList = [97, 98, 99, 100, 101, 102, 103, 104, 105, 106, 107, 108, 109, 110, 111, 112, 113, 114, 115, 116, 117, 118, 119, 120, 121, 122] := by kernel_rfl
  rw [e]
  unfold isAz
  by_cases h : 97 ≤ c ∧ c ≤ 122
  · rw [decide_eq_true h.1, decide_eq_true h.2]
    refine decide_eq_true ?_
    simp only [List.mem_cons, List.not_mem_nil, or_false]
    omega
  · have : ¬ c ∈ [97, 98, 99, 100, 101, 102, 103, 104, 105, 106, 107, 108, 109, 110, 111, 112, 113, 114, 115, 116, 117, 118, 119, 120, 121, 122] := fun z => by
      simp only [List.mem_cons, List.not_mem_nil, or_false] at z
      omega
    rw [decide_eq_false this]
    symm
    rw [Bool.and_eq_false_iff, decide_eq_false_iff_not, decide_eq_false_iff_not]
    omega
theorem is_name_eq {w : Str} (hl : w.length ≤ 400) : LW.f_is_name [.str w] = .ok (.bl (nameB w)) [] := by
  have lc : LW.c_is_name_1 [.val (.str w), .no] = .ok (.lst (w.cps.toList.map fun c => .bl (isAz c))) [.val (.str w), .no] := by
    unfold LW.c_is_name_1
    refine lc_map (L := w.cps.toList) (enc := fun c => .str ⟨#[c]⟩) (fun c => .bl (isAz c)) (Wn.eq (by simp)) rfl (by rw [len_tl]; omega) fun c hc => ?_
    have : dInS (.str ⟨#[c]⟩) (.str "abcdefghijklmnopqrstuvwxyz") = .ok (isAz c) := by
      show Rv.ok (decide (c ∈ ("abcdefghijklmnopqrstuvwxyz" : Str).cps.toList)) = _
      rw [isAz_in]
    simp [wipeE, this]
  have al : dAll (.lst (w.cps.toList.map fun c => .bl (isAz c))) = .ok (.bl (w.cps.toList.all isAz)) := dAll_map (f := isAz)
  have dl := dLenA_str (s := w) (by omega)
  have nb : nameB w = ((decide (1 ≤ w.length) && decide (w.length ≤ 8)) && w.cps.toList.all isAz) := rfl
  generalize (w.cps.toList.map fun c => D.bl (isAz c)) = L at lc al
  generalize w.cps.toList.all isAz = b at al nb
  refine WF.eq ?_
  rw [LW.f_is_name, wf_mkF rfl, nb]
  by_cases c1 : 1 ≤ w.length
  · have c1' : (1 : Int) ≤ (w.length : Int) := by omega
    by_cases c2 : w.length ≤ 8
    · have c2' : (w.length : Int) ≤ 8 := by omega
      simp [startE, LW.m_is_name, wn_eq lc, al, dl, c1, c2, c1', c2']
    · have c2' : ¬ (w.length : Int) ≤ 8 := by omega
      simp [startE, LW.m_is_name, wn_eq lc, al, dl, c1, c2, c1', c2']
  · have c1' : ¬ (1 : Int) ≤ (w.length : Int) := by omega
    simp [startE, LW.m_is_name, wn_eq lc, al, dl, c1, c1']
@[simp] theorem wn_sTry0 {c : Str} {ms m : DS} {e : Env} {Q : Out → Env → Prop} {E : Str → List D → Env → Prop} : Wn (sTry0 c ms m) e Q E = Wn m e Q (fun c' fs e1 => if c' = c then Wn ms e1 Q NoE else E c' fs e1) := by
  unfold Wn sTry0
  cases m e with
  | ok o e1 => rfl
  | bad => rfl
  | ex c' fs e1 =>
    simp only
    by_cases h : c' = c
    · rw [if_pos h, if_pos h]
      cases ms e1 <;> rfl
    · rw [if_neg h, if_neg h]
/-- a line: its NAME and its LOT -/
abbrev Lx := Str × (Int × List Er)
def encLx (l : Lx) : D := .tup [.str l.1, encLt l.2]
def lineO (t : Str) : Option Lx := if nameB (Txt.partition t " ").1 = true then (lotO (Txt.partition t " ").2.2).map fun l => ((Txt.partition t " ").1, l) else none
theorem lotO_nil : lotO "" = none := lotO_bad (by rw [split_nil hmc]; simp)
theorem line_in_eq {t : Str} (ha : Asc t) (hl : t.length ≤ 400) : LW.f_line_in [.str t] = .ok (optD encLx (lineO t)) [] := by
  have P := part_ok (m := " ") ha
  have pa : dPart t (.str " ") = .ok (.tup [.str (Txt.partition t " ").1, .str (Txt.partition t " ").2.1, .str (Txt.partition t " ").2.2]) := dPart_ok rfl hm1 (by omega)
  have l1 := P.l1
  have l3 := P.l3
  have na := is_name_eq (w := (Txt.partition t " ").1) (by omega)
  have rl := read_lot_eq P.a3 (by omega)
  have mid := P.mid
  unfold lineO
  generalize (Txt.partition t " ").1 = x at *
  generalize (Txt.partition t " ").2.1 = y at *
  generalize (Txt.partition t " ").2.2 = z at *
  refine WF.eq ?_
  rw [LW.f_line_in, wf_mkF rfl]
  have e0 : (" " : Str) ≠ "" := fun k => by
    have := congrArg Str.length k
    rw [l_gap] at this
    have e : ("" : Str).length = 0 := by kernel_rfl
    omega
  rcases mid with rfl | ⟨rfl, rfl⟩
  · have de := dEq_ss a_gap asc_nil
    rw [decide_eq_false e0] at de
    cases hn : nameB x with
    | false =>
      rw [hn] at na
      simp [startE, LW.m_line_in, wn_seq, pa, de, na, optD]
    | true =>
      rw [hn] at na
      cases hL : lotO z with
      | none =>
        rw [hL] at rl
        simp [startE, LW.m_line_in, wn_seq, pa, de, na, LW.t_line_in_1, rl, resO, optD, giveBack]
      | some l =>
        rw [hL] at rl
        simp [startE, LW.m_line_in, wn_seq, pa, de, na, LW.t_line_in_1, rl, resO, optD, encLx]
  · have de := dEq_ss asc_nil asc_nil
    rw [decide_eq_true rfl] at de
    have : (if nameB x = true then (lotO "").map fun l => (x, l) else none) = (none : Option Lx) := by
      rw [lotO_nil]
      simp
    rw [this]
    simp [startE, LW.m_line_in, wn_seq, pa, de, optD]
end AH
namespace AH
open PySem L2 PySem.NumText
variable [TheK]
/-! ### sheets -/
def lastBad (acc : List Lx) (l : Lx) : Bool := match acc.getLast? with
  | some z => !decide (z.1.cps.toList < l.1.cps.toList)
  | none => false
def stepS (acc : List Lx) (s : Str) : Option Lx := match lineO s with
  | some l => if lastBad acc l = true then none else some l
  | none => none
def shF (k : Nat) (acc : List Lx) : List Str → Nat ⊕ List Lx
  | [] => .inr acc
  | s :: r => match stepS acc s with
    | none => .inl k
    | some l => shF (k + 1) (acc ++ [l]) r
theorem atI_end {xs : List D} {x : D} : atI (xs ++ [x]) (-1) = some x := by
  have : ixN (xs ++ [x]).length (-1) = some xs.length := by
    unfold ixN
    rw [if_neg (by omega), if_pos (by simp; omega)]
    simp
    omega
  unfold atI
  rw [this]
  simp
theorem last_app {acc : List Lx} {z l : Lx} : lastBad (acc ++ [z]) l = !decide (z.1.cps.toList < l.1.cps.toList) := by
  unfold lastBad
  rw [List.getLast?_append]
  rfl
theorem sheet_body {k : Nat} {x : D} {acc : List Lx} {s : Str} (ha : Asc s) (hl : s.length ≤ 400) (hn : acc.length ≤ 6000) :
    Wn LW.b_read_sheet_1 [.val x, .own (acc.map encLx), .val (.int (k : Int)), .val (.str s), .no] (fun o e => ∃ l, stepS acc s = some l ∧ o = .nx ∧ e = [.val x, .own ((acc ++ [l]).map encLx), .no, .no, .no])
      (fun c fs e => stepS acc s = none ∧ c = "BadLine" ∧ fs = [.int (k : Int)] ∧ ∃ r, e = .val x :: r) := by
  have li := line_in_eq ha hl
  unfold stepS
  cases h : lineO s with
  | none =>
    rw [h] at li
    simp [LW.b_read_sheet_1, wn_sFg, wn_seq, li, optD]
  | some l =>
    rw [h] at li
    rw [show optD encLx (some l) = encLx l from rfl] at li
    have nn : dIsN (encLx l) = false := rfl
    have ix : dIx (encLx l) (.int 0) = .ok (.str l.1) := rfl
    rcases List.eq_nil_or_concat acc with rfl | ⟨L, z, rfl⟩
    · have : lastBad [] l = false := rfl
      simp [LW.b_read_sheet_1, wn_sFg, wn_seq, li, nn, this]
    · rw [List.concat_eq_append] at *
      simp only [last_app]
      have ge : dGeS (.str z.1) (.str l.1) = .ok (!decide (z.1.cps.toList < l.1.cps.toList)) := rfl
      generalize (!decide (z.1.cps.toList < l.1.cps.toList)) = b at ge ⊢
      have at1 : atI (L.map encLx ++ [encLx z]) (-1) = some (encLx z) := atI_end
      have ix0 : dIx (encLx z) (.int 0) = .ok (.str z.1) := rfl
      have ps : (0 : Int) < (L.length : Int) + 1 := by omega
      have bd : L.length ≤ 99998 := by simp at hn; omega
      cases b with
      | true => simp [LW.b_read_sheet_1, wn_sFg, wn_seq, li, nn, ix, ix0, at1, ge, ps, bd]
      | false => simp [LW.b_read_sheet_1, wn_sFg, wn_seq, li, nn, ix, ix0, at1, ge, ps, bd]
def encQ (q : Str × Nat) : D := .tup [.int (q.2 : Int), .str q.1]
theorem sheet_loop {x : D} : ∀ (ls : List Str) (k : Nat) (acc : List Lx) {Q : Out → Env → Prop} {E : Str → List D → Env → Prop}, (∀ s ∈ ls, Asc s ∧ s.length ≤ 400) → acc.length + ls.length ≤ 6000 →
    (∀ as, shF k acc ls = .inr as → Q .nx [.val x, .own (as.map encLx), .no, .no, .no]) → (∀ j, shF k acc ls = .inl j → ∀ r, E "BadLine" [.int (j : Int)] (.val x :: r)) →
    Wn (loop (gT (gsCons (gN 2) (gsCons (gN 3) gsNil))) LW.b_read_sheet_1 ((ls.zipIdx k).map encQ)) [.val x, .own (acc.map encLx), .no, .no, .no] Q E
  | [], k, acc, Q, E, _, _, hq, _ => by
    rw [List.zipIdx_nil, List.map_nil, wn_loop_nil]
    exact hq acc rfl
  | s :: ls, k, acc, Q, E, hs, hl, hq, he => by
    obtain ⟨sa, sl'⟩ := hs s List.mem_cons_self
    rw [List.length_cons] at hl
    have sb := sheet_body (k := k) (x := x) (acc := acc) sa sl' (by omega)
    rw [List.zipIdx_cons, List.map_cons]
    unfold loop
    rw [wn_bind]
    have g : ∀ Q' E', Wn ((gT (gsCons (gN 2) (gsCons (gN 3) gsNil))) (encQ (s, k))) [.val x, .own (acc.map encLx), .no, .no, .no] Q' E' = Q' () [.val x, .own (acc.map encLx), .val (.int (k : Int)), .val (.str s), .no] := fun Q' E' => by simp [encQ]
    rw [g, wn_bind]
    refine sb.imp (fun o e h => ?_) fun c fs e h => ?_
    · obtain ⟨l, hl1, rfl, rfl⟩ := h
      have st : shF k acc (s :: ls) = shF (k + 1) (acc ++ [l]) ls := by
        show (match stepS acc s with | none => _ | some l => shF (k + 1) (acc ++ [l]) ls) = _
        rw [hl1]
      exact sheet_loop ls (k + 1) (acc ++ [l]) (fun z hz => hs z (List.mem_cons_of_mem _ hz)) (by rw [List.length_append]; simp; omega) (fun as ha => hq as (by rw [st]; exact ha)) fun j hj => he j (by rw [st]; exact hj)
    · obtain ⟨h1, rfl, rfl, r, rfl⟩ := h
      exact he k (by
        show (match stepS acc s with | none => Sum.inl k | some l => shF (k + 1) (acc ++ [l]) ls) = _
        rw [h1]) r
theorem enum_txt {ls : List Str} : enumL (ls.map D.str) = (ls.zipIdx 0).map encQ := by
  unfold enumL rng
  refine List.ext_getElem (by simp) fun i h1 h2 => ?_
  simp [encQ]
/-! what is found is small -/
def GoodX (l : Lx) : Prop := Asc l.1 ∧ l.2.2.length ≤ 57
theorem lineO_good {t : Str} {l : Lx} (ha : Asc t) (hl : t.length ≤ 400) (h : lineO t = some l) : GoodX l := by
  have P := part_ok (m := " ") ha
  unfold lineO at h
  by_cases n : nameB (Txt.partition t " ").1 = true
  · rw [if_pos n] at h
    cases q : lotO (Txt.partition t " ").2.2 with
    | none => rw [q] at h; cases h
    | some m =>
      rw [q] at h
      cases h
      exact ⟨P.a1, (lotO_sm P.a3 (by have := P.l3; omega) q).1⟩
  · rw [if_neg n] at h
    cases h
theorem shF_good : ∀ (ls : List Str) (k : Nat) (acc as : List Lx), (∀ s ∈ ls, Asc s ∧ s.length ≤ 400) → (∀ l ∈ acc, GoodX l) → shF k acc ls = .inr as → (∀ l ∈ as, GoodX l) ∧ as.length = acc.length + ls.length
  | [], k, acc, as, _, ha, h => by cases h; exact ⟨ha, rfl⟩
  | s :: ls, k, acc, as, hs, ha, h => by
    have h : (match stepS acc s with | none => Sum.inl k | some l => shF (k + 1) (acc ++ [l]) ls) = .inr as := h
    cases q : stepS acc s with
    | none => rw [q] at h; cases h
    | some l =>
      rw [q] at h
      have gl : GoodX l := by
        unfold stepS at q
        cases z : lineO s with
        | none => rw [z] at q; cases q
        | some l' =>
          rw [z] at q
          simp only at q
          by_cases b : lastBad acc l' = true
          · rw [if_pos b] at q; cases q
          · rw [if_neg b] at q
            cases q
            exact lineO_good (hs s List.mem_cons_self).1 (hs s List.mem_cons_self).2 z
      obtain ⟨h1, h2⟩ := shF_good ls (k + 1) (acc ++ [l]) as (fun z hz => hs z (List.mem_cons_of_mem _ hz)) (fun z hz => by
        rcases List.mem_append.mp hz with hz | hz
        · exact ha z hz
        · rw [List.mem_singleton.mp hz]; exact gl) h
      refine ⟨h1, ?_⟩
      rw [h2, List.length_append]
      simp
      omega
theorem encLx_sm {l : Lx} (h : GoodX l) : (encLx l).sm 5 = true := sm_tup.mpr ⟨by simp, fun d hd => by
  simp only [List.mem_cons, List.not_mem_nil, or_false] at hd
  rcases hd with rfl | rfl
  · exact str_sm h.1
  · exact sm_lot (by have := h.2; omega)⟩
theorem tu_lot {s : Int} {its : List Er} : (lotD true s its).tu = lotD true s its := by
  have : its.map (D.tu ∘ encE true) = its.map (encE true) := by
    refine List.map_congr_left fun it _ => ?_
    simp [encE, sq_true]
  simp [lotD, sq_true, List.map_map, this]
theorem tu_str {s : Str} : (D.str s).tu = .str s := by simp [D.tu]
theorem read_sheet_wf {t : Str} (ha : Asc t) (hl : t.length ≤ 5000) (hn : ∀ l ∈ Txt.split t "\n", l.length ≤ 400) {Q : D → List (List D) → Prop} {E : Str → List D → List (List D) → Prop}
    (hq : ∀ as, shF 0 [] (Txt.split t "\n") = .inr as → Q (.tup (as.map encLx)) []) (he : ∀ j, shF 0 [] (Txt.split t "\n") = .inl j → E "BadLine" [.int (j : Int)] []) : WF (LW.f_read_sheet [.str t]) Q E := by
  have S := split_ok ha hmf
  have sp := sp_ok (t := t) hmf (by omega)
  have hs : ∀ s ∈ Txt.split t "\n", Asc s ∧ s.length ≤ 400 := fun s hs => ⟨S.asc s hs, hn s hs⟩
  rw [LW.f_read_sheet, wf_mkF rfl]
  simp only [startE, LW.m_read_sheet, wn_seq]
  simp [LW.l_read_sheet_1, sp, enum_txt]
  refine sheet_loop (x := .str t) (Txt.split t "\n") 0 [] hs (by have := S.num; simp; omega) (fun as h => ?_) fun j h r => ?_
  · obtain ⟨g1, g2⟩ := shF_good _ _ _ _ hs (fun _ z => by cases z) h
    have tu : f_tupled 30 [.lst (as.map encLx)] = .ok (.tup (as.map encLx)) [] := by
      have := tupled_ok (k := 30) (n := 6) (d := .lst (as.map encLx)) (sm_lst.mpr ⟨by
        have := S.num
        rw [List.length_map, g2]
        simp
        omega, fun x hx => by
        obtain ⟨l, hl', rfl⟩ := List.mem_map.mp hx
        exact encLx_sm (g1 l hl')⟩) (by omega)
      rw [this, tu_lst, List.map_map]
      congr 2
      refine List.map_congr_left fun l _ => ?_
      simp [encLx, encLt, tu_lot, tu_str]
    simp [rel_sp, tu]
    exact hq as h
  · simp [lentOf]
    exact he j h
end AH
namespace AH
open PySem L2 PySem.NumText
variable [TheK]
theorem lt1 (a b : Nat) : decide (([a] : List Nat) < [b]) = decide (a < b) := by
  rw [decide_eq_decide]
  simp [List.cons_lt_cons_iff]
theorem az_le {c : Nat} : dLeS (.str "a") (.str ⟨#[c]⟩) = .ok (decide (97 ≤ c)) ∧ dLeS (.str ⟨#[c]⟩) (.str "z") = .ok (decide (c ≤ 122)) := by
  have e1 : ("a" : Str).cps.toList = [97] := by kernel_rfl
  have e2 : ("z" : Str).cps.toList = [122] := by kernel_rfl
  constructor
  · show Rv.ok (!decide ((⟨#[c]⟩ : Str).cps.toList < ("a" : Str).cps.toList)) = _
    rw [e1]
    show Rv.ok (!decide (([c] : List Nat) < [97])) = _
    rw [lt1]
    congr 1
    by_cases h : 97 ≤ c
    · rw [decide_eq_true h, decide_eq_false (by omega)]; rfl
    · rw [decide_eq_false h, decide_eq_true (by omega)]; rfl
  · show Rv.ok (!decide (("z" : Str).cps.toList < (⟨#[c]⟩ : Str).cps.toList)) = _
    rw [e2]
    show Rv.ok (!decide (([122] : List Nat) < [c])) = _
    rw [lt1]
    congr 1
    by_cases h : c ≤ 122
    · rw [decide_eq_true h, decide_eq_false (by omega)]; rfl
    · rw [decide_eq_false h, decide_eq_true (by omega)]; rfl
theorem lines_body {k : Nat} {x : D} {acc : List Lx} {s : Str} (ha : Asc s) (hl : s.length ≤ 400) (hn : acc.length ≤ 6000) (hg : ∀ l ∈ acc, GoodX l) :
    Wn LW.b_law_lines_in_1 [.val x, .own (acc.map encLx), .val (.int (k : Int)), .val (.str s), .no, .no, .no, .no, .no, .no] (fun o e => match stepS acc s with
      | some l => o = .nx ∧ e = [.val x, .own ((acc ++ [l]).map encLx), .no, .no, .no, .no, .no, .no, .no, .no]
      | none => o = .rt (.int (k : Int)) ∧ ∃ y r, e = y :: r) NoE := by
  have P := part_ok (m := " ") ha
  have pa : dPart s (.str " ") = .ok (.tup [.str (Txt.partition s " ").1, .str (Txt.partition s " ").2.1, .str (Txt.partition s " ").2.2]) := dPart_ok rfl hm1 (by omega)
  have l1 := P.l1
  have l3 := P.l3
  have a1 := P.a1
  have lo := law_lot_ok P.a3 (by omega)
  have lineq : lineO s = if nameB (Txt.partition s " ").1 = true then (lotO (Txt.partition s " ").2.2).map fun l => ((Txt.partition s " ").1, l) else none := rfl
  unfold stepS
  rw [lineq]
  generalize (Txt.partition s " ").1 = w at *
  generalize (Txt.partition s " ").2.1 = y at *
  generalize (Txt.partition s " ").2.2 = z at *
  have dl := dLenA_str (s := w) (by omega)
  -- the letters that are none
  have lc : ∀ x7 x8 : Sl, LW.c_law_lines_in_1 [.val x, .own (acc.map encLx), .val (.int (k : Int)), .val (.str s), .val (.str w), .val (.str y), .val (.str z), x7, x8, .no] = .ok (.lst ((w.cps.toList.filter fun c => !isAz c).map fun c => .str ⟨#[c]⟩)) [.val x, .own (acc.map encLx), .val (.int (k : Int)), .val (.str s), .val (.str w), .val (.str y), .val (.str z), x7, x8, .no] := fun x7 x8 => by
    unfold LW.c_law_lines_in_1
    refine lc_filter (L := w.cps.toList) (enc := fun c => .str ⟨#[c]⟩) (fun c => !isAz c) (fun c => .str ⟨#[c]⟩) (Wn.eq (by simp)) rfl (by rw [len_tl]; omega) fun c _ => ?_
    obtain ⟨q1, q2⟩ := az_le (c := c)
    unfold isAz
    by_cases h1 : 97 ≤ c
    · simp [wipeE, q1, q2, h1]
    · simp [wipeE, q1, h1]
  have smL : (D.lst ((w.cps.toList.filter fun c => !isAz c).map fun c => D.str ⟨#[c]⟩)).sm 1 = true := by
    refine sm_lst.mpr ⟨by rw [List.length_map]; exact Nat.le_trans (List.length_filter_le _ _) (by rw [len_tl]; omega), fun x hx => ?_⟩
    obtain ⟨c, hc, rfl⟩ := List.mem_map.mp hx
    have as : Asc ⟨#[c]⟩ := fun d hd => by
      have : d = c := by simpa using hd
      subst this
      exact a1 d (List.mem_filter.mp hc).1
    exact as.ok
  have de := dEq_nilL smL (by omega)
  have em : ((w.cps.toList.filter fun c => !isAz c).map fun c => D.str ⟨#[c]⟩).isEmpty = w.cps.toList.all isAz := by
    generalize w.cps.toList = l
    rw [Bool.eq_iff_iff]
    simp [List.filter_eq_nil_iff]
  rw [em] at de
  have nb : nameB w = ((decide (1 ≤ w.length) && decide (w.length ≤ 8)) && w.cps.toList.all isAz) := rfl
  generalize ((w.cps.toList.filter fun c => !isAz c).map fun c => D.str ⟨#[c]⟩) = G at lc de
  generalize w.cps.toList.all isAz = b at de nb
  have k1 : ((1 : Int) ≤ (w.length : Int)) ↔ 1 ≤ w.length := by omega
  have k2 : ((w.length : Int) ≤ 8) ↔ w.length ≤ 8 := by omega
  have fine : ∀ x7 : Sl, eAnd (eB (c3 dLe dLe (eC (.int 1)) (e1 dLenA (eVar 4)) (eC (.int 8)))) (eB (c2 dEq LW.c_law_lines_in_1 (eLst aNil))) [.val x, .own (acc.map encLx), .val (.int (k : Int)), .val (.str s), .val (.str w), .val (.str y), .val (.str z), x7, .no, .no] = .ok (.bl (nameB w)) [.val x, .own (acc.map encLx), .val (.int (k : Int)), .val (.str s), .val (.str w), .val (.str y), .val (.str z), x7, .no, .no] := fun x7 => by
    rw [nb]
    refine Wn.eq ?_
    by_cases h1 : 1 ≤ w.length
    · by_cases h2 : w.length ≤ 8
      · simp [dl, k1, k2, h1, h2, wn_eq (lc _ _), de]
      · simp [dl, k1, k2, h1, h2]
    · simp [dl, k1, h1]
  have smA : (D.lst (acc.map encLx)).sm 6 = true := sm_lst.mpr ⟨by rw [List.length_map]; omega, fun d hd => by
    obtain ⟨l, hl', rfl⟩ := List.mem_map.mp hd
    exact encLx_sm (hg l hl')⟩
  have dn := dNe_nil smA (by omega)
  cases hL : lotO z with
  | none =>
    rw [hL] at lo
    rw [show optD encLt (none : Option (Int × List Er)) = D.non from rfl] at lo
    have : (if nameB w = true then (none : Option (Int × List Er)).map fun l => (w, l) else none) = (none : Option Lx) := by
      cases nameB w <;> rfl
    rw [this]
    simp only
    unfold LW.b_law_lines_in_1
    rw [wn_sFg, wn_seq]
    simp [pa]
    rw [wn_seq]
    simp [lo]
    rw [wn_seq, wn_sAsgN, wn_eq (fine _)]
    simp [wn_seq, fgO, fgt, fgt1]
  | some l =>
    rw [hL] at lo
    rw [show optD encLt (some l) = encLt l from rfl] at lo
    have nn : dIsN (encLt l) = false := rfl
    cases hN : nameB w with
    | false =>
      rw [hN] at fine
      simp only [Bool.false_eq_true, if_false]
      unfold LW.b_law_lines_in_1
      rw [wn_sFg, wn_seq]
      simp [pa]
      rw [wn_seq]
      simp [lo]
      rw [wn_seq, wn_sAsgN, wn_eq (fine _)]
      simp [wn_seq, nn, fgO, fgt, fgt1]
    | true =>
      rw [hN] at fine
      simp only [if_true, Option.map_some]
      rcases List.eq_nil_or_concat acc with rfl | ⟨L, z', rfl⟩
      · have lb : lastBad [] (w, l) = false := rfl
        simp only [lb]
        unfold LW.b_law_lines_in_1
        rw [wn_sFg, wn_seq]
        simp [pa]
        rw [wn_seq]
        simp [lo]
        simp only [List.map_nil] at fine dn
        rw [wn_seq, wn_sAsgN, wn_eq (fine _)]
        simp [wn_seq, nn, dn, encLx]
      · rw [List.concat_eq_append] at *
        simp only [last_app]
        have ge : dGeS (.str z'.1) (.str w) = .ok (!decide (z'.1.cps.toList < w.cps.toList)) := rfl
        generalize (!decide (z'.1.cps.toList < w.cps.toList)) = bb at ge ⊢
        have at1 : atI (L.map encLx ++ [encLx z']) (-1) = some (encLx z') := atI_end
        have ix0 : dIx (encLx z') (.int 0) = .ok (.str z'.1) := rfl
        have bd : L.length ≤ 99998 := by simp at hn; omega
        rw [List.map_append, List.map_cons, List.map_nil] at fine dn
        have ne : (!(L.map encLx ++ [encLx z']).isEmpty) = true := by simp
        rw [ne] at dn
        unfold LW.b_law_lines_in_1
        rw [wn_sFg, wn_seq]
        simp [pa]
        rw [wn_seq]
        simp [lo]
        rw [wn_seq, wn_sAsgN, wn_eq (fine _)]
        cases bb with
        | true => simp [wn_seq, nn, dn, at1, ix0, ge, fgO, fgt, fgt1]
        | false =>
          have ex : encLx (w, l) = .tup [.str w, encLt l] := rfl
          simp [wn_seq, nn, dn, at1, ix0, ge, bd, ex]
theorem shF_cons {k : Nat} {acc : List Lx} {s : Str} {ls : List Str} : shF k acc (s :: ls) = (match stepS acc s with
    | none => Sum.inl k
    | some l => shF (k + 1) (acc ++ [l]) ls) := rfl
theorem stepS_good {acc : List Lx} {s : Str} {l : Lx} (ha : Asc s) (hl : s.length ≤ 400) (h : stepS acc s = some l) : GoodX l := by
  unfold stepS at h
  cases z : lineO s with
  | none => rw [z] at h; cases h
  | some l' =>
    rw [z] at h
    simp only at h
    by_cases b : lastBad acc l' = true
    · rw [if_pos b] at h; cases h
    · rw [if_neg b] at h
      cases h
      exact lineO_good ha hl z
theorem lines_loop {x : D} : ∀ (ls : List Str) (k : Nat) (acc : List Lx) {Q : Out → Env → Prop} {E : Str → List D → Env → Prop}, (∀ s ∈ ls, Asc s ∧ s.length ≤ 400) → acc.length + ls.length ≤ 6000 → (∀ l ∈ acc, GoodX l) →
    (∀ as, shF k acc ls = .inr as → Q .nx [.val x, .own (as.map encLx), .no, .no, .no, .no, .no, .no, .no, .no]) → (∀ j, shF k acc ls = .inl j → ∀ y r, Q (.rt (.int (j : Int))) (y :: r)) →
    Wn (loop (gT (gsCons (gN 2) (gsCons (gN 3) gsNil))) LW.b_law_lines_in_1 ((ls.zipIdx k).map encQ)) [.val x, .own (acc.map encLx), .no, .no, .no, .no, .no, .no, .no, .no] Q E
  | [], k, acc, Q, E, _, _, _, hq, _ => by
    rw [List.zipIdx_nil, List.map_nil, wn_loop_nil]
    exact hq acc rfl
  | s :: ls, k, acc, Q, E, hs, hl, hg, hq, he => by
    obtain ⟨sa, sl'⟩ := hs s List.mem_cons_self
    rw [List.length_cons] at hl
    have sb := lines_body (k := k) (x := x) (acc := acc) sa sl' (by omega) hg
    rw [List.zipIdx_cons, List.map_cons]
    unfold loop
    rw [wn_bind]
    have g : ∀ Q' E', Wn ((gT (gsCons (gN 2) (gsCons (gN 3) gsNil))) (encQ (s, k))) [.val x, .own (acc.map encLx), .no, .no, .no, .no, .no, .no, .no, .no] Q' E' = Q' () [.val x, .own (acc.map encLx), .val (.int (k : Int)), .val (.str s), .no, .no, .no, .no, .no, .no] := fun Q' E' => by simp [encQ]
    rw [g, wn_bind]
    refine sb.imp (fun o e h => ?_) fun _ _ _ z => z.elim
    rw [shF_cons] at hq he
    cases q : stepS acc s with
    | none =>
      rw [q] at h hq he
      obtain ⟨rfl, y, r, rfl⟩ := h
      simp only [wn_pure]
      exact he k rfl y r
    | some l =>
      rw [q] at h hq he
      obtain ⟨rfl, rfl⟩ := h
      exact lines_loop ls (k + 1) (acc ++ [l]) (fun z hz => hs z (List.mem_cons_of_mem _ hz)) (by rw [List.length_append]; simp; omega) (fun z hz => by
        rcases List.mem_append.mp hz with hz | hz
        · exact hg z hz
        · rw [List.mem_singleton.mp hz]; exact stepS_good sa sl' q) hq he
def shR : Nat ⊕ List Lx → D
  | .inl j => .int (j : Int)
  | .inr as => .tup [.str "told", .tup (as.map encLx)]
theorem law_lines_ok {t : Str} (ha : Asc t) (hl : t.length ≤ 5000) (hn : ∀ l ∈ Txt.split t "\n", l.length ≤ 400) : LW.f_law_lines_in [.str t] = .ok (shR (shF 0 [] (Txt.split t "\n"))) [] := by
  have S := split_ok ha hmf
  have sp := sp_ok (t := t) hmf (by omega)
  refine WF.eq ?_
  rw [LW.f_law_lines_in, wf_mkF rfl]
  simp only [startE, LW.m_law_lines_in, wn_seq]
  simp [LW.l_law_lines_in_1, sp, enum_txt]
  refine lines_loop (x := .str t) (Txt.split t "\n") 0 [] (fun s hs => ⟨S.asc s hs, hn s hs⟩) (by have := S.num; simp; omega) (fun _ z => by cases z) (fun as h => ?_) fun j h y r => ?_
  · rw [h]
    simp [rel_sp, shR]
  · rw [h]
    simp [shR]
theorem heard3_ok {t : Str} (ha : Asc t) (hl : t.length ≤ 5000) (hn : ∀ l ∈ Txt.split t "\n", l.length ≤ 400) : LW.f_law_heard [.int 3, .str t] = .ok (shR (shF 0 [] (Txt.split t "\n"))) [] := by
  have rs := fun Q E => read_sheet_wf ha hl hn (Q := Q) (E := E)
  have body : Wn LW.t_law_heard_1 [.val (.int 3), .val (.str t), .val .non, .val .non, .no] (fun r e => ∃ as, shF 0 [] (Txt.split t "\n") = .inr as ∧ r = .nx ∧ e = [.val (.int 3), .val (.str t), .val .non, .val (.tup (as.map encLx)), .no]) (fun c' fs e => ∃ j, shF 0 [] (Txt.split t "\n") = .inl j ∧ c' = "BadLine" ∧ fs = [.int (j : Int)] ∧ e = [.val (.int 3), .val (.str t), .val .non, .val .non, .no]) := by
    simp [LW.t_law_heard_1]
    refine rs _ _ (fun as h => ?_) fun j h => ?_
    · simp
      exact ⟨as, h, rfl⟩
    · simp [giveBack]
      exact ⟨j, h, rfl⟩
  refine WF.eq ?_
  rw [LW.f_law_heard, wf_mkF rfl]
  unfold LW.m_law_heard
  rw [wn_seq]
  simp [startE]
  rw [wn_seq]
  refine wn_try2 (body.imp (fun r e h => ?_) fun c' fs e h => ?_)
  · obtain ⟨as, h, rfl, rfl⟩ := h
    rw [h]
    simp [shR]
  · obtain ⟨j, h, rfl, rfl, rfl⟩ := h
    rw [h, if_neg ne_tl, if_pos rfl]
    simp [ve_line, nm_line, shR]
theorem text_right3_ok {t : Str} (ha : Asc t) (hl : t.length ≤ 5000) (hn : ∀ l ∈ Txt.split t "\n", l.length ≤ 400) : LW.f_law_text_right [.int 3, .str t] = .ok (.bl true) [] := by
  have S := split_ok ha hmf
  obtain ⟨b, wd⟩ := wide_ok ha hl hn
  have i3 : dIn (.int 3) (.tup [.int 0, .int 3]) = .ok true := by kernel_rfl
  have he := heard3_ok ha hl hn
  have li := law_lines_ok ha hl hn
  have sm : (shR (shF 0 [] (Txt.split t "\n"))).sm 7 = true := by
    cases h : shF 0 [] (Txt.split t "\n") with
    | inl j => rfl
    | inr as =>
      obtain ⟨g1, g2⟩ := shF_good _ _ _ _ (fun s hs => ⟨S.asc s hs, hn s hs⟩) (fun _ z => by cases z) h
      have := S.num
      exact sm_tup.mpr ⟨by simp, fun d hd => by
        simp only [List.mem_cons, List.not_mem_nil, or_false] at hd
        rcases hd with rfl | rfl
        · exact sm_told _
        · exact sm_tup.mpr ⟨by rw [List.length_map, g2]; simp; omega, fun x hx => by
            obtain ⟨l, hl', rfl⟩ := List.mem_map.mp hx
            exact encLx_sm (g1 l hl')⟩⟩
  have se := same_eq (n := 7) rfl sm
  generalize shR (shF 0 [] (Txt.split t "\n")) = R at he li se
  refine WF.eq ?_
  rw [LW.f_law_text_right, wf_mkF rfl]
  cases b with
  | true => simp [startE, LW.m_law_text_right, wn_seq, i3, wd]
  | false => simp [startE, LW.m_law_text_right, wn_seq, i3, wd, he, li, se]
end AH
namespace AH
open PySem L2 PySem.NumText
variable [TheK]
/-! ### what is written -/
theorem numS_lenk {n : Int} {k : Nat} (h0 : 0 ≤ n) (hk : 1 ≤ k) (h1 : n < 10 ^ k) : (numS n).length ≤ k := by
  obtain ⟨m, rfl⟩ := Int.eq_ofNat_of_zero_le h0
  rw [← len_tl, numS_tl, List.length_map]
  exact digits_len k m hk (by exact_mod_cast h1)
def errS (it : Er) : Str := numS it.1.1 ++ "-" ++ numS it.1.2 ++ " " ++ numS it.2
def lotS (s : Int) (its : List Er) : Str := numS s ++ ": " ++ (if its = [] then ("-" : Str) else Str.join ", " (its.map errS))
structure FewE (it : Er) : Prop where
  a0 : 0 ≤ it.1.1
  a1 : it.1.1 < 10
  b0 : 0 ≤ it.1.2
  b1 : it.1.2 < 10
  w0 : 0 ≤ it.2
  w1 : it.2 < 100
theorem errS_few {it : Er} (h : FewE it) : (errS it).length ≤ 6 ∧ Asc (errS it) := by
  have k1 := numS_lenk (k := 1) h.a0 (by decide) (by have := h.a1; omega)
  have k2 := numS_lenk (k := 1) h.b0 (by decide) (by have := h.b1; omega)
  have k3 := numS_lenk (k := 2) h.w0 (by decide) (by have := h.w1; omega)
  refine ⟨?_, ((((numS_asc h.a0).app a_dash).app (numS_asc h.b0)).app a_gap).app (numS_asc h.w0)⟩
  unfold errS
  rw [len_app, len_app, len_app, len_app, l_dash, l_gap]
  omega
theorem lot_text_few {s : Int} {its : List Er} (s0 : 0 ≤ s) (s1 : s < 10) (h : ∀ it ∈ its, FewE it) (hl : its.length ≤ 15) : LW.f_lot_text [lotD true s its] = .ok (.str (lotS s its)) [] ∧ Asc (lotS s its) ∧ (lotS s its).length ≤ 123 := by
  have es : ((its.map errS).map (·.length)).sum + (its.map errS).length * (", " : Str).length ≤ 120 := by
    have h1 := sum_le (l := its.map errS) (B := 6) fun s hs => by
      obtain ⟨it, hi, rfl⟩ := List.mem_map.mp hs
      exact (errS_few (h it hi)).1
    rw [List.length_map] at h1 ⊢
    rw [l_comma]
    omega
  have ns := numS_lenk (k := 1) s0 (by decide) (by omega)
  have rl : (if its = [] then ("-" : Str) else Str.join ", " (its.map errS)).length ≤ 120 := by
    split
    · rw [l_dash]; omega
    · exact Nat.le_trans (StrLaws.join_length_le _ _) es
  have ra : Asc (if its = [] then ("-" : Str) else Str.join ", " (its.map errS)) := by
    split
    · exact a_dash
    · exact Asc.join a_comma fun p hp => by
        obtain ⟨it, hi, rfl⟩ := List.mem_map.mp hp
        exact (errS_few (h it hi)).2
  have ll : (lotS s its).length ≤ 123 := by
    unfold lotS
    rw [len_app, len_app, l_colon]
    omega
  refine ⟨?_, ((numS_asc s0).app a_colon).app ra, ll⟩
  have lc : LW.c_lot_text_1 [.val (lotD true s its), .no, .no, .no, .no] = .ok (.lst (its.map fun it => .str (errS it))) [.val (lotD true s its), .no, .no, .no, .no] := by
    unfold LW.c_lot_text_1
    refine lc_map (L := its) (enc := encE true) (fun it => .str (errS it)) (Wn.eq (by simp [lotD])) rfl (by omega) fun it hi => ?_
    have hh := h it hi
    have k1 := numS_lenk (k := 1) hh.a0 (by decide) (by have := hh.a1; omega)
    have k2 := numS_lenk (k := 1) hh.b0 (by decide) (by have := hh.b1; omega)
    have k3 := numS_lenk (k := 2) hh.w0 (by decide) (by have := hh.w1; omega)
    have w1 : (numS it.1.1).length + ("-" : Str).length ≤ 100000 := by rw [l_dash]; omega
    have w2 : (numS it.1.1 ++ "-").length + (numS it.1.2).length ≤ 100000 := by rw [len_app, l_dash]; omega
    have w3 : (numS it.1.1 ++ "-" ++ numS it.1.2).length + (" " : Str).length ≤ 100000 := by rw [len_app, len_app, l_dash, l_gap]; omega
    have w4 : (numS it.1.1 ++ "-" ++ numS it.1.2 ++ " ").length + (numS it.2).length ≤ 100000 := by rw [len_app, len_app, len_app, l_dash, l_gap]; omega
    have d1 := dStr_num (n := it.1.1) hh.a0 (by have := hh.a1; omega)
    have d2 := dStr_num (n := it.1.2) hh.b0 (by have := hh.b1; omega)
    have d3 := dStr_num (n := it.2) hh.w0 (by have := hh.w1; omega)
    simp [wipeE, encE, sq_true, d1, d2, d3, w1, w2, w3, w4, errS]
  have d0 := dStr_num (n := s) s0 (by omega)
  have jo := dJoin_ok (a := ", ") (l := its.map errS) (k := false) (by omega)
  rw [sq_false, List.map_map] at jo
  have ix0 : dIx (lotD true s its) (.int 0) = .ok (.int s) := rfl
  have w5 : (numS s).length + (": " : Str).length ≤ 100000 := by rw [l_colon]; omega
  have w6 : (numS s ++ ": ").length + (if its = [] then ("-" : Str) else Str.join ", " (its.map errS)).length ≤ 100000 := by rw [len_app, l_colon]; omega
  refine WF.eq ?_
  rw [LW.f_lot_text, wf_mkF rfl]
  cases its with
  | nil =>
    simp only [if_pos] at w6
    simp [startE, LW.m_lot_text, wn_seq, wn_eq lc, ix0, d0, w5, w6, lotS]
  | cons it its =>
    rw [if_neg (by simp)] at w6
    have e : (it :: its).map (fun it => D.str (errS it)) = (it :: its).map (D.str ∘ errS) := rfl
    rw [e] at lc
    generalize hg : (it :: its).map (D.str ∘ errS) = L at lc jo
    have lg : L.length = (it :: its).length := by rw [← hg, List.length_map]
    simp [startE, LW.m_lot_text, wn_seq, wn_eq lc, ix0, d0, w5, lg, jo, lotS]
    simpa using w6
def numsS (ns : List Int) : Str := Str.join " " (ns.map numS)
theorem nums_text_few {ns : List Int} (h : ∀ n ∈ ns, 0 ≤ n ∧ n < 100) (hl : ns.length ≤ 10) : LW.f_numbers_text [.tup (ns.map D.int)] = .ok (.str (numsS ns)) [] ∧ Asc (numsS ns) ∧ (numsS ns).length ≤ 30 := by
  have su : ((ns.map numS).map (·.length)).sum + (ns.map numS).length * (" " : Str).length ≤ 30 := by
    have h1 := sum_le (l := ns.map numS) (B := 2) fun s hs => by
      obtain ⟨n, hn, rfl⟩ := List.mem_map.mp hs
      exact numS_lenk (h n hn).1 (by decide) (by have := (h n hn).2; omega)
    rw [List.length_map] at h1 ⊢
    rw [l_gap]
    omega
  have lc : LW.c_numbers_text_1 [.val (.tup (ns.map D.int)), .no] = .ok (.lst (ns.map (D.str ∘ numS))) [.val (.tup (ns.map D.int)), .no] := by
    unfold LW.c_numbers_text_1
    refine lc_map (L := ns) (enc := D.int) (D.str ∘ numS) (Wn.eq (by simp)) rfl (by omega) fun n hn => ?_
    have d := dStr_num (n := n) (h n hn).1 (by have := (h n hn).2; omega)
    simp [wipeE, d]
  have jo := dJoin_ok (a := " ") (l := ns.map numS) (k := false) (by omega)
  rw [sq_false, List.map_map] at jo
  refine ⟨WF.eq ?_, Asc.join a_gap fun p hp => ?_, Nat.le_trans (StrLaws.join_length_le _ _) su⟩
  · rw [LW.f_numbers_text, wf_mkF rfl]
    simp [startE, LW.m_numbers_text, wn_eq lc, jo, numsS]
  · obtain ⟨n, hn, rfl⟩ := List.mem_map.mp hp
    exact numS_asc (h n hn).1
def rngS (p : Int × Int) : Str := numS p.1 ++ ".." ++ numS p.2
def rngsS (rs : List (Int × Int)) : Str := Str.join " " (rs.map rngS)
theorem rngs_text_few {rs : List (Int × Int)} (h : ∀ p ∈ rs, (0 ≤ p.1 ∧ p.1 < 100) ∧ (0 ≤ p.2 ∧ p.2 < 100)) (hl : rs.length ≤ 10) : LW.f_ranges_text [.tup (rs.map encR)] = .ok (.str (rngsS rs)) [] ∧ Asc (rngsS rs) ∧ (rngsS rs).length ≤ 70 := by
  have each : ∀ p ∈ rs, (rngS p).length ≤ 6 ∧ Asc (rngS p) := fun p hp => by
    obtain ⟨⟨h1, h2⟩, h3, h4⟩ := h p hp
    have k1 := numS_lenk (k := 2) h1 (by decide) (by omega)
    have k2 := numS_lenk (k := 2) h3 (by decide) (by omega)
    refine ⟨?_, ((numS_asc h1).app a_dots).app (numS_asc h3)⟩
    unfold rngS
    rw [len_app, len_app, l_dots]
    omega
  have su : ((rs.map rngS).map (·.length)).sum + (rs.map rngS).length * (" " : Str).length ≤ 70 := by
    have h1 := sum_le (l := rs.map rngS) (B := 6) fun s hs => by
      obtain ⟨n, hn, rfl⟩ := List.mem_map.mp hs
      exact (each n hn).1
    rw [List.length_map] at h1 ⊢
    rw [l_gap]
    omega
  have lc : LW.c_ranges_text_1 [.val (.tup (rs.map encR)), .no, .no] = .ok (.lst (rs.map (D.str ∘ rngS))) [.val (.tup (rs.map encR)), .no, .no] := by
    unfold LW.c_ranges_text_1
    refine lc_map (L := rs) (enc := encR) (D.str ∘ rngS) (Wn.eq (by simp)) rfl (by omega) fun p hp => ?_
    obtain ⟨⟨h1, h2⟩, h3, h4⟩ := h p hp
    have k1 := numS_lenk (k := 2) h1 (by decide) (by omega)
    have k2 := numS_lenk (k := 2) h3 (by decide) (by omega)
    have d1 := dStr_num (n := p.1) h1 (by omega)
    have d2 := dStr_num (n := p.2) h3 (by omega)
    have w1 : (numS p.1).length + (".." : Str).length ≤ 100000 := by rw [l_dots]; omega
    have w2 : (numS p.1 ++ "..").length + (numS p.2).length ≤ 100000 := by rw [len_app, l_dots]; omega
    simp [wipeE, encR, d1, d2, w1, w2, rngS]
  have jo := dJoin_ok (a := " ") (l := rs.map rngS) (k := false) (by omega)
  rw [sq_false, List.map_map] at jo
  refine ⟨WF.eq ?_, Asc.join a_gap fun p hp => ?_, Nat.le_trans (StrLaws.join_length_le _ _) su⟩
  · rw [LW.f_ranges_text, wf_mkF rfl]
    simp [startE, LW.m_ranges_text, wn_eq lc, jo, rngsS]
  · obtain ⟨n, hn, rfl⟩ := List.mem_map.mp hp
    exact (each n hn).2
/-! ### draws; a text bent -/
theorem atI_in {α : Type} {l : List α} {v : Int} (h0 : 0 ≤ v) (h1 : v < l.length) : ∃ c ∈ l, atI l v = some c := by
  obtain ⟨k, rfl⟩ := Int.eq_ofNat_of_zero_le h0
  have hk : k < l.length := by omega
  have e : ixN l.length (k : Int) = some k := by
    unfold ixN
    rw [if_pos (by omega), if_pos (by omega)]
    rfl
  refine ⟨l[k], List.getElem_mem hk, ?_⟩
  unfold atI
  rw [show ((Nat.cast k : Int)) = (k : Int) from rfl, e]
  exact List.getElem?_eq_getElem hk
theorem of_str {n : Nat} {xs : List D} {z : Str} {Q : D → List (List D) → Prop} {E : Str → List D → List (List D) → Prop} (hb : Bx (n + 1) xs) (h1 : 0 < z.length) (h2 : z.length ≤ 1000) (q : ∀ c ys, c ∈ z.cps.toList → Bx n ys → Q (.str ⟨#[c]⟩) [ys]) : WF (LW.f_law_of [.lst xs, .str z]) Q E := by
  rw [LW.f_law_of, wf_mkF rfl]
  have dl := dLenA_str (s := z) (by omega)
  simp only [startE, LW.m_law_of, wn_sRet, wn_e2, wn_var]
  simp only [List.length_cons, List.length_nil, List.replicate, List.append_nil, x_slS, x_sl0, ws_val]
  refine wn_take (n := n) (b := z.length) (Wn.eq (by simp [dl])) hb (by omega) (by omega) fun v ys v0 v1 hy => ?_
  obtain ⟨c, hc, e⟩ := atI_in (l := z.cps.toList) v0 (by rw [len_tl]; exact v1)
  have dx : dIxA (.str z) (.int v) = .ok (.str ⟨#[c]⟩) := by
    show (match atI z.cps.toList v with | some c => if decide (z.length ≤ 100000) then Rv.ok (D.str ⟨#[c]⟩) else .bad | none => .bad) = _
    rw [e]
    dsimp only
    rw [if_pos (decide_eq_true (by omega))]
  simp [dx]
  exact q c ys hc hy
theorem cut_head {w : Str} {i : Nat} : (cutS w none (some (i : Int))).cps.toList = w.cps.toList.take (min i w.length) := by
  unfold cutS
  have h1 : HT.sIx w.length 0 none = 0 := rfl
  have h2 : HT.sIx w.length w.length (some (i : Int)) = min i w.length := HT.sIx_nat ..
  rw [h1, h2]
  simp
theorem cut_tail {w : Str} {i : Nat} : (cutS w (some (i : Int)) none).cps.toList = w.cps.toList.drop (min i w.length) := by
  unfold cutS
  have h1 : HT.sIx w.length 0 (some (i : Int)) = min i w.length := HT.sIx_nat ..
  have h2 : HT.sIx w.length w.length none = w.length := rfl
  rw [h1, h2]
  show (w.cps.toList.drop _).take _ = _
  rw [List.take_of_length_le]
  rw [List.length_drop, len_tl]
  exact Nat.le_refl _
def poolS : Str := " 0123-,.:a\n"
theorem pool_c : poolS.cps.toList = [32, 48, 49, 50, 51, 45, 44, 46, 58, 97, 10] := by kernel_rfl
end AH
namespace AH
open PySem L2 PySem.NumText
variable [TheK]
theorem len_head {w : Str} {i : Nat} (h : i ≤ w.length) : (cutS w none (some (i : Int))).length = i := by
  rw [← len_tl, cut_head, List.length_take, len_tl]
  omega
theorem len_tail {w : Str} {i : Nat} : (cutS w (some (i : Int)) none).length = w.length - min i w.length := by
  rw [← len_tl, cut_tail, List.length_drop, len_tl]
theorem nil_len : ("" : Str).length = 0 := by kernel_rfl
theorem bent_ok {n : Nat} {xs : List D} {t : Str} {Q : D → List (List D) → Prop} {E : Str → List D → List (List D) → Prop} (hb : Bx (n + 3) xs) (ha : Asc t) (hl : t.length ≤ 1000) (q : ∀ t' ys, Asc t' → t'.length ≤ t.length + 1 → Bx n ys → Q (.str t') [ys]) : WF (LW.f_law_bent [.lst xs, .str t]) Q E := by
  have dl := dLenA_str (s := t) (by omega)
  rw [LW.f_law_bent, wf_mkF rfl]
  simp only [startE, LW.m_law_bent, wn_seq, wn_par_vv, List.length_cons, List.length_nil, List.cons_append, List.nil_append, List.replicate, Nat.reduceAdd, Nat.reduceSub]
  refine wn_take (n := n + 2) (b := (t.length : Int) + 1) (Wn.eq (by simp [dl])) hb (by omega) (by omega) fun v b1 v0 v1 hb1 => ?_
  refine wn_take (n := n + 1) (b := 3) (Wn.eq (by simp)) hb1 (by omega) (by omega) fun w b2 w0 w1 hb2 => ?_
  obtain ⟨i, rfl⟩ : ∃ i : Nat, v = i := ⟨v.toNat, by omega⟩
  have il : i ≤ t.length := by omega
  have fin : ∀ (sg : Str) (k : Nat) (b3 : List D), Asc sg → sg.length ≤ 1 → (k = 0 ∨ k = 1) → sg.length + (t.length - k) ≤ t.length + 1 → ((if w < 2 then (1 : Int) else 0) = (k : Int)) → Bx n b3 → Wn (sRet (e2 dAdd (e2 dAdd (eSlS (eVar 1) oNone (oSome (eVar 2))) (eVar 4)) (eSlS (eVar 1) (oSome (e2 dAdd (eVar 2) (e1 dInt (eB (c2 dLt (eVar 3) (eC (.int 2))))))) oNone))) [.bor b3, .val (.str t), .val (.int (i : Int)), .val (.int w), .val (.str sg)] (fun o e => WE [.bor, .val] o e Q) (fun c fs e => match lentOf [.bor, .val] e with
        | some bs => E c fs bs
        | none => False) := by
    intro sg k b3 sa sl hk hle ek h3
    have s1 := dSlS_ok (w := t) (l := none) (h := some (i : Int)) (by omega)
    have s2 := dSlS_ok (w := t) (l := some ((i : Int) + (k : Int))) (h := none) (by omega)
    have a1 := cut_asc (l := none) (h := some (i : Int)) ha
    have a2 := cut_asc (l := some ((i : Int) + (k : Int))) (h := none) ha
    have e2' : ((i : Int) + (k : Int)) = ((i + k : Nat) : Int) := by omega
    have l1 := len_head il
    have l2 := len_tail (w := t) (i := i + k)
    rw [← e2'] at l2
    generalize cutS t none (some (i : Int)) = x1 at *
    generalize cutS t (some ((i : Int) + (k : Int))) none = x2 at *
    have w1' : x1.length + sg.length ≤ 100000 := by omega
    have w2' : (x1 ++ sg).length + x2.length ≤ 100000 := by rw [len_app]; omega
    have tl : (x1 ++ sg ++ x2).length ≤ t.length + 1 := by
      rw [len_app, len_app]
      omega
    have r := q _ b3 ((a1.app sa).app a2) tl h3
    simp [s1, ek, s2, w1', w2']
    exact r
  simp only [x_slS, x_sl0, x_isFix1, true_and, x_putS, x_put0, wo_nx, wn_sAsgN, wn_eIf, wn_c2, wn_var, ws_val, wn_c, dGt_int, wr_ok]
  have pl : poolS.length = 11 := by rw [← len_tl, pool_c]; rfl
  by_cases c : 0 < w
  · rw [if_pos (by simpa using c)]
    refine lend2 (x := .str poolS) (xs' := b2) (e' := [.val (.str t), .val (.int (i : Int)), .val (.int w), .no]) rfl ?_
    refine of_str (n := n) hb2 (by omega) (by omega) fun ch b3 hc h3 => ⟨b3, rfl, ?_⟩
    have ac : Asc ⟨#[ch]⟩ := fun d hd => by
      have : d = ch := by simpa using hd
      subst this
      rw [pool_c] at hc
      have : ∀ x ∈ [32, 48, 49, 50, 51, 45, 44, 46, 58, 97, 10], x < 128 := by decide
      exact this d hc
    simp only [x_slS, x_sl0, x_isFix1, true_and, x_putS, x_put0, wo_nx]
    have cl : (⟨#[ch]⟩ : Str).length = 1 := rfl
    by_cases d : w < 2
    · exact fin _ 1 b3 ac (by omega) (.inr rfl) (by omega) (by rw [if_pos d]; rfl) h3
    · exact fin _ 0 b3 ac (by omega) (.inl rfl) (by omega) (by rw [if_neg d]; rfl) h3
  · rw [if_neg (by simpa using c)]
    exact fin "" 1 b2 asc_nil (by rw [nil_len]; omega) (.inr rfl) (by rw [nil_len]; omega) (by rw [if_pos (by omega)]; rfl) (hb2.le (by omega))
end AH
namespace AH
open PySem L2 PySem.NumText
variable [TheK]
/-- what stands behind a door is fine -/
theorem any_right {door : Int} {t : Str} (hd : 0 ≤ door ∧ door < 4) (ha : Asc t) (hl : t.length ≤ 400) : LW.f_law_text_right [.int door, .str t] = .ok (.bl true) [] := by
  have S := split_ok ha hmf
  have : door = 0 ∨ door = 1 ∨ door = 2 ∨ door = 3 := by omega
  rcases this with rfl | rfl | rfl | rfl
  · exact text_right_ok (.inl rfl) ha hl
  · exact text_right_ok (.inr (.inl rfl)) ha hl
  · exact text_right_ok (.inr (.inr rfl)) ha hl
  · exact text_right3_ok ha (by omega) fun l hl' => by have := S.len l hl'; omega
theorem laps_ok {n : Nat} {bx : List D} {x1 x2 x3 x4 x5 : Sl} {door : Int} {say : Str} {Q : Out → Env → Prop} {E : Str → List D → Env → Prop} (hd : 0 ≤ door ∧ door < 4) (hb : Bx (n + 9) bx) (ha : Asc say) (hl : say.length ≤ 390)
    (q : ∀ by_ t, Bx n by_ → Q .nx [.bor by_, x1, x2, x3, x4, x5, .val (.int door), .val (.str t), .no, .no]) : Wn LW.l_law_right_1 [.bor bx, x1, x2, x3, x4, x5, .val (.int door), .val (.str say), .no, .no] Q E := by
  unfold LW.l_law_right_1
  simp only [wn_sFor, wn_iRng1, wn_c, wi_int]
  refine ⟨by rw [rngOk_iff]; decide, ?_⟩
  refine wn_loop (fun r e => ∃ bx say, e = [.bor bx, x1, x2, x3, x4, x5, .val (.int door), .val (.str say), .no, .no] ∧ Bx (n + 3 * r.length) bx ∧ Asc say ∧ say.length + r.length ≤ 395) (fun y r e hI => ?_) (fun e hI => ?_) ⟨bx, say, rfl, hb.le (by rw [rng_len]; simp), ha, by rw [rng_len]; simp; omega⟩
  · obtain ⟨bx, say, rfl, h1, h2, h3⟩ := hI
    rw [List.length_cons] at h1 h3
    have tr := any_right (t := say) hd h2 (by omega)
    have is : isi .str (.str say) = true := isi_ss
    simp only [wn_gN, x_slS, x_sl0, x_isOwn1, true_and, x_putS, x_put0]
    unfold LW.b_law_right_1
    rw [wn_sFg, wn_seq]
    simp [tr]
    refine lend2 (x := .str say) (xs' := bx) (e' := [x1, x2, x3, x4, x5, .val (.int door), .val (.str say), .val y, .no]) (Wn.eq (by simp)) ?_
    refine bent_ok (n := n + 3 * r.length) (h1.le (by omega)) h2 (by omega) fun t' ys a' l' hy => ⟨ys, rfl, ?_⟩
    simp [fgO, fgt, fgt1]
    exact ⟨ys, t', ⟨rfl, rfl⟩, hy, a', by omega⟩
  · obtain ⟨bx, say, rfl, h1, h2, h3⟩ := hI
    exact q bx say (h1.le (by simp))
def saysD (a b c d : Str) : D := .lst [.str a, .str b, .str c, .str d]
theorem doors_ok {n : Nat} {bx : List D} {x1 x2 x3 x4 : Sl} {a b c d : Str} {Q : Out → Env → Prop} {E : Str → List D → Env → Prop} (hb : Bx (n + 36) bx) (h : ∀ t ∈ [a, b, c, d], Asc t ∧ t.length ≤ 390)
    (q : ∀ by_, Bx n by_ → Q .nx [.bor by_, x1, x2, x3, x4, .val (saysD a b c d), .no, .no, .no, .no]) : Wn LW.l_law_right_2 [.bor bx, x1, x2, x3, x4, .val (saysD a b c d), .no, .no, .no, .no] Q E := by
  unfold LW.l_law_right_2
  simp only [wn_sFor, wn_iRng1, wn_c, wi_int]
  refine ⟨by rw [rngOk_iff]; decide, ?_⟩
  refine wn_loop (fun r e => ∃ bx, e = [.bor bx, x1, x2, x3, x4, .val (saysD a b c d), .no, .no, .no, .no] ∧ Bx (n + 9 * r.length) bx ∧ ∀ y ∈ r, ∃ i : Int, 0 ≤ i ∧ i < 4 ∧ y = .int i) (fun y r e hI => ?_) (fun e hI => ?_) ⟨bx, rfl, hb.le (by rw [rng_len]; simp), fun y hy => by obtain ⟨i, h0, h1, rfl⟩ := rng_mem hy; exact ⟨i, h0, h1, rfl⟩⟩
  · obtain ⟨bx, rfl, h1, h2⟩ := hI
    obtain ⟨i, i0, i1, rfl⟩ := h2 y List.mem_cons_self
    rw [List.length_cons] at h1
    obtain ⟨t, ht, ix⟩ : ∃ t ∈ [a, b, c, d], dIx (saysD a b c d) (.int i) = .ok (.str t) := by
      have : i = 0 ∨ i = 1 ∨ i = 2 ∨ i = 3 := by omega
      rcases this with rfl | rfl | rfl | rfl
      · exact ⟨a, by simp, rfl⟩
      · exact ⟨b, by simp, rfl⟩
      · exact ⟨c, by simp, rfl⟩
      · exact ⟨d, by simp, rfl⟩
    obtain ⟨ta, tl⟩ := h t ht
    simp only [wn_gN, x_slS, x_sl0, x_isOwn1, true_and, x_putS, x_put0]
    unfold LW.b_law_right_2
    rw [wn_sFg, wn_seq]
    simp only [wn_sAsgN, wn_e2, wn_var, x_slS, x_sl0, ws_val, ix, wr_ok, x_isFix1, true_and, x_putS, x_put0, wo_nx]
    refine laps_ok (n := n + 9 * r.length) ⟨i0, i1⟩ (h1.le (by omega)) ta tl fun by_ t' hy => ?_
    simp [fgO, fgt, fgt1]
    exact ⟨hy, fun z hz => h2 z (List.mem_cons_of_mem _ hz)⟩
  · obtain ⟨bx, rfl, h1, h2⟩ := hI
    exact q bx (h1.le (by simp))
theorem lc_it {vs : List Nat} {it : DI} {g : DG} {t : DT} {a : DE} {e e1 : Env} {xs : List D} (h : it e = .ok xs e1) : eLc vs it g t a e = eLc vs (fun e => .ok xs e) g t a e1 := by
  unfold eLc
  rw [bind_ok h, bind_ok (m := fun e => R.ok xs e) (e := e1) (e1 := e1) (a := xs) rfl]
def tagsL : List Str := ["a", "bb", "c"]
theorem tags_ok : ∀ w ∈ tagsL, Asc w ∧ w.length ≤ 2 := by
  intro w hw
  unfold tagsL at hw
  simp only [List.mem_cons, List.not_mem_nil, or_false] at hw
  rcases hw with rfl | rfl | rfl
  · exact ⟨asc_of (show ("a" : Str).cps.toList = [97] by kernel_rfl) (by decide), by rw [← len_tl, show ("a" : Str).cps.toList = [97] by kernel_rfl]; decide⟩
  · exact ⟨asc_of (show ("bb" : Str).cps.toList = [98, 98] by kernel_rfl) (by decide), by rw [← len_tl, show ("bb" : Str).cps.toList = [98, 98] by kernel_rfl]; decide⟩
  · exact ⟨asc_of (show ("c" : Str).cps.toList = [99] by kernel_rfl) (by decide), by rw [← len_tl, show ("c" : Str).cps.toList = [99] by kernel_rfl]; decide⟩
theorem turn55 {n : Nat} {bx : List D} {x : Int} (hb : Bx (n + 300) bx) :
    Wn LW.b_law_right_3 [.bor bx, .val (.int x), .no, .no, .no, .no, .no, .no, .no, .no] (fun o e => o = .nx ∧ ∃ by_, e = [.bor by_, .no, .no, .no, .no, .no, .no, .no, .no, .no] ∧ Bx n by_) NoE := by
  unfold LW.b_law_right_3
  rw [wn_sFg, wn_seq]
  simp only [wn_sAsgN, wn_e2, wn_c]
  refine wn_take (n := n + 299) (b := 5) rfl hb (by omega) (by omega) fun v b1 v0 v1 hb1 => ?_
  simp only [dAdd_int, wr_ok, x_slS, x_sl0, x_isFix1, true_and, x_putS, x_put0, wo_nx]
  obtain ⟨sn, hs⟩ : ∃ s : Nat, 1 + v = s := ⟨(1 + v).toNat, by omega⟩
  rw [hs]
  have s1 : 1 ≤ sn := by omega
  have s5 : sn ≤ 5 := by omega
  rw [wn_seq]
  simp only [wn_sAsg, wn_eTup, wn_aCons]
  refine lend3 (x := .int sn) (y := .int 12) (by simp) (by simp) ?_
  refine lot_ok (n := n + 200) (s := sn) (t := 12) (by omega) (by omega) (by omega) (by decide +kernel) (hb1.le (by omega)) fun its b2 hL hb2 => ⟨b2, rfl, ?_⟩
  refine lend3 (x := .int sn) (y := .int 20) (by simp) (by simp) ?_
  refine hands_ok (n := n + 100) (s := sn) (by omega) (by decide) (by decide +kernel) (hb2.le (by omega)) fun d b3 hr hb3 => ⟨b3, rfl, ?_⟩
  obtain ⟨ns, rfl, hC, hn⟩ := hr.cal
  rw [sq_true]
  -- what is written
  have il : its.length ≤ 15 := Nat.le_trans hL.len (by
    have : sn = 1 ∨ sn = 2 ∨ sn = 3 ∨ sn = 4 ∨ sn = 5 := by omega
    rcases this with rfl | rfl | rfl | rfl | rfl <;> decide +kernel)
  have few : ∀ it ∈ its, FewE it := fun it hi => by
    have m := hL.mem hi
    have p := hL.pos it hi
    exact ⟨by omega, by omega, by omega, by omega, by omega, by omega⟩
  obtain ⟨t1, a1, l1⟩ := lot_text_few (s := sn) (by omega) (by omega) few il
  have hnn : ∀ m ∈ ns, 0 ≤ m ∧ m ≤ 20 := fun m hm => ⟨hC.nn m hm, hn m hm⟩
  have nl : ns.length ≤ 5 := by have := hC.len; omega
  obtain ⟨t2, a2, l2⟩ := nums_text_few (ns := ns) (fun m hm => by have := hnn m hm; omega) (by omega)
  obtain ⟨t3, a3, l3⟩ := rngs_text_few (rs := ns.map fun m => (m, m + 3)) (fun p hp => by
    obtain ⟨m, hm, rfl⟩ := List.mem_map.mp hp
    have := hnn m hm
    simp only
    omega) (by rw [List.length_map]; omega)
  rw [List.map_map] at t3
  have lc1 : LW.c_law_right_1 [.bor b3, .val (.int x), .val (.int sn), .val (lotD true sn its), .val (.tup (ns.map D.int)), .no, .no, .no, .no, .no] = .ok (.lst (ns.map (encR ∘ fun m => (m, m + 3)))) [.bor b3, .val (.int x), .val (.int sn), .val (lotD true sn its), .val (.tup (ns.map D.int)), .no, .no, .no, .no, .no] := by
    unfold LW.c_law_right_1
    refine lc_map (L := ns) (enc := D.int) (encR ∘ fun m => (m, m + 3)) (Wn.eq (by simp)) rfl (by omega) fun m hm => ?_
    simp [wipeE, encR]
  simp
  rw [wn_seq]
  simp [t1, t2, wn_eq lc1, t3]
  obtain ⟨A, hA⟩ : ∃ A, lotS (sn : Int) its = A := ⟨_, rfl⟩
  rw [hA] at t1 a1 l1 ⊢
  generalize numsS ns = B at t2 a2 l2 ⊢
  generalize rngsS (ns.map fun m => (m, m + 3)) = C at t3 a3 l3 ⊢
  obtain ⟨v2, b4, e4, u0, u1, hb4⟩ := take_ok (n := n + 99) (b := 3) hb3 (by decide) (log_lt (by decide) (by decide))
  obtain ⟨k, hk⟩ : ∃ k : Nat, 1 + v2 = k := ⟨(1 + v2).toNat, by omega⟩
  have k3 : k ≤ 3 := by omega
  have cu : cut [.str "a", .str "bb", .str "c"] none (some (k : Int)) = (tagsL.take k).map D.str := by
    have := cut_to (xs := tagsL.map D.str) (i := k) (by rw [List.length_map]; exact k3)
    rw [← List.map_take] at this
    exact this
  have hi : ∀ r : Env, (iSeq (eSl (eTup (aCons (eC (.str "a")) (aCons (eC (.str "bb")) (aCons (eC (.str "c")) aNil)))) oNone (oSome (e2 dAdd (eC (.int 1)) (eCall f_law_take [.lend 0, .e (eC (.int 3))]))))) (.bor b3 :: r) = .ok ((tagsL.take k).map D.str) (.bor b4 :: r) := fun r => by
    refine Wn.eq ?_
    simp only [wn_iSeq, wn_eSl, wn_eTup, wn_aCons, wn_c, wn_aNil, wn_oNone, wn_oSome, wn_e2]
    refine ⟨by decide, ?_⟩
    refine lend2 (x := .int 3) (xs' := b3) (e' := r) rfl ?_
    rw [e4, wf_ok]
    refine ⟨b4, rfl, ?_⟩
    simp [hk, cu]
  have lc2 : LW.c_law_right_2 [.bor b3, .val (.int x), .val (.int sn), .val (lotD true sn its), .val (.tup (ns.map D.int)), .own [.str A, .str B, .str C], .no, .no, .no, .no] = .ok (.lst ((tagsL.take k).map (D.str ∘ fun w => w ++ " " ++ A))) [.bor b4, .val (.int x), .val (.int sn), .val (lotD true sn its), .val (.tup (ns.map D.int)), .own [.str A, .str B, .str C], .no, .no, .no, .no] := by
    unfold LW.c_law_right_2
    rw [lc_it (hi _)]
    refine lc_map (L := tagsL.take k) (enc := D.str) (D.str ∘ fun w => w ++ " " ++ A) rfl rfl (by rw [List.length_take]; omega) fun w hw => ?_
    have := tags_ok w (List.mem_of_mem_take hw)
    have w1 : w.length + (" " : Str).length ≤ 100000 := by rw [l_gap]; omega
    have w2 : (w ++ " ").length + A.length ≤ 100000 := by rw [len_app, l_gap]; omega
    simp [wipeE, w1, w2, t1]
  have each : ∀ s ∈ (tagsL.take k).map (fun w => w ++ " " ++ A), s.length ≤ 126 ∧ Asc s := fun s hs => by
    obtain ⟨w, hw, rfl⟩ := List.mem_map.mp hs
    have := tags_ok w (List.mem_of_mem_take hw)
    refine ⟨?_, (this.1.app a_gap).app a1⟩
    rw [len_app, len_app, l_gap]
    omega
  have ll : ((tagsL.take k).map fun w => w ++ " " ++ A).length ≤ 3 := by
    rw [List.length_map, List.length_take]
    omega
  have su := sum_le (l := (tagsL.take k).map fun w => w ++ " " ++ A) (B := 126) fun s hs => (each s hs).1
  have jo := dJoin_ok (a := "\n") (l := (tagsL.take k).map fun w => w ++ " " ++ A) (k := false) (by rw [l_feed]; omega)
  rw [sq_false, List.map_map] at jo
  have aj : Asc (Str.join "\n" ((tagsL.take k).map fun w => w ++ " " ++ A)) := Asc.join a_feed fun p hp => (each p hp).2
  have lj : (Str.join "\n" ((tagsL.take k).map fun w => w ++ " " ++ A)).length ≤ 390 := by
    have := StrLaws.join_length_le ("\n" : Str) ((tagsL.take k).map fun w => w ++ " " ++ A)
    rw [l_feed] at this
    omega
  generalize Str.join "\n" ((tagsL.take k).map fun w => w ++ " " ++ A) = S at jo aj lj
  generalize (tagsL.take k).map (D.str ∘ fun w => w ++ " " ++ A) = LL at lc2 jo
  rw [wn_seq, wn_sApp]
  simp only [x_slS, x_sl0, wn_eS1, wn_c, wst_str]
  simp [wn_eq lc2, jo]
  rw [wn_seq]
  simp
  refine doors_ok (n := n + 63) (a := A) (b := B) (c := C) (d := S) (hb4.le (by omega)) (fun t ht => ?_) fun by_ hy => ?_
  · simp only [List.mem_cons, List.not_mem_nil, or_false] at ht
    rcases ht with rfl | rfl | rfl | rfl
    · exact ⟨a1, by omega⟩
    · exact ⟨a2, by omega⟩
    · exact ⟨a3, by omega⟩
    · exact ⟨aj, lj⟩
  · simp [fgO, fgt, fgt1]
    exact hy.le (by omega)
theorem right55 : Right LW.f_law_right := right_turns (n := 8) (c := 300) (m := 8) (by decide) (by decide) rfl fun k x bx _ _ hb => turn55 hb
end AH
namespace LW
open PySem PySem.Spec PyProof.Rows L2 AH
variable [TheK]
def hA : List DS := [
  (sOwn 0 (eLst (aCons (eLst (aCons (eC (.str "")) (aCons (eC (.str "4")) (aCons (eC (.str "4: ")) (aCons (eC (.str "4:-")) (aCons (eC (.str "0: -")) (aCons (eC (.str "4: 1-1 1, 0-2 3")) (aCons (eC (.str "4: 0-2 3,1-1 1")) (aCons (eC (.str "4: 0-4 1")) (aCons (eC (.str "4: 2-0 1")) (aCons (eC (.str "4: 0-2 0")) aNil))))))))))) aNil))),
  (sSetL 0 (eC (.int 0)) (e2 dAdd (e2L dIx 0 (eC (.int 0))) (eLst (aCons (eC (.str "4: 0-2")) (aCons (eC (.str "4: 0-2 1 ")) (aCons (eC (.str "04: -")) (aCons (eC (.str "4: 0-2 01")) (aCons (eC (.str "4: 0-2 1, 0-2 1")) (aCons (eC (.str "4: -: -")) (aCons (eC (.str "-4: -")) (aCons (eC (.str "4: 0 2 1")) aNil))))))))))),
  (sSetL 0 (eC (.int 0)) (e2 dAdd (e2L dIx 0 (eC (.int 0))) (eLst (aCons (eC (.str "4: 0--2 1")) (aCons (eC (.str "4: 0/2 1")) (aCons (eC (.str "4: -, 0-1 1")) (aCons (eC (.str "four: -")) (aCons (eC (.str "4: - ")) (aCons (eC (.str " 4: -")) (aCons (eC (.str "4: 0-2 -1")) (aCons (eC (.str "4: 0-2 1\n")) aNil))))))))))),
  (sApp 0 (eLst (aCons (eC (.str "")) (aCons (eC (.str " ")) (aCons (eC (.str "1  2")) (aCons (eC (.str "1 ")) (aCons (eC (.str " 1")) (aCons (eC (.str "01")) (aCons (eC (.str "-1")) (aCons (eC (.str "+1")) (aCons (eC (.str "1,2")) (aCons (eC (.str "a")) (aCons (eC (.str "1\n")) (aCons (eC (.str "00")) (aCons (eC (.str "1.0")) (aCons (eC (.str "3 -1")) (aCons (eC (.str "-")) aNil))))))))))))))))),
  (sApp 0 (eLst (aCons (eC (.str "")) (aCons (eC (.str "2..1")) (aCons (eC (.str "1")) (aCons (eC (.str "1..")) (aCons (eC (.str "..1")) (aCons (eC (.str "1...2")) (aCons (eC (.str "1..2 ")) (aCons (eC (.str "1..2  3..4")) (aCons (eC (.str "01..2")) (aCons (eC (.str "1..-2")) (aCons (eC (.str "1-2")) aNil))))))))))))),
  (sSetL 0 (eC (.int 2)) (e2 dAdd (e2L dIx 0 (eC (.int 2))) (eLst (aCons (eC (.str "1..2,3..4")) (aCons (eC (.str "-")) aNil))))),
  (sRelL 0)]
def hB : List DS := [
  (sAsgN 2 (eLst (aCons (eTup (aCons (eC (.str "")) (aCons (eC (.int 0)) aNil))) (aCons (eTup (aCons (eC (.str "a 2: -\na 2: -")) (aCons (eC (.int 1)) aNil))) (aCons (eTup (aCons (eC (.str "b 2: -\na 2: -")) (aCons (eC (.int 1)) aNil))) (aCons (eTup (aCons (eC (.str "a 2: -\n")) (aCons (eC (.int 1)) aNil))) (aCons (eTup (aCons (eC (.str "a2: -")) (aCons (eC (.int 0)) aNil))) (aCons (eTup (aCons (eC (.str "A 2: -")) (aCons (eC (.int 0)) aNil))) aNil)))))))),
  (sAsgN 2 (e2 dAdd (eVar 2) (eLst (aCons (eTup (aCons (eC (.str "abcdefghi 2: -")) (aCons (eC (.int 0)) aNil))) (aCons (eTup (aCons (eC (.str " 2: -")) (aCons (eC (.int 0)) aNil))) (aCons (eTup (aCons (eC (.str "a 2: -\n\nb 2: -")) (aCons (eC (.int 1)) aNil))) (aCons (eTup (aCons (eC (.str "a 0: -")) (aCons (eC (.int 0)) aNil))) (aCons (eTup (aCons (eC (.str "a  2: -")) (aCons (eC (.int 0)) aNil))) aNil)))))))),
  (sAsgN 2 (e2 dAdd (eVar 2) (eLst (aCons (eTup (aCons (eC (.str "a 2: -\nab 2: 0-1 0")) (aCons (eC (.int 1)) aNil))) aNil))))]
def hC : List DS := [
  (sAsgN 4 (eLst aNil)),
  l_law_by_hand_right_2,
  (sAsgN 6 (eS1 dJoin (eC (.str "\n")) c_law_by_hand_right_7))]
def h11 : DS := (sAsgN 3 c_law_by_hand_right_3)
def h12 : DS := (sIf (tOr (tNot (tV (eCall (f_law_same 30) [.e (eVar 3), .e c_law_by_hand_right_4]))) (tNot (tV (e1 dAll c_law_by_hand_right_5)))) (sRet (eC (.bl false))) sNil)
def hR : DS := (sRet (eAnd (eCall f_law_text_right [.e (eC (.int 3)), .e (eVar 6)]) (eCall (f_law_same 30) [.e (eCall f_law_heard [.e (eC (.int 3)), .e (e2 dAdd (eVar 6) (eC (.str " ")))]), .e (eC (.int 59))])))
theorem hm55 : m_law_by_hand_right = seqs hA (sSeq l_law_by_hand_right_1 (seqs hB (sSeq h11 (sSeq h12 (seqs hC hR))))) := rfl
def bad0 : List Str := ["", "4", "4: ", "4:-", "0: -", "4: 1-1 1, 0-2 3", "4: 0-2 3,1-1 1", "4: 0-4 1", "4: 2-0 1", "4: 0-2 0", "4: 0-2", "4: 0-2 1 ", "04: -", "4: 0-2 01", "4: 0-2 1, 0-2 1", "4: -: -", "-4: -", "4: 0 2 1", "4: 0--2 1", "4: 0/2 1", "4: -, 0-1 1", "four: -", "4: - ", " 4: -", "4: 0-2 -1", "4: 0-2 1\n"]
def bad1 : List Str := ["", " ", "1  2", "1 ", " 1", "01", "-1", "+1", "1,2", "a", "1\n", "00", "1.0", "3 -1", "-"]
def bad2 : List Str := ["", "2..1", "1", "1..", "..1", "1...2", "1..2 ", "1..2  3..4", "01..2", "1..-2", "1-2", "1..2,3..4", "-"]
def linesH : List (Str × Int) := [("", 0), ("a 2: -\na 2: -", 1), ("b 2: -\na 2: -", 1), ("a 2: -\n", 1), ("a2: -", 0), ("A 2: -", 0), ("abcdefghi 2: -", 0), (" 2: -", 0), ("a 2: -\n\nb 2: -", 1), ("a 0: -", 0), ("a  2: -", 0), ("a 2: -\nab 2: 0-1 0", 1)]
def tagsH : List Str := (["aa", "ab", "ac", "ad", "ae", "af", "ag", "ah", "ai", "aj"] : List Str) ++ ((["ba", "bb", "bc", "bd", "be", "bf", "bg", "bh", "bi", "bj"] : List Str) ++ ((["ca", "cb", "cc", "cd", "ce", "cf", "cg", "ch", "ci", "cj"] : List Str) ++ ((["da", "db", "dc", "dd", "de", "df", "dg", "dh", "di", "dj"] : List Str) ++ ((["ea", "eb", "ec", "ed", "ee", "ef", "eg", "eh", "ei", "ej"] : List Str) ++ ((["fa", "fb", "fc", "fd", "fe", "ff", "fg", "fh", "fi", "fj"] : List Str))))))
def badsH : D := .lst [.lst (bad0.map D.str), .lst (bad1.map D.str), .lst (bad2.map D.str)]
theorem rowA : seqs hA sNil (List.replicate 9 .no) = .ok .nx [.val badsH, .no, .no, .no, .no, .no, .no, .no, .no] := by kernel_rfl
def linesD : D := .lst (linesH.map fun p => .tup [.str p.1, .int p.2])
theorem rowB : seqs hB sNil [.val badsH, .no, .no, .no, .no, .no, .no, .no, .no] = .ok .nx [.val badsH, .no, .val linesD, .no, .no, .no, .no, .no, .no] := by kernel_rfl
def sheetL : List Str := tagsH.map fun w => w ++ " 2: 0-1 3"
def tagsD : D := .lst (tagsH.map D.str)
def ten : List Nat := [97, 98, 99, 100, 101, 102, 103, 104, 105, 106]
def six : List Nat := [97, 98, 99, 100, 101, 102]
theorem c_ten : ("abcdefghij" : Str).cps.toList = ten := by kernel_rfl
theorem c_six : ("abcdef" : Str).cps.toList = six := by kernel_rfl
def addT (acc : List Str) (c : Nat) : List Str := acc ++ ten.map fun d => (⟨#[c]⟩ : Str) ++ ⟨#[d]⟩
theorem tags_eq : six.foldl addT [] = tagsH := by decide +kernel
theorem six_c (c : Nat) : (⟨#[c]⟩ : Str).length = 1 := rfl
theorem len_tag : ∀ w ∈ tagsH, w.length = 2 := by
  have : (tagsH.all fun w => decide (w.length = 2)) = true := by kernel_rfl
  intro w hw
  exact of_decide_eq_true (List.all_eq_true.mp this w hw)
theorem l_end : (" 2: 0-1 3" : Str).length = 9 := by kernel_rfl
theorem len_sheet : tagsH.length = 60 := by kernel_rfl
theorem rowC (x0 x2 x3 : D) : seqs hC sNil [.val x0, .no, .val x2, .val x3, .no, .no, .no, .no, .no] = .ok .nx [.val x0, .no, .val x2, .val x3, .val tagsD, .no, .val (.str (Str.join "\n" sheetL)), .no, .no] := by
  have lp := loop_foldQ (g := gN 5) (b := b_law_by_hand_right_2) (enc := fun c => D.str ⟨#[c]⟩) (st := fun acc : List Str => [.val x0, .no, .val x2, .val x3, .val (.lst (acc.map D.str)), .no, .no, .no, .no]) addT (fun acc R => acc.length + 10 * R.length ≤ 100) six [] (by decide) fun acc c R hP => by
    rw [List.length_cons] at hP
    refine ⟨by unfold addT; rw [List.length_append, List.length_map]; show acc.length + 10 + _ ≤ 100; omega, ?_⟩
    have lc : c_law_by_hand_right_6 [.val x0, .no, .val x2, .val x3, .val (.lst (acc.map D.str)), .val (.str ⟨#[c]⟩), .no, .no, .no] = .ok (.lst (ten.map fun d => .str ((⟨#[c]⟩ : Str) ++ ⟨#[d]⟩))) [.val x0, .no, .val x2, .val x3, .val (.lst (acc.map D.str)), .val (.str ⟨#[c]⟩), .no, .no, .no] := by
      unfold c_law_by_hand_right_6
      refine lc_map (vs := [8]) (e := [.val x0, .no, .val x2, .val x3, .val (.lst (acc.map D.str)), .val (.str ⟨#[c]⟩), .no, .no, .no]) (L := ten) (enc := fun d => D.str ⟨#[d]⟩) (fun d => .str ((⟨#[c]⟩ : Str) ++ ⟨#[d]⟩)) ?_ rfl (by decide) fun d hd => ?_
      · exact Wn.eq (by simp [c_ten])
      have : (⟨#[c]⟩ : Str).length + (⟨#[d]⟩ : Str).length ≤ 100000 := by rw [six_c, six_c]; decide
      simp [wipeE, this]
    have bd : acc.length + 10 ≤ 100000 := by omega
    have e : (addT acc c).map D.str = acc.map D.str ++ ten.map fun d => D.str ((⟨#[c]⟩ : Str) ++ ⟨#[d]⟩) := by
      unfold addT
      rw [List.map_append, List.map_map]
      rfl
    rw [e]
    have tl : (ten.map fun d => D.str ((⟨#[c]⟩ : Str) ++ ⟨#[d]⟩)).length = 10 := rfl
    generalize (ten.map fun d => D.str ((⟨#[c]⟩ : Str) ++ ⟨#[d]⟩)) = T at lc tl ⊢
    simp [b_law_by_hand_right_2, wn_sFg, wn_eq lc, tl, bd]
  rw [tags_eq] at lp
  simp only [List.map_nil] at lp
  have lc7 : c_law_by_hand_right_7 [.val x0, .no, .val x2, .val x3, .val tagsD, .no, .no, .no, .no] = .ok (.lst (tagsH.map (D.str ∘ fun w => w ++ " 2: 0-1 3"))) [.val x0, .no, .val x2, .val x3, .val tagsD, .no, .no, .no, .no] := by
    unfold c_law_by_hand_right_7 tagsD
    refine lc_map (L := tagsH) (enc := D.str) (D.str ∘ fun w => w ++ " 2: 0-1 3") (Wn.eq (by simp)) rfl (by rw [len_sheet]; decide) fun w hw => ?_
    have : w.length + (" 2: 0-1 3" : Str).length ≤ 100000 := by rw [len_tag w hw, l_end]; decide
    simp [wipeE, this]
  have jo := dJoin_ok (a := "\n") (l := sheetL) (k := false) (by
    have := sum_le (l := sheetL) (B := 11) fun s hs => by
      obtain ⟨w, hw, rfl⟩ := List.mem_map.mp hs
      rw [len_app, len_tag w hw, l_end]
      decide
    have l60 : sheetL.length = 60 := by unfold sheetL; rw [List.length_map, len_sheet]
    rw [l60] at this ⊢
    rw [l_feed]
    omega)
  have jo : dJoin "\n" (.lst (tagsH.map (D.str ∘ fun w => w ++ " 2: 0-1 3"))) = .ok (.str (Str.join "\n" sheetL)) := by
    rw [sq_false] at jo
    unfold sheetL at jo ⊢
    rw [List.map_map] at jo
    exact jo
  generalize tagsH.map (D.str ∘ fun w => w ++ " 2: 0-1 3") = LL at lc7 jo
  generalize Str.join "\n" sheetL = S at jo ⊢
  refine Wn.eq ?_
  show Wn (sSeq (sAsgN 4 (eLst aNil)) (sSeq l_law_by_hand_right_2 (sSeq (sAsgN 6 (eS1 dJoin (eC (.str "\n")) c_law_by_hand_right_7)) sNil))) _ _ _
  rw [wn_seq]
  simp
  rw [wn_seq]
  simp [l_law_by_hand_right_2, c_six]
  have lp : loop (gN 5) b_law_by_hand_right_2 (six.map fun c => D.str ⟨#[c]⟩) [.val x0, .no, .val x2, .val x3, .val (.lst []), .no, .no, .no, .no] = .ok .nx [.val x0, .no, .val x2, .val x3, .val tagsD, .no, .no, .no, .no] := lp
  rw [wn_eq lp]
  simp only [wo_nx]
  rw [wn_seq]
  simp [wn_eq lc7, jo]
/-! ### what is no text -/
def ascB (w : Str) : Bool := w.cps.toList.all fun c => decide (c < 128)
theorem ascB_ok {w : Str} (h : ascB w = true) : Asc w := fun c hc => by
  have := List.all_eq_true.mp h c hc
  simpa using this
def chk0 (w : Str) : Bool := (lotO w).isNone && (ascB w && decide (w.length ≤ 400))
def chk1 (w : Str) : Bool := (numsO w).isNone && (ascB w && decide (w.length ≤ 400))
def chk2 (w : Str) : Bool := (rngsO w).isNone && (ascB w && decide (w.length ≤ 400))
theorem all0 : bad0.all chk0 = true := by kernel_rfl
theorem all1 : bad1.all chk1 = true := by kernel_rfl
theorem all2 : bad2.all chk2 = true := by kernel_rfl
theorem dn_text : dNe (.str "text") (.str "text") = .ok false := by kernel_rfl
theorem dn_nil : dNe (.lst []) (.lst []) = .ok false := by kernel_rfl
structure BadT (door : Int) (w : Str) : Prop where
  h : f_law_heard [.int door, .str w] = .ok (.str "text") []
  r : f_law_text_right [.int door, .str w] = .ok (.bl true) []
theorem none_of {α : Type} {o : Option α} {b : Bool} (h : (o.isNone && b) = true) : o = none ∧ b = true := by
  cases o with
  | none => exact ⟨rfl, h⟩
  | some x => cases h
theorem bad0_ok : ∀ w ∈ bad0, BadT 0 w := fun w hw => by
  obtain ⟨n, r⟩ := none_of (List.all_eq_true.mp all0 w hw)
  obtain ⟨a, l⟩ := Bool.and_eq_true_iff.mp r
  have ha := ascB_ok a
  have hl : w.length ≤ 400 := of_decide_eq_true l
  have he := heard_ok (door := 0) (t := w) (o := lotO w) (en := encLt) (.inl rfl) (fun _ => read_lot_eq ha hl) (fun z => by cases z) (fun z => by cases z)
  rw [n] at he
  exact ⟨he, any_right ⟨by decide, by decide⟩ ha hl⟩
theorem bad1_ok : ∀ w ∈ bad1, BadT 1 w := fun w hw => by
  obtain ⟨n, r⟩ := none_of (List.all_eq_true.mp all1 w hw)
  obtain ⟨a, l⟩ := Bool.and_eq_true_iff.mp r
  have ha := ascB_ok a
  have hl : w.length ≤ 400 := of_decide_eq_true l
  have he := heard_ok (door := 1) (t := w) (o := numsO w) (en := encNs) (.inr (.inl rfl)) (fun z => by cases z) (fun _ => read_numbers_eq ha hl) (fun z => by cases z)
  rw [n] at he
  exact ⟨he, any_right ⟨by decide, by decide⟩ ha hl⟩
theorem bad2_ok : ∀ w ∈ bad2, BadT 2 w := fun w hw => by
  obtain ⟨n, r⟩ := none_of (List.all_eq_true.mp all2 w hw)
  obtain ⟨a, l⟩ := Bool.and_eq_true_iff.mp r
  have ha := ascB_ok a
  have hl : w.length ≤ 400 := of_decide_eq_true l
  have he := heard_ok (door := 2) (t := w) (o := rngsO w) (en := encRs) (.inr (.inr rfl)) (fun z => by cases z) (fun z => by cases z) (fun _ => read_ranges_eq ha hl)
  rw [n] at he
  exact ⟨he, any_right ⟨by decide, by decide⟩ ha hl⟩
theorem door_ok {door : Int} {L : List Str} {x0 : D} (hx : dIx x0 (.int door) = .ok (.lst (L.map D.str))) (hL : ∀ w ∈ L, BadT door w) (hl : L.length ≤ 1000) :
    Wn b_law_by_hand_right_1 [.val x0, .val (.int door), .no, .no, .no, .no, .no, .no, .no] (fun o e => o = .nx ∧ e = [.val x0, .no, .no, .no, .no, .no, .no, .no, .no]) NoE := by
  have lc1 : c_law_by_hand_right_1 [.val x0, .val (.int door), .no, .no, .no, .no, .no, .no, .no] = .ok (.lst []) [.val x0, .val (.int door), .no, .no, .no, .no, .no, .no, .no] := by
    have := lc_filter (vs := [7]) (it := iSeq (e2 dIx (eVar 0) (eVar 1))) (g := gN 7) (t := c2 dNe (eCall f_law_heard [.e (eVar 1), .e (eVar 7)]) (eC (.str "text"))) (a := eVar 7) (e := [.val x0, .val (.int door), .no, .no, .no, .no, .no, .no, .no]) (L := L) (enc := D.str) (fun _ => false) D.str (Wn.eq (by simp [hx])) rfl (by omega) fun w hw => by
      have := (hL w hw).h
      simp [wipeE, this, dn_text]
    rw [List.filter_eq_nil_iff.mpr fun _ _ z => by cases z] at this
    exact this
  have lc2 : c_law_by_hand_right_2 [.val x0, .val (.int door), .no, .no, .no, .no, .no, .no, .no] = .ok (.lst (L.map fun _ => .bl true)) [.val x0, .val (.int door), .no, .no, .no, .no, .no, .no, .no] := by
    unfold c_law_by_hand_right_2
    refine lc_map (L := L) (enc := D.str) (fun _ => .bl true) (Wn.eq (by simp [hx])) rfl (by omega) fun w hw => ?_
    have := (hL w hw).r
    simp [wipeE, this]
  have al : dAll (.lst (L.map fun _ => .bl true)) = .ok (.bl true) := by rw [dAll_map (f := fun _ => true)]; simp
  generalize (L.map fun _ => D.bl true) = B at lc2 al
  simp [b_law_by_hand_right_1, wn_sFg, wn_seq, wn_eq lc1, dn_nil, wn_eq lc2, al]
theorem loop_same55 {T : Type} {g : DG} {b : DS} {enc : T → D} {e : AH.Env} : ∀ (L : List T), (∀ y ∈ L, Wn (g (enc y)) e (fun _ e1 => Wn b e1 (fun o e2 => o = .nx ∧ e2 = e) NoE) NoE) → loop g b (L.map enc) e = .ok .nx e
  | [], _ => rfl
  | y :: L, h => by
    rw [List.map_cons, loop_cons (h y List.mem_cons_self)]
    exact loop_same55 L fun z hz => h z (List.mem_cons_of_mem _ hz)
theorem doors_hand : l_law_by_hand_right_1 [.val badsH, .no, .no, .no, .no, .no, .no, .no, .no] = .ok .nx [.val badsH, .no, .no, .no, .no, .no, .no, .no, .no] := by
  have d0 := door_ok (door := 0) (L := bad0) (x0 := badsH) rfl bad0_ok (by decide)
  have d1 := door_ok (door := 1) (L := bad1) (x0 := badsH) rfl bad1_ok (by decide)
  have d2 := door_ok (door := 2) (L := bad2) (x0 := badsH) rfl bad2_ok (by decide)
  have lp := loop_same55 (g := gN 1) (b := b_law_by_hand_right_1) (enc := D.int) (e := [.val badsH, .no, .no, .no, .no, .no, .no, .no, .no]) [0, 1, 2] fun y hy => by
    simp only [List.mem_cons, List.not_mem_nil, or_false] at hy
    simp only [wn_gN, x_slS, x_sl0, x_isOwn1, true_and, x_putS, x_put0]
    rcases hy with rfl | rfl | rfl
    · exact d0
    · exact d1
    · exact d2
  have lp : loop (gN 1) b_law_by_hand_right_1 [.int 0, .int 1, .int 2] [.val badsH, .no, .no, .no, .no, .no, .no, .no, .no] = _ := lp
  have rg : rng 0 3 = [.int 0, .int 1, .int 2] := rfl
  unfold l_law_by_hand_right_1
  refine Wn.eq ?_
  simp only [wn_sFor, wn_iRng1, wn_c, wi_int]
  refine ⟨by rw [rngOk_iff]; decide, ?_⟩
  rw [rg, wn_eq lp]
  exact ⟨rfl, rfl⟩
/-! ### lines that are none -/
def chk3 (p : Str × Int) : Bool := (match shF 0 [] (Txt.split p.1 "\n") with
  | .inl j => decide ((j : Int) = p.2)
  | .inr _ => false) && (ascB p.1 && (decide (p.1.length ≤ 5000) && (Txt.split p.1 "\n").all fun l => decide (l.length ≤ 400)))
theorem all3 : linesH.all chk3 = true := by kernel_rfl
structure LineT (p : Str × Int) : Prop where
  h : f_law_heard [.int 3, .str p.1] = .ok (.int p.2) []
  r : f_law_text_right [.int 3, .str p.1] = .ok (.bl true) []
theorem lines_ok55 : ∀ p ∈ linesH, LineT p := fun p hp => by
  have c := List.all_eq_true.mp all3 p hp
  unfold chk3 at c
  simp only [Bool.and_eq_true, decide_eq_true_eq, List.all_eq_true] at c
  obtain ⟨c1, c2, c3, c4⟩ := c
  have ha := ascB_ok c2
  have he := heard3_ok ha c3 c4
  refine ⟨?_, text_right3_ok ha c3 c4⟩
  rw [he]
  cases h : shF 0 [] (Txt.split p.1 "\n") with
  | inr _ => rw [h] at c1; cases c1
  | inl j =>
    rw [h] at c1
    simp only [decide_eq_true_eq] at c1
    show Rf.ok (.int (j : Int)) [] = _
    rw [c1]
/-! ### sixty lines, and one sign too many -/
theorem join_snoc {y z : Str} : ∀ (ps : List Str) (q : Str), Str.join y (ps ++ [q]) ++ z = Str.join y (ps ++ [q ++ z])
  | [], q => rfl
  | [p], q => by
    refine str_ext ?_
    show (Str.join y (p :: q :: []) ++ z).cps.toList = (Str.join y (p :: (q ++ z) :: [])).cps.toList
    rw [tl_app, join_cons, join_cons]
    show _ = _ ++ (_ ++ (q ++ z).cps.toList)
    rw [tl_app, List.append_assoc, List.append_assoc]
    rfl
  | p :: p2 :: ps, q => by
    refine str_ext ?_
    have ih := congrArg (fun s : Str => s.cps.toList) (join_snoc (y := y) (z := z) (p2 :: ps) q)
    show (Str.join y (p :: p2 :: (ps ++ [q])) ++ z).cps.toList = (Str.join y (p :: p2 :: (ps ++ [q ++ z]))).cps.toList
    rw [tl_app, join_cons, join_cons, List.append_assoc, List.append_assoc]
    congr 2
    rw [← tl_app]
    exact ih
def linesX : List Str := sheetL.take 59 ++ [("fj 2: 0-1 3" : Str) ++ " "]
theorem sheet_split : sheetL = sheetL.take 59 ++ [("fj 2: 0-1 3" : Str)] := by decide +kernel
theorem free_all {L : List Str} (h : (L.all fun w => !w.cps.toList.contains 10 && (ascB w && decide (w.length ≤ 400))) = true) : ∀ w ∈ L, 10 ∉ w.cps.toList ∧ Asc w ∧ w.length ≤ 400 := fun w hw => by
  have := List.all_eq_true.mp h w hw
  simp only [Bool.and_eq_true, decide_eq_true_eq] at this
  exact ⟨by simpa using this.1, ascB_ok this.2.1, this.2.2⟩
theorem free_S : (sheetL.all fun w => !w.cps.toList.contains 10 && (ascB w && decide (w.length ≤ 400))) = true := by kernel_rfl
theorem free_X : (linesX.all fun w => !w.cps.toList.contains 10 && (ascB w && decide (w.length ≤ 400))) = true := by kernel_rfl
theorem sp_lines {L : List Str} (h0 : L ≠ []) (h : ∀ w ∈ L, 10 ∉ w.cps.toList ∧ Asc w ∧ w.length ≤ 400) : Txt.split (Str.join "\n" L) "\n" = L := by
  obtain ⟨p, r, rfl⟩ := List.exists_cons_of_ne_nil h0
  exact split_join c_feed (fun c h => by have := a_feed c h; omega) (p := p) (ps := r) fun q hq => (h q hq).1
theorem sh59 : (match shF 0 [] linesX with
  | .inl j => decide (j = 59)
  | .inr _ => false) = true := by kernel_rfl
theorem big_ok {L : List Str} (h0 : L ≠ []) (hl : L.length ≤ 60) (h : ∀ w ∈ L, 10 ∉ w.cps.toList ∧ Asc w ∧ w.length ≤ 400) (h12 : ∀ w ∈ L, w.length ≤ 12) : Asc (Str.join "\n" L) ∧ (Str.join "\n" L).length ≤ 5000 ∧ (∀ l ∈ Txt.split (Str.join "\n" L) "\n", l.length ≤ 400) ∧ Txt.split (Str.join "\n" L) "\n" = L := by
  have sp := sp_lines h0 h
  refine ⟨Asc.join a_feed fun p hp => (h p hp).2.1, ?_, fun l hl' => ?_, sp⟩
  · have := StrLaws.join_length_le ("\n" : Str) L
    have := sum_le (l := L) (B := 12) h12
    rw [l_feed] at *
    omega
  · rw [sp] at hl'
    exact (h l hl').2.2
theorem le12 {L : List Str} (h : (L.all fun w => decide (w.length ≤ 12)) = true) : ∀ w ∈ L, w.length ≤ 12 := fun w hw => of_decide_eq_true (List.all_eq_true.mp h w hw)
theorem le12_S : (sheetL.all fun w => decide (w.length ≤ 12)) = true := by kernel_rfl
theorem le12_X : (linesX.all fun w => decide (w.length ≤ 12)) = true := by kernel_rfl
theorem len_S : sheetL.length = 60 := by unfold sheetL; rw [List.length_map, len_sheet]
theorem nn_S : sheetL ≠ [] ∧ sheetL.length ≤ 60 := by
  refine ⟨fun z => ?_, by rw [len_S]; decide⟩
  have := len_S
  rw [z] at this
  cases this
theorem nn_X : linesX ≠ [] ∧ linesX.length ≤ 60 := ⟨by unfold linesX; simp, by
  have := nn_S.2
  unfold linesX
  rw [List.length_append, List.length_take]
  simp
  omega⟩
theorem wn_seqs {l : List DS} {r : DS} {e e1 : AH.Env} {Q : Out → AH.Env → Prop} {E : Str → List D → AH.Env → Prop} (h : seqs l sNil e = .ok .nx e1) : Wn (seqs l r) e Q E = Wn r e1 Q E := by
  unfold Wn
  rw [seqs_run h]
theorem wn_st {s r : DS} {e e1 : AH.Env} {Q : Out → AH.Env → Prop} {E : Str → List D → AH.Env → Prop} (h : s e = .ok .nx e1) : Wn (sSeq s r) e Q E = Wn r e1 Q E := by
  rw [wn_seq, wn_eq h]
  simp
def numsH : List D := linesH.map fun p => .int p.2
theorem lines_hand : h11 [.val badsH, .no, .val linesD, .no, .no, .no, .no, .no, .no] = .ok .nx [.val badsH, .no, .val linesD, .val (.lst numsH), .no, .no, .no, .no, .no] := by
  have lc : c_law_by_hand_right_3 [.val badsH, .no, .val linesD, .no, .no, .no, .no, .no, .no] = .ok (.lst numsH) [.val badsH, .no, .val linesD, .no, .no, .no, .no, .no, .no] := by
    unfold c_law_by_hand_right_3 numsH linesD
    refine lc_map (vs := [7]) (e := [.val badsH, .no, .val (.lst (linesH.map fun p => .tup [.str p.1, .int p.2])), .no, .no, .no, .no, .no, .no]) (L := linesH) (enc := fun p => .tup [.str p.1, .int p.2]) (fun p => .int p.2) ?_ rfl (by decide) fun p hp => ?_
    · exact Wn.eq (by simp)
    have he := (lines_ok55 p hp).h
    have i0 : dIx (.tup [.str p.1, .int p.2]) (.int 0) = .ok (.str p.1) := rfl
    simp [wipeE, i0, he]
  generalize numsH = N at lc ⊢
  unfold h11
  refine Wn.eq ?_
  simp [wn_eq lc]
theorem lines_hand2 : h12 [.val badsH, .no, .val linesD, .val (.lst numsH), .no, .no, .no, .no, .no] = .ok .nx [.val badsH, .no, .val linesD, .val (.lst numsH), .no, .no, .no, .no, .no] := by
  have lc4 : c_law_by_hand_right_4 [.val badsH, .no, .val linesD, .val (.lst numsH), .no, .no, .no, .no, .no] = .ok (.lst numsH) [.val badsH, .no, .val linesD, .val (.lst numsH), .no, .no, .no, .no, .no] := by
    unfold c_law_by_hand_right_4 numsH linesD
    refine lc_map (vs := [7]) (e := [.val badsH, .no, .val (.lst (linesH.map fun p => .tup [.str p.1, .int p.2])), .val (.lst (linesH.map fun p => .int p.2)), .no, .no, .no, .no, .no]) (L := linesH) (enc := fun p => .tup [.str p.1, .int p.2]) (fun p => .int p.2) ?_ rfl (by decide) fun p hp => ?_
    · exact Wn.eq (by simp)
    have i1 : dIx (.tup [.str p.1, .int p.2]) (.int 1) = .ok (.int p.2) := rfl
    simp [wipeE, i1]
  have lc5 : c_law_by_hand_right_5 [.val badsH, .no, .val linesD, .val (.lst numsH), .no, .no, .no, .no, .no] = .ok (.lst (linesH.map fun _ => .bl true)) [.val badsH, .no, .val linesD, .val (.lst numsH), .no, .no, .no, .no, .no] := by
    unfold c_law_by_hand_right_5 linesD
    refine lc_map (vs := [7]) (e := [.val badsH, .no, .val (.lst (linesH.map fun p => .tup [.str p.1, .int p.2])), .val (.lst numsH), .no, .no, .no, .no, .no]) (L := linesH) (enc := fun p => .tup [.str p.1, .int p.2]) (fun _ => .bl true) ?_ rfl (by decide) fun p hp => ?_
    · exact Wn.eq (by simp)
    have he := (lines_ok55 p hp).r
    have i0 : dIx (.tup [.str p.1, .int p.2]) (.int 0) = .ok (.str p.1) := rfl
    simp [wipeE, i0, he]
  have al : dAll (.lst (linesH.map fun _ => .bl true)) = .ok (.bl true) := by rw [dAll_map (f := fun _ => true)]; simp
  have sm := same_eq (n := 2) (x := .lst numsH) rfl (sm_lst.mpr ⟨by unfold numsH; rw [List.length_map]; decide, fun d hd => by
    obtain ⟨p, _, rfl⟩ := List.mem_map.mp hd
    rfl⟩)
  generalize (linesH.map fun _ => D.bl true) = B at lc5 al
  generalize numsH = N at lc4 lc5 sm ⊢
  unfold h12
  refine Wn.eq ?_
  simp [wn_eq lc4, wn_eq lc5, sm, al]
theorem by_hand55 : f_law_by_hand_right [] = .ok (.bl true) [] := by
  have fS := free_all free_S
  have fX := free_all free_X
  obtain ⟨a1, a2, a3, a4⟩ := big_ok nn_S.1 nn_S.2 fS (le12 le12_S)
  obtain ⟨b1, b2, b3, b4⟩ := big_ok nn_X.1 nn_X.2 fX (le12 le12_X)
  have tr := text_right3_ok a1 a2 a3
  have he := heard3_ok b1 b2 b3
  have e : Str.join "\n" sheetL ++ " " = Str.join "\n" linesX := by
    have := join_snoc (y := "\n") (z := " ") (sheetL.take 59) "fj 2: 0-1 3"
    rw [← sheet_split] at this
    exact this
  have s59 : shF 0 [] linesX = .inl 59 := by
    have := sh59
    cases h : shF 0 [] linesX with
    | inr _ => rw [h] at this; cases this
    | inl j =>
      rw [h] at this
      simp only [decide_eq_true_eq] at this
      rw [this]
  rw [b4, s59] at he
  have he : f_law_heard [.int 3, .str (Str.join "\n" linesX)] = .ok (.int 59) [] := he
  have sm : f_law_same 30 [.int 59, .int 59] = .ok (.bl true) [] := same_eq (n := 1) rfl rfl
  have da : dAdd (.str (Str.join "\n" sheetL)) (.str " ") = .ok (.str (Str.join "\n" linesX)) := by
    rw [dAdd_str, if_pos, e]
    rw [lenOk_iff, l_gap]
    omega
  refine WF.eq ?_
  rw [f_law_by_hand_right, wf_mkF rfl, hm55]
  show Wn _ (List.replicate 9 .no) _ _
  rw [wn_seqs rowA, wn_st doors_hand, wn_seqs rowB, wn_st lines_hand, wn_st lines_hand2, wn_seqs (rowC _ _ _)]
  unfold hR
  generalize Str.join "\n" sheetL = S at tr da ⊢
  generalize Str.join "\n" linesX = T at da he
  generalize badsH = X0
  generalize linesD = X2
  generalize D.lst numsH = X3
  generalize tagsD = X4
  simp [tr, da, he, sm]
end LW
namespace AH
open LW PySem L2
variable [TheK]
theorem law_true (ns : List Int) (hn : ns.length ≤ 63) : LW.f_law [.lst (ns.map D.int)] = .ok (.bl true) [] :=
  law_end (K := 57515) (by decide) (by decide) (fh := LW.f_law_by_hand_right) (fr := LW.f_law_right) by_hand55 right55 ns hn
end AH
namespace LW
open PySem PySem.Spec PyProof.Rows L2 AH
def d_law_cells : He.DefD := ⟨("_law_cells", none), "_law_cells", "_law_cells", defArgs s_law_cells, defBody s_law_cells, defScope s_law_cells, [], []⟩
def d_parts_in : He.DefD := ⟨("parts_in", none), "parts_in", "parts_in", defArgs s_parts_in, defBody s_parts_in, defScope s_parts_in, [], []⟩
def d_number_in : He.DefD := ⟨("number_in", none), "number_in", "number_in", defArgs s_number_in, defBody s_number_in, defScope s_number_in, [], []⟩
def d_rises : He.DefD := ⟨("rises", none), "rises", "rises", defArgs s_rises, defBody s_rises, defScope s_rises, [], []⟩
def d_pair_in : He.DefD := ⟨("pair_in", none), "pair_in", "pair_in", defArgs s_pair_in, defBody s_pair_in, defScope s_pair_in, [], []⟩
def d_errand_in : He.DefD := ⟨("errand_in", none), "errand_in", "errand_in", defArgs s_errand_in, defBody s_errand_in, defScope s_errand_in, [], []⟩
def d_read_lot : He.DefD := ⟨("read_lot", none), "read_lot", "read_lot", defArgs s_read_lot, defBody s_read_lot, defScope s_read_lot, [], []⟩
def d_read_numbers : He.DefD := ⟨("read_numbers", none), "read_numbers", "read_numbers", defArgs s_read_numbers, defBody s_read_numbers, defScope s_read_numbers, [], []⟩
def d_read_ranges : He.DefD := ⟨("read_ranges", none), "read_ranges", "read_ranges", defArgs s_read_ranges, defBody s_read_ranges, defScope s_read_ranges, [], []⟩
def d_tupled : He.DefD := ⟨("tupled", none), "tupled", "tupled", defArgs s_tupled, defBody s_tupled, defScope s_tupled, [], []⟩
def d_is_name : He.DefD := ⟨("is_name", none), "is_name", "is_name", defArgs s_is_name, defBody s_is_name, defScope s_is_name, [], []⟩
def d_line_in : He.DefD := ⟨("line_in", none), "line_in", "line_in", defArgs s_line_in, defBody s_line_in, defScope s_line_in, [], []⟩
def d_read_sheet : He.DefD := ⟨("read_sheet", none), "read_sheet", "read_sheet", defArgs s_read_sheet, defBody s_read_sheet, defScope s_read_sheet, [], []⟩
def d_law_heard : He.DefD := ⟨("_law_heard", none), "_law_heard", "_law_heard", defArgs s_law_heard, defBody s_law_heard, defScope s_law_heard, [], []⟩
def d_law_same : He.DefD := ⟨("_law_same", none), "_law_same", "_law_same", defArgs s_law_same, defBody s_law_same, defScope s_law_same, [], []⟩
def d_law_number : He.DefD := ⟨("_law_number", none), "_law_number", "_law_number", defArgs s_law_number, defBody s_law_number, defScope s_law_number, [], []⟩
def d_law_wide : He.DefD := ⟨("_law_wide", none), "_law_wide", "_law_wide", defArgs s_law_wide, defBody s_law_wide, defScope s_law_wide, [], []⟩
def d_law_pair : He.DefD := ⟨("_law_pair", none), "_law_pair", "_law_pair", defArgs s_law_pair, defBody s_law_pair, defScope s_law_pair, [], []⟩
def d_law_lot_in : He.DefD := ⟨("_law_lot_in", none), "_law_lot_in", "_law_lot_in", defArgs s_law_lot_in, defBody s_law_lot_in, defScope s_law_lot_in, [], []⟩
def d_law_numbers_in : He.DefD := ⟨("_law_numbers_in", none), "_law_numbers_in", "_law_numbers_in", defArgs s_law_numbers_in, defBody s_law_numbers_in, defScope s_law_numbers_in, [], []⟩
def d_law_ranges_in : He.DefD := ⟨("_law_ranges_in", none), "_law_ranges_in", "_law_ranges_in", defArgs s_law_ranges_in, defBody s_law_ranges_in, defScope s_law_ranges_in, [], []⟩
def d_law_lines_in : He.DefD := ⟨("_law_lines_in", none), "_law_lines_in", "_law_lines_in", defArgs s_law_lines_in, defBody s_law_lines_in, defScope s_law_lines_in, [], []⟩
def d_law_text_right : He.DefD := ⟨("_law_text_right", none), "_law_text_right", "_law_text_right", defArgs s_law_text_right, defBody s_law_text_right, defScope s_law_text_right, [], []⟩
def d_law_by_hand_right : He.DefD := ⟨("_law_by_hand_right", none), "_law_by_hand_right", "_law_by_hand_right", defArgs s_law_by_hand_right, defBody s_law_by_hand_right, defScope s_law_by_hand_right, [], []⟩
def d_law_take : He.DefD := ⟨("_law_take", none), "_law_take", "_law_take", defArgs s_law_take, defBody s_law_take, defScope s_law_take, [], []⟩
def d_law_spans : He.DefD := ⟨("_law_spans", none), "_law_spans", "_law_spans", defArgs s_law_spans, defBody s_law_spans, defScope s_law_spans, [], []⟩
def d_law_lot : He.DefD := ⟨("_law_lot", none), "_law_lot", "_law_lot", defArgs s_law_lot, defBody s_law_lot, defScope s_law_lot, [], []⟩
def d_law_hands : He.DefD := ⟨("_law_hands", none), "_law_hands", "_law_hands", defArgs s_law_hands, defBody s_law_hands, defScope s_law_hands, [], []⟩
def d_lot_text : He.DefD := ⟨("lot_text", none), "lot_text", "lot_text", defArgs s_lot_text, defBody s_lot_text, defScope s_lot_text, [], []⟩
def d_numbers_text : He.DefD := ⟨("numbers_text", none), "numbers_text", "numbers_text", defArgs s_numbers_text, defBody s_numbers_text, defScope s_numbers_text, [], []⟩
def d_ranges_text : He.DefD := ⟨("ranges_text", none), "ranges_text", "ranges_text", defArgs s_ranges_text, defBody s_ranges_text, defScope s_ranges_text, [], []⟩
def d_law_of : He.DefD := ⟨("_law_of", none), "_law_of", "_law_of", defArgs s_law_of, defBody s_law_of, defScope s_law_of, [], []⟩
def d_law_bent : He.DefD := ⟨("_law_bent", none), "_law_bent", "_law_bent", defArgs s_law_bent, defBody s_law_bent, defScope s_law_bent, [], []⟩
def d_law_right : He.DefD := ⟨("_law_right", none), "_law_right", "_law_right", defArgs s_law_right, defBody s_law_right, defScope s_law_right, [], []⟩
def d_law_box : He.DefD := ⟨("_law_box", none), "_law_box", "_law_box", defArgs s_law_box, defBody s_law_box, defScope s_law_box, [], []⟩
def d_law : He.DefD := ⟨("law", none), "law", "law", defArgs s_law, defBody s_law, defScope s_law, [], []⟩
abbrev s_XBadLine : Stmt := clsAt (top 2) 0
def x_BadLine : XiD := ⟨"BadLine", "BadLine.__init__", defArgs s_XBadLine, defBody s_XBadLine, defScope s_XBadLine⟩
def fx : List XiD := [x_BadLine]
def fn : List He.DefD := [d_law_cells, d_parts_in, d_number_in, d_rises, d_pair_in, d_errand_in, d_read_lot, d_read_numbers, d_read_ranges, d_tupled, d_is_name, d_line_in, d_read_sheet, d_law_heard, d_law_same, d_law_number, d_law_wide, d_law_pair, d_law_lot_in, d_law_numbers_in, d_law_ranges_in, d_law_lines_in, d_law_text_right, d_law_by_hand_right, d_law_take, d_law_spans, d_law_lot, d_law_hands, d_lot_text, d_numbers_text, d_ranges_text, d_law_of, d_law_bent, d_law_right, d_law_box, d_law]
def fa : List He.Fa := [.glo "_law_cells", .glo "parts_in", .glo "number_in", .glo "rises", .glo "pair_in", .glo "errand_in", .glo "read_lot", .glo "read_numbers", .glo "read_ranges", .glo "tupled", .glo "is_name", .glo "line_in", .glo "read_sheet", .glo "_law_heard", .glo "_law_same", .glo "_law_number", .glo "_law_wide", .glo "_law_pair", .glo "_law_lot_in", .glo "_law_numbers_in", .glo "_law_ranges_in", .glo "_law_lines_in", .glo "_law_text_right", .glo "_law_by_hand_right", .glo "_law_take", .glo "_law_spans", .glo "_law_lot", .glo "_law_hands", .glo "lot_text", .glo "numbers_text", .glo "ranges_text", .glo "_law_of", .glo "_law_bent", .glo "_law_right", .glo "_law_box", .glo "law", .free "ValueError", .free "abs", .free "all", .free "any", .free "bool", .free "enumerate", .free "int", .free "isinstance", .free "len", .free "list", .free "range", .free "set", .free "sorted", .free "str", .free "tuple", .free "zip", .str "COLON" ": ", .str "COMMA" ", ", .str "DASH" "-", .str "DIGITS" "0123456789", .str "DOTS" "..", .str "FEED" "\n", .str "LETTERS" "abcdefghijklmnopqrstuvwxyz", .glo "BadLine", .glo "BadText", .free "super"]
def xs : List Str := ["BadLine", "BadText"]
abbrev tkI (K : PySem.W.Frag) : TheK := ⟨K, xs⟩
def ck (K : PySem.W.Frag) : Bool := xcB K "BadText" && (xiB K PySem.Challenge.pw_anyhands_k55_what_is_no_such_text.main.file "ValueError" "ValueError.__new__" "ValueError.__init__" vT x_BadLine && (xmB K xs "BadLine" && (xmB K xs "BadText" && (xvB K "BadLine" && (xvB K "BadText" && (xaB K "BadLine" && (xaB K "BadText" && (true))))))))
abbrev lawR : PySem.W.OpenRow := PySem.W.OpenLaw.row PySem.Challenge.rw_anyhands_k55_what_is_no_such_text
abbrev hk : PySem.W.Hook := hookY 4 ck fx fa fn
def ob (s : PySem.W.SharedT) : Bool × He.AlD × List XiV := obsY 4 ck fx fa fn (HandSHeadRun.getT s)
theorem ob_eq (s : PySem.W.SharedT) : ob s = hk.obs s.abs := obsY_eq (HandSHeadRun.getT_eq s)
def names0 : List PySem.Str := ["BadText", "BadLine", "tupled", "rises", "COLON", "COMMA", "DASH", "DOTS", "FEED", "DIGITS", "LETTERS", "is_name", "number_in", "parts_in", "pair_in", "errand_in", "lot_text", "read_lot", "numbers_text", "read_numbers", "ranges_text", "read_ranges", "line_in", "read_sheet", "_law_box", "_law_take", "_law_cells", "_law_of", "_law_same", "_law_spans"]
def names1 : List PySem.Str := ["_law_lot", "_law_hands", "_law_heard", "_law_number", "_law_pair", "_law_lot_in", "_law_numbers_in", "_law_ranges_in", "_law_lines_in", "_law_wide", "_law_text_right", "_law_by_hand_right", "_law_bent", "_law_right"]
def names : List PySem.Str := names0 ++ names1
theorem run (w : World) : HandSHeadRun.RunEq lawR (PySem.W.view lawR.prog [48]) hk ob 3000 names w := by
  intro os
  kernel_rfl
theorem facts {P : Program} {w : World} {K : PySem.W.Frag} {h : Heap} {mg : Str → Option Value} {f : Addr} (X : K.In h) (G : h.Ns mainGlobals mg) (hfa : mg ("law" : Str) = some (.ref f)) (c : He.SaysD fa fn K) (hck : ck K = true) (hfx : fx.map (xiW K) = fx.map XiD.val) (hT : (P.main.scope.names.lookup ("super" : Str)).isSome = false) (hFl : P.main.file = PySem.Challenge.pw_anyhands_k55_what_is_no_such_text.main.file) :
    ∃ fd : FuncData, (∀ (s : Shared) (v : Value), BindsTo s fd ⟨[v], []⟩ [("_law_script", v)]) ∧ ∀ base : Heap, K.In base → base.Ns mainGlobals mg → FnOk P w K mg base (L2.CX P w) 36 f fd p_law (@spD (tkI K) .s K n_law [.ro] f_law) := by
  letI : TheK := tkI K
  have hK : K = TheK.K := rfl
  unfold ck at hck
  obtain ⟨ck0, hck⟩ := He.ba hck
  obtain ⟨ck1, hck⟩ := He.ba hck
  obtain ⟨ck2, hck⟩ := He.ba hck
  obtain ⟨ck3, hck⟩ := He.ba hck
  obtain ⟨ck4, hck⟩ := He.ba hck
  obtain ⟨ck5, hck⟩ := He.ba hck
  obtain ⟨ck6, hck⟩ := He.ba hck
  obtain ⟨ck7, hck⟩ := He.ba hck
  have F_law_cells : Fu K mg "_law_cells" s_law_cells := by
    obtain ⟨fd, F⟩ := c.def_ 0 (d := d_law_cells) rfl
    exact ⟨_, fd, F, He.glo_ok X G (c.fact 0 (f := .glo "_law_cells") rfl)⟩
  have F_parts_in : Fu K mg "parts_in" s_parts_in := by
    obtain ⟨fd, F⟩ := c.def_ 1 (d := d_parts_in) rfl
    exact ⟨_, fd, F, He.glo_ok X G (c.fact 1 (f := .glo "parts_in") rfl)⟩
  have F_number_in : Fu K mg "number_in" s_number_in := by
    obtain ⟨fd, F⟩ := c.def_ 2 (d := d_number_in) rfl
    exact ⟨_, fd, F, He.glo_ok X G (c.fact 2 (f := .glo "number_in") rfl)⟩
  have F_rises : Fu K mg "rises" s_rises := by
    obtain ⟨fd, F⟩ := c.def_ 3 (d := d_rises) rfl
    exact ⟨_, fd, F, He.glo_ok X G (c.fact 3 (f := .glo "rises") rfl)⟩
  have F_pair_in : Fu K mg "pair_in" s_pair_in := by
    obtain ⟨fd, F⟩ := c.def_ 4 (d := d_pair_in) rfl
    exact ⟨_, fd, F, He.glo_ok X G (c.fact 4 (f := .glo "pair_in") rfl)⟩
  have F_errand_in : Fu K mg "errand_in" s_errand_in := by
    obtain ⟨fd, F⟩ := c.def_ 5 (d := d_errand_in) rfl
    exact ⟨_, fd, F, He.glo_ok X G (c.fact 5 (f := .glo "errand_in") rfl)⟩
  have F_read_lot : Fu K mg "read_lot" s_read_lot := by
    obtain ⟨fd, F⟩ := c.def_ 6 (d := d_read_lot) rfl
    exact ⟨_, fd, F, He.glo_ok X G (c.fact 6 (f := .glo "read_lot") rfl)⟩
  have F_read_numbers : Fu K mg "read_numbers" s_read_numbers := by
    obtain ⟨fd, F⟩ := c.def_ 7 (d := d_read_numbers) rfl
    exact ⟨_, fd, F, He.glo_ok X G (c.fact 7 (f := .glo "read_numbers") rfl)⟩
  have F_read_ranges : Fu K mg "read_ranges" s_read_ranges := by
    obtain ⟨fd, F⟩ := c.def_ 8 (d := d_read_ranges) rfl
    exact ⟨_, fd, F, He.glo_ok X G (c.fact 8 (f := .glo "read_ranges") rfl)⟩
  have F_tupled : Fu K mg "tupled" s_tupled := by
    obtain ⟨fd, F⟩ := c.def_ 9 (d := d_tupled) rfl
    exact ⟨_, fd, F, He.glo_ok X G (c.fact 9 (f := .glo "tupled") rfl)⟩
  have F_is_name : Fu K mg "is_name" s_is_name := by
    obtain ⟨fd, F⟩ := c.def_ 10 (d := d_is_name) rfl
    exact ⟨_, fd, F, He.glo_ok X G (c.fact 10 (f := .glo "is_name") rfl)⟩
  have F_line_in : Fu K mg "line_in" s_line_in := by
    obtain ⟨fd, F⟩ := c.def_ 11 (d := d_line_in) rfl
    exact ⟨_, fd, F, He.glo_ok X G (c.fact 11 (f := .glo "line_in") rfl)⟩
  have F_read_sheet : Fu K mg "read_sheet" s_read_sheet := by
    obtain ⟨fd, F⟩ := c.def_ 12 (d := d_read_sheet) rfl
    exact ⟨_, fd, F, He.glo_ok X G (c.fact 12 (f := .glo "read_sheet") rfl)⟩
  have F_law_heard : Fu K mg "_law_heard" s_law_heard := by
    obtain ⟨fd, F⟩ := c.def_ 13 (d := d_law_heard) rfl
    exact ⟨_, fd, F, He.glo_ok X G (c.fact 13 (f := .glo "_law_heard") rfl)⟩
  have F_law_same : Fu K mg "_law_same" s_law_same := by
    obtain ⟨fd, F⟩ := c.def_ 14 (d := d_law_same) rfl
    exact ⟨_, fd, F, He.glo_ok X G (c.fact 14 (f := .glo "_law_same") rfl)⟩
  have F_law_number : Fu K mg "_law_number" s_law_number := by
    obtain ⟨fd, F⟩ := c.def_ 15 (d := d_law_number) rfl
    exact ⟨_, fd, F, He.glo_ok X G (c.fact 15 (f := .glo "_law_number") rfl)⟩
  have F_law_wide : Fu K mg "_law_wide" s_law_wide := by
    obtain ⟨fd, F⟩ := c.def_ 16 (d := d_law_wide) rfl
    exact ⟨_, fd, F, He.glo_ok X G (c.fact 16 (f := .glo "_law_wide") rfl)⟩
  have F_law_pair : Fu K mg "_law_pair" s_law_pair := by
    obtain ⟨fd, F⟩ := c.def_ 17 (d := d_law_pair) rfl
    exact ⟨_, fd, F, He.glo_ok X G (c.fact 17 (f := .glo "_law_pair") rfl)⟩
  have F_law_lot_in : Fu K mg "_law_lot_in" s_law_lot_in := by
    obtain ⟨fd, F⟩ := c.def_ 18 (d := d_law_lot_in) rfl
    exact ⟨_, fd, F, He.glo_ok X G (c.fact 18 (f := .glo "_law_lot_in") rfl)⟩
  have F_law_numbers_in : Fu K mg "_law_numbers_in" s_law_numbers_in := by
    obtain ⟨fd, F⟩ := c.def_ 19 (d := d_law_numbers_in) rfl
    exact ⟨_, fd, F, He.glo_ok X G (c.fact 19 (f := .glo "_law_numbers_in") rfl)⟩
  have F_law_ranges_in : Fu K mg "_law_ranges_in" s_law_ranges_in := by
    obtain ⟨fd, F⟩ := c.def_ 20 (d := d_law_ranges_in) rfl
    exact ⟨_, fd, F, He.glo_ok X G (c.fact 20 (f := .glo "_law_ranges_in") rfl)⟩
  have F_law_lines_in : Fu K mg "_law_lines_in" s_law_lines_in := by
    obtain ⟨fd, F⟩ := c.def_ 21 (d := d_law_lines_in) rfl
    exact ⟨_, fd, F, He.glo_ok X G (c.fact 21 (f := .glo "_law_lines_in") rfl)⟩
  have F_law_text_right : Fu K mg "_law_text_right" s_law_text_right := by
    obtain ⟨fd, F⟩ := c.def_ 22 (d := d_law_text_right) rfl
    exact ⟨_, fd, F, He.glo_ok X G (c.fact 22 (f := .glo "_law_text_right") rfl)⟩
  have F_law_by_hand_right : Fu K mg "_law_by_hand_right" s_law_by_hand_right := by
    obtain ⟨fd, F⟩ := c.def_ 23 (d := d_law_by_hand_right) rfl
    exact ⟨_, fd, F, He.glo_ok X G (c.fact 23 (f := .glo "_law_by_hand_right") rfl)⟩
  have F_law_take : Fu K mg "_law_take" s_law_take := by
    obtain ⟨fd, F⟩ := c.def_ 24 (d := d_law_take) rfl
    exact ⟨_, fd, F, He.glo_ok X G (c.fact 24 (f := .glo "_law_take") rfl)⟩
  have F_law_spans : Fu K mg "_law_spans" s_law_spans := by
    obtain ⟨fd, F⟩ := c.def_ 25 (d := d_law_spans) rfl
    exact ⟨_, fd, F, He.glo_ok X G (c.fact 25 (f := .glo "_law_spans") rfl)⟩
  have F_law_lot : Fu K mg "_law_lot" s_law_lot := by
    obtain ⟨fd, F⟩ := c.def_ 26 (d := d_law_lot) rfl
    exact ⟨_, fd, F, He.glo_ok X G (c.fact 26 (f := .glo "_law_lot") rfl)⟩
  have F_law_hands : Fu K mg "_law_hands" s_law_hands := by
    obtain ⟨fd, F⟩ := c.def_ 27 (d := d_law_hands) rfl
    exact ⟨_, fd, F, He.glo_ok X G (c.fact 27 (f := .glo "_law_hands") rfl)⟩
  have F_lot_text : Fu K mg "lot_text" s_lot_text := by
    obtain ⟨fd, F⟩ := c.def_ 28 (d := d_lot_text) rfl
    exact ⟨_, fd, F, He.glo_ok X G (c.fact 28 (f := .glo "lot_text") rfl)⟩
  have F_numbers_text : Fu K mg "numbers_text" s_numbers_text := by
    obtain ⟨fd, F⟩ := c.def_ 29 (d := d_numbers_text) rfl
    exact ⟨_, fd, F, He.glo_ok X G (c.fact 29 (f := .glo "numbers_text") rfl)⟩
  have F_ranges_text : Fu K mg "ranges_text" s_ranges_text := by
    obtain ⟨fd, F⟩ := c.def_ 30 (d := d_ranges_text) rfl
    exact ⟨_, fd, F, He.glo_ok X G (c.fact 30 (f := .glo "ranges_text") rfl)⟩
  have F_law_of : Fu K mg "_law_of" s_law_of := by
    obtain ⟨fd, F⟩ := c.def_ 31 (d := d_law_of) rfl
    exact ⟨_, fd, F, He.glo_ok X G (c.fact 31 (f := .glo "_law_of") rfl)⟩
  have F_law_bent : Fu K mg "_law_bent" s_law_bent := by
    obtain ⟨fd, F⟩ := c.def_ 32 (d := d_law_bent) rfl
    exact ⟨_, fd, F, He.glo_ok X G (c.fact 32 (f := .glo "_law_bent") rfl)⟩
  have F_law_right : Fu K mg "_law_right" s_law_right := by
    obtain ⟨fd, F⟩ := c.def_ 33 (d := d_law_right) rfl
    exact ⟨_, fd, F, He.glo_ok X G (c.fact 33 (f := .glo "_law_right") rfl)⟩
  have F_law_box : Fu K mg "_law_box" s_law_box := by
    obtain ⟨fd, F⟩ := c.def_ 34 (d := d_law_box) rfl
    exact ⟨_, fd, F, He.glo_ok X G (c.fact 34 (f := .glo "_law_box") rfl)⟩
  have F_law : Fu K mg "law" s_law := by
    obtain ⟨fd, F⟩ := c.def_ 35 (d := d_law) rfl
    exact ⟨_, fd, F, He.glo_ok X G (c.fact 35 (f := .glo "law") rfl)⟩
  have g_BadLine : mg "BadLine" = some (.ref (He.ga K "BadLine")) := He.glo_ok X G (c.fact 59 (f := .glo "BadLine") rfl)
  have g_BadText : mg "BadText" = some (.ref (He.ga K "BadText")) := He.glo_ok X G (c.fact 60 (f := .glo "BadText") rfl)
  have XV : ∀ c ∈ TheK.xs, XvF K c := (fun c hc => by
    have hc : c ∈ [("BadLine" : Str), ("BadText" : Str)] := hc
    simp only [List.mem_cons, List.not_mem_nil, or_false] at hc
    rcases hc with rfl | rfl
    · exact xvB_ok ck4
    · exact xvB_ok ck5)
  have B : Bf K mg := ⟨He.free_ok X G (c.fact 36 (f := .free "ValueError") rfl), He.free_ok X G (c.fact 37 (f := .free "abs") rfl), He.free_ok X G (c.fact 38 (f := .free "all") rfl), He.free_ok X G (c.fact 39 (f := .free "any") rfl), He.free_ok X G (c.fact 40 (f := .free "bool") rfl), He.free_ok X G (c.fact 41 (f := .free "enumerate") rfl), He.free_ok X G (c.fact 42 (f := .free "int") rfl), He.free_ok X G (c.fact 43 (f := .free "isinstance") rfl), He.free_ok X G (c.fact 44 (f := .free "len") rfl), He.free_ok X G (c.fact 45 (f := .free "list") rfl), He.free_ok X G (c.fact 46 (f := .free "range") rfl), He.free_ok X G (c.fact 47 (f := .free "set") rfl), He.free_ok X G (c.fact 48 (f := .free "sorted") rfl), He.free_ok X G (c.fact 49 (f := .free "str") rfl), He.free_ok X G (c.fact 50 (f := .free "tuple") rfl), He.free_ok X G (c.fact 51 (f := .free "zip") rfl), He.str_ok X G (c.fact 52 (f := .str "COLON" ": ") rfl), He.str_ok X G (c.fact 53 (f := .str "COMMA" ", ") rfl), He.str_ok X G (c.fact 54 (f := .str "DASH" "-") rfl), He.str_ok X G (c.fact 55 (f := .str "DIGITS" "0123456789") rfl), He.str_ok X G (c.fact 56 (f := .str "DOTS" "..") rfl), He.str_ok X G (c.fact 57 (f := .str "FEED" "\n") rfl), He.str_ok X G (c.fact 58 (f := .str "LETTERS" "abcdefghijklmnopqrstuvwxyz") rfl), xcB_ok g_BadText ck0, (show ("BadLine" : Str) ∈ xs by decide), (show ("BadText" : Str) ∈ xs by decide), g_BadLine, xmB_ok ck2, g_BadText, xmB_ok ck3, XV, (fun c hc => by
    have hc : c ∈ [("BadLine" : Str), ("BadText" : Str)] := hc
    simp only [List.mem_cons, List.not_mem_nil, or_false] at hc
    rcases hc with rfl | rfl
    · exact xaB_ok ck6
    · exact xaB_ok ck7)⟩
  have XAo_BadLine : ∀ base : Heap, XcA P w K mg base "BadLine" := fun base => by
    have O := xiB_ok (P := P) (K := K) (mg := mg) (d := x_BadLine) (by rw [hFl]; exact ck1) (List.map_inj_left.mp hfx x_BadLine (List.mem_of_getElem? (i := 0) rfl)) hT (He.free_ok X G (c.fact 61 (f := .free "super") rfl))
    obtain ⟨fd, FX⟩ := O.x
    refine ⟨⟨_, _, _, _, _, fd, _, xb_V, O.t, O.i, O.k, fn_xi1 xb_V O.t O.u ⟨rfl, rfl, rfl, by decide +kernel, by decide +kernel, rfl, rfl, by decide +kernel, fun x h => (show ∀ y ∈ (defScope s_XBadLine).names, y.2 = .free → y.1 = "__class__" by decide +kernel) _ (PySem.mem_of_lookup h) rfl⟩ FX rfl rfl rfl (fun env => rfl) (O.f _ (by decide)) (by decide) (by decide), FX.binds fun _ _ _ _ _ _ _ us hl => match us, hl with | [_, _], _ => rfl⟩, g_BadLine⟩
  have all : ∀ base : Heap, Kn P w K mg base .s "law" s_law n_law p_law [.ro] f_law 36 := fun base => by
    have XA_BadLine := XAo_BadLine base
    have k_law_cells := ok_law_cells (P := P) (w := w) (base := base) hK B F_law_cells
    have k_parts_in := ok_parts_in (P := P) (w := w) (base := base) hK B F_parts_in
    have k_number_in := ok_number_in (P := P) (w := w) (base := base) hK B F_number_in
    have k_rises := ok_rises (P := P) (w := w) (base := base) hK B F_rises
    have k_pair_in := ok_pair_in (P := P) (w := w) (base := base) hK B F_pair_in k_number_in k_parts_in
    have k_errand_in := ok_errand_in (P := P) (w := w) (base := base) hK B F_errand_in k_parts_in k_pair_in k_number_in
    have k_read_lot := ok_read_lot (P := P) (w := w) (base := base) hK B F_read_lot k_parts_in k_number_in k_rises k_errand_in
    have k_read_numbers := ok_read_numbers (P := P) (w := w) (base := base) hK B F_read_numbers k_number_in
    have k_read_ranges := ok_read_ranges (P := P) (w := w) (base := base) hK B F_read_ranges k_pair_in
    have k_tupled := ok_tupled (P := P) (w := w) (base := base) hK B F_tupled 30
    have k_is_name := ok_is_name (P := P) (w := w) (base := base) hK B F_is_name
    have k_line_in := ok_line_in (P := P) (w := w) (base := base) hK B F_line_in k_is_name k_read_lot
    have k_read_sheet := ok_read_sheet (P := P) (w := w) (base := base) hK B XA_BadLine F_read_sheet k_tupled k_line_in
    have k_law_heard := ok_law_heard (P := P) (w := w) (base := base) hK B F_law_heard k_read_lot k_read_numbers k_read_ranges k_read_sheet
    have k_law_same := ok_law_same (P := P) (w := w) (base := base) hK B F_law_same 30
    have k_law_number := ok_law_number (P := P) (w := w) (base := base) hK B F_law_number
    have k_law_wide := ok_law_wide (P := P) (w := w) (base := base) hK B F_law_wide k_law_number
    have k_law_pair := ok_law_pair (P := P) (w := w) (base := base) hK B F_law_pair k_law_number
    have k_law_lot_in := ok_law_lot_in (P := P) (w := w) (base := base) hK B F_law_lot_in k_law_number k_law_pair
    have k_law_numbers_in := ok_law_numbers_in (P := P) (w := w) (base := base) hK B F_law_numbers_in k_law_number
    have k_law_ranges_in := ok_law_ranges_in (P := P) (w := w) (base := base) hK B F_law_ranges_in k_law_pair
    have k_law_lines_in := ok_law_lines_in (P := P) (w := w) (base := base) hK B F_law_lines_in k_law_lot_in
    have k_law_text_right := ok_law_text_right (P := P) (w := w) (base := base) hK B F_law_text_right k_law_same k_law_wide k_law_lot_in k_law_numbers_in k_law_ranges_in k_law_heard k_law_lines_in
    have k_law_by_hand_right := ok_law_by_hand_right (P := P) (w := w) (base := base) hK B F_law_by_hand_right k_law_heard k_law_text_right k_law_same
    have k_law_take := ok_law_take (P := P) (w := w) (base := base) hK B F_law_take
    have k_law_spans := ok_law_spans (P := P) (w := w) (base := base) hK B F_law_spans
    have k_law_lot := ok_law_lot (P := P) (w := w) (base := base) hK B F_law_lot k_law_spans k_law_take
    have k_law_hands := ok_law_hands (P := P) (w := w) (base := base) hK B F_law_hands k_law_take
    have k_lot_text := ok_lot_text (P := P) (w := w) (base := base) hK B F_lot_text
    have k_numbers_text := ok_numbers_text (P := P) (w := w) (base := base) hK B F_numbers_text
    have k_ranges_text := ok_ranges_text (P := P) (w := w) (base := base) hK B F_ranges_text
    have k_law_of := ok_law_of (P := P) (w := w) (base := base) hK B F_law_of k_law_take
    have k_law_bent := ok_law_bent (P := P) (w := w) (base := base) hK B F_law_bent k_law_take k_law_of
    have k_law_right := ok_law_right (P := P) (w := w) (base := base) hK B F_law_right k_law_take k_law_lot k_law_hands k_lot_text k_numbers_text k_ranges_text k_law_bent k_law_text_right
    have k_law_box := ok_law_box (P := P) (w := w) (base := base) hK B F_law_box
    have k_law := ok_law (P := P) (w := w) (base := base) hK B F_law k_law_cells k_law_by_hand_right k_law_right k_law_box
    exact k_law
  obtain ⟨fd, FL⟩ := c.def_ 35 (d := d_law) rfl
  have e := hfa.symm.trans (He.glo_ok X G (c.fact 35 (f := .glo "law") rfl))
  cases e
  have b := FunD.bindsA (ps := p_law) FL b_law
  refine ⟨fd, fun s v => b s [v] rfl, fun base _ _ => ?_⟩
  obtain ⟨⟨f', fd', a1, a2, a3, a4⟩, _, _⟩ := all base
  cases hfa.symm.trans a2
  obtain rfl : fd = fd' := fund_eq FL a3
  exact a1
end LW
open PySem PySem.W PySem.Calls PyProof.Rows
theorem PySem.Challenge.cw_anyhands_k55_what_is_no_such_text_holds : PySem.Challenge.rw_anyhands_k55_what_is_no_such_text.Holds := by
  w_on; o_law
  refine HandSHeadRun.head_any (r := OpenLaw.row PySem.Challenge.rw_anyhands_k55_what_is_no_such_text) (q := view (OpenLaw.row PySem.Challenge.rw_anyhands_k55_what_is_no_such_text).prog [48]) (H := LW.hk) (ob := LW.ob) (M := 3000) (loose := LW.names) (d := HandSHeadRun.topDef (OpenLaw.row PySem.Challenge.rw_anyhands_k55_what_is_no_such_text).prog 48) (kwd := []) LW.ob_eq
    (by kernel_rfl) (fun s => by kernel_rfl) LW.run (by kernel_rfl) (by kernel_rfl) (by kernel_rfl) (by rfl) (by first | assumption | decide +kernel) (by decide +kernel) ⟨rfl, rfl, rfl, rfl, rfl, by decide +kernel⟩ ?hw ?hc
  case hw => w_witness2
  case hc =>
    refine @AH.walk_ofW ⟨[], []⟩ PySem.Challenge.rw_anyhands_k55_what_is_no_such_text 63 36 _ _ _ _ _ "_law_script" rfl (by decide) (by kernel_rfl) ⟨rfl, by decide, by decide⟩ ?F
    intro w mg fa h Y G hmg0
    obtain ⟨K, KX, c, hck, hfx⟩ := Y
    have hmg : mg ("law" : PySem.Str) = some (.ref fa) := by
      have e : (HandSHeadRun.topDef (OpenLaw.row PySem.Challenge.rw_anyhands_k55_what_is_no_such_text).prog 48).name = ("law" : PySem.Str) := by kernel_rfl
      rw [← e]
      exact hmg0
    obtain ⟨fd, hb, hF⟩ := LW.facts (P := (PySem.Challenge.rw_anyhands_k55_what_is_no_such_text).prog) (w := w) KX G hmg c hck hfx (by kernel_rfl) rfl
    exact ⟨K, fd, @AH.spD (LW.tkI K) .s K LW.n_law [.ro] LW.f_law, KX, hb, fun H a ns hl _ hS => @AH.law_sp (LW.tkI K) _ _ _ _ _ _ hS (by decide) (@AH.law_true (LW.tkI K) ns hl), hF⟩
