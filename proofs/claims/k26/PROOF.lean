import PyProof.Rows.All
import Wide.All
import OpenK.AllK
import Wide.FinOn
import HandS.ForMost
import HandS.Exc
import HandS.Lambda
import HandS.Walk
import HandS.TupAny
import HandS.Wide
import HandS.Deep
import HandS.IsInst
import HandS.SortInts
import HandS.Flow
import HandS.SortOrd
import KE.GoesEnum
import KE.GoesMore
import HandS.Zip
import HandS.Rev
import HandS.RevRange
import HandS.Conv
import HandS.TryOnly
import HandS.Style
import HandS.ExcOwn
import HandS.ExcField
import HandS.Dict
import KE.KExcIs
import HandS.EndTab
import HandS.TryMany
import HandS.DictComp
import HandS.HeadWalk
import KE.KExcSuper
import HandS.ExcInit
import HandS.HeadHook4
import HandS.NestedK
import HandS.Head2
import PyProof.ReprLen
import PySem.Challenge.RW_swaprise_k26_whole_least_partners
set_option Elab.async false
set_option linter.all false
set_option maxRecDepth 100000
/-! Sw, part A: plain data, an own small language without positions, its interpreter. -/
namespace Sw
open PySem

/-- a key of a dict: an int or a text; a tuple of them -/
abbrev Ky := L2.Key ⊕ List L2.Key
/-- plain data: what a value of the program denotes -/
inductive D where
  | non | bl (b : Bool) | int (i : Int) | str (x : Str)
  | tup (ds : List D) | lst (ds : List D)
  | ins (C : Str) (fs : List (Str × D))
  | cell (n : Nat)
  | fn (f : Str)
  | seqI (ns : List Int)
  | dct (t : Bool) (kvs : List (Ky × D))
  deriving Inhabited

/-- shared objects, changed in place: dicts with written text keys (the law's pen), lists -/
inductive Cell where
  | dic (kvs : List (Str × D))
  | lst (ds : List D)
  deriving Inhabited
abbrev Store := List Cell

/-- what a local name holds: a value; a list that this name alone holds; a caught error -/
inductive Slot where
  | sh (d : D)
  | ow (ds : List D)
  | exc (C : Str) (fs : List (Str × D))
  | thk
  deriving Inhabited
abbrev Fr := List (Option Slot)

inductive Res (α : Type) where
  | ok (a : α) (st : Store)
  | exn (C : Str) (fs : List (Str × D)) (st : Store)
  | bad
def M (α : Type) : Type := Store → Res α
def M.pure {α : Type} (a : α) : M α := fun st => .ok a st
def M.bind {α β : Type} (m : M α) (f : α → M β) : M β := fun st => match m st with
  | .ok a st' => f a st'
  | .exn C fs st' => .exn C fs st'
  | .bad => .bad
instance : Monad M where
  pure := M.pure
  bind := M.bind
def M.bad {α : Type} : M α := fun _ => .bad
/-- of an option: none is bad -/
def M.of {α : Type} : Option α → M α
  | some a => M.pure a
  | none => M.bad
def M.guard (b : Bool) : M Unit := if b then M.pure () else M.bad
/-- no error may leave -/
def M.nox {α : Type} (m : M α) : M α := fun st => match m st with
  | .ok a st' => .ok a st'
  | .exn _ _ _ => .bad
  | .bad => .bad

/-- targets -/
inductive T where
  | nm (i : Nat)
  | tu (ts : List T)
  deriving Inhabited
inductive BI where
  | len | tuple | list | sorted | sum | all | any | max1 | min1 | max2 | min2 | abs | int | str | repr | bool
  deriving DecidableEq, Inhabited
mutual
inductive E where
  | var (i : Nat) | gl (x : Str)
  | int (i : Int) | str (x : Str) | bl (b : Bool) | non
  | tup (es : List E) | lst (es : List E)
  | bin (op : Operator) (a b : E) | neg (a : E) | not (a : E)
  | bop (conj : Bool) (es : List E)
  | cmp (op : CmpOp) (a b : E) | chain (op op2 : CmpOp) (a b c : E)
  | ite (c a b : E)
  | idx (a i : E)
  | ix (a i : E) | sl (a : E) (lo hi : Option E) | rev (a : E)
  | call (f : Str) (es : List E) | callv (i : Nat) | lam (g : Str) (body : E)
  | bi (b : BI) (es : List E)
  | lrng (es : List E) | trng (es : List E)
  | isi (e : E) (tys : List String)
  | lc (elt : E) (gs : List G)
  | excf (i : Nat) (f : Str) | exci (i : Nat) (cs : List Str)
  | cget (c : E) (k : Str)
  | disp (ks : List Str) (es : List E)
  | chain3 (op op2 op3 : CmpOp) (a b c d : E)
  | get2 (a k d : E)
  | ddsp (ks vs : List E)
  | dcomp (ke ve : E) (g : G)
inductive Wk where
  | seq (e : E) | rng (es : List E) | enum (e : E) | zip (a b : E) | rev (e : E) | revrng (es : List E)
inductive G where
  | mk (own : List Nat) (t : T) (it : Wk) (cs : List E)
end
instance : Inhabited E := ⟨.non⟩
inductive S where
  | asg (t : T) (e : E)
  | own (i : Nat) (e : E)
  | par (is : List (Bool × Nat)) (es : List E)
  | app (i : Nat) (e : E)
  | pop (t : Option T) (i : Nat) (k : Option E)
  | apppop (i j : Nat) (k : Option E)
  | setix (i : Nat) (k e : E)
  | set2 (i : Nat) (k1 k2 e1 e2 : E)
  | cset (c : E) (k : Str) (e : E)
  | ifs (c : E) (a b : List S)
  | for (t : T) (it : Wk) (b : List S)
  | while (c : E) (b : List S)
  | ret (e : E) | reto (e : E) | retN
  | raise (C : Str) (es : List E)
  | try (b : List S) (hs : List (Str × Option Nat × List S))
  | ex (e : E) | pass | brk | cont
  | frz (i : Nat)
  | aug (i : Nat) (op : Operator) (e : E)
  | ext (i : Nat) (e : E)
instance : Inhabited S := ⟨.pass⟩
end Sw

set_option Elab.async false
set_option linter.all false
set_option maxRecDepth 100000
/-! Sw, part B: the interpreter. -/
namespace Sw
open PySem

/-- plain data as the library's data (for ==, in, repr) -/
def D.py : D → Option PyData
  | .non => some .none
  | .bl b => some (.bool b)
  | .int i => some (.int i)
  | .str x => some (.str x)
  | .tup ds => (pys ds).map .tuple
  | .lst ds => (pys ds).map .list
  | _ => none
where pys : List D → Option (List PyData)
  | [] => some []
  | d :: ds => match D.py d, pys ds with
    | some p, some ps => some (p :: ps)
    | _, _ => none

/-- == -/
def eqD (d e : D) : Option Bool := match d.py, e.py with
  | some p, some q => if SeqAt.shaped p && SeqAt.shaped q then some (PyData.eqv p q) else none
  | _, _ => none
/-- in, over a row -/
def inR (a b : D) : Option Bool := match a.py, b.py with
  | some p, some (.list ps) => if SeqAt.shaped p && SeqAt.shaped (.list ps) then some (ps.any fun z => PyData.eqv z p) else none
  | some p, some (.tuple ps) => if SeqAt.shaped p && SeqAt.shaped (.tuple ps) then some (ps.any fun z => PyData.eqv z p) else none
  | _, _ => none
def intL : List D → Option (List Int)
  | [] => some []
  | .int i :: ds => (intL ds).map (i :: ·)
  | _ => none
def bools : List D → Option (List Bool)
  | [] => some []
  | .bl i :: ds => (bools ds).map (i :: ·)
  | _ => none
def okLen (n : Nat) : Bool := decide (n ≤ sizeLine)

def cell? (st : Store) (n : Nat) : Option Cell := st[n]?
/-- a row: the items of a list or a tuple -/
def rowOf : D → Option (List D)
  | .tup ds => some ds
  | .lst ds => some ds
  | _ => none

/-! dicts: t says that the keys are tuples -/
def keyA : D → Option L2.Key
  | .int i => some (.inl i)
  | .str x => some (.inr x)
  | _ => none
def keysA : List D → Option (List L2.Key)
  | [] => some []
  | d :: ds => match keyA d, keysA ds with
    | some k, some ks => some (k :: ks)
    | _, _ => none
def keyD (t : Bool) : D → Option Ky
  | .int i => if t then none else some (.inl (.inl i))
  | .str x => if t then none else some (.inl (.inr x))
  | .tup ds => if t then (keysA ds).map .inr else none
  | _ => none
def unkA : L2.Key → D
  | .inl i => .int i
  | .inr x => .str x
def unkD : Ky → D
  | .inl k => unkA k
  | .inr ks => .tup (ks.map unkA)
def getY (kvs : List (Ky × D)) (k : Ky) : Option D := (kvs.find? fun kv => decide (kv.1 = k)).map (·.2)
def putY (kvs : List (Ky × D)) (k : Ky) (v : D) : List (Ky × D) := if (kvs.any fun kv => decide (kv.1 = k)) = true then kvs.map fun kv => if kv.1 = k then (kv.1, v) else kv else kvs ++ [(k, v)]
/-- in -/
def inD (a : D) : D → Option Bool
  | .dct t kvs => (keyD t a).map fun k => (getY kvs k).isSome
  | b => inR a b
/-- pairs, the later ones win -/
def dctP (t : Bool) : List D → List (Ky × D) → Option (List (Ky × D))
  | [], acc => some acc
  | .tup [k, v] :: r, acc => (keyD t k).bind fun y => dctP t r (putY acc y v)
  | _, _ => none
/-- what may be walked, made a list or a tuple: a row, or the ints that the law got; a dict by its keys -/
def listO : D → Option (List D)
  | .seqI ns => some (ns.map .int)
  | d => rowOf d
/-- what is walked by for -/
def walkOf : D → Option (List D)
  | .dct _ kvs => some (kvs.map fun kv => unkD kv.1)
  | d => listO d

def lexI : List Int → List Int → Bool
  | [], [] => false
  | [], _ :: _ => true
  | _ :: _, [] => false
  | x :: xs, y :: ys => if x = y then lexI xs ys else decide (x < y)

def cmpD : CmpOp → D → D → Option Bool
  | .Eq, a, b => eqD a b
  | .NotEq, a, b => (eqD a b).map (!·)
  | .Lt, .int i, .int j => some (decide (i < j))
  | .LtE, .int i, .int j => some (decide (i ≤ j))
  | .Gt, .int i, .int j => some (decide (j < i))
  | .GtE, .int i, .int j => some (decide (j ≤ i))
  | .Lt, .tup a, .tup b => match intL a, intL b with
    | some x, some y => some (lexI x y)
    | _, _ => none
  | .In, a, b => inD a b
  | .NotIn, a, b => (inD a b).map (!·)
  | .Is, a, .non => some (match a with | .non => true | _ => false)
  | .IsNot, a, .non => some (match a with | .non => false | _ => true)
  | _, _, _ => none

def cmul (i j : Int) : Bool := decide (i.natAbs.log2 + j.natAbs.log2 < 1000000)
def binD : Operator → D → D → Option D
  | .Add, .int i, .int j => some (.int (i + j))
  | .Add, .int i, .bl k => some (.int (i + if k then 1 else 0))
  | .Sub, .int i, .int j => some (.int (i - j))
  | .Mult, .int i, .int j => if cmul i j then some (.int (i * j)) else none
  | .FloorDiv, .int i, .int j => if decide (j ≠ 0 ∧ j.natAbs < 1073741824) then some (.int (i.fdiv j)) else if decide (0 < j ∧ j.natAbs.log2 < 9000) then some (.int (i / j)) else none
  | .Mod, .int i, .int j => if decide (j ≠ 0) then some (.int (i.fmod j)) else none
  | .Pow, .int i, .int j => if decide (0 ≤ j ∧ j ≤ 1000000 ∧ i.natAbs < 2 ^ 64) then some (.int (i ^ j.toNat)) else none
  | .BitAnd, .int i, .int j => some (.int (Builtin.bitAnd i j))
  | .RShift, .int i, .int j => if decide (0 ≤ j) then some (.int (i / 2 ^ j.toNat)) else none
  | .Add, .str a, .str b => if okLen (a.length + b.length) then some (.str (a ++ b)) else none
  | .Add, .tup a, .tup b => if okLen (a.length + b.length) then some (.tup (a ++ b)) else none
  | .Add, .lst a, .lst b => if okLen (a.length + b.length) then some (.lst (a ++ b)) else none
  | .Mult, .lst a, .int k => if decide (-(2 ^ 63) ≤ k ∧ k < 2 ^ 63 ∧ a.length * k.toNat ≤ sizeLine) then some (.lst (List.replicate k.toNat a).flatten) else none
  | _, _, _ => none

/-- the place that an index names -/
def ixD (n : Nat) (i : Int) : Option Nat := if 0 ≤ i then (if i < n then some i.toNat else none) else if -(n : Int) ≤ i then some (i + n).toNat else none
def itemD : D → D → Option D
  | .tup ds, .int i => (ixD ds.length i).bind fun j => ds[j]?
  | .lst ds, .int i => (ixD ds.length i).bind fun j => ds[j]?
  | .str z, .int i => if okLen z.length then (ixD z.cps.toList.length i).bind fun j => z.cps.toList[j]?.map fun c => .str ⟨#[c]⟩ else none
  | .dct t kvs, y => (keyD t y).bind fun k => getY kvs k
  | _, _ => none
/-- d.get(k, x) -/
def dctD : D → Option (Bool × List (Ky × D))
  | .dct t kvs => some (t, kvs)
  | _ => none
def get2D (p : Bool × List (Ky × D)) (y x : D) : Option D := (keyD p.1 y).map fun k => (getY p.2 k).getD x
/-- a bound of a slice -/
def bndD (n d : Nat) : Option Int → Nat
  | none => d
  | some v => if v < 0 then (v + n).toNat else min v.toNat n
def cutD {α : Type} (xs : List α) (lo hi : Option Int) : List α := (xs.drop (bndD xs.length 0 lo)).take (bndD xs.length xs.length hi - bndD xs.length 0 lo)
def sliceD (lo hi : Option Int) : D → Option D
  | .tup ds => some (.tup (cutD ds lo hi))
  | .lst ds => some (.lst (cutD ds lo hi))
  | _ => none
def revD : D → Option D
  | .tup ds => some (.tup ds.reverse)
  | .lst ds => some (.lst ds.reverse)
  | _ => none
def truthD : D → Option Bool
  | .bl b => some b
  | .non => some false
  | .int i => some (i != 0)
  | .str z => if okLen z.length then some (z.length != 0) else none
  | .tup ds => some !ds.isEmpty
  | .lst ds => some !ds.isEmpty
  | _ => none
/-- the built-in type's name of a value -/
def tyD : D → Option String
  | .bl _ => some "bool"
  | .int _ => some "int"
  | .str _ => some "str"
  | .tup _ => some "tuple"
  | .lst _ => some "list"
  | .non => some "NoneType"
  | _ => none
def tyNames : List String := ["bool", "int", "str", "tuple", "list", "NoneType"]
def isTy (d : D) (T : String) : Option Bool := match tyD d with
  | some U => if tyNames.contains T then some (U == T || (U == "bool" && T == "int")) else none
  | none => none
def isTys (d : D) : List String → Option Bool
  | [] => some false
  | T :: r => match isTy d T, isTys d r with
    | some a, some b => some (a || b)
    | _, _ => none
/-- items of a range -/
def rangeI (lo : Int) (n : Nat) (c : Int) : List D := (List.range n).map fun (i : Nat) => D.int (lo + i * c)
def rgSmall (i : Int) : Bool := decide (-(2 ^ 62) ≤ i ∧ i < 2 ^ 62)
def stepN (i j c : Int) : Option Nat :=
  if c = -1 then some (i - j).toNat else none
def rangeD : List D → Option (List D)
  | [.int j] => if rgSmall j then some (rangeI 0 j.toNat 1) else none
  | [.int i, .int j] => if rgSmall i && rgSmall j then some (rangeI i (j - i).toNat 1) else none
  | [.int i, .int j, .int c] => if rgSmall i && rgSmall j then (stepN i j c).map fun n => rangeI i n c else none
  | _ => none

def mins : List Int → Option Int
  | [] => none
  | [x] => some x
  | x :: r => (mins r).map fun y => if y < x then y else x
def maxs : List Int → Option Int
  | [] => none
  | [x] => some x
  | x :: r => (maxs r).map fun y => if x < y then y else x
def insI (x : Int) : List Int → List Int
  | [] => [x]
  | y :: r => if x ≤ y then x :: y :: r else y :: insI x r
def sortI : List Int → List Int
  | [] => []
  | x :: r => insI x (sortI r)
def insL (x : List Int) : List (List Int) → List (List Int)
  | [] => [x]
  | y :: r => if lexI y x then y :: insL x r else x :: y :: r
def sortL : List (List Int) → List (List Int)
  | [] => []
  | x :: r => insL x (sortL r)
def rowsI : List D → Option (List (List Int))
  | [] => some []
  | .tup ds :: r => match intL ds, rowsI r with
    | some x, some y => some (x :: y)
    | _, _ => none
  | _ => none
def sortedD (ds : List D) : Option (List D) := match intL ds with
  | some ns => some ((sortI ns).map .int)
  | none => none
def lstOf : D → Option (List D)
  | .lst ds => some ds
  | _ => none
/-- l.index(x) -/
def idxD (xs : List D) (y : D) : Option D := match (D.lst xs).py, y.py with
  | some (.list ps), some p => if SeqAt.shaped (.list ps) && SeqAt.shaped p then (ps.findIdx? fun z => PyData.eqv z p).map fun j => .int (j : Nat) else none
  | _, _ => none
def reprD (d : D) : Option Str := match d.py with
  | some p => if p.showable && decide (p.depth ≤ 32) && okLen p.shown.length then some p.shown else none
  | none => none

def biD : BI → List D → Option D
  | .len, [d] => match d with
    | .tup ds => some (.int ds.length)
    | .lst ds => some (.int ds.length)
    | .str z => if okLen z.length then some (.int z.length) else none
    | _ => none
  | .tuple, [d] => (rowOf d).map .tup
  | .list, [d] => (listO d).map .lst
  | .sorted, [d] => (rowOf d).bind fun ds => (sortedD ds).map .lst
  | .sum, [d] => (lstOf d).bind fun ds => (intL ds).map fun ns => .int ns.sum
  | .all, [d] => (lstOf d).bind fun ds => (bools ds).map fun bs => .bl (bs.all id)
  | .any, [d] => (lstOf d).bind fun ds => (bools ds).map fun bs => .bl (bs.any id)
  | .max1, [d] => (lstOf d).bind fun ds => (intL ds).bind fun ns => (maxs ns).map .int
  | .min1, [d] => (lstOf d).bind fun ds => (intL ds).bind fun ns => (mins ns).map .int
  | .max2, [.int i, .int j] => some (.int (if j > i then j else i))
  | .min2, [.int i, .int j] => some (.int (if j < i then j else i))
  | .abs, [.int i] => some (.int (if i < 0 then -i else i))
  | .int, [.int i] => some (.int i)
  | .int, [.bl k] => some (.int (if k then 1 else 0))
  | .str, [.int i] => if decide (i.natAbs.log2 < 1920) then some (.str (toString i)) else none
  | .repr, [d] => (reprD d).map .str
  | _, _ => none
def D.ofSlot : Slot → Option D
  | .sh d => some d
  | .ow ds => some (.lst ds)
  | _ => none

/-- a target is stored -/
def bindT : T → D → Fr → Option Fr
  | .nm i, d, δ => if i < δ.length then some (δ.set i (some (.sh d))) else none
  | .tu ts, d, δ => match rowOf d with
    | some ds => binds ts ds δ
    | none => none
where binds : List T → List D → Fr → Option Fr
  | [], [], δ => some δ
  | t :: ts, d :: ds, δ => (bindT t d δ).bind fun δ' => binds ts ds δ'
  | _, _, _ => none
def wipeF (δ : Fr) : List Nat → Fr
  | [] => δ
  | v :: vs => (wipeF δ vs).set v none

/-- what the program around is: calls (by name, of values), module constants, the lambda handed in -/
structure Ctx where
  call : Str → List D → M Slot
  /-- a def called with a lambda: what the lambda is worth, by the calls that it may make -/
  callT : Str → ((Str → List D → M Slot) → M D) → M Slot
  glob : Str → Option D
  sub : Str → Str → Option Bool
  fields : Str → List Str
  thunk : Option (M D)

/-- a value that is only looked at: a list that a name alone holds may be meant -/
def borV (δ : Fr) (i : Nat) : Option D := (δ[i]?).bind fun o => o.bind D.ofSlot
def lookV (δ : Fr) (i : Nat) : Option D := match δ[i]? with
  | some (some (.sh d)) => some d
  | _ => none

abbrev Ev := Fr → M D
/-- a value that is only looked at -/
def borM (e : E) (m : Ev) : Ev := match e with
  | .var i => fun δ => M.of (borV δ i)
  | _ => m
def borI (bor : Bool) (e : E) (m : Ev) : Ev := if bor then borM e m else m
def seqM : List (E × Ev) → Fr → M (List D)
  | [], _ => M.pure []
  | (_, m) :: r, δ => M.bind (m δ) fun d => M.bind (seqM r δ) fun ds => M.pure (d :: ds)
def seqB : List (E × Ev) → Fr → M (List D)
  | [], _ => M.pure []
  | (e, m) :: r, δ => M.bind (borM e m δ) fun d => M.bind (seqB r δ) fun ds => M.pure (d :: ds)
/-- and, or as a value -/
def seqW (cj : Bool) : List (E × Ev) → Ev
  | [], _ => M.bad
  | [(_, m)], δ => m δ
  | (_, m) :: r, δ => M.bind (m δ) fun d => M.bind (M.of (truthD d)) fun b => if b = cj then seqW cj r δ else M.pure d
def testM (e : E) (m : Ev) (δ : Fr) : M Bool := M.bind (borM e m δ) fun d => M.of (truthD d)
def seqC : List (E × Ev) → Fr → M Bool
  | [], _ => M.pure true
  | (e, m) :: r, δ => M.bind (testM e m δ) fun b => if b then seqC r δ else M.pure false
def optM : Option Ev → Fr → M (Option Int)
  | none, _ => M.pure none
  | some m, δ => M.bind (m δ) fun d => match d with
    | .int i => M.pure (some i)
    | _ => M.bad
def foldG (body : D → Fr → List D → M (List D)) (δ : Fr) : List D → List D → M (List D)
  | [], acc => M.pure acc
  | d :: ds, acc => M.bind (body d δ acc) fun acc' => foldG body δ ds acc'
abbrev GSem := List Nat × T × (Fr → M (List D)) × List (E × Ev)
def runG (leaf : Fr → List D → M (List D)) : List GSem → Fr → List D → M (List D)
  | [], δ, acc => leaf δ acc
  | (own, t, it, cs) :: gs, δ, acc => M.bind (it δ) fun items => foldG (fun d δ acc => M.bind (M.of (bindT t d δ)) fun δ' => M.bind (seqC cs δ') fun c => if c then runG leaf gs δ' acc else M.pure acc) (wipeF δ own) items acc
def leafM (m : Ev) (δ : Fr) (acc : List D) : M (List D) := M.bind (m δ) fun d => M.bind (M.guard (decide (acc.length < sizeLine))) fun _ => M.pure (acc ++ [d])
def lcM (leaf : Fr → List D → M (List D)) : List GSem → Ev
  | [], _ => M.bad
  | (own, t, it, cs) :: gs, δ => M.bind (it δ) fun items => M.bind (M.nox (foldG (fun d δ acc => M.bind (M.of (bindT t d δ)) fun δ' => M.bind (seqC cs δ') fun c => if c then runG leaf gs δ' acc else M.pure acc) (wipeF δ own) items [])) fun r => M.pure (.lst r)
/-- [k, v] for a dict -/
def pairM (mk mv : Ev) : Ev := fun δ => M.bind (mk δ) fun k => M.bind (M.of (keyD false k)) fun _ => M.bind (mv δ) fun v => M.pure (.tup [k, v])
def seqP : List (E × Ev) → List (E × Ev) → Fr → M (List D)
  | [], [], _ => M.pure []
  | (_, k) :: ks, (_, v) :: vs, δ => M.bind (pairM k v δ) fun d => M.bind (seqP ks vs δ) fun ds => M.pure (d :: ds)
  | _, _, _ => M.bad
def dctM (r : D) : M D := M.of ((lstOf r).bind fun ds => (dctP false ds []).map (.dct false))
def cgetM (d : D) (k : Str) : M D := fun st => match d with
  | .cell n => (match st[n]? with
    | some (.dic kvs) => M.of (kvs.lookup k) st
    | _ => .bad)
  | _ => .bad
/-- a new dict with written text keys -/
def dispM (ks : List Str) (ds : List D) : M D := fun st => if decide (ks.Nodup ∧ ds.length = ks.length) then .ok (.cell st.length) (st ++ [.dic (ks.zip ds)]) else .bad
def negD : D → Option D
  | .int i => some (.int (-i))
  | _ => none
def okRow (ds : List D) : M (List D) := M.bind (M.guard (okLen ds.length)) fun _ => M.pure ds
def enumD (ds : List D) : List D := ds.zipIdx.map fun p => .tup [.int p.2, p.1]
def zipD (ds es : List D) : List D := (ds.zip es).map fun p => .tup [p.1, p.2]
/-- lists with lists, tuples with tuples -/
def zipM (d e : D) : Option (List D) := match d, e with
  | .tup a, .tup b => some (zipD a b)
  | .lst a, .lst b => some (zipD a b)
  | _, _ => none

/-- what a call hands back: as a value; as a list that nobody else has -/
def shM (m : M Slot) : M D := M.bind m fun s => M.of (D.ofSlot s)
def owM (m : M Slot) : M D := M.bind m fun s => match s with
  | .ow ds => M.pure (.lst ds)
  | _ => M.bad
/-- for a lambda's body -/
abbrev Ctx.low (C : Ctx) (c : Str → List D → M Slot) : Ctx := { C with call := c, callT := fun _ _ => M.bad, thunk := none }
/-- is a caught error one of these classes -/
def subAny (sub : Str → Str → Option Bool) (c : Str) : List Str → Option Bool
  | [] => some false
  | h :: r => match sub c h, subAny sub c r with
    | some b1, some b2 => some (b1 || b2)
    | _, _ => none
mutual
def ev (C : Ctx) : E → Ev
  | .var i => fun δ => M.of (lookV δ i)
  | .gl x => fun _ => M.of (C.glob x)
  | .int i => fun _ => M.pure (.int i)
  | .str x => fun _ => M.pure (.str x)
  | .bl b => fun _ => M.pure (.bl b)
  | .non => fun _ => M.pure .non
  | .tup es => fun δ => M.bind (seqM (evl C es) δ) fun ds => M.bind (okRow ds) fun ds => M.pure (.tup ds)
  | .lst es => fun δ => M.bind (seqM (evl C es) δ) fun ds => M.bind (okRow ds) fun ds => M.pure (.lst ds)
  | .bin op a b => fun δ => M.bind (borM a (ev C a) δ) fun x => M.bind (borM b (ev C b) δ) fun y => M.of (binD op x y)
  | .neg a => fun δ => M.bind (ev C a δ) fun x => M.of (negD x)
  | .not a => fun δ => M.bind (testM a (ev C a) δ) fun b => M.pure (.bl (!b))
  | .bop cj es => seqW cj (evl C es)
  | .cmp op a b => fun δ => M.bind (borM a (ev C a) δ) fun x => M.bind (borM b (ev C b) δ) fun y => M.bind (M.of (cmpD op x y)) fun r => M.pure (.bl r)
  | .chain op op2 a b c => fun δ => M.bind (borM a (ev C a) δ) fun x => M.bind (borM b (ev C b) δ) fun y => M.bind (M.of (cmpD op x y)) fun r =>
      if r then M.bind (borM c (ev C c) δ) fun z => M.bind (M.of (cmpD op2 y z)) fun r2 => M.pure (.bl r2) else M.pure (.bl false)
  | .ite c a b => fun δ => M.bind (testM c (ev C c) δ) fun r => if r then ev C a δ else ev C b δ
  | .idx a i => fun δ => M.bind (borM a (ev C a) δ) fun x => M.bind (M.of (lstOf x)) fun xs => M.bind (ev C i δ) fun y => M.of (idxD xs y)
  | .ix a i => fun δ => M.bind (borM a (ev C a) δ) fun x => M.bind (ev C i δ) fun y => M.of (itemD x y)
  | .sl a lo hi => fun δ => M.bind (borM a (ev C a) δ) fun x => M.bind (optM (evo C lo) δ) fun l => M.bind (optM (evo C hi) δ) fun h => M.of (sliceD l h x)
  | .rev a => fun δ => M.bind (borM a (ev C a) δ) fun x => M.of (revD x)
  | .call f es => fun δ => shM (M.bind (seqM (evl C es) δ) fun ds => C.call f ds)
  | .callv i => fun δ => match δ[i]?, C.thunk with
    | some (some .thk), some t => t
    | _, _ => M.bad
  | .lam g b => fun δ => shM (C.callT g fun c => ev (C.low c) b δ)
  | .bi b es => fun δ => M.bind (seqB (evl C es) δ) fun ds => M.of (biD b ds)
  | .lrng es => fun δ => M.bind (seqM (evl C es) δ) fun ds => M.bind (M.of (rangeD ds)) fun r => M.bind (okRow r) fun r => M.pure (.lst r)
  | .trng es => fun δ => M.bind (seqM (evl C es) δ) fun ds => M.bind (M.of (rangeD ds)) fun r => M.bind (okRow r) fun r => M.pure (.tup r)
  | .isi e tys => fun δ => M.bind (borM e (ev C e) δ) fun x => M.bind (M.of (isTys x tys)) fun r => M.pure (.bl r)
  | .lc elt gs => lcM (leafM (ev C elt)) (evg C true gs)
  | .excf i f => fun δ => match δ[i]? with
    | some (some (.exc _ fs)) => M.of (fs.lookup f)
    | _ => M.bad
  | .exci i cs => fun δ => match δ[i]? with
    | some (some (.exc c _)) => M.bind (M.of (subAny C.sub c cs)) fun b => M.pure (.bl b)
    | _ => M.bad
  | .cget c k => fun δ => M.bind (ev C c δ) fun x => cgetM x k
  | .disp ks es => fun δ => M.bind (seqM (evl C es) δ) fun ds => dispM ks ds
  | .chain3 op op2 op3 a b c d => fun δ => M.bind (borM a (ev C a) δ) fun x => M.bind (borM b (ev C b) δ) fun y => M.bind (M.of (cmpD op x y)) fun r =>
      if r then M.bind (borM c (ev C c) δ) fun z => M.bind (M.of (cmpD op2 y z)) fun r2 =>
        if r2 then M.bind (borM d (ev C d) δ) fun u => M.bind (M.of (cmpD op3 z u)) fun r3 => M.pure (.bl r3) else M.pure (.bl false)
      else M.pure (.bl false)
  | .get2 a k d => fun δ => M.bind (borM a (ev C a) δ) fun x => M.bind (M.of (dctD x)) fun p => M.bind (ev C k δ) fun y => M.bind (ev C d δ) fun z => M.of (get2D p y z)
  | .ddsp ks vs => fun δ => M.bind (seqP (evl C ks) (evl C vs) δ) fun ds => dctM (.lst ds)
  | .dcomp ke ve g => fun δ => M.bind (lcM (leafM (pairM (ev C ke) (ev C ve))) [evg1 C true g] δ) dctM
def evl (C : Ctx) : List E → List (E × Ev)
  | [] => []
  | e :: es => (e, ev C e) :: evl C es
def evo (C : Ctx) : Option E → Option Ev
  | none => none
  | some e => some (ev C e)
def evg (C : Ctx) (bor : Bool) : List G → List GSem
  | [] => []
  | .mk own t it cs :: gs => (own, t, evi C bor it, evl C cs) :: evg C false gs
def evg1 (C : Ctx) (bor : Bool) : G → GSem
  | .mk own t it cs => (own, t, evi C bor it, evl C cs)
def evi (C : Ctx) (bor : Bool) : Wk → Fr → M (List D)
  | .seq e => fun δ => M.bind (borI bor e (ev C e) δ) fun d => M.of (walkOf d)
  | .rng es => fun δ => M.bind (seqM (evl C es) δ) fun ds => M.of (rangeD ds)
  | .enum e => fun δ => M.bind (borI bor e (ev C e) δ) fun d => M.bind (M.of (rowOf d)) fun ds => M.pure (enumD ds)
  | .zip a b => fun δ => M.bind (borI bor a (ev C a) δ) fun x => M.bind (borI bor b (ev C b) δ) fun y => M.of (zipM x y)
  | .rev e => fun δ => M.bind (borI bor e (ev C e) δ) fun d => M.bind (M.of (rowOf d)) fun ds => M.pure ds.reverse
  | .revrng es => fun δ => M.bind (seqM (evl C es) δ) fun ds => M.bind (M.of (rangeD ds)) fun r => M.pure r.reverse
end


/-! ### statements -/
inductive Flow where
  | next (δ : Fr) | brk (δ : Fr) | cont (δ : Fr) | ret (s : Slot)
  | exc (C : Str) (fs : List (Str × D)) (δ : Fr)
abbrev Ex := Fr → M Flow
/-- an expression's value, or its error at this frame -/
def M.at {α : Type} (m : M α) (δ : Fr) (k : α → M Flow) : M Flow := fun st => match m st with
  | .ok a st' => k a st'
  | .exn C fs st' => .ok (.exc C fs δ) st'
  | .bad => .bad
def storeF (δ : Fr) (i : Nat) (s : Slot) : Option Fr := if i < δ.length then some (δ.set i (some s)) else none
def ownAt (δ : Fr) (i : Nat) : Option (List D) := match δ[i]? with
  | some (some (.ow ds)) => some ds
  | _ => none
/-- a list that a name alone holds becomes a value -/
def frzF (δ : Fr) (i : Nat) : Fr := match ownAt δ i with
  | some ds => δ.set i (some (.sh (.lst ds)))
  | none => δ
def popAt (ds : List D) : Option Int → Option (D × List D)
  | none => match ds[ds.length - 1]? with
    | some d => some (d, ds.dropLast)
    | none => none
  | some i => if decide (-(2 ^ 63) ≤ i ∧ i < 2 ^ 63) then (match ixD ds.length i with
    | some k => (match ds[k]? with
      | some d => some (d, ds.eraseIdx k)
      | none => none)
    | none => none) else none
def putAt (ds : List D) (j d : D) : Option (List D) := match j with
  | .int z => (ixD ds.length z).map fun n => ds.set n d
  | _ => none
def seqX : Ex → Ex → Ex := fun a b δ => M.bind (a δ) fun f => match f with
  | .next δ' => b δ'
  | f => M.pure f
def loopF (t : T) (body : Ex) : List D → Ex
  | [], δ => M.pure (.next δ)
  | d :: ds, δ => M.bind (M.of (bindT t d δ)) fun δ1 => M.bind (body δ1) fun f => match f with
    | .next δ' => loopF t body ds δ'
    | .cont δ' => loopF t body ds δ'
    | .brk δ' => M.pure (.next δ')
    | f => M.pure f
def loopW (c : Fr → M Bool) (body : Ex) : Nat → Ex
  | 0, _ => M.bad
  | n + 1, δ => M.at (c δ) δ fun b => if b then M.bind (body δ) fun f => match f with
      | .next δ' => loopW c body n δ'
      | .cont δ' => loopW c body n δ'
      | .brk δ' => M.pure (.next δ')
      | f => M.pure f
    else M.pure (.next δ)
abbrev HSem := Str × Option Nat × Ex
def noExc (δ : Fr) : Bool := δ.all fun o => match o with
  | some (.exc _ _) => false
  | _ => true
/-- a suite's end: the name, where there is one, goes; no error may leave -/
def hotEnd (n : Option Nat) : Flow → M Flow
  | .exc _ _ _ => M.bad
  | .ret s => M.pure (.ret s)
  | .next δ => M.bind (M.guard (noExc (offF n δ))) fun _ => M.pure (.next (offF n δ))
  | .brk δ => M.bind (M.guard (noExc (offF n δ))) fun _ => M.pure (.brk (offF n δ))
  | .cont δ => M.bind (M.guard (noExc (offF n δ))) fun _ => M.pure (.cont (offF n δ))
where offF : Option Nat → Fr → Fr
  | none, δ => δ
  | some i, δ => δ.set i none
def onF (c : Str) (fs : List (Str × D)) : Option Nat → Fr → Option Fr
  | none, δ => some δ
  | some i, δ => if i < δ.length then some (δ.set i (some (.exc c fs))) else none
def handle (sub : Str → Str → Option Bool) (c : Str) (fs : List (Str × D)) (δ : Fr) : List HSem → M Flow
  | [] => M.pure (.exc c fs δ)
  | (h, n, suite) :: r => M.bind (M.of (sub c h)) fun b => if b = true then M.bind (M.guard (noExc δ)) fun _ => M.bind (M.of (onF c fs n δ)) fun δ' => M.bind (suite δ') (hotEnd n) else handle sub c fs δ r
/-- x op= y, of ints -/
def augD : Operator → D → D → Option D
  | .Add, .int i, .int j => some (.int (i + j))
  | .Sub, .int i, .int j => some (.int (i - j))
  | _, _, _ => none
/-- a while's turns, at most -/
def wFuel : Nat := 100000
def csetM (d : D) (k : Str) (x : D) : M Unit := fun st => match d with
  | .cell n => (match st[n]? with
    | some (.dic kvs) => if (kvs.lookup k).isSome && decide (kvs.length < sizeLine) then .ok () (st.set n (.dic (kvs.map fun p => if p.1 = k then (k, x) else p))) else .bad
    | _ => .bad)
  | _ => .bad
/-- operations that make a list that nobody else has -/
def binF : Operator → D → D → Option D
  | .Add, .lst a, .lst b => binD .Add (.lst a) (.lst b)
  | .Mult, .lst a, .int k => binD .Mult (.lst a) (.int k)
  | _, _, _ => none
def sliceF (lo hi : Option Int) : D → Option D
  | .lst ds => some (.lst (cutD ds lo hi))
  | _ => none
def revF : D → Option D
  | .lst ds => some (.lst ds.reverse)
  | _ => none
/-- an expression whose value is a list that nobody else has -/
def evf (C : Ctx) (e : E) : Ev := match e with
  | .lst _ => ev C e
  | .lc _ _ => ev C e
  | .lrng _ => ev C e
  | .bi .list es => fun δ => M.bind (seqB (evl C es) δ) fun ds => M.of (biD .list ds)
  | .bi .sorted es => fun δ => M.bind (seqB (evl C es) δ) fun ds => M.of (biD .sorted ds)
  | .bin .Add a b => fun δ => M.bind (borM a (ev C a) δ) fun x => M.bind (borM b (ev C b) δ) fun y => M.of (binF .Add x y)
  | .bin .Mult a b => fun δ => M.bind (borM a (ev C a) δ) fun x => M.bind (borM b (ev C b) δ) fun y => M.of (binF .Mult x y)
  | .sl a lo hi => fun δ => M.bind (borM a (ev C a) δ) fun x => M.bind (optM (evo C lo) δ) fun l => M.bind (optM (evo C hi) δ) fun h => M.of (sliceF l h x)
  | .rev a => fun δ => M.bind (borM a (ev C a) δ) fun x => M.of (revF x)
  | .call f es => fun δ => owM (M.bind (seqM (evl C es) δ) fun ds => C.call f ds)
  | .lam g b => fun δ => owM (C.callT g fun c => ev (C.low c) b δ)
  | _ => fun _ => M.bad
/-- several values; those marked are lists that nobody else has -/
def seqS (C : Ctx) : List (Bool × Nat) → List E → Fr → M (List Slot)
  | [], [], _ => M.pure []
  | (true, _) :: bs, e :: es, δ => M.bind (evf C e δ) fun d => M.bind (M.of (lstOf d)) fun ds => M.bind (seqS C bs es δ) fun r => M.pure (.ow ds :: r)
  | (false, _) :: bs, e :: es, δ => M.bind (ev C e δ) fun d => M.bind (seqS C bs es δ) fun r => M.pure (.sh d :: r)
  | _, _, _ => M.bad
def storesF : List (Bool × Nat) → List Slot → Fr → Option Fr
  | [], [], δ => some δ
  | (_, i) :: is, s :: ss, δ => (storeF δ i s).bind fun δ' => storesF is ss δ'
  | _, _, _ => none

section
variable (C : Ctx)
mutual
def exec : S → Ex
  | .asg t e => fun δ => M.at (ev C e δ) δ fun d => M.bind (M.of (bindT t d δ)) fun δ' => M.pure (.next δ')
  | .own i e => fun δ => M.at (evf C e δ) δ fun d => M.bind (M.of (lstOf d)) fun ds => M.bind (M.of (storeF δ i (.ow ds))) fun δ' => M.pure (.next δ')
  | .par is es => fun δ => M.at (seqS C is es δ) δ fun ss => M.bind (M.of (storesF is ss δ)) fun δ' => M.pure (.next δ')
  | .app i e => fun δ => M.bind (M.of (ownAt δ i)) fun ds => M.at (ev C e δ) δ fun d => M.bind (M.guard (decide (ds.length < sizeLine))) fun _ => M.pure (.next (δ.set i (some (.ow (ds ++ [d])))))
  | .pop t i k => fun δ => M.bind (M.of (ownAt δ i)) fun ds => M.at (optM (evo C k) δ) δ fun o => M.bind (M.of (popAt ds o)) fun p =>
      (match t with
        | none => M.pure (.next (δ.set i (some (.ow p.2))))
        | some t => M.bind (M.of (bindT t p.1 (δ.set i (some (.ow p.2))))) fun δ' => M.pure (.next δ'))
  | .apppop i j k => fun δ => M.bind (M.of (ownAt δ i)) fun es => M.bind (M.of (ownAt δ j)) fun ds => M.at (optM (evo C k) δ) δ fun o => M.bind (M.of (popAt ds o)) fun p =>
      if i = j then M.bad else M.bind (M.guard (decide (es.length < sizeLine))) fun _ => M.pure (.next ((δ.set j (some (.ow p.2))).set i (some (.ow (es ++ [p.1])))))
  | .setix i k e => fun δ => M.bind (M.of (ownAt δ i)) fun ds => M.at (ev C e δ) δ fun d => M.at (ev C k δ) δ fun j => M.bind (M.of (putAt ds j d)) fun es => M.pure (.next (δ.set i (some (.ow es))))
  | .set2 i k1 k2 e1 e2 => fun δ => M.bind (M.of (ownAt δ i)) fun ds => M.at (ev C e1 δ) δ fun d1 => M.at (ev C e2 δ) δ fun d2 => M.at (ev C k1 δ) δ fun j1 => M.bind (M.of (putAt ds j1 d1)) fun es =>
      M.at (ev C k2 (δ.set i (some (.ow es)))) (δ.set i (some (.ow es))) fun j2 => M.bind (M.of (putAt es j2 d2)) fun fs => M.pure (.next (δ.set i (some (.ow fs))))
  | .cset c k e => fun δ => M.at (ev C e δ) δ fun d => M.at (ev C c δ) δ fun x => M.bind (csetM x k d) fun _ => M.pure (.next δ)
  | .ifs c a b => fun δ => M.at (testM c (ev C c) δ) δ fun r => if r then execs a δ else execs b δ
  | .for t it b => fun δ => M.at (evi C false it δ) δ fun items => loopF t (execs b) items δ
  | .while c b => fun δ => loopW (testM c (ev C c)) (execs b) wFuel δ
  | .ret e => fun δ => M.at (ev C e δ) δ fun d => M.pure (.ret (.sh d))
  | .reto (.var i) => fun δ => M.bind (M.of (ownAt δ i)) fun ds => M.pure (.ret (.ow ds))
  | .reto e => fun δ => M.at (evf C e δ) δ fun d => M.bind (M.of (lstOf d)) fun ds => M.pure (.ret (.ow ds))
  | .retN => fun _ => M.pure (.ret (.sh .non))
  | .raise c es => fun δ => M.at (seqM (evl C es) δ) δ fun ds => if ds.length = (C.fields c).length then M.pure (.exc c ((C.fields c).zip ds) δ) else M.bad
  | .try b hs => fun δ => M.bind (execs b δ) fun f => match f with
    | .exc c fs δ' => handle C.sub c fs δ' (exech hs)
    | f => M.pure f
  | .ex e => fun δ => M.at (ev C e δ) δ fun _ => M.pure (.next δ)
  | .pass => fun δ => M.pure (.next δ)
  | .brk => fun δ => M.pure (.brk δ)
  | .cont => fun δ => M.pure (.cont δ)
  | .frz i => fun δ => M.pure (.next (frzF δ i))
  | .aug i op e => fun δ => M.bind (M.of (lookV δ i)) fun x => M.at (ev C e δ) δ fun y => M.bind (M.of (augD op x y)) fun z => M.pure (.next (δ.set i (some (.sh z))))
  | .ext i e => fun δ => M.bind (M.of (ownAt δ i)) fun ds => M.at (ev C e δ) δ fun d => M.bind (M.of (lstOf d)) fun es => M.bind (M.guard (decide (ds.length + es.length ≤ sizeLine))) fun _ => M.pure (.next (δ.set i (some (.ow (ds ++ es)))))
def execs : List S → Ex
  | [] => fun δ => M.pure (.next δ)
  | s :: r => seqX (exec s) (execs r)
def exech : List (Str × Option Nat × List S) → List HSem
  | [] => []
  | (h, n, b) :: r => (h, n, execs b) :: exech r
end
/-- a def's body, called with values -/
def endM (m : M Flow) : M Slot := fun st => match m st with
  | .ok (.ret s) st' => .ok s st'
  | .ok (.next _) st' => .ok (.sh .non) st'
  | .ok (.exc c fs _) st' => .exn c fs st'
  | _ => .bad
def runBody (n : Nat) (body : List S) (ds : List Slot) : M Slot := endM (execs C body (ds.map some ++ List.replicate (n - ds.length) none))
end
/-- a def: its names' number, its parameters' number, its body -/
structure Def where
  names : Nat
  params : Nat
  body : List S
/-- what is common to a program's calls: its defs and constants -/
structure Prog where
  defs : Str → Option Def
  glob : Str → Option D
  sub : Str → Str → Option Bool
  fields : Str → List Str
abbrev Calls : Type := Str → List D → M Slot
def Calls.none : Calls := fun _ _ => M.bad
/-- a def with a lambda: c1 the calls of its own, c0 those of the lambda -/
def Prog.callT (p : Prog) (c1 c0 : Calls) (g : Str) (m : Calls → M D) : M Slot := match p.defs g with
  | some d => if d.params = 1 then runBody ⟨c1, fun _ _ => M.bad, p.glob, p.sub, p.fields, some (m c0)⟩ d.names d.body [Slot.thk] else M.bad
  | none => M.bad
def Prog.ctx (p : Prog) (c2 c1 c0 : Calls) : Ctx := ⟨c2, p.callT c1 c0, p.glob, p.sub, p.fields, none⟩
def Prog.next (p : Prog) (c2 c1 c0 : Calls) : Calls := fun f ds => match p.defs f with
  | some d => if ds.length = d.params then runBody (p.ctx c2 c1 c0) d.names d.body (ds.map Slot.sh) else M.bad
  | none => M.bad
def Prog.lv (p : Prog) : Nat → Calls × Calls × Calls
  | 0 => (Calls.none, Calls.none, Calls.none)
  | k + 1 => (p.next (p.lv k).1 (p.lv k).2.1 (p.lv k).2.2, (p.lv k).1, (p.lv k).2.1)
/-- a call, one in another at most k deep -/
def Prog.call (p : Prog) (k : Nat) : Calls := (p.lv k).1
end Sw

set_option Elab.async false
set_option linter.all false
set_option maxRecDepth 100000
/-! Sw, part C: how data lies in the abstract heap; steps; what is wanted of a result. -/
namespace Sw
open PySem PySem.Spec PyProof.Rows L2

abbrev Zs := Addr → Prop
/-- a tuple of the written part -/
def KTup (K : PySem.W.Frag) (a : Addr) (xs : List V) : Prop :=
  ∃ (o : Obj) (its : Array Value) (n : Nat), K.lookup a = some o ∧ o.cls = .type "tuple" ∧ o.data = .seq its n ∧ its.size ≤ sizeLine ∧ Vals xs its.toList
/-- a list of ints that nobody changes: the law's own argument -/
def SqI (K : PySem.W.Frag) (Z : Addr → Prop) (H : Hp) (a : Addr) (ns : List Int) : Prop :=
  (Rd H a (.lst (ns.map V.int)) ∧ Z a) ∨
    ∃ (o : Obj) (its : Array Value) (n : Nat), K.lookup a = some o ∧ o.cls = .type "list" ∧ o.dict = none ∧ o.data = .seq its n ∧ its.size ≤ sizeLine ∧ Vals (ns.map V.int) its.toList
structure Cfg where
  K : PySem.W.Frag
  tabs : List (Addr × Str)
  ca : Str → Addr

mutual
inductive Den (Y : Cfg) (Z : Zs) (ms : List Addr) (H : Hp) : V → D → Prop
  | non : Den Y Z ms H .non .non
  | bl (b : Bool) : Den Y Z ms H (.bl b) (.bl b)
  | int (i : Int) : Den Y Z ms H (.int i) (.int i)
  | str (x : Str) : Den Y Z ms H (.str x) (.str x)
  | tup {a : Addr} {xs : List V} {ds : List D} : H a = some (.tup xs) → Z a → DenL Y Z ms H xs ds → Den Y Z ms H (.ref a) (.tup ds)
  | tupK {a : Addr} {xs : List V} {ds : List D} : KTup Y.K a xs → DenL Y Z ms H xs ds → Den Y Z ms H (.ref a) (.tup ds)
  | lst {a : Addr} {xs : List V} {ds : List D} : H a = some (.lst xs) → Z a → DenL Y Z ms H xs ds → Den Y Z ms H (.ref a) (.lst ds)
  | cell {n : Nat} {a : Addr} : ms[n]? = some a → Den Y Z ms H (.ref a) (.cell n)
  | seqI {a : Addr} {ns : List Int} : SqI Y.K Z H a ns → Den Y Z ms H (.ref a) (.seqI ns)
  | dctK {a : Addr} {o : Obj} {vs : List (Key × V)} {kvs : List (Ky × D)} : H a = some (.frz o (.dK vs)) → Z a → vs.map (fun p => (Sum.inl p.1 : Ky)) = kvs.map (·.1) → DenL Y Z ms H (vs.map (·.2)) (kvs.map (·.2)) → Den Y Z ms H (.ref a) (.dct false kvs)
inductive DenL (Y : Cfg) (Z : Zs) (ms : List Addr) (H : Hp) : List V → List D → Prop
  | nil : DenL Y Z ms H [] []
  | cons {v : V} {d : D} {vs : List V} {ds : List D} : Den Y Z ms H v d → DenL Y Z ms H vs ds → DenL Y Z ms H (v :: vs) (d :: ds)
end

def CellAt (Y : Cfg) (Z : Zs) (ms : List Addr) (H : Hp) (a : Addr) : Cell → Prop
  | .dic kvs => ∃ vs : List (Key × V), H a = some (.dK vs) ∧ vs.map (·.1) = kvs.map (fun p => (Sum.inr p.1 : Key)) ∧ DenL Y Z ms H (vs.map (·.2)) (kvs.map (·.2))
  | .lst ds => ∃ xs, H a = some (.lst xs) ∧ DenL Y Z ms H xs ds
def Spc (Y : Cfg) (ms : List Addr) (a : Addr) : Prop := a ∈ ms ∨ a ∈ Y.tabs.map (·.1)
structure StOk (Y : Cfg) (Z : Zs) (ms : List Addr) (H : Hp) (st : Store) : Prop where
  zdom : ∀ a, Z a → H a ≠ none
  len : st.length = ms.length
  cells : ∀ (n : Nat) c a, st[n]? = some c → ms[n]? = some a → CellAt Y Z ms H a c
  nd : ms.Nodup
  zs : ∀ a, Spc Y ms a → ¬ Z a
  mt : ∀ a, a ∈ ms → a ∉ Y.tabs.map (·.1)
  tabs : LamX.Tabs Y.tabs H
/-- from one state to a later one: what is frozen, and what is not special, stays -/
structure Step (Y : Cfg) (Z : Zs) (ms : List Addr) (H : Hp) (Z' : Zs) (ms' : List Addr) (H' : Hp) (st' : Store) : Prop where
  ok : StOk Y Z' ms' H' st'
  zz : ∀ a, Z a → Z' a
  zn : ∀ a, Z' a → Z a ∨ H a = none
  mm : ms <+: ms'
  mn : ∀ a, a ∈ ms' → a ∈ ms ∨ H a = none
  kp : ∀ a o, H a = some o → ¬ Spc Y ms a → H' a = some o
variable {Y : Cfg} {Z Z1 Z2 : Zs} {ms ms1 ms2 : List Addr} {H H1 H2 : Hp} {st st1 st2 : Store}
theorem StOk.special (k : StOk Y Z ms H st) {a : Addr} (h : Spc Y ms a) : H a ≠ none := by
  rcases h with h | h
  · obtain ⟨n, hn⟩ := List.getElem?_of_mem h
    have hl : n < st.length := by
      have := (List.getElem?_eq_some_iff.mp hn).1
      have := k.len
      omega
    have c := k.cells n st[n] a (List.getElem?_eq_getElem hl) hn
    cases e : st[n] with
    | dic kvs => rw [e] at c; obtain ⟨vs, q, _⟩ := c; rw [q]; simp
    | lst ds => rw [e] at c; obtain ⟨vs, q, _⟩ := c; rw [q]; simp
  · obtain ⟨p, hp, e⟩ := List.mem_map.mp h
    obtain ⟨ps, q, _⟩ := k.tabs p hp
    rw [← e, q]; simp
theorem Step.refl (k : StOk Y Z ms H st) : Step Y Z ms H Z ms H st :=
  ⟨k, fun _ h => h, fun _ h => .inl h, List.prefix_rfl, fun _ h => .inl h, fun _ _ h _ => h⟩
theorem Step.trans (a : Step Y Z ms H Z1 ms1 H1 st1) (b : Step Y Z1 ms1 H1 Z2 ms2 H2 st2) (k : StOk Y Z ms H st) : Step Y Z ms H Z2 ms2 H2 st2 := by
  have spc : ∀ x, Spc Y ms x → Spc Y ms1 x := fun x h => h.imp (fun h => a.mm.subset h) id
  have kn : ∀ x, H1 x = none → H x = none := fun x h1 => by
    cases e : H x with
    | none => rfl
    | some o =>
      by_cases hs : Spc Y ms x
      · exact absurd h1 (a.ok.special (spc x hs))
      · rw [a.kp x o e hs] at h1; cases h1
  refine ⟨b.ok, fun x h => b.zz x (a.zz x h), fun x h => ?_, a.mm.trans b.mm, fun x h => ?_, fun x o h hs => ?_⟩
  · rcases b.zn x h with h | h
    · exact a.zn x h
    · exact .inr (kn x h)
  · rcases b.mn x h with h | h
    · exact a.mn x h
    · exact .inr (kn x h)
  · refine b.kp x o (a.kp x o h hs) fun q => ?_
    rcases q with q | q
    · rcases a.mn x q with q | q
      · exact hs (.inl q)
      · rw [h] at q; cases q
    · exact hs (.inr q)

theorem CellAt.imp {a : Addr} {c : Cell} {H' : Hp} {Z' : Zs} {ms' : List Addr} (h : CellAt Y Z ms H a c) (e : H' a = H a) (d : ∀ xs ds, DenL Y Z ms H xs ds → DenL Y Z' ms' H' xs ds) : CellAt Y Z' ms' H' a c := by
  cases c with
  | dic kvs => obtain ⟨vs, q, r, t⟩ := h; exact ⟨vs, e.trans q, r, d _ _ t⟩
  | lst ds => obtain ⟨xs, q, t⟩ := h; exact ⟨xs, e.trans q, d _ _ t⟩
theorem SqI.sq {K : PySem.W.Frag} {a : Addr} {ns : List Int} (h : SqI K Z H a ns) : SqL K H a (ns.map V.int) := h.imp (fun ⟨q, _⟩ => q) id
/-! data are the same where the frozen part is the same -/
mutual
theorem Den.mono {Z' : Zs} {ms' : List Addr} {H' : Hp} (zz : ∀ a, Z a → Z' a) (mm : ms <+: ms') (kp : ∀ a o, Z a → H a = some o → H' a = some o) :
    ∀ {v : V} {d : D}, Den Y Z ms H v d → Den Y Z' ms' H' v d
  | _, _, .non => .non
  | _, _, .bl b => .bl b
  | _, _, .int i => .int i
  | _, _, .str x => .str x
  | _, _, .tup e z r => .tup (kp _ _ z e) (zz _ z) (DenL.mono zz mm kp r)
  | _, _, .tupK e r => .tupK e (DenL.mono zz mm kp r)
  | _, _, .lst e z r => .lst (kp _ _ z e) (zz _ z) (DenL.mono zz mm kp r)
  | _, _, .cell (n := n) (a := a) e => .cell (by
      obtain ⟨t, rfl⟩ := mm
      rw [List.getElem?_append_left ((List.getElem?_eq_some_iff.mp e).1)]
      exact e)
  | _, _, .dctK e z k r => .dctK (kp _ _ z e) (zz _ z) k (DenL.mono zz mm kp r)
  | _, _, .seqI e => .seqI (e.imp (fun ⟨q, z⟩ => ⟨q.imp (fun q => kp _ _ z q) (fun ⟨o, q⟩ => ⟨o, kp _ _ z q⟩), zz _ z⟩) id)
theorem DenL.mono {Z' : Zs} {ms' : List Addr} {H' : Hp} (zz : ∀ a, Z a → Z' a) (mm : ms <+: ms') (kp : ∀ a o, Z a → H a = some o → H' a = some o) :
    ∀ {vs : List V} {ds : List D}, DenL Y Z ms H vs ds → DenL Y Z' ms' H' vs ds
  | _, _, .nil => .nil
  | _, _, .cons a b => .cons (Den.mono zz mm kp a) (DenL.mono zz mm kp b)
end
theorem Step.den (s : Step Y Z ms H Z1 ms1 H1 st1) (k : StOk Y Z ms H st) {v : V} {d : D} (h : Den Y Z ms H v d) : Den Y Z1 ms1 H1 v d :=
  h.mono s.zz s.mm fun a o z e => s.kp a o e fun q => k.zs a q z
theorem Step.denL (s : Step Y Z ms H Z1 ms1 H1 st1) (k : StOk Y Z ms H st) {v : List V} {d : List D} (h : DenL Y Z ms H v d) : DenL Y Z1 ms1 H1 v d :=
  h.mono s.zz s.mm fun a o z e => s.kp a o e fun q => k.zs a q z
theorem StOk.free (k : StOk Y Z ms H st) {p : Addr} (hp : H p = none) : ¬ Spc Y ms p ∧ ¬ Z p := ⟨fun q => k.special q hp, fun q => k.zdom p q hp⟩
theorem mono_upd {p : Addr} {o : HO} (hp : H p = none) : ∀ b u, H b = some u → upd H p o b = some u := fun b u e => by rw [upd_ne (ne_of_none e hp)]; exact e
/-- a new object, not frozen -/
theorem StOk.laid (k : StOk Y Z ms H st) {p : Addr} {o : HO} (hp : H p = none) : StOk Y Z ms (upd H p o) st := by
  have mono := mono_upd (o := o) hp
  refine ⟨fun a z q => ?_, k.len, fun n c a e1 e2 => ?_, k.nd, k.zs, k.mt, k.tabs.ext mono⟩
  · have h := k.zdom a z
    cases e : H a with
    | none => exact h e
    | some u => rw [mono a u e] at q; cases q
  · have hs : Spc Y ms a := .inl (List.mem_of_getElem? e2)
    have hne : a ≠ p := fun q => k.special hs (by rw [q]; exact hp)
    refine (k.cells n c a e1 e2).imp (upd_ne hne) fun xs ds h => h.mono (fun _ z => z) List.prefix_rfl fun a o _ e => mono a o e
/-- .. frozen at once -/
theorem StOk.froze (k : StOk Y Z ms H st) {p : Addr} (hp : H p ≠ none) (hs : ¬ Spc Y ms p) : StOk Y (fun a => Z a ∨ a = p) ms H st := by
  refine ⟨fun a z => ?_, k.len, fun n c a e1 e2 => ?_, k.nd, fun a q z => ?_, k.mt, k.tabs⟩
  · rcases z with z | z
    · exact k.zdom a z
    · rw [z]; exact hp
  · exact (k.cells n c a e1 e2).imp rfl fun xs ds h => h.mono (fun _ z => .inl z) List.prefix_rfl fun a o _ e => e
  · rcases z with z | z
    · exact k.zs a q z
    · rw [z] at q; exact hs q
theorem Step.laid (k : StOk Y Z ms H st) {p : Addr} {o : HO} (hp : H p = none) : Step Y Z ms H Z ms (upd H p o) st :=
  ⟨k.laid hp, fun _ h => h, fun _ h => .inl h, List.prefix_rfl, fun _ h => .inl h, fun b u e _ => mono_upd hp b u e⟩
theorem Step.laidZ (k : StOk Y Z ms H st) {p : Addr} {o : HO} (hp : H p = none) : Step Y Z ms H (fun a => Z a ∨ a = p) ms (upd H p o) st :=
  ⟨(k.laid hp).froze (by rw [upd_same]; simp) (k.free hp).1, fun _ h => .inl h, fun a h => h.imp id fun e => by rw [e]; exact hp, List.prefix_rfl, fun _ h => .inl h, fun b u e _ => mono_upd hp b u e⟩

/-! ### frames -/
/-- a call's own: the heap at its entry, the lambda that it got, the error that it handles (object, own dict) -/
structure Own where
  Z0 : Zs
  ms0 : List Addr
  H0 : Hp
  st0 : Store
  tf : Addr
  xa : Addr
  xd : Addr
  xc : Str
/-- an error's fields in its own dict -/
def ExcD (Y : Cfg) (Z : Zs) (ms : List Addr) (H : Hp) (d : Addr) (fs : List (Str × D)) : Prop :=
  ∃ vs : List (Str × V), H d = some (.xd vs) ∧ Z d ∧ vs.map (·.1) = fs.map (·.1) ∧ DenL Y Z ms H (vs.map (·.2)) (fs.map (·.2))
def SlotR (Y : Cfg) (O : Own) (Z : Zs) (ms : List Addr) (H : Hp) (x : Option V) : Slot → Prop
  | .sh d => ∃ v, x = some v ∧ Den Y Z ms H v d
  | .ow ds => ∃ a xs, x = some (.ref a) ∧ H a = some (.lst xs) ∧ O.H0 a = none ∧ ¬ Z a ∧ ¬ Spc Y ms a ∧ DenL Y Z ms H xs ds
  | .thk => x = some (.ref O.tf)
  | .exc c fs => x = some (.ref O.xa) ∧ ExcD Y Z ms H O.xd fs ∧ c = O.xc
structure Rel (Y : Cfg) (O : Own) (Z : Zs) (ms : List Addr) (δ : Fr) (σ : L2.St) (H : Hp) (st : Store) : Prop where
  k0 : StOk Y O.Z0 O.ms0 O.H0 O.st0
  base : Step Y O.Z0 O.ms0 O.H0 Z ms H st
  len : δ.length = σ.length
  slots : ∀ (i : Nat) s, δ[i]? = some (some s) → ∃ x, σ[i]? = some x ∧ SlotR Y O Z ms H x s
  inj : ∀ (i j : Nat) ds es a, δ[i]? = some (some (.ow ds)) → δ[j]? = some (some (.ow es)) → σ[i]? = some (some (.ref a)) → σ[j]? = some (some (.ref a)) → i = j
variable {O : Own} {δ : Fr} {σ : L2.St}
theorem ExcD.step (s : Step Y Z ms H Z1 ms1 H1 st1) (k : StOk Y Z ms H st) {d : Addr} {fs : List (Str × D)} (h : ExcD Y Z ms H d fs) : ExcD Y Z1 ms1 H1 d fs := by
  obtain ⟨vs, a, z, b, c⟩ := h
  exact ⟨vs, s.kp d _ a (fun q => k.zs d q z), s.zz d z, b, s.denL k c⟩
theorem Rel.ok (R : Rel Y O Z ms δ σ H st) : StOk Y Z ms H st := R.base.ok
theorem SlotR.step (s : Step Y Z ms H Z1 ms1 H1 st1) (k : StOk Y Z ms H st) {x : Option V} {sl : Slot} (r : SlotR Y O Z ms H x sl) : SlotR Y O Z1 ms1 H1 x sl := by
  cases sl with
  | sh d => obtain ⟨v, e1, q⟩ := r; exact ⟨v, e1, s.den k q⟩
  | ow ds =>
    obtain ⟨a, xs, e1, e2, e3, e4, e5, e6⟩ := r
    have hn : H a ≠ none := by rw [e2]; simp
    refine ⟨a, xs, e1, s.kp a _ e2 e5, e3, fun z => ?_, fun q => ?_, s.denL k e6⟩
    · rcases s.zn a z with z | z
      · exact e4 z
      · exact hn z
    · rcases q with q | q
      · rcases s.mn a q with q | q
        · exact e5 (.inl q)
        · exact hn q
      · exact e5 (.inr q)
  | thk => exact r
  | exc C fs => exact ⟨r.1, r.2.1.step s k, r.2.2⟩
theorem Rel.step (R : Rel Y O Z ms δ σ H st) (s : Step Y Z ms H Z1 ms1 H1 st1) : Rel Y O Z1 ms1 δ σ H1 st1 :=
  ⟨R.k0, R.base.trans s R.k0, R.len, fun i sl e => let ⟨x, ex, r⟩ := R.slots i sl e; ⟨x, ex, r.step s R.ok⟩, R.inj⟩
/-- from one state to a later one, where lists of names may have changed -/
structure StepZ (Y : Cfg) (Z : Zs) (ms : List Addr) (H : Hp) (Z' : Zs) (ms' : List Addr) (H' : Hp) (st' : Store) : Prop where
  ok : StOk Y Z' ms' H' st'
  zz : ∀ a, Z a → Z' a
  mm : ms <+: ms'
  kz : ∀ a o, Z a → H a = some o → H' a = some o
theorem Step.z (s : Step Y Z ms H Z1 ms1 H1 st1) (k : StOk Y Z ms H st) : StepZ Y Z ms H Z1 ms1 H1 st1 := ⟨s.ok, s.zz, s.mm, fun a o z e => s.kp a o e fun q => k.zs a q z⟩
theorem StepZ.refl (k : StOk Y Z ms H st) : StepZ Y Z ms H Z ms H st := (Step.refl k).z k
theorem StepZ.trans (a : StepZ Y Z ms H Z1 ms1 H1 st1) (b : StepZ Y Z1 ms1 H1 Z2 ms2 H2 st2) : StepZ Y Z ms H Z2 ms2 H2 st2 :=
  ⟨b.ok, fun x h => b.zz x (a.zz x h), a.mm.trans b.mm, fun x o z e => b.kz x o (a.zz x z) (a.kz x o z e)⟩
theorem StepZ.den (s : StepZ Y Z ms H Z1 ms1 H1 st1) {v : V} {d : D} (h : Den Y Z ms H v d) : Den Y Z1 ms1 H1 v d := h.mono s.zz s.mm s.kz
theorem StepZ.denL (s : StepZ Y Z ms H Z1 ms1 H1 st1) {v : List V} {d : List D} (h : DenL Y Z ms H v d) : DenL Y Z1 ms1 H1 v d := h.mono s.zz s.mm s.kz

/-! ### what is wanted of a result -/
section
variable {α β : Type}
/-- VR: how a value lies -/
abbrev VRel (α β : Type) : Type := Zs → List Addr → Hp → β → α → Prop
def Post (Y : Cfg) (Wx : WX) (VR : VRel α β) (σ : L2.St) (Z : Zs) (ms : List Addr) (H : Hp) (st : Store) : Res α → (β → Hp → Prop) → Prop
  | .ok a st', Q => ∀ v H' Z' ms', Step Y Z ms H Z' ms' H' st' → VR Z' ms' H' v a → Q v H'
  | .exn c fs st', _ => ∀ d H' Z' ms', Step Y Z ms H Z' ms' H' st' → ExcD Y Z' ms' H' d fs → Wx (.ref (Y.ca c)) (some d) σ H'
  | .bad, _ => False
/-- the reading: what the interpreter says of it -/
def RG (Y : Cfg) (O : Own) (Wx : WX) (VR : VRel α β) (m : Fr → M α) : L2.St → Hp → (β → Hp → Prop) → Prop := fun σ H Q =>
  ∃ δ st Z ms, Rel Y O Z ms δ σ H st ∧ Post Y Wx VR σ Z ms H st (m δ st) Q
variable {Wx : WX} {VR : VRel α β} {r : Res α} {Q : β → Hp → Prop}
theorem Post.shift (k : StOk Y Z ms H st) (s : Step Y Z ms H Z1 ms1 H1 st1) (h : Post Y Wx VR σ Z ms H st r Q) : Post Y Wx VR σ Z1 ms1 H1 st1 r Q := by
  cases r with
  | ok a st' => exact fun v H' Z' ms' s' q => h v H' Z' ms' (s.trans s' k) q
  | exn c fs st' => exact fun d H' Z' ms' s' q => h d H' Z' ms' (s.trans s' k) q
  | bad => exact h
end
section
variable {α β α' β' : Type} {Wx : WX} {VR : VRel α β} {VR' : VRel α' β'} {m : Fr → M α} {k : α → M α'} {Q : β → Hp → Prop} {Q' : β' → Hp → Prop}
/-- m first, then what follows: at its value the rest's result is wanted -/
theorem rg_seq (R : Rel Y O Z ms δ σ H st) (P : Post Y Wx VR' σ Z ms H st (M.bind (m δ) k st) Q')
    (h : ∀ a st1 v H1 Z1 ms1, Step Y Z ms H Z1 ms1 H1 st1 → Rel Y O Z1 ms1 δ σ H1 st1 → VR Z1 ms1 H1 v a → Post Y Wx VR' σ Z1 ms1 H1 st1 (k a st1) Q' → Q v H1) : RG Y O Wx VR m σ H Q := by
  refine ⟨δ, st, Z, ms, R, ?_⟩
  unfold M.bind at P
  cases e : m δ st with
  | ok a st' =>
    rw [e] at P
    exact fun v H' Z' ms' s q => h a st' v H' Z' ms' s (R.step s) q (P.shift R.ok s)
  | exn c fs st' => rw [e] at P; exact P
  | bad => rw [e] at P; exact P
/-- a last part that changes nothing -/
theorem Post.pure' {a : α} {v : β} (P : Post Y Wx VR σ Z ms H st (M.pure a st) Q) (k : StOk Y Z ms H st) (q : VR Z ms H v a) : Q v H := P v H Z ms (Step.refl k) q
theorem Post.of {o : Option α} (P : Post Y Wx VR σ Z ms H st (M.of o st) Q) : ∃ a, o = some a ∧ Post Y Wx VR σ Z ms H st (M.pure a st) Q := by
  cases o with
  | none => exact P.elim
  | some a => exact ⟨a, rfl, P⟩
theorem Post.guard {b : Bool} {f : Unit → M α} (P : Post Y Wx VR σ Z ms H st (M.bind (M.guard b) f st) Q) : b = true ∧ Post Y Wx VR σ Z ms H st (f () st) Q := by
  cases b with
  | false => exact P.elim
  | true => exact ⟨rfl, P⟩
theorem Post.okRow {ds : List D} {f : List D → M α} (P : Post Y Wx VR σ Z ms H st (M.bind (okRow ds) f st) Q) : okLen ds.length = true ∧ Post Y Wx VR σ Z ms H st (f ds st) Q := by
  unfold Sw.okRow at P
  cases e : okLen ds.length with
  | false => rw [e] at P; exact P.elim
  | true => rw [e] at P; exact ⟨rfl, P⟩
theorem Post.bindOf {o : Option α'} {f : α' → M α} (P : Post Y Wx VR σ Z ms H st (M.bind (M.of o) f st) Q) : ∃ a, o = some a ∧ Post Y Wx VR σ Z ms H st (f a st) Q := by
  cases o with
  | none => exact P.elim
  | some a => exact ⟨a, rfl, P⟩
end
end Sw

set_option Elab.async false
set_option linter.all false
set_option maxRecDepth 100000
/-! Sw, part D: operations on values, by data. -/
namespace Sw
open PySem PySem.Spec PyProof.Rows L2

/-- a value that is looked at: frozen, or a list that a name holds -/
def DenB (Y : Cfg) (Z : Zs) (ms : List Addr) (H : Hp) (v : V) (d : D) : Prop :=
  Den Y Z ms H v d ∨ ∃ a xs ds, v = .ref a ∧ d = .lst ds ∧ H a = some (.lst xs) ∧ ¬ Spc Y ms a ∧ DenL Y Z ms H xs ds
abbrev VD (Y : Cfg) : VRel D V := fun Z ms H v d => Den Y Z ms H v d
abbrev VDB (Y : Cfg) : VRel D V := fun Z ms H v d => DenB Y Z ms H v d
abbrev VL (Y : Cfg) : VRel (List D) (List V) := fun Z ms H v d => DenL Y Z ms H v d
def DenBL (Y : Cfg) (Z : Zs) (ms : List Addr) (H : Hp) (vs : List V) (ds : List D) : Prop := Paired (DenB Y Z ms H) vs ds
abbrev VBL (Y : Cfg) : VRel (List D) (List V) := fun Z ms H v d => DenBL Y Z ms H v d
abbrev VE {α : Type} : VRel α α := fun _ _ _ a b => a = b
/-- the end of an operation that tells d, the store as it was -/
def Fin (Y : Cfg) (Z : Zs) (ms : List Addr) (H : Hp) (st : Store) (Q : VK) (d : D) : Prop :=
  ∀ v H' Z' ms', Step Y Z ms H Z' ms' H' st → Den Y Z' ms' H' v d → Q v H'
variable {Y : Cfg} {Z Z1 : Zs} {ms ms1 : List Addr} {H H1 : Hp} {st st1 : Store} {Q : VK} {v u : V} {d e : D} {vs xs : List V} {ds es : List D}

theorem DenL.length : ∀ {vs : List V} {ds : List D}, DenL Y Z ms H vs ds → vs.length = ds.length
  | _, _, .nil => rfl
  | _, _, .cons _ t => congrArg (· + 1) (DenL.length t)
theorem DenL.get : ∀ {vs : List V} {ds : List D} {i : Nat} {d : D}, DenL Y Z ms H vs ds → ds[i]? = some d → ∃ v, vs[i]? = some v ∧ Den Y Z ms H v d
  | _, _, _, _, .nil, e => by simp at e
  | _, _, 0, _, .cons r _, e => by simp at e; subst e; exact ⟨_, rfl, r⟩
  | _, _, i + 1, d, .cons _ t, e => by
    obtain ⟨v, a, b⟩ := DenL.get (i := i) t (by simpa using e)
    exact ⟨v, by simpa using a, b⟩
theorem DenL.append : ∀ {vs ws : List V} {ds es : List D}, DenL Y Z ms H vs ds → DenL Y Z ms H ws es → DenL Y Z ms H (vs ++ ws) (ds ++ es)
  | _, _, _, _, .nil, q => q
  | _, _, _, _, .cons a b, q => .cons a (DenL.append b q)
theorem DenL.take : ∀ {vs : List V} {ds : List D} (n : Nat), DenL Y Z ms H vs ds → DenL Y Z ms H (vs.take n) (ds.take n)
  | _, _, 0, _ => .nil
  | _, _, _ + 1, .nil => .nil
  | _, _, n + 1, .cons a b => .cons a (DenL.take n b)
theorem DenL.drop : ∀ {vs : List V} {ds : List D} (n : Nat), DenL Y Z ms H vs ds → DenL Y Z ms H (vs.drop n) (ds.drop n)
  | _, _, 0, r => r
  | _, _, _ + 1, .nil => .nil
  | _, _, n + 1, .cons a b => DenL.drop n b
theorem DenL.reverse {vs : List V} {ds : List D} (h : DenL Y Z ms H vs ds) : DenL Y Z ms H vs.reverse ds.reverse := by
  induction h using DenL.rec (motive_1 := fun _ _ _ => True) with
  | nil => exact .nil
  | cons a b _ ih => simp only [List.reverse_cons]; exact ih.append (.cons a .nil)
  | _ => trivial
theorem DenL.rep {vs : List V} {ds : List D} (h : DenL Y Z ms H vs ds) : ∀ k : Nat, DenL Y Z ms H (List.replicate k vs).flatten (List.replicate k ds).flatten
  | 0 => .nil
  | k + 1 => by simp only [List.replicate_succ, List.flatten_cons]; exact h.append (h.rep k)
theorem DenL.ints : ∀ {vs : List V} {ds : List D} {ns : List Int}, DenL Y Z ms H vs ds → intL ds = some ns → vs = ns.map V.int
  | _, _, _, .nil, e => by simp [intL] at e; subst e; rfl
  | _, _, _, .cons (d := d) r t, e => by
    cases d with
    | int i =>
      simp only [intL, Option.map_eq_some_iff] at e
      obtain ⟨ns, e1, rfl⟩ := e
      cases r
      rw [DenL.ints t e1]; rfl
    | _ => simp [intL] at e
theorem DenL.bools : ∀ {vs : List V} {ds : List D} {ns : List Bool}, DenL Y Z ms H vs ds → bools ds = some ns → vs = ns.map V.bl
  | _, _, _, .nil, e => by simp [Sw.bools] at e; subst e; rfl
  | _, _, _, .cons (d := d) r t, e => by
    cases d with
    | bl i =>
      simp only [Sw.bools, Option.map_eq_some_iff] at e
      obtain ⟨ns, e1, rfl⟩ := e
      cases r
      rw [DenL.bools t e1]; rfl
    | _ => simp [Sw.bools] at e
theorem denL_ints : ∀ ns : List Int, DenL Y Z ms H (ns.map V.int) (ns.map D.int)
  | [] => .nil
  | n :: r => .cons (.int n) (denL_ints r)
theorem Step.denB (s : Step Y Z ms H Z1 ms1 H1 st1) (k : StOk Y Z ms H st) (h : DenB Y Z ms H v d) : DenB Y Z1 ms1 H1 v d := by
  rcases h with h | ⟨a, xs, ds, e1, e2, e3, e4, e5⟩
  · exact .inl (s.den k h)
  · refine .inr ⟨a, xs, ds, e1, e2, s.kp a _ e3 e4, fun q => ?_, s.denL k e5⟩
    rcases q with q | q
    · rcases s.mn a q with q | q
      · exact e4 (.inl q)
      · rw [e3] at q; cases q
    · exact e4 (.inr q)
theorem DenB.int {i : Int} (h : DenB Y Z ms H v (.int i)) : v = .int i := by
  rcases h with h | ⟨_, _, _, _, e, _⟩
  · cases h; rfl
  · cases e
theorem DenB.bl {i : Bool} (h : DenB Y Z ms H v (.bl i)) : v = .bl i := by
  rcases h with h | ⟨_, _, _, _, e, _⟩
  · cases h; rfl
  · cases e
theorem DenB.str {i : Str} (h : DenB Y Z ms H v (.str i)) : v = .str i := by
  rcases h with h | ⟨_, _, _, _, e, _⟩
  · cases h; rfl
  · cases e
theorem DenB.non (h : DenB Y Z ms H v .non) : v = .non := by
  rcases h with h | ⟨_, _, _, _, e, _⟩
  · cases h; rfl
  · cases e
theorem sqT_K {K : PySem.W.Frag} {a : Addr} {xs : List V} (h : KTup K a xs) : SqT K H a xs := .inr h
theorem Den.tupInv {ds : List D} (h : Den Y Z ms H v (.tup ds)) : ∃ a xs, v = .ref a ∧ SqT Y.K H a xs ∧ DenL Y Z ms H xs ds := by
  cases h with
  | tup e z r => exact ⟨_, _, rfl, SqT.of e, r⟩
  | tupK e r => exact ⟨_, _, rfl, sqT_K e, r⟩
theorem DenB.tup {ds : List D} (h : DenB Y Z ms H v (.tup ds)) : ∃ a xs, v = .ref a ∧ SqT Y.K H a xs ∧ DenL Y Z ms H xs ds := by
  rcases h with h | ⟨_, _, _, _, e, _⟩
  · exact h.tupInv
  · cases e
theorem DenB.lst {ds : List D} (h : DenB Y Z ms H v (.lst ds)) : ∃ a xs, v = .ref a ∧ H a = some (.lst xs) ∧ DenL Y Z ms H xs ds := by
  rcases h with h | ⟨a, xs, ds', e1, e2, e3, _, e5⟩
  · cases h with
    | lst e z r => exact ⟨_, _, rfl, e, r⟩
  · cases e2; exact ⟨a, xs, e1, e3, e5⟩
/-! dicts -/
theorem getY_nil {k : Ky} : getY [] k = none := rfl
theorem getY_cons (p : Ky × D) (r : List (Ky × D)) (k : Ky) : getY (p :: r) k = if p.1 = k then some p.2 else getY r k := by
  unfold getY
  rw [List.find?_cons]
  by_cases e : p.1 = k
  · simp [e]
  · simp [e]
/-- what stands at a key -/
inductive OptDen (Y : Cfg) (Z : Zs) (ms : List Addr) (H : Hp) : Option V → Option D → Prop
  | none : OptDen Y Z ms H none none
  | some {v : V} {d : D} : Den Y Z ms H v d → OptDen Y Z ms H (some v) (some d)
theorem OptDen.isSome {o : Option V} {q : Option D} (h : OptDen Y Z ms H o q) : o.isSome = q.isSome := by cases h <;> rfl
theorem dct_get {vs : List (Key × V)} {kvs : List (Ky × D)} (k : Key) (hk : vs.map (fun p => (Sum.inl p.1 : Ky)) = kvs.map (·.1)) (r : DenL Y Z ms H (vs.map (·.2)) (kvs.map (·.2))) : OptDen Y Z ms H (valV vs k) (getY kvs (.inl k)) := by
  induction vs generalizing kvs with
  | nil => cases kvs with
    | nil => exact .none
    | cons _ _ => cases hk
  | cons p vs ih =>
    cases kvs with
    | nil => cases hk
    | cons q kvs =>
      rw [List.map_cons, List.map_cons] at hk r
      injection hk with h1 h2
      cases r with
      | cons rv rr =>
        rw [getY_cons]
        by_cases e : p.1 = k
        · rw [valV_pos e, if_pos (by rw [← h1, e])]
          exact .some rv
        · rw [valV_neg e, if_neg fun z => e (by rw [← h1] at z; exact Sum.inl.inj z)]
          exact ih h2 rr
theorem keyA_v {k : Key} (hx : DenB Y Z ms H v d) (e : keyA d = some k) : v = kV k := by
  cases d with
  | int i => cases e; rw [hx.int]; rfl
  | str i => cases e; rw [hx.str]; rfl
  | _ => cases e
theorem keyD_f {k : Ky} (e : keyD false d = some k) : ∃ q, k = .inl q ∧ keyA d = some q := by
  cases d with
  | int i => cases e; exact ⟨_, rfl, rfl⟩
  | str i => cases e; exact ⟨_, rfl, rfl⟩
  | _ => cases e
theorem DenB.dget {t : Bool} {kvs : List (Ky × D)} {k : Ky} {x y : V} {dy : D} (hx : DenB Y Z ms H x (.dct t kvs)) (hy : DenB Y Z ms H y dy) (e : keyD t dy = some k) : ∃ a o, x = .ref a ∧ DGet H a y o ∧ OptDen Y Z ms H o (getY kvs k) := by
  rcases hx with hx | ⟨_, _, _, _, z, _⟩
  · cases hx with
    | @dctK a o vs _ h z hk r =>
      obtain ⟨q, rfl, e1⟩ := keyD_f e
      exact ⟨a, _, rfl, .inl ⟨vs, q, .inr ⟨o, h⟩, keyA_v hy e1, rfl⟩, dct_get q hk r⟩
  · cases z
theorem Fin.here (F : Fin Y Z ms H st Q d) (k : StOk Y Z ms H st) (h : Den Y Z ms H v d) : Q v H := F v H Z ms (Step.refl k) h
/-- a new tuple, a new list -/
theorem Fin.tup (F : Fin Y Z ms H st Q (.tup ds)) (k : StOk Y Z ms H st) (h : DenL Y Z ms H xs ds) : ∀ p, H p = none → Q (.ref p) (upd H p (.tup xs)) := fun p hp => by
  have s := Step.laidZ (o := .tup xs) k hp
  exact F _ _ _ _ s (.tup upd_same (.inr rfl) (s.denL k h))
theorem Fin.lst (F : Fin Y Z ms H st Q (.lst ds)) (k : StOk Y Z ms H st) (h : DenL Y Z ms H xs ds) : ∀ p, H p = none → Q (.ref p) (upd H p (.lst xs)) := fun p hp => by
  have s := Step.laidZ (o := .lst xs) k hp
  exact F _ _ _ _ s (.lst upd_same (.inr rfl) (s.denL k h))
theorem okLen_le {n : Nat} (h : okLen n = true) : n ≤ sizeLine := of_decide_eq_true h

/-! ### two-place operators -/
def rBin (Y : Cfg) (op : Operator) : R2 := fun x y H Q => ∃ Z ms st dx dy dz, StOk Y Z ms H st ∧ DenB Y Z ms H x dx ∧ DenB Y Z ms H y dy ∧ binD op dx dy = some dz ∧ Fin Y Z ms H st Q dz
variable {X : Cx}
theorem op_bin (hK : X.K = Y.K) (op : Operator) : OpR X (binaryOp op) (rBin Y op) := by
  intro pins s σ H x y v u Q I rx ry h
  obtain ⟨Z, ms, st, dx, dy, dz, k, hx, hy, e, F⟩ := h
  unfold binD at e
  split at e
  · rename_i i j
    cases Option.some.inj e
    exact op_add pins s σ H x y v u Q I rx ry ⟨i, j, hx.int, hy.int, F.here k (.int _)⟩
  · rename_i i j
    cases Option.some.inj e
    refine op_add_ib pins s σ H x y v u Q I rx ry ⟨i, j, hx.int, hy.bl, ?_⟩
    have : b2i j = if j then 1 else 0 := by cases j <;> rfl
    rw [this]
    exact F.here k (.int _)
  · rename_i i j
    cases Option.some.inj e
    exact op_sub pins s σ H x y v u Q I rx ry ⟨i, j, hx.int, hy.int, F.here k (.int _)⟩
  · rename_i i j
    split at e
    · rename_i hc
      have hc1 := of_decide_eq_true hc
      cases Option.some.inj e
      exact op_mulW pins s σ H x y v u Q I rx ry ⟨i, j, hx.int, hy.int, hc1, F.here k (.int _)⟩
    · cases e
  · rename_i i j
    split at e
    · rename_i hc
      have hc1 := of_decide_eq_true hc
      cases Option.some.inj e
      exact op_fdivN pins s σ H x y v u Q I rx ry ⟨i, j, hx.int, hy.int, hc1, F.here k (.int _)⟩
    · split at e
      · rename_i hc
        have hc1 := of_decide_eq_true hc
        cases Option.some.inj e
        exact op_fdivW pins s σ H x y v u Q I rx ry ⟨i, j, hx.int, hy.int, hc1, F.here k (.int _)⟩
      · cases e
  · rename_i i j
    split at e
    · rename_i hc
      have hc1 := of_decide_eq_true hc
      cases Option.some.inj e
      exact op_modN pins s σ H x y v u Q I rx ry ⟨i, j, hx.int, hy.int, hc1, F.here k (.int _)⟩
    · cases e
  · rename_i i j
    split at e
    · rename_i hc
      have hc1 := of_decide_eq_true hc
      cases Option.some.inj e
      exact op_pow pins s σ H x y v u Q I rx ry ⟨i, j, hx.int, hy.int, hc1, F.here k (.int _)⟩
    · cases e
  · rename_i i j
    cases Option.some.inj e
    exact op_and pins s σ H x y v u Q I rx ry ⟨i, j, hx.int, hy.int, F.here k (.int _)⟩
  · rename_i i j
    split at e
    · rename_i hc
      have hc1 := of_decide_eq_true hc
      cases Option.some.inj e
      exact op_shr pins s σ H x y v u Q I rx ry ⟨i, j, hx.int, hy.int, hc1, F.here k (.int _)⟩
    · cases e
  · rename_i i j
    split at e
    · rename_i hc
      cases Option.some.inj e
      exact op_add_str pins s σ H x y v u Q I rx ry ⟨i, j, hx.str, hy.str, okLen_le hc, F.here k (.str _)⟩
    · cases e
  · rename_i a b
    split at e
    · rename_i hc
      cases Option.some.inj e
      obtain ⟨p, xs, rfl, q1, r1⟩ := hx.tup
      obtain ⟨p2, ys, rfl, q2, r2⟩ := hy.tup
      refine op_catA pins s σ H _ _ v u Q I rx ry ⟨p, p2, xs, ys, rfl, rfl, by rw [hK]; exact q1, by rw [hK]; exact q2, by rw [r1.length, r2.length]; exact okLen_le hc, fun e0 => ?_, fun e0 e1 => ?_, fun _ _ => F.tup k (r1.append r2)⟩
      · subst e0
        cases r1
        rcases hy with hy | ⟨_, _, _, _, z, _⟩
        · exact F.here k hy
        · cases z
      · subst e1
        cases r2
        rw [List.append_nil] at F
        rcases hx with hx | ⟨_, _, _, _, z, _⟩
        · exact F.here k hx
        · cases z
    · cases e
  · rename_i a b
    split at e
    · rename_i hc
      cases Option.some.inj e
      obtain ⟨p, xs, rfl, q1, r1⟩ := hx.lst
      obtain ⟨p2, ys, rfl, q2, r2⟩ := hy.lst
      exact op_cat pins s σ H _ _ v u Q I rx ry ⟨p, p2, xs, ys, rfl, rfl, q1, q2, by rw [r1.length, r2.length]; exact okLen_le hc, F.lst k (r1.append r2)⟩
    · cases e
  · rename_i a j
    split at e
    · rename_i hc
      cases Option.some.inj e
      obtain ⟨h1, h2, h3⟩ := of_decide_eq_true hc
      obtain ⟨p, xs, rfl, q1, r1⟩ := hx.lst
      exact op_rep pins s σ H _ _ v u Q I rx ry ⟨p, j, xs, rfl, hy.int, q1, h1, h2, by rw [r1.length]; exact h3, F.lst k (r1.rep _)⟩
    · cases e
  · cases e

/-! ### comparisons -/
theorem pys_some : ∀ {ds : List D} {ps : List PyData}, D.py.pys ds = some ps → ∀ {vs : List V}, DenL Y Z ms H vs ds → (∀ d ∈ ds, ∀ v p, Den Y Z ms H v d → d.py = some p → Dp Y.K H v p) → DpAll Y.K H vs ps
  | [], ps, e, _, h, _ => by simp [D.py.pys] at e; subst e; cases h; exact .nil
  | d :: ds, ps, e, _, .cons a b, k => by
    unfold D.py.pys at e
    split at e
    · rename_i p ps' e1 e2
      cases e
      exact .cons (k d (by simp) _ _ a e1) (pys_some e2 b fun d' hd => k d' (by simp [hd]))
    · cases e
theorem Den.dp : ∀ (d : D) {v : V} {p : PyData}, Den Y Z ms H v d → d.py = some p → Dp Y.K H v p
  | .non, _, _, h, e => by cases h; simp [D.py] at e; subst e; exact .non
  | .bl b, _, _, h, e => by cases h; simp [D.py] at e; subst e; exact .bl b
  | .int b, _, _, h, e => by cases h; simp [D.py] at e; subst e; exact .int b
  | .str b, _, _, h, e => by cases h; simp [D.py] at e; subst e; exact .str b
  | .tup ds, v, p, h, e => by
    simp only [D.py, Option.map_eq_some_iff] at e
    obtain ⟨ps, e1, rfl⟩ := e
    obtain ⟨a, xs, rfl, q, r⟩ := h.tupInv
    exact .tup q (pys_some e1 r fun d hd v p hv hp => Den.dp d hv hp)
  | .lst ds, v, p, h, e => by
    simp only [D.py, Option.map_eq_some_iff] at e
    obtain ⟨ps, e1, rfl⟩ := e
    cases h with
    | lst q z r => exact .lst (SqL.of q) (pys_some e1 r fun d hd v p hv hp => Den.dp d hv hp)
  | .ins _ _, _, _, _, e => by simp [D.py] at e
  | .dct _ _, _, _, _, e => by simp [D.py] at e
  | .cell _, _, _, _, e => by simp [D.py] at e
  | .fn _, _, _, _, e => by simp [D.py] at e
  | .seqI _, _, _, _, e => by simp [D.py] at e
theorem DenB.dp {p : PyData} (h : DenB Y Z ms H v d) (e : d.py = some p) : Dp Y.K H v p := by
  rcases h with h | ⟨a, xs, ds, rfl, rfl, e3, _, e5⟩
  · exact h.dp d e
  · simp only [D.py, Option.map_eq_some_iff] at e
    obtain ⟨ps, e1, rfl⟩ := e
    exact .lst (SqL.of e3) (pys_some e1 e5 fun d _ v p hv hp => Den.dp d hv hp)
theorem eqD_some {a b : D} {r : Bool} (h : eqD a b = some r) : ∃ p q, a.py = some p ∧ b.py = some q ∧ SeqAt.shaped p = true ∧ SeqAt.shaped q = true ∧ r = PyData.eqv p q := by
  unfold eqD at h
  split at h
  · rename_i p q e1 e2
    split at h
    · rename_i hc
      cases h
      obtain ⟨h1, h2⟩ := Bool.and_eq_true_iff.mp hc
      exact ⟨p, q, e1, e2, h1, h2, rfl⟩
    · cases h
  · cases h
def rCmp (Y : Cfg) (op : CmpOp) : R2 := fun x y H Q => ∃ Z ms st dx dy r, StOk Y Z ms H st ∧ DenB Y Z ms H x dx ∧ DenB Y Z ms H y dy ∧ cmpD op dx dy = some r ∧ Q (.bl r) H
theorem lexI_eq : ∀ a b : List Int, lexI a b = HT.lexLt a b
  | [], [] => rfl
  | [], _ :: _ => rfl
  | _ :: _, [] => rfl
  | x :: xs, y :: ys => by unfold lexI; rw [HT.lexLt_cons, lexI_eq]
theorem in_run {pins : List (Addr × Obj)} {s : Shared} {σ : L2.St} {x y : V} {v u : Value} {dx dy : D} {r : Bool} (hK : X.K = Y.K) (hu : X.A.units + 65 < cLine) (I : Inv X pins σ H s) (rx : RelV x v) (ry : RelV y u)
    (hx : DenB Y Z ms H x dx) (hy : DenB Y Z ms H y dy) (e : inR dx dy = some r) (Qp : Value → Shared → Prop) (op : CmpOp)
    (q : (op = .In → Qp (.bool r) s) ∧ (op = .NotIn → Qp (.bool (!r)) s)) (ho : op = .In ∨ op = .NotIn) : wpAny (model X.prog X.w) X.A (compareOp op v u) Qp X.xe s := by
  unfold inR at e
  split at e
  · rename_i p ps e1 e2
    split at e
    · rename_i hc
      cases e
      obtain ⟨h1, h2⟩ := Bool.and_eq_true_iff.mp hc
      obtain ⟨as, r1⟩ := Dp.reads I p x v (hK ▸ hx.dp e1) rx
      obtain ⟨bs, r2⟩ := Dp.reads I _ y u (hK ▸ hy.dp e2) ry
      rcases ho with rfl | rfl
      · exact SeqAt.in_list_reads r2 r1 (SeqAt.canLay_of_shaped h2) (SeqAt.canLay_of_shaped h1) (room_in_shaped h1 hu) (q.1 rfl)
      · exact SeqAt.notIn_list_reads r2 r1 (SeqAt.canLay_of_shaped h2) (SeqAt.canLay_of_shaped h1) (room_in_shaped h1 hu) (q.2 rfl)
    · cases e
  · rename_i p ps e1 e2
    split at e
    · rename_i hc
      cases e
      obtain ⟨h1, h2⟩ := Bool.and_eq_true_iff.mp hc
      obtain ⟨as, r1⟩ := Dp.reads I p x v (hK ▸ hx.dp e1) rx
      obtain ⟨bs, r2⟩ := Dp.reads I _ y u (hK ▸ hy.dp e2) ry
      rcases ho with rfl | rfl
      · exact SeqAt.in_tuple_reads r2 r1 (SeqAt.canLay_of_shaped h2) (SeqAt.canLay_of_shaped h1) (room_in_shaped h1 hu) (q.1 rfl)
      · exact SeqAt.notIn_tuple_reads r2 r1 (SeqAt.canLay_of_shaped h2) (SeqAt.canLay_of_shaped h1) (room_in_shaped h1 hu) (q.2 rfl)
    · cases e
  · cases e
theorem op_cmp (hK : X.K = Y.K) (hu : X.A.units + 65 < cLine) (op : CmpOp) : OpR X (compareOp op) (rCmp Y op) := by
  intro pins s σ H x y v u Q I rx ry h
  obtain ⟨Z, ms, st, dx, dy, r, k, hx, hy, e, q⟩ := h
  unfold cmpD at e
  split at e
  · obtain ⟨p, q', e1, e2, h1, h2, rfl⟩ := eqD_some e
    exact op_eqD (by omega) pins s σ H x y v u Q I rx ry ⟨p, q', hK ▸ hx.dp e1, hK ▸ hy.dp e2, h1, h2, q⟩
  · simp only [Option.map_eq_some_iff] at e
    obtain ⟨b, e, rfl⟩ := e
    obtain ⟨p, q', e1, e2, h1, h2, rfl⟩ := eqD_some e
    exact op_neD (by omega) pins s σ H x y v u Q I rx ry ⟨p, q', hK ▸ hx.dp e1, hK ▸ hy.dp e2, h1, h2, q⟩
  · cases e; exact op_lt pins s σ H x y v u Q I rx ry ⟨_, _, hx.int, hy.int, q⟩
  · cases e; exact op_le pins s σ H x y v u Q I rx ry ⟨_, _, hx.int, hy.int, q⟩
  · cases e; exact op_gt pins s σ H x y v u Q I rx ry ⟨_, _, hx.int, hy.int, q⟩
  · cases e; exact op_ge pins s σ H x y v u Q I rx ry ⟨_, _, hx.int, hy.int, q⟩
  · split at e
    · rename_i n1 n2 e1 e2
      cases e
      obtain ⟨a, xs, rfl, q1, r1⟩ := hx.tup
      obtain ⟨b, ys, rfl, q2, r2⟩ := hy.tup
      have z1 := r1.ints e1
      have z2 := r2.ints e2
      subst z1 z2
      exact op_ltT (by omega) pins s σ H _ _ v u Q I rx ry ⟨a, b, _, _, rfl, rfl, by rw [hK]; exact q1, by rw [hK]; exact q2, by rw [← lexI_eq]; exact q⟩
    · cases e
  · unfold inD at e
    split at e
    · simp only [Option.map_eq_some_iff] at e
      obtain ⟨b, e, rfl⟩ := e
      obtain ⟨a, o, rfl, g, od⟩ := hy.dget hx e
      cases ry
      exact d_in (by omega) I g rx fun s' I' => ⟨.bl _, H, I', rfl, od.isSome ▸ q⟩
    · exact in_run hK hu I rx ry hx hy e (EP X pins σ Q) .In ⟨(fun _ => ⟨.bl _, H, I, rfl, q⟩), (fun z => nomatch z)⟩ (.inl rfl)
  · simp only [Option.map_eq_some_iff] at e
    obtain ⟨b, e, rfl⟩ := e
    unfold inD at e
    split at e
    · simp only [Option.map_eq_some_iff] at e
      obtain ⟨b, e, rfl⟩ := e
      obtain ⟨a, o, rfl, g, od⟩ := hy.dget hx e
      cases ry
      exact d_notIn (by omega) I g rx fun s' I' => ⟨.bl _, H, I', rfl, od.isSome ▸ q⟩
    · exact in_run hK hu I rx ry hx hy e (EP X pins σ Q) .NotIn ⟨(fun z => nomatch z), (fun _ => ⟨.bl _, H, I, rfl, q⟩)⟩ (.inr rfl)
  · have hy := hy.non
    subst hy
    refine op_isN pins s σ H x _ v u Q I rx ry ⟨rfl, ?_⟩
    cases e
    rcases hx with hx | ⟨_, _, _, rfl, rfl, _⟩
    · cases hx <;> exact q
    · exact q
  · have hy := hy.non
    subst hy
    refine op_notN pins s σ H x _ v u Q I rx ry ⟨rfl, ?_⟩
    cases e
    rcases hx with hx | ⟨_, _, _, rfl, rfl, _⟩
    · cases hx <;> exact q
    · exact q
  · cases e

/-! ### subscripts, slices, truth -/
def rItem (Y : Cfg) : R2 := fun x y H Q => ∃ Z ms st dx dy dz, StOk Y Z ms H st ∧ DenB Y Z ms H x dx ∧ DenB Y Z ms H y dy ∧ itemD dx dy = some dz ∧ Fin Y Z ms H st Q dz
theorem ixD_eq (n : Nat) (i : Int) : ixD n i = ixN n i := rfl
theorem ix_row {α : Type} {i : Int} {ys : List α} {dz : D} (r : DenL Y Z ms H xs ds) (e : (ixD ds.length i).bind (fun j => ds[j]?) = some dz) : ∃ v, atI xs i = some v ∧ Den Y Z ms H v dz := by
  obtain ⟨j, e1, e2⟩ := Option.bind_eq_some_iff.mp e
  obtain ⟨v, a, b⟩ := r.get e2
  refine ⟨v, ?_, b⟩
  unfold atI
  rw [r.length, ← ixD_eq, e1]
  exact a
/-- d[y] -/
theorem ix_dct (hu : X.A.units + 1 < cLine) : IxR X (fun x y H Q => ∃ a v, x = .ref a ∧ DGet H a y (some v) ∧ Q v H) := by
  intro value slice pins s σ H x y v u Q I rx ry h hs
  obtain ⟨a, v0, rfl, g, q⟩ := h
  cases rx
  have hT := dict_typeIs I g
  unfold subscriptTail
  refine wpAny_bind ?_
  rw [getitemInPython_of_ne hT.not_modules]
  refine wpAny_bind (wpAny_specialOf hT PySem.F.slot_dict_getitem.lookup ?_)
  have fin : wpAny (model X.prog X.w) X.A (subscripted slice false (.ref a) u) (fun r s₃ => wpAny (model X.prog X.w) X.A (letTemporaryGo value (.ref a) r >>= fun _ => pure r) (EP X pins σ Q) X.xe s₃) X.xe s := by
    rw [hs]
    exact wpAny_operating (d_getItem hu I g ry fun w' s3 I3 rw' => wpAny_bind (wpAny_letTemporaryGo (wpAny_pure ⟨v0, H, I3, rw', q⟩)))
  first
    | exact wpAny_pure (wpAny_bind fin)
    | exact wpAny_bind (wpAny_pure (wpAny_bind fin))
    | exact wpAny_bind fin
theorem op_item (hK : X.K = Y.K) (hu : X.A.units + 1 < cLine) : IxR X (rItem Y) := by
  intro value slice pins s σ H x y v u Q I rx ry h hs
  obtain ⟨Z, ms, st, dx, dy, dz, k, hx, hy, e, F⟩ := h
  unfold itemD at e
  split at e
  · rename_i ds i
    obtain ⟨a, xs, rfl, q, r⟩ := hx.tup
    obtain ⟨w, e1, e2⟩ := ix_row (ys := xs) r e
    exact ix_tup value slice pins s σ H _ y v u Q I rx ry ⟨a, xs, i, w, rfl, hy.int, by rw [hK]; exact q, e1, F.here k e2⟩ hs
  · rename_i ds i
    obtain ⟨a, xs, rfl, q, r⟩ := hx.lst
    obtain ⟨w, e1, e2⟩ := ix_row (ys := xs) r e
    exact ix_list value slice pins s σ H _ y v u Q I rx ry ⟨a, xs, i, w, rfl, hy.int, SqL.of q, e1, F.here k e2⟩ hs
  · rename_i z i
    split at e
    · rename_i hc
      obtain ⟨j, e1, e2⟩ := Option.bind_eq_some_iff.mp e
      simp only [Option.map_eq_some_iff] at e2
      obtain ⟨c, e3, rfl⟩ := e2
      refine ix_str value slice pins s σ H x y v u Q I rx ry ⟨z, i, c, hx.str, hy.int, okLen_le hc, ?_, F.here k (.str _)⟩ hs
      unfold atI
      rw [← ixD_eq, e1]
      exact e3
    · cases e
  · obtain ⟨kk, e1, e2⟩ := Option.bind_eq_some_iff.mp e
    obtain ⟨a, o, rfl, g, od⟩ := hx.dget hy e1
    rw [e2] at od
    cases od with
    | some hd => exact ix_dct hu value slice pins s σ H _ y v u Q I rx ry ⟨a, _, rfl, g, F.here k hd⟩ hs
  · cases e
def rCut (Y : Cfg) : V → Option Int → Option Int → Hp → VK → Prop := fun x lo hi H Q => ∃ Z ms st dx dz, StOk Y Z ms H st ∧ DenB Y Z ms H x dx ∧ sliceD lo hi dx = some dz ∧ Fin Y Z ms H st Q dz
theorem bndD_eq (n d : Nat) (o : Option Int) : bndD n d o = HT.sIx n d o := by cases o <;> rfl
theorem cutD_den {lo hi : Option Int} (r : DenL Y Z ms H xs ds) : DenL Y Z ms H (cutV xs lo hi) (cutD ds lo hi) := by
  unfold cutV cutD
  rw [← bndD_eq, ← bndD_eq, r.length]
  exact (r.drop _).take _
theorem op_cut (hK : X.K = Y.K) : SlR X (rCut Y) := by
  intro pins s σ H x v vl vu lo hi sl Q I rx hs pl pu h
  obtain ⟨Z, ms, st, dx, dz, k, hx, e, F⟩ := h
  unfold sliceD at e
  split at e
  · rename_i ds
    cases e
    obtain ⟨a, xs, rfl, q, r⟩ := hx.tup
    refine sl_tupA pins s σ H _ v vl vu lo hi sl Q I rx hs pl pu ⟨a, xs, rfl, by rw [hK]; exact q, fun z => ?_, fun _ => F.tup k (cutD_den r)⟩
    have z1 : cutD ds lo hi = ds := by
      unfold cutD
      rw [bndD_eq, bndD_eq, ← r.length, z.1, z.2]
      simp [r.length]
    rw [z1] at F
    rcases hx with hx | ⟨_, _, _, _, zz, _⟩
    · exact F.here k hx
    · cases zz
  · rename_i ds
    cases e
    obtain ⟨a, xs, rfl, q, r⟩ := hx.lst
    exact sl_list pins s σ H _ v vl vu lo hi sl Q I rx hs pl pu ⟨a, xs, rfl, SqL.of q, F.lst k (cutD_den r)⟩
  · cases e
def rTru (Y : Cfg) : V → Hp → (Bool → Hp → Prop) → Prop := fun x H Q => ∃ Z ms st dx b, StOk Y Z ms H st ∧ DenB Y Z ms H x dx ∧ truthD dx = some b ∧ Q b H
theorem isEmpty_den (r : DenL Y Z ms H xs ds) : (!ds.isEmpty) = !xs.isEmpty := by cases r <;> rfl
theorem tru_den {b : Bool} (hx : DenB Y Z ms H v d) (e : truthD d = some b) : TruV Y.K v H b := by
  unfold truthD at e
  split at e
  · cases e; rw [hx.bl]; exact rfl
  · cases e; rw [hx.non]; exact rfl
  · cases e; rw [hx.int]; exact rfl
  · split at e
    · rename_i z hc
      cases e; rw [hx.str]
      refine ⟨okLen_le hc, ?_⟩
      rcases Nat.eq_zero_or_pos z.length with h | h
      · rw [h]; rfl
      · have h1 : (z.length != 0) = true := by simpa using (show z.length ≠ 0 by omega)
        have h2 : ((z.length : Int) != 0) = true := by simpa using (show (z.length : Int) ≠ 0 by omega)
        rw [h1, h2]
    · cases e
  · cases e
    obtain ⟨a, xs, rfl, q, r⟩ := hx.tup
    exact .inr (.inl ⟨xs, q, isEmpty_den r⟩)
  · cases e
    obtain ⟨a, xs, rfl, q, r⟩ := hx.lst
    exact .inl ⟨xs, SqL.of q, isEmpty_den r⟩
  · cases e
theorem op_tru (hK : X.K = Y.K) : TruR X (rTru Y) := by
  intro pins s σ H x v Q I rx h
  obtain ⟨Z, ms, st, dx, b, k, hx, e, q⟩ := h
  exact tru_ok pins s σ H x v Q I rx ⟨b, by rw [hK]; exact tru_den hx e, q⟩

/-! ### isinstance -/
theorem kit_tab : ∀ U ∈ tyNames, ∀ T ∈ tyNames, kitB U T = some (U == T || (U == "bool" && T == "int")) := by decide +kernel
theorem ty_of {U : String} (hx : DenB Y Z ms H v d) (e : tyD d = some U) : TyX Y.K H v (.type U) ∧ U ∈ tyNames := by
  rcases hx with hx | ⟨a, xs, ds, rfl, rfl, e3, _⟩
  · cases hx with
    | non => cases e; exact ⟨.base .non, by decide⟩
    | bl b => cases e; exact ⟨.base (.bl b), by decide⟩
    | int b => cases e; exact ⟨.base (.int b), by decide⟩
    | str b => cases e; exact ⟨.base (.str b), by decide⟩
    | tup q z r => cases e; exact ⟨.base (.tup q), by decide⟩
    | tupK q r => cases e; obtain ⟨o, its, n, h1, h2, _⟩ := q; exact ⟨.kTuple h1 h2, by decide⟩
    | lst q z r => cases e; exact ⟨.base (.lst q), by decide⟩
    | cell q => cases e
    | seqI q => cases e
    | dctK _ _ _ _ => cases e
  · cases e; exact ⟨.base (.lst e3), by decide⟩
theorem isTy_some {T : String} {b : Bool} (e : isTy d T = some b) : ∃ U, tyD d = some U ∧ T ∈ tyNames ∧ b = (U == T || (U == "bool" && T == "int")) := by
  unfold isTy at e
  split at e
  · rename_i U e1
    split at e
    · rename_i hc
      cases e
      exact ⟨U, e1, List.contains_iff_mem.mp hc, rfl⟩
    · cases e
  · cases e
theorem isTys_kit {U : String} (eU : tyD d = some U) (hU : U ∈ tyNames) : ∀ {tys : List String} {b : Bool}, isTys d tys = some b → PySem.W.kitAny Y.K (.type U) (tys.map Value.type) = some b
  | [], b, e => by cases e; exact kitAny_nil
  | T :: r, b, e => by
    unfold isTys at e
    split at e
    · rename_i b1 b2 e1 e2
      cases e
      obtain ⟨U', e3, hT, rfl⟩ := isTy_some e1
      rw [eU] at e3; cases e3
      have k := kit_ty (K := Y.K) (kit_tab U hU T hT)
      have ih := isTys_kit eU hU e2
      refine kitAny_cons k (fun hb => ?_) (fun hb => ?_)
      · rw [hb, Bool.false_or]; exact ih
      · rw [hb, Bool.true_or]
    · cases e
def rIsTys (Y : Cfg) (tys : List String) : List V → Hp → VK → Prop := fun vs H Q => ∃ Z ms st x c dx b, vs = [x, c] ∧ StOk Y Z ms H st ∧ DenB Y Z ms H x dx ∧ isTys dx tys = some b ∧ Q (.bl b) H ∧
  ((∃ T, tys = [T] ∧ c = .ty T) ∨ ∃ tp, c = .ref tp ∧ H tp = some (.tup (tys.map V.ty)))
theorem paired_ty : ∀ tys : List String, Paired ClsV (tys.map V.ty) (tys.map Value.type)
  | [] => .nil
  | T :: r => .cons (.ty T) (paired_ty r)
theorem op_isi (hK : X.K = Y.K) (tys : List String) (hne : tys ≠ []) : CallR X (.builtin "isinstance") (rIsTys Y tys) := by
  intro pins s σ H vs us Q I r h
  obtain ⟨Z, ms, st, x, c, dx, b, rfl, k, hx, e, q, hc⟩ := h
  have hU : ∃ U, tyD dx = some U := by
    cases tys with
    | nil => exact absurd rfl hne
    | cons T r =>
      unfold isTys at e
      split at e
      · rename_i b1 b2 e1 e2
        obtain ⟨U, e3, _⟩ := isTy_some e1
        exact ⟨U, e3⟩
      · cases e
  obtain ⟨U, eU⟩ := hU
  obtain ⟨ty, hU⟩ := ty_of hx eU
  have kk := isTys_kit (Y := Y) eU hU e
  rw [← hK] at ty kk
  rcases hc with ⟨T, rfl, rfl⟩ | ⟨tp, rfl, hT⟩
  · refine call_isi pins s σ H _ us Q I r ⟨x, .ty T, .type U, .type T, b, rfl, .ty T, ty, ?_, q⟩
    have e' := e
    unfold isTys at e'
    split at e'
    · rename_i b1 b2 e1 e2
      cases e2
      cases e'
      obtain ⟨U', e3, hT, rfl⟩ := isTy_some e1
      rw [eU] at e3; cases e3
      rw [Bool.or_false]
      exact kit_ty (kit_tab U hU T hT)
    · cases e'
  · exact call_isiT pins s σ H _ us Q I r ⟨x, tp, tys.map V.ty, .type U, tys.map Value.type, b, rfl, hT, paired_ty tys, ty, kk, q⟩
end Sw

set_option Elab.async false
set_option linter.all false
set_option maxRecDepth 100000
set_option maxHeartbeats 4000000
/-! Sw, part S: sorted of a tuple. -/
namespace Sw.Srt2
open PySem PyProof.Rows Srt SrtO
section
variable {prog : Program} {w : World} {A : Around} {E : Value → Shared → Prop} {s : Shared}
/-- the items of a row put into a new list, told as for a list -/
def Cols (prog : Program) (w : World) (s : Shared) (l : Addr) (vs : List Value) : Prop :=
  ∀ (A : Around) (E : Value → Shared → Prop) (Q : List Value → Shared → Prop),
    Q vs { s with heap := (s.heap.push (seqObj "list" #[] 0)).update s.heap.objs.size (Obj.mapSeq (· ++ vs.toArray)) } → wpAny (model prog w) A (collect (.ref l)) Q E s
theorem cols_tup {l : Addr} {vs : List Value} (ht : IsTup s.heap l vs.toArray) (hz : vs.length ≤ sizeLine) : Cols prog w s l vs := by
  intro A E Q h
  obtain ⟨o, ho, hc, n, hd⟩ := id ht
  unfold collect
  refine wpAny_bind (wpAny_runValue (codeAny_builtin entry_proto_collect' ?_))
  show wpAny _ _ (newList [] >>= fun x => again (.builtin "list.__iadd__" ⟨[x, .ref l], []⟩)) _ _ s
  refine wpAny_bind (wpAny_newList (wpAny_pure ⟨Code.quiet_builtin _ (by decide +kernel), codeAny_builtin entry_list_iadd' ?_⟩))
  show wpAny _ _ (Builtin.List.listExtendWith (.ref s.heap.objs.size) (.ref l) (.ref s.heap.objs.size)) _ _ { s with heap := s.heap.push (seqObj "list" #[] 0) }
  unfold Builtin.List.listExtendWith
  have ho2 : (s.heap.push (seqObj "list" #[] 0)).get? l = some o := Heap.get?_push_of_some _ ho
  refine wpAny_bind (wpAny_typeOf (T := "tuple") ⟨o, ho2, hc⟩ ?_)
  have ht : (Value.type "tuple" == Value.type "tuple") = true := by decide
  rw [if_pos (by rw [ht, Bool.or_true])]
  refine wpAny_bind (listItems_at ho2 hd ?_)
  refine wpAny_bind (listItems_at (xs := #[]) (n := 0) (Heap.get?_push_size _ rfl) rfl ?_)
  rw [if_neg (by simp)]
  have hz2 : (#[] ++ vs.toArray).size ≤ sizeLine + 1 := by
    simp only [Array.size_append, List.size_toArray, List.length_nil]
    omega
  refine wpAny_bind (listUpdate_at (xs := #[]) (n := 0) (Heap.get?_push_size _ rfl) rfl ?_ (Nat.zero_le _) hz2)
  refine wpAny_pure ?_
  refine wpAny_bind (wpAny_load (get?_update_seq (Heap.get?_push_size _ rfl) _) ?_)
  show wpAny _ _ (pure ((#[] : Array Value) ++ vs.toArray).toList) Q E _
  have e1 : ((#[] : Array Value) ++ vs.toArray).toList = vs := by simp
  rw [e1]
  exact wpAny_pure h
theorem sorted_cols {l : Addr} {vs : List Value} {ltv : Value → Value → Bool} {Q : Value → Shared → Prop} (O : Swo ltv) (hl : Cols prog w s l vs) (hz : vs.length ≤ sizeLine)
    (hS : 2 ≤ vs.length → ∀ (h1 : Heap) (a : Addr), h1.get? a = some (seqObj "list" vs.toArray 0) → (∀ b o, s.heap.get? b = some o → b ≠ a ∧ h1.get? b = some o) → SortableO prog w A.in1.in1 { s with heap := h1 } a vs ltv)
    (h : ∀ out : List Value, Srtd ltv out → Stb ltv out vs → Q (.ref (s.heap.objs.size + 1)) { s with heap := sortedAll s.heap vs out.toArray }) :
    wpAny (model prog w) A (call (.builtin "sorted") [.ref l]) Q E s := by
  refine Calls.call_function_entry kind_sorted plain_sorted entry_sorted (args_sorted1 _) ?_
  unfold Builtin.«sorted»
  refine wpAny_bind (m := checkCount "sorted" 1 1 _) (wpAny_pure ?_)
  refine wpAny_bind (hl _ _ _ ?_)
  refine wpAny_bind (wpAny_newList ?_ hz)
  generalize hh : (s.heap.push (seqObj "list" #[] 0)).update s.heap.objs.size (Obj.mapSeq (· ++ vs.toArray)) = g
  have hsz : g.objs.size = s.heap.objs.size + 1 := by rw [← hh, Heap.size_update, size_push']
  have hoL : (g.push (seqObj "list" vs.toArray 0)).get? (s.heap.objs.size + 1) = some (seqObj "list" vs.toArray 0) := by
    rw [← hsz]
    exact Heap.get?_push_size _ rfl
  have keep : ∀ b o, s.heap.get? b = some o → b ≠ s.heap.objs.size + 1 ∧ (g.push (seqObj "list" vs.toArray 0)).get? b = some o := fun b o q => by
    have hlt : b < s.heap.objs.size := Heap.lt_size q
    have hne : b ≠ s.heap.objs.size := Nat.ne_of_lt hlt
    refine ⟨Nat.ne_of_lt (Nat.lt_succ_of_lt hlt), Heap.get?_push_of_some _ ?_⟩
    rw [← hh, Heap.get?_update_ne _ _ _ _ hne]
    exact Heap.get?_push_of_some _ q
  show wpAny _ _ _ _ _ { s with heap := g.push (seqObj "list" vs.toArray 0) }
  rw [hsz]
  refine wpAny_bind (wpAny_holding ?_)
  refine wpAny_call_entry slot_list_sort ⟨_, hoL, rfl⟩ entry_list_sort ?_ (args_list_sort _)
  refine list_sort_ord O hoL hz (fun h2 => hS h2 _ _ hoL keep) fun out o1 o2 => ⟨_, rfl, ?_⟩
  have fin := h out o1 o2
  rw [show sortedAll s.heap vs out.toArray = sortedHeap (g.push (seqObj "list" vs.toArray 0)) (s.heap.objs.size + 1) vs out.toArray by rw [← hh]; rfl] at fin
  exact wpAny_pure ⟨_, rfl, fin⟩
end
end Sw.Srt2
namespace Sw
open PySem PySem.Spec PyProof.Rows L2
/-- sorted of a tuple of ints -/
theorem cr_sortedT {X : Cx} : CallR X (.builtin "sorted") (fun vs H Q => ∃ (a : Addr) (ns : List Int), vs = [V.ref a] ∧ SqT X.K H a (ns.map V.int) ∧
    ∀ (ns' : List Int) (p : Addr), ns'.Perm ns → ns'.Pairwise (· ≤ ·) → H p = none → Q (.ref p) (upd H p (.lst (ns'.map V.int)))) := by
  intro pins s σ H vs us Q I r h
  obtain ⟨a, ns, rfl, hs, q⟩ := h
  obtain ⟨its, rv, hl, hz⟩ := I.tuple hs
  rw [Vals.ref1 r]
  have hi := rv.ints
  have hz2 : its.length ≤ sizeLine := by rw [← rv.length]; exact hz
  refine Srt2.sorted_cols SrtO.swo_int (Srt2.cols_tup hl hz2) hz2 (fun h2 h1 a' _ _ => SrtO.ints_sortable hi h2) fun out h1 h2 => ?_
  obtain ⟨k1, k2, k3⟩ := SrtO.ints_out hi h1 h2
  obtain ⟨ep, he⟩ := PyProof.Rows.sortedAll_at s.heap its out.toArray
  have hlen : ((out.map SrtO.iv).map V.int).length ≤ sizeLine := by
    rw [List.length_map, k2.length_eq]
    simpa using hz
  have I1 := I.laid (t' := s.toks) (o := .lst ((out.map SrtO.iv).map V.int)) (fun _ _ => PyProof.Rows.sortedAll_old) (Nat.le_succ _) ⟨hlen, out, ep, vals_of_ints k1, he⟩
  exact ⟨.ref _, _, I1, rfl, q _ _ k2 k3 (I.hok.fresh (Nat.le_succ _))⟩
end Sw

set_option Elab.async false
set_option linter.all false
set_option maxRecDepth 100000
/-! Sw, part E: calls of built-ins, by data. -/
namespace Sw
open PySem PySem.Spec PyProof.Rows L2
variable {Y : Cfg} {Z Z1 : Zs} {ms ms1 : List Addr} {H H1 : Hp} {st st1 : Store} {Q : VK} {v u : V} {d e : D} {vs xs : List V} {ds es : List D} {X : Cx}

def BI.nm : BI → Str
  | .len => "len" | .tuple => "tuple" | .list => "list" | .sorted => "sorted" | .sum => "sum" | .all => "all" | .any => "any"
  | .max1 => "max" | .min1 => "min" | .max2 => "max" | .min2 => "min" | .abs => "abs" | .int => "int" | .str => "str" | .repr => "repr" | .bool => "bool"
def BI.val : BI → Value
  | .len => .builtin "len" | .tuple => .type "tuple" | .list => .type "list" | .sorted => .builtin "sorted" | .sum => .builtin "sum" | .all => .builtin "all" | .any => .builtin "any"
  | .max1 => .builtin "max" | .min1 => .builtin "min" | .max2 => .builtin "max" | .min2 => .builtin "min" | .abs => .builtin "abs" | .int => .type "int" | .str => .type "str" | .repr => .builtin "repr" | .bool => .type "bool"
theorem BI.boot (b : BI) : bootBuiltins b.nm = some b.val := by cases b <;> decide +kernel
/-- does it want that no error is handled around -/
def BI.hot : BI → Bool
  | .sum | .all | .any | .max1 | .min1 | .max2 | .min2 => false
  | _ => true

theorem max_of : ∀ {ns : List Int} {m : Int}, maxs ns = some m → m ∈ ns ∧ ∀ y ∈ ns, y ≤ m
  | [], _, e => by cases e
  | [x], m, e => by cases e; simp
  | x :: y :: r, m, e => by
    unfold maxs at e
    simp only [Option.map_eq_some_iff] at e
    obtain ⟨z, e1, e2⟩ := e
    obtain ⟨h1, h2⟩ := max_of e1
    by_cases hx : x < z
    · rw [if_pos hx] at e2; subst e2
      exact ⟨List.mem_cons_of_mem _ h1, fun w hw => by
        rcases List.mem_cons.mp hw with rfl | hw
        · omega
        · exact h2 w hw⟩
    · rw [if_neg hx] at e2; subst e2
      exact ⟨List.mem_cons_self, fun w hw => by
        rcases List.mem_cons.mp hw with rfl | hw
        · omega
        · have := h2 w hw; omega⟩
theorem min_of : ∀ {ns : List Int} {m : Int}, mins ns = some m → m ∈ ns ∧ ∀ y ∈ ns, m ≤ y
  | [], _, e => by cases e
  | [x], m, e => by cases e; simp
  | x :: y :: r, m, e => by
    unfold mins at e
    simp only [Option.map_eq_some_iff] at e
    obtain ⟨z, e1, e2⟩ := e
    obtain ⟨h1, h2⟩ := min_of e1
    by_cases hx : z < x
    · rw [if_pos hx] at e2; subst e2
      exact ⟨List.mem_cons_of_mem _ h1, fun w hw => by
        rcases List.mem_cons.mp hw with rfl | hw
        · omega
        · exact h2 w hw⟩
    · rw [if_neg hx] at e2; subst e2
      exact ⟨List.mem_cons_self, fun w hw => by
        rcases List.mem_cons.mp hw with rfl | hw
        · omega
        · have := h2 w hw; omega⟩
theorem max_uniq {ns : List Int} {m n : Int} (h1 : m ∈ ns) (h2 : ∀ y ∈ ns, y ≤ m) (g1 : n ∈ ns) (g2 : ∀ y ∈ ns, y ≤ n) : n = m := by
  have := h2 n g1; have := g2 m h1; omega
theorem min_uniq {ns : List Int} {m n : Int} (h1 : m ∈ ns) (h2 : ∀ y ∈ ns, m ≤ y) (g1 : n ∈ ns) (g2 : ∀ y ∈ ns, n ≤ y) : n = m := by
  have := h2 n g1; have := g2 m h1; omega
theorem insI_perm (x : Int) : ∀ l : List Int, (insI x l).Perm (x :: l)
  | [] => List.Perm.refl _
  | y :: r => by
    unfold insI
    split
    · exact List.Perm.refl _
    · exact ((insI_perm x r).cons y).trans (List.Perm.swap x y r)
theorem sortI_perm : ∀ l : List Int, (sortI l).Perm l
  | [] => List.Perm.refl _
  | x :: r => (insI_perm x _).trans ((sortI_perm r).cons x)
theorem insI_sorted (x : Int) : ∀ {l : List Int}, l.Pairwise (· ≤ ·) → (insI x l).Pairwise (· ≤ ·)
  | [], _ => by simp [insI]
  | y :: r, h => by
    obtain ⟨h1, h2⟩ := List.pairwise_cons.mp h
    unfold insI
    split
    · rename_i hx
      refine List.pairwise_cons.mpr ⟨fun z hz => ?_, h⟩
      rcases List.mem_cons.mp hz with rfl | hz
      · exact hx
      · have := h1 z hz; omega
    · rename_i hx
      refine List.pairwise_cons.mpr ⟨fun z hz => ?_, insI_sorted x h2⟩
      rcases List.mem_cons.mp ((insI_perm x r).mem_iff.mp hz) with rfl | hz
      · omega
      · exact h1 z hz
theorem sortI_sorted : ∀ l : List Int, (sortI l).Pairwise (· ≤ ·)
  | [] => List.Pairwise.nil
  | x :: r => insI_sorted x (sortI_sorted r)
theorem sorted_uniq {a b : List Int} (p : a.Perm b) (ha : a.Pairwise (· ≤ ·)) (hb : b.Pairwise (· ≤ ·)) : a = b :=
  p.eq_of_pairwise (fun x y _ _ h1 h2 => by omega) ha hb
mutual
theorem py_noDict : ∀ {d : D} {p : PyData}, d.py = some p → p.hasDict = false
  | .non, _, e => by simp [D.py] at e; subst e; rfl
  | .bl b, _, e => by simp [D.py] at e; subst e; rfl
  | .int b, _, e => by simp [D.py] at e; subst e; rfl
  | .str b, _, e => by simp [D.py] at e; subst e; rfl
  | .tup ds, p, e => by
    simp only [D.py, Option.map_eq_some_iff] at e
    obtain ⟨ps, e1, rfl⟩ := e
    exact pys_noDict e1
  | .lst ds, p, e => by
    simp only [D.py, Option.map_eq_some_iff] at e
    obtain ⟨ps, e1, rfl⟩ := e
    exact pys_noDict e1
  | .ins _ _, _, e => by simp [D.py] at e
  | .cell _, _, e => by simp [D.py] at e
  | .fn _, _, e => by simp [D.py] at e
  | .seqI _, _, e => by simp [D.py] at e
theorem pys_noDict : ∀ {ds : List D} {ps : List PyData}, D.py.pys ds = some ps → PyData.hasDictAll ps = false
  | [], ps, e => by simp [D.py.pys] at e; subst e; rfl
  | d :: ds, ps, e => by
    unfold D.py.pys at e
    split at e
    · rename_i p ps' e1 e2
      cases e
      unfold PyData.hasDictAll
      rw [py_noDict e1, pys_noDict e2]
      rfl
    · cases e
end
theorem reprD_some {t : Str} (h : reprD d = some t) : ∃ p, d.py = some p ∧ p.showable = true ∧ p.depth ≤ 32 ∧ p.shown.length ≤ sizeLine ∧ t = p.shown := by
  unfold reprD at h
  split at h
  · rename_i p e1
    split at h
    · rename_i hc
      cases h
      obtain ⟨h12, h3⟩ := Bool.and_eq_true_iff.mp hc
      obtain ⟨h1, h2⟩ := Bool.and_eq_true_iff.mp h12
      exact ⟨p, e1, h1, of_decide_eq_true h2, okLen_le h3, rfl⟩
    · cases h
  · cases h
theorem repr_run {pins : List (Addr × Obj)} {s : Shared} {σ : L2.St} {x : V} {v : Value} {p : PyData} (hu : X.A.units + 65 < cLine) (hg : X.A.guards = some []) (I : Inv X pins σ H s) (rx : RelV x v)
    (h : Dp X.K H x p) (h1 : p.showable = true) (h2 : p.depth ≤ 32) (h3 : p.shown.length ≤ sizeLine) (h4 : p.hasDict = false) (q : Q (.str p.shown) H) :
    wpAny (model X.prog X.w) X.A (call (.builtin "repr") [v]) (EP X pins σ Q) X.xe s := by
  cases h with
  | non => cases rx; exact PySem.P.repr_of_none ⟨.str _, H, I.tok _, ⟨_, rfl⟩, q⟩
  | bl b => cases rx; exact PySem.P.repr_of_bool ⟨.str _, H, I.tok _, ⟨_, rfl⟩, q⟩
  | int i => obtain ⟨t, rfl⟩ := rx; exact PySem.P.repr_of_int (of_decide_eq_true h1) ⟨.str _, H, I.tok _, ⟨_, rfl⟩, q⟩
  | str z => obtain ⟨t, rfl⟩ := rx; exact PySem.P.repr_of_str ⟨.str _, H, I.tok _, ⟨_, rfl⟩, q⟩ h3
  | lst hs ha =>
    obtain ⟨as, r⟩ := Dp.reads I _ _ v (.lst hs ha) rx
    cases rx
    refine repr_of_reads' r h1 (PyData.noDict_hsm h4) hg (by omega) (fun _ _ e => e) (fun h' u tk hk => ?_) h3
    exact ⟨.str _, H, I.kept hk, ⟨_, rfl⟩, q⟩
  | tup hs ha =>
    obtain ⟨as, r⟩ := Dp.reads I _ _ v (.tup hs ha) rx
    cases rx
    refine repr_of_reads' r h1 (PyData.noDict_hsm h4) hg (by omega) (fun _ _ e => e) (fun h' u tk hk => ?_) h3
    exact ⟨.str _, H, I.kept hk, ⟨_, rfl⟩, q⟩

def rBi (Y : Cfg) (b : BI) : List V → Hp → VK → Prop := fun vs H Q => ∃ Z ms st ds d, StOk Y Z ms H st ∧ DenBL Y Z ms H vs ds ∧ biD b ds = some d ∧ Fin Y Z ms H st Q d
theorem DenBL.one (h : DenBL Y Z ms H vs [d]) : ∃ v, vs = [v] ∧ DenB Y Z ms H v d := by
  cases h with
  | cons a b => cases b; exact ⟨_, rfl, a⟩
theorem DenBL.two (h : DenBL Y Z ms H vs [d, e]) : ∃ v u, vs = [v, u] ∧ DenB Y Z ms H v d ∧ DenB Y Z ms H u e := by
  cases h with
  | cons a b => cases b with
    | cons c r => cases r; exact ⟨_, _, rfl, a, c⟩
theorem rowOf_some (hx : DenB Y Z ms H v d) (e : rowOf d = some ds) : ∃ a xs, v = .ref a ∧ DenL Y Z ms H xs ds ∧ ((d = .lst ds ∧ H a = some (.lst xs)) ∨ (d = .tup ds ∧ SqT Y.K H a xs)) := by
  unfold rowOf at e
  split at e
  · cases e
    obtain ⟨a, xs, rfl, q, r⟩ := hx.tup
    exact ⟨a, xs, rfl, r, .inr ⟨rfl, q⟩⟩
  · cases e
    obtain ⟨a, xs, rfl, q, r⟩ := hx.lst
    exact ⟨a, xs, rfl, r, .inl ⟨rfl, q⟩⟩
  · cases e
theorem listO_some (hx : DenB Y Z ms H v d) (e : listO d = some ds) : ∃ a xs, v = .ref a ∧ DenL Y Z ms H xs ds ∧ (SqL Y.K H a xs ∨ SqT Y.K H a xs) := by
  cases d with
  | seqI ns =>
    cases e
    rcases hx with hx | ⟨_, _, _, _, z, _⟩
    · cases hx with
      | seqI q => exact ⟨_, _, rfl, denL_ints ns, .inl q.sq⟩
    · cases z
  | _ =>
    obtain ⟨a, xs, rfl, r, ⟨_, q⟩ | ⟨_, q⟩⟩ := rowOf_some hx e
    · exact ⟨a, xs, rfl, r, .inl (SqL.of q)⟩
    · exact ⟨a, xs, rfl, r, .inr q⟩
theorem lstOf_some (hx : DenB Y Z ms H v d) (e : lstOf d = some ds) : ∃ a xs, v = .ref a ∧ DenL Y Z ms H xs ds ∧ H a = some (.lst xs) := by
  unfold lstOf at e
  split at e
  · cases e
    obtain ⟨a, xs, rfl, q, r⟩ := hx.lst
    exact ⟨a, xs, rfl, r, q⟩
  · cases e
theorem call_bi (hK : X.K = Y.K) (hu : X.A.units + 65 < cLine) (hg : X.A.guards = some []) (b : BI) (hc : b.hot = true ∨ X.calm = true) : CallR X b.val (rBi Y b) := by
  intro pins s σ H vs us Q I r h
  obtain ⟨Z, ms, st, ds, d, k, hx, e, F⟩ := h
  unfold biD at e
  split at e
  · -- len
    obtain ⟨v, rfl, hb⟩ := hx.one
    split at e
    · cases e
      obtain ⟨a, xs, rfl, q, rr⟩ := hb.tup
      exact call_len pins s σ H _ us Q I r ⟨_, _, rfl, .inr ⟨xs, by rw [hK]; exact q, rr.length.symm⟩, F.here k (.int _)⟩
    · cases e
      obtain ⟨a, xs, rfl, q, rr⟩ := hb.lst
      exact call_len pins s σ H _ us Q I r ⟨_, _, rfl, .inl ⟨xs, SqL.of q, rr.length.symm⟩, F.here k (.int _)⟩
    · split at e
      · rename_i z hz
        cases e
        have := hb.str
        subst this
        exact call_len pins s σ H _ us Q I r ⟨_, _, rfl, ⟨okLen_le hz, rfl⟩, F.here k (.int _)⟩
      · cases e
    · cases e
  · -- tuple
    obtain ⟨v, rfl, hb⟩ := hx.one
    simp only [Option.map_eq_some_iff] at e
    obtain ⟨es, e1, rfl⟩ := e
    obtain ⟨a, xs, rfl, rr, ⟨rfl, q⟩ | ⟨rfl, q⟩⟩ := rowOf_some hb e1
    · exact call_tuple_of pins s σ H _ us Q I r ⟨a, xs, rfl, .inl ⟨SqL.of q, F.tup k rr⟩⟩
    · refine call_tuple_of pins s σ H _ us Q I r ⟨a, xs, rfl, .inr ⟨by rw [hK]; exact q, ?_⟩⟩
      rcases hb with hb | ⟨_, _, _, _, zz, _⟩
      · exact F.here k hb
      · cases zz
  · -- list
    obtain ⟨v, rfl, hb⟩ := hx.one
    simp only [Option.map_eq_some_iff] at e
    obtain ⟨es, e1, rfl⟩ := e
    obtain ⟨a, xs, rfl, rr, q | q⟩ := listO_some hb e1
    · exact call_list_of pins s σ H _ us Q I r ⟨a, xs, rfl, .inl (by rw [hK]; exact q), F.lst k rr⟩
    · exact call_list_of pins s σ H _ us Q I r ⟨a, xs, rfl, .inr (by rw [hK]; exact q), F.lst k rr⟩
  · -- sorted
    obtain ⟨v, rfl, hb⟩ := hx.one
    obtain ⟨es, e1, e2⟩ := Option.bind_eq_some_iff.mp e
    simp only [Option.map_eq_some_iff] at e2
    obtain ⟨fs, e3, rfl⟩ := e2
    unfold sortedD at e3
    split at e3
    · rename_i ns e4
      cases e3
      obtain ⟨a, xs, rfl, rr, ⟨rfl, q⟩ | ⟨rfl, q⟩⟩ := rowOf_some hb e1
      · have := rr.ints e4
        subst this
        refine cr_sortedI pins s σ H _ us Q I r ⟨a, ns, rfl, SqL.of q, fun ns' p h1 h2 hp => ?_⟩
        rw [sorted_uniq (h1.trans (sortI_perm ns).symm) h2 (sortI_sorted ns)]
        exact F.lst k (denL_ints _) p hp
      · have := rr.ints e4
        subst this
        refine cr_sortedT pins s σ H _ us Q I r ⟨a, ns, rfl, by rw [hK]; exact q, fun ns' p h1 h2 hp => ?_⟩
        rw [sorted_uniq (h1.trans (sortI_perm ns).symm) h2 (sortI_sorted ns)]
        exact F.lst k (denL_ints _) p hp
    · cases e3
  · -- sum
    obtain ⟨v, rfl, hb⟩ := hx.one
    obtain ⟨es, e1, e2⟩ := Option.bind_eq_some_iff.mp e
    simp only [Option.map_eq_some_iff] at e2
    obtain ⟨ns, e3, rfl⟩ := e2
    obtain ⟨a, xs, rfl, rr, q⟩ := lstOf_some hb e1
    have := rr.ints e3
    subst this
    exact cr_sum (hc.resolve_left (by decide)) pins s σ H _ us Q I r ⟨a, ns, rfl, SqL.of q, F.here k (.int _)⟩
  · -- all
    obtain ⟨v, rfl, hb⟩ := hx.one
    obtain ⟨es, e1, e2⟩ := Option.bind_eq_some_iff.mp e
    simp only [Option.map_eq_some_iff] at e2
    obtain ⟨ns, e3, rfl⟩ := e2
    obtain ⟨a, xs, rfl, rr, q⟩ := lstOf_some hb e1
    have := rr.bools e3
    subst this
    exact cr_all (hc.resolve_left (by decide)) pins s σ H _ us Q I r ⟨a, ns, rfl, SqL.of q, F.here k (.bl _)⟩
  · -- any
    obtain ⟨v, rfl, hb⟩ := hx.one
    obtain ⟨es, e1, e2⟩ := Option.bind_eq_some_iff.mp e
    simp only [Option.map_eq_some_iff] at e2
    obtain ⟨ns, e3, rfl⟩ := e2
    obtain ⟨a, xs, rfl, rr, q⟩ := lstOf_some hb e1
    have := rr.bools e3
    subst this
    exact cr_any (hc.resolve_left (by decide)) pins s σ H _ us Q I r ⟨a, ns, rfl, SqL.of q, F.here k (.bl _)⟩
  · -- max
    obtain ⟨v, rfl, hb⟩ := hx.one
    obtain ⟨es, e1, e2⟩ := Option.bind_eq_some_iff.mp e
    obtain ⟨ns, e3, e4⟩ := Option.bind_eq_some_iff.mp e2
    simp only [Option.map_eq_some_iff] at e4
    obtain ⟨m, e5, rfl⟩ := e4
    obtain ⟨a, xs, rfl, rr, q⟩ := lstOf_some hb e1
    have := rr.ints e3
    subst this
    obtain ⟨h1, h2⟩ := max_of e5
    refine cr_max (hc.resolve_left (by decide)) pins s σ H _ us Q I r ⟨a, ns, rfl, SqL.of q, List.length_pos_of_mem h1, fun n g1 g2 => ?_⟩
    rw [max_uniq h1 h2 g1 g2]
    exact F.here k (.int _)
  · -- min
    obtain ⟨v, rfl, hb⟩ := hx.one
    obtain ⟨es, e1, e2⟩ := Option.bind_eq_some_iff.mp e
    obtain ⟨ns, e3, e4⟩ := Option.bind_eq_some_iff.mp e2
    simp only [Option.map_eq_some_iff] at e4
    obtain ⟨m, e5, rfl⟩ := e4
    obtain ⟨a, xs, rfl, rr, q⟩ := lstOf_some hb e1
    have := rr.ints e3
    subst this
    obtain ⟨h1, h2⟩ := min_of e5
    refine cr_min (hc.resolve_left (by decide)) pins s σ H _ us Q I r ⟨a, ns, rfl, SqL.of q, List.length_pos_of_mem h1, fun n g1 g2 => ?_⟩
    rw [min_uniq h1 h2 g1 g2]
    exact F.here k (.int _)
  · cases e
    obtain ⟨v, u, rfl, h1, h2⟩ := hx.two
    have := h1.int; subst this
    have := h2.int; subst this
    exact call_max2 (hc.resolve_left (by decide)) pins s σ H _ us Q I r ⟨_, _, rfl, F.here k (.int _)⟩
  · cases e
    obtain ⟨v, u, rfl, h1, h2⟩ := hx.two
    have := h1.int; subst this
    have := h2.int; subst this
    exact call_min2 (hc.resolve_left (by decide)) pins s σ H _ us Q I r ⟨_, _, rfl, F.here k (.int _)⟩
  · cases e
    obtain ⟨v, rfl, hb⟩ := hx.one
    have := hb.int; subst this
    exact call_abs pins s σ H _ us Q I r ⟨_, rfl, F.here k (.int _)⟩
  · cases e
    obtain ⟨v, rfl, hb⟩ := hx.one
    have := hb.int; subst this
    exact call_int1 pins s σ H _ us Q I r (.inl ⟨_, rfl, F.here k (.int _)⟩)
  · cases e
    obtain ⟨v, rfl, hb⟩ := hx.one
    have := hb.bl; subst this
    exact call_int1 pins s σ H _ us Q I r (.inr ⟨_, rfl, F.here k (.int _)⟩)
  · split at e
    · rename_i hz
      have hz1 := of_decide_eq_true hz
      cases e
      obtain ⟨v, rfl, hb⟩ := hx.one
      have := hb.int; subst this
      exact call_str_int pins s σ H _ us Q I r ⟨_, rfl, hz1, F.here k (.str _)⟩
    · cases e
  · simp only [Option.map_eq_some_iff] at e
    obtain ⟨t, e1, rfl⟩ := e
    obtain ⟨v, rfl, hb⟩ := hx.one
    obtain ⟨p, e2, h1, h2, h3, rfl⟩ := reprD_some e1
    obtain ⟨u, rfl, ru⟩ := vals1 r
    exact repr_run hu hg I ru (hK ▸ hb.dp e2) h1 h2 h3 (py_noDict e2) (F.here k (.str _))
  · cases e
end Sw

set_option Elab.async false
set_option linter.all false
set_option maxRecDepth 100000
/-! Sw, part F: expressions, rule by rule. -/
namespace Sw
open PySem PySem.Spec PyProof.Rows L2
abbrev RE (Y : Cfg) (O : Own) (Wx : WX) (m : Ev) : TE := RG Y O Wx (VD Y) m
abbrev REB (Y : Cfg) (O : Own) (Wx : WX) (m : Ev) : TE := RG Y O Wx (VDB Y) m
abbrev RT (Y : Cfg) (O : Own) (Wx : WX) (m : Fr → M Bool) : TT := RG Y O Wx (VE (α := Bool)) m
abbrev RL (Y : Cfg) (O : Own) (Wx : WX) (m : Fr → M (List D)) : TA := RG Y O Wx (VL Y) m
abbrev RLB (Y : Cfg) (O : Own) (Wx : WX) (m : Fr → M (List D)) : TA := RG Y O Wx (VBL Y) m
abbrev RO (Y : Cfg) (O : Own) (Wx : WX) (m : Fr → M (Option Int)) : TO := RG Y O Wx (VE (α := Option Int)) m
theorem _root_.L2.PE.imp {X : Cx} {e : Expr} {t t' : TE} (h : PE X e t) (i : ∀ σ H Q, t' σ H Q → t σ H Q) : PE X e t' := ⟨fun pins s σ H Q I q => h.run pins s σ H Q I (i σ H Q q)⟩
theorem _root_.L2.PT.imp {X : Cx} {e : Expr} {t t' : TT} (h : PT X e t) (i : ∀ σ H Q, t' σ H Q → t σ H Q) : PT X e t' := ⟨fun pins s σ H Q I q => h.run pins s σ H Q I (i σ H Q q)⟩
theorem _root_.L2.PA.imp {X : Cx} {e : List Expr} {t t' : TA} (h : PA X e t) (i : ∀ σ H Q, t' σ H Q → t σ H Q) : PA X e t' := ⟨fun pos pins s σ H Q I q => h.run pos pins s σ H Q I (i σ H Q q)⟩
theorem _root_.L2.PO.imp {X : Cx} {e : Option Expr} {t t' : TO} (h : PO X e t) (i : ∀ σ H Q, t' σ H Q → t σ H Q) : PO X e t' := ⟨fun pins s σ H Q I q => h.run pins s σ H Q I (i σ H Q q)⟩
theorem _root_.L2.PS.imp {X : Cx} {e : Stmt} {t t' : TS} (h : PS X e t) (i : ∀ D σ H, t' D σ H → t D σ H) : PS X e t' := ⟨fun pins s σ H D I q => h.run pins s σ H D I (i D σ H q)⟩
theorem _root_.L2.PSs.imp {X : Cx} {e : List Stmt} {t t' : TS} (h : PSs X e t) (i : ∀ D σ H, t' D σ H → t D σ H) : PSs X e t' := ⟨fun pins s σ H D I q => h.run pins s σ H D I (i D σ H q)⟩

variable {Y : Cfg} {O : Own} {Wx : WX} {X : Cx} {pos : Pos} {a b c : Expr} {ma mb mc : Ev} {es : List Expr} {ml : Fr → M (List D)} {δ : Fr} {σ : L2.St}
variable {Z Z1 : Zs} {ms ms1 : List Addr} {H H1 : Hp} {st st1 : Store} {Q : VK}

theorem fin_of {d : D} (P : Post Y Wx (VD Y) σ Z ms H st (M.pure d st) Q) : Fin Y Z ms H st Q d := P
theorem reb_of (h : PE X a (RE Y O Wx ma)) : PE X a (REB Y O Wx ma) := h.imp fun σ H Q ⟨δ, st, Z, ms, R, P⟩ => ⟨δ, st, Z, ms, R, by
  cases e : ma δ st with
  | ok d st' => rw [e] at P; exact fun v H' Z' ms' s q => P v H' Z' ms' s (.inl q)
  | exn c fs st' => rw [e] at P; exact P
  | bad => rw [e] at P; exact P⟩

/-! ### names, constants -/
theorem lookV_some {i : Nat} {d : D} (h : lookV δ i = some d) : δ[i]? = some (some (.sh d)) := by
  unfold lookV at h
  split at h
  · rename_i e
    cases h
    exact e
  · cases h
theorem se_var {i : Nat} {x : Str} (hN : X.N[i]? = some x) (hv : Vis X.env.scope x) (hd : (x == ("__debug__" : Str)) = false) (hcd : (x == ("__classdict__" : Str)) = false) :
    PE X (.Name x pos) (RE Y O Wx fun δ => M.of (lookV δ i)) := (pe_var hN hv hd hcd).imp fun σ H Q ⟨δ, st, Z, ms, R, P⟩ => by
  obtain ⟨d, e, P⟩ := Post.of P
  obtain ⟨x, e1, v, rfl, q⟩ := R.slots i _ (lookV_some e)
  exact ⟨v, e1, P.pure' R.ok q⟩
theorem se_bor {i : Nat} {x : Str} (hN : X.N[i]? = some x) (hv : Vis X.env.scope x) (hd : (x == ("__debug__" : Str)) = false) (hcd : (x == ("__classdict__" : Str)) = false) :
    PE X (.Name x pos) (REB Y O Wx fun δ => M.of (borV δ i)) := (pe_var hN hv hd hcd).imp fun σ H Q ⟨δ, st, Z, ms, R, P⟩ => by
  obtain ⟨d, e, P⟩ := Post.of P
  unfold borV at e
  obtain ⟨o, e0, e1⟩ := Option.bind_eq_some_iff.mp e
  obtain ⟨sl, rfl, e2⟩ := Option.bind_eq_some_iff.mp e1
  obtain ⟨x, e3, r⟩ := R.slots i _ e0
  cases sl with
  | sh d' =>
    cases e2
    obtain ⟨v, rfl, q⟩ := r
    exact ⟨v, e3, P.pure' R.ok (.inl q)⟩
  | ow ds =>
    cases e2
    obtain ⟨p, xs, rfl, h1, h2, h3, h4, h5⟩ := r
    exact ⟨_, e3, P.pure' R.ok (.inr ⟨p, xs, ds, rfl, rfl, h1, h4, h5⟩)⟩
  | thk => cases e2
  | exc _ _ => cases e2
theorem se_const {v : V} {d : D} (h : PE X a (tC v)) (hd : ∀ Z ms H, Den Y Z ms H v d) : PE X a (RE Y O Wx fun _ => M.pure d) :=
  h.imp fun σ H Q ⟨δ, st, Z, ms, R, P⟩ => P.pure' R.ok (hd _ _ _)
theorem se_gl {x : Str} {d : D} {C : Ctx} (hg : Gl X x) (hx : ∀ d, C.glob x = some d → ∃ u v, X.mg x = some u ∧ RelV v u ∧ ∀ Z ms H, Den Y Z ms H v d) (hd : (x == ("__debug__" : Str)) = false) :
    PE X (.Name x pos) (RE Y O Wx fun _ => M.of (C.glob x)) := by
  cases e : C.glob x with
  | none => exact ⟨fun pins s σ H Q I ⟨δ, st, Z, ms, R, P⟩ => P.elim⟩
  | some d =>
    obtain ⟨u, v, e1, r, q⟩ := hx d e
    exact se_const (pe_glob hg e1 r hd) q

/-! ### arguments -/
theorem sa_nil : PA X [] (RL Y O Wx fun _ => M.pure []) := pa_nil.imp fun σ H Q ⟨δ, st, Z, ms, R, P⟩ => P.pure' R.ok .nil
theorem sa_cons (ha : PE X a (RE Y O Wx ma)) (hr : PA X es (RL Y O Wx ml)) (hs : starEach (a :: es) X.env = (false, eval a X.env) :: starEach es X.env) :
    PA X (a :: es) (RL Y O Wx fun δ => M.bind (ma δ) fun d => M.bind (ml δ) fun ds => M.pure (d :: ds)) := (pa_cons ha hr hs).imp fun σ H Q ⟨δ, st, Z, ms, R, P⟩ =>
  rg_seq R P fun d st1 v H1 Z1 ms1 s1 R1 vd P1 => rg_seq R1 P1 fun ds st2 vs H2 Z2 ms2 s2 R2 vds P2 => P2.pure' R2.ok (.cons (s2.den R1.ok vd) vds)
theorem Step.denBL (s : Step Y Z ms H Z1 ms1 H1 st1) (k : StOk Y Z ms H st) : ∀ {vs : List V} {ds : List D}, DenBL Y Z ms H vs ds → DenBL Y Z1 ms1 H1 vs ds
  | _, _, .nil => .nil
  | _, _, .cons a b => .cons (s.denB k a) (Step.denBL s k b)
theorem sb_nil : PA X [] (RLB Y O Wx fun _ => M.pure []) := pa_nil.imp fun σ H Q ⟨δ, st, Z, ms, R, P⟩ => P.pure' R.ok .nil
theorem sb_cons (ha : PE X a (REB Y O Wx ma)) (hr : PA X es (RLB Y O Wx ml)) (hs : starEach (a :: es) X.env = (false, eval a X.env) :: starEach es X.env) :
    PA X (a :: es) (RLB Y O Wx fun δ => M.bind (ma δ) fun d => M.bind (ml δ) fun ds => M.pure (d :: ds)) := (pa_cons ha hr hs).imp fun σ H Q ⟨δ, st, Z, ms, R, P⟩ =>
  rg_seq R P fun d st1 v H1 Z1 ms1 s1 R1 vd P1 => rg_seq R1 P1 fun ds st2 vs H2 Z2 ms2 s2 R2 vds P2 => P2.pure' R2.ok (.cons (s2.denB R1.ok vd) vds)

/-! ### displays -/
theorem se_tup {k : Nat} (ha : PA X es (RL Y O Wx ml)) : PE X (.Tuple es k pos) (RE Y O Wx fun δ => M.bind (ml δ) fun ds => M.bind (okRow ds) fun ds => M.pure (.tup ds)) :=
  (pe_tup ha).imp fun σ H Q ⟨δ, st, Z, ms, R, P⟩ => rg_seq R P fun ds st1 vs H1 Z1 ms1 s1 R1 vds P1 => by
    obtain ⟨hz, P2⟩ := Post.okRow P1
    exact ⟨by rw [vds.length]; exact okLen_le hz, (fin_of P2).tup R1.ok vds⟩
/-- a list that is new and not frozen -/
def VFr (Y : Cfg) (Hs : Hp) : VRel D V := fun Z ms H v d => ∃ a xs ds, v = .ref a ∧ d = .lst ds ∧ H a = some (.lst xs) ∧ Hs a = none ∧ ¬ Z a ∧ ¬ Spc Y ms a ∧ DenL Y Z ms H xs ds
/-- the reading of an expression that tells a new list -/
def RF (Y : Cfg) (O : Own) (Wx : WX) (m : Ev) : TE := fun σ H Q => ∃ δ st Z ms, Rel Y O Z ms δ σ H st ∧ Post Y Wx (VFr Y H) σ Z ms H st (m δ st) Q
theorem re_of_rf (h : PE X a (RF Y O Wx ma)) : PE X a (RE Y O Wx ma) := h.imp fun σ H Q ⟨δ, st, Z, ms, R, P⟩ => ⟨δ, st, Z, ms, R, by
  cases e : ma δ st with
  | ok d st' =>
    rw [e] at P
    intro v H' Z' ms' s q
    obtain ⟨p, xs, ds, rfl, rfl, h1, h2, h3, h4, h5⟩ := q
    have k := s.ok.froze (p := p) (by rw [h1]; simp) h4
    refine P _ H' (fun q => Z' q ∨ q = p) ms' ⟨k, fun a z => .inl (s.zz a z), fun a z => ?_, s.mm, s.mn, s.kp⟩ (.lst h1 (.inr rfl) (h5.mono (fun _ z => .inl z) List.prefix_rfl fun _ _ _ e => e))
    rcases z with z | z
    · exact s.zn a z
    · rw [z]; exact .inr h2
  | exn c fs st' => rw [e] at P; exact P
  | bad => rw [e] at P; exact P⟩
/-- the end of an operation that makes a new list -/
theorem fin_fr {Hs : Hp} {ds : List D} {xs : List V} (P : Post Y Wx (VFr Y Hs) σ Z ms H st (M.pure (D.lst ds) st) Q) (k : StOk Y Z ms H st) (hs : ∀ p, H p = none → Hs p = none) (r : DenL Y Z ms H xs ds) :
    ∀ p, H p = none → Q (.ref p) (upd H p (.lst xs)) := fun p hp => by
  have s := Step.laid (o := .lst xs) k hp
  obtain ⟨n1, n2⟩ := k.free hp
  exact P _ _ Z ms s ⟨p, xs, ds, rfl, rfl, upd_same, hs p hp, n2, n1, s.denL k r⟩
theorem Step.back (s : Step Y Z ms H Z1 ms1 H1 st1) (k : StOk Y Z ms H st) : ∀ p, H1 p = none → H p = none := fun p hp => by
  cases e : H p with
  | none => rfl
  | some o =>
    by_cases hs : Spc Y ms p
    · exact absurd hp (s.ok.special (hs.imp (fun q => s.mm.subset q) id))
    · rw [s.kp p o e hs] at hp; cases hp
/-- as rg_seq, towards a new list -/
theorem rf_seq {α β : Type} {VR : VRel α β} {m : Fr → M α} {k : α → M D} {Q : β → Hp → Prop} {Q' : VK} {Hs : Hp} (R : Rel Y O Z ms δ σ H st) (P : Post Y Wx (VFr Y Hs) σ Z ms H st (M.bind (m δ) k st) Q')
    (h : ∀ a st1 v H1 Z1 ms1, Step Y Z ms H Z1 ms1 H1 st1 → Rel Y O Z1 ms1 δ σ H1 st1 → VR Z1 ms1 H1 v a → Post Y Wx (VFr Y Hs) σ Z1 ms1 H1 st1 (k a st1) Q' → Q v H1) : RG Y O Wx VR m σ H Q := rg_seq R P h
theorem sf_lst (ha : PA X es (RL Y O Wx ml)) : PE X (.List es pos) (RF Y O Wx fun δ => M.bind (ml δ) fun ds => M.bind (okRow ds) fun ds => M.pure (.lst ds)) :=
  (pe_lst ha).imp fun σ H Q ⟨δ, st, Z, ms, R, P⟩ => rg_seq R P fun ds st1 vs H1 Z1 ms1 s1 R1 vds P1 => by
    obtain ⟨hz, P2⟩ := Post.okRow P1
    exact ⟨by rw [vds.length]; exact okLen_le hz, fin_fr P2 R1.ok (s1.back R.ok) vds⟩

/-! ### operators -/
theorem se_bin {op : Operator} (hK : X.K = Y.K) (ha : PE X a (REB Y O Wx ma)) (hb : PE X b (REB Y O Wx mb)) :
    PE X (.BinOp a op b pos) (RE Y O Wx fun δ => M.bind (ma δ) fun x => M.bind (mb δ) fun y => M.of (binD op x y)) := (pe_op (op_bin hK op) ha hb).imp fun σ H Q ⟨δ, st, Z, ms, R, P⟩ =>
  rg_seq R P fun x st1 v H1 Z1 ms1 s1 R1 vx P1 => rg_seq R1 P1 fun y st2 u H2 Z2 ms2 s2 R2 vy P2 => by
    obtain ⟨z, e, P3⟩ := Post.of P2
    exact ⟨Z2, ms2, st2, x, y, z, R2.ok, s2.denB R1.ok vx, vy, e, P3⟩
theorem se_neg (ha : PE X a (RE Y O Wx ma)) : PE X (.UnaryOp .USub a pos) (RE Y O Wx fun δ => M.bind (ma δ) fun x => M.of (negD x)) := (pe_un un_neg ha).imp fun σ H Q ⟨δ, st, Z, ms, R, P⟩ =>
  rg_seq R P fun x st1 v H1 Z1 ms1 s1 R1 vx P1 => by
    obtain ⟨z, e, P3⟩ := Post.of P1
    cases x with
    | int i => cases e; cases vx; exact ⟨i, rfl, P3.pure' R1.ok (.int _)⟩
    | _ => cases e
theorem se_cmp {op : CmpOp} (hK : X.K = Y.K) (hu : X.A.units + 65 < cLine) (ha : PE X a (REB Y O Wx ma)) (hb : PE X b (REB Y O Wx mb)) (hm : behindInMarks op b = false) :
    PE X (.Compare a [op] [b] pos) (RE Y O Wx fun δ => M.bind (ma δ) fun x => M.bind (mb δ) fun y => M.bind (M.of (cmpD op x y)) fun r => M.pure (.bl r)) := (pe_cmpR (op_cmp hK hu op) ha hb hm).imp fun σ H Q ⟨δ, st, Z, ms, R, P⟩ =>
  rg_seq R P fun x st1 v H1 Z1 ms1 s1 R1 vx P1 => rg_seq R1 P1 fun y st2 u H2 Z2 ms2 s2 R2 vy P2 => by
    obtain ⟨r, e, P3⟩ := Post.bindOf P2
    exact ⟨Z2, ms2, st2, x, y, r, R2.ok, s2.denB R1.ok vx, vy, e, P3.pure' R2.ok (.bl r)⟩
/-- a test: what follows is the truth of the value -/
theorem rt_split {α : Type} {m : Fr → M Bool} {t : TT} (h : PT X a t) (i : ∀ σ H Q, RT Y O Wx m σ H Q → t σ H Q) : PT X a (RT Y O Wx m) := h.imp i
theorem st_cmp {op : CmpOp} (hK : X.K = Y.K) (hu : X.A.units + 65 < cLine) (ha : PE X a (REB Y O Wx ma)) (hb : PE X b (REB Y O Wx mb)) (hm : behindInMarks op b = false) :
    PT X (.Compare a [op] [b] pos) (RT Y O Wx fun δ => M.bind (M.bind (ma δ) fun x => M.bind (mb δ) fun y => M.bind (M.of (cmpD op x y)) fun r => M.pure (.bl r)) fun d => M.of (truthD d)) :=
  (pt_cmpR (op_cmp hK hu op) ha hb hm).imp fun σ H Q ⟨δ, st, Z, ms, R, P⟩ => by
    have e0 : (M.bind (M.bind (ma δ) fun x => M.bind (mb δ) fun y => M.bind (M.of (cmpD op x y)) fun r => M.pure (.bl r)) fun d => M.of (truthD d)) = M.bind (ma δ) fun x => M.bind (mb δ) fun y => M.of (cmpD op x y) := by
      funext st
      unfold M.bind
      cases ma δ st with
      | ok x s1 =>
        dsimp only
        cases mb δ s1 with
        | ok y s2 => dsimp only; cases cmpD op x y <;> rfl
        | exn _ _ _ => rfl
        | bad => rfl
      | exn _ _ _ => rfl
      | bad => rfl
    dsimp only at P
    rw [e0] at P
    refine rg_seq R P fun x st1 v H1 Z1 ms1 s1 R1 vx P1 => rg_seq R1 P1 fun y st2 u H2 Z2 ms2 s2 R2 vy P2 => ?_
    obtain ⟨r, e, P3⟩ := Post.of P2
    exact ⟨Z2, ms2, st2, x, y, r, R2.ok, s2.denB R1.ok vx, vy, e, r, rfl, P3.pure' R2.ok rfl⟩
theorem st_truth (hK : X.K = Y.K) (ha : PE X a (REB Y O Wx ma)) (he : ∀ whole, isTrue a X.env whole = (do let v ← whole; standAt a.pos; holding [v] (truthy v))) :
    PT X a (RT Y O Wx fun δ => M.bind (ma δ) fun d => M.of (truthD d)) := (pt_truth ha he).imp fun σ H Q ⟨δ, st, Z, ms, R, P⟩ =>
  rg_seq R P fun x st1 v H1 Z1 ms1 s1 R1 vx P1 => by
    obtain ⟨r, e, P3⟩ := Post.of P1
    exact ⟨r, by rw [hK]; exact tru_den vx e, P3.pure' R1.ok rfl⟩
theorem bind_assoc' {α β γ : Type} (m : M α) (f : α → M β) (g : β → M γ) : M.bind (M.bind m f) g = M.bind m fun a => M.bind (f a) g := by
  funext st
  unfold M.bind
  cases m st <;> rfl
theorem st_not {mt : Fr → M Bool} (ha : PT X a (RT Y O Wx mt)) : PT X (.UnaryOp .Not a pos) (RT Y O Wx fun δ => M.bind (M.bind (mt δ) fun b => M.pure (D.bl (!b))) fun d => M.of (truthD d)) :=
  (pt_not ha).imp fun σ H Q ⟨δ, st, Z, ms, R, P⟩ => by
    dsimp only at P
    rw [bind_assoc'] at P
    exact rg_seq R P fun x st1 v H1 Z1 ms1 s1 R1 vx P1 => by
      cases vx
      exact Post.pure' (VR := VE) P1 R1.ok rfl
theorem se_not (hK : X.K = Y.K) (ha : PE X a (REB Y O Wx ma)) : PE X (.UnaryOp .Not a pos) (RE Y O Wx fun δ => M.bind (M.bind (ma δ) fun d => M.of (truthD d)) fun b => M.pure (.bl (!b))) :=
  (pe_notT ha).imp fun σ H Q ⟨δ, st, Z, ms, R, P⟩ => by
    dsimp only at P
    rw [bind_assoc'] at P
    exact rg_seq R P fun x st1 v H1 Z1 ms1 s1 R1 vx P1 => by
      obtain ⟨r, e, P3⟩ := Post.bindOf P1
      exact ⟨r, by rw [hK]; exact tru_den vx e, P3.pure' R1.ok (.bl _)⟩
/-- and, or: as values -/
theorem se_one {op : BoolOp} (ha : PE X a (RE Y O Wx ma)) : PE X (.BoolOp op [a] pos) (RE Y O Wx ma) := pe_one ha
theorem se_and {rest : List Expr} {mr : Ev} (hK : X.K = Y.K) (ha : PE X a (RE Y O Wx ma)) (hr : PE X (.BoolOp .And (b :: rest) pos) (RE Y O Wx mr)) :
    PE X (.BoolOp .And (a :: b :: rest) pos) (RE Y O Wx fun δ => M.bind (ma δ) fun d => M.bind (M.of (truthD d)) fun k => if k = true then mr δ else M.pure d) := (pe_andT ha hr).imp fun σ H Q ⟨δ, st, Z, ms, R, P⟩ =>
  rg_seq R P fun x st1 v H1 Z1 ms1 s1 R1 vx P1 => by
    obtain ⟨r, e, P3⟩ := Post.bindOf P1
    refine ⟨r, by rw [hK]; exact tru_den (.inl vx) e, ?_⟩
    cases r with
    | true => exact ⟨δ, st1, Z1, ms1, R1, P3⟩
    | false => exact P3.pure' R1.ok vx
theorem se_or {rest : List Expr} {mr : Ev} (hK : X.K = Y.K) (ha : PE X a (RE Y O Wx ma)) (hr : PE X (.BoolOp .Or (b :: rest) pos) (RE Y O Wx mr)) :
    PE X (.BoolOp .Or (a :: b :: rest) pos) (RE Y O Wx fun δ => M.bind (ma δ) fun d => M.bind (M.of (truthD d)) fun k => if k = false then mr δ else M.pure d) := (pe_orT ha hr).imp fun σ H Q ⟨δ, st, Z, ms, R, P⟩ =>
  rg_seq R P fun x st1 v H1 Z1 ms1 s1 R1 vx P1 => by
    obtain ⟨r, e, P3⟩ := Post.bindOf P1
    refine ⟨r, by rw [hK]; exact tru_den (.inl vx) e, ?_⟩
    cases r with
    | true => exact P3.pure' R1.ok vx
    | false => exact ⟨δ, st1, Z1, ms1, R1, P3⟩
/-- .. as tests -/
theorem sw_one {cj : Bool} {op : BoolOp} {mt : Fr → M Bool} (ho : op = if cj then .And else .Or) (ha : PT X a (RT Y O Wx mt)) : PW X (.BoolOp op [a] pos) (RT Y O Wx mt) := by
  cases cj with
  | true => subst ho; exact pw_and1 ha
  | false => subst ho; exact pw_or1 ha
theorem sw_and {rest : List Expr} {mt mr : Fr → M Bool} (ha : PT X a (RT Y O Wx mt)) (hr : PW X (.BoolOp .And (b :: rest) pos) (RT Y O Wx mr)) :
    PW X (.BoolOp .And (a :: b :: rest) pos) (RT Y O Wx fun δ => M.bind (mt δ) fun k => if k = true then mr δ else M.pure false) :=
  ⟨fun wh pins s σ H Q I ⟨δ, st, Z, ms, R, P⟩ => (pw_and ha hr).run wh pins s σ H Q I <| rg_seq R P fun x st1 v H1 Z1 ms1 s1 R1 vx P1 => by
    cases vx
    cases x with
    | true => exact ⟨δ, st1, Z1, ms1, R1, P1⟩
    | false => exact Post.pure' (VR := VE) P1 R1.ok rfl⟩
theorem sw_or {rest : List Expr} {mt mr : Fr → M Bool} (ha : PT X a (RT Y O Wx mt)) (hr : PW X (.BoolOp .Or (b :: rest) pos) (RT Y O Wx mr)) :
    PW X (.BoolOp .Or (a :: b :: rest) pos) (RT Y O Wx fun δ => M.bind (mt δ) fun k => if k = false then mr δ else M.pure true) :=
  ⟨fun wh pins s σ H Q I ⟨δ, st, Z, ms, R, P⟩ => (pw_or ha hr).run wh pins s σ H Q I <| rg_seq R P fun x st1 v H1 Z1 ms1 s1 R1 vx P1 => by
    cases vx
    cases x with
    | true => exact Post.pure' (VR := VE) P1 R1.ok rfl
    | false => exact ⟨δ, st1, Z1, ms1, R1, P1⟩⟩
theorem se_ite {mt : Fr → M Bool} (hc : PT X c (RT Y O Wx mt)) (ha : PE X a (RE Y O Wx ma)) (hb : PE X b (RE Y O Wx mb)) :
    PE X (.IfExp c a b pos) (RE Y O Wx fun δ => M.bind (mt δ) fun r => if r = true then ma δ else mb δ) := (pe_ifExp hc ha hb).imp fun σ H Q ⟨δ, st, Z, ms, R, P⟩ =>
  rg_seq R P fun x st1 v H1 Z1 ms1 s1 R1 vx P1 => by
    cases vx
    cases x with
    | true => exact ⟨δ, st1, Z1, ms1, R1, P1⟩
    | false => exact ⟨δ, st1, Z1, ms1, R1, P1⟩
def chainM (ma mb mc : Ev) (op op2 : CmpOp) (δ : Fr) : M D := M.bind (ma δ) fun x => M.bind (mb δ) fun y => M.bind (M.of (cmpD op x y)) fun r =>
  if r then M.bind (mc δ) fun z => M.bind (M.of (cmpD op2 y z)) fun r2 => M.pure (.bl r2) else M.pure (.bl false)
theorem chain_read {op op2 : CmpOp} {Q' : VK} (R : Rel Y O Z ms δ σ H st) (P : Post Y Wx (VD Y) σ Z ms H st (chainM ma mb mc op op2 δ st) Q) (hq : ∀ v H, Q v H → Q' v H) :
    tChain (rCmp Y op) (rCmp Y op2) (REB Y O Wx ma) (REB Y O Wx mb) (REB Y O Wx mc) σ H Q' :=
  rg_seq R P fun x st1 v H1 Z1 ms1 s1 R1 vx P1 => rg_seq R1 P1 fun y st2 u H2 Z2 ms2 s2 R2 vy P2 => by
    obtain ⟨r, e, P3⟩ := Post.bindOf P2
    refine ⟨Z2, ms2, st2, x, y, r, R2.ok, s2.denB R1.ok vx, vy, e, r, rfl, ?_⟩
    cases r with
    | false => exact hq _ _ (P3.pure' R2.ok (.bl false))
    | true =>
      exact rg_seq R2 P3 fun z st3 w H3 Z3 ms3 s3 R3 vz P4 => by
        obtain ⟨r2, e2, P5⟩ := Post.bindOf P4
        exact ⟨Z3, ms3, st3, y, z, r2, R3.ok, s3.denB R2.ok vy, vz, e2, hq _ _ (P5.pure' R3.ok (.bl r2))⟩
theorem se_chain {op op2 : CmpOp} (hK : X.K = Y.K) (hu : X.A.units + 65 < cLine) (ha : PE X a (REB Y O Wx ma)) (hb : PE X b (REB Y O Wx mb)) (hc : PE X c (REB Y O Wx mc))
    (hm : lastMarks [op, op2] [b, c] = false) : PE X (.Compare a [op, op2] [b, c] pos) (RE Y O Wx (chainM ma mb mc op op2)) :=
  (pe_chain (op_cmp hK hu op) (op_cmp hK hu op2) ha hb hc hm).imp fun σ H Q ⟨δ, st, Z, ms, R, P⟩ => chain_read R P fun _ _ q => q
theorem bool_of {m : M D} (hb : ∀ d st st', m st = .ok d st' → ∃ b, d = .bl b) {Q : Bool → Hp → Prop} (P : Post Y Wx (VE (α := Bool)) σ Z ms H st (M.bind m (fun d => M.of (truthD d)) st) Q) :
    Post Y Wx (VD Y) σ Z ms H st (m st) (fun v H => ∃ b, v = .bl b ∧ Q b H) := by
  unfold M.bind at P
  cases e : m st with
  | ok d st' =>
    rw [e] at P
    obtain ⟨b, rfl⟩ := hb d st st' e
    intro v H' Z' ms' s q
    cases q
    exact ⟨b, rfl, P b H' Z' ms' s rfl⟩
  | exn c fs st' => rw [e] at P; exact P
  | bad => rw [e] at P; exact P
theorem bind_ok {α β : Type} {m : M α} {f : α → M β} {st st' : Store} {b : β} (h : M.bind m f st = .ok b st') : ∃ a s1, m st = .ok a s1 ∧ f a s1 = .ok b st' := by
  unfold M.bind at h
  cases e : m st with
  | ok a s1 => rw [e] at h; exact ⟨a, s1, rfl, h⟩
  | exn _ _ _ => rw [e] at h; cases h
  | bad => rw [e] at h; cases h
theorem chainM_bl {op op2 : CmpOp} {d : D} {st st' : Store} (h : chainM ma mb mc op op2 δ st = .ok d st') : ∃ b, d = .bl b := by
  obtain ⟨x, s1, _, h⟩ := bind_ok h
  obtain ⟨y, s2, _, h⟩ := bind_ok h
  obtain ⟨r, s3, _, h⟩ := bind_ok h
  cases r with
  | false => cases h; exact ⟨_, rfl⟩
  | true =>
    obtain ⟨z, s4, _, h⟩ := bind_ok h
    obtain ⟨r, s5, _, h⟩ := bind_ok h
    cases h; exact ⟨_, rfl⟩
theorem st_chain {op op2 : CmpOp} (hK : X.K = Y.K) (hu : X.A.units + 65 < cLine) (ha : PE X a (REB Y O Wx ma)) (hb : PE X b (REB Y O Wx mb)) (hc : PE X c (REB Y O Wx mc))
    (hm : lastMarks [op, op2] [b, c] = false) : PT X (.Compare a [op, op2] [b, c] pos) (RT Y O Wx fun δ => M.bind (chainM ma mb mc op op2 δ) fun d => M.of (truthD d)) :=
  (pt_chain (op_cmp hK hu op) (op_cmp hK hu op2) ha hb hc hm).imp fun σ H Q ⟨δ, st, Z, ms, R, P⟩ => chain_read R (bool_of (fun d st st' => chainM_bl) P) fun _ _ q => q
/-! ### subscripts, slices -/
theorem se_ix (hK : X.K = Y.K) (hu : X.A.units + 1 < cLine) (ha : PE X a (REB Y O Wx ma)) (hb : PE X b (RE Y O Wx mb)) (hs : PlainIx b) :
    PE X (.Subscript a b pos) (RE Y O Wx fun δ => M.bind (ma δ) fun x => M.bind (mb δ) fun y => M.of (itemD x y)) := (pe_ix (op_item hK hu) ha hb hs).imp fun σ H Q ⟨δ, st, Z, ms, R, P⟩ =>
  rg_seq R P fun x st1 v H1 Z1 ms1 s1 R1 vx P1 => rg_seq R1 P1 fun y st2 u H2 Z2 ms2 s2 R2 vy P2 => by
    obtain ⟨z, e, P3⟩ := Post.of P2
    exact ⟨Z2, ms2, st2, x, y, z, R2.ok, s2.denB R1.ok vx, .inl vy, e, P3⟩
theorem so_none : PO X none (RO Y O Wx fun _ => M.pure none) := po_none.imp fun σ H Q ⟨δ, st, Z, ms, R, P⟩ => Post.pure' (VR := VE) P R.ok rfl
theorem so_some (ha : PE X a (RE Y O Wx ma)) : PO X (some a) (RO Y O Wx fun δ => optM (some ma) δ) := (po_some ha).imp fun σ H Q ⟨δ, st, Z, ms, R, P⟩ =>
  rg_seq R P fun x st1 v H1 Z1 ms1 s1 R1 vx P1 => by
    cases x with
    | int i => cases vx; exact ⟨i, rfl, Post.pure' (VR := VE) P1 R1.ok rfl⟩
    | _ => exact (show False from P1).elim
theorem se_slice {lo hi : Option Expr} {ml mh : Option Ev} {p2 : Pos} (hK : X.K = Y.K) (ha : PE X a (REB Y O Wx ma)) (hl : PO X lo (RO Y O Wx fun δ => optM ml δ)) (hh : PO X hi (RO Y O Wx fun δ => optM mh δ)) :
    PE X (.Subscript a (.Slice lo hi none p2) pos) (RE Y O Wx fun δ => M.bind (ma δ) fun x => M.bind (optM ml δ) fun l => M.bind (optM mh δ) fun h => M.of (sliceD l h x)) := (pe_slice (op_cut hK) ha hl hh).imp fun σ H Q ⟨δ, st, Z, ms, R, P⟩ =>
  rg_seq R P fun x st1 v H1 Z1 ms1 s1 R1 vx P1 => rg_seq R1 P1 fun l st2 l' H2 Z2 ms2 s2 R2 vl P2 => rg_seq R2 P2 fun h st3 h' H3 Z3 ms3 s3 R3 vh P3 => by
    cases vl
    cases vh
    obtain ⟨z, e, P4⟩ := Post.of P3
    exact ⟨Z3, ms3, st3, x, z, R3.ok, s3.denB R2.ok (s2.denB R1.ok vx), e, P4⟩

/-! ### built-ins -/
theorem se_bi (hK : X.K = Y.K) (hu : X.A.units + 65 < cLine) (hgd : X.A.guards = some []) (b : BI) (hc : b.hot = true ∨ X.calm = true) {p : Pos} {e : Expr} (hg : Gl X b.nm) (hm : X.mg b.nm = none) (ha : PA X (e :: es) (RLB Y O Wx ml))
    (he : starEach (e :: es) X.env = (false, eval e X.env) :: starEach es X.env) (hpl : (backTo pos (starEach es X.env)).any (·.1) = false) :
    PE X (.Call (.Name b.nm p) (e :: es) [] pos) (RE Y O Wx fun δ => M.bind (ml δ) fun ds => M.of (biD b ds)) := by
  have k := call_bi (Y := Y) hK hu hgd b hc
  have nn : b.nm ≠ "__name__" := by cases b <;> decide
  have nd : (b.nm == ("__debug__" : Str)) = false := by cases b <;> decide
  have boot := b.boot
  have i : ∀ σ H Q, RE Y O Wx (fun δ => M.bind (ml δ) fun ds => M.of (biD b ds)) σ H Q → tCB (rBi Y b) (RLB Y O Wx ml) σ H Q := fun σ H Q ⟨δ, st, Z, ms, R, P⟩ =>
    rg_seq R P fun ds st1 vs H1 Z1 ms1 s1 R1 vds P1 => by
      obtain ⟨z, e, P3⟩ := Post.of P1
      exact ⟨Z1, ms1, st1, ds, z, R1.ok, vds, e, P3⟩
  cases hb : b.val with
  | builtin id => rw [hb] at k boot; exact (pe_callB k hg hm boot ha nn nd he hpl).imp i
  | type T => rw [hb] at k boot; exact (pe_callTy k hg hm boot ha nn nd he hpl).imp i
  | _ => cases b <;> cases hb
end Sw

set_option Elab.async false
set_option linter.all false
set_option maxRecDepth 100000
set_option maxHeartbeats 2000000
/-! Sw, part I: enumerate of a tuple. -/
namespace Sw
open PySem PySem.Spec PyProof.Rows L2
/-- enumerate.__new__ over what begins so, from nought -/
theorem meets_enum1 {v : Value} {o : Obj} {G : Heap → Prop} (B : Begins v o G) :
    Meets (Builtin.«enumerate.__new__» ⟨[.type "enumerate", v], []⟩) (fun _ R s => G s.heap ∧
      R (.ok (.ret (.ref (s.heap.push o).objs.size))) { s with heap := (s.heap.push o).push { cls := .type "enumerate", data := .fields #[.none, .bool false, .ref s.heap.objs.size, rawInt 0, .none, .none] } }) :=
  .of_wp fun prog w A R s hh => by
    obtain ⟨hp, g, d, tk, os⟩ := s
    obtain ⟨h1, hr⟩ := hh
    have hsub := sub_enumerate
    have go : ∀ {A' : Around} {E : Value → Shared → Prop} {Q : Value → Shared → Prop}, Q (.ref hp.objs.size) ⟨hp.push o, g, d, tk, os⟩ → wpAny (model prog w) A' (pyIter v) Q E ⟨hp, g, d, tk, os⟩ :=
      fun q => B.iter prog w _ _ ⟨hp, g, d, tk, os⟩ _ h1 q
    wp_walk using go
    refine wpAny_stack_any fun st => wpAny_pure ?_
    split
    · rename_i c _ _ _ _ _
      cases (c == Value.type "enumerate")
      all_goals
        wp_walk using go
        exact ⟨_, rfl, hr⟩
    · wp_walk using go
      exact ⟨_, rfl, hr⟩
section
variable {prog : Program} {w : World} {A : Around} {E : Value → Shared → Prop} {s : Shared}
theorem enum_begins1 {v : Value} {o : Obj} {G : Heap → Prop} {Q : Value → Shared → Prop} (B : Begins v o G) (h1 : G s.heap)
    (h : ∀ h', IsEnum h' (s.heap.objs.size + 1) s.heap.objs.size 0 .none → h'.get? s.heap.objs.size = some o →
      (∀ b o, s.heap.get? b = some o → h'.get? b = some o) → Q (.ref (s.heap.objs.size + 1)) { s with heap := h' }) :
    wpAny (model prog w) A (call (.type "enumerate") [v]) Q E s := by
  refine callType_new F.called_enumerate (by decide) (F.typeCall_enumerate_1 _) (F.newCall_enumerate_1 _) (fun obj => F.args_object_init_2 obj _) F.entry_enumerate_new (meets_enum1 B) ⟨h1, ?_⟩
  have hz : (s.heap.push o).objs.size = s.heap.objs.size + 1 := Heap.size_push ..
  show _ ∧ _
  rw [hz]
  have he : IsEnum ((s.heap.push o).push { cls := .type "enumerate", data := .fields #[.none, .bool false, .ref s.heap.objs.size, rawInt 0, .none, .none] }) (s.heap.objs.size + 1) s.heap.objs.size 0 .none := by
    rw [← hz]
    exact Heap.get?_push_size (s.heap.push o) (o := { cls := .type "enumerate", data := .fields #[.none, .bool false, .ref s.heap.objs.size, rawInt 0, .none, .none] }) rfl
  exact ⟨⟨_, he, rfl⟩, h _ he (Heap.get?_push_of_some _ (Heap.get?_push_size _ B.free)) fun b o x => Heap.get?_push_of_some _ (Heap.get?_push_of_some _ x)⟩
end
/-- the tuple at a, each item in a new pair -/
def IteT (K : PySem.W.Frag) (a : Addr) : It where
  go := fun i H => ∃ (xs : List V) (x : V), SqT K H a xs ∧ xs[i]? = some x
  yld := fun i H v H' => ∃ T x, v = .ref T ∧ H T = none ∧ H' = upd H T (.tup [.int (i : Nat), x]) ∧ ∀ xs, SqT K H a xs → xs[i]? = some x
  stop := fun i H => ∃ xs : List V, SqT K H a xs ∧ xs.length = i
theorem turn_enumT {P : Program} {w : World} {K : PySem.W.Frag} {elts : List Expr} {kk : Nat} {tpos : Pos} (a e it : Addr) (hai : a ≠ it) (hae : a ≠ e) :
    Turn P w K (.Tuple elts kk tpos) (IteT K a) [e, it] e (fun i h => (∃ old, IsEnum h e it ((i : Nat) : Int) old) ∧ h.IsTupleIter it a i ∧ e ≠ it) := by
  refine ⟨by simp, ?_, ?_, ?_, ?_, ?_⟩
  · intro i h st b hb
    obtain ⟨⟨old, he⟩, ⟨o, ho, hc, hd⟩, _⟩ := st
    rcases (show b = e ∨ b = it by simpa using hb) with z | z
    · subst z; exact ⟨_, he, fun v q => nomatch q⟩
    · refine ⟨o, z ▸ ho, fun v q => ?_⟩
      rw [hd] at q
      cases q
  · intro i h h' st k
    obtain ⟨⟨old, he⟩, hi, hne⟩ := st
    exact ⟨⟨old, k e (by simp) _ he⟩, hi.at fun o q => k it (by simp) o q, hne⟩
  · intro X hP hw hK hc i pins s σ H E I hf st hg
    subst hP hw hK
    obtain ⟨⟨old, he⟩, hit, hne⟩ := st
    obtain ⟨xs, x, hq, hx⟩ := hg
    obtain ⟨its, rv, p, hz⟩ := I.tuple hq
    obtain ⟨u, hu, ru⟩ := rv.get hx
    have hlt : i < its.toArray.size := by
      have := (List.getElem?_eq_some_iff.mp hu).1
      simpa using this
    have hel : e < s.heap.objs.size := Heap.lt_size he
    have hil : it < s.heap.objs.size := by
      obtain ⟨_, q, _⟩ := hit
      exact Heap.lt_size q
    have dr := Draws.tuple (prog := X.prog) (w := X.w) (A := X.A.in1) (I.ok.hd hc) it a hai its.toArray
    refine wpAny_pyNext_enum_itemD dr he ⟨hit, p⟩ hlt hne (by simp [hne, Ne.symm hae]) fun y h1 tk py ho st1 hT hsz hk => ?_
    have ey : y = u := by
      have h2 : its.toArray[i]? = some u := by simpa using hu
      rw [h2] at py
      exact (Option.some.inj py).symm
    subst ey
    refine ⟨_, rfl, wpAny_letOwnedTupleGo_enum (s := { s with heap := h1, toks := tk + 1 }) ho fun h2 he2 sb => ?_⟩
    have hT2 : h2.get? s.heap.objs.size = some { cls := .type "tuple", data := .seq #[.int i tk, y] } := (sb.2 _ (Nat.ne_of_gt hel)).trans hT
    have new : ObjOk X.prog X.w (upd H s.heap.objs.size (.tup [.int (i : Nat), x])) h2 s.heap.objs.size (.tup [.int (i : Nat), x]) :=
      ⟨by show 2 ≤ sizeLine; decide, [.int i tk, y], .cons ⟨_, rfl⟩ (.cons ru .nil), ⟨_, hT2, rfl, _, rfl⟩⟩
    have keepB : ∀ b ob, b ∉ [e, it] → s.heap.get? b = some ob → h2.get? b = some ob := fun b ob hb q => by
      have n1 : b ≠ e := fun z => hb (by simp [z])
      have n2 : b ≠ it := fun z => hb (by simp [z])
      exact (sb.2 b n1).trans (hk b ob n1 n2 q)
    have I1 : Inv X pins σ (upd H s.heap.objs.size (.tup [.int (i : Nat), x])) { s with heap := h2, toks := tk + 1 } := I.turnedNew (ch := [e, it]) keepB hf (Nat.le_refl _) new
    refine ⟨.ref s.heap.objs.size, _, I1, rfl, ⟨_, x, rfl, I.hok.fresh (Nat.le_refl _), rfl, fun ys hy => by rw [I.tuple_inj hy hq]; exact hx⟩, ⟨⟨y, ?_⟩, st1.1.at fun o q => (sb.2 it (Ne.symm hne)).trans q, hne⟩, fun b hb => ?_⟩
    · rw [show ((i + 1 : Nat) : Int) = (i : Int) + 1 by omega]
      exact he2
    · have hb2 : b < s.heap.objs.size := by
        rcases (show b = e ∨ b = it by simpa using hb) with z | z
        · rw [z]; exact hel
        · rw [z]; exact hil
      rw [upd_ne (Nat.ne_of_lt hb2)]
      exact (hf b hb).1
  · intro X hP hw hK hc i pins s σ H E I hf st hg
    subst hP hw hK
    obtain ⟨⟨old, he⟩, hit, hne⟩ := st
    obtain ⟨xs, hq, hx⟩ := hg
    obtain ⟨its, rv, p, hz⟩ := I.tuple hq
    obtain ⟨f0, f1, f2, f3, f4, f5⟩ := hf it (by simp)
    have hn : its.toArray.size = i := by rw [List.size_toArray, ← rv.length, hx]
    have dr := Draws.tuple (prog := X.prog) (w := X.w) (A := X.A.in1) (I.ok.hd hc) it a hai its.toArray
    exact wpAny_pyNext_enum_endD dr he (by rw [hn]; exact ⟨hit, p⟩) fun h' eb => ⟨rfl, I.turned (t' := s.toks) (fun b o hb q => eb b o hb q) f0 f1 f3 f4 f5⟩
  · intro A i s Q E st h
    obtain ⟨⟨_, he⟩, _⟩ := st
    exact wpAny_pyIter_enum he h
def iEnumT (K : PySem.W.Frag) (ta : TA) : TI := fun σ H R => ta σ H fun vs H1 => ∃ a xs, vs = [.ref a] ∧ SqT K H1 a xs ∧ R (IteT K a) H1
theorem pi_enumT {X : Cx} {e : Expr} {ta : TA} {p pos tpos : Pos} {elts : List Expr} {kk : Nat} (hg : Gl X "enumerate") (hm : X.mg "enumerate" = none) (ha : PA X [e] ta) (hs : starEach [e] X.env = [(false, eval e X.env)]) :
    PI X (.Tuple elts kk tpos) (.Call (.Name "enumerate" p) [e] [] pos) (iEnumT X.K ta) := by
  refine ⟨fun pins s σ H R I h => Call_ (ld_blt I hg hm boot_enumerate (PyProof.Rows.callWith_type1 (thn (ha.run pos pins s σ H _ I h) fun us s1 ⟨vs, H1, I1, r1, q1⟩ => ?_) hs rfl))⟩
  obtain ⟨a, xs, rfl, hq, q⟩ := q1
  rw [Vals.ref1 r1]
  obtain ⟨its, rv, p', hz⟩ := I1.tuple hq
  have hal : a < s1.heap.objs.size := p'.lt
  refine enum_begins1 (begins_tuple a its.toArray) p' fun h1 he hit hk => wpAny_pyIter_enum he ?_
  have I2 : Inv X pins σ H1 { s1 with heap := h1 } := I1.kept (t' := s1.toks) hk
  refine ⟨s1.heap.objs.size + 1, [s1.heap.objs.size + 1, s1.heap.objs.size], _, _, H1, rfl, I2, turn_enumT a (s1.heap.objs.size + 1) s1.heap.objs.size (Nat.ne_of_lt hal) (Nat.ne_of_lt (Nat.lt_succ_of_lt hal)), ⟨⟨.none, he⟩, ⟨_, hit, rfl, rfl⟩, Nat.succ_ne_self _⟩, fun b hb => ?_, q⟩
  have hle : s1.heap.objs.size ≤ b := by
    rcases (show b = s1.heap.objs.size + 1 ∨ b = s1.heap.objs.size by simpa using hb) with z | z
    · rw [z]; exact Nat.le_add_right _ _
    · rw [z]; exact Nat.le_refl _
  exact I1.fpOk hle (I1.hok.fresh hle)
end Sw

set_option Elab.async false
set_option linter.all false
set_option maxRecDepth 100000
/-! Sw, part G: what is walked; comprehensions. -/
namespace Sw
open PySem PySem.Spec PyProof.Rows L2 RT RZ
variable {Y : Cfg} {O : Own} {Wx : WX} {X : Cx} {pos : Pos} {a b c : Expr} {ma mb mc : Ev} {es : List Expr} {ml : Fr → M (List D)} {δ : Fr} {σ : L2.St}
variable {Z Z1 : Zs} {ms ms1 : List Addr} {H H1 : Hp} {st st1 : Store} {Q : VK}

/-- the later states that matter to a walk: of a value that is only looked at, those where all stays; else those where the frozen stays -/
def Tr (bor : Bool) (Y : Cfg) (Z : Zs) (ms : List Addr) (H : Hp) : Zs → List Addr → Hp → Store → Prop := fun Z2 ms2 H2 st2 => if bor = true then Step Y Z ms H Z2 ms2 H2 st2 else StepZ Y Z ms H Z2 ms2 H2 st2
theorem Tr.ok {bor : Bool} {Z2 : Zs} {ms2 : List Addr} {H2 : Hp} {st2 : Store} (t : Tr bor Y Z ms H Z2 ms2 H2 st2) : StOk Y Z2 ms2 H2 st2 := by
  unfold Tr at t
  split at t
  · exact t.ok
  · exact t.ok
theorem Tr.z {bor : Bool} {Z2 : Zs} {ms2 : List Addr} {H2 : Hp} {st2 : Store} (t : Tr bor Y Z ms H Z2 ms2 H2 st2) (k : StOk Y Z ms H st) : StepZ Y Z ms H Z2 ms2 H2 st2 := by
  unfold Tr at t
  split at t
  · exact t.z k
  · exact t
def WalkD (Y : Cfg) (T : Zs → List Addr → Hp → Store → Prop) (J : It) (items : List D) : Prop := ∀ Z2 ms2 H2 st2, T Z2 ms2 H2 st2 →
  J.stop items.length H2 ∧ ∀ (i : Nat) d, items[i]? = some d → J.go i H2 ∧ ∀ x H3, J.yld i H2 x H3 → ∃ Z3, Step Y Z2 ms2 H2 Z3 ms2 H3 st2 ∧ Den Y Z3 ms2 H3 x d
abbrev VW (bor : Bool) (Y : Cfg) : VRel (List D) It := fun Z ms H J items => WalkD Y (Tr bor Y Z ms H) J items
abbrev RI (bor : Bool) (Y : Cfg) (O : Own) (Wx : WX) (m : Fr → M (List D)) : TI := RG Y O Wx (VW bor Y) m
theorem _root_.L2.PI.imp {tg e : Expr} {t t' : TI} (h : PI X tg e t) (i : ∀ σ H Q, t' σ H Q → t σ H Q) : PI X tg e t' := ⟨fun pins s σ H R I q => h.run pins s σ H R I (i σ H R q)⟩
def DenX (bor : Bool) (Y : Cfg) (Z : Zs) (ms : List Addr) (H : Hp) (v : V) (d : D) : Prop := if bor = true then DenB Y Z ms H v d else Den Y Z ms H v d
abbrev VDX (bor : Bool) (Y : Cfg) : VRel D V := fun Z ms H v d => DenX bor Y Z ms H v d
theorem DenX.look {bor : Bool} {v : V} {d : D} (h : DenX bor Y Z ms H v d) : DenB Y Z ms H v d := by
  unfold DenX at h
  split at h
  · exact h
  · exact .inl h
theorem Step.denX {bor : Bool} {v : V} {d : D} (s : Step Y Z ms H Z1 ms1 H1 st1) (k : StOk Y Z ms H st) (h : DenX bor Y Z ms H v d) : DenX bor Y Z1 ms1 H1 v d := by
  unfold DenX at h ⊢
  split at h
  · rw [if_pos ‹_›]; exact s.denB k h
  · rw [if_neg ‹_›]; exact s.den k h
theorem Tr.denX {bor : Bool} {v : V} {d : D} {Z2 : Zs} {ms2 : List Addr} {H2 : Hp} {st2 : Store} (t : Tr bor Y Z ms H Z2 ms2 H2 st2) (k : StOk Y Z ms H st) (h : DenX bor Y Z ms H v d) : DenX bor Y Z2 ms2 H2 v d := by
  unfold DenX at h ⊢
  unfold Tr at t
  split at h
  · rw [if_pos ‹_›] at t ⊢; exact t.denB k h
  · rw [if_neg ‹_›] at t ⊢; exact t.den h
/-- the same value, with the same place of its items, later on -/
theorem den_lst {v : V} {ds : List D} {a : Addr} {xs : List V} (h : DenB Y Z ms H v (.lst ds)) (e : v = .ref a) (q : H a = some (.lst xs)) : DenL Y Z ms H xs ds := by
  obtain ⟨a', xs', e', q', r⟩ := h.lst
  rw [e] at e'; cases e'
  rw [q] at q'; cases q'
  exact r
theorem items_at {xs : List V} {ds : List D} {i : Nat} {x : V} {d : D} (r : DenL Y Z ms H xs ds) (h : ds[i]? = some d) (h2 : xs[i]? = some x) : Den Y Z ms H x d := by
  obtain ⟨v, e, q⟩ := r.get h
  rw [h2] at e; cases e
  exact q
theorem lt_of {ds : List D} {i : Nat} {d : D} (h : ds[i]? = some d) : i < ds.length := (List.getElem?_eq_some_iff.mp h).1
theorem walkD_of {bor : Bool} {J : It} {n : Nat} {G : Hp → Prop} {items : List D} {Yl : Nat → Hp → V → Hp → Prop} (w : Walk J n G Yl) (hn : items.length = n)
    (hG : ∀ Z2 ms2 H2 st2, Tr bor Y Z ms H Z2 ms2 H2 st2 → G H2)
    (hY : ∀ Z2 ms2 H2 st2 i x H3 d, Tr bor Y Z ms H Z2 ms2 H2 st2 → items[i]? = some d → Yl i H2 x H3 → ∃ Z3, Step Y Z2 ms2 H2 Z3 ms2 H3 st2 ∧ Den Y Z3 ms2 H3 x d) : WalkD Y (Tr bor Y Z ms H) J items := by
  subst hn
  intro Z2 ms2 H2 st2 t
  have g := hG _ _ _ _ t
  exact ⟨w.stops H2 g, fun i d e => ⟨w.goes i H2 (lt_of e) g, fun x H3 y => hY _ _ _ _ i x H3 d t e (w.yields i H2 x H3 (lt_of e) g y)⟩⟩
theorem src_later {bor : Bool} {v : V} {d : D} {ds : List D} (k : StOk Y Z ms H st) (h : DenX bor Y Z ms H v d) (e : rowOf d = some ds) :
    ∃ a xs, v = .ref a ∧ xs.length = ds.length ∧ ((d = .lst ds ∧ ∀ Z2 ms2 H2 st2, Tr bor Y Z ms H Z2 ms2 H2 st2 → H2 a = some (.lst xs) ∧ DenL Y Z2 ms2 H2 xs ds) ∨
      (d = .tup ds ∧ ∀ Z2 ms2 H2 st2, Tr bor Y Z ms H Z2 ms2 H2 st2 → SqT Y.K H2 a xs ∧ DenL Y Z2 ms2 H2 xs ds)) := by
  obtain ⟨a, xs, rfl, r, ⟨rfl, q⟩ | ⟨rfl, q⟩⟩ := rowOf_some h.look e
  · refine ⟨a, xs, rfl, r.length, .inl ⟨rfl, fun Z2 ms2 H2 st2 t => ?_⟩⟩
    have q2 : H2 a = some (.lst xs) := by
      unfold DenX at h
      unfold Tr at t
      split at h
      · rw [if_pos ‹_›] at t
        rcases h with h | ⟨a', xs', ds', e1, e2, e3, e4, e5⟩
        · cases h with
          | lst q' z r' => exact t.kp a _ q fun q => k.zs a q z
        · cases e1; exact t.kp a _ q e4
      · rw [if_neg ‹_›] at t
        cases h with
        | lst q' z r' => exact t.kz a _ z q
    exact ⟨q2, den_lst (t.denX k h).look rfl q2⟩
  · have h' : Den Y Z ms H (.ref a) (.tup ds) := by
      rcases h.look with h | ⟨_, _, _, _, z, _⟩
      · exact h
      · cases z
    cases h' with
    | tup q1 z r1 => exact ⟨a, _, rfl, r1.length, .inr ⟨rfl, fun Z2 ms2 H2 st2 t => ⟨SqT.of ((t.z k).kz a _ z q1), (t.z k).denL r1⟩⟩⟩
    | tupK q1 r1 => exact ⟨a, _, rfl, r1.length, .inr ⟨rfl, fun Z2 ms2 H2 st2 t => ⟨sqT_K q1, (t.z k).denL r1⟩⟩⟩

variable {tg : Expr} {bor : Bool}
theorem si_seq (hK : X.K = Y.K) (ha : PE X a (RG Y O Wx (VDX bor Y) ma)) : PI X tg a (RI bor Y O Wx fun δ => M.bind (ma δ) fun d => M.of (walkOf d)) := by
  refine ⟨fun pins s σ H R I ⟨δ, st, Z, ms, Rl, P⟩ => ?_⟩
  have P' := P
  dsimp only at P'
  unfold M.bind at P'
  cases e : ma δ st with
  | bad => rw [e] at P'; exact P'.elim
  | exn c fs st' =>
    refine (pi_list ha).run pins s σ H R I ⟨δ, st, Z, ms, Rl, ?_⟩
    rw [e] at P' ⊢
    exact P'
  | ok d st' =>
    rw [e] at P'
    dsimp only at P'
    cases e2 : walkOf d with
    | none => rw [e2] at P'; exact P'.elim
    | some ds =>
      rw [e2] at P'
      have main : ∀ v H1 Z1 ms1, Step Y Z ms H Z1 ms1 H1 st' → DenX bor Y Z1 ms1 H1 v d → ∀ J, WalkD Y (Tr bor Y Z1 ms1 H1) J ds → R J H1 := fun v H1 Z1 ms1 s1 _ J w => P' J H1 Z1 ms1 s1 w
      cases d with
      | lst ds' =>
        cases e2
        refine (pi_list ha).run pins s σ H R I ⟨δ, st, Z, ms, Rl, ?_⟩
        rw [e]
        intro v H1 Z1 ms1 s1 hv
        obtain ⟨a, xs, rfl, hl, ⟨_, f⟩ | ⟨z, _⟩⟩ := src_later s1.ok hv rfl
        · have q := (f Z1 ms1 H1 st' (by unfold Tr; split; exact Step.refl s1.ok; exact StepZ.refl s1.ok)).1
          refine ⟨a, rfl, ⟨xs, by rw [hK]; exact SqL.of q⟩, main _ H1 Z1 ms1 s1 hv _ ?_⟩
          rw [hK]
          refine walkD_of (walk_list (K := Y.K) (a := a) (xs := xs)) hl.symm (fun Z2 ms2 H2 st2 t => SqL.of (f _ _ _ _ t).1) fun Z2 ms2 H2 st2 i x H3 d t e y => ?_
          obtain ⟨rfl, y⟩ := y
          exact ⟨Z2, Step.refl t.ok, items_at (f _ _ _ _ t).2 e y⟩
        · cases z
      | tup ds' =>
        cases e2
        refine (pi_tup ha).run pins s σ H R I ⟨δ, st, Z, ms, Rl, ?_⟩
        rw [e]
        intro v H1 Z1 ms1 s1 hv
        obtain ⟨a, xs, rfl, hl, ⟨z, _⟩ | ⟨_, f⟩⟩ := src_later s1.ok hv rfl
        · cases z
        · have q := (f Z1 ms1 H1 st' (by unfold Tr; split; exact Step.refl s1.ok; exact StepZ.refl s1.ok)).1
          refine ⟨a, rfl, ⟨xs, by rw [hK]; exact q⟩, main _ H1 Z1 ms1 s1 hv _ ?_⟩
          rw [hK]
          refine walkD_of (walk_tup (K := Y.K) (a := a) (xs := xs)) hl.symm (fun Z2 ms2 H2 st2 t => (f _ _ _ _ t).1) fun Z2 ms2 H2 st2 i x H3 d t e y => ?_
          obtain ⟨rfl, y⟩ := y
          exact ⟨Z2, Step.refl t.ok, items_at (f _ _ _ _ t).2 e y⟩
      | seqI ns =>
        cases e2
        refine (pi_list ha).run pins s σ H R I ⟨δ, st, Z, ms, Rl, ?_⟩
        rw [e]
        intro v H1 Z1 ms1 s1 hv
        obtain ⟨a, rfl, q⟩ : ∃ a, v = .ref a ∧ SqI Y.K Z1 H1 a ns := by
          rcases hv.look with h | ⟨_, _, _, _, z, _⟩
          · cases h with
            | seqI q => exact ⟨_, rfl, q⟩
          · cases z
        have f : ∀ Z2 ms2 H2 st2, Tr bor Y Z1 ms1 H1 Z2 ms2 H2 st2 → SqL Y.K H2 a (ns.map V.int) ∧ DenL Y Z2 ms2 H2 (ns.map V.int) (ns.map D.int) := fun Z2 ms2 H2 st2 t => by
          refine ⟨?_, denL_ints ns⟩
          have hz := t.z s1.ok
          exact SqI.sq (Z := Z2) (q.imp (fun ⟨q, z⟩ => (⟨q.imp (fun q => hz.kz _ _ z q) (fun ⟨o, q⟩ => ⟨o, hz.kz _ _ z q⟩), hz.zz _ z⟩ : Rd H2 a (.lst (ns.map V.int)) ∧ Z2 a)) id)
        have q := (f Z1 ms1 H1 st' (by unfold Tr; split; exact Step.refl s1.ok; exact StepZ.refl s1.ok)).1
        refine ⟨a, rfl, ⟨_, by rw [hK]; exact q⟩, main _ H1 Z1 ms1 s1 hv _ ?_⟩
        rw [hK]
        refine walkD_of (walk_list (K := Y.K) (a := a) (xs := ns.map V.int)) (by simp) (fun Z2 ms2 H2 st2 t => (f _ _ _ _ t).1) fun Z2 ms2 H2 st2 i x H3 d t e y => ?_
        obtain ⟨rfl, y⟩ := y
        exact ⟨Z2, Step.refl t.ok, items_at (f _ _ _ _ t).2 e y⟩
      | dct tt kvs =>
        cases e2
        refine (pi_keys ha).run pins s σ H R I ⟨δ, st, Z, ms, Rl, ?_⟩
        rw [e]
        intro v H1 Z1 ms1 s1 hv
        rcases hv.look with h | ⟨_, _, _, _, z, _⟩
        · cases h with
          | @dctK a o vs _ h z hk r =>
            refine ⟨a, o, rfl, .inl ⟨vs, h, main _ H1 Z1 ms1 s1 hv _ fun Z2 ms2 H2 st2 t => ?_⟩⟩
            have q := (t.z s1.ok).kz a _ z h
            have hl : kvs.length = vs.length := by
              have := congrArg List.length hk
              simpa using this.symm
            refine ⟨⟨q, by rw [List.length_map, hl]; exact Nat.le_refl _⟩, fun i d e => ⟨⟨q, ?_⟩, fun x H3 y => ?_⟩⟩
            · have := lt_of e
              rw [List.length_map] at this
              omega
            · obtain ⟨rfl, k, w, e3, rfl⟩ := y
              refine ⟨Z2, Step.refl t.ok, ?_⟩
              have e4 : (kvs.map (·.1))[i]? = some (.inl k) := by
                rw [← hk, List.getElem?_map, e3]
                rfl
              rw [List.getElem?_map] at e4 e
              obtain ⟨p, e5, e6⟩ := Option.map_eq_some_iff.mp e4
              rw [e5] at e
              cases e
              show Den Y Z2 ms2 _ (kV k) (unkD p.1)
              rw [e6]
              cases k with
              | inl i => exact .int i
              | inr x => exact .str x
        · cases z
      | _ => cases e2

theorem rgSmall_iff {i : Int} (h : rgSmall i = true) : -(2 ^ 62) ≤ i ∧ i < 2 ^ 62 := of_decide_eq_true h
theorem rangeI_at {lo c : Int} {n i : Nat} {d : D} (h : (rangeI lo n c)[i]? = some d) : d = .int (lo + i * c) := by
  unfold rangeI at h
  rw [List.getElem?_map] at h
  cases e : (List.range n)[i]? with
  | none => rw [e] at h; cases h
  | some j =>
    rw [e] at h
    have := List.getElem?_range (show i < n by
      have := lt_of (ds := rangeI lo n c) (i := i) (d := d) (by unfold rangeI; rw [List.getElem?_map, e]; exact h)
      simpa [rangeI] using this)
    rw [this] at e; cases e
    exact (Option.some.inj h).symm
theorem rangeI_len (lo c : Int) (n : Nat) : (rangeI lo n c).length = n := by simp [rangeI]
theorem walkD_range {lo : Int} {n : Nat} : WalkD Y (Tr bor Y Z ms H) (Itr lo n) (rangeI lo n 1) :=
  walkD_of walk_range (rangeI_len lo 1 n) (fun _ _ _ _ _ => trivial) fun Z2 ms2 H2 st2 i x H3 d t e y => by
    obtain ⟨rfl, rfl⟩ := y
    rw [rangeI_at e, Int.mul_one]
    exact ⟨Z2, Step.refl t.ok, .int _⟩
theorem walkD_rangeC {lo c : Int} {n : Nat} : WalkD Y (Tr bor Y Z ms H) (Itc lo c n) (rangeI lo n c) :=
  walkD_of walk_rangeC (rangeI_len lo c n) (fun _ _ _ _ _ => trivial) fun Z2 ms2 H2 st2 i x H3 d t e y => by
    obtain ⟨rfl, rfl⟩ := y
    rw [rangeI_at e]
    exact ⟨Z2, Step.refl t.ok, .int _⟩
theorem step_rgC {i j c : Int} {n : Nat} (hi : rgSmall i = true) (hj : rgSmall j = true) (h : stepN i j c = some n) : RgC i j c n := by
  obtain ⟨a1, a2⟩ := rgSmall_iff hi
  obtain ⟨b1, b2⟩ := rgSmall_iff hj
  unfold stepN at h
  split at h
  · rename_i e
    subst e
    cases h
    exact RgC.neg a1 a2 b1 b2
  · cases h
theorem rangeD_1 {j : Int} {r : List D} (h : rangeD [.int j] = some r) : rgSmall j = true ∧ r = rangeI 0 j.toNat 1 := by
  unfold rangeD at h
  split at h
  all_goals first | (rename_i e; cases e) | skip
  all_goals first | (split at h; (rename_i q; cases h; exact ⟨q, rfl⟩); cases h) | cases h
theorem rangeD_2 {i j : Int} {r : List D} (h : rangeD [.int i, .int j] = some r) : rgSmall i = true ∧ rgSmall j = true ∧ r = rangeI i (j - i).toNat 1 := by
  have h2 : (if rgSmall i && rgSmall j then some (rangeI i (j - i).toNat 1) else none) = some r := h
  split at h2
  · rename_i q
    cases h2
    obtain ⟨q1, q2⟩ := Bool.and_eq_true_iff.mp q
    exact ⟨q1, q2, rfl⟩
  · cases h2
theorem rangeD_3 {i j c : Int} {r : List D} (h : rangeD [.int i, .int j, .int c] = some r) : ∃ n, rgSmall i = true ∧ rgSmall j = true ∧ stepN i j c = some n ∧ r = rangeI i n c := by
  have h2 : (if rgSmall i && rgSmall j then (stepN i j c).map fun n => rangeI i n c else none) = some r := h
  split at h2
  · rename_i q
    obtain ⟨q1, q2⟩ := Bool.and_eq_true_iff.mp q
    simp only [Option.map_eq_some_iff] at h2
    obtain ⟨n, e, rfl⟩ := h2
    exact ⟨n, q1, q2, e, rfl⟩
  · cases h2
theorem dl1 {vs : List V} {d : D} (h : DenL Y Z ms H vs [d]) : ∃ v, vs = [v] ∧ Den Y Z ms H v d := by
  cases h with
  | cons a b => cases b; exact ⟨_, rfl, a⟩
theorem dl2 {vs : List V} {d e : D} (h : DenL Y Z ms H vs [d, e]) : ∃ v u, vs = [v, u] ∧ Den Y Z ms H v d ∧ Den Y Z ms H u e := by
  cases h with
  | cons a b => obtain ⟨u, rfl, q⟩ := dl1 b; exact ⟨_, u, rfl, a, q⟩
theorem dl3 {vs : List V} {d e f : D} (h : DenL Y Z ms H vs [d, e, f]) : ∃ v u w, vs = [v, u, w] ∧ Den Y Z ms H v d ∧ Den Y Z ms H u e ∧ Den Y Z ms H w f := by
  cases h with
  | cons a b => obtain ⟨u, w, rfl, q⟩ := dl2 b; exact ⟨_, u, w, rfl, a, q⟩
theorem den_int {v : V} {i : Int} (h : Den Y Z ms H v (.int i)) : v = .int i := by cases h; rfl
theorem si_rng1 {p : Pos} (hg : Gl X "range") (hm : X.mg "range" = none) (ha : PA X [a] (RL Y O Wx ml)) (hs : starEach [a] X.env = [(false, eval a X.env)]) (hl : ∀ δ st ds st', ml δ st = .ok ds st' → ds.length = 1) :
    PI X tg (.Call (.Name "range" p) [a] [] pos) (RI bor Y O Wx fun δ => M.bind (ml δ) fun ds => M.of (rangeD ds)) := (pi_range1 hg hm ha hs).imp fun σ H R ⟨δ, st, Z, ms, Rl, P⟩ => by
  refine ⟨δ, st, Z, ms, Rl, ?_⟩
  dsimp only at P
  unfold M.bind at P
  cases e : ml δ st with
  | bad => rw [e] at P; exact P
  | exn c fs st' => rw [e] at P; exact P
  | ok ds st' =>
    rw [e] at P
    have h1 := hl _ _ _ _ e
    match ds, h1 with
    | [d], _ =>
      intro vs H1 Z1 ms1 s1 hv
      obtain ⟨v, rfl, hv1⟩ := dl1 hv
      cases d with
      | int j =>
        rw [den_int hv1]
        obtain ⟨items, e3, P3⟩ := Post.of (o := rangeD [D.int j]) (st := st') P
        obtain ⟨q, rfl⟩ := rangeD_1 e3
        obtain ⟨b1, b2⟩ := rgSmall_iff q
        exact ⟨j, rfl, b1, b2, P3 _ _ _ _ s1 walkD_range⟩
      | _ => exact (show False from P).elim
theorem si_rng2 {p : Pos} (hg : Gl X "range") (hm : X.mg "range" = none) (ha : PA X [a, b] (RL Y O Wx ml)) (hs : starEach [a, b] X.env = [(false, eval a X.env), (false, eval b X.env)]) (hs2 : starEach [b] X.env = [(false, eval b X.env)])
    (hl : ∀ δ st ds st', ml δ st = .ok ds st' → ds.length = 2) :
    PI X tg (.Call (.Name "range" p) [a, b] [] pos) (RI bor Y O Wx fun δ => M.bind (ml δ) fun ds => M.of (rangeD ds)) := (pi_range2 hg hm ha hs hs2).imp fun σ H R ⟨δ, st, Z, ms, Rl, P⟩ => by
  refine ⟨δ, st, Z, ms, Rl, ?_⟩
  dsimp only at P
  unfold M.bind at P
  cases e : ml δ st with
  | bad => rw [e] at P; exact P
  | exn c fs st' => rw [e] at P; exact P
  | ok ds st' =>
    rw [e] at P
    have h1 := hl _ _ _ _ e
    match ds, h1 with
    | [d, d2], _ =>
      intro vs H1 Z1 ms1 s1 hv
      obtain ⟨v, u, rfl, hv1, hu⟩ := dl2 hv
      cases d with
      | int i =>
        cases d2 with
        | int j =>
          rw [den_int hv1, den_int hu]
          obtain ⟨items, e3, P3⟩ := Post.of (o := rangeD [D.int i, D.int j]) (st := st') P
          obtain ⟨q1, q2, rfl⟩ := rangeD_2 e3
          obtain ⟨b1, b2⟩ := rgSmall_iff q1
          obtain ⟨b3, b4⟩ := rgSmall_iff q2
          exact ⟨i, j, rfl, ⟨b1, b2, b3, b4⟩, P3 _ _ _ _ s1 walkD_range⟩
        | _ => exact (show False from P).elim
      | _ => exact (show False from P).elim
theorem si_rng3 {p : Pos} (hg : Gl X "range") (hm : X.mg "range" = none) (ha : PA X [a, b, c] (RL Y O Wx ml)) (hs : starEach [a, b, c] X.env = (false, eval a X.env) :: starEach [b, c] X.env) (hpl : (backTo pos (starEach [b, c] X.env)).any (·.1) = false)
    (hl : ∀ δ st ds st', ml δ st = .ok ds st' → ds.length = 3) :
    PI X tg (.Call (.Name "range" p) [a, b, c] [] pos) (RI bor Y O Wx fun δ => M.bind (ml δ) fun ds => M.of (rangeD ds)) := (pi_range3 hg hm ha hs hpl).imp fun σ H R ⟨δ, st, Z, ms, Rl, P⟩ => by
  refine ⟨δ, st, Z, ms, Rl, ?_⟩
  dsimp only at P
  unfold M.bind at P
  cases e : ml δ st with
  | bad => rw [e] at P; exact P
  | exn c fs st' => rw [e] at P; exact P
  | ok ds st' =>
    rw [e] at P
    have h1 := hl _ _ _ _ e
    match ds, h1 with
    | [d, d2, d3], _ =>
      intro vs H1 Z1 ms1 s1 hv
      obtain ⟨v, u, w, rfl, hv1, hu, hw⟩ := dl3 hv
      cases d with
      | int i =>
        cases d2 with
        | int j =>
          cases d3 with
          | int c =>
            rw [den_int hv1, den_int hu, den_int hw]
            obtain ⟨items, e3, P3⟩ := Post.of (o := rangeD [D.int i, D.int j, D.int c]) (st := st') P
            obtain ⟨n, q1, q2, hn, rfl⟩ := rangeD_3 e3
            exact ⟨i, j, c, n, rfl, step_rgC q1 q2 hn, P3 _ _ _ _ s1 walkD_rangeC⟩
          | _ => exact (show False from P).elim
        | _ => exact (show False from P).elim
      | _ => exact (show False from P).elim

/-! pairs -/
theorem enumD_at {ds : List D} {i : Nat} {d : D} (h : (enumD ds)[i]? = some d) : ∃ x, ds[i]? = some x ∧ d = .tup [.int (i : Nat), x] := by
  unfold enumD at h
  rw [List.getElem?_map, List.getElem?_zipIdx] at h
  cases e : ds[i]? with
  | none => rw [e] at h; cases h
  | some x =>
    rw [e] at h
    refine ⟨x, rfl, ?_⟩
    have := (Option.some.inj h).symm
    simpa using this
theorem zipD_at {ds es : List D} {i : Nat} {d : D} (h : (zipD ds es)[i]? = some d) : ∃ x y, ds[i]? = some x ∧ es[i]? = some y ∧ d = .tup [x, y] := by
  unfold zipD at h
  rw [List.getElem?_map] at h
  cases e : (ds.zip es)[i]? with
  | none => rw [e] at h; cases h
  | some p =>
    rw [e] at h
    obtain ⟨h1, h2⟩ := List.getElem?_zip_eq_some.mp e
    exact ⟨p.1, p.2, h1, h2, (Option.some.inj h).symm⟩
theorem pair_new {Z2 : Zs} {ms2 : List Addr} {H2 : Hp} {st2 : Store} {T : Addr} {x y : V} {d e : D} (k : StOk Y Z2 ms2 H2 st2) (hT : H2 T = none) (hx : Den Y Z2 ms2 H2 x d) (hy : Den Y Z2 ms2 H2 y e) :
    ∃ Z3, Step Y Z2 ms2 H2 Z3 ms2 (upd H2 T (.tup [x, y])) st2 ∧ Den Y Z3 ms2 (upd H2 T (.tup [x, y])) (.ref T) (.tup [d, e]) := by
  have s := Step.laidZ (o := .tup [x, y]) k hT
  exact ⟨_, s, .tup upd_same (.inr rfl) (s.denL k (.cons hx (.cons hy .nil)))⟩
theorem walk_enumT {K : PySem.W.Frag} {a : Addr} {xs : List V} : Walk (IteT K a) xs.length (fun H => SqT K H a xs) (YPair (fun i => some (.int (i : Nat))) (fun i => xs[i]?)) := by
  refine ⟨fun i _ hi q => ⟨xs, xs[i], q, by simp [hi]⟩, fun _ q => ⟨xs, q, rfl⟩, fun i H v H' _ q y => ?_⟩
  obtain ⟨T, x, h1, h2, h3, h4⟩ := y
  exact ⟨T, .int (i : Nat), x, h1, h2, h3, rfl, h4 xs q⟩
theorem si_enum {p tpos : Pos} {elts : List Expr} {kk : Nat} (hK : X.K = Y.K) (hg : Gl X "enumerate") (hm : X.mg "enumerate" = none) (ha : PE X a (RG Y O Wx (VDX bor Y) ma)) (hs : starEach [a] X.env = [(false, eval a X.env)]) :
    PI X (.Tuple elts kk tpos) (.Call (.Name "enumerate" p) [a] [] pos) (RI bor Y O Wx fun δ => M.bind (ma δ) fun d => M.bind (M.of (rowOf d)) fun ds => M.pure (enumD ds)) := by
  have hpa : PA X [a] (tCons (RG Y O Wx (VDX bor Y) ma) tNil) := pa_cons ha pa_nil hs
  refine ⟨fun pins s σ H R I ⟨δ, st, Z, ms, Rl, P⟩ => ?_⟩
  have P' := P
  dsimp only at P'
  unfold M.bind at P'
  cases e : ma δ st with
  | bad => rw [e] at P'; exact P'.elim
  | exn c fs st' =>
    refine (pi_enum hg hm hpa hs).run pins s σ H R I ⟨δ, st, Z, ms, Rl, ?_⟩
    rw [e] at P' ⊢
    exact P'
  | ok d st' =>
    rw [e] at P'
    dsimp only at P'
    cases e2 : rowOf d with
    | none => rw [e2] at P'; exact P'.elim
    | some ds =>
      rw [e2] at P'
      have here : ∀ Z1 ms1 H1, StOk Y Z1 ms1 H1 st' → Tr bor Y Z1 ms1 H1 Z1 ms1 H1 st' := fun Z1 ms1 H1 k => by
        unfold Tr
        split
        · exact Step.refl k
        · exact StepZ.refl k
      cases d with
      | lst ds' =>
        cases e2
        refine (pi_enum hg hm hpa hs).run pins s σ H R I ⟨δ, st, Z, ms, Rl, ?_⟩
        rw [e]
        intro v H1 Z1 ms1 s1 hv
        obtain ⟨a, xs, rfl, hl, ⟨_, f⟩ | ⟨z, _⟩⟩ := src_later s1.ok hv rfl
        · refine ⟨a, xs, rfl, by rw [hK]; exact SqL.of (f _ _ _ _ (here _ _ _ s1.ok)).1, P' _ H1 Z1 ms1 s1 ?_⟩
          rw [hK]
          refine walkD_of (walk_enum (K := Y.K) (a := a) (xs := xs)) (by simp [enumD, hl]) (fun Z2 ms2 H2 st2 t => SqL.of (f _ _ _ _ t).1) fun Z2 ms2 H2 st2 i x H3 d t e y => ?_
          obtain ⟨T, x', y', rfl, hT, rfl, h1, h2⟩ := y
          cases h1
          obtain ⟨z, e1, rfl⟩ := enumD_at e
          exact pair_new t.ok hT (.int _) (items_at (f _ _ _ _ t).2 e1 h2)
        · cases z
      | tup ds' =>
        cases e2
        refine (pi_enumT hg hm hpa hs).run pins s σ H R I ⟨δ, st, Z, ms, Rl, ?_⟩
        rw [e]
        intro v H1 Z1 ms1 s1 hv
        obtain ⟨a, xs, rfl, hl, ⟨z, _⟩ | ⟨_, f⟩⟩ := src_later s1.ok hv rfl
        · cases z
        · refine ⟨a, xs, rfl, by rw [hK]; exact (f _ _ _ _ (here _ _ _ s1.ok)).1, P' _ H1 Z1 ms1 s1 ?_⟩
          rw [hK]
          refine walkD_of (walk_enumT (K := Y.K) (a := a) (xs := xs)) (by simp [enumD, hl]) (fun Z2 ms2 H2 st2 t => (f _ _ _ _ t).1) fun Z2 ms2 H2 st2 i x H3 d t e y => ?_
          obtain ⟨T, x', y', rfl, hT, rfl, h1, h2⟩ := y
          cases h1
          obtain ⟨z, e1, rfl⟩ := enumD_at e
          exact pair_new t.ok hT (.int _) (items_at (f _ _ _ _ t).2 e1 h2)
      | _ => cases e2

theorem Tr.here (k : StOk Y Z ms H st) : Tr bor Y Z ms H Z ms H st := by
  unfold Tr
  split
  · exact Step.refl k
  · exact StepZ.refl k
theorem Tr.of (s : Step Y Z ms H Z1 ms1 H1 st1) (k : StOk Y Z ms H st) : Tr bor Y Z ms H Z1 ms1 H1 st1 := by
  unfold Tr
  split
  · exact s
  · exact s.z k
theorem Tr.trans {Z2 : Zs} {ms2 : List Addr} {H2 : Hp} {st2 : Store} (s : Step Y Z ms H Z1 ms1 H1 st1) (k : StOk Y Z ms H st) (t : Tr bor Y Z1 ms1 H1 Z2 ms2 H2 st2) : Tr bor Y Z ms H Z2 ms2 H2 st2 := by
  unfold Tr at t ⊢
  split at t
  · rw [if_pos ‹_›]; exact s.trans t k
  · rw [if_neg ‹_›]; exact (s.z k).trans t
theorem walk_zipT {K : PySem.W.Frag} {a b : Addr} {xs ys : List V} {n : Nat} (hn : n = min xs.length ys.length) : Walk (ItzT K a b) n (fun H => SqT K H a xs ∧ SqT K H b ys) (YPair (fun i => xs[i]?) (fun i => ys[i]?)) := by
  subst hn
  refine ⟨fun i _ hi q => ?_, fun _ q => ⟨xs, ys, q.1, q.2, by omega⟩, fun i H v H' _ q y => ?_⟩
  · have h1 : i < xs.length := by omega
    have h2 : i < ys.length := by omega
    exact ⟨xs, ys, xs[i], ys[i], q.1, q.2, by simp [h1], by simp [h2]⟩
  · obtain ⟨T, x, z, h1, h2, h3, h4, h5⟩ := y
    exact ⟨T, x, z, h1, h2, h3, h4 xs q.1, h5 ys q.2⟩
theorem rowOf_cases {d : D} {ds : List D} (h : rowOf d = some ds) : d = .tup ds ∨ d = .lst ds := by
  cases d <;> cases h
  · exact .inl rfl
  · exact .inr rfl
theorem si_zip {p tpos : Pos} {elts : List Expr} {kk : Nat} (hK : X.K = Y.K) (hg : Gl X "zip") (hm : X.mg "zip" = none) (ha : PE X a (RG Y O Wx (VDX bor Y) ma)) (hb : PE X b (RG Y O Wx (VDX bor Y) mb))
    (hs : starEach [a, b] X.env = (false, eval a X.env) :: starEach [b] X.env) (hs2 : starEach [b] X.env = [(false, eval b X.env)]) (hpl : (backTo pos (starEach [b] X.env)).any (·.1) = false) :
    PI X (.Tuple elts kk tpos) (.Call (.Name "zip" p) [a, b] [] pos) (RI bor Y O Wx fun δ => M.bind (ma δ) fun x => M.bind (mb δ) fun y => M.of (zipM x y)) := by
  have hpa : PA X [a, b] (tCons (RG Y O Wx (VDX bor Y) ma) (tCons (RG Y O Wx (VDX bor Y) mb) tNil)) := pa_cons ha (pa_cons hb pa_nil hs2) hs
  refine (pi_zipA hg hm hpa hs hpl).imp fun σ H R ⟨δ, st, Z, ms, Rl, P⟩ => rg_seq Rl P fun x st1 v H1 Z1 ms1 s1 R1 vx P1 => rg_seq R1 P1 fun y st2 u H2 Z2 ms2 s2 R2 vy P2 => ?_
  obtain ⟨items, e, P3⟩ := Post.of P2
  have vx2 := s2.denX R1.ok vx
  have k2 := R2.ok
  cases x with
  | tup ds =>
    cases y with
    | tup es =>
      cases e
      obtain ⟨a', xs, rfl, hl, ⟨z, _⟩ | ⟨_, f⟩⟩ := src_later k2 vx2 rfl
      · cases z
      · obtain ⟨b', ys, rfl, hl2, ⟨z, _⟩ | ⟨_, g⟩⟩ := src_later k2 vy rfl
        · cases z
        · refine ⟨a', b', xs, ys, rfl, .inr ⟨by rw [hK]; exact (f _ _ _ _ (Tr.here k2)).1, by rw [hK]; exact (g _ _ _ _ (Tr.here k2)).1, P3 _ _ _ _ (Step.refl k2) ?_⟩⟩
          rw [hK]
          refine walkD_of (walk_zipT (K := Y.K) (a := a') (b := b') (xs := xs) (ys := ys) rfl) (by simp [zipD, hl, hl2]) (fun Z2 ms2 H2 st2 t => ⟨(f _ _ _ _ t).1, (g _ _ _ _ t).1⟩) fun Z2 ms2 H2 st2 i x H3 d t e y => ?_
          obtain ⟨T, x', y', rfl, hT, rfl, h1, h2⟩ := y
          obtain ⟨z1, z2, e1, e2, rfl⟩ := zipD_at e
          exact pair_new t.ok hT (items_at (f _ _ _ _ t).2 e1 h1) (items_at (g _ _ _ _ t).2 e2 h2)
    | _ => cases e
  | lst ds =>
    cases y with
    | lst es =>
      cases e
      obtain ⟨a', xs, rfl, hl, ⟨_, f⟩ | ⟨z, _⟩⟩ := src_later k2 vx2 rfl
      · obtain ⟨b', ys, rfl, hl2, ⟨_, g⟩ | ⟨z, _⟩⟩ := src_later k2 vy rfl
        · refine ⟨a', b', xs, ys, rfl, .inl ⟨by rw [hK]; exact SqL.of (f _ _ _ _ (Tr.here k2)).1, by rw [hK]; exact SqL.of (g _ _ _ _ (Tr.here k2)).1, P3 _ _ _ _ (Step.refl k2) ?_⟩⟩
          rw [hK]
          refine walkD_of (walk_zip (K := Y.K) (a := a') (b := b') (xs := xs) (ys := ys) rfl) (by simp [zipD, hl, hl2]) (fun Z2 ms2 H2 st2 t => ⟨SqL.of (f _ _ _ _ t).1, SqL.of (g _ _ _ _ t).1⟩) fun Z2 ms2 H2 st2 i x H3 d t e y => ?_
          obtain ⟨T, x', y', rfl, hT, rfl, h1, h2⟩ := y
          obtain ⟨z1, z2, e1, e2, rfl⟩ := zipD_at e
          exact pair_new t.ok hT (items_at (f _ _ _ _ t).2 e1 h1) (items_at (g _ _ _ _ t).2 e2 h2)
        · cases z
      · cases z
    | _ => cases e
  | _ => cases e
theorem walk_revT {K : PySem.W.Frag} {a : Addr} {xs : List V} : Walk (ItvT K a xs.length) xs.length (fun H => SqT K H a xs) (fun i H x H' => H' = H ∧ xs[xs.length - 1 - i]? = some x) :=
  ⟨fun i _ hi q => ⟨hi, xs, xs[xs.length - 1 - i]'(by omega), q, by simp [show xs.length - 1 - i < xs.length by omega]⟩, fun _ _ => Nat.le_refl _, fun _ _ _ _ _ q y => ⟨y.1, y.2 xs q⟩⟩
theorem rev_at {ds : List D} {i : Nat} {d : D} (h : ds.reverse[i]? = some d) : ds[ds.length - 1 - i]? = some d := by
  have hi := lt_of h
  rw [List.length_reverse] at hi
  rw [List.getElem?_reverse hi] at h
  exact h
theorem si_rev {p : Pos} (hK : X.K = Y.K) (hg : Gl X "reversed") (hm : X.mg "reversed" = none) (ha : PE X a (RG Y O Wx (VDX bor Y) ma)) (hs : starEach [a] X.env = (false, eval a X.env) :: starEach [] X.env) :
    PI X tg (.Call (.Name "reversed" p) [a] [] pos) (RI bor Y O Wx fun δ => M.bind (ma δ) fun d => M.bind (M.of (rowOf d)) fun ds => M.pure ds.reverse) := by
  refine (pi_revA hg hm ha hs).imp fun σ H R ⟨δ, st, Z, ms, Rl, P⟩ => rg_seq Rl P fun x st1 v H1 Z1 ms1 s1 R1 vx P1 => ?_
  obtain ⟨ds, e, P2⟩ := Post.bindOf P1
  have k1 := R1.ok
  obtain ⟨a', xs, rfl, hl, ⟨rfl, f⟩ | ⟨rfl, f⟩⟩ := src_later k1 vx e
  · refine ⟨a', xs, rfl, .inl ⟨by rw [hK]; exact SqL.of (f _ _ _ _ (Tr.here k1)).1, P2 _ _ _ _ (Step.refl k1) ?_⟩⟩
    rw [hK]
    refine walkD_of (walk_rev (K := Y.K) (a := a') (xs := xs)) (by simp [hl]) (fun Z2 ms2 H2 st2 t => SqL.of (f _ _ _ _ t).1) fun Z2 ms2 H2 st2 i x H3 d t e y => ?_
    obtain ⟨rfl, y⟩ := y
    rw [hl] at y
    exact ⟨Z2, Step.refl t.ok, items_at (f _ _ _ _ t).2 (rev_at e) y⟩
  · refine ⟨a', xs, rfl, .inr ⟨by rw [hK]; exact (f _ _ _ _ (Tr.here k1)).1, P2 _ _ _ _ (Step.refl k1) ?_⟩⟩
    rw [hK]
    refine walkD_of (walk_revT (K := Y.K) (a := a') (xs := xs)) (by simp [hl]) (fun Z2 ms2 H2 st2 t => (f _ _ _ _ t).1) fun Z2 ms2 H2 st2 i x H3 d t e y => ?_
    obtain ⟨rfl, y⟩ := y
    rw [hl] at y
    exact ⟨Z2, Step.refl t.ok, items_at (f _ _ _ _ t).2 (rev_at e) y⟩

/-! ### list(range(..)), tuple(range(..)) -/
theorem rgV_den (i j : Int) : DenL Y Z ms H (rgV i j) (rangeI i (j - i).toNat 1) := by
  unfold rgV rangeI
  induction (List.range (j - i).toNat) with
  | nil => exact .nil
  | cons n r ih =>
    rw [List.map_cons, List.map_cons, Int.mul_one]
    exact .cons (.int _) ih
theorem rgOk_of {i j : Int} (hi : rgSmall i = true) (hj : rgSmall j = true) (hz : okLen (rangeI i (j - i).toNat 1).length = true) : RgOk i j := by
  obtain ⟨b1, b2⟩ := rgSmall_iff hi
  obtain ⟨b3, b4⟩ := rgSmall_iff hj
  have := okLen_le hz
  rw [rangeI_len, sizeLine_eq] at this
  exact ⟨b1, b2, b3, b4, by omega⟩
theorem lrng_fin {i j : Int} {r : List D} {Hs : Hp} (hi : rgSmall i = true) (hj : rgSmall j = true) (e : r = rangeI i (j - i).toNat 1) (P : Post Y Wx (VFr Y Hs) σ Z ms H st (M.bind (okRow r) (fun r => M.pure (D.lst r)) st) Q) (k : StOk Y Z ms H st) (hs : ∀ p, H p = none → Hs p = none) :
    RgOk i j ∧ ∀ q, H q = none → Q (.ref q) (upd H q (.lst (rgV i j))) := by
  subst e
  obtain ⟨hz, P2⟩ := Post.okRow P
  exact ⟨rgOk_of hi hj hz, fin_fr P2 k hs (rgV_den i j)⟩
theorem trng_fin {i j : Int} {r : List D} (hi : rgSmall i = true) (hj : rgSmall j = true) (e : r = rangeI i (j - i).toNat 1) (P : Post Y Wx (VD Y) σ Z ms H st (M.bind (okRow r) (fun r => M.pure (D.tup r)) st) Q) (k : StOk Y Z ms H st) :
    RgOk i j ∧ ∀ q, H q = none → Q (.ref q) (upd H q (.tup (rgV i j))) := by
  subst e
  obtain ⟨hz, P2⟩ := Post.okRow P
  exact ⟨rgOk_of hi hj hz, (fin_of P2).tup k (rgV_den i j)⟩
theorem sf_lrng1 {p q pos2 : Pos} (hc : X.calm = true) (hgl : Gl X "list") (hml : X.mg "list" = none) (hg : Gl X "range") (hm : X.mg "range" = none) (ha : PE X a (RE Y O Wx ma)) (na : starEach [a] X.env = (false, eval a X.env) :: starEach [] X.env) :
    PE X (.Call (.Name "list" p) [.Call (.Name "range" q) [a] [] pos2] [] pos) (RF Y O Wx fun δ => M.bind (ma δ) fun d => M.bind (M.of (rangeD [d])) fun r => M.bind (okRow r) fun r => M.pure (.lst r)) :=
  (pe_listRg hc hgl hml (prg_1 hg hm ha na) rfl).imp fun σ H Q ⟨δ, st, Z, ms, R, P⟩ => rg_seq R P fun d st1 v H1 Z1 ms1 s1 R1 vd P1 => by
    obtain ⟨r, e, P2⟩ := Post.bindOf P1
    cases d with
    | int j =>
      cases vd
      obtain ⟨q1, q2⟩ := rangeD_1 e
      exact ⟨j, rfl, lrng_fin (i := 0) (by decide) q1 (by rw [q2, Int.sub_zero]) P2 R1.ok (s1.back R.ok)⟩
    | _ => cases e
theorem sf_lrng2 {p q pos2 : Pos} (hc : X.calm = true) (hgl : Gl X "list") (hml : X.mg "list" = none) (hg : Gl X "range") (hm : X.mg "range" = none) (ha : PE X a (RE Y O Wx ma)) (hb : PE X b (RE Y O Wx mb))
    (na : starEach [a, b] X.env = (false, eval a X.env) :: starEach [b] X.env) (nb : starEach [b] X.env = (false, eval b X.env) :: starEach [] X.env) (hp : (backTo pos2 (starEach [b] X.env)).any (·.1) = false) :
    PE X (.Call (.Name "list" p) [.Call (.Name "range" q) [a, b] [] pos2] [] pos) (RF Y O Wx fun δ => M.bind (ma δ) fun d => M.bind (mb δ) fun e => M.bind (M.of (rangeD [d, e])) fun r => M.bind (okRow r) fun r => M.pure (.lst r)) :=
  (pe_listRg hc hgl hml (prg_2 hg hm ha hb na nb hp) rfl).imp fun σ H Q ⟨δ, st, Z, ms, R, P⟩ => rg_seq R P fun d st1 v H1 Z1 ms1 s1 R1 vd P1 => rg_seq R1 P1 fun d2 st2 u H2 Z2 ms2 s2 R2 vd2 P2 => by
    obtain ⟨r, e, P3⟩ := Post.bindOf P2
    cases d with
    | int i =>
      cases d2 with
      | int j =>
        cases vd
        cases vd2
        obtain ⟨q1, q2, q3⟩ := rangeD_2 e
        exact ⟨i, j, rfl, rfl, lrng_fin q1 q2 q3 P3 R2.ok fun p hp => s1.back R.ok p (s2.back R1.ok p hp)⟩
      | _ => cases e
    | _ => cases e
theorem se_trng1 {p q pos2 : Pos} (hc : X.calm = true) (hgl : Gl X "tuple") (hml : X.mg "tuple" = none) (hg : Gl X "range") (hm : X.mg "range" = none) (ha : PE X a (RE Y O Wx ma)) (na : starEach [a] X.env = (false, eval a X.env) :: starEach [] X.env) :
    PE X (.Call (.Name "tuple" p) [.Call (.Name "range" q) [a] [] pos2] [] pos) (RE Y O Wx fun δ => M.bind (ma δ) fun d => M.bind (M.of (rangeD [d])) fun r => M.bind (okRow r) fun r => M.pure (.tup r)) :=
  (pe_tupRg hc hgl hml (prg_1 hg hm ha na) rfl).imp fun σ H Q ⟨δ, st, Z, ms, R, P⟩ => rg_seq R P fun d st1 v H1 Z1 ms1 s1 R1 vd P1 => by
    obtain ⟨r, e, P2⟩ := Post.bindOf P1
    cases d with
    | int j =>
      cases vd
      obtain ⟨q1, q2⟩ := rangeD_1 e
      exact ⟨j, rfl, trng_fin (i := 0) (by decide) q1 (by rw [q2, Int.sub_zero]) P2 R1.ok⟩
    | _ => cases e
theorem se_trng2 {p q pos2 : Pos} (hc : X.calm = true) (hgl : Gl X "tuple") (hml : X.mg "tuple" = none) (hg : Gl X "range") (hm : X.mg "range" = none) (ha : PE X a (RE Y O Wx ma)) (hb : PE X b (RE Y O Wx mb))
    (na : starEach [a, b] X.env = (false, eval a X.env) :: starEach [b] X.env) (nb : starEach [b] X.env = (false, eval b X.env) :: starEach [] X.env) (hp : (backTo pos2 (starEach [b] X.env)).any (·.1) = false) :
    PE X (.Call (.Name "tuple" p) [.Call (.Name "range" q) [a, b] [] pos2] [] pos) (RE Y O Wx fun δ => M.bind (ma δ) fun d => M.bind (mb δ) fun e => M.bind (M.of (rangeD [d, e])) fun r => M.bind (okRow r) fun r => M.pure (.tup r)) :=
  (pe_tupRg hc hgl hml (prg_2 hg hm ha hb na nb hp) rfl).imp fun σ H Q ⟨δ, st, Z, ms, R, P⟩ => rg_seq R P fun d st1 v H1 Z1 ms1 s1 R1 vd P1 => rg_seq R1 P1 fun d2 st2 u H2 Z2 ms2 s2 R2 vd2 P2 => by
    obtain ⟨r, e, P3⟩ := Post.bindOf P2
    cases d with
    | int i =>
      cases d2 with
      | int j =>
        cases vd
        cases vd2
        obtain ⟨q1, q2, q3⟩ := rangeD_2 e
        exact ⟨i, j, rfl, rfl, trng_fin q1 q2 q3 P3 R2.ok⟩
      | _ => cases e
    | _ => cases e
end Sw

set_option Elab.async false
set_option linter.all false
set_option maxRecDepth 100000
/-! Sw, part H: targets; comprehensions. -/
namespace Sw
open PySem PySem.Spec PyProof.Rows L2 RT RZ
variable {Y : Cfg} {O : Own} {Wx : WX} {X : Cx} {pos : Pos} {a b c : Expr} {ma mb mc : Ev} {es : List Expr} {ml : Fr → M (List D)} {δ : Fr} {σ : L2.St}
variable {Z Z1 : Zs} {ms ms1 : List Addr} {H H1 : Hp} {st st1 : Store} {Q : VK}
mutual
def T.slots : T → List Nat
  | .nm i => [i]
  | .tu ts => slotsL ts
def slotsL : List T → List Nat
  | [] => []
  | t :: r => t.slots ++ slotsL r
end
/-- unlike at these places alone -/
def Only (is : List Nat) (σ σ' : L2.St) : Prop := σ'.length = σ.length ∧ ∀ j, j ∉ is → σ'[j]? = σ[j]?
theorem Only.trans {is js : List Nat} {σ σ' σ2 : L2.St} (x : Only is σ σ') (y : Only js σ' σ2) : Only (is ++ js) σ σ2 :=
  ⟨y.1.trans x.1, fun j hj => (y.2 j fun z => hj (List.mem_append_right _ z)).trans (x.2 j fun z => hj (List.mem_append_left _ z))⟩
theorem wipe_get (σ : L2.St) (j : Nat) : ∀ vs : List Nat, (wipe σ vs)[j]? = if j ∈ vs ∧ j < σ.length then some none else σ[j]?
  | [] => by simp [wipe]
  | v :: vs => by
    unfold wipe
    rw [List.getElem?_set]
    by_cases h : v = j
    · subst h
      rw [if_pos rfl, wipe_length]
      by_cases hl : v < σ.length
      · rw [if_pos hl, if_pos ⟨List.mem_cons_self, hl⟩]
      · rw [if_neg hl, if_neg (fun q => hl q.2)]
        exact (List.getElem?_eq_none (Nat.le_of_not_lt hl)).symm
    · rw [if_neg h, wipe_get σ j vs]
      have e : (j ∈ v :: vs) ↔ j ∈ vs := by
        rw [List.mem_cons]
        exact ⟨fun q => q.resolve_left (Ne.symm h), .inr⟩
      simp only [e]
theorem Only.wipe {is vs : List Nat} {σ σ' : L2.St} (x : Only is σ σ') (h : ∀ i ∈ is, i ∈ vs) : wipe σ' vs = wipe σ vs := by
  refine List.ext_getElem? fun j => ?_
  rw [wipe_get, wipe_get, x.1]
  by_cases hj : j ∈ vs ∧ j < σ.length
  · rw [if_pos hj, if_pos hj]
  · rw [if_neg hj, if_neg hj]
    by_cases h2 : j ∈ is
    · have hl : ¬ j < σ.length := fun q => hj ⟨h j h2, q⟩
      rw [List.getElem?_eq_none (Nat.le_of_not_lt hl), List.getElem?_eq_none (by rw [x.1]; exact Nat.le_of_not_lt hl)]
    · exact x.2 j h2
theorem wipeF_get (δ : Fr) (j : Nat) : ∀ vs : List Nat, (wipeF δ vs)[j]? = if j ∈ vs ∧ j < δ.length then some none else δ[j]?
  | [] => by simp [wipeF]
  | v :: vs => by
    have hlen : (wipeF δ vs).length = δ.length := by
      clear wipeF_get
      induction vs with
      | nil => rfl
      | cons x r ih => unfold wipeF; rw [List.length_set, ih]
    unfold wipeF
    rw [List.getElem?_set]
    by_cases h : v = j
    · subst h
      rw [if_pos rfl, hlen]
      by_cases hl : v < δ.length
      · rw [if_pos hl, if_pos ⟨List.mem_cons_self, hl⟩]
      · rw [if_neg hl, if_neg (fun q => hl q.2)]
        exact (List.getElem?_eq_none (Nat.le_of_not_lt hl)).symm
    · rw [if_neg h, wipeF_get δ j vs]
      have e : (j ∈ v :: vs) ↔ j ∈ vs := by
        rw [List.mem_cons]
        exact ⟨fun q => q.resolve_left (Ne.symm h), .inr⟩
      simp only [e]
theorem wipeF_len (δ : Fr) : ∀ vs : List Nat, (wipeF δ vs).length = δ.length
  | [] => rfl
  | v :: vs => by unfold wipeF; rw [List.length_set, wipeF_len]
theorem Rel.wipe (R : Rel Y O Z ms δ σ H st) (vs : List Nat) : Rel Y O Z ms (wipeF δ vs) (L2.wipe σ vs) H st := by
  have sub : ∀ (i : Nat) s, (wipeF δ vs)[i]? = some (some s) → δ[i]? = some (some s) ∧ (L2.wipe σ vs)[i]? = σ[i]? := fun i s e => by
    rw [wipeF_get] at e
    split at e
    · cases e
    · rename_i h
      refine ⟨e, ?_⟩
      rw [wipe_get, ← R.len, if_neg h]
  refine ⟨R.k0, R.base, by rw [wipeF_len, wipe_length, R.len], fun i s e => ?_, fun i j ds es a e1 e2 e3 e4 => ?_⟩
  · obtain ⟨h1, h2⟩ := sub i s e
    rw [h2]
    exact R.slots i s h1
  · obtain ⟨h1, h2⟩ := sub i _ e1
    obtain ⟨h3, h4⟩ := sub j _ e2
    rw [h2] at e3
    rw [h4] at e4
    exact R.inj i j ds es a h1 h3 e3 e4
/-- a value is stored -/
theorem Rel.set {i : Nat} {v : V} {d : D} (R : Rel Y O Z ms δ σ H st) (h : Den Y Z ms H v d) (hi : i < δ.length) : Rel Y O Z ms (δ.set i (some (.sh d))) (σ.set i (some v)) H st := by
  have hj : i < σ.length := by rw [← R.len]; exact hi
  refine ⟨R.k0, R.base, by rw [List.length_set, List.length_set, R.len], fun j s e => ?_, fun j k ds es a e1 e2 e3 e4 => ?_⟩
  · by_cases q : i = j
    · subst q
      rw [List.getElem?_set_self hi] at e
      cases e
      exact ⟨_, List.getElem?_set_self hj, v, rfl, h⟩
    · rw [List.getElem?_set_ne q] at e ⊢
      exact R.slots j s e
  · have n1 : i ≠ j := fun q => by subst q; rw [List.getElem?_set_self hi] at e1; cases e1
    have n2 : i ≠ k := fun q => by subst q; rw [List.getElem?_set_self hi] at e2; cases e2
    rw [List.getElem?_set_ne n1] at e1 e3
    rw [List.getElem?_set_ne n2] at e2 e4
    exact R.inj j k ds es a e1 e2 e3 e4
/-- the lists that names alone hold: those of before -/
def Keep (δ δ' : Fr) (σ σ' : L2.St) : Prop := ∀ (i : Nat) ds, δ'[i]? = some (some (.ow ds)) → δ[i]? = some (some (.ow ds)) ∧ σ'[i]? = σ[i]?
theorem Keep.trans {δ δ1 δ2 : Fr} {σ σ1 σ2 : L2.St} (a : Keep δ δ1 σ σ1) (b : Keep δ1 δ2 σ1 σ2) : Keep δ δ2 σ σ2 := fun i ds e =>
  let ⟨h1, h2⟩ := b i ds e
  let ⟨h3, h4⟩ := a i ds h1
  ⟨h3, h2.trans h4⟩
/-- a target's reading -/
def GT (Y : Cfg) (O : Own) (t : T) : TG := fun v σ H Q => ∃ δ st Z ms d δ', Rel Y O Z ms δ σ H st ∧ Den Y Z ms H v d ∧ bindT t d δ = some δ' ∧ ∀ σ', Rel Y O Z ms δ' σ' H st → Only t.slots σ σ' → Keep δ δ' σ σ' → Q σ' H
def GTs (Y : Cfg) (O : Own) (ts : List T) : TGs := fun vs σ H Q => ∃ δ st Z ms ds δ', Rel Y O Z ms δ σ H st ∧ DenL Y Z ms H vs ds ∧ bindT.binds ts ds δ = some δ' ∧ ∀ σ', Rel Y O Z ms δ' σ' H st → Only (slotsL ts) σ σ' → Keep δ δ' σ σ' → Q σ' H
theorem _root_.L2.PG.imp {e : Expr} {t t' : TG} (h : PG X e t) (i : ∀ v σ H Q, t' v σ H Q → t v σ H Q) : PG X e t' := ⟨fun pins s σ H v u Q I r q => h.run pins s σ H v u Q I r (i v σ H Q q)⟩
theorem _root_.L2.PGs.imp {e : List Expr} {t t' : TGs} (h : PGs X e t) (i : ∀ v σ H Q, t' v σ H Q → t v σ H Q) : PGs X e t' := ⟨fun pins s σ H v u Q I r q => h.run pins s σ H v u Q I r (i v σ H Q q)⟩
theorem sg_name {i : Nat} {x : Str} (hN : X.N.Nodup) (hi : X.N[i]? = some x) (hx : Loc X.env.scope x) (hf : X.fn x = true ∨ X.env.scope.names.lookup x = some .local) : PG X (.Name x pos) (GT Y O (.nm i)) :=
  (pg_name hN hi hx hf).imp fun v σ H Q ⟨δ, st, Z, ms, d, δ', R, h, e, q⟩ => by
    unfold bindT at e
    split at e
    · rename_i hl
      cases e
      refine q _ (R.set h hl) ⟨List.length_set .., fun j hj => List.getElem?_set_ne fun z => hj ?_⟩ fun j ds e => ?_
      · rw [z]
        exact List.mem_singleton.mpr rfl
      · have n : i ≠ j := fun q => by subst q; rw [List.getElem?_set_self hl] at e; cases e
        rw [List.getElem?_set_ne n] at e
        exact ⟨e, List.getElem?_set_ne n⟩
    · cases e
theorem sgs_nil : PGs X [] (GTs Y O []) := pgs_nil.imp fun vs σ H Q ⟨δ, st, Z, ms, ds, δ', R, h, e, q⟩ => by
  cases h with
  | nil => cases e; exact ⟨rfl, q σ R ⟨rfl, fun _ _ => rfl⟩ fun _ _ e => ⟨e, rfl⟩⟩
  | cons _ _ => cases e
theorem assign_plain {env : Env} (hs : ∀ v p, a ≠ .Starred v p) : assignEach (a :: es) env = (false, assign a env) :: assignEach es env := by
  cases a <;> first | rfl | exact absurd rfl (hs _ _)
def NoStar (es : List Expr) : Prop := ∀ e ∈ es, ∀ v p, e ≠ Expr.Starred v p
theorem assign_len {env : Env} : ∀ {es : List Expr}, NoStar es → (assignEach es env).length = es.length ∧ (assignEach es env).findIdx? (·.1) = none
  | [], _ => ⟨rfl, rfl⟩
  | e :: r, h => by
    obtain ⟨h1, h2⟩ := assign_len (env := env) (es := r) fun x hx => h x (List.mem_cons_of_mem _ hx)
    rw [assign_plain (h e List.mem_cons_self)]
    refine ⟨by rw [List.length_cons, h1]; rfl, ?_⟩
    rw [List.findIdx?_cons, h2]
    rfl
theorem sgs_cons {t : T} {ts : List T} (h1 : PG X a (GT Y O t)) (h2 : PGs X es (GTs Y O ts)) (hs : ∀ v p, a ≠ .Starred v p) : PGs X (a :: es) (GTs Y O (t :: ts)) :=
  (pgs_cons h1 h2 (by rw [assign_plain hs]; rfl)).imp fun vs σ H Q ⟨δ, st, Z, ms, ds, δ', R, h, e, q⟩ => by
    cases h with
    | nil => cases e
    | cons hv hr =>
      simp only [bindT.binds, Option.bind_eq_some_iff] at e
      obtain ⟨δ1, e1, e2⟩ := e
      exact ⟨_, _, rfl, δ, st, Z, ms, _, δ1, R, hv, e1, fun σ1 R1 o1 k1 => ⟨δ1, st, Z, ms, _, δ', R1, hr, e2, fun σ2 R2 o2 k2 => q σ2 R2 (o1.trans o2) (k1.trans k2)⟩⟩
theorem sg_tup {ts : List T} {k : Nat} (hK : X.K = Y.K) (hc : X.calm = true) (h : PGs X es (GTs Y O ts)) (hs : NoStar es) (hl : ts.length = es.length) : PG X (.Tuple es k pos) (GT Y O (.tu ts)) := by
  obtain ⟨l1, l2⟩ := assign_len (env := X.env) hs
  have blen : ∀ {ts : List T} {ds : List D} {δ δ' : Fr}, bindT.binds ts ds δ = some δ' → ds.length = ts.length := by
    intro ts
    induction ts with
    | nil => intro ds δ δ' e; cases ds <;> cases e; rfl
    | cons t r ih =>
      intro ds δ δ' e
      cases ds with
      | nil => cases e
      | cons d ds =>
        simp only [bindT.binds, Option.bind_eq_some_iff] at e
        obtain ⟨δ1, e1, e2⟩ := e
        rw [List.length_cons, List.length_cons, ih e2]
  refine ⟨fun pins s σ H v u Q I r ⟨δ, st, Z, ms, d, δ', R, hd, e, q⟩ => ?_⟩
  unfold bindT at e
  cases e1 : rowOf d with
  | none => rw [e1] at e; cases e
  | some ds =>
    rw [e1] at e
    obtain ⟨p, xs, rfl, rr, ⟨rfl, q1⟩ | ⟨rfl, q1⟩⟩ := rowOf_some (.inl hd) e1
    · exact (pg_lst (n := es.length) hc h l1 l2).run pins s σ H _ u Q I r ⟨p, xs, rfl, SqL.of q1, by rw [rr.length, blen e, hl], δ, st, Z, ms, ds, δ', R, rr, e, q⟩
    · exact (pg_tup (n := es.length) hc h l1 l2).run pins s σ H _ u Q I r ⟨p, xs, rfl, by rw [hK]; exact q1, by rw [rr.length, blen e, hl], δ, st, Z, ms, ds, δ', R, rr, e, q⟩

/-! ### comprehensions -/
abbrev W0 : WX := fun _ _ _ _ => False
/-- the list that a comprehension makes -/
def VAcc (Y : Cfg) (Hs : Hp) : VRel (List D) Addr := fun Z ms H p r => ∃ xs, H p = some (.lst xs) ∧ Hs p = none ∧ ¬ Z p ∧ ¬ Spc Y ms p ∧ DenL Y Z ms H xs r
theorem post_nox {Hs : Hp} {m : M (List D)} (P : Post Y Wx (VFr Y Hs) σ Z ms H st (M.bind (M.nox m) (fun r => M.pure (D.lst r)) st) Q) : Post Y W0 (VAcc Y Hs) σ Z ms H st (m st) (fun p H => Q (.ref p) H) := by
  unfold M.bind M.nox at P
  cases e : m st with
  | ok r st' =>
    rw [e] at P
    intro p H' Z' ms' s q
    obtain ⟨xs, h1, h2, h3, h4, h5⟩ := q
    exact P _ H' Z' ms' s ⟨p, xs, r, rfl, rfl, h1, h2, h3, h4, h5⟩
  | exn c fs st' => rw [e] at P; exact (show False from P).elim
  | bad => rw [e] at P; exact (show False from P).elim
/-- the list at p, being made -/
structure Acc (Y : Cfg) (Z : Zs) (ms : List Addr) (H : Hp) (p : Addr) (acc : List D) : Prop where
  ex : ∃ xs, H p = some (.lst xs) ∧ DenL Y Z ms H xs acc
  nz : ¬ Z p
  ns : ¬ Spc Y ms p
theorem Acc.step {p : Addr} {acc : List D} (A : Acc Y Z ms H p acc) (k : StOk Y Z ms H st) (s : Step Y Z ms H Z1 ms1 H1 st1) : Acc Y Z1 ms1 H1 p acc := by
  obtain ⟨xs, h1, h2⟩ := A.ex
  have hn : H p ≠ none := by rw [h1]; simp
  refine ⟨⟨xs, s.kp p _ h1 A.ns, s.denL k h2⟩, fun z => ?_, fun q => ?_⟩
  · rcases s.zn p z with z | z
    · exact A.nz z
    · exact hn z
  · rcases q with q | q
    · rcases s.mn p q with q | q
      · exact A.ns (.inl q)
      · exact hn q
    · exact A.ns (.inr q)
/-- a list that is not frozen is changed -/
theorem StOk.change' {p : Addr} {o u0 : HO} (k : StOk Y Z ms H st) (hp : H p = some u0) (hu : ∀ d q, u0 ≠ LamX.CodeO d q) (nz : ¬ Z p) (ns : ¬ Spc Y ms p) : StOk Y Z ms (upd H p o) st := by
  have ne : ∀ x, Z x → x ≠ p := fun x z e => nz (e ▸ z)
  have nq : ∀ x, Spc Y ms x → x ≠ p := fun x z e => ns (e ▸ z)
  refine ⟨fun x z => by rw [upd_ne (ne x z)]; exact k.zdom x z, k.len, fun n c x e1 e2 => ?_, k.nd, k.zs, k.mt, fun q hq => ?_⟩
  · exact (k.cells n c x e1 e2).imp (upd_ne (nq x (.inl (List.mem_of_getElem? e2)))) fun xs ds r => r.mono (fun _ z => z) List.prefix_rfl fun y o z e => by rw [upd_ne (ne y z)]; exact e
  · obtain ⟨ps, e1, e2, e3⟩ := k.tabs q hq
    refine ⟨ps, by rw [upd_ne (nq _ (.inr (List.mem_map_of_mem hq)))]; exact e1, e2, fun pos cv e => ?_⟩
    obtain ⟨c, h1, h2⟩ := e3 pos cv e
    refine ⟨c, h1, ?_⟩
    have n : c ≠ p := fun z => by
      rw [z, hp] at h2
      exact hu _ _ (Option.some.inj h2)
    rw [upd_ne n]
    exact h2
theorem lst_noCode {xs : List V} : ∀ d q, HO.lst xs ≠ LamX.CodeO d q := fun _ _ z => by unfold LamX.CodeO at z; cases z
theorem dK_noCode {xs : List (Key × V)} : ∀ d q, HO.dK xs ≠ LamX.CodeO d q := fun _ _ z => by unfold LamX.CodeO at z; cases z
theorem StOk.change {p : Addr} {o : HO} {xs : List V} (k : StOk Y Z ms H st) (hp : H p = some (.lst xs)) (nz : ¬ Z p) (ns : ¬ Spc Y ms p) : StOk Y Z ms (upd H p o) st := k.change' hp lst_noCode nz ns
theorem zne {p y : Addr} (nz : ¬ Z p) (z : Z y) : y ≠ p := fun e => nz (e ▸ z)
theorem den_change {p : Addr} {o : HO} (nz : ¬ Z p) {xs : List V} {ds : List D} (h : DenL Y Z ms H xs ds) : DenL Y Z ms (upd H p o) xs ds :=
  h.mono (fun _ z => z) List.prefix_rfl fun y o z e => by rw [upd_ne (zne nz z)]; exact e
theorem den_change1 {p : Addr} {o : HO} (nz : ¬ Z p) {v : V} {d : D} (h : Den Y Z ms H v d) : Den Y Z ms (upd H p o) v d :=
  h.mono (fun _ z => z) List.prefix_rfl fun y o z e => by rw [upd_ne (zne nz z)]; exact e
/-- .. seen from a state that had nothing there -/
theorem Step.change {p : Addr} {o : HO} {xs : List V} (s : Step Y Z ms H Z1 ms1 H1 st1) (hp0 : H p = none) (hp : H1 p = some (.lst xs)) (nz : ¬ Z1 p) (ns : ¬ Spc Y ms1 p) : Step Y Z ms H Z1 ms1 (upd H1 p o) st1 :=
  ⟨s.ok.change hp nz ns, s.zz, s.zn, s.mm, s.mn, fun a u e q => by rw [upd_ne (ne_of_none e hp0)]; exact s.kp a u e q⟩
theorem Step.change' {p : Addr} {o u0 : HO} (s : Step Y Z ms H Z1 ms1 H1 st1) (hp0 : H p = none) (hp : H1 p = some u0) (hu : ∀ d q, u0 ≠ LamX.CodeO d q) (nz : ¬ Z1 p) (ns : ¬ Spc Y ms1 p) : Step Y Z ms H Z1 ms1 (upd H1 p o) st1 :=
  ⟨s.ok.change' hp hu nz ns, s.zz, s.zn, s.mm, s.mn, fun a u e q => by rw [upd_ne (ne_of_none e hp0)]; exact s.kp a u e q⟩
theorem Rel.change {p : Addr} {o : HO} {xs : List V} (R : Rel Y O Z ms δ σ H st) (h0 : O.H0 p = none) (hp : H p = some (.lst xs)) (nz : ¬ Z p) (ns : ¬ Spc Y ms p) (no : ∀ (i : Nat) ds, δ[i]? = some (some (.ow ds)) → σ[i]? ≠ some (some (.ref p))) :
    Rel Y O Z ms δ σ (upd H p o) st := by
  refine ⟨R.k0, R.base.change h0 hp nz ns, R.len, fun i sl e => ?_, R.inj⟩
  obtain ⟨x, ex, r⟩ := R.slots i sl e
  refine ⟨x, ex, ?_⟩
  cases sl with
  | sh d => obtain ⟨v, e1, q⟩ := r; exact ⟨v, e1, den_change1 nz q⟩
  | ow ds =>
    obtain ⟨a, ys, rfl, e2, e3, e4, e5, e6⟩ := r
    have n : a ≠ p := fun z => no i ds e (by rw [ex, z])
    exact ⟨a, ys, rfl, by rw [upd_ne n]; exact e2, e3, e4, e5, den_change nz e6⟩
  | thk => exact r
  | exc C fs =>
    obtain ⟨r1, ⟨vs, a, z, b, c⟩, r2⟩ := r
    refine ⟨r1, ⟨vs, ?_, z, b, den_change nz c⟩, r2⟩
    rw [upd_ne (zne nz z)]
    exact a
theorem wipe_wipe (σ : L2.St) (vs : List Nat) : L2.wipe (L2.wipe σ vs) vs = L2.wipe σ vs := by
  refine List.ext_getElem? fun j => ?_
  rw [wipe_get, wipe_get, wipe_length]
  split <;> rfl
def bodyM (t : T) (mt : Fr → M Bool) (rest : Fr → List D → M (List D)) : D → Fr → List D → M (List D) := fun d δ acc =>
  M.bind (M.of (bindT t d δ)) fun δ' => M.bind (mt δ') fun c => if c = true then rest δ' acc else M.pure acc
section
variable {Za : Zs} {msa : List Addr} {Ha Hs : Hp} {sta : Store} {σa : L2.St} {α : Type} {p : Addr} {acc : List D} {QA : Addr → Hp → Prop} {σw : L2.St} {δw : Fr}
/-- as rg_seq, what is wanted at the end kept as it was said of an earlier state -/
theorem rg_seqA {α β : Type} {VR0 : VRel (List D) Addr} {VR : VRel α β} {m : Fr → M α} {k : α → M (List D)} {Q : β → Hp → Prop} (s0 : Step Y Za msa Ha Z ms H st) (k0 : StOk Y Za msa Ha sta) (R : Rel Y O Z ms δ σ H st) (P : Post Y W0 VR0 σa Za msa Ha sta (M.bind (m δ) k st) QA)
    (h : ∀ a st1 v H1 Z1 ms1, Step Y Z ms H Z1 ms1 H1 st1 → VR Z1 ms1 H1 v a → Post Y W0 VR0 σa Za msa Ha sta (k a st1) QA → Q v H1) : RG Y O W0 VR m σ H Q := by
  refine ⟨δ, st, Z, ms, R, ?_⟩
  unfold M.bind at P
  cases e : m δ st with
  | ok a st' =>
    rw [e] at P
    exact fun v H' Z' ms' s q => h a st' v H' Z' ms' s q P
  | exn c fs st' => rw [e] at P; exact fun d H' Z' ms' s q => P d H' Z' ms' (s0.trans s k0) q
  | bad => rw [e] at P; exact P
theorem pb_of {β : Type} {VR0 : VRel (List D) Addr} {o : Option β} {k : β → M (List D)} (P : Post Y W0 VR0 σa Za msa Ha sta (M.bind (M.of o) k st) QA) : ∃ x, o = some x ∧ Post Y W0 VR0 σa Za msa Ha sta (k x st) QA := by
  cases o with
  | none => exact P.elim
  | some x => exact ⟨x, rfl, P⟩
/-- a turn of a clause: its target, its tests -/
theorem g_turn {VR0 : VRel (List D) Addr} {t : T} {mt : Fr → M Bool} {rest : Fr → List D → M (List D)} {k : List D → M (List D)} {vs : List Nat} {d : D} {x : V} {Yes : L2.St → Hp → Prop} {No : Hp → Prop} {w : L2.St} (hw : L2.wipe σw vs = w)
    (s0 : Step Y Za msa Ha Z ms H st) (k0 : StOk Y Za msa Ha sta) (R : Rel Y O Z ms δw σw H st) (hx : Den Y Z ms H x d) (P : Post Y W0 VR0 σa Za msa Ha sta (M.bind (bodyM t mt rest d δw acc) k st) QA) (hsl : ∀ i ∈ t.slots, i ∈ vs)
    (hyes : ∀ Z' ms' st' δ' σ2 H3, Step Y Z ms H Z' ms' H3 st' → Rel Y O Z' ms' δ' σ2 H3 st' → Keep δw δ' σw σ2 → Post Y W0 VR0 σa Za msa Ha sta (M.bind (rest δ' acc) k st') QA → Yes σ2 H3)
    (hno : ∀ Z' ms' st' H3, Step Y Z ms H Z' ms' H3 st' → Post Y W0 VR0 σa Za msa Ha sta (k acc st') QA → No H3) :
    GT Y O t x σw H fun σ2 H2 => L2.wipe σ2 vs = w ∧ RT Y O W0 mt σ2 H2 fun b H3 => if b = true then Yes σ2 H3 else No H3 := by
  unfold bodyM at P
  rw [bind_assoc'] at P
  obtain ⟨δ', e, P1⟩ := pb_of P
  refine ⟨δw, st, Z, ms, d, δ', R, hx, e, fun σ2 R2 o2 k2 => ⟨(o2.wipe hsl).trans hw, ?_⟩⟩
  rw [bind_assoc'] at P1
  refine rg_seqA s0 k0 R2 P1 fun b st1 v H1 Z1 ms1 s1 vb P2 => ?_
  cases vb
  cases b with
  | true => rw [if_pos rfl]; exact hyes Z1 ms1 st1 δ' σ2 H1 s1 (R2.step s1) k2 P2
  | false => rw [if_neg (by simp)]; exact hno Z1 ms1 st1 H1 s1 P2
theorem g_leaf {me : Ev} {k : List D → M (List D)} {Nx : Hp → Prop} (s0 : Step Y Za msa Ha Z ms H st) (k0 : StOk Y Za msa Ha sta) (R : Rel Y O Z ms δ σ H st) (hp : Ha p = none) (A : Acc Y Z ms H p acc)
    (P : Post Y W0 (VAcc Y Hs) σa Za msa Ha sta (M.bind (leafM me δ acc) k st) QA)
    (hnx : ∀ Z' ms' st' H4 xs y d, Step Y Z ms H Z' ms' H4 st' → H4 p = some (.lst xs) → ¬ Z' p → ¬ Spc Y ms' p → Step Y Za msa Ha Z' ms' (upd H4 p (.lst (xs ++ [y]))) st' → Acc Y Z' ms' (upd H4 p (.lst (xs ++ [y]))) p (acc ++ [d]) →
      Post Y W0 (VAcc Y Hs) σa Za msa Ha sta (k (acc ++ [d]) st') QA → Nx (upd H4 p (.lst (xs ++ [y])))) :
    RE Y O W0 me σ H fun y H4 => ∃ acc', H4 p = some (.lst acc') ∧ acc'.length < sizeLine ∧ Nx (upd H4 p (.lst (acc' ++ [y]))) := by
  unfold leafM at P
  rw [bind_assoc'] at P
  refine rg_seqA s0 k0 R P fun d st1 y H4 Z1 ms1 s1 vy P2 => ?_
  rw [bind_assoc'] at P2
  have g : acc.length < sizeLine ∧ Post Y W0 (VAcc Y Hs) σa Za msa Ha sta (k (acc ++ [d]) st1) QA := by
    by_cases hz : acc.length < sizeLine
    · refine ⟨hz, ?_⟩
      simp only [M.guard, hz, decide_true, if_true] at P2
      exact P2
    · simp only [M.guard, hz, decide_false] at P2
      exact P2.elim
  have A1 := A.step R.ok s1
  obtain ⟨xs, h1, h2⟩ := A1.ex
  refine ⟨xs, h1, by rw [h2.length]; exact g.1, hnx Z1 ms1 st1 H4 xs y d s1 h1 A1.nz A1.ns ((s0.trans s1 k0).change hp h1 A1.nz A1.ns) ⟨⟨_, upd_same, ?_⟩, A1.nz, A1.ns⟩ g.2⟩
  exact (den_change A1.nz h2).append (.cons (den_change1 A1.nz vy) .nil)
end
theorem drop_at {items : List D} {i : Nat} (h : i < items.length) : ∃ d, items[i]? = some d ∧ items.drop i = d :: items.drop (i + 1) := ⟨items[i], by simp [h], by rw [List.drop_eq_getElem_cons h]⟩
/-- a loop stands at i, m turns to go -/
structure AtTurn (Y : Cfg) (Za : Zs) (msa : List Addr) (Ha : Hp) (sta : Store) (σa : L2.St) (Hs : Hp) (p : Addr) (QA : Addr → Hp → Prop) (rest : Nat → List D → M (List D)) (n : Nat) (i m : Nat) (H' : Hp) : Prop where
  turns : m + i = n
  at_ : ∃ Z' ms' st' acc, Step Y Za msa Ha Z' ms' H' st' ∧ Acc Y Z' ms' H' p acc ∧ Post Y W0 (VAcc Y Hs) σa Za msa Ha sta (rest i acc st') QA
theorem lc_read {t : T} {mi : Fr → M (List D)} {mt : Fr → M Bool} {me : Ev} {vs : List Nat} (hsl : ∀ i ∈ t.slots, i ∈ vs)
    (h : RF Y O Wx (fun δ => M.bind (mi δ) fun items => M.bind (M.nox (foldG (bodyM t mt (leafM me)) (wipeF δ vs) items [])) fun r => M.pure (.lst r)) σ H Q) :
    tLc (RI true Y O Wx mi) (GT Y O t) (RT Y O W0 mt) (RE Y O W0 me) vs σ H Q := by
  obtain ⟨δ, st, Z, ms, R, P⟩ := h
  refine rg_seq R P fun items st1 J H1 Z1 ms1 s1 R1 wd P1 D hD => ?_
  have P2 := post_nox P1
  have k1 := R1.ok
  have nD := k1.free hD
  refine ⟨AtTurn Y Z1 ms1 H1 st1 σ H D (fun p H => Q (.ref p) H) (fun i acc => foldG (bodyM t mt (leafM me)) (wipeF δ vs) (items.drop i) acc) items.length,
    ⟨items.length, by omega, Z1, ms1, st1, [], Step.laid k1 hD, ⟨⟨[], upd_same, .nil⟩, nD.2, nD.1⟩, P2⟩, ?_⟩
  rintro i m H' ⟨hm, Z', ms', st', acc, s', A, P'⟩
  obtain ⟨w1, w2⟩ := wd Z' ms' H' st' (by unfold Tr; rw [if_pos rfl]; exact s')
  cases m with
  | zero =>
    have hi : i = items.length := by omega
    subst hi
    rw [List.drop_length] at P'
    refine .inl ⟨w1, ?_⟩
    obtain ⟨xs, h1, h2⟩ := A.ex
    exact P' D H' Z' ms' s' ⟨xs, h1, s1.back R.ok D hD, A.nz, A.ns, h2⟩
  | succ m =>
    obtain ⟨d, e1, e2⟩ := drop_at (items := items) (i := i) (by omega)
    rw [e2] at P'
    obtain ⟨g1, g2⟩ := w2 i d e1
    refine .inr ⟨g1, _, fun H' q => ⟨m, Nat.lt_succ_self m, q⟩, fun x H3 y => ?_⟩
    obtain ⟨Z3, s3, hx⟩ := g2 x H3 y
    have sa := s'.trans s3 k1
    have Rw : Rel Y O Z3 ms' (wipeF δ vs) (L2.wipe σ vs) H3 st' := (R1.wipe vs).step sa
    have A3 := A.step s'.ok s3
    refine g_turn (vs := vs) (wipe_wipe σ vs) sa k1 Rw hx P' hsl (fun Z4 ms4 st4 δ4 σ4 H4 s4 R4 _ P4 => ?_) fun Z4 ms4 st4 H4 s4 P4 => ?_
    · exact g_leaf (sa.trans s4 k1) k1 R4 hD (A3.step s3.ok s4) P4 fun Z5 ms5 st5 H5 xs y d s5 _ _ _ sb A5 P5 => ⟨by omega, Z5, ms5, st5, _, sb, A5, P5⟩
    · exact ⟨by omega, Z4, ms4, st4, acc, sa.trans s4 k1, A3.step s3.ok s4, P4⟩
/-- no name alone holds p -/
def Nown (p : Addr) (δ : Fr) (σ : L2.St) : Prop := ∀ (i : Nat) ds, δ[i]? = some (some (.ow ds)) → σ[i]? ≠ some (some (.ref p))
theorem Nown.keep {p : Addr} {δ' : Fr} {σ' : L2.St} (n : Nown p δ σ) (k : Keep δ δ' σ σ') : Nown p δ' σ' := fun i ds e =>
  let ⟨h1, h2⟩ := k i ds e
  h2 ▸ n i ds h1
theorem Rel.nown {p : Addr} (R : Rel Y O Z ms δ σ H st) (hp : H p = none) : Nown p δ σ := fun i ds e q => by
  obtain ⟨x, ex, a, xs, e1, e2, _⟩ := R.slots i _ e
  rw [ex, e1] at q
  cases q
  rw [hp] at e2
  cases e2
theorem keep_wipe (R : Rel Y O Z ms δ σ H st) (vs : List Nat) : Keep δ (wipeF δ vs) σ (L2.wipe σ vs) := fun i ds e => by
  rw [wipeF_get] at e
  split at e
  · cases e
  · rename_i h
    exact ⟨e, by rw [wipe_get, ← R.len, if_neg h]⟩
theorem StepZ.change {p : Addr} {o : HO} {xs : List V} (s : StepZ Y Z ms H Z1 ms1 H1 st1) (hp : H1 p = some (.lst xs)) (nz : ¬ Z1 p) (ns : ¬ Spc Y ms1 p) : StepZ Y Z ms H Z1 ms1 (upd H1 p o) st1 :=
  ⟨s.ok.change hp nz ns, s.zz, s.mm, fun a u z e => by rw [upd_ne (zne nz (s.zz a z))]; exact s.kz a u z e⟩
/-- .. of an inner loop -/
structure AtTurn1 (Y : Cfg) (O : Own) (Za : Zs) (msa : List Addr) (Ha : Hp) (sta : Store) (σa : L2.St) (Hs : Hp) (Zb : Zs) (msb : List Addr) (Hb : Hp) (δb : Fr) (σb : L2.St) (p : Addr) (QA : Addr → Hp → Prop) (rest : Nat → List D → M (List D)) (n : Nat) (i m : Nat) (H' : Hp) : Prop where
  turns : m + i = n
  at_ : ∃ Z' ms' st' acc, Step Y Za msa Ha Z' ms' H' st' ∧ StepZ Y Zb msb Hb Z' ms' H' st' ∧ Rel Y O Z' ms' δb σb H' st' ∧ Acc Y Z' ms' H' p acc ∧ Post Y W0 (VAcc Y Hs) σa Za msa Ha sta (rest i acc st') QA
theorem foldG_cons (b : D → Fr → List D → M (List D)) (δ : Fr) (d : D) (ds acc : List D) : foldG b δ (d :: ds) acc = M.bind (b d δ acc) fun acc' => foldG b δ ds acc' := rfl
theorem bind_pure' {α β : Type} (a : α) (f : α → M β) : M.bind (M.pure a) f = f a := rfl
theorem lc2_read {t t1 : T} {mi mi1 : Fr → M (List D)} {mt mt1 : Fr → M Bool} {me : Ev} {vs vs1 : List Nat} (hsl : ∀ i ∈ t.slots, i ∈ vs) (hsl1 : ∀ i ∈ t1.slots, i ∈ vs1)
    (h : RF Y O Wx (fun δ => M.bind (mi δ) fun items => M.bind (M.nox (foldG (bodyM t mt fun δ acc => M.bind (mi1 δ) fun items1 => foldG (bodyM t1 mt1 (leafM me)) (wipeF δ vs1) items1 acc) (wipeF δ vs) items [])) fun r => M.pure (.lst r)) σ H Q) :
    tLc2 (RI true Y O Wx mi) (GT Y O t) (RT Y O W0 mt) (RI false Y O W0 mi1) (GT Y O t1) (RT Y O W0 mt1) (RE Y O W0 me) vs vs1 σ H Q := by
  obtain ⟨δ, st, Z, ms, R, P⟩ := h
  refine rg_seq R P fun items st1 J H1 Z1 ms1 s1 R1 wd P1 D hD => ?_
  have P2 := post_nox P1
  clear P P1
  generalize hb0 : (bodyM t mt fun δ acc => M.bind (mi1 δ) fun items1 => foldG (bodyM t1 mt1 (leafM me)) (wipeF δ vs1) items1 acc) = b0 at P2
  have k1 := R1.ok
  have nD := k1.free hD
  refine ⟨AtTurn Y Z1 ms1 H1 st1 σ H D (fun p H => Q (.ref p) H) (fun i acc => foldG b0 (wipeF δ vs) (items.drop i) acc) items.length,
    ⟨items.length, by omega, Z1, ms1, st1, [], Step.laid k1 hD, ⟨⟨[], upd_same, .nil⟩, nD.2, nD.1⟩, P2⟩, ?_⟩
  rintro i m H' ⟨hm, Z', ms', st', acc, s', A, P'⟩
  obtain ⟨w1, w2⟩ := wd Z' ms' H' st' (by unfold Tr; rw [if_pos rfl]; exact s')
  cases m with
  | zero =>
    have hi : i = items.length := by omega
    subst hi
    rw [List.drop_length] at P'
    refine .inl ⟨w1, ?_⟩
    obtain ⟨xs, h1, h2⟩ := A.ex
    exact P' D H' Z' ms' s' ⟨xs, h1, s1.back R.ok D hD, A.nz, A.ns, h2⟩
  | succ m =>
    obtain ⟨d, e1, e2⟩ := drop_at (items := items) (i := i) (by omega)
    rw [e2] at P'
    obtain ⟨g1, g2⟩ := w2 i d e1
    refine .inr ⟨g1, _, fun H' q => ⟨m, Nat.lt_succ_self m, q⟩, fun x H3 y => ?_⟩
    obtain ⟨Z3, s3, hx⟩ := g2 x H3 y
    have sa := s'.trans s3 k1
    have Rw : Rel Y O Z3 ms' (wipeF δ vs) (L2.wipe σ vs) H3 st' := (R1.wipe vs).step sa
    have A3 := A.step s'.ok s3
    have P'' : Post Y W0 (VAcc Y H) σ Z1 ms1 H1 st1 (M.bind (b0 d (wipeF δ vs) acc) (fun acc' => foldG b0 (wipeF δ vs) (items.drop (i + 1)) acc') st') (fun p H => Q (.ref p) H) := P'
    rw [← hb0] at P''
    rw [hb0] at P''
    have nw : Nown D (wipeF δ vs) (L2.wipe σ vs) := (R1.nown hD).keep (keep_wipe R1 vs)
    have h0 : O.H0 D = none := R1.base.back R1.k0 D hD
    subst hb0
    refine g_turn (vs := vs) (wipe_wipe σ vs) sa k1 Rw hx P'' hsl (fun Z4 ms4 st4 δ4 σ4 H4 s4 R4 kp4 P4 => ?_) fun Z4 ms4 st4 H4 s4 P4 => ?_
    · -- the inner loop
      have A4 := A3.step s3.ok s4
      have sb := sa.trans s4 k1
      rw [bind_assoc'] at P4
      refine rg_seqA sb k1 R4 P4 fun items1 st5 J1 H5 Z5 ms5 s5 wd1 P5 => ?_
      have R5 := R4.step s5
      have A5 := A4.step R4.ok s5
      have sc := sb.trans s5 k1
      have nw4 : Nown D (wipeF δ4 vs1) (L2.wipe σ4 vs1) := (nw.keep kp4).keep (keep_wipe R4 vs1)
      refine ⟨AtTurn1 Y O Z1 ms1 H1 st1 σ H Z5 ms5 H5 (wipeF δ4 vs1) (L2.wipe σ4 vs1) D (fun p H => Q (.ref p) H)
        (fun j acc => M.bind (foldG (bodyM t1 mt1 (leafM me)) (wipeF δ4 vs1) (items1.drop j) acc) fun acc' => foldG (bodyM t mt fun δ acc => M.bind (mi1 δ) fun items1 => foldG (bodyM t1 mt1 (leafM me)) (wipeF δ vs1) items1 acc) (wipeF δ vs) (items.drop (i + 1)) acc') items1.length,
        ⟨items1.length, by omega, Z5, ms5, st5, acc, sc, StepZ.refl R5.ok, R5.wipe vs1, A5, P5⟩, ?_⟩
      rintro j k H6 ⟨hk, Z6, ms6, st6, acc6, s6, z6, R6, A6, P6⟩
      obtain ⟨v1, v2⟩ := wd1 Z6 ms6 H6 st6 (by unfold Tr; rw [if_neg (by simp)]; exact z6)
      cases k with
      | zero =>
        have hj : j = items1.length := by omega
        subst hj
        rw [List.drop_length] at P6
        exact .inl ⟨v1, ⟨by omega, Z6, ms6, st6, acc6, s6, A6, P6⟩⟩
      | succ k =>
        obtain ⟨d1, e3, e4⟩ := drop_at (items := items1) (i := j) (by omega)
        rw [e4] at P6
        have P6' := P6
        rw [foldG_cons, bind_assoc'] at P6'
        obtain ⟨g3, g4⟩ := v2 j d1 e3
        refine .inr ⟨g3, _, fun H' q => ⟨k, Nat.lt_succ_self k, q⟩, fun x1 H7 y1 => ?_⟩
        obtain ⟨Z7, s7, hx1⟩ := g4 x1 H7 y1
        have sd := s6.trans s7 k1
        have A7 := A6.step s6.ok s7
        have R7 := R6.step s7
        have z7 := z6.trans (s7.z s6.ok)
        refine g_turn (vs := vs1) (wipe_wipe σ4 vs1) sd k1 R7 hx1 P6' hsl1 (fun Z8 ms8 st8 δ8 σ8 H8 s8 R8 _ P8 => ?_) fun Z8 ms8 st8 H8 s8 P8 => ?_
        · refine g_leaf (sd.trans s8 k1) k1 R8 hD (A7.step s7.ok s8) P8 fun Z9 ms9 st9 H9 xs y d s9 h9 n1 n2 sb9 A9 P9 => ⟨by omega, Z9, ms9, st9, _, sb9, ?_, ?_, A9, P9⟩
          · exact ((z7.trans (s8.z s7.ok)).trans (s9.z s8.ok)).change h9 n1 n2
          · exact ((R7.step s8).step s9).change h0 h9 n1 n2 nw4
        · exact ⟨by omega, Z8, ms8, st8, acc6, sd.trans s8 k1, z7.trans (s8.z s7.ok), R7.step s8, A7.step s7.ok s8, P8⟩
    · exact ⟨by omega, Z4, ms4, st4, acc, sa.trans s4 k1, A3.step s3.ok s4, P4⟩

/-! tests of a clause -/
theorem sts_nil : PTs X [] (RT Y O Wx fun _ => M.pure true) := ⟨fun pins s σ H Q I ⟨δ, st, Z, ms, R, P⟩ => pts_nil.run pins s σ H Q I (Post.pure' (VR := VE) P R.ok rfl)⟩
theorem sts_one {mt : Fr → M Bool} (h : PT X a (RT Y O Wx mt)) : PTs X [a] (RT Y O Wx fun δ => M.bind (mt δ) fun b => if b = true then M.pure true else M.pure false) := ⟨fun pins s σ H Q I h' => (pts_one h).run pins s σ H Q I <| by
  obtain ⟨δ, st, Z, ms, R, P⟩ := h'
  exact rg_seq R P fun b st1 v H1 Z1 ms1 s1 R1 vb P1 => by
    cases vb
    cases b with
    | true => exact Post.pure' (VR := VE) P1 R1.ok rfl
    | false => exact Post.pure' (VR := VE) P1 R1.ok rfl⟩
end Sw

set_option Elab.async false
set_option linter.all false
set_option maxRecDepth 100000
/-! Sw, part R: a tuple's items from the last to the first, t[::-1]. -/
namespace Sw
open PySem PySem.Spec PyProof.Rows L2
section
variable {prog : Program} {w : World} {A : Around} {E : Value → Shared → Prop} {s : Shared}
theorem back_adjust (n : Nat) : Builtin.Slice.sliceAdjust none none (-1) (n : Int) = ((n : Int) - 1, -1) := by
  simp [Builtin.Slice.sliceAdjust]
theorem back_places (n : Nat) : Builtin.Slice.slicePlaces ((n : Int) - 1) (-1) (-1) = n := by
  unfold Builtin.Slice.slicePlaces
  by_cases h : n = 0
  · subst h; decide
  · have e1 : ¬ ((-1 : Int) > 0) := by omega
    have e2 : (n : Int) - 1 > -1 := by omega
    simp only [e1, if_false, e2, if_true]
    have e3 : -(-1 : Int) = 1 := by omega
    rw [e3, Int.ediv_one]
    omega
theorem fm_congr {α β : Type} {f g : α → Option β} : ∀ {l : List α}, (∀ x ∈ l, f x = g x) → l.filterMap f = l.filterMap g
  | [], _ => rfl
  | a :: l, h => by
    rw [List.filterMap_cons, List.filterMap_cons, h a List.mem_cons_self, fm_congr fun x hx => h x (List.mem_cons_of_mem _ hx)]
theorem back_pick (xs : Array Value) : ((List.range xs.size).filterMap fun (m : Nat) => xs[((xs.size : Int) - 1 + (m : Int) * (-1)).toNat]?).toArray = xs.toList.reverse.toArray := by
  congr 1
  have e : ∀ m ∈ List.range xs.size, xs[((xs.size : Int) - 1 + (m : Int) * (-1)).toNat]? = some (xs.toList.reverse.getD m .none) := fun m hm => by
    have hm := List.mem_range.mp hm
    have e1 : ((xs.size : Int) - 1 + (m : Int) * (-1)).toNat = xs.size - 1 - m := by omega
    have h2 : xs.size - 1 - m < xs.size := by omega
    rw [e1, List.getD_eq_getElem?_getD, List.getElem?_reverse (by simpa using hm), Array.length_toList, Array.getElem?_toList]
    rw [Array.getElem?_eq_getElem h2]
    rfl
  rw [show (List.range xs.size).filterMap (fun (m : Nat) => xs[((xs.size : Int) - 1 + (m : Int) * (-1)).toNat]?) = (List.range xs.size).filterMap (fun m => some (xs.toList.reverse.getD m .none)) from fm_congr e]
  refine List.ext_getElem? fun i => ?_
  rw [List.filterMap_eq_map', List.getElem?_map]
  by_cases hi : i < xs.size
  · rw [List.getElem?_range hi]
    have hl : i < xs.toList.reverse.length := by simpa using hi
    rw [Option.map_some, List.getD_eq_getElem?_getD, List.getElem?_eq_getElem hl]
    rfl
  · rw [List.getElem?_eq_none (by simpa using hi), List.getElem?_eq_none (by simpa using hi)]
    rfl
theorem applied_back {sl : Addr} {vs : Value} {n : Nat} {Q : Int × Int × Nat → Shared → Prop} (hs : s.heap.IsSliceOf sl .none .none vs) (ps : IsPart vs (some (-1))) (h : Q ((n : Int) - 1, -1, n) s) :
    wpAny (model prog w) A (Builtin.Slice.sliceApplied (.ref sl) (pure (n : Int))) Q E s := by
  obtain ⟨so, ho, hc, hd⟩ := id hs
  unfold Builtin.Slice.sliceApplied Builtin.Slice.sliceFields
  refine wpAny_bind (wpAny_bind (wpAny_field ho hd (x := .none) rfl (wpAny_bind (wpAny_field ho hd (x := .none) rfl (wpAny_bind (wpAny_field ho hd (x := vs) rfl (wpAny_pure ?_)))))))
  refine wpAny_bind (HT.slicePart_ ps ?_)
  show wpAny _ _ (if ((-1 : Int) == 0) = true then _ else _) _ _ s
  rw [if_neg (by decide)]
  refine wpAny_bind (slicePart_none (wpAny_bind (slicePart_none (wpAny_bind (wpAny_pure ?_)))))
  show wpAny _ _ (match Builtin.Slice.sliceAdjust none none (-1) (n : Int) with | (lo, hi) => pure (lo, (-1 : Int), Builtin.Slice.slicePlaces lo hi (-1))) _ _ s
  rw [back_adjust n]
  show wpAny _ _ (pure ((n : Int) - 1, (-1 : Int), Builtin.Slice.slicePlaces ((n : Int) - 1) (-1) (-1))) _ _ s
  rw [back_places]
  exact wpAny_pure h
theorem get_back {t sl : Addr} {its : Array Value} {vs : Value} {Q : Value → Shared → Prop} (ht : IsTup s.heap t its) (hs : s.heap.IsSliceOf sl .none .none vs) (ps : IsPart vs (some (-1)))
    (h : Q (.ref s.heap.objs.size) { s with heap := s.heap.push { cls := .type "tuple", data := .seq its.toList.reverse.toArray } }) (hz : its.size ≤ sizeLine) : wpAny (model prog w) A (getItem (.ref t) (.ref sl)) Q E s := by
  have fits : sizeOk (.seq its.toList.reverse.toArray) := by
    show its.toList.reverse.toArray.size ≤ sizeLine
    rw [List.size_toArray, List.length_reverse, Array.length_toList]
    exact hz
  obtain ⟨so, ho, hc, hd⟩ := id hs
  have hT : s.TypeIs (.ref sl) "slice" := ⟨so, ho, hc⟩
  unfold getItem
  (try with_reducible refine wpAny_holding ?_)
  (first | refine wpAny_bind (wpAny_pure ?_) | skip)
  refine wpAny_bind (wpAny_sequenceKey ht.typeIs (by decide) ?_)
  refine wpAny_bind (wpAny_callSpecial?_slot (name := Str.ofString "__getitem__") ht.typeIs slot_tuple_getitem (wpAny_call_entry slot_tuple_getitem ht.typeIs entry_tuple_getitem ?_ (args_tuple_getitem _ _)))
  show wpAny _ _ (Builtin.Tuple.tupleItemsOf (.ref t) >>= _) _ _ s
  refine wpAny_bind (tupleItemsOf_ ht (wpAny_bind (wpAny_typeOf hT ?_)))
  rw [if_pos (by decide)]
  refine wpAny_bind (applied_back hs ps ?_)
  show wpAny _ _ (if (((its.size : Int) - 1) == 0 && (-1 : Int) == 1 && its.size == its.size) = true then _ else _) _ _ s
  rw [if_neg (by simp), back_pick]
  first
    | exact wpAny_bind (m := Builtin.Tuple.tupleExact _) (wpAny_newObj_type (wpAny_pure ⟨_, rfl, wpAny_pure h⟩) fits)
    | exact wpAny_bind (m := Builtin.Tuple.tupleExact _) (wpAny_newObj_type (wpAny_bind (wpAny_pure (wpAny_pure ⟨_, rfl, wpAny_pure h⟩))) fits)
    | exact wpAny_bind (wpAny_bind (m := Builtin.Tuple.tupleExact _) (wpAny_newObj_type (wpAny_pure (wpAny_pure ⟨_, rfl, wpAny_pure h⟩)) fits))
    | exact wpAny_bind (wpAny_bind (m := Builtin.Tuple.tupleExact _) (wpAny_newObj_type (wpAny_pure ⟨_, rfl, wpAny_pure h⟩) fits))
end
section
variable {X : Cx} {Y : Cfg} {O : Own} {Wx : WX} {a : Expr} {ta : TE} {k : Nat} {p1 p2 p3 pos : Pos}
/-- the shape t[::-1] -/
abbrev backE (a : Expr) (k : Nat) (p1 p2 p3 pos : Pos) : Expr := .Subscript a (.Slice none none (some (.UnaryOp .USub (.Constant (.int 1) k p1) p2)) p3) pos
def tBackT (K : PySem.W.Frag) (ta : TE) : TE := fun σ H Q => ta σ H fun x H1 => ∃ t xs, x = .ref t ∧ SqT K H1 t xs ∧ ∀ p, H1 p = none → Q (.ref p) (upd H1 p (.tup xs.reverse))
theorem pe_backT (ha : PE X a ta) : PE X (backE a k p1 p2 p3 pos) (tBackT X.K ta) := by
  refine ⟨fun pins s σ H Q I h => Subscript_ (thn (ha.run pins s σ H _ I h) fun v s1 ⟨x, H1, I1, r1, t, xs, ex, hx, q⟩ => ?_)⟩
  subst ex
  cases r1
  have hst : PO X (some (.UnaryOp .USub (.Constant (.int 1) k p1) p2)) (tPart (tUn (rU fun i => .int (-i)) (tC (.int 1)))) := po_some (pe_un un_neg pe_int)
  refine wpAny_Slice (thn (po_none.run pins s1 σ H1 (fun o Hb => o = none ∧ Hb = H1) I1 ⟨rfl, rfl⟩) fun vl s2 ⟨l, H2, I2, pl, el, e2⟩ => ?_)
  subst el e2
  refine thn (po_none.run pins s2 σ H2 (fun o Hb => o = none ∧ Hb = H2) I2 ⟨rfl, rfl⟩) fun vu s3 ⟨u, H3, I3, pu, eu, e3⟩ => ?_
  subst eu e3
  refine thn (hst.run pins s3 σ H3 (fun o Hb => o = some (-1) ∧ Hb = H3) I3 ⟨1, rfl, -1, rfl, rfl, rfl⟩) fun vs s4 ⟨o, H4, I4, ps, eo, e4⟩ => ?_
  subst eo e4
  cases pl
  cases pu
  have I5 : Inv X pins σ H4 { s4 with heap := s4.heap.push { cls := .type "slice", data := .fields #[.none, .none, vs] } } := I4.kept (t' := s4.toks) fun b ob q => Heap.get?_push_of_some _ q
  obtain ⟨its, r, ht, hz⟩ := I5.tuple hx
  have hlen := r.length
  refine tail_any (ops := [.ref t, .ref s4.heap.objs.size]) ht.typeIs slot_tuple_getitem.lookup ?_ (by with_unfolding_all rfl)
  refine get_back ht (Heap.IsSliceOf.new _ .none .none vs) ps ?_ (by rw [List.size_toArray]; omega)
  rw [show its.toArray.toList = its from rfl]
  refine ⟨.ref _, _, I5.laid (t' := s4.toks) (o := .tup xs.reverse) (fun b ob q => Heap.get?_push_of_some _ q) (Nat.le_refl _) ?_, rfl, q _ (I5.hok.fresh (Nat.le_refl _))⟩
  exact ⟨by rw [List.length_reverse]; omega, its.reverse, r.reverse, ⟨_, Heap.get?_push_size _ rfl, rfl, _, rfl⟩⟩
end
end Sw

set_option Elab.async false
set_option linter.all false
set_option maxRecDepth 100000
/-! Sw, part J: more expressions: t[::-1], isinstance, the pen, a caught error's fields, calls. -/
namespace Sw
open PySem PySem.Spec PyProof.Rows L2
variable {Y : Cfg} {O : Own} {Wx : WX} {X : Cx} {pos : Pos} {a b c : Expr} {ma mb mc : Ev} {es : List Expr} {ml : Fr → M (List D)} {δ : Fr} {σ : L2.St}
variable {Z Z1 : Zs} {ms ms1 : List Addr} {H H1 : Hp} {st st1 : Store} {Q : VK}

/-! ### from the last to the first -/
theorem se_back {k : Nat} {p1 p2 p3 : Pos} (hK : X.K = Y.K) (ha : PE X a (REB Y O Wx ma)) : PE X (backE a k p1 p2 p3 pos) (RE Y O Wx fun δ => M.bind (ma δ) fun x => M.of (revD x)) := by
  refine ⟨fun pins s σ H Q I ⟨δ, st, Z, ms, R, P⟩ => ?_⟩
  dsimp only at P
  have P' := P
  unfold M.bind at P'
  cases e : ma δ st with
  | bad => rw [e] at P'; exact P'.elim
  | exn c fs st' =>
    refine (pe_revL ha).run pins s σ H Q I ⟨δ, st, Z, ms, R, ?_⟩
    rw [e] at P' ⊢
    exact P'
  | ok d st' =>
    rw [e] at P'
    dsimp only at P'
    cases d with
    | lst ds =>
      refine (pe_revL ha).run pins s σ H Q I ⟨δ, st, Z, ms, R, ?_⟩
      rw [e]
      intro v H1 Z1 ms1 s1 hv
      obtain ⟨q, xs, rfl, hq, r⟩ := DenB.lst hv
      exact ⟨q, xs, rfl, SqL.of hq, ((fin_of (P'.shift R.ok s1)).lst s1.ok r.reverse)⟩
    | tup ds =>
      refine (pe_backT ha).run pins s σ H Q I ⟨δ, st, Z, ms, R, ?_⟩
      rw [e]
      intro v H1 Z1 ms1 s1 hv
      obtain ⟨q, xs, rfl, hq, r⟩ := DenB.tup hv
      exact ⟨q, xs, rfl, by rw [hK]; exact hq, ((fin_of (P'.shift R.ok s1)).tup s1.ok r.reverse)⟩
    | _ => exact P'.elim

/-! ### isinstance -/
theorem se_tyn {T : Str} {U : String} (hg : Gl X T) (hm : X.mg T = none) (hv : bootBuiltins T = some (.type U)) (hn : T ≠ "__name__") (hd : (T == ("__debug__" : Str)) = false) : PE X (.Name T pos) (tC (.ty U)) := pe_bltn hg hm hv rfl hn hd
def tyCs : List String → TA
  | [] => tNil
  | T :: r => tCons (tC (.ty T)) (tyCs r)
theorem tyCs_ok {R : List V → Hp → Prop} : ∀ {tys : List String}, R (tys.map V.ty) H → tyCs tys σ H R
  | [], h => h
  | T :: r, h => tyCs_ok (R := fun vs H1 => R (.ty T :: vs) H1) (tys := r) h
theorem se_isi1 {p : Pos} {T : String} (hK : X.K = Y.K) (hg : Gl X "isinstance") (hm : X.mg "isinstance" = none) (ha : PE X a (REB Y O Wx ma)) (hb : PE X b (tC (.ty T))) (hs : starEach [a, b] X.env = (false, eval a X.env) :: starEach [b] X.env) (hs2 : starEach [b] X.env = (false, eval b X.env) :: starEach [] X.env)
    (hpl : (backTo pos (starEach [b] X.env)).any (·.1) = false) :
    PE X (.Call (.Name "isinstance" p) [a, b] [] pos) (RE Y O Wx fun δ => M.bind (ma δ) fun x => M.bind (M.of (isTys x [T])) fun r => M.pure (.bl r)) :=
  (pe_callB (op_isi hK [T] (by simp)) hg hm boot_isinstance (pa_cons ha (pa_cons hb pa_nil hs2) hs) (by decide) (by decide) hs hpl).imp fun σ H Q ⟨δ, st, Z, ms, R, P⟩ =>
    rg_seq R P fun x st1 v H1 Z1 ms1 s1 R1 vx P1 => by
      obtain ⟨r, e, P2⟩ := Post.bindOf P1
      exact ⟨Z1, ms1, st1, v, .ty T, x, r, rfl, R1.ok, vx, e, P2.pure' R1.ok (.bl r), .inl ⟨T, rfl, rfl⟩⟩
theorem se_isiT {p tpos : Pos} {k : Nat} {tys : List String} (hK : X.K = Y.K) (hne : tys ≠ []) (hz : tys.length ≤ sizeLine) (hg : Gl X "isinstance") (hm : X.mg "isinstance" = none) (ha : PE X a (REB Y O Wx ma)) (hb : PA X es (tyCs tys)) (hs : starEach [a, .Tuple es k tpos] X.env = (false, eval a X.env) :: starEach [.Tuple es k tpos] X.env) :
    PE X (.Call (.Name "isinstance" p) [a, .Tuple es k tpos] [] pos) (RE Y O Wx fun δ => M.bind (ma δ) fun x => M.bind (M.of (isTys x tys)) fun r => M.pure (.bl r)) :=
  (pe_callB (op_isi hK tys hne) hg hm boot_isinstance (pa_cons ha (pa_cons (pe_tup hb) pa_nil (by rfl)) hs) (by decide) (by decide) hs (by rfl)).imp fun σ H Q ⟨δ, st, Z, ms, R, P⟩ =>
    rg_seq R P fun x st1 v H1 Z1 ms1 s1 R1 vx P1 => tyCs_ok ⟨by rw [List.length_map]; exact hz, fun q hq => by
      obtain ⟨r, e, P2⟩ := Post.bindOf P1
      have s2 := Step.laid (o := .tup (tys.map V.ty)) R1.ok hq
      exact ⟨Z1, ms1, st1, v, .ref q, x, r, rfl, s2.ok, s2.denB R1.ok vx, e, P2 _ _ _ _ s2 (.bl r), .inr ⟨q, rfl, upd_same⟩⟩⟩

/-! ### shared dicts -/
theorem dic_get {vs : List (Key × V)} {kvs : List (Str × D)} {k : Str} {d : D} (hk : vs.map (·.1) = kvs.map (fun p => (Sum.inr p.1 : Key))) (r : DenL Y Z ms H (vs.map (·.2)) (kvs.map (·.2))) (h : kvs.lookup k = some d) : ∃ v, valV vs (.inr k) = some v ∧ Den Y Z ms H v d := by
  induction kvs generalizing vs with
  | nil => cases h
  | cons p kr ih =>
    cases vs with
    | nil => cases hk
    | cons q vr =>
      rw [List.map_cons, List.map_cons] at hk r
      cases r with
      | cons rv rr =>
        injection hk with h1 h2
        rw [List.lookup_cons] at h
        by_cases e : k = p.1
        · have eb : (k == p.1) = true := beq_iff_eq.mpr e
          rw [eb] at h
          cases h
          exact ⟨q.2, valV_pos (by rw [h1, e]), rv⟩
        · have eb : (k == p.1) = false := beq_eq_false_iff_ne.mpr e
          rw [eb] at h
          obtain ⟨v, h3, h4⟩ := ih h2 rr h
          refine ⟨v, ?_, h4⟩
          rw [valV_neg (by rw [h1]; exact fun z => e (Sum.inr.inj z).symm)]
          exact h3
theorem cget_some {d : D} {k : Str} (P : Post Y Wx (VD Y) σ Z ms H st (cgetM d k st) Q) : ∃ (n : Nat) (kvs : List (Str × D)) (x : D), d = .cell n ∧ st[n]? = some (.dic kvs) ∧ kvs.lookup k = some x ∧ Post Y Wx (VD Y) σ Z ms H st (M.pure x st) Q := by
  unfold cgetM at P
  cases d with
  | cell n =>
    dsimp only at P
    cases e : st[n]? with
    | none => rw [e] at P; exact P.elim
    | some c =>
      rw [e] at P
      cases c with
      | lst _ => exact P.elim
      | dic kvs =>
        dsimp only at P
        cases e2 : kvs.lookup k with
        | none => rw [e2] at P; exact P.elim
        | some x => rw [e2] at P; exact ⟨n, kvs, x, rfl, e, e2, P⟩
  | _ => exact P.elim
theorem se_cget {k : Str} {j : Nat} {p : Pos} (hu : X.A.units + 65 < cLine) (ha : PE X a (RE Y O Wx ma)) : PE X (.Subscript a (.Constant (.str k) j p) pos) (RE Y O Wx fun δ => M.bind (ma δ) fun x => cgetM x k) :=
  (pe_dget (by omega) ha pe_str (by intro _ _; rfl)).imp fun σ H Q ⟨δ, st, Z, ms, R, P⟩ => rg_seq R P fun x st1 v H1 Z1 ms1 s1 R1 vx P1 => by
    obtain ⟨n, kvs, d, rfl, e1, e2, P2⟩ := cget_some P1
    cases vx with
    | cell hn =>
      obtain ⟨vs, h1, h2, h3⟩ := R1.ok.cells n _ _ e1 hn
      obtain ⟨v, h4, h5⟩ := dic_get h2 h3 e2
      refine ⟨_, v, rfl, ?_, P2.pure' R1.ok h5⟩
      rw [← h4]
      exact DGet.k (k := .inr k) h1

/-! ### a caught error's fields -/
theorem flds_get {vs : List (Str × V)} {fs : List (Str × D)} {f : Str} {d : D} (hk : vs.map (·.1) = fs.map (·.1)) (r : DenL Y Z ms H (vs.map (·.2)) (fs.map (·.2))) (h : fs.lookup f = some d) : ∃ v, vs.lookup f = some v ∧ Den Y Z ms H v d := by
  induction fs generalizing vs with
  | nil => cases h
  | cons p fr ih =>
    cases vs with
    | nil => cases hk
    | cons q vr =>
      rw [List.map_cons, List.map_cons] at hk r
      cases r with
      | cons rv rr =>
        injection hk with h1 h2
        rw [List.lookup_cons] at h ⊢
        rw [h1]
        cases eb : f == p.1 with
        | true =>
          rw [eb] at h
          cases h
          exact ⟨q.2, rfl, rv⟩
        | false =>
          rw [eb] at h
          exact ih h2 rr h
def excM (i : Nat) (f : Str) : Ev := fun δ => match δ[i]? with
  | some (some (.exc _ fs)) => M.of (fs.lookup f)
  | _ => M.bad
theorem excM_some {i : Nat} {f : Str} (P : Post Y Wx (VD Y) σ Z ms H st (excM i f δ st) Q) : ∃ C fs d, δ[i]? = some (some (.exc C fs)) ∧ fs.lookup f = some d ∧ Post Y Wx (VD Y) σ Z ms H st (M.pure d st) Q := by
  unfold excM at P
  generalize δ[i]? = o at P
  cases o with
  | none => exact P.elim
  | some o =>
    cases o with
    | none => exact P.elim
    | some sl =>
      cases sl with
      | exc C fs =>
        obtain ⟨d, e, P2⟩ := Post.of P
        exact ⟨C, fs, d, rfl, e, P2⟩
      | _ => exact P.elim
theorem se_excf {C : Addr} {f x : Str} {i : Nat} {oe : Obj} {pn : List (Addr × Obj)} {p : Pos} (T : XfC X.K C) (hno : PySem.W.findIn X.K (.ref C) f = some none) (hz : Zc (.ref C) (some O.xd) oe) (hf : ∃ vs, oe.data = .fields vs)
    (hN : X.N[i]? = some x) (hv : Vis X.env.scope x) (hd : (x == ("__debug__" : Str)) = false) (hcd : (x == ("__classdict__" : Str)) = false) (hb : attributeBase (.Name x p) f X.env (eval (.Name x p) X.env) = eval (.Name x p) X.env) :
    PE (X.suite O.xa ((O.xa, oe) :: pn)) (.Attribute (.Name x p) f pos) (RE Y O Wx (excM i f)) :=
  (pe_xf (X := X) T hno hz hf (pe_var (X := X.suite O.xa ((O.xa, oe) :: pn)) hN hv hd hcd) hb).imp fun σ H Q ⟨δ, st, Z, ms, R, P⟩ => by
    obtain ⟨C', fs, d, e, e1, P2⟩ := excM_some P
    obtain ⟨x', ex, rfl, ⟨vs, h1, h2, h3, h4⟩, _⟩ := R.slots i _ e
    obtain ⟨v, h5, h6⟩ := flds_get h3 h4 e1
    exact ⟨_, ex, rfl, rfl, _, vs, v, rfl, h1, h5, P2.pure' R.ok h6⟩

/-! ### isinstance of a caught error -/
structure XiC (K : PySem.W.Frag) (C : Addr) : Prop where
  cl : (PySem.W.clsIn K C).isSome = true
  cc : PySem.W.findIn K (.ref C) "__class__" = some (some (.builtin "object.__class__"))
  cn : PySem.W.specialIn K (.builtin "object.__class__") "__get__" = some (some (.builtin "getset_descriptor.__get__"))
  ct : PySem.W.takesIn K (.builtin "object.__class__") = some true
  cm : PySem.W.mroIn K C (.type "object") = some true
def xiB (K : PySem.W.Frag) (C : Addr) : Bool := (PySem.W.clsIn K C).isSome && (decide (PySem.W.findIn K (.ref C) "__class__" = some (some (.builtin "object.__class__"))) && (decide (PySem.W.specialIn K (.builtin "object.__class__") "__get__" = some (some (.builtin "getset_descriptor.__get__"))) && (decide (PySem.W.takesIn K (.builtin "object.__class__") = some true) && decide (PySem.W.mroIn K C (.type "object") = some true))))
theorem xiB_ok {K : PySem.W.Frag} {C : Addr} (h : xiB K C = true) : XiC K C := by
  obtain ⟨h1, h⟩ := Bool.and_eq_true_iff.mp h
  obtain ⟨h2, h⟩ := Bool.and_eq_true_iff.mp h
  obtain ⟨h3, h⟩ := Bool.and_eq_true_iff.mp h
  obtain ⟨h4, h5⟩ := Bool.and_eq_true_iff.mp h
  exact ⟨h1, of_decide_eq_true h2, of_decide_eq_true h3, of_decide_eq_true h4, of_decide_eq_true h5⟩
def rIsX (K : PySem.W.Frag) (C a dd : Addr) : List V → Hp → VK → Prop := fun xs H Q => ∃ (c : V) (fs : List (Str × V)) (b : Bool), xs = [.ref a, c] ∧ H dd = some (.xd fs) ∧ Q (.bl b) H ∧
  ((∃ D, c = .ref D ∧ PySem.W.kitOne K (.ref C) (.ref D) = some b) ∨ ∃ tp cs us, c = .ref tp ∧ H tp = some (.tup cs) ∧ Paired ClsV cs us ∧ PySem.W.kitAny K (.ref C) us = some b)
theorem call_isX {C a dd : Addr} {oe : Obj} {pn : List (Addr × Obj)} (T : XfC X.K C) (T2 : XiC X.K C) (hz : Zc (.ref C) (some dd) oe) (hf : ∃ vs, oe.data = .fields vs) : CallR (X.suite a ((a, oe) :: pn)) (.builtin "isinstance") (rIsX X.K C a dd) := by
  intro pins s σ H xs us Q I r h
  obtain ⟨c, fs, b, rfl, ea, q, hc⟩ := h
  obtain ⟨u1, u2, rfl, r1, r2⟩ := vals2 r
  cases (show u1 = Value.ref a from r1)
  obtain ⟨ha, _⟩ := I.pin (a, oe) (List.mem_append_left _ List.mem_cons_self)
  obtain ⟨vs, hd⟩ := hf
  obtain ⟨mA, hns, hr⟩ := (show ObjOk X.prog X.w H s.heap dd (.xd fs) from I.hok dd _ ea)
  obtain ⟨od, ho, hl⟩ := lookIn_ns hns
  have J : PySem.W.InstAt s.heap a oe C (some od) := ⟨ha, hz.1, by unfold PySem.W.notCls; rw [hd] <;> rfl, by rw [hz.2]; exact ho⟩
  have Z : PySem.W.KitX X.K (.ref a) (.ref C) (fun h => PySem.W.InstAt h a oe C (some od)) := PySem.W.kitx_exc T2.cl T.ga T.gg T.exC T2.cc T2.cn T2.ct T2.cm
  rcases hc with ⟨D, rfl, e⟩ | ⟨tp, cs, ws, rfl, hT, k, e⟩
  · cases (show u2 = Value.ref D from r2)
    exact PySem.W.kia_one Z I.kIn J e (fun z => nomatch z) fun tk => ⟨.bl b, H, I.tok tk, rfl, q⟩
  · cases (show u2 = Value.ref tp from r2)
    obtain ⟨_, its, rv, o, h1, h2, n, h3⟩ := (show ObjOk X.prog X.w H s.heap tp (.tup cs) from I.hok tp _ hT)
    have e3 := ClsV.all k rv
    subst e3
    obtain ⟨oc, od', dt, sl⟩ := o
    simp only at h2 h3
    subst h2 h3
    exact PySem.W.kia_tup Z I.kIn J h1 e (fun z => nomatch z) fun tk => ⟨.bl b, H, I.tok tk, rfl, q⟩
def exciM (sub : Str → Str → Option Bool) (i : Nat) (us : List Str) : Ev := fun δ => match δ[i]? with
  | some (some (.exc c _)) => M.bind (M.of (subAny sub c us)) fun b => M.pure (.bl b)
  | _ => M.bad
def clCs (ca : Str → Addr) : List Str → TA
  | [] => tNil
  | u :: r => tCons (tC (.ref (ca u))) (clCs ca r)
theorem clCs_ok {ca : Str → Addr} {R : List V → Hp → Prop} : ∀ {us : List Str}, R (us.map fun u => V.ref (ca u)) H → clCs ca us σ H R
  | [], h => h
  | u :: r, h => clCs_ok (R := fun vs H1 => R (.ref (ca u) :: vs) H1) (us := r) h
theorem exciM_some {sub : Str → Str → Option Bool} {i : Nat} {us : List Str} (P : Post Y Wx (VD Y) σ Z ms H st (exciM sub i us δ st) Q) : ∃ c fs b, δ[i]? = some (some (.exc c fs)) ∧ subAny sub c us = some b ∧ Post Y Wx (VD Y) σ Z ms H st (M.pure (.bl b) st) Q := by
  unfold exciM at P
  generalize δ[i]? = o at P
  cases o with
  | none => exact P.elim
  | some o =>
    cases o with
    | none => exact P.elim
    | some sl =>
      cases sl with
      | exc C fs =>
        obtain ⟨b, e, P2⟩ := Post.bindOf P
        exact ⟨C, fs, b, rfl, e, P2⟩
      | _ => exact P.elim
theorem kit_subs {K : PySem.W.Frag} {ca : Str → Addr} {sub : Str → Str → Option Bool} {c : Str} (hs : ∀ h b, sub c h = some b → PySem.W.kitOne K (.ref (ca c)) (.ref (ca h)) = some b) : ∀ {us : List Str} {b : Bool}, subAny sub c us = some b → PySem.W.kitAny K (.ref (ca c)) (us.map fun u => Value.ref (ca u)) = some b
  | [], b, e => by cases e; exact kitAny_nil
  | h :: r, b, e => by
    unfold subAny at e
    split at e
    · rename_i b1 b2 e1 e2
      cases e
      have ih := kit_subs hs e2
      refine kitAny_cons (hs h _ e1) (fun hb => ?_) fun hb => ?_
      · rw [hb, Bool.false_or]; exact ih
      · rw [hb, Bool.true_or]
    · cases e
theorem paired_cl (ca : Str → Addr) : ∀ us : List Str, Paired ClsV (us.map fun u => V.ref (ca u)) (us.map fun u => Value.ref (ca u))
  | [] => .nil
  | u :: r => .cons (.own _) (paired_cl ca r)
/-- names of own classes in a row -/
inductive ClNs (X : Cx) (hns : List Str) : List Str → List Expr → Prop where
  | nil : ClNs X hns [] []
  | cons {u : Str} {p : Pos} {us : List Str} {xs : List Expr} (h : u ∈ hns) (hg : Gl X u) (hd : (u == ("__debug__" : Str)) = false) (r : ClNs X hns us xs) : ClNs X hns (u :: us) (.Name u p :: xs)
theorem clCs_pa {ca : Str → Addr} {hns : List Str} (hm : ∀ u ∈ hns, X.mg u = some (.ref (ca u))) : ∀ {us : List Str} {xs : List Expr}, ClNs X hns us xs → PA X xs (clCs ca us)
  | _, _, .nil => pa_nil
  | _, _, .cons h hg hd r => pa_cons (pe_glob hg (hm _ h) rfl hd) (clCs_pa hm r) (by rfl)
theorem se_exci {c x : Str} {i : Nat} {oe : Obj} {pn : List (Addr × Obj)} {p q pos : Pos} {te : Expr} {us : List Str} {sub : Str → Str → Option Bool} (hc : O.xc = c) (T : XfC X.K (Y.ca c)) (T2 : XiC X.K (Y.ca c)) (hz : Zc (.ref (Y.ca c)) (some O.xd) oe) (hf : ∃ vs, oe.data = .fields vs)
    (hs : ∀ h b, sub c h = some b → PySem.W.kitOne X.K (.ref (Y.ca c)) (.ref (Y.ca h)) = some b) (hN : X.N[i]? = some x) (hv : Vis X.env.scope x) (hd : (x == ("__debug__" : Str)) = false) (hcd : (x == ("__classdict__" : Str)) = false) (hg : Gl X "isinstance") (hm : X.mg "isinstance" = none)
    (ht : (∃ u, us = [u] ∧ PE (X.suite O.xa ((O.xa, oe) :: pn)) te (tC (.ref (Y.ca u))) ∧ ∃ p1, te = .Name u p1) ∨ ∃ es k p1, te = .Tuple es k p1 ∧ us.length ≤ 100 ∧ PA (X.suite O.xa ((O.xa, oe) :: pn)) es (clCs Y.ca us)) :
    PE (X.suite O.xa ((O.xa, oe) :: pn)) (.Call (.Name "isinstance" p) [.Name x q, te] [] pos) (RE Y O Wx (exciM sub i us)) := by
  rcases ht with ⟨u, rfl, he, p1, rfl⟩ | ⟨es, k, p1, rfl, hl, ha⟩
  · refine (pe_callB (X := X.suite O.xa ((O.xa, oe) :: pn)) (call_isX (X := X) T T2 hz hf) hg hm boot_isinstance (pa_cons (pe_var (X := X.suite O.xa ((O.xa, oe) :: pn)) hN hv hd hcd) (pa_cons he pa_nil (by rfl)) (by rfl)) (by decide) (by decide) (by rfl) (by rfl)).imp fun σ H Q ⟨δ, st, Z, ms, R, P⟩ => ?_
    obtain ⟨C', fs, b, e, e1, P2⟩ := exciM_some P
    obtain ⟨x', ex, rfl, ⟨vs, h1, h2, h3, h4⟩, h5⟩ := R.slots i _ e
    rw [h5, hc] at e1
    refine ⟨_, ex, .ref (Y.ca u), vs, b, rfl, h1, P2.pure' R.ok (.bl b), .inl ⟨_, rfl, ?_⟩⟩
    have e2 := e1
    unfold subAny at e2
    split at e2
    · rename_i b1 b2 q1 q2
      cases q2
      cases e2
      rw [Bool.or_false]
      exact hs _ _ q1
    · cases e2
  · refine (pe_callB (X := X.suite O.xa ((O.xa, oe) :: pn)) (call_isX (X := X) T T2 hz hf) hg hm boot_isinstance (pa_cons (pe_var (X := X.suite O.xa ((O.xa, oe) :: pn)) hN hv hd hcd) (pa_cons (pe_tup ha) pa_nil (by rfl)) (by rfl)) (by decide) (by decide) (by rfl) (by rfl)).imp fun σ H Q ⟨δ, st, Z, ms, R, P⟩ => ?_
    obtain ⟨C', fs, b, e, e1, P2⟩ := exciM_some P
    obtain ⟨x', ex, rfl, ⟨vs, h1, h2, h3, h4⟩, h5⟩ := R.slots i _ e
    rw [h5, hc] at e1
    refine ⟨_, ex, clCs_ok ⟨by rw [List.length_map, sizeLine_eq]; omega, fun qa hq => ?_⟩⟩
    have s2 := Step.laid (o := .tup (us.map fun u => V.ref (Y.ca u))) R.ok hq
    refine ⟨.ref qa, vs, b, rfl, ?_, P2 _ _ _ _ s2 (.bl b), .inr ⟨qa, _, _, rfl, upd_same, paired_cl Y.ca us, kit_subs hs e1⟩⟩
    rw [upd_ne (fun z => by rw [z, hq] at h1; cases h1)]
    exact h1

/-! ### calls -/
/-- what a call hands back -/
def VSl (Y : Cfg) (Hs : Hp) : VRel Slot V := fun Z ms H v s => match s with
  | .sh d => Den Y Z ms H v d
  | .ow ds => VFr Y Hs Z ms H v (.lst ds)
  | _ => False
def PostC (Y : Cfg) (Z : Zs) (ms : List Addr) (H : Hp) : Res Slot → VK → XK → Prop
  | .ok sl st', Q, _ => ∀ v H' Z' ms', Step Y Z ms H Z' ms' H' st' → VSl Y H Z' ms' H' v sl → Q v H'
  | .exn c fs st', _, E => ∀ d H' Z' ms', Step Y Z ms H Z' ms' H' st' → ExcD Y Z' ms' H' d fs → E (.ref (Y.ca c)) (some d) H'
  | .bad, _, _ => False
/-- a def's promise -/
def spC (Y : Cfg) (n : Nat) (c : List D → M Slot) : Sp := fun vs H Q E => ∃ Z ms st ds, StOk Y Z ms H st ∧ DenL Y Z ms H vs ds ∧ vs.length = n ∧ PostC Y Z ms H (c ds st) Q E
/-- a def that may be called where no guard is open -/
structure FnG (P : Program) (w : World) (K : PySem.W.Frag) (mg : Str → Option Value) (base : Heap) (k : Nat) (f : Addr) (fd : FuncData) (ps : List Str) (sp : Sp) : Prop where
  len : ∀ vs H Q E, sp vs H Q E → vs.length = ps.length
  run : ∀ (A : Around) (outer : List Env) (s : Shared) (H : Hp) (args : Args) (us : List Value) (vs : List V) (Q : VK) (E : XK), Room k A → A.guards = some [] → Env0 P w K mg base A outer s H → BindsTo s fd args (ps.zip us) → Vals vs us → sp vs H Q E →
    codeAny (model P w) A (.call (.ref f) args) (CR (L2.CX P w) outer P w H s Q E) s
structure CallOk (P : Program) (w : World) (K : PySem.W.Frag) (mg : Str → Option Value) (base : Heap) (Y : Cfg) (k : Nat) (f : Str) (n : Nat) (c : List D → M Slot) : Prop where
  ok : ∃ (fa : Addr) (fd : FuncData) (ps : List Str), FnG P w K mg base k fa fd ps (spC Y n c) ∧ mg f = some (.ref fa) ∧ PySem.W.keepIn K (.ref fa) = true ∧ Binds K fd ps []
/-- the reading of an expression that hands back what a call did -/
def RC (Y : Cfg) (O : Own) (Wx : WX) (m : Fr → M Slot) : TE := fun σ H Q => ∃ δ st Z ms, Rel Y O Z ms δ σ H st ∧ Post Y Wx (VSl Y H) σ Z ms H st (m δ st) Q
theorem VSl.back {Hs Hs' : Hp} {v : V} {s : Slot} (b : ∀ p, Hs p = none → Hs' p = none) (h : VSl Y Hs Z ms H v s) : VSl Y Hs' Z ms H v s := by
  cases s with
  | sh d => exact h
  | ow ds =>
    obtain ⟨q, xs, es, e1, e2, e3, e4, e5⟩ := h
    exact ⟨q, xs, es, e1, e2, e3, b q e4, e5⟩
  | exc _ _ => exact h
  | thk => exact h
theorem call_read {n : Nat} {c : List D → M Slot} {Hs : Hp} (R : Rel Y O Z ms δ σ H st) {vs : List V} {ds : List D} (r : DenL Y Z ms H vs ds) (hn : vs.length = n) (b : ∀ p, H p = none → Hs p = none) (P : Post Y Wx (VSl Y Hs) σ Z ms H st (c ds st) Q) : spC Y n c vs H Q (WE Wx σ) := by
  refine ⟨Z, ms, st, ds, R.ok, r, hn, ?_⟩
  cases e : c ds st with
  | ok sl st' => rw [e] at P; exact fun v H' Z' ms' s q => P v H' Z' ms' s (q.back b)
  | exn C fs st' => rw [e] at P; exact P
  | bad => rw [e] at P; exact P
theorem run_fnG {k : Nat} {f : Addr} {fd : FuncData} {ps : List Str} {sp : Sp} {E : XK} {pins : List (Addr × Obj)} {s : Shared} {us : List Value} {vs : List V} (F : FnG X.prog X.w X.K X.mg X.base k f fd ps sp) (hr : Room k X.A) (hgd : X.A.guards = some []) (hb : Binds X.K fd ps [])
    (hx : PassesAt (L2.CX X.prog X.w) X σ E) (I : Inv X pins σ H s) (r : Vals vs us) (h : sp vs H Q E) : wpAny (model X.prog X.w) X.A (call (.ref f) us) (EP X pins σ Q) X.xe s := by
  have hl : us.length = ps.length := r.length.symm.trans (F.len _ _ _ _ h)
  have bt := hb s us I.kIn (by rw [List.append_nil]; exact hl)
  rw [List.append_nil] at bt
  refine wpAny_call (codeAny_mono (F.run X.A X.stack s H ⟨us, []⟩ us vs Q E hr hgd I.env0 bt r h) fun res s' hq => ?_)
  match res, hq with
  | .error e, hq => exact hx pins H s e s' I hq
  | .ok (.ret u), hq => exact I.after hq
  | .ok .next, hq => exact False.elim hq
  | .ok .brk, hq => exact False.elim hq
  | .ok .cont, hq => exact False.elim hq
theorem sc_call {k n : Nat} {f : Str} {cf : List D → M Slot} {p : Pos} {e : Expr} (F : CallOk X.prog X.w X.K X.mg X.base Y k f n cf) (hr : Room k X.A) (hgd : X.A.guards = some []) (tk : Takes X Wx) (hg : Gl X f) (hdb : (f == ("__debug__" : Str)) = false) (ha : PA X (e :: es) (RL Y O Wx ml))
    (hlen : ∀ δ st ds st', ml δ st = .ok ds st' → ds.length = n) (he : starEach (e :: es) X.env = (false, eval e X.env) :: starEach es X.env) (hpl : (backTo pos (starEach es X.env)).any (·.1) = false) :
    PE X (.Call (.Name f p) (e :: es) [] pos) (RC Y O Wx fun δ => M.bind (ml δ) cf) := by
  obtain ⟨fa, fd, ps, F, hm, hk, hb⟩ := F.ok
  refine ⟨fun pins s σ H Q I h => ?_⟩
  refine wpAny_Call_Name_kw (ld_glob I hg hm ?_ hdb)
  have rd : RL Y O Wx ml σ H fun vs H1 => spC Y n cf vs H1 Q (WE Wx σ) := by
    obtain ⟨δ, st, Z, ms, R, P⟩ := h
    refine ⟨δ, st, Z, ms, R, ?_⟩
    have P' := P
    dsimp only at P'
    unfold M.bind at P'
    cases em : ml δ st with
    | ok ds st' =>
      rw [em] at P'
      intro vs H1 Z1 ms1 s1 r
      exact call_read (R.step s1) r (by rw [r.length]; exact hlen _ _ _ _ em) (s1.back R.ok) (P'.shift R.ok s1)
    | exn c fs st' => rw [em] at P'; exact P'
    | bad => rw [em] at P'; exact P'
  refine PySem.W.callWith_K (h₀ := X.base) I.ok.mod.kin hk (thn (ha.run pos pins s σ H _ I rd) fun us s1 ⟨vs, H1, I1, r, q⟩ => ⟨I1.kIn, ?_⟩) he hpl
  exact run_fnG F hr hgd hb (passAt tk σ) I1 r q
theorem rf_of_rc {m : Fr → M Slot} (h : PE X a (RC Y O Wx m)) : PE X a (RF Y O Wx fun δ => owM (m δ)) := by
  refine ⟨fun pins s σ H Q I h' => h.run pins s σ H Q I ?_⟩
  obtain ⟨δ, st, Z, ms, R, P⟩ := h'
  refine ⟨δ, st, Z, ms, R, ?_⟩
  unfold owM M.bind at P
  dsimp only at P
  cases e : m δ st with
  | ok sl st' =>
    rw [e] at P
    cases sl with
    | ow ds => exact P
    | _ => exact (show False from P).elim
  | exn c fs st' => rw [e] at P; exact P
  | bad => rw [e] at P; exact P
theorem re_of_rc {m : Fr → M Slot} (h : PE X a (RC Y O Wx m)) : PE X a (RE Y O Wx fun δ => shM (m δ)) := by
  refine ⟨fun pins s σ H Q I h' => ?_⟩
  obtain ⟨δ, st, Z, ms, R, P⟩ := h'
  unfold shM M.bind at P
  dsimp only at P
  cases e : m δ st with
  | ok sl st' =>
    rw [e] at P
    cases sl with
    | sh d => exact h.run pins s σ H Q I ⟨δ, st, Z, ms, R, by rw [e]; exact P⟩
    | ow ds =>
      refine h.run pins s σ H Q I ⟨δ, st, Z, ms, R, ?_⟩
      rw [e]
      intro v H' Z' ms' s' q
      obtain ⟨p, xs, es, rfl, e0, h1, h2, h3, h4, h5⟩ := q
      cases e0
      have k := s'.ok.froze (p := p) (by rw [h1]; simp) h4
      refine P _ H' (fun q => Z' q ∨ q = p) ms' ⟨k, fun a z => .inl (s'.zz a z), fun a z => ?_, s'.mm, s'.mn, s'.kp⟩ (.lst h1 (.inr rfl) (h5.mono (fun _ z => .inl z) List.prefix_rfl fun _ _ _ e => e))
      rcases z with z | z
      · exact s'.zn a z
      · rw [z]; exact .inr h2
    | _ => exact (show False from P).elim
  | exn c fs st' => exact h.run pins s σ H Q I ⟨δ, st, Z, ms, R, by rw [e] at P ⊢; exact P⟩
  | bad => rw [e] at P; exact P.elim
end Sw

set_option Elab.async false
set_option linter.all false
set_option maxRecDepth 100000
set_option maxHeartbeats 2000000
/-! Sw, part L: a lambda without parameters handed to a def that calls it. -/
namespace Sw
open PySem PySem.Spec PyProof.Rows L2 LamX
/-- the lambda's object -/
abbrev lamO (X : Cx) (ar : Arguments) (b : Expr) (sc : Scope) (pm : Value) (cc : Addr) (ct : Value) : Obj :=
  PySem.W.kla_obj "<lambda>" (X.env.qual ++ "<lambda>") ar b sc (cloFrom X.env.cells sc.names []) pm cc ct
/-- the context of the def at g that got it, in a try or not -/
abbrev gotCx (X : Cx) (P : CXT) (Ng : List Str) (qg : Str) (sg : Scope) (g : Addr) (cdg : Value) (s : Shared) (H : Hp) (Eg : XK) : Cx :=
  cxOf P X.prog X.w X.K X.mg X.base Ng qg sg g cdg X.A X.stack s H Eg
section
variable {X : Cx} {pins : List (Addr × Obj)} {σ : L2.St} {H : Hp} {s : Shared}
variable {P : CXT} {Eg : XK} {Ng : List Str} {qg : Str} {sg : Scope} {g f cc : Addr} {cdg pm ct : Value} {ar : Arguments} {b : Expr} {sc : Scope}
variable {k i : Nat} {a : Str} {pn : List (Addr × Obj)} {xe : Value → Shared → Prop} {W : WX} {tb : XK → TE} {p1 p2 : Pos}
theorem act_thunk (I : Inv X pins σ H s) (L : LamS X.env.scope sc)
    (hf : s.heap.get? f = some (lamO X ar b sc pm cc ct)) (hn : H f = none) (hs : f ∉ frs X.stack)
    (bnd : bindArgs (PySem.W.kla_fn "<lambda>" (X.env.qual ++ "<lambda>") ar b sc (cloFrom X.env.cells sc.names []) pm (.ref cc) ct) ⟨[], []⟩ = pure [])
    (tk : Takes ((gotCx X P Ng qg sg g cdg s H Eg).tr pn xe) W)
    (hr : Room (k + 1) (X.A.deeper (envOfC qg sg s.heap.objs.size g cdg))) (hgd : X.A.guards = some [])
    (bod : ∀ (A : Around) (outer : List Env) (s : Shared) (H : Hp) (E : XK), Room k (A.deeper (lamEnv X sc s.heap.objs.size f cc)) → A.guards = some [] → PE (lamCx X A outer s H E sc f cc) b (tb E))
    (iN : Ng[i]? = some a) (va : Vis sg a) (nd : (a == ("__debug__" : Str)) = false) (nc : (a == ("__classdict__" : Str)) = false) :
    PE ((gotCx X P Ng qg sg g cdg s H Eg).tr pn xe) (.Call (.Name a p1) [] [] p2)
      (fun τ HZ Q => τ[i]? = some (some (.ref f)) ∧ HZ cc = some (CodeO cc (X.env.qual ++ "<lambda>")) ∧ tb (WE W τ) σ HZ Q) := by
  refine ⟨fun pz sZ τ HZ Q IZ ⟨h1, h2, h3⟩ => ?_⟩
  have look := (pe_var (pos := p1) iN va nd nc).run pz sZ τ HZ (fun v H1 => v = .ref f ∧ H1 = HZ) IZ ⟨.ref f, h1, rfl, rfl⟩
  refine wpAny_Call_Name_kw (thn look fun u s1 ⟨v, H1, I1, r1, ev, eH⟩ => ?_)
  subst ev
  subst eH
  obtain rfl : u = Value.ref f := r1
  have of1 : s1.heap.get? f = some (lamO X ar b sc pm cc ct) := I1.base.keep f _ hf hn hs fun z => nomatch (show f ∈ ([] : List Addr) from z)
  have un : Un (frs X.stack) [] H H1 s.heap s1.heap := I1.base
  obtain ⟨⟨oc, vs, t, o1, o2, o3⟩, _, _⟩ := I1.hok cc _ h2
  refine PySem.W.callWith_F0 ⟨_, _, _, _, of1⟩ ?_
  have rc : codeAny (model X.prog X.w) (X.A.deeper (envOfC qg sg s.heap.objs.size g cdg)) (.call (.ref f) ⟨[], []⟩)
      (CR (L2.CX X.prog X.w) (envOfC qg sg s.heap.objs.size g cdg :: X.stack) X.prog X.w H1 s1 Q (WE W τ)) s1 := by
    refine PySem.W.kla_callFunE hr.depth of1 rfl L.co L.gen rfl ⟨cc, oc, vs, t, rfl, o1, o2, o3⟩ ?_
    rw [bnd]
    refine wpAny_pure (wpAny_newFunctionEnv (fun y hy => (L.own y hy).2) (fun y hy => absurd hy (by simp)) (fun h₁ hns sb => ⟨I1.nolimit.fresh _ sb, ?_⟩) L.kind)
    show codeAny _ _ (.expr b (lamEnv X sc s1.heap.objs.size f cc)) _ _
    have kp : ∀ q o, s1.heap.get? q = some o → h₁.get? q = some o := fun q o e =>
      sb.extBut q o (Nat.ne_of_lt (Heap.lt_size e)) (Heap.get?_push_of_some _ e)
    have J : Inv (lamCx X (X.A.deeper (envOfC qg sg s.heap.objs.size g cdg)) (envOfC qg sg s.heap.objs.size g cdg :: X.stack) s1 H1 (WE W τ) sc f cc) [] σ H1
        { s1 with heap := h₁, toks := s1.toks + ([] : List (Str × Value)).length } := lam_start2 I L I1.env0 hr.hd un hns kp
    refine PySem.W.kla_codeExpr (wpAny_mono ((bod _ _ s1 H1 (WE W τ) (hr.deeper _) hgd).run [] _ _ H1 Q J h3) (fun v s' hq => ?_) fun e s' hq => hq)
    obtain ⟨v', H', J', rv, q⟩ := hq
    exact ⟨v', H', J'.os, J'.bare, J'.base, J'.hok, rv, q⟩
  refine wpAny_call (codeAny_mono rc fun res s' hq => ?_)
  match res, hq with
  | .error e, hq => exact passAt tk τ pz H1 s1 e s' I1 hq
  | .ok (.ret u), hq => exact I1.after hq
  | .ok .next, hq => exact False.elim hq
  | .ok .brk, hq => exact False.elim hq
  | .ok .cont, hq => exact False.elim hq
end
section
variable {X : Cx} {pins : List (Addr × Obj)} {σ : L2.St} {H : Hp} {s : Shared} {T : List (Addr × Str)} {c P : Addr} {ar : Arguments} {b : Expr} {sc : Scope} {pos : Pos}
abbrev lamQ (X : Cx) : Str := X.env.qual ++ "<lambda>"
/-- the lambda is made: its code object is new (then its table P is longer), or it is found there; nothing else changes -/
theorem make_lam {E : Value → Shared → Prop} {Q : Value → Shared → Prop} (I : Inv X pins σ H s) (TB : TabB X.base X.mg c P) (hc : X.env.code = .ref c) (hm : (P, lamQ X) ∈ T) (hu : ∀ p ∈ T, p.1 = P → p.2 = lamQ X) (hT : Tabs T H)
    (hd : defaultsOf ar X.env = ([], [])) (hfree : ∀ y ∈ sc.names, y.2 = .free → ∃ c, X.env.cells.lookup y.1 = some c)
    (h : ∀ (f cc : Addr) (pm ct : Value) (H1 : Hp) (s' : Shared), Inv X pins σ H1 s' → (∀ q o, H q = some o → q ≠ P → H1 q = some o) → Tabs T H1 → s'.heap.get? f = some (lamO X ar b sc pm cc ct) →
      H1 f = none → f ∉ frs X.stack → H1 cc = some (CodeO cc (lamQ X)) → Q (.ref f) s') :
    wpAny (model X.prog X.w) X.A (eval (.Lambda ar b sc pos) X.env) Q E s := by
  obtain ⟨ps, tP, tr, al⟩ := hT _ hm
  have bP : s.heap.BuiltinsAt X.mg P := TB.bm.keeps I.bk
  have oP : s.heap.get? P = some { cls := .none, data := .fields ps } := I.hok P _ tP
  have out : ∀ f, s.heap.objs.size ≤ f → f ∉ frs X.stack := fun f hf z => (List.mem_cons.mp (I.stkSub _ z)).elim
    (fun e => Nat.lt_irrefl _ (Nat.lt_of_lt_of_le (e ▸ I.lt) hf)) fun e => I.nofs hf e
  have glb := I.mod.glob.keeps I.bk
  have cd := TB.code.keeps I.bk
  refine PySem.W.kla_eval hd ?_
  cases hca : codeAmong pos ps.toList with
  | some cv =>
    obtain ⟨cc, rfl, hco⟩ := al pos cv hca
    refine PySem.W.kla_makeFunctionHit (mg := X.mg) (c := c) (P := P) (ps := ps) (closure_ok hfree) I.ok.glob glb hc cd oP tr hca bP fun ct h' tk hx hsz => ?_
    have J : Inv X pins σ H { s with heap := h'.push (lamO X ar b sc ((X.mg "__name__").getD .none) cc ct), toks := tk } := I.kept fun q o e => Heap.get?_push_of_some _ (hx q o e)
    exact h h'.objs.size cc ((X.mg "__name__").getD .none) ct H _ J (fun _ _ e _ => e) hT (Heap.get?_push_size _ rfl) (I.hok.fresh hsz) (out _ hsz) hco
  | none =>
    refine PySem.W.kla_makeFunction (mg := X.mg) (c := c) (P := P) (ps := ps) (closure_ok hfree) I.ok.glob glb hc cd oP tr hca TB.gP bP fun cc ct h' tk hx hge hlt hrec htb => ?_
    obtain ⟨c2, oc, vs, t, e2, o1, o2, o3⟩ := hrec
    cases e2
    have hsz : s.heap.objs.size ≤ h'.objs.size := Nat.le_trans hge (Nat.le_of_lt hlt)
    have nC : H cc = none := I.hok.fresh hge
    have J := inv_table (t' := tk) (more := #[rawInt pos.line, rawInt pos.col, .ref cc]) (h' := h'.push (lamO X ar b sc ((X.mg "__name__").getD .none) cc ct)) I tP
      (fun q o hq e => Heap.get?_push_of_some _ (hx q o hq e)) (Heap.get?_push_of_some _ htb) hge ⟨oc, vs, t, Heap.get?_push_of_some _ o1, o2, o3⟩
    have kp : ∀ q o, H q = some o → q ≠ P → upd (upd H P (.tbl (ps ++ #[rawInt pos.line, rawInt pos.col, .ref cc]))) cc (CodeO cc (lamQ X)) q = some o := fun q o e n => by
      rw [upd_ne (ne_of_none e nC), upd_ne n]
      exact e
    have nP : ∀ d q, H d = some (CodeO d q) → d ≠ P := fun d q e z => by
      rw [z, tP] at e
      exact codeO_ne ps (Option.some.inj e).symm
    refine h h'.objs.size cc ((X.mg "__name__").getD .none) ct _ _ J kp (fun p hp => ?_) (Heap.get?_push_size _ rfl) ?_ (out _ hsz) upd_same
    · by_cases hq : p.1 = P
      · rw [hu p hp hq, hq]
        refine ⟨_, by rw [upd_ne (ne_of_none tP nC), upd_same], ?_, fun p' cv hcv => ?_⟩
        · rw [Array.toList_append]
          exact PySem.TriplesOk_snoc _ _ _ _ tr
        · rw [Array.toList_append] at hcv
          rcases among_app _ tr hcv with z | z
          · obtain ⟨c0, e1, e2⟩ := al p' cv z
            exact ⟨c0, e1, kp _ _ e2 (nP _ _ e2)⟩
          · exact ⟨cc, z, upd_same⟩
      · obtain ⟨ps', a1, a2, a3⟩ := hT p hp
        refine ⟨ps', kp _ _ a1 hq, a2, fun p' cv hcv => ?_⟩
        obtain ⟨c0, e1, e2⟩ := a3 p' cv hcv
        exact ⟨c0, e1, kp _ _ e2 (nP _ _ e2)⟩
    · have n1 : h'.objs.size ≠ cc := Nat.ne_of_gt hlt
      have n2 : h'.objs.size ≠ P := Nat.ne_of_gt (Nat.lt_of_lt_of_le (Heap.lt_size oP) hsz)
      rw [upd_ne n1, upd_ne n2]
      exact I.hok.fresh hsz
end
section
variable {Y : Cfg} {Z : Zs} {ms : List Addr} {H H1 : Hp} {st : Store}
theorem StOk.notCode (k : StOk Y Z ms H st) {c : Addr} {q : Str} (h : H c = some (CodeO c q)) : ¬ Spc Y ms c := fun z => by
  rcases z with z | z
  · obtain ⟨n, hn⟩ := List.getElem?_of_mem z
    have hl : n < st.length := by
      have := (List.getElem?_eq_some_iff.mp hn).1
      have := k.len
      omega
    have cc := k.cells n st[n] c (List.getElem?_eq_getElem hl) hn
    cases e : st[n] with
    | dic kvs => rw [e] at cc; obtain ⟨vs, q1, _⟩ := cc; rw [h] at q1; cases q1
    | lst ds => rw [e] at cc; obtain ⟨vs, q1, _⟩ := cc; rw [h] at q1; cases q1
  · obtain ⟨p, hp, e⟩ := List.mem_map.mp z
    obtain ⟨ps, q1, _⟩ := k.tabs p hp
    rw [e, h] at q1
    exact codeO_ne ps (Option.some.inj q1)
/-- a table has grown: nothing else has changed -/
theorem Step.table (k : StOk Y Z ms H st) {P : Addr} (hP : P ∈ Y.tabs.map (·.1)) (kp : ∀ q o, H q = some o → q ≠ P → H1 q = some o) (t : Tabs Y.tabs H1) : Step Y Z ms H Z ms H1 st := by
  have nz : ∀ a, Z a → a ≠ P := fun a z e => k.zs a (.inr (e ▸ hP)) z
  have nm : ∀ a, a ∈ ms → a ≠ P := fun a z e => k.mt a z (e ▸ hP)
  refine ⟨⟨fun a z => ?_, k.len, fun n c a e1 e2 => ?_, k.nd, k.zs, k.mt, t⟩, fun _ h => h, fun _ h => .inl h, List.prefix_rfl, fun _ h => .inl h, fun a o e ns => kp a o e fun z => ns (.inr (z ▸ hP))⟩
  · cases e : H a with
    | none => exact absurd e (k.zdom a z)
    | some o => rw [kp a o e (nz a z)]; simp
  · have hm := List.mem_of_getElem? e2
    have c0 := k.cells n c a e1 e2
    refine c0.imp ?_ fun xs ds r => r.mono (fun _ z => z) List.prefix_rfl fun x o z e => kp x o e (nz x z)
    have ha : H a ≠ none := k.special (.inl hm)
    cases e : H a with
    | none => exact absurd e ha
    | some o => exact kp a o e (nm a hm)
end
/-- what a def that is called with a lambda promises; t: what the lambda is worth -/
structure LamOk (P : Program) (w : World) (K : PySem.W.Frag) (mg : Str → Option Value) (base : Heap) (Y : Cfg) (k : Nat) (x : Str) (cT : M D → M Slot) : Prop where
  ok : ∃ (g : Addr) (a : Str) (cdg : Value) (pg : Arguments) (bg : List Stmt) (sg : Scope) (Ng : List Str) (dV kV doc pm ct oc : Value) (an od : Option Addr) (osl : Array (Option Value)),
    mg x = some (.ref g) ∧ PySem.W.keepIn K (.ref g) = true ∧ K.lookup g = some ⟨oc, od, .func (PySem.W.fnOf x x pg bg sg dV kV doc pm an cdg ct), osl⟩ ∧ PySem.W.codeIn K cdg x = true ∧
    Binds K (PySem.W.fnOf x x pg bg sg dV kV doc pm an cdg ct) [a] [] ∧ FnScope Ng [a] sg ∧ Ng[0]? = some a ∧ Vis sg a ∧ (a == ("__debug__" : Str)) = false ∧ (a == ("__classdict__" : Str)) = false ∧
    ∀ (A : Around) (outer : List Env) (s : Shared) (H : Hp) (f : Addr) (Q : VK) (E : XK) (Z : Zs) (ms : List Addr) (st : Store) (t : M D), Room k (A.deeper (envOfC x sg s.heap.objs.size g cdg)) → A.guards = some [] → StOk Y Z ms H st →
      (∀ (pn : List (Addr × Obj)) (xe : Value → Shared → Prop) (W : WX) (p1 p2 : Pos), Takes ((cxOf (L2.CX P w) P w K mg base Ng x sg g cdg A outer s H E).tr pn xe) W → PE ((cxOf (L2.CX P w) P w K mg base Ng x sg g cdg A outer s H E).tr pn xe) (.Call (.Name a p1) [] [] p2)
        (fun τ HZ Q => ∃ ZZ mZ stZ, τ[0]? = some (some (.ref f)) ∧ Step Y Z ms H ZZ mZ HZ stZ ∧ Post Y W (VD Y) τ ZZ mZ HZ stZ (t stZ) Q)) →
      PostC Y Z ms H (cT t st) Q E → ∃ tr, PSs (cxOf (L2.CX P w) P w K mg base Ng x sg g cdg A outer s H E) bg tr ∧ tr { nx := fun _ H' => Q .non H', rt := Q } (L2.start Ng [.ref f]) H
section
variable {X : Cx} {Y : Cfg} {O : Own} {Wx : WX} {k : Nat} {x : Str} {cT : M D → M Slot} {mb : Ev} {c P : Addr} {ar : Arguments} {b : Expr} {sc : Scope} {p lpos pos : Pos}
theorem sc_lam (F : LamOk X.prog X.w X.K X.mg X.base Y (k + 1) x cT) (hr : Room (k + 2) X.A) (hgd : X.A.guards = some []) (tk : Takes X Wx) (hg : Gl X x) (hdb : (x == ("__debug__" : Str)) = false)
    (TB : TabB X.base X.mg c P) (hc : X.env.code = .ref c) (hm : (P, lamQ X) ∈ Y.tabs) (hu : ∀ p ∈ Y.tabs, p.1 = P → p.2 = lamQ X) (L : LamS X.env.scope sc) (hd : defaultsOf ar X.env = ([], []))
    (bnd : ∀ (q : Str) (cl : List (Str × Addr)) (pm cv ct : Value), bindArgs (PySem.W.kla_fn "<lambda>" q ar b sc cl pm cv ct) ⟨[], []⟩ = pure [])
    (bod : ∀ (A : Around) (outer : List Env) (s : Shared) (H : Hp) (E : XK) (f cc : Addr), Room k (A.deeper (lamEnv X sc s.heap.objs.size f cc)) → A.guards = some [] → PE (lamCx X A outer s H E sc f cc) b (RE Y O (fun cls d _ H' => E cls d H') mb)) :
    PE X (.Call (.Name x p) [.Lambda ar b sc lpos] [] pos) (RC Y O Wx fun δ => cT (mb δ)) := by
  refine ⟨fun pins s σ H Q I ⟨δ, st, Z, ms, R, Po⟩ => ?_⟩
  obtain ⟨g, a, cdg, pg, bg, sg, Ng, dV, kV, doc, pm, ct, oc, an, od, osl, mx, kp, lk, cI, hb, S, n0, va, nd, nc, run⟩ := F.ok
  refine wpAny_Call_Name_kw (ld_glob I hg mx ?_ hdb)
  refine PySem.W.callWith_K (h₀ := X.base) I.ok.mod.kin kp ?_ (by rfl) (by rfl)
  show wpAny _ _ (spliced ((false, eval (.Lambda ar b sc lpos) X.env) :: backTo pos (starEach [] X.env))) _ _ s
  refine Calls.spliced_cons (make_lam I TB hc hm hu R.ok.tabs hd (L.has I.ok) fun f cc pm' ct' H1 s' I1 kp1 T1 hf hfn hfr hco => ?_)
  refine Calls.spliced_nil ⟨I1.kIn, ?_⟩
  have s1 : Step Y Z ms H Z ms H1 st := Step.table R.ok (List.mem_map_of_mem hm) kp1 T1
  have R1 := R.step s1
  have ncc := R1.ok.notCode hco
  have PC : PostC Y Z ms H1 (cT (mb δ) st) Q (WE Wx σ) := by
    have P2 := Po.shift R.ok s1
    dsimp only at P2
    cases e : cT (mb δ) st with
    | ok sl st' => rw [e] at P2; exact fun v H' Z' ms' s' q => P2 v H' Z' ms' s' (q.back (s1.back R.ok))
    | exn C fs st' => rw [e] at P2; exact P2
    | bad => rw [e] at P2; exact P2
  have rc : codeAny (model X.prog X.w) X.A (.call (.ref g) ⟨[.ref f], []⟩) (CR (L2.CX X.prog X.w) X.stack X.prog X.w H1 s' Q (WE Wx σ)) s' := by
    refine run_ofS (N := Ng) (ps := [a]) (us := [.ref f]) (vs := [.ref f]) lk cI S hr I1.env0 (hb s' [.ref f] I1.kIn rfl) (.cons rfl .nil) rfl fun hr' => ?_
    refine run X.A X.stack s' H1 f Q (WE Wx σ) Z ms st (mb δ) hr' hgd R1.ok (fun pn xe W p1 p2 tk' => ?_) PC
    have act := act_thunk (tb := fun E => RE Y O (fun cls d _ H' => E cls d H') mb) (p1 := p1) (p2 := p2) I1 L hf hfn hfr (bnd _ _ _ _ _) tk' hr' hgd (fun A outer s H E hr2 hg2 => bod A outer s H E f cc hr2 hg2) n0 va nd nc
    refine act.imp fun τ HZ Q' ⟨ZZ, mZ, stZ, h1, h2, h3⟩ => ⟨h1, h2.kp cc _ hco ncc, δ, stZ, ZZ, mZ, R1.step h2, ?_⟩
    cases e : mb δ stZ with
    | ok d st' => rw [e] at h3; exact h3
    | exn C fs st' => rw [e] at h3; exact h3
    | bad => rw [e] at h3; exact h3
  refine wpAny_call (codeAny_mono rc fun res s2 hq => ?_)
  match res, hq with
  | .error e, hq => exact passAt tk σ pins H1 s' e s2 I1 hq
  | .ok (.ret u), hq => exact I1.after hq
  | .ok .next, hq => exact False.elim hq
  | .ok .brk, hq => exact False.elim hq
  | .ok .cont, hq => exact False.elim hq
end
end Sw

set_option Elab.async false
set_option linter.all false
set_option maxRecDepth 100000
/-! Sw, part K: operations that make a list that nobody else has. -/
namespace Sw
open PySem PySem.Spec PyProof.Rows L2
variable {Y : Cfg} {O : Own} {Wx : WX} {X : Cx} {pos : Pos} {a b c : Expr} {ma mb mc : Ev} {es : List Expr} {ml : Fr → M (List D)} {δ : Fr} {σ : L2.St}
variable {Z Z1 : Zs} {ms ms1 : List Addr} {H H1 : Hp} {st st1 : Store} {Q : VK}
theorem binD_cat {xs ys : List D} {d : D} (h : binD .Add (.lst xs) (.lst ys) = some d) : okLen (xs.length + ys.length) = true ∧ d = .lst (xs ++ ys) := by
  unfold binD at h
  dsimp only at h
  split at h
  · rename_i hz
    cases h
    exact ⟨hz, rfl⟩
  · cases h
theorem binD_rep {xs : List D} {k : Int} {d : D} (h : binD .Mult (.lst xs) (.int k) = some d) : (-(2 ^ 63) ≤ k ∧ k < 2 ^ 63 ∧ xs.length * k.toNat ≤ sizeLine) ∧ d = .lst (List.replicate k.toNat xs).flatten := by
  unfold binD at h
  dsimp only at h
  split at h
  · rename_i hz
    cases h
    exact ⟨of_decide_eq_true hz, rfl⟩
  · cases h
theorem binF_some {op : Operator} {x y d : D} (h : binF op x y = some d) : (op = .Add ∧ ∃ xs ys, x = .lst xs ∧ y = .lst ys ∧ binD .Add x y = some d) ∨ (op = .Mult ∧ ∃ xs k, x = .lst xs ∧ y = .int k ∧ binD .Mult x y = some d) := by
  unfold binF at h
  split at h
  · exact .inl ⟨rfl, _, _, rfl, rfl, h⟩
  · exact .inr ⟨rfl, _, _, rfl, rfl, h⟩
  · cases h
theorem sf_bin {op : Operator} (ho : op = .Add ∨ op = .Mult) (ha : PE X a (REB Y O Wx ma)) (hb : PE X b (REB Y O Wx mb)) :
    PE X (.BinOp a op b pos) (RF Y O Wx fun δ => M.bind (ma δ) fun x => M.bind (mb δ) fun y => M.of (binF op x y)) := by
  rcases ho with rfl | rfl
  · refine (pe_op op_cat ha hb).imp fun σ H Q ⟨δ, st, Z, ms, R, P⟩ => rg_seq R P fun x st1 v H1 Z1 ms1 s1 R1 vx P1 => rg_seq R1 P1 fun y st2 u H2 Z2 ms2 s2 R2 vy P2 => ?_
    obtain ⟨z, e, P3⟩ := Post.of P2
    rcases binF_some e with ⟨_, xs, ys, rfl, rfl, e2⟩ | ⟨ho, _⟩
    · obtain ⟨hz, rfl⟩ := binD_cat e2
      obtain ⟨p, vs, rfl, q1, r1⟩ := (s2.denB R1.ok vx).lst
      obtain ⟨p2, us, rfl, q2, r2⟩ := vy.lst
      exact ⟨p, p2, vs, us, rfl, rfl, q1, q2, by rw [r1.length, r2.length]; exact okLen_le hz, fin_fr P3 R2.ok (fun p hp => s1.back R.ok p (s2.back R1.ok p hp)) (r1.append r2)⟩
    · cases ho
  · refine (pe_op op_rep ha hb).imp fun σ H Q ⟨δ, st, Z, ms, R, P⟩ => rg_seq R P fun x st1 v H1 Z1 ms1 s1 R1 vx P1 => rg_seq R1 P1 fun y st2 u H2 Z2 ms2 s2 R2 vy P2 => ?_
    obtain ⟨z, e, P3⟩ := Post.of P2
    rcases binF_some e with ⟨ho, _⟩ | ⟨_, xs, k, rfl, rfl, e2⟩
    · cases ho
    · obtain ⟨⟨h1, h2, h3⟩, rfl⟩ := binD_rep e2
      obtain ⟨p, vs, rfl, q1, r1⟩ := (s2.denB R1.ok vx).lst
      exact ⟨p, k, vs, rfl, vy.int, q1, h1, h2, by rw [r1.length]; exact h3, fin_fr P3 R2.ok (fun p hp => s1.back R.ok p (s2.back R1.ok p hp)) (r1.rep _)⟩
theorem sf_slice {lo hi : Option Expr} {ml mh : Option Ev} {p2 : Pos} (ha : PE X a (REB Y O Wx ma)) (hl : PO X lo (RO Y O Wx fun δ => optM ml δ)) (hh : PO X hi (RO Y O Wx fun δ => optM mh δ)) :
    PE X (.Subscript a (.Slice lo hi none p2) pos) (RF Y O Wx fun δ => M.bind (ma δ) fun x => M.bind (optM ml δ) fun l => M.bind (optM mh δ) fun h => M.of (sliceF l h x)) := (pe_slice sl_list ha hl hh).imp fun σ H Q ⟨δ, st, Z, ms, R, P⟩ =>
  rg_seq R P fun x st1 v H1 Z1 ms1 s1 R1 vx P1 => rg_seq R1 P1 fun l st2 l' H2 Z2 ms2 s2 R2 vl P2 => rg_seq R2 P2 fun h st3 h' H3 Z3 ms3 s3 R3 vh P3 => by
    cases vl
    cases vh
    obtain ⟨z, e, P4⟩ := Post.of P3
    cases x with
    | lst ds =>
      cases e
      obtain ⟨p, xs, rfl, q, r⟩ := (s3.denB R2.ok (s2.denB R1.ok vx)).lst
      exact ⟨p, xs, rfl, SqL.of q, fin_fr P4 R3.ok (fun p hp => s1.back R.ok p (s2.back R1.ok p (s3.back R2.ok p hp))) (cutD_den r)⟩
    | _ => cases e
theorem sf_back {k : Nat} {p1 p2 p3 : Pos} (ha : PE X a (REB Y O Wx ma)) : PE X (backE a k p1 p2 p3 pos) (RF Y O Wx fun δ => M.bind (ma δ) fun x => M.of (revF x)) :=
  (pe_revL ha).imp fun σ H Q ⟨δ, st, Z, ms, R, P⟩ => rg_seq R P fun x st1 v H1 Z1 ms1 s1 R1 vx P1 => by
    obtain ⟨z, e, P2⟩ := Post.of P1
    cases x with
    | lst ds =>
      cases e
      obtain ⟨p, xs, rfl, q, r⟩ := vx.lst
      exact ⟨p, xs, rfl, SqL.of q, fin_fr P2 R1.ok (s1.back R.ok) r.reverse⟩
    | _ => cases e
/-! list(..), sorted(..) -/
def rBiF (Y : Cfg) (b : BI) : List V → Hp → VK → Prop := fun vs H Q => ∃ Z ms st ds gs, StOk Y Z ms H st ∧ DenBL Y Z ms H vs ds ∧ biD b ds = some (.lst gs) ∧ ∀ xs, DenL Y Z ms H xs gs → ∀ p, H p = none → Q (.ref p) (upd H p (.lst xs))
theorem call_listF (hK : X.K = Y.K) : CallR X (.type "list") (rBiF Y .list) := by
  intro pins s σ H xs us Q I r ⟨Z, ms, st, ds, gs, k, hx, e, q⟩
  unfold biD at e
  split at e
  all_goals first
    | (rename_i hb; exact absurd hb (by decide))
    | skip
  all_goals first
    | (obtain ⟨v, rfl, hb⟩ := hx.one
       simp only [Option.map_eq_some_iff] at e
       obtain ⟨fs, e1, e2⟩ := e
       cases e2
       obtain ⟨p, ys, rfl, rr, qq | qq⟩ := listO_some hb e1
       · exact call_list_of pins s σ H _ us Q I r ⟨p, ys, rfl, .inl (by rw [hK]; exact qq), q _ rr⟩
       · exact call_list_of pins s σ H _ us Q I r ⟨p, ys, rfl, .inr (by rw [hK]; exact qq), q _ rr⟩)
    | (cases e)
theorem call_sortedF (hK : X.K = Y.K) : CallR X (.builtin "sorted") (rBiF Y .sorted) := by
  intro pins s σ H xs us Q I r ⟨Z, ms, st, ds, gs, k, hx, e, q⟩
  unfold biD at e
  split at e
  all_goals first
    | (rename_i hb; exact absurd hb (by decide))
    | skip
  all_goals first
    | (obtain ⟨v, rfl, hb⟩ := hx.one
       obtain ⟨es, e1, e2⟩ := Option.bind_eq_some_iff.mp e
       simp only [Option.map_eq_some_iff] at e2
       obtain ⟨fs, e3, e4⟩ := e2
       cases e4
       unfold sortedD at e3
       split at e3
       · rename_i ns e5
         cases e3
         obtain ⟨p, ys, rfl, rr, ⟨rfl, qq⟩ | ⟨rfl, qq⟩⟩ := rowOf_some hb e1
         · have := rr.ints e5
           subst this
           refine cr_sortedI pins s σ H _ us Q I r ⟨p, ns, rfl, SqL.of qq, fun ns' p h1 h2 hp => ?_⟩
           rw [sorted_uniq (h1.trans (sortI_perm ns).symm) h2 (sortI_sorted ns)]
           exact q _ (denL_ints _) p hp
         · have := rr.ints e5
           subst this
           refine cr_sortedT pins s σ H _ us Q I r ⟨p, ns, rfl, by rw [hK]; exact qq, fun ns' p h1 h2 hp => ?_⟩
           rw [sorted_uniq (h1.trans (sortI_perm ns).symm) h2 (sortI_sorted ns)]
           exact q _ (denL_ints _) p hp
       · cases e3)
    | (cases e)
theorem biF_lst {b : BI} {ds : List D} {z : D} (hb : b = .list ∨ b = .sorted) (e : biD b ds = some z) : ∃ gs, z = .lst gs := by
  rcases hb with rfl | rfl
  · unfold biD at e
    split at e
    all_goals first
      | (rename_i hb; exact absurd hb (by decide))
      | (simp only [Option.map_eq_some_iff] at e
         obtain ⟨fs, _, rfl⟩ := e
         exact ⟨_, rfl⟩)
      | (cases e)
  · unfold biD at e
    split at e
    all_goals first
      | (rename_i hb; exact absurd hb (by decide))
      | (obtain ⟨es, e1, e2⟩ := Option.bind_eq_some_iff.mp e
         simp only [Option.map_eq_some_iff] at e2
         obtain ⟨fs, _, rfl⟩ := e2
         exact ⟨_, rfl⟩)
      | (cases e)
theorem sf_bi (hK : X.K = Y.K) (b : BI) (hb : b = .list ∨ b = .sorted) {p : Pos} {e : Expr} (hg : Gl X b.nm) (hm : X.mg b.nm = none) (ha : PA X (e :: es) (RLB Y O Wx ml))
    (he : starEach (e :: es) X.env = (false, eval e X.env) :: starEach es X.env) (hpl : (backTo pos (starEach es X.env)).any (·.1) = false) :
    PE X (.Call (.Name b.nm p) (e :: es) [] pos) (RF Y O Wx fun δ => M.bind (ml δ) fun ds => M.of (biD b ds)) := by
  have i : ∀ σ H Q, RF Y O Wx (fun δ => M.bind (ml δ) fun ds => M.of (biD b ds)) σ H Q → tCB (rBiF Y b) (RLB Y O Wx ml) σ H Q := fun σ H Q ⟨δ, st, Z, ms, R, P⟩ =>
    rg_seq R P fun ds st1 vs H1 Z1 ms1 s1 R1 vds P1 => by
      obtain ⟨z, e, P3⟩ := Post.of P1
      obtain ⟨gs, rfl⟩ := biF_lst hb e
      exact ⟨Z1, ms1, st1, ds, gs, R1.ok, vds, e, fun xs r => fin_fr P3 R1.ok (s1.back R.ok) r⟩
  rcases hb with rfl | rfl
  · exact (pe_callTy (call_listF hK) hg hm (BI.boot .list) ha (by decide) (by decide) he hpl).imp i
  · exact (pe_callB (call_sortedF hK) hg hm (BI.boot .sorted) ha (by decide) (by decide) he hpl).imp i
end Sw

set_option Elab.async false
set_option linter.all false
set_option maxRecDepth 100000
/-! Sw, part M: statements, rule by rule. -/
namespace Sw
open PySem PySem.Spec PyProof.Rows L2
variable {Y : Cfg} {O : Own} {Wx : WX} {X : Cx} {pos : Pos} {a b c tg : Expr} {ma mb mc : Ev} {es : List Expr} {ml : Fr → M (List D)} {δ : Fr} {σ : L2.St}
variable {Z Z1 : Zs} {ms ms1 : List Addr} {H H1 : Hp} {st st1 : Store} {Q : VK} {N : Ends}
/-- what is wanted of a statement's end -/
def PostS (Y : Cfg) (O : Own) (Wx : WX) (Z : Zs) (ms : List Addr) (H : Hp) (N : Ends) : Res Flow → Prop
  | .ok (.next δ') st' => ∀ σ' H' Z' ms', StepZ Y Z ms H Z' ms' H' st' → Rel Y O Z' ms' δ' σ' H' st' → N.nx σ' H'
  | .ok (.brk δ') st' => ∀ σ' H' Z' ms', StepZ Y Z ms H Z' ms' H' st' → Rel Y O Z' ms' δ' σ' H' st' → N.bk σ' H'
  | .ok (.cont δ') st' => ∀ σ' H' Z' ms', StepZ Y Z ms H Z' ms' H' st' → Rel Y O Z' ms' δ' σ' H' st' → N.ct σ' H'
  | .ok (.ret s) st' => ∀ v H' Z' ms', StepZ Y Z ms H Z' ms' H' st' → Step Y O.Z0 O.ms0 O.H0 Z' ms' H' st' → VSl Y O.H0 Z' ms' H' v s → N.rt v H'
  | .ok (.exc c fs δ') st' => ∀ d σ' H' Z' ms', StepZ Y Z ms H Z' ms' H' st' → Rel Y O Z' ms' δ' σ' H' st' → ExcD Y Z' ms' H' d fs → Wx (.ref (Y.ca c)) (some d) σ' H'
  | _ => False
def RS (Y : Cfg) (O : Own) (Wx : WX) (m : Ex) : TS := fun N σ H => ∃ δ st Z ms, Rel Y O Z ms δ σ H st ∧ PostS Y O Wx Z ms H N (m δ st)
theorem PostS.shift {r : Res Flow} (h : PostS Y O Wx Z ms H N r) (s : StepZ Y Z ms H Z1 ms1 H1 st1) : PostS Y O Wx Z1 ms1 H1 N r := by
  match r, h with
  | .ok (.next δ') st', h => exact fun σ' H' Z' ms' s' R => h σ' H' Z' ms' (s.trans s') R
  | .ok (.brk δ') st', h => exact fun σ' H' Z' ms' s' R => h σ' H' Z' ms' (s.trans s') R
  | .ok (.cont δ') st', h => exact fun σ' H' Z' ms' s' R => h σ' H' Z' ms' (s.trans s') R
  | .ok (.ret sl) st', h => exact fun v H' Z' ms' s' R q => h v H' Z' ms' (s.trans s') R q
  | .ok (.exc c fs δ') st', h => exact fun d σ' H' Z' ms' s' R q => h d σ' H' Z' ms' (s.trans s') R q
  | .exn _ _ _, h => exact h
  | .bad, h => exact h
/-- an expression first -/
theorem rs_at {α β : Type} {VR : VRel α β} {m : Fr → M α} {k : α → M Flow} {Q : β → Hp → Prop} (R : Rel Y O Z ms δ σ H st) (P : PostS Y O Wx Z ms H N (M.at (m δ) δ k st))
    (h : ∀ a st1 v H1 Z1 ms1, Step Y Z ms H Z1 ms1 H1 st1 → Rel Y O Z1 ms1 δ σ H1 st1 → VR Z1 ms1 H1 v a → PostS Y O Wx Z1 ms1 H1 N (k a st1) → Q v H1) : RG Y O Wx VR m σ H Q := by
  refine ⟨δ, st, Z, ms, R, ?_⟩
  unfold M.at at P
  cases e : m δ st with
  | ok x st' =>
    rw [e] at P
    exact fun v H' Z' ms' s q => h x st' v H' Z' ms' s (R.step s) q (P.shift (s.z R.ok))
  | exn c fs st' =>
    rw [e] at P
    exact fun d H' Z' ms' s q => P d σ H' Z' ms' (s.z R.ok) (R.step s) q
  | bad => rw [e] at P; exact P
theorem PostS.of {β : Type} {o : Option β} {k : β → M Flow} (P : PostS Y O Wx Z ms H N (M.bind (M.of o) k st)) : ∃ x, o = some x ∧ PostS Y O Wx Z ms H N (k x st) := by
  cases o with
  | none => exact P.elim
  | some x => exact ⟨x, rfl, P⟩
theorem PostS.guard {b : Bool} {k : Unit → M Flow} (P : PostS Y O Wx Z ms H N (M.bind (M.guard b) k st)) : b = true ∧ PostS Y O Wx Z ms H N (k () st) := by
  cases b with
  | false => exact P.elim
  | true => exact ⟨rfl, P⟩
theorem PostS.nx (P : PostS Y O Wx Z ms H N (M.pure (.next δ) st)) (R : Rel Y O Z ms δ σ H st) : N.nx σ H := P σ H Z ms (StepZ.refl R.ok) R
theorem PostS.rt {sl : Slot} {v : V} (P : PostS Y O Wx Z ms H N (M.pure (.ret sl) st)) (R : Rel Y O Z ms δ σ H st) (q : VSl Y O.H0 Z ms H v sl) : N.rt v H := P v H Z ms (StepZ.refl R.ok) R.base q

/-! ### blocks, small statements -/
theorem sss_nil : PSs X [] (RS Y O Wx fun δ => M.pure (.next δ)) := pss_nil.imp fun N σ H ⟨δ, st, Z, ms, R, P⟩ => PostS.nx P R
theorem sss_cons {s : Stmt} {r : List Stmt} {m n : Ex} (h1 : PS X s (RS Y O Wx m)) (h2 : PSs X r (RS Y O Wx n)) : PSs X (s :: r) (RS Y O Wx (seqX m n)) := (pss_cons h1 h2).imp fun N σ H ⟨δ, st, Z, ms, R, P⟩ => by
  refine ⟨δ, st, Z, ms, R, ?_⟩
  unfold seqX M.bind at P
  cases e : m δ st with
  | ok f st' =>
    rw [e] at P
    cases f with
    | next δ' => exact fun σ' H' Z' ms' s' R' => ⟨δ', st', Z', ms', R', P.shift s'⟩
    | brk δ' => exact P
    | cont δ' => exact P
    | ret sl => exact P
    | exc c fs δ' => exact P
  | exn c fs st' => rw [e] at P; exact P
  | bad => rw [e] at P; exact P
theorem ss_pass : PS X (.Pass pos) (RS Y O Wx fun δ => M.pure (.next δ)) := ps_pass.imp fun N σ H ⟨δ, st, Z, ms, R, P⟩ => PostS.nx P R
theorem ss_brk : PS X (.Break pos) (RS Y O Wx fun δ => M.pure (.brk δ)) := ps_break.imp fun N σ H ⟨δ, st, Z, ms, R, P⟩ => P σ H Z ms (StepZ.refl R.ok) R
theorem ss_cont : PS X (.Continue pos) (RS Y O Wx fun δ => M.pure (.cont δ)) := ps_continue.imp fun N σ H ⟨δ, st, Z, ms, R, P⟩ => P σ H Z ms (StepZ.refl R.ok) R
theorem ss_retN : PS X (.Return none pos) (RS Y O Wx fun _ => M.pure (.ret (.sh .non))) := ps_retN.imp fun N σ H ⟨δ, st, Z, ms, R, P⟩ => PostS.rt P R .non
theorem ss_ex (ha : PE X a (RE Y O Wx ma)) (hs : swapsWith a none pos.line X.env = pure false) : PS X (.Expr a pos) (RS Y O Wx fun δ => M.at (ma δ) δ fun _ => M.pure (.next δ)) :=
  (ps_expr ha hs).imp fun N σ H ⟨δ, st, Z, ms, R, P⟩ => rs_at R P fun d st1 v H1 Z1 ms1 s1 R1 vd P1 => PostS.nx P1 R1
theorem ss_ret (ha : PE X a (RE Y O Wx ma)) : PS X (.Return (some a) pos) (RS Y O Wx fun δ => M.at (ma δ) δ fun d => M.pure (.ret (.sh d))) :=
  (ps_ret ha).imp fun N σ H ⟨δ, st, Z, ms, R, P⟩ => rs_at R P fun d st1 v H1 Z1 ms1 s1 R1 vd P1 => PostS.rt P1 R1 vd
theorem rs_atF {m : Ev} {k : D → M Flow} {Q : VK} (R : Rel Y O Z ms δ σ H st) (P : PostS Y O Wx Z ms H N (M.at (m δ) δ k st))
    (h : ∀ a st1 v H1 Z1 ms1, Step Y Z ms H Z1 ms1 H1 st1 → Rel Y O Z1 ms1 δ σ H1 st1 → VFr Y H Z1 ms1 H1 v a → PostS Y O Wx Z1 ms1 H1 N (k a st1) → Q v H1) : RF Y O Wx m σ H Q := rs_at R P h
theorem VFr.back {Hs Hs' : Hp} {v : V} {d : D} (b : ∀ p, Hs p = none → Hs' p = none) (h : VFr Y Hs Z ms H v d) : VFr Y Hs' Z ms H v d := by
  obtain ⟨q, xs, es, e1, e2, e3, e4, e5⟩ := h
  exact ⟨q, xs, es, e1, e2, e3, b q e4, e5⟩
theorem VFr.lst {Hs : Hp} {v : V} {d : D} {ds : List D} (h : VFr Y Hs Z ms H v d) (e : lstOf d = some ds) : d = .lst ds := by
  obtain ⟨q, xs, es, e1, rfl, _⟩ := h
  cases e
  rfl
theorem ss_reto (ha : PE X a (RF Y O Wx ma)) : PS X (.Return (some a) pos) (RS Y O Wx fun δ => M.at (ma δ) δ fun d => M.bind (M.of (lstOf d)) fun ds => M.pure (.ret (.ow ds))) :=
  (ps_ret ha).imp fun N σ H ⟨δ, st, Z, ms, R, P⟩ => rs_atF R P fun d st1 v H1 Z1 ms1 s1 R1 vd P1 => by
    obtain ⟨ds, e, P2⟩ := PostS.of P1
    have e2 := vd.lst e
    subst e2
    exact PostS.rt P2 R1 (vd.back (R.base.back R.k0))
theorem ownAt_some {i : Nat} {ds : List D} (h : ownAt δ i = some ds) : δ[i]? = some (some (.ow ds)) := by
  unfold ownAt at h
  split at h
  · rename_i e
    cases h
    exact e
  · cases h
theorem ss_retv {i : Nat} {x : Str} {p : Pos} (hN : X.N[i]? = some x) (hv : Vis X.env.scope x) (hd : (x == ("__debug__" : Str)) = false) (hcd : (x == ("__classdict__" : Str)) = false) :
    PS X (.Return (some (.Name x p)) pos) (RS Y O Wx fun δ => M.bind (M.of (ownAt δ i)) fun ds => M.pure (.ret (.ow ds))) := (ps_ret (pe_var hN hv hd hcd)).imp fun N σ H ⟨δ, st, Z, ms, R, P⟩ => by
  obtain ⟨ds, e, P2⟩ := PostS.of P
  obtain ⟨x', ex, q, xs, rfl, h1, h2, h3, h4, h5⟩ := R.slots i _ (ownAt_some e)
  exact ⟨_, ex, PostS.rt P2 R ⟨q, xs, ds, rfl, rfl, h1, h2, h3, h4, h5⟩⟩
theorem ss_if {mt : Fr → M Bool} {u v : List Stmt} {m n : Ex} (hc : PT X c (RT Y O Wx mt)) (h1 : PSs X u (RS Y O Wx m)) (h2 : PSs X v (RS Y O Wx n)) :
    PS X (.If c u v pos) (RS Y O Wx fun δ => M.at (mt δ) δ fun r => if r = true then m δ else n δ) := (ps_if hc h1 h2).imp fun N σ H ⟨δ, st, Z, ms, R, P⟩ =>
  rs_at R P fun r st1 v H1 Z1 ms1 s1 R1 vr P1 => by
    cases vr
    cases r with
    | true => rw [if_pos rfl]; exact ⟨δ, st1, Z1, ms1, R1, P1⟩
    | false => rw [if_neg (by simp)]; exact ⟨δ, st1, Z1, ms1, R1, P1⟩

/-! ### stores -/
theorem as_read {t : T} (h : RS Y O Wx (fun δ => M.at (ma δ) δ fun d => M.bind (M.of (bindT t d δ)) fun δ' => M.pure (.next δ')) N σ H) : tAsg (RE Y O Wx ma) (GT Y O t) N σ H := by
  obtain ⟨δ, st, Z, ms, R, P⟩ := h
  refine rs_at R P fun d st1 v H1 Z1 ms1 s1 R1 vd P1 => ?_
  obtain ⟨δ', e, P2⟩ := PostS.of P1
  exact ⟨δ, st1, Z1, ms1, d, δ', R1, vd, e, fun σ' R' _ _ => PostS.nx P2 R'⟩
theorem as_name {i : Nat} (h : RS Y O Wx (fun δ => M.at (ma δ) δ fun d => M.bind (M.of (bindT (.nm i) d δ)) fun δ' => M.pure (.next δ')) N σ H) : tAsg (RE Y O Wx ma) (gName i) N σ H := by
  obtain ⟨δ, st, Z, ms, R, P⟩ := h
  refine rs_at R P fun d st1 v H1 Z1 ms1 s1 R1 vd P1 => ?_
  obtain ⟨δ', e, P2⟩ := PostS.of P1
  unfold bindT at e
  split at e
  · rename_i hl
    cases e
    exact PostS.nx P2 (R1.set vd hl)
  · cases e
/-- a new list is stored under a name -/
theorem Rel.setOw {i : Nat} {p : Addr} {xs : List V} {ds : List D} (R : Rel Y O Z ms δ σ H st) (hi : i < δ.length) (h1 : H p = some (.lst xs)) (h0 : O.H0 p = none) (nz : ¬ Z p) (ns : ¬ Spc Y ms p) (r : DenL Y Z ms H xs ds) (no : Nown p δ σ) :
    Rel Y O Z ms (δ.set i (some (.ow ds))) (σ.set i (some (.ref p))) H st := by
  have hj : i < σ.length := by rw [← R.len]; exact hi
  refine ⟨R.k0, R.base, by rw [List.length_set, List.length_set, R.len], fun j s e => ?_, fun j k ds es q e1 e2 e3 e4 => ?_⟩
  · by_cases z : i = j
    · subst z
      rw [List.getElem?_set_self hi] at e
      cases e
      exact ⟨_, List.getElem?_set_self hj, p, xs, rfl, h1, h0, nz, ns, r⟩
    · rw [List.getElem?_set_ne z] at e ⊢
      exact R.slots j s e
  · by_cases z1 : i = j
    · by_cases z2 : i = k
      · rw [← z1, ← z2]
      · subst z1
        rw [List.getElem?_set_self hj] at e3
        cases e3
        rw [List.getElem?_set_ne z2] at e2 e4
        exact absurd e4 (no k _ e2)
    · rw [List.getElem?_set_ne z1] at e1 e3
      by_cases z2 : i = k
      · subst z2
        rw [List.getElem?_set_self hj] at e4
        cases e4
        exact absurd e3 (no j _ e1)
      · rw [List.getElem?_set_ne z2] at e2 e4
        exact R.inj j k ds es q e1 e2 e3 e4
theorem storeF_some {i : Nat} {s : Slot} {δ' : Fr} (h : storeF δ i s = some δ') : i < δ.length ∧ δ' = δ.set i (some s) := by
  unfold storeF at h
  split at h
  · rename_i hl
    cases h
    exact ⟨hl, rfl⟩
  · cases h
theorem own_name {i : Nat} (h : RS Y O Wx (fun δ => M.at (ma δ) δ fun d => M.bind (M.of (lstOf d)) fun ds => M.bind (M.of (storeF δ i (.ow ds))) fun δ' => M.pure (.next δ')) N σ H) : tAsg (RF Y O Wx ma) (gName i) N σ H := by
  obtain ⟨δ, st, Z, ms, R, P⟩ := h
  refine rs_atF R P fun d st1 v H1 Z1 ms1 s1 R1 vd P1 => ?_
  obtain ⟨ds, e, P2⟩ := PostS.of P1
  obtain ⟨δ', e2, P3⟩ := PostS.of P2
  obtain ⟨hl, rfl⟩ := storeF_some e2
  have e3 := vd.lst e
  subst e3
  obtain ⟨p, xs, es, rfl, e4, h1, h2, h3, h4, h5⟩ := vd
  cases e4
  exact PostS.nx P3 (R1.setOw hl h1 (R.base.back R.k0 p h2) h3 h4 h5 (R.nown h2))
/-! ### several values, several names -/
inductive VPs (Y : Cfg) (Hs : Hp) (Z : Zs) (ms : List Addr) (H : Hp) : List V → List Slot → Prop
  | nil : VPs Y Hs Z ms H [] []
  | cons {v : V} {s : Slot} {vs : List V} {ss : List Slot} : VSl Y Hs Z ms H v s → (∀ ds, s = .ow ds → ∀ (k : Nat) es, ss[k]? = some (.ow es) → vs[k]? ≠ some v) → VPs Y Hs Z ms H vs ss → VPs Y Hs Z ms H (v :: vs) (s :: ss)
def RPs (Y : Cfg) (O : Own) (Wx : WX) (m : Fr → M (List Slot)) : TA := fun σ H Q => ∃ δ st Z ms, Rel Y O Z ms δ σ H st ∧ Post Y Wx (VPs Y H) σ Z ms H st (m δ st) Q
theorem VFr.step {Hs : Hp} {v : V} {d : D} (h : VFr Y Hs Z ms H v d) (k : StOk Y Z ms H st) (s : Step Y Z ms H Z1 ms1 H1 st1) : VFr Y Hs Z1 ms1 H1 v d := by
  obtain ⟨p, xs, es, e1, e2, h1, h2, h3, h4, h5⟩ := h
  have A : Acc Y Z1 ms1 H1 p es := Acc.step ⟨⟨xs, h1, h5⟩, h3, h4⟩ k s
  obtain ⟨ys, h6, h7⟩ := A.ex
  exact ⟨p, ys, es, e1, e2, h6, h2, A.nz, A.ns, h7⟩
theorem VSl.step {Hs : Hp} {v : V} {sl : Slot} (h : VSl Y Hs Z ms H v sl) (k : StOk Y Z ms H st) (s : Step Y Z ms H Z1 ms1 H1 st1) : VSl Y Hs Z1 ms1 H1 v sl := by
  cases sl with
  | sh d => exact s.den k h
  | ow ds => exact VFr.step h k s
  | exc _ _ => exact h
  | thk => exact h
theorem VPs.step {Hs : Hp} {vs : List V} {ss : List Slot} (h : VPs Y Hs Z ms H vs ss) (k : StOk Y Z ms H st) (s : Step Y Z ms H Z1 ms1 H1 st1) : VPs Y Hs Z1 ms1 H1 vs ss := by
  induction h with
  | nil => exact .nil
  | cons a b c ih => exact .cons (a.step k s) b ih
theorem VPs.back {Hs Hs' : Hp} {vs : List V} {ss : List Slot} (bk : ∀ p, Hs p = none → Hs' p = none) (h : VPs Y Hs Z ms H vs ss) : VPs Y Hs' Z ms H vs ss := by
  induction h with
  | nil => exact .nil
  | cons a b c ih => exact .cons (a.back bk) b ih
theorem VPs.len {Hs : Hp} {vs : List V} {ss : List Slot} (h : VPs Y Hs Z ms H vs ss) : vs.length = ss.length := by
  induction h with
  | nil => rfl
  | cons a b c ih => rw [List.length_cons, List.length_cons, ih]
/-- an owned list among them is new -/
theorem VPs.new {Hs : Hp} {vs : List V} {ss : List Slot} (h : VPs Y Hs Z ms H vs ss) : ∀ {k : Nat} {es : List D}, ss[k]? = some (.ow es) → ∃ p, vs[k]? = some (.ref p) ∧ Hs p = none := by
  induction h with
  | nil => intro k es e; cases e
  | cons a b c ih =>
    intro k es e
    cases k with
    | zero =>
      cases e
      obtain ⟨p, xs, fs, rfl, _, _, h2, _⟩ := a
      exact ⟨p, rfl, h2⟩
    | succ k => exact ih e
theorem sS_nil : PA X [] (RPs Y O Wx fun _ => M.pure []) := pa_nil.imp fun σ H Q ⟨δ, st, Z, ms, R, P⟩ => P [] H Z ms (Step.refl R.ok) .nil
theorem sS_sh {mr : Fr → M (List Slot)} (ha : PE X a (RE Y O Wx ma)) (hr : PA X es (RPs Y O Wx mr)) (hs : starEach (a :: es) X.env = (false, eval a X.env) :: starEach es X.env) :
    PA X (a :: es) (RPs Y O Wx fun δ => M.bind (ma δ) fun d => M.bind (mr δ) fun r => M.pure (.sh d :: r)) := (pa_cons ha hr hs).imp fun σ H Q ⟨δ, st, Z, ms, R, P⟩ =>
  rg_seq R P fun d st1 v H1 Z1 ms1 s1 R1 vd P1 => rg_seq (VR := VPs Y H1) R1 P1 fun r st2 vs H2 Z2 ms2 s2 R2 vr P2 =>
    P2 _ _ _ _ (Step.refl R2.ok) (.cons (s2.den R1.ok vd) (fun ds e => by cases e) (vr.back (s1.back R.ok)))
theorem sS_ow {mr : Fr → M (List Slot)} (ha : PE X a (RF Y O Wx ma)) (hr : PA X es (RPs Y O Wx mr)) (hs : starEach (a :: es) X.env = (false, eval a X.env) :: starEach es X.env) :
    PA X (a :: es) (RPs Y O Wx fun δ => M.bind (ma δ) fun d => M.bind (M.of (lstOf d)) fun ds => M.bind (mr δ) fun r => M.pure (.ow ds :: r)) := (pa_cons ha hr hs).imp fun σ H Q ⟨δ, st, Z, ms, R, P⟩ =>
  rg_seq (VR := VFr Y H) R P fun d st1 v H1 Z1 ms1 s1 R1 vd P1 => by
    obtain ⟨ds, e, P1⟩ := Post.bindOf P1
    have e2 := vd.lst e
    subst e2
    refine rg_seq (VR := VPs Y H1) R1 P1 fun r st2 vs H2 Z2 ms2 s2 R2 vr P2 => P2 _ _ _ _ (Step.refl R2.ok) (.cons (vd.step R1.ok s2) (fun ds' _ k es ek hk => ?_) (vr.back (s1.back R.ok)))
    obtain ⟨p, hp, hn⟩ := vr.new ek
    obtain ⟨q, xs, fs, rfl, _, h1, _⟩ := vd
    rw [hk] at hp
    cases hp
    rw [h1] at hn
    cases hn
def setAll : L2.St → List (Bool × Nat) → List V → L2.St
  | σ, (_, i) :: is, v :: vs => setAll (σ.set i (some v)) is vs
  | σ, _, _ => σ
theorem Nown.set {p : Addr} {i : Nat} {s : Slot} {v : V} (n : Nown p δ σ) (hl : δ.length = σ.length) (h : ∀ ds, s = .ow ds → v ≠ .ref p) : Nown p (δ.set i (some s)) (σ.set i (some v)) := fun j ds e => by
  by_cases z : i = j
  · subst z
    by_cases hi : i < δ.length
    · rw [List.getElem?_set_self hi] at e
      cases e
      rw [List.getElem?_set_self (by omega)]
      exact fun q => h ds rfl (by cases q; rfl)
    · rw [List.getElem?_eq_none (by rw [List.length_set]; omega)] at e
      cases e
  · rw [List.getElem?_set_ne z] at e ⊢
    exact n j ds e
theorem Rel.stores {is : List (Bool × Nat)} {ss : List Slot} : ∀ {vs : List V} {δ δ' : Fr} {σ : L2.St}, Rel Y O Z ms δ σ H st → VPs Y O.H0 Z ms H vs ss → (∀ (k : Nat) es p, ss[k]? = some (.ow es) → vs[k]? = some (.ref p) → Nown p δ σ) → storesF is ss δ = some δ' → Rel Y O Z ms δ' (setAll σ is vs) H st := by
  induction is generalizing ss with
  | nil =>
    intro vs δ δ' σ R h no e
    cases ss with
    | nil => cases h; cases e; exact R
    | cons s ss => cases e
  | cons i is ih =>
    intro vs δ δ' σ R h no e
    obtain ⟨b, i⟩ := i
    cases ss with
    | nil => cases e
    | cons s ss =>
      cases h with
      | @cons v _ vs _ hv ha hr =>
        simp only [storesF, Option.bind_eq_some_iff] at e
        obtain ⟨δ1, e1, e2⟩ := e
        obtain ⟨hl, rfl⟩ := storeF_some e1
        have R1 : Rel Y O Z ms (δ.set i (some s)) (σ.set i (some v)) H st := by
          cases s with
          | sh d => exact R.set hv hl
          | ow ds =>
            obtain ⟨p, xs, fs, rfl, e4, h1, h2, h3, h4, h5⟩ := hv
            cases e4
            exact R.setOw hl h1 h2 h3 h4 h5 (no 0 _ p rfl rfl)
          | exc _ _ => exact hv.elim
          | thk => exact hv.elim
        refine ih R1 hr (fun k es p e3 e4 => ?_) e2
        refine (no (k + 1) es p e3 e4).set R.len fun ds es' q => ha ds es' k es e3 (q ▸ e4)
theorem par_stores {is : List (Bool × Nat)} {ss : List Slot} {vs : List V} {δ' : Fr} (R : Rel Y O Z ms δ σ H st) (s : Step Y Z ms H Z1 ms1 H1 st1) (h : VPs Y H Z1 ms1 H1 vs ss) (e : storesF is ss δ = some δ') : Rel Y O Z1 ms1 δ' (setAll σ is vs) H1 st1 :=
  (R.step s).stores (h.back (R.base.back R.k0)) (fun k es p e1 e2 => by
    obtain ⟨q, e3, e4⟩ := h.new e1
    rw [e2] at e3
    cases e3
    exact R.nown e4) e
theorem rs_atP {m : Fr → M (List Slot)} {k : List Slot → M Flow} {Q : List V → Hp → Prop} (R : Rel Y O Z ms δ σ H st) (P : PostS Y O Wx Z ms H N (M.at (m δ) δ k st))
    (h : ∀ a st1 v H1 Z1 ms1, Step Y Z ms H Z1 ms1 H1 st1 → Rel Y O Z1 ms1 δ σ H1 st1 → VPs Y H Z1 ms1 H1 v a → PostS Y O Wx Z1 ms1 H1 N (k a st1) → Q v H1) : RPs Y O Wx m σ H Q := rs_at R P h
theorem storesF_len : ∀ {is : List (Bool × Nat)} {ss : List Slot} {δ δ' : Fr}, storesF is ss δ = some δ' → ss.length = is.length
  | [], [], _, _, _ => rfl
  | (_, i) :: is, s :: ss, δ, δ', h => by
    simp only [storesF, Option.bind_eq_some_iff] at h
    obtain ⟨δ1, _, e⟩ := h
    rw [List.length_cons, List.length_cons, storesF_len e]
  | [], _ :: _, _, _, h => by cases h
  | (_, _) :: _, [], _, _, h => by cases h
abbrev parX (is : List (Bool × Nat)) (m : Fr → M (List Slot)) : Ex := fun δ => M.at (m δ) δ fun ss => M.bind (M.of (storesF is ss δ)) fun δ' => M.pure (.next δ')
/-- two plain locals -/
theorem ss_par2 {b1 b2 : Bool} {i j : Nat} {x y : Str} {px py pt pt2 : Pos} {kt k2 : Nat} {m : Fr → M (List Slot)} (hc : X.calm = true) (hN : X.N.Nodup) (hi : X.N[i]? = some x) (hj : X.N[j]? = some y) (hij : i ≠ j) (hx : X.env.scope.names.lookup x = some .local) (hy : X.env.scope.names.lookup y = some .local)
    (ha : PA X [a, b] (RPs Y O Wx m)) (hw : swappedStores [.Tuple [.Name x px, .Name y py] kt pt] (.Tuple [a, b] k2 pt2) X.env = pure (some [x, y])) :
    PS X (.Assign [.Tuple [.Name x px, .Name y py] kt pt] (.Tuple [a, b] k2 pt2) pos) (RS Y O Wx (parX [(b1, i), (b2, j)] m)) := (ps_par hc hN hi hj hij hx hy ha hw (by rfl)).imp fun N σ H ⟨δ, st, Z, ms, R, P⟩ =>
  rs_atP R P fun ss st1 vs H1 Z1 ms1 s1 R1 hv P1 => by
    obtain ⟨δ', e, P2⟩ := PostS.of P1
    have hl := hv.len.trans (storesF_len e)
    match vs, hl with
    | [v, w], _ => exact ⟨v, w, rfl, PostS.nx P2 (par_stores R s1 hv e)⟩
def gNs (is : List (Bool × Nat)) : TGs := fun vs σ H Q => vs.length = is.length ∧ Q (setAll σ is vs) H
theorem sgn_nil : PGs X [] (gNs []) := pgs_nil.imp fun vs σ H Q ⟨h, q⟩ => by
  cases vs with
  | nil => exact ⟨rfl, q⟩
  | cons _ _ => cases h
theorem sgn_cons {b : Bool} {i : Nat} {x : Str} {is : List (Bool × Nat)} (hN : X.N.Nodup) (hi : X.N[i]? = some x) (hx : Loc X.env.scope x) (hf : X.fn x = true ∨ X.env.scope.names.lookup x = some .local) (h : PGs X es (gNs is)) : PGs X (.Name x pos :: es) (gNs ((b, i) :: is)) :=
  (pgs_cons (pg_name hN hi hx hf) h (by rfl)).imp fun vs σ H Q ⟨hl, q⟩ => by
    cases vs with
    | nil => cases hl
    | cons v vs => exact ⟨v, vs, rfl, by simpa using hl, q⟩
/-- by way of a tuple -/
theorem ss_parT {is : List (Bool × Nat)} {ts : List Expr} {pt pt2 : Pos} {kt k2 : Nat} {m : Fr → M (List Slot)} (hK : X.K = Y.K) (hc : X.calm = true) (ha : PA X es (RPs Y O Wx m)) (hg : PGs X ts (gNs is)) (hs : NoStar ts) (hl : ts.length = is.length) (hz : is.length ≤ sizeLine)
    (hw : swappedStores [.Tuple ts kt pt] (.Tuple es k2 pt2) X.env = pure none) :
    PS X (.Assign [.Tuple ts kt pt] (.Tuple es k2 pt2) pos) (RS Y O Wx (parX is m)) := by
  obtain ⟨l1, l2⟩ := assign_len (env := X.env) hs
  refine (ps_asg (pe_tup ha) (pg_tup (n := ts.length) hc hg l1 l2) (by rfl) hw (by rfl)).imp fun N σ H ⟨δ, st, Z, ms, R, P⟩ => rs_atP R P fun ss st1 vs H1 Z1 ms1 s1 R1 hv P1 => ?_
  obtain ⟨δ', e, P2⟩ := PostS.of P1
  have hlen := hv.len.trans (storesF_len e)
  refine ⟨by omega, fun q hq => ⟨q, vs, rfl, SqT.of upd_same, by omega, by omega, ?_⟩⟩
  have s2 := Step.laid (o := .tup vs) R1.ok hq
  have R2 := par_stores R (s1.trans s2 R.ok) (hv.step R1.ok s2) e
  exact PostS.nx (P2.shift (s2.z R1.ok)) R2
/-! ### a list that one name holds, changed in place -/
theorem DenL.dropLast {vs : List V} {ds : List D} (h : DenL Y Z ms H vs ds) : DenL Y Z ms H vs.dropLast ds.dropLast := by
  rw [List.dropLast_eq_take, List.dropLast_eq_take, h.length]
  exact h.take _
theorem DenL.erase : ∀ {vs : List V} {ds : List D} (k : Nat), DenL Y Z ms H vs ds → DenL Y Z ms H (vs.eraseIdx k) (ds.eraseIdx k)
  | _, _, _, .nil => .nil
  | _, _, 0, .cons _ b => b
  | _, _, k + 1, .cons a b => .cons a (DenL.erase k b)
theorem DenL.set {v : V} {d : D} (hv : Den Y Z ms H v d) : ∀ {vs : List V} {ds : List D} (k : Nat), DenL Y Z ms H vs ds → DenL Y Z ms H (vs.set k v) (ds.set k d)
  | _, _, _, .nil => .nil
  | _, _, 0, .cons _ b => .cons hv b
  | _, _, k + 1, .cons a b => .cons a (DenL.set hv k b)
/-- where it stands -/
structure OwnAt (Y : Cfg) (O : Own) (Z : Zs) (ms : List Addr) (H : Hp) (σ : L2.St) (i : Nat) (ds : List D) (p : Addr) (xs : List V) : Prop where
  var : σ[i]? = some (some (.ref p))
  at_ : H p = some (.lst xs)
  old : O.H0 p = none
  nz : ¬ Z p
  ns : ¬ Spc Y ms p
  den : DenL Y Z ms H xs ds
theorem Rel.own {i : Nat} {ds : List D} (R : Rel Y O Z ms δ σ H st) (h : ownAt δ i = some ds) : ∃ p xs, OwnAt Y O Z ms H σ i ds p xs := by
  obtain ⟨x, ex, p, xs, rfl, h1, h2, h3, h4, h5⟩ := R.slots i _ (ownAt_some h)
  exact ⟨p, xs, ex, h1, h2, h3, h4, h5⟩
theorem OwnAt.step {i : Nat} {ds : List D} {p : Addr} {xs : List V} (W : OwnAt Y O Z ms H σ i ds p xs) (k : StOk Y Z ms H st) (s : Step Y Z ms H Z1 ms1 H1 st1) : OwnAt Y O Z1 ms1 H1 σ i ds p xs := by
  have A : Acc Y Z1 ms1 H1 p ds := Acc.step ⟨⟨xs, W.at_, W.den⟩, W.nz, W.ns⟩ k s
  exact ⟨W.var, s.kp p _ W.at_ W.ns, W.old, A.nz, A.ns, s.denL k W.den⟩
theorem OwnAt.z {i : Nat} {ds : List D} {p : Addr} {xs ys : List V} (W : OwnAt Y O Z ms H σ i ds p xs) (k : StOk Y Z ms H st) : StepZ Y Z ms H Z ms (upd H p (.lst ys)) st := (StepZ.refl k).change W.at_ W.nz W.ns
/-- .. it is changed -/
theorem Rel.ownSet {i : Nat} {ds es : List D} {p : Addr} {xs ys : List V} (R : Rel Y O Z ms δ σ H st) (h : ownAt δ i = some ds) (W : OwnAt Y O Z ms H σ i ds p xs) (r : DenL Y Z ms H ys es) : Rel Y O Z ms (δ.set i (some (.ow es))) σ (upd H p (.lst ys)) st := by
  have hi := ownAt_some h
  have hl : i < δ.length := (List.getElem?_eq_some_iff.mp hi).1
  refine ⟨R.k0, R.base.change W.old W.at_ W.nz W.ns, by rw [List.length_set]; exact R.len, fun j sl e => ?_, fun j k as bs q e1 e2 e3 e4 => ?_⟩
  · by_cases z : i = j
    · subst z
      rw [List.getElem?_set_self hl] at e
      cases e
      exact ⟨_, W.var, p, ys, rfl, upd_same, W.old, W.nz, W.ns, den_change W.nz r⟩
    · rw [List.getElem?_set_ne z] at e
      obtain ⟨x, ex, rr⟩ := R.slots j sl e
      refine ⟨x, ex, ?_⟩
      cases sl with
      | sh d => obtain ⟨v, e1, q⟩ := rr; exact ⟨v, e1, den_change1 W.nz q⟩
      | ow fs =>
        obtain ⟨a, zs, rfl, e2, e3, e4, e5, e6⟩ := rr
        have n : a ≠ p := fun w => z (R.inj i j ds fs a hi e (by rw [W.var, w]) ex)
        exact ⟨a, zs, rfl, by rw [upd_ne n]; exact e2, e3, e4, e5, den_change W.nz e6⟩
      | thk => exact rr
      | exc C fs =>
        obtain ⟨r1, ⟨vs, a, zz, b, c⟩, r2⟩ := rr
        refine ⟨r1, ⟨vs, ?_, zz, b, den_change W.nz c⟩, r2⟩
        rw [upd_ne (zne W.nz zz)]
        exact a
  · have old : ∀ (k : Nat) cs, (δ.set i (some (.ow es)))[k]? = some (some (.ow cs)) → ∃ cs', δ[k]? = some (some (.ow cs')) := fun k cs e => by
      by_cases z : i = k
      · subst z; exact ⟨ds, hi⟩
      · rw [List.getElem?_set_ne z] at e; exact ⟨cs, e⟩
    obtain ⟨as', f1⟩ := old j as e1
    obtain ⟨bs', f2⟩ := old k bs e2
    exact R.inj j k as' bs' q f1 f2 e3 e4
abbrev appX (i : Nat) (m : Ev) : Ex := fun δ => M.bind (M.of (ownAt δ i)) fun ds => M.at (m δ) δ fun d => M.bind (M.guard (decide (ds.length < sizeLine))) fun _ => M.pure (.next (δ.set i (some (.ow (ds ++ [d])))))
theorem ss_app {i : Nat} {x : Str} {p apos cpos : Pos} (hN : X.N[i]? = some x) (hv : Vis X.env.scope x) (hd : (x == ("__debug__" : Str)) = false) (hcd : (x == ("__classdict__" : Str)) = false) (ha : PE X a (RE Y O Wx ma)) (hs : starEach [a] X.env = (false, eval a X.env) :: starEach [] X.env) (hl : (apos.endLine == cpos.line) = true) :
    PS X (.Expr (.Call (.Attribute (.Name x p) "append" apos) [a] [] cpos) pos) (RS Y O Wx (appX i ma)) :=
  (ps_expr (pe_bm PySem.F.plainAttrs_list PySem.F.slot_list_append PySem.F.type_list_append mt_append (pe_var hN hv hd hcd) (pa_cons ha pa_nil hs) (by rfl) (by rw [hs]; rfl) hl hs (by rfl)) (by rfl)).imp fun N σ H ⟨δ, st, Z, ms, R, P⟩ => by
    obtain ⟨ds, e, P1⟩ := PostS.of P
    obtain ⟨q, xs, W⟩ := R.own e
    refine ⟨_, W.var, .inl ⟨rfl, xs, SqL.of W.at_⟩, rs_at R P1 fun d st1 v H1 Z1 ms1 s1 R1 vd P2 => ?_⟩
    obtain ⟨hz, P3⟩ := PostS.guard P2
    have W1 := W.step R.ok s1
    have hz := of_decide_eq_true hz
    have R2 := R1.ownSet e W1 (W1.den.append (.cons vd .nil))
    exact ⟨q, xs, v, rfl, rfl, W1.at_, by rw [W1.den.length]; exact hz, PostS.nx (P3.shift (W1.z R1.ok)) R2⟩
/-- pop, as an expression -/
theorem popAt_some {ds es : List D} {d : D} {o : Option Int} {vs : List V} (h : popAt ds o = some (d, es)) (r : DenL Y Z ms H vs ds) :
    ∃ (k : Nat) (v : V), vs[k]? = some v ∧ Den Y Z ms H v d ∧ DenL Y Z ms H (vs.eraseIdx k) es ∧ (o = none → k = vs.length - 1) ∧ (∀ z, o = some z → -(2 ^ 63) ≤ z ∧ z < 2 ^ 63 ∧ seqIndex? z vs.length = some k) := by
  cases o with
  | none =>
    have h' : (match ds[ds.length - 1]? with
      | some d => some (d, ds.dropLast)
      | none => none) = some (d, es) := h
    cases e : ds[ds.length - 1]? with
    | none => rw [e] at h'; cases h'
    | some d' =>
      rw [e] at h'
      cases h'
      obtain ⟨v, e1, e2⟩ := r.get e
      rw [← r.length] at e1
      refine ⟨vs.length - 1, v, e1, e2, ?_, fun _ => rfl, fun z q => by cases q⟩
      rw [List.eraseIdx_length_sub_one]
      exact r.dropLast
  | some z =>
    have h' : (if decide (-(2 ^ 63) ≤ z ∧ z < 2 ^ 63) = true then (match ixD ds.length z with
      | some k => (match ds[k]? with
        | some d => some (d, ds.eraseIdx k)
        | none => none)
      | none => none) else none) = some (d, es) := h
    by_cases hz : decide (-(2 ^ 63) ≤ z ∧ z < 2 ^ 63) = true
    · rw [if_pos hz] at h'
      cases e : ixD ds.length z with
      | none => rw [e] at h'; cases h'
      | some k =>
        rw [e] at h'
        dsimp only at h'
        cases e2 : ds[k]? with
        | none => rw [e2] at h'; cases h'
        | some d' =>
          rw [e2] at h'
          cases h'
          obtain ⟨v, e3, e4⟩ := r.get e2
          have hz := of_decide_eq_true hz
          rw [ixD_eq, ← r.length] at e
          exact ⟨k, v, e3, e4, r.erase k, (fun q => by cases q), fun w q => by cases q; exact ⟨hz.1, hz.2, (ixN_seq e).1⟩⟩
    · rw [if_neg hz] at h'
      cases h'
abbrev popE (x : Str) (p apos : Pos) (k : List Expr) (cpos : Pos) : Expr := .Call (.Attribute (.Name x p) "pop" apos) k [] cpos
/-- the reading of x.pop(k), x the name of slot i -/
def tPop (K : PySem.W.Frag) (i : Nat) (to : TO) : TE := fun σ H Q => ∃ v, σ[i]? = some (some v) ∧ tyV K "list" v H ∧ to σ H fun o H1 => ∃ q xs k y, v = .ref q ∧ H1 q = some (.lst xs) ∧ xs[k]? = some y ∧ (o = none → k = xs.length - 1) ∧ (∀ z, o = some z → -(2 ^ 63) ≤ z ∧ z < 2 ^ 63 ∧ seqIndex? z xs.length = some k) ∧ Q y (upd H1 q (.lst (xs.eraseIdx k)))
theorem pe_pop0 {i : Nat} {x : Str} {p apos cpos : Pos} (hN : X.N[i]? = some x) (hv : Vis X.env.scope x) (hd : (x == ("__debug__" : Str)) = false) (hcd : (x == ("__classdict__" : Str)) = false) (hl : (apos.endLine == cpos.line) = true) :
    PE X (popE x p apos [] cpos) (tPop X.K i (RO Y O Wx fun δ => optM none δ)) := (pe_bm0 PySem.F.plainAttrs_list PySem.F.slot_list_pop PySem.F.type_list_pop mt_pop (pe_var hN hv hd hcd) (by rfl) hl).imp fun σ H Q ⟨v, e, ty, h⟩ => by
  obtain ⟨δ, st, Z, ms, R, P⟩ := h
  obtain ⟨q, xs, k, y, rfl, h1, h2, h3, _, h5⟩ := P none H Z ms (Step.refl R.ok) rfl
  have hk := h3 rfl
  subst hk
  rw [List.eraseIdx_length_sub_one] at h5
  exact ⟨_, e, ty, q, xs, y, rfl, rfl, h1, h2, h5⟩
theorem pe_pop1 {i : Nat} {x : Str} {p apos cpos : Pos} (hN : X.N[i]? = some x) (hv : Vis X.env.scope x) (hd : (x == ("__debug__" : Str)) = false) (hcd : (x == ("__classdict__" : Str)) = false) (hl : (apos.endLine == cpos.line) = true) (ha : PE X a (RE Y O Wx ma)) (hs : starEach [a] X.env = (false, eval a X.env) :: starEach [] X.env) :
    PE X (popE x p apos [a] cpos) (tPop X.K i (RO Y O Wx fun δ => optM (some ma) δ)) :=
  (pe_bm PySem.F.plainAttrs_list PySem.F.slot_list_pop PySem.F.type_list_pop mt_popAt (pe_var hN hv hd hcd) (pa_cons ha pa_nil hs) (by rfl) (by rw [hs]; rfl) hl hs (by rfl)).imp fun σ H Q ⟨v, e, ty, h⟩ => by
    obtain ⟨δ, st, Z, ms, R, P⟩ := h
    refine ⟨_, e, ty, rg_seq R P fun d st1 u H1 Z1 ms1 s1 R1 vd P1 => ?_⟩
    cases d with
    | int z =>
      obtain ⟨q, xs, k, y, rfl, h1, h2, _, h4, h5⟩ := P1 (some z) H1 Z1 ms1 (Step.refl R1.ok) rfl
      obtain ⟨h6, h7, h8⟩ := h4 z rfl
      cases vd
      exact ⟨q, xs, z, k, y, rfl, rfl, h1, h6, h7, h8, h2, h5⟩
    | _ => exact (show False from P1).elim
/-- .. what follows from a pop in a statement -/
theorem pop_at {i : Nat} {ds : List D} {mo : Fr → M (Option Int)} {k : Option Int → M Flow} {Q : VK} (R : Rel Y O Z ms δ σ H st) (e : ownAt δ i = some ds) (P : PostS Y O Wx Z ms H N (M.at (mo δ) δ k st))
    (h : ∀ o st1 H1 Z1 ms1 q xs, Step Y Z ms H Z1 ms1 H1 st1 → Rel Y O Z1 ms1 δ σ H1 st1 → OwnAt Y O Z1 ms1 H1 σ i ds q xs → PostS Y O Wx Z1 ms1 H1 N (k o st1) →
      ∃ d es, popAt ds o = some (d, es) ∧ ∀ y ys, Den Y Z1 ms1 H1 y d → DenL Y Z1 ms1 H1 ys es → Q y (upd H1 q (.lst ys))) : tPop X.K i (RO Y O Wx mo) σ H Q := by
  obtain ⟨q, xs, W⟩ := R.own e
  refine ⟨_, W.var, .inl ⟨rfl, xs, SqL.of W.at_⟩, rs_at R P fun o st1 v H1 Z1 ms1 s1 R1 vo P1 => ?_⟩
  cases vo
  have W1 := W.step R.ok s1
  obtain ⟨d, es, e1, hq⟩ := h o st1 H1 Z1 ms1 q xs s1 R1 W1 P1
  obtain ⟨k, y, h1, h2, h3, h4, h5⟩ := popAt_some e1 W1.den
  exact ⟨q, xs, k, y, rfl, W1.at_, h1, h4, h5, hq y _ h2 h3⟩
abbrev popX (t : Option T) (i : Nat) (mo : Fr → M (Option Int)) : Ex := fun δ => M.bind (M.of (ownAt δ i)) fun ds => M.at (mo δ) δ fun o => M.bind (M.of (popAt ds o)) fun p =>
  (match t with
    | none => M.pure (.next (δ.set i (some (.ow p.2))))
    | some t => M.bind (M.of (bindT t p.1 (δ.set i (some (.ow p.2))))) fun δ' => M.pure (.next δ'))
theorem ss_pop {i : Nat} {mo : Fr → M (Option Int)} (ha : PE X a (tPop X.K i (RO Y O Wx mo))) (hs : swapsWith a none pos.line X.env = pure false) : PS X (.Expr a pos) (RS Y O Wx (popX none i mo)) := (ps_expr ha hs).imp fun N σ H ⟨δ, st, Z, ms, R, P⟩ => by
  obtain ⟨ds, e, P1⟩ := PostS.of P
  refine pop_at R e P1 fun o st1 H1 Z1 ms1 q xs s1 R1 W1 P2 => ?_
  obtain ⟨⟨d, es⟩, e2, P3⟩ := PostS.of P2
  exact ⟨d, es, e2, fun y ys hy hys => PostS.nx (P3.shift (W1.z R1.ok)) (R1.ownSet e W1 hys)⟩
theorem ss_popT {i : Nat} {t : T} {mo : Fr → M (Option Int)} (ha : PE X a (tPop X.K i (RO Y O Wx mo))) (hg : PG X tg (GT Y O t)) (hns : ∀ v p, tg ≠ .Starred v p) (hs : swapsWithSole [tg] a pos.line X.env = pure false) (hw : swappedStores [tg] a X.env = pure none) :
    PS X (.Assign [tg] a pos) (RS Y O Wx (popX (some t) i mo)) := (ps_asg ha hg hs hw (by rw [assign_plain hns]; rfl)).imp fun N σ H ⟨δ, st, Z, ms, R, P⟩ => by
  obtain ⟨ds, e, P1⟩ := PostS.of P
  refine pop_at R e P1 fun o st1 H1 Z1 ms1 q xs s1 R1 W1 P2 => ?_
  obtain ⟨⟨d, es⟩, e2, P3⟩ := PostS.of P2
  obtain ⟨δ', e3, P4⟩ := PostS.of P3
  refine ⟨d, es, e2, fun y ys hy hys => ?_⟩
  have R2 := R1.ownSet e W1 hys
  exact ⟨_, st1, Z1, ms1, d, δ', R2, den_change1 W1.nz hy, e3, fun σ' R' _ _ => PostS.nx (P4.shift (W1.z R1.ok)) R'⟩
abbrev appPopX (i j : Nat) (mo : Fr → M (Option Int)) : Ex := fun δ => M.bind (M.of (ownAt δ i)) fun es => M.bind (M.of (ownAt δ j)) fun ds => M.at (mo δ) δ fun o => M.bind (M.of (popAt ds o)) fun p =>
  if i = j then M.bad else M.bind (M.guard (decide (es.length < sizeLine))) fun _ => M.pure (.next ((δ.set j (some (.ow p.2))).set i (some (.ow (es ++ [p.1])))))
theorem ss_appPop {i j : Nat} {x : Str} {p apos cpos : Pos} {mo : Fr → M (Option Int)} (hN : X.N[i]? = some x) (hv : Vis X.env.scope x) (hd : (x == ("__debug__" : Str)) = false) (hcd : (x == ("__classdict__" : Str)) = false) (ha : PE X a (tPop X.K j (RO Y O Wx mo))) (hs : starEach [a] X.env = (false, eval a X.env) :: starEach [] X.env) (hl : (apos.endLine == cpos.line) = true) :
    PS X (.Expr (.Call (.Attribute (.Name x p) "append" apos) [a] [] cpos) pos) (RS Y O Wx (appPopX i j mo)) :=
  (ps_expr (pe_bm PySem.F.plainAttrs_list PySem.F.slot_list_append PySem.F.type_list_append mt_append (pe_var hN hv hd hcd) (pa_cons ha pa_nil hs) (by rfl) (by rw [hs]; rfl) hl hs (by rfl)) (by rfl)).imp fun N σ H ⟨δ, st, Z, ms, R, P⟩ => by
    obtain ⟨es, e, P1⟩ := PostS.of P
    obtain ⟨ds, e2, P2⟩ := PostS.of P1
    obtain ⟨q, xs, W⟩ := R.own e
    refine ⟨_, W.var, .inl ⟨rfl, xs, SqL.of W.at_⟩, pop_at R e2 P2 fun o st1 H1 Z1 ms1 q2 xs2 s1 R1 W2 P3 => ?_⟩
    obtain ⟨⟨d, gs⟩, e3, P4⟩ := PostS.of P3
    dsimp only at P4
    by_cases hij : i = j
    · rw [if_pos hij] at P4
      exact P4.elim
    rw [if_neg hij] at P4
    obtain ⟨hz, P5⟩ := PostS.guard P4
    have hz := of_decide_eq_true hz
    refine ⟨d, gs, e3, fun y ys hy hys => ?_⟩
    have W1 := W.step R.ok s1
    have R2 := R1.ownSet e2 W2 hys
    have e' : ownAt (δ.set j (some (.ow gs))) i = some es := by
      have := ownAt_some e
      unfold ownAt
      rw [List.getElem?_set_ne (Ne.symm hij), this]
    obtain ⟨q', xs', W3⟩ := R2.own e'
    have hq : q' = q := by
      have := W3.var
      rw [W.var] at this
      cases this
      rfl
    subst hq
    have R3 := R2.ownSet e' W3 (W3.den.append (.cons (den_change1 W2.nz hy) .nil))
    exact ⟨q', xs', y, rfl, rfl, W3.at_, by rw [W3.den.length]; exact hz, PostS.nx ((P5.shift (W2.z R1.ok)).shift (W3.z R2.ok)) R3⟩
end Sw

set_option Elab.async false
set_option linter.all false
set_option maxRecDepth 100000
/-! Sw, part N: more statements: items of lists and dicts, loops. -/
namespace Sw
open PySem PySem.Spec PyProof.Rows L2
variable {Y : Cfg} {O : Own} {Wx : WX} {X : Cx} {pos : Pos} {a b c tg : Expr} {ma mb mc : Ev} {es : List Expr} {ml : Fr → M (List D)} {δ : Fr} {σ : L2.St}
variable {Z Z1 : Zs} {ms ms1 : List Addr} {H H1 : Hp} {st st1 : Store} {Q : VK} {N : Ends}
def notSl : Expr → Bool
  | .Slice .. => false
  | _ => true
theorem plainIx_of (h : notSl a = true) : PlainIx a := by
  cases a with
  | Slice _ _ _ _ => cases h
  | _ => intro _ _; rfl
theorem plainSt_of {o : Expr} {env : Env} {p : Pos} (h : notSl a = true) : ∀ v, assign (.Subscript o a p) env v = (do
      let ov ← holding [v] (eval o env)
      let iv ← holding [v, ov] (eval a env)
      standAt p
      holding [v, ov, iv] (setItem ov iv v)
      release [v, ov, iv] []) := by
  cases a with
  | Slice _ _ _ _ => cases h
  | _ => intro _; rfl
abbrev setX (i : Nat) (mk me : Ev) : Ex := fun δ => M.bind (M.of (ownAt δ i)) fun ds => M.at (me δ) δ fun d => M.at (mk δ) δ fun j => M.bind (M.of (putAt ds j d)) fun es => M.pure (.next (δ.set i (some (.ow es))))
theorem putAt_some {ds es : List D} {j d : D} (h : putAt ds j d = some es) : ∃ z n, j = .int z ∧ ixD ds.length z = some n ∧ es = ds.set n d := by
  unfold putAt at h
  cases j with
  | int z =>
    obtain ⟨n, e1, e2⟩ := Option.map_eq_some_iff.mp h
    exact ⟨z, n, rfl, e1, e2.symm⟩
  | _ => cases h
theorem set_here {i : Nat} {ds es : List D} {j d : D} {q : Addr} {xs : List V} {v w : V} (W : OwnAt Y O Z ms H σ i ds q xs) (h : putAt ds j d = some es) (hj : Den Y Z ms H w j) (hv : Den Y Z ms H v d) :
    ∃ z n, w = .int z ∧ ixN xs.length z = some n ∧ DenL Y Z ms H (xs.set n v) es := by
  obtain ⟨z, n, rfl, e1, rfl⟩ := putAt_some h
  cases hj
  exact ⟨z, n, rfl, by rw [← ixD_eq, W.den.length]; exact e1, DenL.set hv n W.den⟩
theorem ss_setix {i : Nat} {x : Str} {p p2 : Pos} (hN : X.N[i]? = some x) (hv : Vis X.env.scope x) (hd : (x == ("__debug__" : Str)) = false) (hcd : (x == ("__classdict__" : Str)) = false) (hk : PE X b (RE Y O Wx mb)) (ha : PE X a (RE Y O Wx ma)) (hn : notSl b = true) (hs : swapsWith a (some (.Subscript (.Name x p) b p2)) pos.line X.env = pure false) :
    PS X (.Assign [.Subscript (.Name x p) b p2] a pos) (RS Y O Wx (setX i mb ma)) := (ps_asg ha (pg_sub (pe_var hN hv hd hcd) hk set_list (plainSt_of hn)) hs (by rfl) (by rfl)).imp fun N σ H ⟨δ, st, Z, ms, R, P⟩ => by
  obtain ⟨ds, e, P1⟩ := PostS.of P
  obtain ⟨q, xs, W⟩ := R.own e
  refine rs_at R P1 fun d st1 v H1 Z1 ms1 s1 R1 vd P2 => ⟨_, W.var, rs_at R1 P2 fun j st2 u H2 Z2 ms2 s2 R2 vj P3 => ?_⟩
  obtain ⟨es, e2, P4⟩ := PostS.of P3
  have W2 := (W.step R.ok s1).step R1.ok s2
  obtain ⟨z, n, rfl, h1, h2⟩ := set_here W2 e2 vj (s2.den R1.ok vd)
  exact ⟨q, xs, z, n, rfl, rfl, W2.at_, h1, PostS.nx (P4.shift (W2.z R2.ok)) (R2.ownSet e W2 h2)⟩
theorem ownAt_set {i : Nat} {ds es : List D} (h : ownAt δ i = some ds) : ownAt (δ.set i (some (.ow es))) i = some es := by
  have hi := ownAt_some h
  unfold ownAt
  rw [List.getElem?_set_self (List.getElem?_eq_some_iff.mp hi).1]
theorem set_set (l : Fr) (i : Nat) (x y : Option Slot) : (l.set i x).set i y = l.set i y := List.set_set ..
abbrev set2X (i : Nat) (m1 m2 n1 n2 : Ev) : Ex := fun δ => M.bind (M.of (ownAt δ i)) fun ds => M.at (n1 δ) δ fun d1 => M.at (n2 δ) δ fun d2 => M.at (m1 δ) δ fun j1 => M.bind (M.of (putAt ds j1 d1)) fun es =>
      M.at (m2 (δ.set i (some (.ow es)))) (δ.set i (some (.ow es))) fun j2 => M.bind (M.of (putAt es j2 d2)) fun fs => M.pure (.next (δ.set i (some (.ow fs))))
theorem swapped_sub {x1 x2 k1 k2 : Expr} {p1 p2 pt pt2 : Pos} {kt kt2 : Nat} {vs : List Expr} {env : Env} : swappedStores [.Tuple [.Subscript x1 k1 p1, .Subscript x2 k2 p2] kt pt] (.Tuple vs kt2 pt2) env = pure none := by
  unfold swappedStores
  dsimp only
  split
  · rfl
  · split
    · rfl
    · rfl
theorem ss_set2 {i : Nat} {x : Str} {k1 k2 e1 e2 : Expr} {m1 m2 n1 n2 : Ev} {p1 p2 q1 q2 pt pt2 : Pos} {kt kt2 : Nat} (hK : X.K = Y.K) (hc : X.calm = true) (hN : X.N[i]? = some x) (hv : Vis X.env.scope x) (hd : (x == ("__debug__" : Str)) = false) (hcd : (x == ("__classdict__" : Str)) = false)
    (h1 : PE X k1 (RE Y O Wx m1)) (h2 : PE X k2 (RE Y O Wx m2)) (g1 : PE X e1 (RE Y O Wx n1)) (g2 : PE X e2 (RE Y O Wx n2)) (f1 : notSl k1 = true) (f2 : notSl k2 = true)
    (hs1 : starEach [e1, e2] X.env = (false, eval e1 X.env) :: starEach [e2] X.env) (hs2 : starEach [e2] X.env = (false, eval e2 X.env) :: starEach [] X.env) :
    PS X (.Assign [.Tuple [.Subscript (.Name x p1) k1 q1, .Subscript (.Name x p2) k2 q2] kt pt] (.Tuple [e1, e2] kt2 pt2) pos) (RS Y O Wx (set2X i m1 m2 n1 n2)) :=
  (ps_asg (pe_tup (pa_cons g1 (pa_cons g2 pa_nil hs2) hs1)) (pg_tup (n := 2) hc (pgs_cons (pg_sub (pe_var hN hv hd hcd) h1 set_list (plainSt_of f1)) (pgs_cons (pg_sub (pe_var hN hv hd hcd) h2 set_list (plainSt_of f2)) pgs_nil (by rfl)) (by rfl)) (by rfl) (by rfl)) (by rfl) swapped_sub (by rfl)).imp fun N σ H ⟨δ, st, Z, ms, R, P⟩ => by
    obtain ⟨ds, e, P1⟩ := PostS.of P
    obtain ⟨q, xs, W⟩ := R.own e
    refine rs_at R P1 fun d1 st1 v1 H1 Z1 ms1 s1 R1 vd1 P2 => rs_at R1 P2 fun d2 st2 v2 H2 Z2 ms2 s2 R2 vd2 P3 => ⟨by show 2 ≤ sizeLine; decide, fun t ht => ?_⟩
    have s3 := Step.laid (o := .tup [v1, v2]) R2.ok ht
    have R3 := R2.step s3
    have w1 := s3.den R2.ok (s2.den R1.ok vd1)
    have w2 := s3.den R2.ok vd2
    have W3 := ((W.step R.ok s1).step R1.ok s2).step R2.ok s3
    refine ⟨t, [v1, v2], rfl, SqT.of upd_same, rfl, v1, [v2], rfl, _, W3.var, rs_at R3 (P3.shift (s3.z R2.ok)) fun j1 st4 u1 H4 Z4 ms4 s4 R4 vj1 P4 => ?_⟩
    obtain ⟨fs, e2, P5⟩ := PostS.of P4
    have W4 := W3.step R3.ok s4
    obtain ⟨z, n, rfl, a1, a2⟩ := set_here W4 e2 vj1 (s4.den R3.ok w1)
    have R5 := R4.ownSet e W4 a2
    have e' := ownAt_set (es := fs) e
    refine ⟨q, xs, z, n, rfl, rfl, W4.at_, a1, v2, [], rfl, _, W4.var, rs_at R5 (P5.shift (W4.z R4.ok)) fun j2 st6 u2 H6 Z6 ms6 s6 R6 vj2 P6 => ?_⟩
    obtain ⟨gs, e4, P7⟩ := PostS.of P6
    obtain ⟨q', xs', W5⟩ := R5.own e'
    have hq : q' = q := by
      have := W5.var
      rw [W4.var] at this
      cases this
      rfl
    subst hq
    have W6 := W5.step R5.ok s6
    obtain ⟨z2, n2, rfl, b1, b2⟩ := set_here W6 e4 vj2 (s6.den R5.ok (den_change1 W4.nz (s4.den R3.ok w2)))
    have R7 := R6.ownSet e' W6 b2
    rw [set_set] at R7
    exact ⟨q', xs', z2, n2, rfl, rfl, W6.at_, b1, rfl, PostS.nx (P7.shift (W6.z R6.ok)) R7⟩
/-! ### a shared dict's item is changed -/
def putD (kvs : List (Str × D)) (k : Str) (x : D) : List (Str × D) := kvs.map fun p => if p.1 = k then (k, x) else p
theorem csetM_some {d x : D} {k : Str} {kk : Unit → M Flow} (P : PostS Y O Wx Z ms H N (M.bind (csetM d k x) kk st)) : ∃ (n : Nat) (kvs : List (Str × D)), d = .cell n ∧ st[n]? = some (.dic kvs) ∧ (kvs.lookup k).isSome = true ∧ kvs.length < sizeLine ∧
    PostS Y O Wx Z ms H N (kk () (st.set n (.dic (putD kvs k x)))) := by
  unfold M.bind csetM at P
  cases d with
  | cell n =>
    dsimp only at P
    cases e : st[n]? with
    | none => rw [e] at P; exact P.elim
    | some c =>
      rw [e] at P
      cases c with
      | lst _ => exact P.elim
      | dic kvs =>
        dsimp only at P
        by_cases h : ((kvs.lookup k).isSome && decide (kvs.length < sizeLine)) = true
        · rw [if_pos h] at P
          have h' := Bool.and_eq_true_iff.mp h
          exact ⟨n, kvs, rfl, e, h'.1, of_decide_eq_true h'.2, P⟩
        · rw [if_neg h] at P
          exact P.elim
  | _ => exact P.elim
theorem dic_put {vs : List (Key × V)} {kvs : List (Str × D)} {k : Str} {v : V} {d : D} (hk : vs.map (·.1) = kvs.map (fun p => (Sum.inr p.1 : Key))) (r : DenL Y Z ms H (vs.map (·.2)) (kvs.map (·.2))) (h : (kvs.lookup k).isSome = true) (hv : Den Y Z ms H v d) :
    (putK vs (.inr k) v).map (·.1) = (putD kvs k d).map (fun p => (Sum.inr p.1 : Key)) ∧ DenL Y Z ms H ((putK vs (.inr k) v).map (·.2)) ((putD kvs k d).map (·.2)) := by
  have hs : (vs.any fun kv => decide (kv.1 = Sum.inr k)) = true := by
    rw [valV_any]
    obtain ⟨d', hd⟩ := Option.isSome_iff_exists.mp h
    obtain ⟨v', e, _⟩ := dic_get hk r hd
    rw [e]
    rfl
  unfold putK putD
  rw [if_pos hs]
  clear hs h
  induction kvs generalizing vs with
  | nil =>
    cases vs with
    | nil => exact ⟨rfl, .nil⟩
    | cons _ _ => cases hk
  | cons p kr ih =>
    cases vs with
    | nil => cases hk
    | cons q vr =>
      rw [List.map_cons, List.map_cons] at hk r
      cases r with
      | cons rv rr =>
        injection hk with h1 h2
        obtain ⟨i1, i2⟩ := ih h2 rr
        simp only [List.map_cons]
        by_cases e : p.1 = k
        · have e' : q.1 = Sum.inr k := by rw [h1, e]
          rw [if_pos e, if_pos e']
          exact ⟨by rw [i1, e'], .cons hv i2⟩
        · have e' : ¬ q.1 = Sum.inr k := fun z => e (Sum.inr.inj (h1.symm.trans z))
          rw [if_neg e, if_neg e']
          exact ⟨by rw [i1, h1], .cons rv i2⟩
theorem Step.cell {n : Nat} {a : Addr} {o : HO} {c c0 : Cell} (k : StOk Y Z ms H st) (hm : ms[n]? = some a) (h0 : st[n]? = some c0) (hc : CellAt Y Z ms (upd H a o) a c) (hH : ∃ o0, H a = some o0 ∧ ∀ d q, o0 ≠ LamX.CodeO d q) : Step Y Z ms H Z ms (upd H a o) (st.set n c) := by
  have ha : a ∈ ms := List.mem_of_getElem? hm
  have nz : ∀ x, Z x → x ≠ a := fun x z e => k.zs a (.inl ha) (e ▸ z)
  have hn : n < st.length := (List.getElem?_eq_some_iff.mp h0).1
  refine ⟨⟨fun x z => by rw [upd_ne (nz x z)]; exact k.zdom x z, by rw [List.length_set]; exact k.len, fun j c' x e1 e2 => ?_, k.nd, k.zs, k.mt, fun q hq => ?_⟩, fun _ h => h, fun _ h => .inl h, List.prefix_rfl, fun _ h => .inl h, fun x u e ns => ?_⟩
  · by_cases z : n = j
    · subst z
      rw [List.getElem?_set_self hn] at e1
      cases e1
      rw [hm] at e2
      cases e2
      exact hc
    · rw [List.getElem?_set_ne z] at e1
      have nx : x ≠ a := fun w => by
        subst w
        exact z ((List.getElem?_inj (List.getElem?_eq_some_iff.mp hm).1 k.nd).mp (hm.trans e2.symm))
      exact (k.cells j c' x e1 e2).imp (upd_ne nx) fun xs ds r => r.mono (fun _ z => z) List.prefix_rfl fun y u z e => by rw [upd_ne (nz y z)]; exact e
  · obtain ⟨ps, e1, e2, e3⟩ := k.tabs q hq
    have nq : q.1 ≠ a := fun e => k.mt a ha (e ▸ List.mem_map_of_mem hq)
    refine ⟨ps, by rw [upd_ne nq]; exact e1, e2, fun pos cv e => ?_⟩
    obtain ⟨d, h1, h2⟩ := e3 pos cv e
    refine ⟨d, h1, ?_⟩
    have nd : d ≠ a := fun z => by
      obtain ⟨o0, h3, h4⟩ := hH
      rw [z, h3] at h2
      exact h4 _ _ (Option.some.inj h2)
    rw [upd_ne nd]
    exact h2
  · rw [upd_ne fun w => ns (by rw [w]; exact .inl ha)]
    exact e
theorem den_upd {a : Addr} {o : HO} (k : StOk Y Z ms H st) (hm : a ∈ ms) {xs : List V} {ds : List D} (h : DenL Y Z ms H xs ds) : DenL Y Z ms (upd H a o) xs ds :=
  h.mono (fun _ z => z) List.prefix_rfl fun y u z e => by rw [upd_ne fun w => k.zs a (.inl hm) (by rw [← w]; exact z)]; exact e
abbrev csetX (mc : Ev) (k : Str) (me : Ev) : Ex := fun δ => M.at (me δ) δ fun d => M.at (mc δ) δ fun x => M.bind (csetM x k d) fun _ => M.pure (.next δ)
theorem ss_cset {k : Str} {j : Nat} {p p2 : Pos} (hu : X.A.units + 65 < cLine) (hc : PE X c (RE Y O Wx mc)) (ha : PE X a (RE Y O Wx ma)) (hs : swapsWith a (some (.Subscript c (.Constant (.str k) j p) p2)) pos.line X.env = pure false) :
    PS X (.Assign [.Subscript c (.Constant (.str k) j p) p2] a pos) (RS Y O Wx (csetX mc k ma)) := (ps_dput (by omega) hc pe_str ha hs).imp fun N σ H ⟨δ, st, Z, ms, R, P⟩ =>
  rs_at R P fun d st1 v H1 Z1 ms1 s1 R1 vd P1 => rs_at R1 P1 fun x st2 u H2 Z2 ms2 s2 R2 vx P2 => by
    obtain ⟨n, kvs, rfl, e1, e2, e3, P3⟩ := csetM_some P2
    cases vx with
    | cell hm =>
      obtain ⟨vs, h1, h2, h3⟩ := R2.ok.cells n _ _ e1 hm
      have hl : vs.length = kvs.length := by
        have := congrArg List.length h2
        simpa using this
      have hv := s2.den R1.ok vd
      obtain ⟨g1, g2⟩ := dic_put h2 h3 e2 hv
      have s3 := Step.cell (o := .dK (putK vs (.inr k) v)) (c := .dic (putD kvs k d)) R2.ok hm e1 ⟨_, upd_same, g1, den_upd R2.ok (List.mem_of_getElem? hm) g2⟩ ⟨_, h1, fun _ _ z => by unfold LamX.CodeO at z; cases z⟩
      exact ⟨_, _, rfl, .inl ⟨vs, .inr k, h1, rfl, by rw [hl]; exact e3, rfl⟩, PostS.nx (P3.shift (s3.z R2.ok)) (R2.step s3)⟩

/-! ### loops -/
theorem loopF_nil (t : T) (b : Ex) (δ : Fr) : loopF t b [] δ = M.pure (.next δ) := rfl
theorem loopF_cons (t : T) (b : Ex) (d : D) (ds : List D) (δ : Fr) : loopF t b (d :: ds) δ = M.bind (M.of (bindT t d δ)) fun δ1 => M.bind (b δ1) fun f => match f with
    | .next δ' => loopF t b ds δ'
    | .cont δ' => loopF t b ds δ'
    | .brk δ' => M.pure (.next δ')
    | f => M.pure f := rfl
/-- a body's end, in a loop -/
theorem body_end {m : Ex} {k : Fr → M Flow} {Nx : L2.St → Hp → Prop}
    (P : PostS Y O Wx Z ms H N (M.bind (m δ) (fun f => match f with
      | .next δ' => k δ'
      | .cont δ' => k δ'
      | .brk δ' => M.pure (.next δ')
      | f => M.pure f) st))
    (hN : ∀ δ' st' σ' H' Z' ms', StepZ Y Z ms H Z' ms' H' st' → Rel Y O Z' ms' δ' σ' H' st' → PostS Y O Wx Z' ms' H' N (k δ' st') → Nx σ' H') :
    PostS Y O Wx Z ms H { N with nx := Nx, ct := Nx, bk := N.nx } (m δ st) := by
  unfold M.bind at P
  cases e : m δ st with
  | ok f st' =>
    rw [e] at P
    cases f with
    | next δ' => exact fun σ' H' Z' ms' s' R' => hN δ' st' σ' H' Z' ms' s' R' (P.shift s')
    | cont δ' => exact fun σ' H' Z' ms' s' R' => hN δ' st' σ' H' Z' ms' s' R' (P.shift s')
    | brk δ' => exact P
    | ret sl => exact P
    | exc c fs δ' => exact P
  | exn c fs st' => rw [e] at P; exact P
  | bad => rw [e] at P; exact P
abbrev forX (t : T) (mi : Fr → M (List D)) (mb : Ex) : Ex := fun δ => M.at (mi δ) δ fun items => loopF t mb items δ
theorem ss_for {t : T} {mi : Fr → M (List D)} {mbd : Ex} {bd : List Stmt} (hp : PassesOwn (model X.prog X.w) X.A X.env X.xe) (hc : X.calm = true) (hi : PI X tg a (RI false Y O Wx mi)) (hg : PG X tg (GT Y O t)) (hb : PSs X bd (RS Y O Wx mbd)) (hf : ∀ x, foldedSetIterable a X.env x = pure x) :
    PS X (.For tg a bd [] pos) (RS Y O Wx (forX t mi mbd)) := (ps_for hp hc hi hg hb hf).imp fun N σ H ⟨δ, st, Z, ms, R, P⟩ =>
  rs_at R P fun items st1 J H1 Z1 ms1 s1 R1 wd P1 => by
    refine ⟨fun i m σ' H' => m + i = items.length ∧ ∃ δ' st' Z' ms', StepZ Y Z1 ms1 H1 Z' ms' H' st' ∧ Rel Y O Z' ms' δ' σ' H' st' ∧ PostS Y O Wx Z' ms' H' N (loopF t mbd (items.drop i) δ' st'),
      ⟨items.length, by omega, δ, st1, Z1, ms1, StepZ.refl R1.ok, R1, P1⟩, ?_⟩
    rintro i m σ' H' ⟨hm, δ', st', Z', ms', z', R', P'⟩
    obtain ⟨w1, w2⟩ := wd Z' ms' H' st' (by unfold Tr; rw [if_neg (by simp)]; exact z')
    cases m with
    | zero =>
      have e : i = items.length := by omega
      subst e
      rw [List.drop_length, loopF_nil] at P'
      exact .inl ⟨w1, PostS.nx P' R'⟩
    | succ m =>
      obtain ⟨d, e1, e2⟩ := drop_at (items := items) (i := i) (by omega)
      rw [e2, loopF_cons] at P'
      obtain ⟨δ1, e3, P2⟩ := PostS.of P'
      obtain ⟨g1, g2⟩ := w2 i d e1
      refine .inr ⟨g1, _, fun σ'' H'' q => ⟨m, Nat.lt_succ_self m, q⟩, fun x H3 y => ?_⟩
      obtain ⟨Z3, s3, hx⟩ := g2 x H3 y
      have R3 := R'.step s3
      refine ⟨δ', st', Z3, ms', d, δ1, R3, hx, e3, fun σ2 R4 _ _ => ⟨δ1, st', Z3, ms', R4, body_end (P2.shift (s3.z R'.ok)) fun δ5 st5 σ5 H5 Z5 ms5 z5 R5 P5 => ?_⟩⟩
      exact ⟨by omega, δ5, st5, Z5, ms5, (z'.trans (s3.z R'.ok)).trans z5, R5, P5⟩
abbrev whileX (mt : Fr → M Bool) (mb : Ex) : Ex := fun δ => loopW mt mb wFuel δ
theorem loopW_succ (c : Fr → M Bool) (b : Ex) (n : Nat) (δ : Fr) : loopW c b (n + 1) δ = M.at (c δ) δ fun r => if r then M.bind (b δ) fun f => match f with
      | .next δ' => loopW c b n δ'
      | .cont δ' => loopW c b n δ'
      | .brk δ' => M.pure (.next δ')
      | f => M.pure f
    else M.pure (.next δ) := rfl
theorem ss_while {mt : Fr → M Bool} {mbd : Ex} {bd : List Stmt} (hp : PassesOwn (model X.prog X.w) X.A X.env X.xe) (hc : PT X c (RT Y O Wx mt)) (hb : PSs X bd (RS Y O Wx mbd)) : PS X (.While c bd [] pos) (RS Y O Wx (whileX mt mbd)) := (ps_while hp hc hb).imp fun N σ H ⟨δ, st, Z, ms, R, P⟩ => by
  refine ⟨fun m σ' H' => ∃ δ' st' Z' ms', Rel Y O Z' ms' δ' σ' H' st' ∧ PostS Y O Wx Z' ms' H' N (loopW mt mbd m δ' st'), ⟨wFuel, δ, st, Z, ms, R, P⟩, ?_⟩
  rintro m σ' H' ⟨δ', st', Z', ms', R', P'⟩
  cases m with
  | zero => exact (show False from P').elim
  | succ m =>
    rw [loopW_succ] at P'
    refine rs_at R' P' fun r st1 v H1 Z1 ms1 s1 R1 vr P1 => ?_
    cases vr
    cases r with
    | false => rw [if_neg (by simp)]; exact PostS.nx P1 R1
    | true =>
      rw [if_pos rfl]
      refine ⟨fun σ2 H2 => ∃ δ' st' Z' ms', Rel Y O Z' ms' δ' σ2 H2 st' ∧ PostS Y O Wx Z' ms' H2 N (loopW mt mbd m δ' st'), fun σ2 H2 q => ⟨m, Nat.lt_succ_self m, q⟩, δ', st1, Z1, ms1, R1, body_end P1 fun δ5 st5 σ5 H5 Z5 ms5 z5 R5 P5 => ⟨δ5, st5, Z5, ms5, R5, P5⟩⟩

/-! ### a list is frozen: no statement of the program -/
theorem frz_read {i : Nat} {n : Ex} {t : TS} (h : RS Y O Wx (seqX (fun δ => M.pure (.next (frzF δ i))) n) N σ H) : RS Y O Wx n N σ H := by
  obtain ⟨δ, st, Z, ms, R, P⟩ := h
  cases e : ownAt δ i with
  | none =>
    have e2 : frzF δ i = δ := by unfold frzF; rw [e]
    refine ⟨δ, st, Z, ms, R, ?_⟩
    have P' : PostS Y O Wx Z ms H N (n (frzF δ i) st) := P
    rw [e2] at P'
    exact P'
  | some ds =>
  have P1 : PostS Y O Wx Z ms H N (n (δ.set i (some (.sh (.lst ds)))) st) := by
    have P' : PostS Y O Wx Z ms H N (n (frzF δ i) st) := P
    have e2 : frzF δ i = δ.set i (some (.sh (.lst ds))) := by unfold frzF; rw [e]
    rw [e2] at P'
    exact P'
  obtain ⟨p, xs, W⟩ := R.own e
  have hi := ownAt_some e
  have hl : i < δ.length := (List.getElem?_eq_some_iff.mp hi).1
  have k := R.ok.froze (p := p) (by rw [W.at_]; simp) W.ns
  have mono : ∀ {v : V} {d : D}, Den Y Z ms H v d → Den Y (fun a => Z a ∨ a = p) ms H v d := fun h => h.mono (fun _ z => .inl z) List.prefix_rfl fun _ _ _ e => e
  have monoL : ∀ {v : List V} {d : List D}, DenL Y Z ms H v d → DenL Y (fun a => Z a ∨ a = p) ms H v d := fun h => h.mono (fun _ z => .inl z) List.prefix_rfl fun _ _ _ e => e
  have base : Step Y O.Z0 O.ms0 O.H0 (fun a => Z a ∨ a = p) ms H st := ⟨k, fun a z => .inl (R.base.zz a z), fun a z => by
    rcases z with z | z
    · exact R.base.zn a z
    · rw [z]; exact .inr W.old, R.base.mm, R.base.mn, R.base.kp⟩
  refine ⟨_, st, fun a => Z a ∨ a = p, ms, ⟨R.k0, base, by rw [List.length_set]; exact R.len, fun j sl e1 => ?_, fun j k ds1 es1 q e1 e2 e3 e4 => ?_⟩, PostS.shift P1 ⟨k, fun _ z => .inl z, List.prefix_rfl, fun _ _ _ e => e⟩⟩
  · by_cases z : i = j
    · subst z
      rw [List.getElem?_set_self hl] at e1
      cases e1
      exact ⟨_, W.var, _, rfl, .lst W.at_ (.inr rfl) (monoL W.den)⟩
    · rw [List.getElem?_set_ne z] at e1
      obtain ⟨x, ex, rr⟩ := R.slots j sl e1
      refine ⟨x, ex, ?_⟩
      cases sl with
      | sh d => obtain ⟨v, e1, q⟩ := rr; exact ⟨v, e1, mono q⟩
      | ow fs =>
        obtain ⟨a, zs, rfl, e2, e3, e4, e5, e6⟩ := rr
        refine ⟨a, zs, rfl, e2, e3, fun w => ?_, e5, monoL e6⟩
        rcases w with w | w
        · exact e4 w
        · exact z (R.inj i j ds fs a hi e1 (by rw [W.var, w]) ex)
      | thk => exact rr
      | exc C fs =>
        obtain ⟨r1, ⟨vs, a, zz, b, c⟩, r2⟩ := rr
        exact ⟨r1, ⟨vs, a, .inl zz, b, monoL c⟩, r2⟩
  · have old : ∀ (k : Nat) cs, (δ.set i (some (.sh (.lst ds))))[k]? = some (some (.ow cs)) → δ[k]? = some (some (.ow cs)) := fun k cs e => by
      by_cases z : i = k
      · subst z; rw [List.getElem?_set_self hl] at e; cases e
      · rw [List.getElem?_set_ne z] at e; exact e
    exact R.inj j k ds1 es1 q (old j _ e1) (old k _ e2) e3 e4
end Sw

set_option Elab.async false
set_option linter.all false
set_option maxRecDepth 100000
/-! Sw, part T: try with several clauses, each with a name or without. -/
namespace Sw
open PySem PySem.Spec PyProof.Rows L2
/-- a clause: the class, the name's slot, what its suite makes -/
structure Clause where
  cls : Value
  ix : Option Nat
  ts : Addr → Value → Option Addr → TS
def endsOf : Option Nat → Ends → Ends
  | none, N => N
  | some i, N => ⟨fun τ G => N.nx (τ.set i none) G, N.rt, fun τ G => N.bk (τ.set i none) G, fun τ G => N.ct (τ.set i none) G⟩
def slotOf : Option Nat → Addr → L2.St → L2.St
  | none, _, σ => σ
  | some i, a, σ => σ.set i (some (.ref a))
/-- what the clauses wish of the body's exception -/
def wTry (K : PySem.W.Frag) (Wo : WX) (N : Ends) : List Clause → WX
  | [] => Wo
  | q :: r => fun cls d σ H => ∃ k, PySem.W.exmOne K cls q.cls = some k ∧ (k = true → ∀ a, H a = none → q.ts a cls d (endsOf q.ix N) (slotOf q.ix a σ) H) ∧ (k = false → wTry K Wo N r cls d σ H)
def NameOk (X : Cx) : Option Str → Option Nat → Prop
  | none, none => True
  | some n, some i => X.N[i]? = some n ∧ X.env.kindOf n = some .local
  | _, _ => False
inductive ClsOk (X : Cx) : List ExceptHandler → List Clause → Prop
  | nil : ClsOk X [] []
  | cons {x : Str} {nm : Option Str} {q : Clause} {b0 : Stmt} {su : List Stmt} {p1 p2 : Pos} {hs : List ExceptHandler} {l : List Clause} (hn : Names X x q.cls) (hi : NameOk X nm q.ix)
      (run : ∀ (a : Addr) (oe : Obj) (cls : Value) (d : Option Addr) (pn : List (Addr × Obj)), Zc cls d oe → (∃ vs, oe.data = .fields vs) → PSs (X.suite a ((a, oe) :: pn)) (b0 :: su) (q.ts a cls d)) (r : ClsOk X hs l) :
      ClsOk X (.ExceptHandler (some (.Name x p1)) nm (b0 :: su) p2 :: hs) (q :: l)
section
variable {X : Cx} {bd : List Stmt} {h0 : ExceptHandler} {hs : List ExceptHandler} {l : List Clause} {pos : Pos} {tb : WX → TS} {Wo : WX}
/-- a suite's end, back in the def -/
theorem suite_end {pins : List (Addr × Obj)} {a : Addr} {q : Addr × Obj} {f : PySem.Flow} {s : Shared} {N : Ends} (ok : X.Ok) (h : SP (X.suite a (q :: (X.pn ++ pins))) [] N f s) : SP X pins N f s := by
  match f, h with
  | .next, ⟨σ, H, S, w⟩ => exact ⟨σ, H, S.unsuite ok, w⟩
  | .brk, ⟨σ, H, S, w⟩ => exact ⟨σ, H, S.unsuite ok, w⟩
  | .cont, ⟨σ, H, S, w⟩ => exact ⟨σ, H, S.unsuite ok, w⟩
  | .ret u, ⟨v, σ, H, S, r, w⟩ => exact ⟨v, σ, H, S.unsuite ok, r, w⟩
theorem ps_tryAny (st : X.stack = X.env :: X.outer) (fr : X.env.frame = some X.env.locals) (hN : X.N.Nodup) (tk : Takes X Wo)
    (hb : ∀ (W : WX) (pn : List (Addr × Obj)) (xe : Value → Shared → Prop), Takes (X.tr pn xe) W → PassesOwn (model X.prog X.w) X.A X.env xe → PSs (X.tr pn xe) bd (tb W)) (hh : ClsOk X (h0 :: hs) l) :
    PS X (.Try bd (h0 :: hs) [] [] pos) (fun N σ H => tb (wTry X.K Wo N l) N σ H) := by
  refine ⟨fun pins s σ H N I hw => ?_⟩
  have ok := I.ok
  have frs' : X.A.frames = some (X.env :: X.outer) := ok.frames.trans (by rw [st])
  let catch_ : Value → Shared → Prop := fun e s1 => wpAny (model X.prog X.w) X.A (noteFrame e X.env) (fun _ s2 => wpAny (model X.prog X.w) X.A (setFlight e none)
    (fun _ s3 => wpAny (model X.prog X.w) X.A (handleBy e X.env (h0 :: hs)) (SP X pins N) X.xe s3) X.xe s2) X.xe s1
  refine wpAny_Try_except (wpAny_mono ((hb (wTry X.K Wo N l) (X.pn ++ pins) catch_ (fun u s' xx => ?_) PassesOwn.looking).run [] s σ H N (I.toTry _) hw) (fun f s1 hsp => ?_) fun e s1 he => he)
  · obtain ⟨a, B, sI, pins', τ, G, cls, d, rfl, J0, nb, up, sky, na, os, ag, w⟩ := xx
    have J : Inv X pins τ G sI := J0.ofTry ok
    have sky1 : Sky B (X.env :: X.outer) a (Zc cls d) X.env.locals s'.heap := st ▸ sky
    show wpAny (model X.prog X.w) X.A (noteFrame (.ref a) X.env) _ _ _
    refine Sky.land Zc.steady frs' fr sky1 fun h3 fl3 up3 => ?_
    have J3 : Inv X pins τ G { s' with heap := h3 } := J.landed nb fl3.1 (up.trans up3) os ag
    obtain ⟨oe3, vs3, he3, hz3, hd3⟩ := fl3.there
    have notIn : a ∉ L2.frs (X.env :: X.outer) := fun hm => by
      obtain ⟨_, o', e', no⟩ := fl3.2.2.1.mem hm
      rw [he3] at e'
      cases e'
      exact no _ hd3
    have nL : a ≠ X.env.locals := fun z => notIn (List.mem_filterMap.mpr ⟨X.env, List.mem_cons_self, fr.trans (by rw [z])⟩)
    have nF : a ∉ X.fs := fun hm =>
      let ⟨e, he, q⟩ := List.mem_filterMap.mp hm
      notIn (List.mem_filterMap.mpr ⟨e, List.mem_cons_of_mem _ he, q⟩)
    have S3 := J3.suite he3 hd3 na nL nF
    have go : ∀ {gs : List ExceptHandler} {m : List Clause}, ClsOk X gs m → wTry X.K Wo N m cls d τ G → wpAny (model X.prog X.w) X.A (handleBy (.ref a) X.env gs) (SP X pins N) X.xe { s' with heap := h3 } := by
      intro gs m hk
      induction hk with
      | nil =>
        intro w
        obtain ⟨_, _, _, oe, vs, T, oT, ts, he, hz, hd, h1, hr⟩ := id fl3
        refine wpAny_handleBy_nil ?_
        unfold PySem.passOn
        refine wpAny_bind (wpAny_field he hd h1 ?_)
        rw [if_neg (show ¬ ((Value.ref T == Value.none) = true) from by simp)]
        have out : wpAny (model X.prog X.w) X.A (setFlight (.ref a) X.env.frame) (fun _ s4 => wpAny (model X.prog X.w) X.A (throw (.ref a) : Sem PySem.Flow) (SP X pins N) X.xe s4) X.xe { s' with heap := h3 } := by
          rw [fr]
          refine HandSPX.setFlight_upZ fl3 fun h4 hh4 up4 => wpAny_throw (tk _ _ ⟨a, B, sI, pins, τ, G, cls, d, rfl, J, nb, (up.trans up3).trans up4, .inr (.inr (st ▸ hh4)), na, os, ag, w⟩)
        first
          | exact wpAny_bind (wpAny_pure (wpAny_bind out))
          | exact wpAny_bind out
      | @cons x nm q b0 su p1 p2 hs2 l2 hn hi run r ih =>
        intro w
        obtain ⟨k, hk, yes, no⟩ := w
        refine wpAny_handleBy_cons (codeAny_handlers_test ?_) (by intro z; cases z)
        have lt : PySem.W.Looks (model X.prog X.w) h3 (typeOf (.ref a)) cls := fun A Q E s kk qq => wpAny_typeOf_ref (kk _ _ he3) (by rw [hz3.1]; exact qq)
        have lm := PySem.W.exm_one (M := model X.prog X.w) J3.kIn lt hk
        have test : ∀ {Q E : Value → Shared → Prop}, Q q.cls { s' with heap := h3 } → wpAny (model X.prog X.w) (X.A.mark (some (.ref a))) (eval (.Name x p1) X.env) Q E { s' with heap := h3 } := fun {Q E} hq => by
          obtain ⟨g1, g2, g3 | ⟨g3, g4, g5⟩⟩ := hn
          · exact ld_glob (X := X.suite a ((a, oe3) :: (X.pn ++ pins))) S3 g1 g3 hq g2
          · exact ld_blt (X := X.suite a ((a, oe3) :: (X.pn ++ pins))) S3 g1 g3 g4 hq g5 g2
        refine test (lm.here ?_)
        cases k with
        | false =>
          show wpAny _ X.A (handleBy (.ref a) X.env hs2) _ _ _
          exact ih (no rfl)
        | true =>
          have yes := yes rfl a na
          match nm, hi with
          | none, hi =>
            have hx : q.ix = none := by
              cases e : q.ix with
              | none => rfl
              | some i => rw [e] at hi; exact hi.elim
            rw [hx] at yes
            refine codeAny_handlers_suite (HandSPX.lands_againZ fl3 fun h4 fl4 up4 => ?_)
            have J4 : Inv X pins τ G { s' with heap := h4 } := J.landed nb fl4.1 ((up.trans up3).trans up4) os ag
            obtain ⟨oe4, vs4, he4, hz4, hd4⟩ := fl4.there
            exact wpAny_mono ((run a oe4 cls d (X.pn ++ pins) hz4 ⟨_, hd4⟩).run [] _ _ G _ (J4.suite he4 hd4 na nL nF) yes) (fun f s6 hf => suite_end ok hf) fun _ _ z => False.elim z
          | some n, hi =>
            obtain ⟨i, hx, hj, hl⟩ : ∃ i, q.ix = some i ∧ X.N[i]? = some n ∧ X.env.kindOf n = some .local := by
              cases e : q.ix with
              | none => rw [e] at hi; exact hi.elim
              | some i => rw [e] at hi; exact ⟨i, rfl, hi.1, hi.2⟩
            rw [hx] at yes
            refine codeAny_handlers_suite_as (HandSPX.lands_againZ fl3 fun h4 fl4 up4 => ?_)
            have J4 : Inv X pins τ G { s' with heap := h4 } := J.landed nb fl4.1 ((up.trans up3).trans up4) os ag
            obtain ⟨oe4, vs4, he4, hz4, hd4⟩ := fl4.there
            refine store_ok (X := X.suite a ((a, oe4) :: (X.pn ++ pins))) (v := .ref a) (J4.suite he4 hd4 na nL nF) hN hj (.inl hl) rfl (fun s5 S5 => ?_) (.inr hl)
            refine wpAny_mono ((run a oe4 cls d (X.pn ++ pins) hz4 ⟨_, hd4⟩).run [] s5 _ G _ S5 yes) (fun f s6 hf => ?_) fun _ _ z => False.elim z
            have fin : ∀ {ρ : L2.St} {F : Hp} {Q : Shared → Prop}, Inv X pins ρ F s6 → (∀ s7, Inv X pins (ρ.set i none) F s7 → Q s7) → wpAny (model X.prog X.w) X.A (do bindName X.env n .none; unbindBehindTheSuite X.env n p2) (fun _ s7 => Q s7) X.xe s6 :=
              fun {ρ F Q} S hq => gone_ok S hN hj hl hq
            match f, suite_end (X := X) ok hf with
            | .next, ⟨ρ, F, S, w⟩ => exact fin S fun s7 J7 => ⟨_, _, J7, w⟩
            | .brk, ⟨ρ, F, S, w⟩ => exact fin S fun s7 J7 => ⟨_, _, J7, w⟩
            | .cont, ⟨ρ, F, S, w⟩ => exact fin S fun s7 J7 => ⟨_, _, J7, w⟩
            | .ret u, ⟨v, ρ, F, S, r, w⟩ => exact fin S fun s7 J7 => ⟨_, _, _, J7, r, w⟩
    exact go hh w
  · match f, hsp with
    | .next, ⟨τ, G, S, w⟩ => exact wpAny_execs_nil ⟨τ, G, S.ofTry ok, w⟩
    | .brk, ⟨τ, G, S, w⟩ => exact ⟨τ, G, S.ofTry ok, w⟩
    | .cont, ⟨τ, G, S, w⟩ => exact ⟨τ, G, S.ofTry ok, w⟩
    | .ret u, ⟨v, τ, G, S, r, w⟩ => exact ⟨v, τ, G, S.ofTry ok, r, w⟩
end
end Sw
namespace Sw
open PySem PySem.Spec PyProof.Rows L2
variable {Y : Cfg} {O : Own} {Wx : WX} {X : Cx} {pos : Pos} {δ : Fr} {σ : L2.St}
variable {Z Z1 : Zs} {ms ms1 : List Addr} {H H1 : Hp} {st st1 : Store} {N : Ends}
def Own.see (O : Own) (a dd : Addr) (c : Str) : Own := { O with xa := a, xd := dd, xc := c }
theorem Rel.see {a dd : Addr} {xc : Str} (R : Rel Y O Z ms δ σ H st) (h : noExc δ = true) : Rel Y (O.see a dd xc) Z ms δ σ H st :=
  ⟨R.k0, R.base, R.len, fun i s e => by
    obtain ⟨x, ex, r⟩ := R.slots i s e
    refine ⟨x, ex, ?_⟩
    cases s with
    | exc C fs =>
      have z := List.all_eq_true.mp h _ (List.mem_of_getElem? e)
      cases z
    | sh d => exact r
    | ow ds => exact r
    | thk => exact r, R.inj⟩
/-- what a clause makes -/
def tsOf (Y : Cfg) (O : Own) (sub : Str → Str → Option Bool) (m : Ex) (a : Addr) (cls : Value) (d : Option Addr) : TS := fun N σ H => ∃ dd c h b, d = some dd ∧ cls = .ref (Y.ca c) ∧ sub c h = some b ∧ RS Y (O.see a dd c) W0 m N σ H
def clauses (Y : Cfg) (O : Own) (sub : Str → Str → Option Bool) (hs : List HSem) : List Clause := hs.map fun q => ⟨.ref (Y.ca q.1), q.2.1, tsOf Y O sub q.2.2⟩
theorem Rel.off {i : Nat} (R : Rel Y O Z ms δ σ H st) : Rel Y O Z ms (δ.set i none) (σ.set i none) H st := by
  have sub : ∀ (j : Nat) s, (δ.set i none)[j]? = some (some s) → δ[j]? = some (some s) ∧ (σ.set i none)[j]? = σ[j]? := fun j s e => by
    by_cases z : i = j
    · subst z
      by_cases hl : i < δ.length
      · rw [List.getElem?_set_self hl] at e; cases e
      · rw [List.getElem?_eq_none (by rw [List.length_set]; omega)] at e; cases e
    · rw [List.getElem?_set_ne z] at e ⊢
      exact ⟨e, rfl⟩
  refine ⟨R.k0, R.base, by rw [List.length_set, List.length_set, R.len], fun j s e => ?_, fun j k ds es a e1 e2 e3 e4 => ?_⟩
  · obtain ⟨h1, h2⟩ := sub j s e
    rw [h2]
    exact R.slots j s h1
  · obtain ⟨h1, h2⟩ := sub j _ e1
    obtain ⟨h3, h4⟩ := sub k _ e2
    rw [h2] at e3
    rw [h4] at e4
    exact R.inj j k ds es a h1 h3 e3 e4
theorem Rel.exc {i : Nat} {a dd : Addr} {c : Str} {fs : List (Str × D)} (R : Rel Y (O.see a dd c) Z ms δ σ H st) (hi : i < δ.length) (h : ExcD Y Z ms H dd fs) : Rel Y (O.see a dd c) Z ms (δ.set i (some (.exc c fs))) (σ.set i (some (.ref a))) H st := by
  have hj : i < σ.length := by rw [← R.len]; exact hi
  refine ⟨R.k0, R.base, by rw [List.length_set, List.length_set, R.len], fun j s e => ?_, fun j k ds es p e1 e2 e3 e4 => ?_⟩
  · by_cases q : i = j
    · subst q
      rw [List.getElem?_set_self hi] at e
      cases e
      exact ⟨_, List.getElem?_set_self hj, rfl, h, rfl⟩
    · rw [List.getElem?_set_ne q] at e ⊢
      exact R.slots j s e
  · have n1 : i ≠ j := fun q => by subst q; rw [List.getElem?_set_self hi] at e1; cases e1
    have n2 : i ≠ k := fun q => by subst q; rw [List.getElem?_set_self hi] at e2; cases e2
    rw [List.getElem?_set_ne n1] at e1 e3
    rw [List.getElem?_set_ne n2] at e2 e4
    exact R.inj j k ds es p e1 e2 e3 e4
theorem Rel.unsee {a dd : Addr} {xc : Str} (R : Rel Y (O.see a dd xc) Z ms δ σ H st) (h : noExc δ = true) : Rel Y O Z ms δ σ H st :=
  ⟨R.k0, R.base, R.len, fun i s e => by
    obtain ⟨x, ex, r⟩ := R.slots i s e
    refine ⟨x, ex, ?_⟩
    cases s with
    | exc C fs =>
      have z := List.all_eq_true.mp h _ (List.mem_of_getElem? e)
      cases z
    | sh d => exact r
    | ow ds => exact r
    | thk => exact r, R.inj⟩
def slotN : Option Nat → L2.St → L2.St
  | none, σ => σ
  | some i, σ => σ.set i none
theorem Rel.offN {n : Option Nat} (R : Rel Y O Z ms δ σ H st) : Rel Y O Z ms (hotEnd.offF n δ) (slotN n σ) H st := by
  cases n with
  | none => exact R
  | some i => exact R.off
theorem try_read {K : PySem.W.Frag} {sub : Str → Str → Option Bool} {c : Str} {fs : List (Str × D)} {dd : Addr} (hex : ∀ c h b, sub c h = some b → PySem.W.exmOne K (.ref (Y.ca c)) (.ref (Y.ca h)) = some b) (R : Rel Y O Z ms δ σ H st) (hx : ExcD Y Z ms H dd fs) :
    ∀ {hs : List HSem}, PostS Y O Wx Z ms H N (handle sub c fs δ hs st) → wTry K Wx N (clauses Y O sub hs) (.ref (Y.ca c)) (some dd) σ H := by
  intro hs
  induction hs with
  | nil => exact fun P => P dd σ H Z ms (StepZ.refl R.ok) R hx
  | cons q hs ih =>
    obtain ⟨h, n, m⟩ := q
    intro P
    obtain ⟨b, e, P1⟩ := PostS.of P
    refine ⟨b, hex c h b e, fun hb a _ => ?_, fun hb => ?_⟩
    · subst hb
      rw [if_pos rfl] at P1
      obtain ⟨g1, P2⟩ := PostS.guard P1
      obtain ⟨δ', e2, P3⟩ := PostS.of P2
      have R1 : Rel Y (O.see a dd c) Z ms δ' (slotOf n a σ) H st := by
        cases n with
        | none => cases e2; exact R.see g1
        | some i =>
          unfold onF at e2
          dsimp only at e2
          split at e2
          · rename_i hi
            cases e2
            exact (R.see g1).exc hi hx
          · cases e2
      refine ⟨dd, c, h, true, rfl, rfl, e, δ', st, Z, ms, R1, ?_⟩
      unfold M.bind at P3
      have fin : ∀ {Rs : L2.St → Hp → Prop} {δ2 : Fr} {st2 : Store} {f : Fr → Flow}, (PostS Y O Wx Z ms H N (M.bind (M.guard (noExc (hotEnd.offF n δ2))) (fun _ => M.pure (f (hotEnd.offF n δ2))) st2)) →
          (PostS Y O Wx Z ms H N (M.pure (f (hotEnd.offF n δ2)) st2) → ∀ σ' H' Z' ms', StepZ Y Z ms H Z' ms' H' st2 → Rel Y O Z' ms' (hotEnd.offF n δ2) σ' H' st2 → Rs σ' H') →
          ∀ σ' H' Z' ms', StepZ Y Z ms H Z' ms' H' st2 → Rel Y (O.see a dd c) Z' ms' δ2 σ' H' st2 → Rs (slotN n σ') H' := fun {Rs δ2 st2 f} P hf σ' H' Z' ms' z R' => by
        obtain ⟨g2, P4⟩ := PostS.guard P
        exact hf P4 _ H' Z' ms' z (R'.offN.unsee g2)
      show PostS Y (O.see a dd c) W0 Z ms H (endsOf n N) (m δ' st)
      cases e3 : m δ' st with
      | ok f st2 =>
        rw [e3] at P3
        cases f with
        | next δ2 =>
          have r := fin (Rs := N.nx) (f := .next) P3 fun P => P
          cases n with
          | none => exact r
          | some i => exact r
        | brk δ2 =>
          have r := fin (Rs := N.bk) (f := .brk) P3 fun P => P
          cases n with
          | none => exact r
          | some i => exact r
        | cont δ2 =>
          have r := fin (Rs := N.ct) (f := .cont) P3 fun P => P
          cases n with
          | none => exact r
          | some i => exact r
        | ret sl =>
          cases n with
          | none => exact P3
          | some i => exact P3
        | exc c' fs' δ2 => exact (show False from P3).elim
      | exn c' fs' st2 => rw [e3] at P3; exact (show False from P3).elim
      | bad => rw [e3] at P3; exact (show False from P3).elim
    · subst hb
      rw [if_neg (by simp)] at P1
      exact ih P1
abbrev tryX (sub : Str → Str → Option Bool) (mb : Ex) (hs : List HSem) : Ex := fun δ => M.bind (mb δ) fun f => match f with
    | .exc c fs δ' => handle sub c fs δ' hs
    | f => M.pure f
theorem ss_try {bd : List Stmt} {h0 : ExceptHandler} {gs : List ExceptHandler} {sub : Str → Str → Option Bool} {mb : Ex} {hs : List HSem} (s1 : X.stack = X.env :: X.outer) (s2 : X.env.frame = some X.env.locals) (hN : X.N.Nodup) (tk : Takes X Wx)
    (hex : ∀ c h b, sub c h = some b → PySem.W.exmOne X.K (.ref (Y.ca c)) (.ref (Y.ca h)) = some b)
    (hb : ∀ (W : WX) (pn : List (Addr × Obj)) (xe : Value → Shared → Prop), Takes (X.tr pn xe) W → PassesOwn (model X.prog X.w) X.A X.env xe → PSs (X.tr pn xe) bd (RS Y O W mb)) (hh : ClsOk X (h0 :: gs) (clauses Y O sub hs)) :
    PS X (.Try bd (h0 :: gs) [] [] pos) (RS Y O Wx (tryX sub mb hs)) := (ps_tryAny (tb := fun W => RS Y O W mb) s1 s2 hN tk hb hh).imp fun N σ H ⟨δ, st, Z, ms, R, P⟩ => by
  refine ⟨δ, st, Z, ms, R, ?_⟩
  unfold tryX M.bind at P
  cases e : mb δ st with
  | ok f st' =>
    rw [e] at P
    cases f with
    | next δ' => exact P
    | brk δ' => exact P
    | cont δ' => exact P
    | ret sl => exact P
    | exc c fs δ' => exact fun d σ' H' Z' ms' z R' hx => try_read hex R' hx (PostS.shift P z)
  | exn c fs st' => rw [e] at P; exact P
  | bad => rw [e] at P; exact P
end Sw

set_option Elab.async false
set_option linter.all false
set_option maxRecDepth 100000
/-! Sw, part Dc: dicts as values: displays, comprehensions, get; comparisons of four in a row. -/
namespace Sw
open PySem PySem.Spec PyProof.Rows L2
variable {Y : Cfg} {O : Own} {Wx : WX} {X : Cx} {pos : Pos} {a b c d : Expr} {ma mb mc md : Ev} {δ : Fr} {σ : L2.St}
variable {Z Z1 : Zs} {ms ms1 : List Addr} {H H1 : Hp} {st st1 : Store} {Q : VK}
/-- what was just made is locked for good -/
theorem pe_frzV {e : Expr} {t : TE} (h : PE X e t) : PE X e (fun σ H Q => t σ H fun v H' => ∃ a u, v = .ref a ∧ H' a = some u ∧ Mut (some u) ∧ ∀ od, Q v (upd H' a (.frz od u))) :=
  ⟨fun pins s σ H Q I hw => thn (h.run pins s σ H _ I hw) fun v s1 ⟨x, H1, I1, r, a, u, ex, ea, mu, q⟩ => by
    obtain ⟨od, I2⟩ := I1.lock ea mu
    exact ⟨x, _, I2, r, q od⟩⟩
/-- a dict with plain keys -/
structure DctR (Y : Cfg) (Z : Zs) (ms : List Addr) (H : Hp) (vs : List (Key × V)) (kvs : List (Ky × D)) : Prop where
  keys : vs.map (fun p => (Sum.inl p.1 : Ky)) = kvs.map (·.1)
  vals : DenL Y Z ms H (vs.map (·.2)) (kvs.map (·.2))
theorem DctR.nil : DctR Y Z ms H [] [] := ⟨rfl, .nil⟩
theorem DctR.len {vs : List (Key × V)} {kvs : List (Ky × D)} (h : DctR Y Z ms H vs kvs) : vs.length = kvs.length := by
  have := congrArg List.length h.keys
  simpa using this
theorem DctR.put {vs : List (Key × V)} {kvs : List (Ky × D)} (h : DctR Y Z ms H vs kvs) (k : Key) {v : V} {d : D} (hv : Den Y Z ms H v d) : DctR Y Z ms H (putK vs k v) (putY kvs (.inl k) d) := by
  obtain ⟨hk, r⟩ := h
  have e0 : (vs.any fun kv => decide (kv.1 = k)) = (kvs.any fun kv => decide (kv.1 = (Sum.inl k : Ky))) := by
    clear r
    induction vs generalizing kvs with
    | nil => cases kvs with
      | nil => rfl
      | cons _ _ => cases hk
    | cons p vs ih =>
      cases kvs with
      | nil => cases hk
      | cons q kvs =>
        rw [List.map_cons, List.map_cons] at hk
        injection hk with h1 h2
        rw [List.any_cons, List.any_cons, ih h2, ← h1]
        congr 1
        exact decide_eq_decide.mpr ⟨fun e => by rw [e], fun e => Sum.inl.inj e⟩
  unfold putK putY
  rw [e0]
  split
  · rename_i hh
    clear e0 hh
    induction vs generalizing kvs with
    | nil => cases kvs with
      | nil => exact ⟨rfl, .nil⟩
      | cons _ _ => cases hk
    | cons p vs ih =>
      cases kvs with
      | nil => cases hk
      | cons q kvs =>
        rw [List.map_cons, List.map_cons] at hk r
        injection hk with h1 h2
        cases r with
        | cons rv rr =>
          obtain ⟨i1, i2⟩ := ih h2 rr
          simp only [List.map_cons]
          by_cases e : p.1 = k
          · have e' : q.1 = Sum.inl k := by rw [← h1, e]
            rw [if_pos e, if_pos e']
            exact ⟨by simp only [List.map_cons]; rw [i1, h1], by simp only [List.map_cons]; exact .cons hv i2⟩
          · have e' : ¬ q.1 = Sum.inl k := fun z => e (Sum.inl.inj (h1.trans z))
            rw [if_neg e, if_neg e']
            exact ⟨by simp only [List.map_cons]; rw [i1, h1], by simp only [List.map_cons]; exact .cons rv i2⟩
  · exact ⟨by rw [List.map_append, List.map_append, hk]; rfl, by rw [List.map_append, List.map_append]; exact r.append (.cons hv .nil)⟩
theorem dctP_append (t : Bool) : ∀ (ds es : List D) (acc : List (Ky × D)), dctP t (ds ++ es) acc = (dctP t ds acc).bind fun q => dctP t es q
  | [], es, acc => rfl
  | d :: ds, es, acc => by
    rw [List.cons_append]
    match d with
    | .tup [k, v] =>
      show (keyD t k).bind (fun y => dctP t (ds ++ es) (putY acc y v)) = ((keyD t k).bind fun y => dctP t ds (putY acc y v)).bind _
      cases keyD t k with
      | none => rfl
      | some y => exact dctP_append t ds es _
    | .tup [] => rfl
    | .tup [_] => rfl
    | .tup (_ :: _ :: _ :: _) => rfl
    | .non => rfl
    | .bl _ => rfl
    | .int _ => rfl
    | .str _ => rfl
    | .lst _ => rfl
    | .ins _ _ => rfl
    | .cell _ => rfl
    | .fn _ => rfl
    | .seqI _ => rfl
    | .dct _ _ => rfl
theorem dctP_one (k v : D) (acc : List (Ky × D)) (y : Ky) (e : keyD false k = some y) : dctP false [.tup [k, v]] acc = some (putY acc y v) := by
  show (keyD false k).bind (fun y => dctP false [] (putY acc y v)) = _
  rw [e]
  rfl
theorem DctR.step {vs : List (Key × V)} {kvs : List (Ky × D)} (h : DctR Y Z ms H vs kvs) (s : Step Y Z ms H Z1 ms1 H1 st1) (k : StOk Y Z ms H st) : DctR Y Z1 ms1 H1 vs kvs := ⟨h.keys, s.denL k h.vals⟩
theorem putY_len (kvs : List (Ky × D)) (k : Ky) (v : D) : (putY kvs k v).length ≤ kvs.length + 1 := by
  unfold putY
  split
  · rw [List.length_map]; omega
  · rw [List.length_append]; exact Nat.le_refl _
theorem dctP_len (t : Bool) : ∀ (ds : List D) (acc kvs : List (Ky × D)), dctP t ds acc = some kvs → kvs.length ≤ acc.length + ds.length
  | [], acc, kvs, h => by cases h; exact Nat.le_refl _
  | d :: ds, acc, kvs, h => by
    match d, h with
    | .tup [k, v], h =>
      obtain ⟨y, _, h2⟩ := Option.bind_eq_some_iff.mp (show (keyD t k).bind (fun y => dctP t ds (putY acc y v)) = some kvs from h)
      have := dctP_len t ds _ kvs h2
      have := putY_len acc y v
      rw [List.length_cons]
      omega
/-! ### displays -/
/-- the end: the new dict at p is what was said -/
theorem dct_fin {p : Addr} {vs : List (Key × V)} {kvs : List (Ky × D)} {Z0 : Zs} {ms0 : List Addr} {H0 : Hp} (P : Post Y Wx (VD Y) σ Z0 ms0 H0 st (M.pure (.dct false kvs) st1) Q) (s : Step Y Z0 ms0 H0 Z ms H st1) (hp0 : H0 p = none) (hp : ∃ xs, H p = some (.dK xs)) (nz : ¬ Z p) (ns : ¬ Spc Y ms p)
    (r : DctR Y Z ms H vs kvs) (od : Obj) : Q (.ref p) (upd H p (.frz od (.dK vs))) := by
  obtain ⟨xs, hp⟩ := hp
  have s2 := s.change' (o := .frz od (.dK vs)) hp0 hp dK_noCode nz ns
  have k2 := s2.ok.froze (p := p) (by rw [upd_same]; simp) ns
  refine P _ _ (fun a => Z a ∨ a = p) ms ⟨k2, fun a z => .inl (s2.zz a z), fun a z => ?_, s2.mm, s2.mn, s2.kp⟩ (.dctK upd_same (.inr rfl) r.keys ((den_change nz r.vals).mono (fun _ z => .inl z) List.prefix_rfl fun _ _ _ e => e))
  rcases z with z | z
  · exact s2.zn a z
  · rw [z]; exact .inr hp0
/-- as rg_seq, what is wanted at the end kept as it was said of an earlier state -/
theorem rg_seqG {α β γ ε : Type} {VR : VRel α β} {VR0 : VRel γ ε} {Za : Zs} {msa : List Addr} {Ha : Hp} {sta : Store} {m : Fr → M α} {k : α → M γ} {Q : β → Hp → Prop} {QA : ε → Hp → Prop} (s0 : Step Y Za msa Ha Z ms H st) (k0 : StOk Y Za msa Ha sta) (R : Rel Y O Z ms δ σ H st)
    (P : Post Y Wx VR0 σ Za msa Ha sta (M.bind (m δ) k st) QA) (h : ∀ a st1 v H1 Z1 ms1, Step Y Z ms H Z1 ms1 H1 st1 → VR Z1 ms1 H1 v a → Post Y Wx VR0 σ Za msa Ha sta (k a st1) QA → Q v H1) : RG Y O Wx VR m σ H Q := by
  refine ⟨δ, st, Z, ms, R, ?_⟩
  unfold M.bind at P
  cases e : m δ st with
  | ok a st' =>
    rw [e] at P
    exact fun v H' Z' ms' s q => h a st' v H' Z' ms' s q P
  | exn c fs st' => rw [e] at P; exact fun d H' Z' ms' s q => P d H' Z' ms' (s0.trans s k0) q
  | bad => rw [e] at P; exact P
/-- the pairs' reading -/
def trsOf (Y : Cfg) (O : Own) (Wx : WX) : List (E × Ev) → List (E × Ev) → List (TE × TE)
  | (_, k) :: ks, (_, v) :: vs => (RE Y O Wx k, RE Y O Wx v) :: trsOf Y O Wx ks vs
  | _, _ => []
/-- pairs of values and what they denote -/
def PsDen (Y : Cfg) (Z : Zs) (ms : List Addr) (H : Hp) : List (V × V) → List D → Prop := Paired fun p d => ∃ k v q, d = .tup [k, v] ∧ keyD false k = some (.inl q) ∧ p.1 = kV q ∧ Den Y Z ms H p.2 v
theorem PsDen.step {ps : List (V × V)} {ds : List D} (h : PsDen Y Z ms H ps ds) (s : Step Y Z ms H Z1 ms1 H1 st1) (k : StOk Y Z ms H st) : PsDen Y Z1 ms1 H1 ps ds := Paired.mapP h fun _ _ ⟨k1, v, q, e1, e2, e3, e4⟩ => ⟨k1, v, q, e1, e2, e3, s.den k e4⟩
theorem keyD_val {k : D} {y : Ky} {v : V} (h : Den Y Z ms H v k) (e : keyD false k = some y) : ∃ q, y = .inl q ∧ v = kV q := by
  obtain ⟨q, e1, e2⟩ := keyD_f e
  exact ⟨q, e1, keyA_v (.inl h) e2⟩
theorem pairs_read {γ ε : Type} {VR0 : VRel γ ε} {Za : Zs} {msa : List Addr} {Ha : Hp} {sta : Store} {QA : ε → Hp → Prop} (k0 : StOk Y Za msa Ha sta) : ∀ {ks vs : List (E × Ev)} {kont : List D → M γ} {δ : Fr} {σ : L2.St} {H : Hp} {Z : Zs} {ms : List Addr} {st : Store} {Q' : List (V × V) → Hp → Prop}, Step Y Za msa Ha Z ms H st → Rel Y O Z ms δ σ H st →
    Post Y Wx VR0 σ Za msa Ha sta (M.bind (seqP ks vs δ) kont st) QA →
    (∀ ps ds st1 Z1 ms1 H1, Step Y Z ms H Z1 ms1 H1 st1 → PsDen Y Z1 ms1 H1 ps ds → Post Y Wx VR0 σ Za msa Ha sta (kont ds st1) QA → Q' ps H1) → tPairs (trsOf Y O Wx ks vs) σ H Q'
  | [], [], kont, δ, σ, H, Z, ms, st, Q', s0, R, P, h => h [] [] st Z ms H (Step.refl R.ok) .nil P
  | [], _ :: _, _, _, _, _, _, _, _, _, _, R, P, h => (show False from P).elim
  | _ :: _, [], _, _, _, _, _, _, _, _, _, R, P, h => (show False from P).elim
  | (e1, k) :: ks, (e2, v) :: vs, kont, δ, σ, H, Z, ms, st, Q', s0, R, P, h => by
    have P' : Post Y Wx VR0 σ Za msa Ha sta (M.bind (k δ) (fun x => M.bind (M.of (keyD false x)) fun _ => M.bind (v δ) fun y => M.bind (seqP ks vs δ) fun ds => kont (.tup [x, y] :: ds)) st) QA := by
      have e : M.bind (seqP ((e1, k) :: ks) ((e2, v) :: vs) δ) kont = M.bind (k δ) (fun x => M.bind (M.of (keyD false x)) fun _ => M.bind (v δ) fun y => M.bind (seqP ks vs δ) fun ds => kont (.tup [x, y] :: ds)) := by
        show M.bind (M.bind (M.bind (k δ) fun x => M.bind (M.of (keyD false x)) fun _ => M.bind (v δ) fun y => M.pure (.tup [x, y])) fun d => M.bind (seqP ks vs δ) fun ds => M.pure (d :: ds)) kont = _
        simp only [bind_assoc']
        rfl
      rw [← e]
      exact P
    refine rg_seqG s0 k0 R P' fun x st1 u H1 Z1 ms1 s1 vx P1 => ?_
    have R1 := R.step s1
    have P1' : ∃ y, keyD false x = some y ∧ Post Y Wx VR0 σ Za msa Ha sta ((M.bind (v δ) fun y => M.bind (seqP ks vs δ) fun ds => kont (.tup [x, y] :: ds)) st1) QA := by
      cases e : keyD false x with
      | none => rw [e] at P1; exact (show False from P1).elim
      | some y => rw [e] at P1; exact ⟨y, rfl, P1⟩
    obtain ⟨y, e, P2⟩ := P1'
    refine rg_seqG (s0.trans s1 k0) k0 R1 P2 fun w st2 u2 H2 Z2 ms2 s2 vw P3 => ?_
    have R2 := R1.step s2
    obtain ⟨q, rfl, e3⟩ := keyD_val vx e
    refine pairs_read k0 ((s0.trans s1 k0).trans s2 k0) R2 P3 fun ps ds st3 Z3 ms3 H3 s3 pd P4 => h ((u, u2) :: ps) (.tup [x, w] :: ds) st3 Z3 ms3 H3 ((s1.trans s2 R.ok).trans s3 R.ok) (.cons ⟨x, w, q, rfl, e, e3, s3.den R2.ok vw⟩ pd) P4
theorem psDen_merge : ∀ {ps : List (V × V)} {ds : List D} {vs : List (Key × V)} {kvs kvs' : List (Ky × D)}, PsDen Y Z ms H ps ds → DctR Y Z ms H vs kvs → dctP false ds kvs = some kvs' →
    ∃ more : List (Key × V), ps = more.map (fun kv => (kV kv.1, kv.2)) ∧ DctR Y Z ms H (mergeK vs more) kvs'
  | _, _, vs, kvs, kvs', .nil, r, e => by cases e; exact ⟨[], rfl, r⟩
  | _, _, vs, kvs, kvs', .cons (a := p) (l₁ := ps) (l₂ := ds) ⟨k, v, q, e1, e2, e3, e4⟩ t, r, e => by
    subst e1
    obtain ⟨y, g1, g2⟩ := Option.bind_eq_some_iff.mp (show (keyD false k).bind (fun y => dctP false ds (putY kvs y v)) = some kvs' from e)
    rw [e2] at g1
    cases g1
    obtain ⟨more, h1, h2⟩ := psDen_merge t (r.put q e4) g2
    exact ⟨(q, p.2) :: more, by rw [h1, List.map_cons]; exact congrArg (· :: _) (Prod.ext e3 rfl), h2⟩
theorem psDen_len {ps : List (V × V)} {ds : List D} (h : PsDen Y Z ms H ps ds) : ps.length = ds.length := Paired.length h
theorem seqP_len : ∀ {ks vs : List (E × Ev)} {δ : Fr} {st st' : Store} {ds : List D}, seqP ks vs δ st = .ok ds st' → ds.length = ks.length
  | [], [], _, _, _, _, h => by cases h; rfl
  | [], _ :: _, _, _, _, _, h => by cases h
  | _ :: _, [], _, _, _, _, h => by cases h
  | (e1, k) :: ks, (e2, v) :: vs, δ, st, st', ds, h => by
    obtain ⟨d, s1, h1, h2⟩ := bind_ok h
    obtain ⟨r, s2, h3, h4⟩ := bind_ok h2
    cases h4
    rw [List.length_cons, List.length_cons, seqP_len h3]
theorem se_ddsp {ks vs : List (E × Ev)} {keys : List (Option Expr)} {xs : List Expr} (hp : PPs X pos keys xs (trsOf Y O Wx ks vs)) (hall : keys.all (·.isSome) = true) (hl : keys.length = xs.length) (h0 : keys ≠ []) (hk : ks.length ≤ 15) (hkl : keys.length ≤ 15) :
    PE X (.Dict keys xs pos) (RE Y O Wx fun δ => M.bind (seqP ks vs δ) fun ds => dctM (.lst ds)) :=
  (pe_frzV (pe_disp hp hall hl h0 hkl)).imp fun σ H Q ⟨δ, st, Z, ms, R, P⟩ p hp => by
    have s0 := Step.laid (o := .dK []) R.ok hp
    have R0 := R.step s0
    have fr := R.ok.free hp
    have P0 : Post Y Wx (VD Y) σ Z ms H st (M.bind (seqP ks vs δ) (fun ds => dctM (.lst ds)) st) Q := P
    have e1 : M.bind (seqP ks vs δ) (fun ds => dctM (.lst ds)) st = M.bind (seqP ks vs δ) (fun ds => M.bind (M.guard (decide (ds.length ≤ 15))) fun _ => dctM (.lst ds)) st := by
      unfold M.bind
      cases e : seqP ks vs δ st with
      | ok ds st' =>
        dsimp only
        have : decide (ds.length ≤ 15) = true := decide_eq_true (by rw [seqP_len e]; exact hk)
        rw [this]
        rfl
      | exn _ _ _ => rfl
      | bad => rfl
    rw [e1] at P0
    refine pairs_read R.ok s0 R0 P0 fun ps ds st1 Z1 ms1 H1 s1 pd P2 => ?_
    obtain ⟨g1, P3⟩ := Post.guard P2
    have hp1 := s1.kp p _ upd_same fr.1
    refine ⟨hp1, ?_⟩
    have P4 : Post Y Wx (VD Y) σ Z ms H st (M.of ((dctP false ds []).map (.dct false)) st1) Q := P3
    have P5 : ∃ kvs, dctP false ds [] = some kvs ∧ Post Y Wx (VD Y) σ Z ms H st (M.pure (.dct false kvs) st1) Q := by
      cases e : dctP false ds [] with
      | none => rw [e] at P4; exact (show False from P4).elim
      | some kvs => rw [e] at P4; exact ⟨kvs, rfl, P4⟩
    obtain ⟨kvs, e3, P5⟩ := P5
    obtain ⟨more, h1, h2⟩ := psDen_merge pd DctR.nil e3
    have hl2 : more.length ≤ 15 := by
      have := psDen_len pd
      rw [h1, List.length_map] at this
      rw [this]
      exact of_decide_eq_true g1
    refine ⟨more, h1, hl2, p, _, rfl, upd_same, trivial, fun od => ?_⟩
    rw [upd_upd]
    refine dct_fin P5 (s0.trans s1 R.ok) hp ⟨_, hp1⟩ (fun z => ?_) (fun q => ?_) h2 od
    · rcases s1.zn p z with z | z
      · exact fr.2 z
      · rw [upd_same] at z; cases z
    · rcases q with q | q
      · rcases s1.mn p q with q | q
        · exact fr.1 (.inl q)
        · rw [upd_same] at q; cases q
      · exact fr.1 (.inr q)
/-! ### comprehensions -/
/-- the dict being made -/
structure DAcc (Y : Cfg) (Z : Zs) (ms : List Addr) (H : Hp) (p : Addr) (acc : List D) : Prop where
  ex : ∃ vs kvs, H p = some (.dK vs) ∧ dctP false acc [] = some kvs ∧ DctR Y Z ms H vs kvs
  nz : ¬ Z p
  ns : ¬ Spc Y ms p
theorem DAcc.step {p : Addr} {acc : List D} (A : DAcc Y Z ms H p acc) (k : StOk Y Z ms H st) (s : Step Y Z ms H Z1 ms1 H1 st1) : DAcc Y Z1 ms1 H1 p acc := by
  obtain ⟨vs, kvs, h1, h2, h3⟩ := A.ex
  have hn : H p ≠ none := by rw [h1]; simp
  refine ⟨⟨vs, kvs, s.kp p _ h1 A.ns, h2, h3.step s k⟩, fun z => ?_, fun q => ?_⟩
  · rcases s.zn p z with z | z
    · exact A.nz z
    · exact hn z
  · rcases q with q | q
    · rcases s.mn p q with q | q
      · exact A.ns (.inl q)
      · exact hn q
    · exact A.ns (.inr q)
def VDc (Y : Cfg) (Hs : Hp) : VRel (List D) Addr := fun Z ms H p r => DAcc Y Z ms H p r ∧ Hs p = none
theorem post_noxD {m : M (List D)} (P : Post Y Wx (VD Y) σ Z ms H st (M.bind (M.bind (M.nox m) (fun r => M.pure (D.lst r))) dctM st) Q) :
    Post Y W0 (VDc Y H) σ Z ms H st (m st) (fun p H' => ∃ a u, V.ref p = .ref a ∧ H' a = some u ∧ Mut (some u) ∧ ∀ od, Q (.ref p) (upd H' a (.frz od u))) := by
  unfold M.bind M.nox at P
  cases e : m st with
  | ok r st' =>
    rw [e] at P
    intro p H' Z' ms' s ⟨A, hp0⟩
    obtain ⟨vs, kvs, h1, h2, h3⟩ := A.ex
    refine ⟨p, _, rfl, h1, trivial, fun od => ?_⟩
    have P' : Post Y Wx (VD Y) σ Z ms H st (M.of ((dctP false r []).map (.dct false)) st') Q := P
    rw [h2] at P'
    exact dct_fin P' s hp0 ⟨_, h1⟩ A.nz A.ns h3 od
  | exn c fs st' => rw [e] at P; exact (show False from P).elim
  | bad => rw [e] at P; exact (show False from P).elim
structure AtTurnD (Y : Cfg) (Za : Zs) (msa : List Addr) (Ha : Hp) (sta : Store) (σa : L2.St) (Hs : Hp) (p : Addr) (QA : Addr → Hp → Prop) (rest : Nat → List D → M (List D)) (n : Nat) (i m : Nat) (H' : Hp) : Prop where
  turns : m + i = n
  at_ : ∃ Z' ms' st' acc, Step Y Za msa Ha Z' ms' H' st' ∧ DAcc Y Z' ms' H' p acc ∧ Post Y W0 (VDc Y Hs) σa Za msa Ha sta (rest i acc st') QA
theorem dc_read {t : T} {mi : Fr → M (List D)} {mt : Fr → M Bool} {mk mv : Ev} {vs : List Nat} (hsl : ∀ i ∈ t.slots, i ∈ vs)
    (h : RE Y O Wx (fun δ => M.bind (M.bind (mi δ) fun items => M.bind (M.nox (foldG (bodyM t mt (leafM (pairM mk mv))) (wipeF δ vs) items [])) fun r => M.pure (.lst r)) dctM) σ H Q) :
    tDc (RI true Y O Wx mi) (GT Y O t) (RT Y O W0 mt) (RE Y O W0 mk) (RE Y O W0 mv) vs σ H (fun v H' => ∃ a u, v = .ref a ∧ H' a = some u ∧ Mut (some u) ∧ ∀ od, Q v (upd H' a (.frz od u))) := by
  obtain ⟨δ, st, Z, ms, R, P⟩ := h
  have P : Post Y Wx (VD Y) σ Z ms H st (M.bind (mi δ) (fun items => M.bind (M.bind (M.nox (foldG (bodyM t mt (leafM (pairM mk mv))) (wipeF δ vs) items [])) fun r => M.pure (.lst r)) dctM) st) Q := by
    rw [← bind_assoc']
    exact P
  refine rg_seq R P fun items st1 J H1 Z1 ms1 s1 R1 wd P1 D hD => ?_
  have P2 := post_noxD P1
  have k1 := R1.ok
  have nD := k1.free hD
  refine ⟨AtTurnD Y Z1 ms1 H1 st1 σ H1 D (fun p H' => ∃ a u, V.ref p = .ref a ∧ H' a = some u ∧ Mut (some u) ∧ ∀ od, Q (.ref p) (upd H' a (.frz od u))) (fun i acc => foldG (bodyM t mt (leafM (pairM mk mv))) (wipeF δ vs) (items.drop i) acc) items.length,
    ⟨items.length, by omega, Z1, ms1, st1, [], Step.laid k1 hD, ⟨⟨[], [], upd_same, rfl, DctR.nil⟩, nD.2, nD.1⟩, P2⟩, ?_⟩
  rintro i m H' ⟨hm, Z', ms', st', acc, s', A, P'⟩
  obtain ⟨w1, w2⟩ := wd Z' ms' H' st' (by unfold Tr; rw [if_pos rfl]; exact s')
  cases m with
  | zero =>
    have hi : i = items.length := by omega
    subst hi
    rw [List.drop_length] at P'
    exact .inl ⟨w1, P' D H' Z' ms' s' ⟨A, hD⟩⟩
  | succ m =>
    obtain ⟨d, e1, e2⟩ := drop_at (items := items) (i := i) (by omega)
    rw [e2] at P'
    obtain ⟨g1, g2⟩ := w2 i d e1
    refine .inr ⟨g1, _, fun H' q => ⟨m, Nat.lt_succ_self m, q⟩, fun x H3 y => ?_⟩
    obtain ⟨Z3, s3, hx⟩ := g2 x H3 y
    have sa := s'.trans s3 k1
    have Rw : Rel Y O Z3 ms' (wipeF δ vs) (L2.wipe σ vs) H3 st' := (R1.wipe vs).step sa
    have A3 := A.step s'.ok s3
    refine g_turn (vs := vs) (wipe_wipe σ vs) sa k1 Rw hx P' hsl (fun Z4 ms4 st4 δ4 σ4 H4 s4 R4 _ P4 => ?_) fun Z4 ms4 st4 H4 s4 P4 => ?_
    · -- the key, the value
      have A4 := A3.step s3.ok s4
      have sb := sa.trans s4 k1
      have e0 : M.bind (leafM (pairM mk mv) δ4 acc) (fun acc' => foldG (bodyM t mt (leafM (pairM mk mv))) (wipeF δ vs) (items.drop (i + 1)) acc') =
          M.bind (mk δ4) fun k => M.bind (M.of (keyD false k)) fun _ => M.bind (mv δ4) fun v => M.bind (M.guard (decide (acc.length < sizeLine))) fun _ => foldG (bodyM t mt (leafM (pairM mk mv))) (wipeF δ vs) (items.drop (i + 1)) (acc ++ [.tup [k, v]]) := by
        unfold leafM pairM
        simp only [bind_assoc']
        rfl
      rw [e0] at P4
      refine rg_seqA sb k1 R4 P4 fun k st5 u H5 Z5 ms5 s5 vk P5 => ?_
      obtain ⟨y, e3, P6⟩ := pb_of P5
      obtain ⟨q, rfl, rfl⟩ := keyD_val vk e3
      refine rg_seqA (sb.trans s5 k1) k1 (R4.step s5) P6 fun w st6 u6 H6 Z6 ms6 s6 vw P7 => ?_
      have A6 := (A4.step R4.ok s5).step (R4.step s5).ok s6
      have sc := (sb.trans s5 k1).trans s6 k1
      obtain ⟨vs6, kvs6, h1, h2, h3⟩ := A6.ex
      have g : acc.length < sizeLine ∧ Post Y W0 (VDc Y H1) σ Z1 ms1 H1 st1 (foldG (bodyM t mt (leafM (pairM mk mv))) (wipeF δ vs) (items.drop (i + 1)) (acc ++ [.tup [k, w]]) st6) (fun p H' => ∃ a u, V.ref p = .ref a ∧ H' a = some u ∧ Mut (some u) ∧ ∀ od, Q (.ref p) (upd H' a (.frz od u))) := by
        by_cases hz : acc.length < sizeLine
        · refine ⟨hz, ?_⟩
          simp only [M.guard, hz, decide_true, if_true] at P7
          exact P7
        · simp only [M.guard, hz, decide_false] at P7
          exact P7.elim
      have hlen : vs6.length < sizeLine := by
        have := dctP_len false acc [] kvs6 h2
        rw [h3.len]
        simp at this
        omega
      refine ⟨vs6, q, rfl, h1, hlen, by omega, Z6, ms6, st6, _, sc.change' hD h1 dK_noCode A6.nz A6.ns, ⟨⟨_, putY kvs6 (.inl q) w, upd_same, ?_, ?_⟩, A6.nz, A6.ns⟩, g.2⟩
      · rw [dctP_append, h2]
        exact dctP_one k w _ _ e3
      · have h4 := h3.put q vw
        exact ⟨h4.keys, den_change A6.nz h4.vals⟩
    · exact ⟨by omega, Z4, ms4, st4, acc, sa.trans s4 k1, A3.step s3.ok s4, P4⟩
/-! ### d.get(k, x) -/
theorem OptDen.getD {o : Option V} {q : Option D} {v : V} {d : D} (h : OptDen Y Z ms H o q) (hv : Den Y Z ms H v d) : Den Y Z ms H (o.getD v) (q.getD d) := by
  cases h with
  | none => exact hv
  | some h => exact h
theorem se_get2 {apos cpos : Pos} (hu : X.A.units + 65 < cLine) (ha : PE X a (REB Y O Wx ma)) (hb : PE X b (RE Y O Wx mb)) (hc : PE X c (RE Y O Wx mc)) (m : M2 X a "get" apos b c cpos) :
    PE X (.Call (.Attribute a "get" apos) [b, c] [] cpos) (RE Y O Wx fun δ => M.bind (ma δ) fun x => M.bind (M.of (dctD x)) fun p => M.bind (mb δ) fun y => M.bind (mc δ) fun z => M.of (get2D p y z)) := by
  refine (pe_dget2 (by omega) ha hb hc m).imp fun σ H Q ⟨δ, st, Z, ms, R, P⟩ => ?_
  refine rg_seq R P fun x st1 v H1 Z1 ms1 s1 R1 vx P1 => ?_
  obtain ⟨p, e1, P2⟩ := Post.bindOf P1
  cases x with
  | dct t kvs =>
    cases e1
    have hd : ∃ a o vs, v = .ref a ∧ H1 a = some (.frz o (.dK vs)) := by
      rcases vx with hx | ⟨_, _, _, _, z, _⟩
      · cases hx with
        | dctK h _ _ _ => exact ⟨_, _, _, rfl, h⟩
      · cases z
    obtain ⟨a, o, vs, rfl, ha⟩ := hd
    refine ⟨a, rfl, .inl ⟨vs, .inr ⟨o, ha⟩⟩, rg_seq R1 P2 fun y st2 u H2 Z2 ms2 s2 R2 vy P3 => rg_seq R2 P3 fun z st3 u3 H3 Z3 ms3 s3 R3 vz P4 => ?_⟩
    obtain ⟨w, e2, P5⟩ := Post.of P4
    obtain ⟨k, e3, rfl⟩ := Option.map_eq_some_iff.mp (show (keyD t y).map (fun k => (getY kvs k).getD z) = some w from e2)
    obtain ⟨a', ov, e4, g, od⟩ := ((s2.trans s3 R1.ok).denB R1.ok vx).dget (.inl (s3.den R2.ok vy)) e3
    cases e4
    exact ⟨ov, g, P5.pure' R3.ok (od.getD vz)⟩
  | _ => cases e1
/-! ### a < b < c < d -/
def chain3M (ma mb mc md : Ev) (op op2 op3 : CmpOp) (δ : Fr) : M D := M.bind (ma δ) fun x => M.bind (mb δ) fun y => M.bind (M.of (cmpD op x y)) fun r =>
  if r then M.bind (mc δ) fun z => M.bind (M.of (cmpD op2 y z)) fun r2 => if r2 then M.bind (md δ) fun u => M.bind (M.of (cmpD op3 z u)) fun r3 => M.pure (.bl r3) else M.pure (.bl false) else M.pure (.bl false)
def tChain3 (r r' r'' : R2) (ta tb tc td : TE) : TE := fun σ H Q => ta σ H fun x H1 => tb σ H1 fun y H2 => r x y H2 fun z H3 => ∃ k, z = .bl k ∧
  (if k = true then tc σ H3 fun w' H4 => r' y w' H4 (fun z' H5 => ∃ k', z' = .bl k' ∧ (if k' = true then td σ H5 fun u H6 => r'' w' u H6 Q else Q (.bl false) H5)) else Q (.bl false) H3)
section
variable {ta tb tc td : TE}
theorem pe_chain3 {op op' op2 : CmpOp} {r r' r2 : R2} (ho : OpR X (compareOp op) r) (ho' : OpR X (compareOp op') r') (ho2 : OpR X (compareOp op2) r2) (ha : PE X a ta) (hb : PE X b tb) (hc : PE X c tc) (hd : PE X d td)
    (hm : lastMarks [op, op', op2] [b, c, d] = false) : PE X (.Compare a [op, op', op2] [b, c, d] pos) (tChain3 r r' r2 ta tb tc td) := by
  refine ⟨fun pins s σ H Q I h => ?_⟩
  refine Compare_chain (thn (ha.run pins s σ H _ I h) fun v s1 ⟨x, H1, I1, r1, q1⟩ => chain_link (thn (hb.run pins s1 σ H1 _ I1 q1) fun u s2 ⟨y, H2, I2, rr2, q2⟩ =>
    thn (ho pins s2 σ H2 x y v u _ I2 r1 rr2 q2) fun d s3 ⟨z, H3, I3, r3, k, e, q3⟩ => ?_)) hm
  subst e
  cases r3
  refine wpAny_truthy_bool ?_
  cases k with
  | false => exact ite_ff ⟨.bl false, H3, I3, rfl, q3⟩
  | true =>
    refine ite_tt (chain_link (thn (hc.run pins s3 σ H3 _ I3 q3) fun w' s4 ⟨z', H4, I4, r4, q4⟩ => thn (ho' pins s4 σ H4 y z' u w' _ I4 rr2 r4 q4) fun d5 s5 ⟨z5, H5, I5, r5, k5, e5, q5⟩ => ?_))
    subst e5
    cases r5
    refine wpAny_truthy_bool ?_
    cases k5 with
    | false => exact ite_ff ⟨.bl false, H5, I5, rfl, q5⟩
    | true => exact ite_tt (chain_last (thn (hd.run pins s5 σ H5 _ I5 q5) fun w6 s6 ⟨z6, H6, I6, r6, q6⟩ => ho2 pins s6 σ H6 z' z6 w' w6 Q I6 r4 r6 q6))
theorem pt_chain3 {op op' op2 : CmpOp} {r r' r2 : R2} (ho : OpR X (compareOp op) r) (ho' : OpR X (compareOp op') r') (ho2 : OpR X (compareOp op2) r2) (ha : PE X a ta) (hb : PE X b tb) (hc : PE X c tc) (hd : PE X d td)
    (hm : lastMarks [op, op', op2] [b, c, d] = false) : PT X (.Compare a [op, op', op2] [b, c, d] pos) (tTest (tChain3 r r' r2 ta tb tc td)) := by
  refine ⟨fun pins s σ H Q I h => ?_⟩
  refine isTrue_chain (thn (ha.run pins s σ H _ I h) fun v s1 ⟨x, H1, I1, r1, q1⟩ => test_link (thn (hb.run pins s1 σ H1 _ I1 q1) fun u s2 ⟨y, H2, I2, rr2, q2⟩ =>
    thn (ho pins s2 σ H2 x y v u _ I2 r1 rr2 q2) fun d s3 ⟨z, H3, I3, r3, k, e, q3⟩ => ?_)) hm
  subst e
  cases r3
  refine wpAny_truthy_bool ?_
  cases k with
  | false =>
    obtain ⟨k', e', q'⟩ := q3
    cases e'
    exact ite_ff ⟨H3, I3, q'⟩
  | true =>
    refine ite_tt (test_link (thn (hc.run pins s3 σ H3 _ I3 q3) fun w' s4 ⟨z', H4, I4, r4, q4⟩ => thn (ho' pins s4 σ H4 y z' u w' _ I4 rr2 r4 q4) fun d5 s5 ⟨z5, H5, I5, r5, k5, e5, q5⟩ => ?_))
    subst e5
    cases r5
    refine wpAny_truthy_bool ?_
    cases k5 with
    | false =>
      obtain ⟨k', e', q'⟩ := q5
      cases e'
      exact ite_ff ⟨H5, I5, q'⟩
    | true =>
      refine ite_tt (test_last (thn (hd.run pins s5 σ H5 _ I5 q5) fun w6 s6 ⟨z6, H6, I6, r6, q6⟩ => thn (ho2 pins s6 σ H6 z' z6 w' w6 _ I6 r4 r6 q6) fun d7 s7 ⟨z7, H7, I7, r7, k7, e7, q7⟩ => ?_))
      subst e7
      cases r7
      exact wpAny_truthy_bool ⟨H7, I7, q7⟩
end
theorem chain3_read {op op2 op3 : CmpOp} {Q' : VK} (R : Rel Y O Z ms δ σ H st) (P : Post Y Wx (VD Y) σ Z ms H st (chain3M ma mb mc md op op2 op3 δ st) Q) (hq : ∀ v H, Q v H → Q' v H) :
    tChain3 (rCmp Y op) (rCmp Y op2) (rCmp Y op3) (REB Y O Wx ma) (REB Y O Wx mb) (REB Y O Wx mc) (REB Y O Wx md) σ H Q' :=
  rg_seq R P fun x st1 v H1 Z1 ms1 s1 R1 vx P1 => rg_seq R1 P1 fun y st2 u H2 Z2 ms2 s2 R2 vy P2 => by
    obtain ⟨r, e, P3⟩ := Post.bindOf P2
    refine ⟨Z2, ms2, st2, x, y, r, R2.ok, s2.denB R1.ok vx, vy, e, r, rfl, ?_⟩
    cases r with
    | false => exact hq _ _ (P3.pure' R2.ok (.bl false))
    | true =>
      exact rg_seq R2 P3 fun z st3 w H3 Z3 ms3 s3 R3 vz P4 => by
        obtain ⟨r2, e2, P5⟩ := Post.bindOf P4
        refine ⟨Z3, ms3, st3, y, z, r2, R3.ok, s3.denB R2.ok vy, vz, e2, r2, rfl, ?_⟩
        cases r2 with
        | false => exact hq _ _ (P5.pure' R3.ok (.bl false))
        | true =>
          exact rg_seq R3 P5 fun g st4 w4 H4 Z4 ms4 s4 R4 vg P6 => by
            obtain ⟨r3, e3, P7⟩ := Post.bindOf P6
            exact ⟨Z4, ms4, st4, z, g, r3, R4.ok, s4.denB R3.ok vz, vg, e3, hq _ _ (P7.pure' R4.ok (.bl r3))⟩
theorem chain3M_bl {op op2 op3 : CmpOp} {d : D} {st st' : Store} (h : chain3M ma mb mc md op op2 op3 δ st = .ok d st') : ∃ b, d = .bl b := by
  obtain ⟨x, s1, _, h⟩ := bind_ok h
  obtain ⟨y, s2, _, h⟩ := bind_ok h
  obtain ⟨r, s3, _, h⟩ := bind_ok h
  cases r with
  | false => cases h; exact ⟨_, rfl⟩
  | true =>
    obtain ⟨z, s4, _, h⟩ := bind_ok h
    obtain ⟨r, s5, _, h⟩ := bind_ok h
    cases r with
    | false => cases h; exact ⟨_, rfl⟩
    | true =>
      obtain ⟨z, s4, _, h⟩ := bind_ok h
      obtain ⟨r, s5, _, h⟩ := bind_ok h
      cases h; exact ⟨_, rfl⟩
theorem se_chain3 {op op2 op3 : CmpOp} (hK : X.K = Y.K) (hu : X.A.units + 65 < cLine) (ha : PE X a (REB Y O Wx ma)) (hb : PE X b (REB Y O Wx mb)) (hc : PE X c (REB Y O Wx mc)) (hd : PE X d (REB Y O Wx md))
    (hm : lastMarks [op, op2, op3] [b, c, d] = false) : PE X (.Compare a [op, op2, op3] [b, c, d] pos) (RE Y O Wx (chain3M ma mb mc md op op2 op3)) :=
  (pe_chain3 (op_cmp hK hu op) (op_cmp hK hu op2) (op_cmp hK hu op3) ha hb hc hd hm).imp fun σ H Q ⟨δ, st, Z, ms, R, P⟩ => chain3_read R P fun _ _ q => q
theorem st_chain3 {op op2 op3 : CmpOp} (hK : X.K = Y.K) (hu : X.A.units + 65 < cLine) (ha : PE X a (REB Y O Wx ma)) (hb : PE X b (REB Y O Wx mb)) (hc : PE X c (REB Y O Wx mc)) (hd : PE X d (REB Y O Wx md))
    (hm : lastMarks [op, op2, op3] [b, c, d] = false) : PT X (.Compare a [op, op2, op3] [b, c, d] pos) (RT Y O Wx fun δ => M.bind (chain3M ma mb mc md op op2 op3 δ) fun d => M.of (truthD d)) :=
  (pt_chain3 (op_cmp hK hu op) (op_cmp hK hu op2) (op_cmp hK hu op3) ha hb hc hd hm).imp fun σ H Q ⟨δ, st, Z, ms, R, P⟩ => chain3_read R (bool_of (fun d st st' => chain3M_bl) P) fun _ _ q => q
/-! ### x += e -/
def tAugIp (op : Operator) : TIp := fun x y H Q => ∃ i j k, x = .int i ∧ y = .int j ∧ augD op (.int i) (.int j) = some (.int k) ∧ Q (.int k) H
theorem ip_aug (op : Operator) : PIp X op (tAugIp op) := by
  rintro pins s σ H x y v u Q I rx ry ⟨i, j, k, rfl, rfl, e, q⟩
  cases op with
  | Add => cases e; exact ip_add pins s σ H _ _ v u Q I rx ry ⟨i, j, rfl, rfl, q⟩
  | Sub => cases e; exact ip_sub pins s σ H _ _ v u Q I rx ry ⟨i, j, rfl, rfl, q⟩
  | _ => cases e
theorem augD_some {op : Operator} {x y z : D} (h : augD op x y = some z) : ∃ i j k, x = .int i ∧ y = .int j ∧ z = .int k := by
  unfold augD at h
  split at h
  · cases h; exact ⟨_, _, _, rfl, rfl, rfl⟩
  · cases h; exact ⟨_, _, _, rfl, rfl, rfl⟩
  · cases h
abbrev augX (i : Nat) (op : Operator) (m : Ev) : Ex := fun δ => M.bind (M.of (lookV δ i)) fun x => M.at (m δ) δ fun y => M.bind (M.of (augD op x y)) fun z => M.pure (.next (δ.set i (some (.sh z))))
theorem ss_aug {i : Nat} {x : Str} {op : Operator} {p : Pos} (hN : X.N.Nodup) (hi : X.N[i]? = some x) (hx : Loc X.env.scope x) (hf : X.fn x = true ∨ X.env.scope.names.lookup x = some .local) (ha : PE X a (RE Y O Wx ma)) :
    PS X (.AugAssign (.Name x p) op a pos) (RS Y O Wx (augX i op ma)) :=
  (ps_aug hN hi hx ha (ip_aug op) hf).imp fun N σ H ⟨δ, st, Z, ms, R, P⟩ => by
    obtain ⟨d, e, P1⟩ := PostS.of P
    have e1 := lookV_some e
    obtain ⟨u, ex, v, e2, hv⟩ := R.slots i _ e1
    subst e2
    refine ⟨v, ex, rs_at R P1 fun y st1 w H1 Z1 ms1 s1 R1 vw P2 => ?_⟩
    obtain ⟨z, e3, P3⟩ := PostS.of P2
    obtain ⟨i1, j1, k1, rfl, rfl, rfl⟩ := augD_some e3
    cases hv
    cases vw
    exact ⟨_, _, _, rfl, rfl, e3, PostS.nx P3 (R1.set (.int k1) (List.getElem?_eq_some_iff.mp e1).1)⟩
/-! ### xs.extend(ys) -/
abbrev extX (i : Nat) (m : Ev) : Ex := fun δ => M.bind (M.of (ownAt δ i)) fun ds => M.at (m δ) δ fun d => M.bind (M.of (lstOf d)) fun es => M.bind (M.guard (decide (ds.length + es.length ≤ sizeLine))) fun _ => M.pure (.next (δ.set i (some (.ow (ds ++ es)))))
theorem ss_ext {i : Nat} {x : Str} {p apos cpos : Pos} (hN : X.N[i]? = some x) (hv : Vis X.env.scope x) (hd : (x == ("__debug__" : Str)) = false) (hcd : (x == ("__classdict__" : Str)) = false) (ha : PE X a (RE Y O Wx ma)) (hs : starEach [a] X.env = (false, eval a X.env) :: starEach [] X.env) (hl : (apos.endLine == cpos.line) = true) :
    PS X (.Expr (.Call (.Attribute (.Name x p) "extend" apos) [a] [] cpos) pos) (RS Y O Wx (extX i ma)) :=
  (ps_expr (pe_bm PySem.F.plainAttrs_list PySem.F.slot_list_extend PySem.F.type_list_extend mt_extend (pe_var hN hv hd hcd) (pa_cons ha pa_nil hs) (by rfl) (by rw [hs]; rfl) hl hs (by rfl)) (by rfl)).imp fun N σ H ⟨δ, st, Z, ms, R, P⟩ => by
    obtain ⟨ds, e, P1⟩ := PostS.of P
    obtain ⟨q, xs, W⟩ := R.own e
    refine ⟨_, W.var, .inl ⟨rfl, _, SqL.of W.at_⟩, rs_at R P1 fun d st1 v H1 Z1 ms1 s1 R1 vd P2 => ?_⟩
    obtain ⟨es, e2, P3⟩ := PostS.of P2
    obtain ⟨hz, P4⟩ := PostS.guard P3
    have W1 := W.step R.ok s1
    obtain ⟨b, zs, rfl, r, hb⟩ := lstOf_some (.inl vd) e2
    have hz := of_decide_eq_true hz
    refine ⟨q, b, xs, zs, rfl, rfl, W1.at_, hb, by rw [W1.den.length, r.length]; exact hz, ?_⟩
    exact PostS.nx (P4.shift (W1.z R1.ok)) (R1.ownSet e W1 (W1.den.append r))
end Sw

set_option Elab.async false
set_option linter.all false
set_option maxRecDepth 100000
/-! Sw, part O: the look at a text: is it the expression that is said. -/
namespace Sw
open PySem PySem.Spec PyProof.Rows L2 LamX
/-- what a look at an expression goes by: the slots' names, the scope, where stores are looked up, an except suite or not, a def's own body or not; the defs by their parameters' number, those called with a lambda, the errors' fields -/
structure Ck where
  N : List Str
  sc : Scope
  st : Scope
  hot : Bool
  full : Bool
  tk : Bool
  par : Str → Option Nat
  lamD : Str → Bool
  flds : List Str
  exs : List Str
  hns : List Str
def visK : Option NameKind → Bool
  | some .local => true
  | some .cell => true
  | some .free => true
  | _ => false
def glK : Option NameKind → Bool
  | some .globalImplicit => true
  | _ => false
def stK : Option NameKind → Bool
  | some .local => true
  | some .cell => true
  | _ => false
def plainN (x : Str) : Bool := !(x == ("__debug__" : Str)) && !(x == ("__classdict__" : Str))
def Ck.vis (k : Ck) (i : Nat) (x : Str) : Bool := decide (k.N[i]? = some x) && visK (k.sc.names.lookup x) && plainN x
def Ck.gl (k : Ck) (x : Str) : Bool := glK (k.sc.names.lookup x) && plainN x
def Ck.stv (k : Ck) (i : Nat) (x : Str) : Bool := decide (k.N[i]? = some x) && stK (k.st.names.lookup x)
def noStar : Expr → Bool
  | .Starred .. => false
  | _ => true
def noSet : Expr → Bool
  | .Set .. => false
  | _ => true
def noIf : Expr → Bool
  | .IfExp .. => false
  | _ => true
def isTup : Expr → Bool
  | .Tuple .. => true
  | _ => false
def noArgs (a : Arguments) : Bool := a.posonlyargs.isEmpty && a.args.isEmpty && a.vararg.isNone && a.kwonlyargs.isEmpty && a.kw_defaults.isEmpty && a.kwarg.isNone && a.defaults.isEmpty
def tyTab : List (String × Str) := [("int", "int"), ("bool", "bool"), ("str", "str"), ("tuple", "tuple"), ("list", "list")]
def chkTyN (k : Ck) : List String → List Expr → Bool
  | [], [] => true
  | U :: us, .Name T _ :: ts => decide ((U, T) ∈ tyTab) && k.gl T && chkTyN k us ts
  | _, _ => false
def chkTy (k : Ck) (us : List String) : Expr → Bool
  | .Name T p => chkTyN k us [.Name T p]
  | .Tuple ts _ _ => chkTyN k us ts && !us.isEmpty && decide (us.length ≤ 9)
  | _ => false
def emptyS (sc : Scope) : Scope := { sc with names := [] }
def Ck.lam (k : Ck) (sc : Scope) : Ck := { k with sc := sc, st := emptyS sc, full := false, tk := false, hot := false }
def Ck.blk (k : Ck) (scope : Scope) : Ck := { k with sc := relS scope k.sc, st := scope, full := false, tk := false, hot := false }
def Ck.own (k : Ck) (vs : List Nat) : List (Str × Nat) := vs.map fun i => (k.N.getD i "", i)
mutual
def chkT (k : Ck) : T → Expr → Bool
  | .nm i, .Name x _ => k.stv i x
  | .tu ts, .Tuple xs _ _ => chkTs k ts xs
  | _, _ => false
def chkTs (k : Ck) : List T → List Expr → Bool
  | [], [] => true
  | t :: ts, x :: xs => chkT k t x && chkTs k ts xs
  | _, _ => false
end
def strKeys : List Str → List (Option Expr) → Bool
  | [], [] => true
  | s :: ks, some (.Constant (.str t) _ _) :: es => decide (s = t) && strKeys ks es
  | _, _ => false
def gOwn : G → List Nat
  | .mk own _ _ _ => own
/-- not super() -/
def plainBase : Expr → Bool
  | .Call (.Name _ _) [] [] _ => false
  | _ => true
def chkCn (k : Ck) : List Str → List Expr → Bool
  | [], [] => true
  | u :: us, .Name y _ :: xs => decide (u = y) && decide (y ∈ k.hns) && k.gl y && chkCn k us xs
  | _, _ => false
def chkCl (k : Ck) (us : List Str) : Expr → Bool
  | .Name y p => chkCn k us [.Name y p]
  | .Tuple xs _ _ => decide (us.length ≤ 100) && chkCn k us xs
  | _ => false
mutual
def chkE (k : Ck) : E → Expr → Bool
  | .var i, .Name x _ => k.vis i x
  | .gl x, .Name y _ => decide (x = y) && k.gl y
  | .int i, .Constant (.int j) _ _ => decide (i = j)
  | .str x, .Constant (.str y) _ _ => decide (x = y)
  | .bl b, .Constant (.bool c) _ _ => decide (b = c)
  | .non, .Constant .none _ _ => true
  | .tup es, .Tuple xs _ _ => chkL k es xs
  | .lst es, .List xs _ => chkL k es xs
  | .bin op a b, .BinOp x o y _ => decide (op = o) && chkE k a x && chkE k b y
  | .neg a, .UnaryOp .USub x _ => chkE k a x
  | .not a, .UnaryOp .Not x _ => chkE k a x && noIf x
  | .bop cj es, .BoolOp o xs _ => decide (o = if cj then .And else .Or) && chkL k es xs && xs.all noIf && !xs.isEmpty
  | .cmp op a b, .Compare x [o] [y] _ => decide (op = o) && chkE k a x && chkE k b y && noSet y
  | .chain op op2 a b c, .Compare x [o, o2] [y, z] _ => decide (op = o) && decide (op2 = o2) && chkE k a x && chkE k b y && chkE k c z && noSet z
  | .ite c a b, .IfExp z x y _ => chkE k c z && noIf z && chkE k a x && chkE k b y
  | .idx a i, .Call (.Attribute x m ap) [y] [] cp => decide (m = "index") && (ap.endLine == cp.line) && plainBase x && chkE k a x && chkE k i y && noStar y
  | .ix a i, .Subscript x y _ => chkE k a x && chkE k i y && notSl y
  | .sl a lo hi, .Subscript x (.Slice l h none _) _ => chkE k a x && chkO k lo l && chkO k hi h
  | .rev a, .Subscript x (.Slice none none (some (.UnaryOp .USub (.Constant (.int j) _ _) _)) _) _ => decide (j = 1) && chkE k a x
  | .call f es, .Call (.Name g _) xs [] _ => decide (f = g) && k.gl g && !k.hot && decide (k.par f = some es.length) && chkL k es xs && !xs.isEmpty
  | .callv i, .Call (.Name x _) [] [] _ => k.tk && decide (i = 0) && k.vis i x
  | .lam f b, .Call (.Name g _) [.Lambda ar y sc _] [] _ => decide (f = g) && k.gl g && !k.hot && k.full && k.lamD f && noArgs ar && lamSB k.sc sc && chkE (k.lam sc) b y
  | .bi b es, .Call (.Name g _) xs [] _ => decide (g = b.nm) && k.gl g && (b.hot || !k.hot) && chkL k es xs && !xs.isEmpty
  | .lrng es, .Call (.Name g _) [.Call (.Name h _) xs [] _] [] _ => decide (g = "list") && k.gl g && decide (h = "range") && k.gl h && !k.hot && chkL k es xs && (decide (xs.length = 1) || decide (xs.length = 2))
  | .trng es, .Call (.Name g _) [.Call (.Name h _) xs [] _] [] _ => decide (g = "tuple") && k.gl g && decide (h = "range") && k.gl h && !k.hot && chkL k es xs && (decide (xs.length = 1) || decide (xs.length = 2))
  | .isi e us, .Call (.Name g _) [x, ty] [] _ => decide (g = "isinstance") && k.gl g && chkE k e x && noStar x && chkTy k us ty
  | .lc elt [g], .ListComp x [c] scope _ => !k.hot && chkG k (k.blk scope) true g c && blkC k.N k.sc scope (k.own (gOwn g)) && chkE (k.blk scope) elt x
  | .lc elt [g, g1], .ListComp x [c, c1] scope _ => !k.hot && chkG k (k.blk scope) true g c && chkG (k.blk scope) (k.blk scope) false g1 c1 && ((gOwn g1).all fun i => decide (i ∈ gOwn g)) && blkC k.N k.sc scope (k.own (gOwn g)) && chkE (k.blk scope) elt x
  | .excf i f, .Attribute (.Name x _) g _ => decide (f = g) && k.hot && k.vis i x && decide (f ∈ k.flds)
  | .exci i us, .Call (.Name g _) [.Name x _, te] [] _ => k.hot && decide (g = "isinstance") && k.gl g && k.vis i x && chkCl k us te
  | .cget c s, .Subscript x (.Constant (.str t) _ _) _ => decide (s = t) && chkE k c x
  | .chain3 op op2 op3 a b c d, .Compare x [o, o2, o3] [y, z, u] _ => decide (op = o) && decide (op2 = o2) && decide (op3 = o3) && chkE k a x && chkE k b y && chkE k c z && chkE k d u && noSet u
  | .get2 a i d, .Call (.Attribute x m ap) [y, z] [] cp => decide (m = "get") && (ap.endLine == cp.line) && plainBase x && chkE k a x && chkE k i y && noStar y && chkE k d z && noStar z
  | .ddsp ks vs, .Dict keys xs _ => chkKs k ks keys && chkL k vs xs && decide (keys.length = xs.length) && decide (ks ≠ []) && decide (ks.length ≤ 15)
  | .dcomp ke ve g, .DictComp kx vx [c] scope _ => !k.hot && chkG k (k.blk scope) true g c && blkC k.N k.sc scope (k.own (gOwn g)) && chkE (k.blk scope) ke kx && chkE (k.blk scope) ve vx
  | .disp ks es, .Dict keys xs _ => strKeys ks keys && chkL k es xs && decide (keys.length = xs.length) && decide (ks ≠ []) && decide (ks.length ≤ 15)
  | _, _ => false
def chkL (k : Ck) : List E → List Expr → Bool
  | [], [] => true
  | e :: es, x :: xs => chkE k e x && noStar x && chkL k es xs
  | _, _ => false
def chkKs (k : Ck) : List E → List (Option Expr) → Bool
  | [], [] => true
  | e :: es, some x :: xs => chkE k e x && chkKs k es xs
  | _, _ => false
def chkO (k : Ck) : Option E → Option Expr → Bool
  | none, none => true
  | some e, some x => chkE k e x
  | _, _ => false
def chkG (k k1 : Ck) (first : Bool) : G → Comprehension → Bool
  | .mk own t it cs, c => decide (c.is_async = 0) && chkT k1 t c.target && (t.slots.all fun i => decide (i ∈ own)) && chkI k (isTup c.target) it c.iter && chkL k1 cs c.ifs && decide (c.ifs.length ≤ 1) && c.ifs.all noIf
def chkI (k : Ck) (tup : Bool) : Wk → Expr → Bool
  | .seq e, x => chkE k e x && noSet x
  | .rng es, .Call (.Name g _) xs [] _ => decide (g = "range") && k.gl g && chkL k es xs && (decide (xs.length = 1) || decide (xs.length = 2) || decide (xs.length = 3))
  | .enum e, .Call (.Name g _) [x] [] _ => tup && decide (g = "enumerate") && k.gl g && chkE k e x && noStar x
  | .zip a b, .Call (.Name g _) [x, y] [] _ => tup && decide (g = "zip") && k.gl g && chkE k a x && noStar x && chkE k b y && noStar y
  | .rev e, .Call (.Name g _) [x] [] _ => decide (g = "reversed") && k.gl g && chkE k e x && noStar x
  | _, _ => false
end
end Sw

set_option Elab.async false
set_option linter.all false
set_option maxRecDepth 100000
/-! Sw, part P: what the interpreter says of an expression holds of its text. -/
namespace Sw
open PySem PySem.Spec PyProof.Rows L2 LamX
/-- the built-in names that the texts use -/
def bnames : List Str := ["range", "list", "tuple", "len", "sorted", "sum", "all", "any", "max", "min", "abs", "int", "str", "repr", "bool", "isinstance", "enumerate", "zip", "reversed"]
def callvM (C : Ctx) (i : Nat) : Ev := fun δ => match δ[i]?, C.thunk with
    | some (some .thk), some t => t
    | _, _ => M.bad
/-- the calls that are handed on to a lambda -/
structure LamIn (Y : Cfg) (C : Ctx) (k : Ck) (X : Cx) : Prop where
  ok : ∃ (j : Nat) (c0 : Calls) (cT : Str → M D → M Slot) (c P : Addr), (∀ f m, C.callT f m = cT f (m c0)) ∧ (∀ f, k.lamD f = true → LamOk X.prog X.w X.K X.mg X.base Y (j + 1) f (cT f)) ∧ Room (j + 2) X.A ∧
    (∀ f n, k.par f = some n → ∃ i, i ≤ j ∧ CallOk X.prog X.w X.K X.mg X.base Y i f n (c0 f)) ∧
    TabB X.base X.mg c P ∧ X.env.code = .ref c ∧ (P, lamQ X) ∈ Y.tabs ∧ ∀ p ∈ Y.tabs, p.1 = P → p.2 = lamQ X
structure XOk (Y : Cfg) (O : Own) (C : Ctx) (Wx : WX) (k : Ck) (X : Cx) : Prop where
  hK : X.K = Y.K
  nn : X.N = k.N
  nd : k.N.Nodup
  sc : X.env.scope = k.sc
  un : X.A.units + 65 < cLine
  gd : X.A.guards = some []
  cal : X.calm = !k.hot
  mg : ∀ x ∈ bnames, X.mg x = none
  glob : ∀ x d, C.glob x = some d → ∃ u v, X.mg x = some u ∧ RelV v u ∧ ∀ Z ms H, Den Y Z ms H v d
  st : ∀ x, stK (k.st.names.lookup x) = true → Loc X.env.scope x ∧ (X.fn x = true ∨ X.env.scope.names.lookup x = some .local)
  tk : Takes X Wx
  call : k.hot = false → ∀ f n, k.par f = some n → ∃ j, CallOk X.prog X.w X.K X.mg X.base Y j f n (C.call f) ∧ Room j X.A
  exf : k.hot = true → ∀ i x f q pos, f ∈ k.flds → X.N[i]? = some x → Vis X.env.scope x → (x == ("__debug__" : Str)) = false → (x == ("__classdict__" : Str)) = false → PE X (.Attribute (.Name x q) f pos) (RE Y O Wx (excM i f))
  exi : k.hot = true → ∀ i x us te p q pos, X.N[i]? = some x → Vis X.env.scope x → (x == ("__debug__" : Str)) = false → (x == ("__classdict__" : Str)) = false → Gl X "isinstance" →
    ((∃ u p1, us = [u] ∧ te = .Name u p1 ∧ u ∈ k.hns ∧ Gl X u ∧ (u == ("__debug__" : Str)) = false) ∨ ∃ xs k' p1, te = .Tuple xs k' p1 ∧ us.length ≤ 100 ∧ ClNs X k.hns us xs) → PE X (.Call (.Name "isinstance" p) [.Name x q, te] [] pos) (RE Y O Wx (exciM C.sub i us))
  thk : k.tk = true → ∀ x p1 p2, X.N[0]? = some x → Vis X.env.scope x → PE X (.Call (.Name x p1) [] [] p2) (RE Y O Wx (callvM C 0))
  lam : k.full = true → k.hot = false → LamIn Y C k X
variable {Y : Cfg} {O : Own} {Wx : WX} {X : Cx} {pos : Pos} {a b c e : Expr} {ma mb mc : Ev} {es xs : List Expr} {ml : Fr → M (List D)} {δ : Fr} {σ : L2.St} {C : Ctx} {k : Ck}
theorem nof {p : Prop} (h : false = true) : p := by cases h
theorem plainN_of {x : Str} (h : plainN x = true) : (x == ("__debug__" : Str)) = false ∧ (x == ("__classdict__" : Str)) = false := by
  unfold plainN at h
  simpa [Bool.and_eq_true, Bool.not_eq_true'] using h
theorem visK_of {o : Option NameKind} (h : visK o = true) : o = some .local ∨ o = some .cell ∨ o = some .free := by
  cases o with
  | none => cases h
  | some q => cases q <;> first | exact .inl rfl | exact .inr (.inl rfl) | exact .inr (.inr rfl) | cases h
theorem glK_of {o : Option NameKind} (h : glK o = true) : o = some .globalImplicit := by
  cases o with
  | none => cases h
  | some q => cases q <;> first | rfl | cases h
theorem stK_of {o : Option NameKind} (h : stK o = true) : o = some .local ∨ o = some .cell := by
  cases o with
  | none => cases h
  | some q => cases q <;> first | exact .inl rfl | exact .inr rfl | cases h
theorem XOk.vis (K : XOk Y O C Wx k X) {i : Nat} {x : Str} (h : k.vis i x = true) : X.N[i]? = some x ∧ Vis X.env.scope x ∧ (x == ("__debug__" : Str)) = false ∧ (x == ("__classdict__" : Str)) = false := by
  unfold Ck.vis at h
  simp only [Bool.and_eq_true, decide_eq_true_eq] at h
  obtain ⟨⟨h1, h2⟩, h3⟩ := h
  obtain ⟨h4, h5⟩ := plainN_of h3
  refine ⟨by rw [K.nn]; exact h1, ?_, h4, h5⟩
  unfold Vis
  rw [K.sc]
  exact visK_of h2
theorem XOk.gl (K : XOk Y O C Wx k X) {x : Str} (h : k.gl x = true) : Gl X x ∧ (x == ("__debug__" : Str)) = false := by
  unfold Ck.gl at h
  simp only [Bool.and_eq_true] at h
  refine ⟨?_, (plainN_of h.2).1⟩
  unfold Gl Env.kindOf
  rw [K.sc]
  exact glK_of h.1
theorem star1 (h : noStar a = true) {env : Env} : starEach (a :: es) env = (false, eval a env) :: starEach es env := by
  cases a with
  | Starred _ _ => cases h
  | _ => rfl
theorem starAll {env : Env} : ∀ {xs : List Expr}, (∀ x ∈ xs, noStar x = true) → (backTo pos (starEach xs env)).any (·.1) = false
  | [], _ => rfl
  | x :: xs, h => by
    rw [star1 (h x List.mem_cons_self)]
    exact starAll (xs := xs) fun y hy => h y (List.mem_cons_of_mem _ hy)
theorem noSet_marks {op : CmpOp} (h : noSet a = true) : behindInMarks op a = false := by
  cases a with
  | Set _ _ _ => cases h
  | _ => rfl
theorem noSet_fold (h : noSet a = true) {env : Env} : ∀ x, foldedSetIterable a env x = pure x := by
  cases a with
  | Set _ _ _ => cases h
  | _ => intro _; rfl
theorem chkL_star : ∀ {gs : List E} {xs : List Expr}, chkL k gs xs = true → ∀ x ∈ xs, noStar x = true
  | [], [], _, x, hx => nomatch hx
  | [], _ :: _, h, _, _ => nof h
  | _ :: _, [], h, _, _ => nof h
  | g :: gs, y :: ys, h, x, hx => by
    have h' : (chkE k g y && noStar y && chkL k gs ys) = true := h
    simp only [Bool.and_eq_true] at h'
    rcases List.mem_cons.mp hx with rfl | hx
    · exact h'.1.2
    · exact chkL_star h'.2 x hx
theorem chkL_len : ∀ {gs : List E} {xs : List Expr}, chkL k gs xs = true → gs.length = xs.length
  | [], [], _ => rfl
  | [], _ :: _, h => nof h
  | _ :: _, [], h => nof h
  | g :: gs, y :: ys, h => by
    have h' : (chkE k g y && noStar y && chkL k gs ys) = true := h
    simp only [Bool.and_eq_true] at h'
    rw [List.length_cons, List.length_cons, chkL_len h'.2]
theorem evl_len : ∀ es : List E, (evl C es).length = es.length
  | [] => rfl
  | e :: es => by
    show ((e, ev C e) :: evl C es).length = _
    rw [List.length_cons, List.length_cons, evl_len es]
theorem seqM_len : ∀ {l : List (E × Ev)} {δ : Fr} {st st' : Store} {ds : List D}, seqM l δ st = .ok ds st' → ds.length = l.length
  | [], _, _, _, _, h => by cases h; rfl
  | (e, m) :: l, δ, st, st', ds, h => by
    obtain ⟨d, s1, h1, h2⟩ := bind_ok h
    obtain ⟨r, s2, h3, h4⟩ := bind_ok h2
    cases h4
    rw [List.length_cons, List.length_cons, seqM_len h3]
/-- a value that is only looked at -/
theorem bor_of {g : E} (K : XOk Y O C Wx k X) (h : chkE k g e = true) (hE : PE X e (RE Y O Wx (ev C g))) : PE X e (REB Y O Wx (borM g (ev C g))) := by
  cases g with
  | var i =>
    cases e with
    | Name x p =>
      obtain ⟨h1, h2, h3, h4⟩ := K.vis (show k.vis i x = true from h)
      exact se_bor h1 h2 h3 h4
    | _ => exact nof h
  | _ => exact reb_of hE
theorem tb_of {g : E} (K : XOk Y O C Wx k X) (h : chkE k g e = true) (hT : PT X e (RT Y O Wx fun δ => M.bind (ev C g δ) fun d => M.of (truthD d))) : PT X e (RT Y O Wx (testM g (ev C g))) := by
  cases g with
  | var i =>
    cases e with
    | Name x p =>
      obtain ⟨h1, h2, h3, h4⟩ := K.vis (show k.vis i x = true from h)
      exact st_truth K.hK (se_bor h1 h2 h3 h4) (fun _ => rfl)
    | _ => exact nof h
  | _ => exact hT
theorem own_map (vs : List Nat) : (k.own vs).map (·.2) = vs := by
  unfold Ck.own
  rw [List.map_map]
  exact List.map_id _
theorem XOk.blk (K : XOk Y O C Wx k X) (hh : k.hot = false) (scope : Scope) (s : Shared) (H : Hp) (A : Addr) (cl : List (Str × Addr)) (fp : List Addr) : XOk Y O C W0 (k.blk scope) (X.blk s H scope (compEnvC scope cl A X.env) fp) where
  hK := K.hK
  nn := K.nn
  nd := K.nd
  sc := by show relS scope X.env.scope = relS scope k.sc; rw [K.sc]
  un := K.un
  gd := K.gd
  cal := by show X.calm = true; rw [K.cal, hh]; rfl
  mg := K.mg
  glob := K.glob
  st := fun x h => by
    have keep := fun {kd : NameKind} (n : kd ≠ .free) (e : scope.names.lookup x = some kd) => lookup_relS_keep (sc := X.env.scope) n e
    rcases stK_of h with h | h
    · have e := keep (by decide) h
      exact ⟨.inl e, .inr e⟩
    · exact ⟨.inr (keep (by decide) h), .inl (by show (scope.names.lookup x == some .cell) = true; rw [show scope.names.lookup x = some .cell from h]; rfl)⟩
  tk := takes0
  call := fun _ => K.call hh
  exf := fun h => by cases h
  exi := fun h => by cases h
  thk := fun h => by cases h
  lam := fun h => by cases h
theorem XOk.lamb {j : Nat} {c0 : Calls} {A : Around} {outer : List Env} {s : Shared} {H : Hp} {E : XK} {sc : Scope} {f cc : Addr} (K : XOk Y O C Wx k X) (hr : Room j (A.deeper (lamEnv X sc s.heap.objs.size f cc))) (hg : A.guards = some [])
    (hc : ∀ f n, k.par f = some n → ∃ i, i ≤ j ∧ CallOk X.prog X.w X.K X.mg X.base Y i f n (c0 f)) : XOk Y O (C.low c0) (fun cls d _ H' => E cls d H') (k.lam sc) (lamCx X A outer s H E sc f cc) where
  hK := K.hK
  nn := K.nn
  nd := K.nd
  sc := rfl
  un := by have := hr.un; show (A.deeper (lamEnv X sc s.heap.objs.size f cc)).units + 65 < cLine; omega
  gd := hg
  cal := rfl
  mg := K.mg
  glob := K.glob
  st := fun x h => by cases h
  tk := takes_of rfl rfl rfl rfl
  call := fun _ f n h => let ⟨i, hi, q⟩ := hc f n h; ⟨i, q, hr.mono hi⟩
  exf := fun h => by cases h
  exi := fun h => by cases h
  thk := fun h => by cases h
  lam := fun h => by cases h
theorem noArgs_of {ar : Arguments} (h : noArgs ar = true) : ar = ⟨[], [], none, [], [], none, []⟩ := by
  unfold noArgs at h
  simp only [Bool.and_eq_true, List.isEmpty_iff, Option.isNone_iff_eq_none] at h
  obtain ⟨⟨⟨⟨⟨⟨h1, h2⟩, h3⟩, h4⟩, h5⟩, h6⟩, h7⟩ := h
  obtain ⟨a, b, c, d, e, f, g⟩ := ar
  simp only at h1 h2 h3 h4 h5 h6 h7
  subst h1 h2 h3 h4 h5 h6 h7
  rfl
mutual
theorem soundT_ (K : XOk Y O C Wx k X) : ∀ {t : T} {e : Expr}, X.calm = true → chkT k t e = true → PG X e (GT Y O t)
  | .nm i, .Name x p, _, h => by
    have h' : k.stv i x = true := h
    unfold Ck.stv at h'
    simp only [Bool.and_eq_true, decide_eq_true_eq] at h'
    obtain ⟨h1, h2⟩ := K.st x h'.2
    exact sg_name (by rw [K.nn]; exact K.nd) (by rw [K.nn]; exact h'.1) h1 h2
  | .tu ts, .Tuple xs _ _, hc, h => by
    obtain ⟨h1, h2, h3⟩ := soundTs_ K hc (show chkTs k ts xs = true from h)
    exact sg_tup K.hK hc h1 h2 h3
  | .nm _, .BoolOp .., _, h | .nm _, .NamedExpr .., _, h | .nm _, .BinOp .., _, h | .nm _, .UnaryOp .., _, h | .nm _, .Lambda .., _, h | .nm _, .IfExp .., _, h | .nm _, .Dict .., _, h | .nm _, .Set .., _, h | .nm _, .ListComp .., _, h | .nm _, .SetComp .., _, h
  | .nm _, .DictComp .., _, h | .nm _, .GeneratorExp .., _, h | .nm _, .Await .., _, h | .nm _, .Yield .., _, h | .nm _, .YieldFrom .., _, h | .nm _, .Compare .., _, h | .nm _, .Call .., _, h | .nm _, .FormattedValue .., _, h | .nm _, .JoinedStr .., _, h
  | .nm _, .Constant .., _, h | .nm _, .Attribute .., _, h | .nm _, .Subscript .., _, h | .nm _, .Starred .., _, h | .nm _, .List .., _, h | .nm _, .Tuple .., _, h | .nm _, .Slice .., _, h => nof h
  | .tu _, .BoolOp .., _, h | .tu _, .NamedExpr .., _, h | .tu _, .BinOp .., _, h | .tu _, .UnaryOp .., _, h | .tu _, .Lambda .., _, h | .tu _, .IfExp .., _, h | .tu _, .Dict .., _, h | .tu _, .Set .., _, h | .tu _, .ListComp .., _, h | .tu _, .SetComp .., _, h
  | .tu _, .DictComp .., _, h | .tu _, .GeneratorExp .., _, h | .tu _, .Await .., _, h | .tu _, .Yield .., _, h | .tu _, .YieldFrom .., _, h | .tu _, .Compare .., _, h | .tu _, .Call .., _, h | .tu _, .FormattedValue .., _, h | .tu _, .JoinedStr .., _, h
  | .tu _, .Constant .., _, h | .tu _, .Attribute .., _, h | .tu _, .Subscript .., _, h | .tu _, .Starred .., _, h | .tu _, .List .., _, h | .tu _, .Name .., _, h | .tu _, .Slice .., _, h => nof h
theorem soundTs_ (K : XOk Y O C Wx k X) : ∀ {ts : List T} {xs : List Expr}, X.calm = true → chkTs k ts xs = true → PGs X xs (GTs Y O ts) ∧ NoStar xs ∧ ts.length = xs.length
  | [], [], _, _ => ⟨sgs_nil, (fun e he => absurd he (by simp)), rfl⟩
  | [], _ :: _, _, h => nof h
  | _ :: _, [], _, h => nof h
  | t :: ts, x :: xs, hc, h => by
    have h' : (chkT k t x && chkTs k ts xs) = true := h
    obtain ⟨g1, g2⟩ := Bool.and_eq_true_iff.mp h'
    obtain ⟨q1, q2, q3⟩ := soundTs_ K hc g2
    have ns : ∀ v p, x ≠ Expr.Starred v p := fun v p e => by
      subst e
      cases t <;> exact nof g1
    exact ⟨sgs_cons (soundT_ K hc g1) q1 ns, fun e he v p => (List.mem_cons.mp he).elim (fun q => q ▸ ns v p) fun q => q2 e q v p, by rw [List.length_cons, List.length_cons, q3]⟩
end
end Sw

set_option Elab.async false
set_option linter.all false
set_option maxRecDepth 100000
/-! Sw: a dict display with written text keys. -/
namespace Sw
open PySem PySem.Spec PyProof.Rows L2 LamX
variable {Y : Cfg} {O : Own} {Wx : WX} {X : Cx} {pos : Pos}
/-- the pairs of a display, the keys ks; m reckons the values -/
def PairsOk (Y : Cfg) (O : Own) (Wx : WX) (X : Cx) (pos : Pos) (ks : List Str) (keys : List (Option Expr)) (xs : List Expr) (m : Fr → M (List D)) : Prop :=
  keys.length = xs.length → ∃ trs, PPs X pos keys xs trs ∧
    ∀ {Zb : Zs} {msb : List Addr} {Hb : Hp} {stb : Store} {Z : Zs} {ms : List Addr} {H : Hp} {st : Store} {δ : Fr} {σ : L2.St} (f : List D → M D) (Q : VK) (T : List (V × V) → Hp → Prop),
      StOk Y Zb msb Hb stb → Step Y Zb msb Hb Z ms H st → Rel Y O Z ms δ σ H st → Post Y Wx (VD Y) σ Zb msb Hb stb (M.bind (m δ) f st) Q →
      (∀ ds vs Z1 ms1 H1 st1, Step Y Zb msb Hb Z1 ms1 H1 st1 → Step Y Z ms H Z1 ms1 H1 st1 → DenL Y Z1 ms1 H1 vs ds → Post Y Wx (VD Y) σ Zb msb Hb stb (f ds st1) Q → T ((ks.map V.str).zip vs) H1) → tPairs trs σ H T
theorem strKeys_cons {ks : List Str} {q : Option Expr} {keys : List (Option Expr)} (h : strKeys ks (q :: keys) = true) : ∃ s kr j pp, ks = s :: kr ∧ q = some (.Constant (.str s) j pp) ∧ strKeys kr keys = true := by
  cases ks with
  | nil => cases h
  | cons s kr =>
    cases q with
    | none => cases h
    | some e =>
      cases e with
      | Constant c j pp =>
        cases c with
        | str t =>
          have h' : (decide (s = t) && strKeys kr keys) = true := h
          simp only [Bool.and_eq_true, decide_eq_true_eq] at h'
          obtain ⟨rfl, h2⟩ := h'
          exact ⟨s, kr, j, pp, rfl, rfl, h2⟩
        | _ => cases h
      | _ => cases h
theorem strKeys_all : ∀ {ks : List Str} {keys : List (Option Expr)}, strKeys ks keys = true → keys.all (·.isSome) = true ∧ keys.length = ks.length
  | ks, [], h => by
    cases ks with
    | nil => exact ⟨rfl, rfl⟩
    | cons _ _ => cases h
  | ks, q :: keys, h => by
    obtain ⟨s, kr, j, pp, rfl, rfl, h2⟩ := strKeys_cons h
    obtain ⟨a, b⟩ := strKeys_all h2
    exact ⟨by rw [List.all_cons, a]; rfl, by rw [List.length_cons, List.length_cons, b]⟩
theorem pairs_nil {ks : List Str} {keys : List (Option Expr)} {C : Ctx} (h : strKeys ks keys = true) : PairsOk Y O Wx X pos ks keys [] (seqM (evl C [])) := by
  intro hl
  cases keys with
  | cons _ _ => cases hl
  | nil =>
    refine ⟨[], pps_nil, fun f Q T k s R P t => ?_⟩
    have z := t [] [] _ _ _ _ s (Step.refl s.ok) .nil P
    rw [List.zip_nil_right] at z
    exact z
theorem pairs_none {ks : List Str} {x : Expr} {xs : List Expr} {m : Fr → M (List D)} (h : strKeys ks [] = true) : PairsOk Y O Wx X pos ks [] (x :: xs) m := fun hl => by cases hl
theorem pairs_cons {s0 : Str} {ks : List Str} {j : Nat} {pp : Pos} {keys : List (Option Expr)} {x : Expr} {xs : List Expr} {C : Ctx} {g : E} {gs : List E} (h : PE X x (RE Y O Wx (ev C g))) (ih : PairsOk Y O Wx X pos ks keys xs (seqM (evl C gs))) :
    PairsOk Y O Wx X pos (s0 :: ks) (some (.Constant (.str s0) j pp) :: keys) (x :: xs) (seqM (evl C (g :: gs))) := by
  intro hl
  obtain ⟨trs, p, r⟩ := ih (by simpa using hl)
  refine ⟨_, pps_cons pe_str h p, fun {Zb msb Hb stb Z ms H st δ σ} f Q T k s R P t => ?_⟩
  show RE Y O Wx (ev C g) σ H _
  refine ⟨δ, st, Z, ms, R, ?_⟩
  have P' : Post Y Wx (VD Y) σ Zb msb Hb stb (M.bind (M.bind (ev C g δ) fun d => M.bind (seqM (evl C gs) δ) fun ds => M.pure (d :: ds)) f st) Q := P
  unfold M.bind at P'
  cases e : ev C g δ st with
  | bad => rw [e] at P'; exact (show False from P').elim
  | exn c fs st' =>
    rw [e] at P'
    exact fun d H' Z' ms' s' q => (show Post Y Wx (VD Y) σ Zb msb Hb stb (.exn c fs st') Q from P') d H' Z' ms' (s.trans s' k) q
  | ok d st' =>
    rw [e] at P'
    intro v H1 Z1 ms1 s1 vd
    refine r (fun ds => f (d :: ds)) Q _ k (s.trans s1 k) (R.step s1) ?_ fun ds vs Z2 ms2 H2 st2 s2 s3 vds P2 => ?_
    · show Post Y Wx (VD Y) σ Zb msb Hb stb (M.bind (seqM (evl C gs) δ) (fun ds => f (d :: ds)) st') Q
      unfold M.bind
      dsimp only at P'
      cases e2 : seqM (evl C gs) δ st' with
      | bad => rw [e2] at P'; exact P'
      | exn c fs st2 => rw [e2] at P'; exact P'
      | ok ds st2 => rw [e2] at P'; exact P'
    · exact t (d :: ds) (v :: vs) Z2 ms2 H2 st2 s2 (s1.trans s3 R.ok) (.cons (s3.den s1.ok vd) vds) P2
theorem putK_fresh {vs : List (Key × V)} {q : Key} {v : V} (h : q ∉ vs.map (·.1)) : putK vs q v = vs ++ [(q, v)] := by
  unfold putK
  rw [if_neg]
  intro z
  obtain ⟨p, hp, e⟩ := List.any_eq_true.mp z
  exact h (by rw [← of_decide_eq_true e]; exact List.mem_map_of_mem hp)
theorem merge_fresh : ∀ (more vs : List (Key × V)), ((vs ++ more).map (·.1)).Nodup → mergeK vs more = vs ++ more
  | [], vs, _ => by simp [mergeK]
  | p :: r, vs, h => by
    show mergeK (putK vs p.1 p.2) r = _
    have hf : p.1 ∉ vs.map (·.1) := by
      rw [List.map_append, List.map_cons, List.nodup_append] at h
      exact fun z => h.2.2 _ z _ List.mem_cons_self rfl
    rw [putK_fresh hf, merge_fresh r (vs ++ [p]) (by simpa using h)]
    simp
theorem step_dic {Z Z1 : Zs} {ms ms1 : List Addr} {H H1 : Hp} {st st1 : Store} {p : Addr} {kvs : List (Str × D)} {vs : List (Key × V)} (k : StOk Y Z ms H st) (hp : H p = none) (s : Step Y Z ms (upd H p (.dK [])) Z1 ms1 H1 st1)
    (hk : vs.map (·.1) = kvs.map (fun p => (Sum.inr p.1 : Key))) (r : DenL Y Z1 ms1 H1 (vs.map (·.2)) (kvs.map (·.2))) :
    Step Y Z ms H Z1 (ms1 ++ [p]) (upd H1 p (.dK vs)) (st1 ++ [.dic kvs]) := by
  obtain ⟨f1, f2⟩ := k.free hp
  have hpn : upd H p (.dK []) p ≠ none := by rw [upd_same]; simp
  have nz : ¬ Z1 p := fun z => (s.zn p z).elim f2 fun q => hpn q
  have nm : p ∉ ms1 := fun z => (s.mn p z).elim (fun q => f1 (.inl q)) fun q => hpn q
  have keep : ∀ b u, b ≠ p → H1 b = some u → upd H1 p (.dK vs) b = some u := fun b u hb e => by rw [upd_ne hb]; exact e
  have den : ∀ {xs : List V} {ds : List D}, DenL Y Z1 ms1 H1 xs ds → DenL Y Z1 (ms1 ++ [p]) (upd H1 p (.dK vs)) xs ds := fun h => h.mono (fun _ z => z) (List.prefix_append _ _) fun a u z e => keep a u (fun q => nz (q ▸ z)) e
  have tne : ∀ q ∈ Y.tabs, q.1 ≠ p := fun q hq e => f1 (.inr (e ▸ List.mem_map_of_mem hq))
  refine ⟨⟨fun a z q => ?_, by rw [List.length_append, List.length_append, s.ok.len]; rfl, fun n c a e1 e2 => ?_, ?_, fun a q z => ?_, fun a q => ?_, fun q hq => ?_⟩, s.zz, fun a z => ?_, s.mm.trans (List.prefix_append _ _), fun a q => ?_, fun a u e hs => ?_⟩
  · have ha : a ≠ p := fun e => nz (e ▸ z)
    rw [upd_ne ha] at q
    exact s.ok.zdom a z q
  · rcases Nat.lt_or_ge n st1.length with hn | hn
    · rw [List.getElem?_append_left hn] at e1
      rw [List.getElem?_append_left (by have := s.ok.len; omega)] at e2
      have ha : a ≠ p := fun e => nm (e ▸ List.mem_of_getElem? e2)
      exact (s.ok.cells n c a e1 e2).imp (upd_ne ha) fun xs ds h => den h
    · rw [List.getElem?_append_right hn] at e1
      rw [List.getElem?_append_right (by have := s.ok.len; omega)] at e2
      have : ms1.length = st1.length := s.ok.len.symm
      rw [this] at e2
      cases e0 : n - st1.length with
      | zero =>
        rw [e0] at e1 e2
        cases e1
        cases e2
        exact ⟨vs, upd_same, hk, den r⟩
      | succ j =>
        rw [e0] at e1
        cases e1
  · rw [List.nodup_append]
    refine ⟨s.ok.nd, by simp, fun a ha b hb => ?_⟩
    rw [List.mem_singleton] at hb
    intro e
    exact nm (hb ▸ e ▸ ha)
  · rcases q with q | q
    · rcases List.mem_append.mp q with q | q
      · exact s.ok.zs a (.inl q) z
      · rw [List.mem_singleton] at q
        exact nz (q ▸ z)
    · exact s.ok.zs a (.inr q) z
  · rcases List.mem_append.mp q with q | q
    · exact s.ok.mt a q
    · rw [List.mem_singleton] at q
      rw [q]
      exact fun z => f1 (.inr z)
  · obtain ⟨ps, e, t1, t2⟩ := s.ok.tabs q hq
    refine ⟨ps, keep _ _ (tne q hq) e, t1, fun pos cv hc => ?_⟩
    obtain ⟨c, e1, e2⟩ := t2 pos cv hc
    refine ⟨c, e1, keep _ _ (fun z => ?_) e2⟩
    have e3 := s.kp p _ upd_same f1
    rw [← z, e2] at e3
    cases e3
  · rcases s.zn a z with z | z
    · exact .inl z
    · by_cases ha : a = p
      · rw [ha]; exact .inr hp
      · rw [upd_ne ha] at z; exact .inr z
  · rcases List.mem_append.mp q with q | q
    · rcases s.mn a q with z | z
      · exact .inl z
      · by_cases ha : a = p
        · rw [ha]; exact .inr hp
        · rw [upd_ne ha] at z; exact .inr z
    · rw [List.mem_singleton] at q
      rw [q]
      exact .inr hp
  · have ha : a ≠ p := fun z => by rw [z, hp] at e; cases e
    exact keep a u ha (s.kp a u (by rw [upd_ne ha]; exact e) hs)
theorem zip_kv : ∀ (ks : List Str) (vs : List V), vs.length = ks.length → ((ks.map V.str).zip vs) = ((ks.map (Sum.inr : Str → Key)).zip vs).map (fun kv => (kV kv.1, kv.2))
  | [], [], _ => rfl
  | [], _ :: _, h => by cases h
  | _ :: _, [], h => by cases h
  | k :: ks, v :: vs, h => by
    rw [List.map_cons, List.map_cons, List.zip_cons_cons, List.zip_cons_cons, List.map_cons, zip_kv ks vs (by simpa using h)]
    rfl
theorem se_disp {ks : List Str} {keys : List (Option Expr)} {xs : List Expr} {C : Ctx} {es : List E} (h1 : strKeys ks keys = true) (h3 : keys.length = xs.length) (h4 : ks ≠ []) (h5 : ks.length ≤ 15) (hp : PairsOk Y O Wx X pos ks keys xs (seqM (evl C es))) :
    PE X (.Dict keys xs pos) (RE Y O Wx (ev C (.disp ks es))) := by
  obtain ⟨trs, p, r⟩ := hp h3
  obtain ⟨a1, a2⟩ := strKeys_all h1
  refine (pe_disp p a1 h3 (fun z => h4 (by rw [z] at a2; exact List.length_eq_zero_iff.mp a2.symm)) (by omega)).imp fun σ H Q ⟨δ, st, Z, ms, R, P⟩ => ?_
  intro q hq
  have sl := Step.laid (o := .dK []) R.ok hq
  refine r (dispM ks) Q _ R.ok sl (R.step sl) P fun ds vs Z1 ms1 H1 st1 s1 s2 vds P1 => ?_
  have hnS : ¬ Spc Y ms q := (R.ok.free hq).1
  have e1 : H1 q = some (.dK []) := s2.kp q _ upd_same hnS
  unfold dispM at P1
  split at P1
  · rename_i hc
    obtain ⟨nd, hl⟩ := of_decide_eq_true hc
    have hlv : vs.length = ks.length := vds.length.trans hl
    have hf : ((ks.map (Sum.inr : Str → Key)).zip vs).map (·.1) = ks.map Sum.inr := by rw [List.map_fst_zip]; simp [hlv]
    have hs : ((ks.map (Sum.inr : Str → Key)).zip vs).map (·.2) = vs := by rw [List.map_snd_zip]; simp [hlv]
    have hm : mergeK [] ((ks.map (Sum.inr : Str → Key)).zip vs) = (ks.map (Sum.inr : Str → Key)).zip vs := by
      rw [merge_fresh]
      · rfl
      · rw [List.nil_append, hf]
        exact List.pairwise_map.mpr (List.Pairwise.imp (fun h e => h (Sum.inr.inj e)) nd)
    refine ⟨e1, (ks.map Sum.inr).zip vs, zip_kv ks vs hlv, by rw [List.length_zip, List.length_map, hlv]; omega, ?_⟩
    rw [hm]
    refine P1 _ _ _ _ (step_dic (kvs := ks.zip ds) R.ok hq s2 ?_ ?_) (.cell ?_)
    · have z : (ks.zip ds).map (fun p => (Sum.inr p.1 : Key)) = ((ks.zip ds).map (·.1)).map Sum.inr := by rw [List.map_map]; rfl
      rw [hf, z, List.map_fst_zip (by omega)]
    · rw [hs, List.map_snd_zip (by omega)]
      exact vds
    · rw [List.getElem?_append_right (by have := s1.ok.len; omega)]
      have : st1.length - ms1.length = 0 := by have := s1.ok.len; omega
      rw [this]
      rfl
  · exact (show False from P1).elim
end Sw

set_option Elab.async false
set_option linter.all false
set_option maxRecDepth 100000
set_option maxHeartbeats 4000000
/-! Sw, part Q: every expression. -/
namespace Sw
open PySem PySem.Spec PyProof.Rows L2 LamX RT RZ
variable {Y : Cfg} {Wx : WX} {pos : Pos}
theorem truth_bind {m : M D} {f : D → M D} (g : D → Bool) (hf : ∀ d, f d = M.pure (.bl (g d))) : M.bind (M.bind m f) (fun d => M.of (truthD d)) = M.bind m fun d => M.pure (g d) := by
  rw [bind_assoc']
  congr 1
  funext d
  rw [hf]
  rfl
theorem tyTab_ok : ∀ p ∈ tyTab, bootBuiltins p.2 = some (.type p.1) ∧ p.2 ∈ bnames ∧ (p.2 == ("__name__" : Str)) = false ∧ (p.2 == ("__debug__" : Str)) = false := by decide +kernel
theorem bi_name (b : BI) : b.nm ∈ bnames := by cases b <;> decide
section
variable {O : Own} {X : Cx} {C : Ctx} {k : Ck}
theorem cls_n (K : XOk Y O C Wx k X) : ∀ {us : List Str} {xs : List Expr}, chkCn k us xs = true → ClNs X k.hns us xs
  | [], [], _ => .nil
  | u :: us, x :: xs, h => by
    cases x with
    | Name y p =>
      have h' : (decide (u = y) && decide (y ∈ k.hns) && k.gl y && chkCn k us xs) = true := h
      simp only [Bool.and_eq_true, decide_eq_true_eq] at h'
      obtain ⟨⟨⟨rfl, h1⟩, h2⟩, h3⟩ := h'
      exact .cons h1 (K.gl h2).1 (K.gl h2).2 (cls_n K h3)
    | _ => exact nof h
  | [], _ :: _, h => nof h
  | _ :: _, [], h => nof h
theorem cls_of (K : XOk Y O C Wx k X) {us : List Str} {te : Expr} (h : chkCl k us te = true) : (∃ u p1, us = [u] ∧ te = .Name u p1 ∧ u ∈ k.hns ∧ Gl X u ∧ (u == ("__debug__" : Str)) = false) ∨ ∃ xs k' p1, te = .Tuple xs k' p1 ∧ us.length ≤ 100 ∧ ClNs X k.hns us xs := by
  cases te with
  | Name y p =>
    have r := cls_n K (us := us) (xs := [.Name y p]) h
    generalize e : [Expr.Name y p] = xs at r
    cases r with
    | nil => cases e
    | cons h1 h2 h3 r =>
      injection e with e1 e2
      injection e1 with e1 e3
      subst e1 e2
      cases r
      exact .inl ⟨_, _, rfl, rfl, h1, h2, h3⟩
  | Tuple xs k' p1 =>
    have h' : (decide (us.length ≤ 100) && chkCn k us xs) = true := h
    simp only [Bool.and_eq_true, decide_eq_true_eq] at h'
    exact .inr ⟨_, _, _, rfl, h'.1, cls_n K h'.2⟩
  | _ => exact nof h
theorem sound_ty (K : XOk Y O C Wx k X) : ∀ {us : List String} {ts : List Expr}, chkTyN k us ts = true → PA X ts (tyCs us) ∧ (∀ x ∈ ts, noStar x = true)
  | [], [], _ => ⟨pa_nil, fun x hx => absurd hx (by simp)⟩
  | [], _ :: _, h => nof h
  | _ :: _, [], h => nof h
  | U :: us, e :: ts, h => by
    cases e with
    | Name T p =>
      have h' : (decide ((U, T) ∈ tyTab) && k.gl T && chkTyN k us ts) = true := h
      simp only [Bool.and_eq_true, decide_eq_true_eq] at h'
      obtain ⟨⟨h1, h2⟩, h3⟩ := h'
      obtain ⟨q1, q2, q3, q4⟩ := tyTab_ok _ h1
      obtain ⟨r1, r2⟩ := sound_ty K h3
      have hn : T ≠ "__name__" := fun z => by rw [z] at q3; simp at q3
      exact ⟨pa_cons (se_tyn (K.gl h2).1 (K.mg _ q2) q1 hn q4) r1 (by rfl), fun x hx => (List.mem_cons.mp hx).elim (fun z => by rw [z]; rfl) (r2 x)⟩
    | _ => exact nof h
theorem vdx_true : VDX true Y = VDB Y := by
  funext Z ms H v d
  exact if_pos rfl
theorem vdx_false : VDX false Y = VD Y := by
  funext Z ms H v d
  exact if_neg (by simp)
/-- what is walked may be looked at, or must be a value -/
theorem bor_at {g : E} {e : Expr} (bor : Bool) (K : XOk Y O C Wx k X) (h : chkE k g e = true) (hE : PE X e (RE Y O Wx (ev C g))) : PE X e (RG Y O Wx (VDX bor Y) (borI bor g (ev C g))) := by
  cases bor with
  | true => rw [vdx_true]; exact bor_of K h hE
  | false => rw [vdx_false]; exact hE
end
/-- the truth of and, or -/
theorem bop_truth (cj : Bool) (e : E) (m : Ev) (q : E × Ev) (r : List (E × Ev)) (δ : Fr) : (M.bind (seqW cj ((e, m) :: q :: r) δ) fun d => M.of (truthD d)) =
    M.bind (M.bind (m δ) fun d => M.of (truthD d)) fun b => if b = cj then M.bind (seqW cj (q :: r) δ) (fun d => M.of (truthD d)) else M.pure (!cj) := by
  show M.bind (M.bind (m δ) fun d => M.bind (M.of (truthD d)) fun b => if b = cj then seqW cj (q :: r) δ else M.pure d) _ = _
  rw [bind_assoc', bind_assoc']
  congr 1
  funext d
  cases e : truthD d with
  | none => rfl
  | some b =>
    show M.bind (if b = cj then seqW cj (q :: r) δ else M.pure d) _ = (if b = cj then _ else _)
    by_cases hb : b = cj
    · rw [if_pos hb, if_pos hb]
    · rw [if_neg hb, if_neg hb]
      show M.of (truthD d) = _
      rw [e]
      cases b <;> cases cj <;> first | rfl | exact absurd rfl hb
abbrev SndE (Y : Cfg) (g : E) : Prop := ∀ {O : Own} {X : Cx} {C : Ctx} {k : Ck} {Wx : WX} {e : Expr}, XOk Y O C Wx k X → chkE k g e = true → PE X e (RE Y O Wx (ev C g))
abbrev SndL (Y : Cfg) (gs : List E) : Prop := ∀ {O : Own} {X : Cx} {C : Ctx} {k : Ck} {Wx : WX} {xs : List Expr}, XOk Y O C Wx k X → chkL k gs xs = true → PA X xs (RL Y O Wx (seqM (evl C gs)))
abbrev SndLB (Y : Cfg) (gs : List E) : Prop := ∀ {O : Own} {X : Cx} {C : Ctx} {k : Ck} {Wx : WX} {xs : List Expr}, XOk Y O C Wx k X → chkL k gs xs = true → PA X xs (RLB Y O Wx (seqB (evl C gs)))
abbrev SndB (Y : Cfg) (g : E) : Prop := ∀ {O : Own} {X : Cx} {C : Ctx} {k : Ck} {Wx : WX} {e : Expr}, XOk Y O C Wx k X → chkE k g e = true → noIf e = true → PT X e (RT Y O Wx fun δ => M.bind (ev C g δ) fun d => M.of (truthD d))
abbrev SndI (Y : Cfg) (g : Wk) : Prop := ∀ (bor : Bool) {O : Own} {X : Cx} {C : Ctx} {k : Ck} {Wx : WX} {tg e : Expr}, XOk Y O C Wx k X → chkI k (isTup tg) g e = true → PI X tg e (RI bor Y O Wx (evi C bor g))
abbrev SndT (Y : Cfg) (gs : List E) : Prop := ∀ {O : Own} {X : Cx} {C : Ctx} {k : Ck} {Wx : WX} {xs : List Expr}, XOk Y O C Wx k X → chkL k gs xs = true → xs.length ≤ 1 → xs.all noIf = true → PTs X xs (RT Y O Wx (seqC (evl C gs)))
section
variable {O : Own} {X : Cx} {C : Ctx} {k : Ck}
theorem call_s {f : Str} {es : List E} {e : Expr} (hL : SndL Y es) (K : XOk Y O C Wx k X) (h : chkE k (.call f es) e = true) : PE X e (RC Y O Wx fun δ => M.bind (seqM (evl C es) δ) fun ds => C.call f ds) := by
  cases e with
  | Call g args kws p =>
    cases g with
    | Name g p1 =>
      cases kws with
      | cons _ _ => exact nof h
      | nil =>
        have h' : (decide (f = g) && k.gl g && !k.hot && decide (k.par f = some es.length) && chkL k es args && !args.isEmpty) = true := h
        simp only [Bool.and_eq_true, decide_eq_true_eq, Bool.not_eq_true'] at h'
        obtain ⟨⟨⟨⟨⟨rfl, h1⟩, h2⟩, h3⟩, h4⟩, h5⟩ := h'
        cases args with
        | nil => cases h5
        | cons x xs =>
          have hs := chkL_star h4
          obtain ⟨j, F, hr⟩ := K.call h2 f _ h3
          obtain ⟨g1, g2⟩ := K.gl h1
          exact sc_call F hr K.gd K.tk g1 g2 (hL K h4) (fun δ st ds st' e => by rw [seqM_len e, evl_len]) (star1 (hs x List.mem_cons_self)) (starAll fun y hy => hs y (List.mem_cons_of_mem _ hy))
    | _ => exact nof h
  | _ => exact nof h
theorem lam_s {f : Str} {b : E} {e : Expr} (hE : SndE Y b) (K : XOk Y O C Wx k X) (h : chkE k (.lam f b) e = true) : PE X e (RC Y O Wx fun δ => C.callT f fun c => ev (C.low c) b δ) := by
  cases e with
  | Call g args kws p =>
    cases g with
    | Name g p1 =>
      cases args with
      | nil => exact nof h
      | cons x args =>
        cases x with
        | Lambda ar y sc p2 =>
          cases args with
          | cons _ _ => exact nof h
          | nil =>
            cases kws with
            | cons _ _ => exact nof h
            | nil =>
              have h' : (decide (f = g) && k.gl g && !k.hot && k.full && k.lamD f && noArgs ar && lamSB k.sc sc && chkE (k.lam sc) b y) = true := h
              simp only [Bool.and_eq_true, decide_eq_true_eq, Bool.not_eq_true'] at h'
              obtain ⟨⟨⟨⟨⟨⟨⟨rfl, h1⟩, h2⟩, h3⟩, h4⟩, h5⟩, h6⟩, h7⟩ := h'
              obtain ⟨j, c0, cT, c, P, e1, F, hr, cal, TB, hc, hm, hu⟩ := (K.lam h3 h2).ok
              obtain ⟨g1, g2⟩ := K.gl h1
              have e2 := noArgs_of h5
              subst e2
              have := sc_lam (O := O) (Wx := Wx) (mb := fun δ => ev (C.low c0) b δ) (ar := ⟨[], [], none, [], [], none, []⟩) (b := y) (sc := sc) (F f h4) hr K.gd K.tk g1 g2 TB hc hm hu (lamS_by (by rw [K.sc]; exact h6)) (by rfl) (fun _ _ _ _ _ => by rfl) (p := p1) (lpos := p2) (pos := p)
                fun A outer s H E f' cc hr2 hg2 => hE (K.lamb hr2 hg2 cal) h7
              have e3 : (fun δ => C.callT f fun c => ev (C.low c) b δ) = fun δ => cT f (ev (C.low c0) b δ) := by
                funext δ
                rw [e1]
              rw [e3]
              exact this
        | _ => exact nof h
    | _ =>
      cases args with
      | nil => exact nof h
      | cons x args => cases x <;> exact nof h
  | _ => exact nof h
/-- list(range(..)), tuple(range(..)) -/
theorem rng_shape {b : Bool} {es : List E} {e : Expr} (h : chkE k (if b then .lrng es else .trng es) e = true) : ∃ p1 p2 args p3 p4, e = .Call (.Name (if b then "list" else "tuple") p1) [.Call (.Name "range" p2) args [] p3] [] p4 ∧
    k.gl (if b then "list" else "tuple") = true ∧ k.gl "range" = true ∧ k.hot = false ∧ chkL k es args = true ∧ (args.length = 1 ∨ args.length = 2) := by
  cases e with
  | Call f args kws p =>
    cases f with
    | Name g p1 =>
      cases args with
      | nil => cases b <;> exact nof h
      | cons x args =>
        cases args with
        | cons _ _ => cases b <;> cases x <;> first | exact nof h | (simp [chkE] at h)
        | nil =>
          cases x with
          | Call f2 xs kws2 p3 =>
            cases f2 with
            | Name g2 p2 =>
              cases kws2 with
              | cons _ _ => cases b <;> exact nof h
              | nil =>
                cases kws with
                | cons _ _ => cases b <;> exact nof h
                | nil =>
                  cases b with
                  | true =>
                    have h' : (decide (g = "list") && k.gl g && decide (g2 = "range") && k.gl g2 && !k.hot && chkL k es xs && (decide (xs.length = 1) || decide (xs.length = 2))) = true := h
                    simp only [Bool.and_eq_true, decide_eq_true_eq, Bool.not_eq_true', Bool.or_eq_true] at h'
                    obtain ⟨⟨⟨⟨⟨⟨rfl, h1⟩, rfl⟩, h2⟩, h3⟩, h4⟩, h5⟩ := h'
                    exact ⟨p1, p2, xs, p3, p, rfl, h1, h2, h3, h4, h5⟩
                  | false =>
                    have h' : (decide (g = "tuple") && k.gl g && decide (g2 = "range") && k.gl g2 && !k.hot && chkL k es xs && (decide (xs.length = 1) || decide (xs.length = 2))) = true := h
                    simp only [Bool.and_eq_true, decide_eq_true_eq, Bool.not_eq_true', Bool.or_eq_true] at h'
                    obtain ⟨⟨⟨⟨⟨⟨rfl, h1⟩, rfl⟩, h2⟩, h3⟩, h4⟩, h5⟩ := h'
                    exact ⟨p1, p2, xs, p3, p, rfl, h1, h2, h3, h4, h5⟩
            | _ => cases b <;> exact nof h
          | _ => cases b <;> exact nof h
    | _ =>
      cases args with
      | nil => cases b <;> exact nof h
      | cons x args => cases b <;> cases x <;> exact nof h
  | _ => cases b <;> exact nof h
theorem lrng1_s {a : E} {e : Expr} (ha : SndE Y a) (K : XOk Y O C Wx k X) (h : chkE k (.lrng [a]) e = true) : PE X e (RF Y O Wx (ev C (.lrng [a]))) := by
  obtain ⟨p1, p2, args, p3, p4, rfl, h3, h5, h6, h7, h8⟩ := rng_shape (b := true) h
  have hl := chkL_len h7
  match args, hl with
  | [x], _ =>
    have h7' : (chkE k a x && noStar x && true) = true := h7
    simp only [Bool.and_eq_true, and_true] at h7'
    have e0 : ev C (.lrng [a]) = fun δ => M.bind (ev C a δ) fun d => M.bind (M.of (rangeD [d])) fun r => M.bind (okRow r) fun r => M.pure (.lst r) := by
      funext δ
      show M.bind (M.bind (ev C a δ) fun d => M.bind (M.pure []) fun ds => M.pure (d :: ds)) _ = _
      rw [bind_assoc']
      rfl
    rw [e0]
    exact sf_lrng1 (by rw [K.cal, h6]; rfl) (K.gl h3).1 (K.mg "list" (by decide)) (K.gl h5).1 (K.mg "range" (by decide)) (ha K h7'.1) (star1 h7'.2)
theorem lrng2_s {a b : E} {e : Expr} (ha : SndE Y a) (hb : SndE Y b) (K : XOk Y O C Wx k X) (h : chkE k (.lrng [a, b]) e = true) : PE X e (RF Y O Wx (ev C (.lrng [a, b]))) := by
  obtain ⟨p1, p2, args, p3, p4, rfl, h3, h5, h6, h7, h8⟩ := rng_shape (b := true) h
  have hl := chkL_len h7
  match args, hl with
  | [x, y], _ =>
    have h7' : (chkE k a x && noStar x && (chkE k b y && noStar y && true)) = true := h7
    simp only [Bool.and_eq_true, and_true] at h7'
    have e0 : ev C (.lrng [a, b]) = fun δ => M.bind (ev C a δ) fun d => M.bind (ev C b δ) fun e => M.bind (M.of (rangeD [d, e])) fun r => M.bind (okRow r) fun r => M.pure (.lst r) := by
      funext δ
      show M.bind (M.bind (ev C a δ) fun d => M.bind (M.bind (ev C b δ) fun d => M.bind (M.pure []) fun ds => M.pure (d :: ds)) fun ds => M.pure (d :: ds)) _ = _
      rw [bind_assoc']
      congr 1
      funext d
      rw [bind_assoc', bind_assoc']
      rfl
    rw [e0]
    exact sf_lrng2 (by rw [K.cal, h6]; rfl) (K.gl h3).1 (K.mg "list" (by decide)) (K.gl h5).1 (K.mg "range" (by decide)) (ha K h7'.1.1) (hb K h7'.2.1) (star1 h7'.1.2) (star1 h7'.2.2) (starAll (xs := [y]) fun z hz => by rw [List.mem_singleton.mp hz]; exact h7'.2.2)
theorem trng1_s {a : E} {e : Expr} (ha : SndE Y a) (K : XOk Y O C Wx k X) (h : chkE k (.trng [a]) e = true) : PE X e (RE Y O Wx (ev C (.trng [a]))) := by
  obtain ⟨p1, p2, args, p3, p4, rfl, h3, h5, h6, h7, h8⟩ := rng_shape (b := false) h
  have hl := chkL_len h7
  match args, hl with
  | [x], _ =>
    have h7' : (chkE k a x && noStar x && true) = true := h7
    simp only [Bool.and_eq_true, and_true] at h7'
    have e0 : ev C (.trng [a]) = fun δ => M.bind (ev C a δ) fun d => M.bind (M.of (rangeD [d])) fun r => M.bind (okRow r) fun r => M.pure (.tup r) := by
      funext δ
      show M.bind (M.bind (ev C a δ) fun d => M.bind (M.pure []) fun ds => M.pure (d :: ds)) _ = _
      rw [bind_assoc']
      rfl
    rw [e0]
    exact se_trng1 (by rw [K.cal, h6]; rfl) (K.gl h3).1 (K.mg "tuple" (by decide)) (K.gl h5).1 (K.mg "range" (by decide)) (ha K h7'.1) (star1 h7'.2)
theorem trng2_s {a b : E} {e : Expr} (ha : SndE Y a) (hb : SndE Y b) (K : XOk Y O C Wx k X) (h : chkE k (.trng [a, b]) e = true) : PE X e (RE Y O Wx (ev C (.trng [a, b]))) := by
  obtain ⟨p1, p2, args, p3, p4, rfl, h3, h5, h6, h7, h8⟩ := rng_shape (b := false) h
  have hl := chkL_len h7
  match args, hl with
  | [x, y], _ =>
    have h7' : (chkE k a x && noStar x && (chkE k b y && noStar y && true)) = true := h7
    simp only [Bool.and_eq_true, and_true] at h7'
    have e0 : ev C (.trng [a, b]) = fun δ => M.bind (ev C a δ) fun d => M.bind (ev C b δ) fun e => M.bind (M.of (rangeD [d, e])) fun r => M.bind (okRow r) fun r => M.pure (.tup r) := by
      funext δ
      show M.bind (M.bind (ev C a δ) fun d => M.bind (M.bind (ev C b δ) fun d => M.bind (M.pure []) fun ds => M.pure (d :: ds)) fun ds => M.pure (d :: ds)) _ = _
      rw [bind_assoc']
      congr 1
      funext d
      rw [bind_assoc', bind_assoc']
      rfl
    rw [e0]
    exact se_trng2 (by rw [K.cal, h6]; rfl) (K.gl h3).1 (K.mg "tuple" (by decide)) (K.gl h5).1 (K.mg "range" (by decide)) (ha K h7'.1.1) (hb K h7'.2.1) (star1 h7'.1.2) (star1 h7'.2.2) (starAll (xs := [y]) fun z hz => by rw [List.mem_singleton.mp hz]; exact h7'.2.2)
/-- a clause -/
theorem chkG_of {k1 : Ck} {first : Bool} {own : List Nat} {t : T} {it : Wk} {cs : List E} {c : Comprehension} (h : chkG k k1 first (.mk own t it cs) c = true) : c = ⟨c.target, c.iter, c.ifs, 0⟩ ∧ chkT k1 t c.target = true ∧ (∀ i ∈ t.slots, i ∈ own) ∧ chkI k (isTup c.target) it c.iter = true ∧ chkL k1 cs c.ifs = true ∧ c.ifs.length ≤ 1 ∧ c.ifs.all noIf = true := by
  have h' : (decide (c.is_async = 0) && chkT k1 t c.target && (t.slots.all fun i => decide (i ∈ own)) && chkI k (isTup c.target) it c.iter && chkL k1 cs c.ifs && decide (c.ifs.length ≤ 1) && c.ifs.all noIf) = true := h
  simp only [Bool.and_eq_true, decide_eq_true_eq] at h'
  obtain ⟨⟨⟨⟨⟨⟨h1, h2⟩, h3⟩, h4⟩, h5⟩, h6⟩, h7⟩ := h'
  refine ⟨?_, h2, fun i hi => of_decide_eq_true (List.all_eq_true.mp h3 i hi), h4, h5, h6, h7⟩
  obtain ⟨a, b, d, e⟩ := c
  simp only at h1
  subst h1
  rfl
theorem fold_it {it : Wk} {tup : Bool} {e : Expr} (h : chkI k tup it e = true) {env : Env} : ∀ x, foldedSetIterable e env x = pure x := by
  cases it with
  | seq g =>
    have h' : (chkE k g e && noSet e) = true := h
    exact noSet_fold (Bool.and_eq_true_iff.mp h').2
  | _ =>
    cases e with
    | Set _ _ _ => exact nof h
    | _ => intro _; rfl
theorem lc1_s {elt : E} {own : List Nat} {t : T} {it : Wk} {cs : List E} {e : Expr} (hE : SndE Y elt) (hI : SndI Y it) (hT : SndT Y cs) (K : XOk Y O C Wx k X) (h : chkE k (.lc elt [.mk own t it cs]) e = true) : PE X e (RF Y O Wx (ev C (.lc elt [.mk own t it cs]))) := by
  cases e with
  | ListComp x gs scope p =>
    cases gs with
    | nil => exact nof h
    | cons c gs =>
      cases gs with
      | cons _ _ => exact nof h
      | nil =>
        have h' : (!k.hot && chkG k (k.blk scope) true (.mk own t it cs) c && blkC k.N k.sc scope (k.own own) && chkE (k.blk scope) elt x) = true := h
        simp only [Bool.and_eq_true, Bool.not_eq_true'] at h'
        obtain ⟨⟨⟨h1, h2⟩, h3⟩, h4⟩ := h'
        obtain ⟨e1, q1, q2, q3, q4, q5, q6⟩ := chkG_of h2
        rw [e1]
        have ok : BlkOk X.N X.env.scope scope (k.own own) := by rw [K.nn, K.sc]; exact blkOk_by h3
        have hc : X.calm = true := by rw [K.cal, h1]; rfl
        have := pe_lc (pos := p) hc (by rw [K.nn]; exact K.nd) (hI true K q3) ok (g := GT Y O t) (tt := RT Y O W0 (seqC (evl C cs))) (te := RE Y O W0 (ev C elt)) (fun s H A cl fp => soundT_ (K.blk h1 scope s H A cl fp) hc q1)
          (fun s H A cl fp => hT (K.blk h1 scope s H A cl fp) q4 q5 q6) (fun s H A cl fp => hE (K.blk h1 scope s H A cl fp) h4) (fold_it q3)
        rw [own_map] at this
        exact this.imp fun σ H Q h => lc_read q2 h
  | _ => exact nof h
theorem lc2_s {elt : E} {own own1 : List Nat} {t t1 : T} {it it1 : Wk} {cs cs1 : List E} {e : Expr} (hE : SndE Y elt) (hI : SndI Y it) (hT : SndT Y cs) (hI1 : SndI Y it1) (hT1 : SndT Y cs1) (K : XOk Y O C Wx k X) (h : chkE k (.lc elt [.mk own t it cs, .mk own1 t1 it1 cs1]) e = true) :
    PE X e (RF Y O Wx (ev C (.lc elt [.mk own t it cs, .mk own1 t1 it1 cs1]))) := by
  cases e with
  | ListComp x gs scope p =>
    cases gs with
    | nil => exact nof h
    | cons c gs =>
      cases gs with
      | nil => exact nof h
      | cons c1 gs =>
        cases gs with
        | cons _ _ => exact nof h
        | nil =>
          have h' : (!k.hot && chkG k (k.blk scope) true (.mk own t it cs) c && chkG (k.blk scope) (k.blk scope) false (.mk own1 t1 it1 cs1) c1 && (own1.all fun i => decide (i ∈ own)) && blkC k.N k.sc scope (k.own own) && chkE (k.blk scope) elt x) = true := h
          simp only [Bool.and_eq_true, Bool.not_eq_true'] at h'
          obtain ⟨⟨⟨⟨⟨h1, h2⟩, h5⟩, h6⟩, h3⟩, h4⟩ := h'
          obtain ⟨e1, q1, q2, q3, q4, q5, q6⟩ := chkG_of h2
          obtain ⟨e2, r1, r2, r3, r4, r5, r6⟩ := chkG_of h5
          rw [e1, e2]
          have ok : BlkOk X.N X.env.scope scope (k.own own) := by rw [K.nn, K.sc]; exact blkOk_by h3
          have hc : X.calm = true := by rw [K.cal, h1]; rfl
          have B := fun s H A cl fp => K.blk h1 scope s H A cl fp
          have := pe_lc2 (pos := p) hc (by rw [K.nn]; exact K.nd) (hI true K q3) ok (vs1 := own1) (fun i hi => by rw [own_map]; exact of_decide_eq_true (List.all_eq_true.mp h6 i hi)) (g := GT Y O t) (tt := RT Y O W0 (seqC (evl C cs))) (te := RE Y O W0 (ev C elt))
            (wi1 := RI false Y O W0 (evi C false it1)) (g1 := GT Y O t1) (tt1 := RT Y O W0 (seqC (evl C cs1))) (fun s H A cl fp => soundT_ (B s H A cl fp) hc q1)
            (fun s H A cl fp => hT (B s H A cl fp) q4 q5 q6) (fun s H A cl fp => hI1 false (B s H A cl fp) r3) (fun s H A cl fp => soundT_ (B s H A cl fp) hc r1) (fun s H A cl fp => hT1 (B s H A cl fp) r4 r5 r6) (fun s H A cl fp => hE (B s H A cl fp) h4)
            (fold_it q3) (fun env => fold_it r3)
          rw [own_map] at this
          exact this.imp fun σ H Q h => lc2_read q2 r2 h
  | _ => exact nof h
/-- a test that is no test of its own -/
def plainT : Expr → Bool
  | .BoolOp .. | .IfExp .. | .Compare .. => false
  | .UnaryOp .Not _ _ => false
  | _ => true
theorem plainT_of {e : Expr} (h : plainT e = true) {env : Env} : ∀ whole, isTrue e env whole = (do let v ← whole; standAt e.pos; holding [v] (truthy v)) := by
  cases e with
  | UnaryOp o x p =>
    cases o with
    | Not => exact nof h
    | _ => intro _; rfl
  | BoolOp _ _ _ => exact nof h
  | IfExp _ _ _ _ => exact nof h
  | Compare _ _ _ _ => exact nof h
  | _ => intro _; rfl
def ownTest : E → Bool
  | .cmp .. | .chain .. | .chain3 .. | .not .. | .bop .. | .ite .. => true
  | _ => false
theorem lc_shape {elt : E} {gs : List G} {e : Expr} (h : chkE k (.lc elt gs) e = true) : ∃ x cs sc p, e = .ListComp x cs sc p := by
  cases e with
  | ListComp x cs sc p => exact ⟨x, cs, sc, p, rfl⟩
  | _ =>
    cases gs with
    | nil => exact nof h
    | cons _ gs =>
      cases gs with
      | nil => exact nof h
      | cons _ gs => cases gs <;> exact nof h
theorem chk_plainT {g : E} {e : Expr} (h : chkE k g e = true) (ho : ownTest g = false) : plainT e = true := by
  cases e with
  | BoolOp _ _ _ => cases g <;> first | exact nof h | (obtain ⟨_, _, _, _, z⟩ := lc_shape h; cases z) | cases ho
  | IfExp _ _ _ _ => cases g <;> first | exact nof h | (obtain ⟨_, _, _, _, z⟩ := lc_shape h; cases z) | cases ho
  | Compare _ os ys _ => cases g <;> first | exact nof h | (obtain ⟨_, _, _, _, z⟩ := lc_shape h; cases z) | cases ho
  | UnaryOp o _ _ =>
    cases o with
    | Not => cases g <;> first | exact nof h | (obtain ⟨_, _, _, _, z⟩ := lc_shape h; cases z) | cases ho
    | _ => rfl
  | _ => rfl
theorem truth_s {g : E} {e : Expr} (hE : SndE Y g) (K : XOk Y O C Wx k X) (h : chkE k g e = true) (ho : ownTest g = false) : PT X e (RT Y O Wx fun δ => M.bind (ev C g δ) fun d => M.of (truthD d)) :=
  st_truth K.hK (reb_of (hE K h)) (plainT_of (chk_plainT h ho))
/-! what is walked -/
theorem isTup_of {e : Expr} (h : isTup e = true) : ∃ xs kk p, e = .Tuple xs kk p := by
  cases e with
  | Tuple xs kk p => exact ⟨xs, kk, p, rfl⟩
  | _ => exact nof h
theorem rng_s {es : List E} {tg e : Expr} (hL : SndL Y es) (bor : Bool) (K : XOk Y O C Wx k X) (h : chkI k (isTup tg) (.rng es) e = true) : PI X tg e (RI bor Y O Wx (evi C bor (.rng es))) := by
  cases e with
  | Call f args kws p =>
    cases f with
    | Name g p1 =>
      cases kws with
      | cons _ _ => exact nof h
      | nil =>
        have h' : (decide (g = "range") && k.gl g && chkL k es args && (decide (args.length = 1) || decide (args.length = 2) || decide (args.length = 3))) = true := h
        simp only [Bool.and_eq_true, decide_eq_true_eq, Bool.or_eq_true] at h'
        obtain ⟨⟨⟨rfl, h1⟩, h2⟩, h3⟩ := h'
        have hs := chkL_star h2
        have g1 := (K.gl h1).1
        have m1 := K.mg "range" (by decide)
        have hp := hL K h2
        have hlen : ∀ δ st ds st', seqM (evl C es) δ st = .ok ds st' → ds.length = args.length := fun δ st ds st' e => by rw [seqM_len e, evl_len, chkL_len h2]
        match args, h3, hs, hp, hlen with
        | [a], _, hs, hp, hlen => exact si_rng1 g1 m1 hp (star1 (hs a (by simp))) hlen
        | [a, b], _, hs, hp, hlen => exact si_rng2 g1 m1 hp (by rw [star1 (hs a (by simp)), star1 (hs b (by simp))]; rfl) (star1 (hs b (by simp))) hlen
        | [a, b, c], _, hs, hp, hlen => exact si_rng3 g1 m1 hp (star1 (hs a (by simp))) (starAll fun y hy => hs y (List.mem_cons_of_mem _ hy)) hlen
        | [], h3, _, _, _ => simp at h3
        | _ :: _ :: _ :: _ :: _, h3, _, _, _ => simp at h3
    | _ => exact nof h
  | _ => exact nof h
theorem enum_s {g : E} {tg e : Expr} (hE : SndE Y g) (bor : Bool) (K : XOk Y O C Wx k X) (h : chkI k (isTup tg) (.enum g) e = true) : PI X tg e (RI bor Y O Wx (evi C bor (.enum g))) := by
  cases e with
  | Call f args kws p =>
    cases f with
    | Name q p1 =>
      cases args with
      | nil => exact nof h
      | cons x args =>
        cases args with
        | cons _ _ => exact nof h
        | nil =>
          cases kws with
          | cons _ _ => exact nof h
          | nil =>
            have h' : (isTup tg && decide (q = "enumerate") && k.gl q && chkE k g x && noStar x) = true := h
            simp only [Bool.and_eq_true, decide_eq_true_eq] at h'
            obtain ⟨⟨⟨⟨h0, rfl⟩, h1⟩, h2⟩, h3⟩ := h'
            obtain ⟨xs, kk, tp, rfl⟩ := isTup_of h0
            exact si_enum K.hK (K.gl h1).1 (K.mg "enumerate" (by decide)) (bor_at bor K h2 (hE K h2)) (star1 h3)
    | _ => exact nof h
  | _ => exact nof h
theorem zip_s {a b : E} {tg e : Expr} (ha : SndE Y a) (hb : SndE Y b) (bor : Bool) (K : XOk Y O C Wx k X) (h : chkI k (isTup tg) (.zip a b) e = true) : PI X tg e (RI bor Y O Wx (evi C bor (.zip a b))) := by
  cases e with
  | Call f args kws p =>
    cases f with
    | Name q p1 =>
      cases args with
      | nil => exact nof h
      | cons x args =>
        cases args with
        | nil => exact nof h
        | cons y args =>
          cases args with
          | cons _ _ => exact nof h
          | nil =>
            cases kws with
            | cons _ _ => exact nof h
            | nil =>
              have h' : (isTup tg && decide (q = "zip") && k.gl q && chkE k a x && noStar x && chkE k b y && noStar y) = true := h
              simp only [Bool.and_eq_true, decide_eq_true_eq] at h'
              obtain ⟨⟨⟨⟨⟨⟨h0, rfl⟩, h1⟩, h2⟩, h3⟩, h4⟩, h5⟩ := h'
              obtain ⟨xs, kk, tp, rfl⟩ := isTup_of h0
              exact si_zip K.hK (K.gl h1).1 (K.mg "zip" (by decide)) (bor_at bor K h2 (ha K h2)) (bor_at bor K h4 (hb K h4)) (star1 h3) (star1 h5) (starAll (xs := [y]) fun z hz => by rw [List.mem_singleton.mp hz]; exact h5)
    | _ => exact nof h
  | _ => exact nof h
theorem rev_s {g : E} {tg e : Expr} (hE : SndE Y g) (bor : Bool) (K : XOk Y O C Wx k X) (h : chkI k (isTup tg) (.rev g) e = true) : PI X tg e (RI bor Y O Wx (evi C bor (.rev g))) := by
  cases e with
  | Call f args kws p =>
    cases f with
    | Name q p1 =>
      cases args with
      | nil => exact nof h
      | cons x args =>
        cases args with
        | cons _ _ => exact nof h
        | nil =>
          cases kws with
          | cons _ _ => exact nof h
          | nil =>
            have h' : (decide (q = "reversed") && k.gl q && chkE k g x && noStar x) = true := h
            simp only [Bool.and_eq_true, decide_eq_true_eq] at h'
            obtain ⟨⟨⟨rfl, h1⟩, h2⟩, h3⟩ := h'
            exact si_rev K.hK (K.gl h1).1 (K.mg "reversed" (by decide)) (bor_at bor K h2 (hE K h2)) (star1 h3)
    | _ => exact nof h
  | _ => exact nof h
theorem both {g : E} (ho : ownTest g = false) (hE : SndE Y g) : SndE Y g ∧ SndB Y g := ⟨hE, fun {O} {X} {C} {k} {Wx} {e} K h _ => truth_s hE K h ho⟩
end
section
variable {Y : Cfg} {O : Own} {Wx : WX} {X : Cx} {a b : Expr} {ma mb : Ev} {pos : Pos}
theorem base_of {o : Expr} {n : Str} {env : Env} {w : Sem Value} (h : plainBase o = true) : attributeBase o n env w = w := by
  cases o with
  | Call f args kws p =>
    cases f with
    | Name x q =>
      cases args with
      | nil =>
        cases kws with
        | nil => cases h
        | cons _ _ => rfl
      | cons _ _ => rfl
    | _ => rfl
  | _ => rfl
theorem se_idx {ap : Pos} (hK : X.K = Y.K) (hu : X.A.units + 65 < cLine) (ha : PE X a (REB Y O Wx ma)) (hb : PE X b (RE Y O Wx mb)) (hp : plainBase a = true) (hl : (ap.endLine == pos.line) = true) (hs : starEach [b] X.env = (false, eval b X.env) :: starEach [] X.env) :
    PE X (.Call (.Attribute a "index" ap) [b] [] pos) (RE Y O Wx fun δ => M.bind (ma δ) fun x => M.bind (M.of (lstOf x)) fun xs => M.bind (mb δ) fun y => M.of (idxD xs y)) :=
  (pe_bm PySem.F.plainAttrs_list PySem.F.slot_list_index PySem.F.type_list_index (mt_indexD hu) ha (pa_cons hb pa_nil hs) (base_of hp) (by rw [hs]; rfl) hl hs (by rfl)).imp fun σ H Q ⟨δ, st, Z, ms, R, P⟩ =>
  rg_seq R P fun x st1 v H1 Z1 ms1 s1 R1 vx P1 => by
    obtain ⟨xs, e1, P2⟩ := Post.bindOf P1
    cases x with
    | lst ds =>
      cases e1
      obtain ⟨q, us, rfl, hq, hd⟩ := DenB.lst vx
      refine ⟨.inl ⟨rfl, us, ?_⟩, rg_seq R1 P2 fun y st2 u H2 Z2 ms2 s2 R2 vy P3 => ?_⟩
      · exact SqL.of hq
      · obtain ⟨z, e, P4⟩ := Post.of P3
        unfold idxD at e
        split at e
        · rename_i ps p e1 e2
          split at e
          · rename_i hc
            obtain ⟨c1, c2⟩ := Bool.and_eq_true_iff.mp hc
            obtain ⟨j, hj, rfl⟩ := Option.map_eq_some_iff.mp e
            obtain ⟨hlt, g1, g2⟩ := List.findIdx?_eq_some_iff_getElem.mp hj
            refine ⟨q, u, p, ps, j, ps[j], rfl, rfl, hK ▸ (s2.denB R1.ok vx).dp e1, hK ▸ DenB.dp (.inl vy) e2, c1, c2, List.getElem?_eq_getElem hlt, g1, fun m z' hm hz => ?_, Post.pure' P4 R2.ok (.int _)⟩
            obtain ⟨hm2, rfl⟩ := List.getElem?_eq_some_iff.mp hz
            simpa using g2 m hm
          · cases e
        · cases e
    | _ => cases e1
end
section
variable {k : Ck}
theorem chain3_shape {op op2 op3 : CmpOp} {a b c d : E} {e : Expr} (h : chkE k (.chain3 op op2 op3 a b c d) e = true) : ∃ x y z u p, e = .Compare x [op, op2, op3] [y, z, u] p ∧ chkE k a x = true ∧ chkE k b y = true ∧ chkE k c z = true ∧ chkE k d u = true ∧ noSet u = true := by
  cases e with
  | Compare x os ys p =>
    match os, ys, h with
    | [o, o2, o3], [y, z, u], h =>
      have h' : (decide (op = o) && decide (op2 = o2) && decide (op3 = o3) && chkE k a x && chkE k b y && chkE k c z && chkE k d u && noSet u) = true := h
      simp only [Bool.and_eq_true, decide_eq_true_eq] at h'
      obtain ⟨⟨⟨⟨⟨⟨⟨rfl, rfl⟩, rfl⟩, h1⟩, h2⟩, h3⟩, h4⟩, h5⟩ := h'
      exact ⟨x, y, z, u, p, rfl, h1, h2, h3, h4, h5⟩
    | [], _, h => exact nof h
    | [_], _, h => exact nof h
    | [_, _], _, h => exact nof h
    | _ :: _ :: _ :: _ :: _, _, h => exact nof h
    | [_, _, _], [], h => exact nof h
    | [_, _, _], [_], h => exact nof h
    | [_, _, _], [_, _], h => exact nof h
    | [_, _, _], _ :: _ :: _ :: _ :: _, h => exact nof h
  | _ => exact nof h
theorem get2_shape {a i d : E} {e : Expr} (h : chkE k (.get2 a i d) e = true) : ∃ x ap y z cp, e = .Call (.Attribute x "get" ap) [y, z] [] cp ∧ (ap.endLine == cp.line) = true ∧ plainBase x = true ∧ chkE k a x = true ∧ chkE k i y = true ∧ noStar y = true ∧ chkE k d z = true ∧ noStar z = true := by
  cases e with
  | Call f args kws cp =>
    cases f with
    | Attribute x m ap =>
      match args, kws, h with
      | [y, z], [], h =>
        have h' : (decide (m = "get") && (ap.endLine == cp.line) && plainBase x && chkE k a x && chkE k i y && noStar y && chkE k d z && noStar z) = true := h
        simp only [Bool.and_eq_true, decide_eq_true_eq] at h'
        obtain ⟨⟨⟨⟨⟨⟨⟨rfl, h1⟩, h2⟩, h3⟩, h4⟩, h5⟩, h6⟩, h7⟩ := h'
        exact ⟨x, ap, y, z, cp, rfl, h1, h2, h3, h4, h5, h6, h7⟩
      | [], _, h => exact nof h
      | [_], [], h => exact nof h
      | [_], _ :: _, h => exact nof h
      | [_, _], _ :: _, h => exact nof h
      | _ :: _ :: _ :: _, _, h => exact nof h
    | _ =>
      match args, kws, h with
      | [y, z], [], h => exact nof h
      | [], _, h => exact nof h
      | [x], [], h => cases x <;> exact nof h
      | [_], _ :: _, h => exact nof h
      | [_, _], _ :: _, h => exact nof h
      | _ :: _ :: _ :: _, _, h => exact nof h
  | _ => exact nof h
inductive AllS (Y : Cfg) : List E → Prop
  | nil : AllS Y []
  | cons {g : E} {gs : List E} : SndE Y g → AllS Y gs → AllS Y (g :: gs)
theorem sound_ps {Y : Cfg} {O : Own} {X : Cx} {C : Ctx} {Wx : WX} {pos : Pos} (K : XOk Y O C Wx k X) : ∀ {ks vs : List E} {keys : List (Option Expr)} {xs : List Expr}, AllS Y ks → AllS Y vs → chkKs k ks keys = true → chkL k vs xs = true → keys.length = xs.length →
    PPs X pos keys xs (trsOf Y O Wx (evl C ks) (evl C vs)) ∧ keys.all (·.isSome) = true ∧ ks.length = keys.length
  | [], [], [], [], _, _, _, _, _ => ⟨pps_nil, rfl, rfl⟩
  | [], _ :: _, _, [], _, _, _, h, _ => nof h
  | [], [], _, _ :: _, _, _, _, h, _ => nof h
  | [], _, _ :: _, _, _, _, h, _, _ => nof h
  | _ :: _, _, [], _, _, _, h, _, _ => nof h
  | _ :: _, _, none :: _, _, _, _, h, _, _ => nof h
  | [], _ :: _, [], _ :: _, _, _, _, _, h => by cases h
  | a :: ks, [], some y :: keys, [], _, _, _, _, h => by cases h
  | a :: ks, [], some y :: keys, x :: xs, _, _, _, h, _ => nof h
  | a :: ks, b :: vs, some y :: keys, [], _, _, _, h, _ => nof h
  | a :: ks, b :: vs, some y :: keys, x :: xs, .cons ha hks, .cons hb hvs, h1, h2, hl => by
    have h1' : (chkE k a y && chkKs k ks keys) = true := h1
    have h2' : (chkE k b x && noStar x && chkL k vs xs) = true := h2
    simp only [Bool.and_eq_true] at h1' h2'
    obtain ⟨q1, q2, q3⟩ := sound_ps K hks hvs h1'.2 h2'.2 (by simpa using hl)
    exact ⟨pps_cons (ha K h1'.1) (hb K h2'.1.1) q1, by rw [List.all_cons, q2]; rfl, by rw [List.length_cons, List.length_cons, q3]⟩
theorem dcomp_s {Y : Cfg} {O : Own} {X : Cx} {C : Ctx} {Wx : WX} {ke ve : E} {own : List Nat} {t : T} {it : Wk} {cs : List E} {e : Expr} (hk : SndE Y ke) (hv : SndE Y ve) (hI : SndI Y it) (hT : SndT Y cs) (K : XOk Y O C Wx k X) (h : chkE k (.dcomp ke ve (.mk own t it cs)) e = true) :
    PE X e (RE Y O Wx (ev C (.dcomp ke ve (.mk own t it cs)))) := by
  cases e with
  | DictComp kx vx gs scope p =>
    match gs, h with
    | [], h => exact nof h
    | _ :: _ :: _, h => exact nof h
    | [c], h =>
      have h' : (!k.hot && chkG k (k.blk scope) true (.mk own t it cs) c && blkC k.N k.sc scope (k.own own) && chkE (k.blk scope) ke kx && chkE (k.blk scope) ve vx) = true := h
      simp only [Bool.and_eq_true, Bool.not_eq_true'] at h'
      obtain ⟨⟨⟨⟨h1, h2⟩, h3⟩, h4⟩, h5⟩ := h'
      obtain ⟨e1, q1, q2, q3, q4, q5, q6⟩ := chkG_of h2
      rw [e1]
      have ok : BlkOk X.N X.env.scope scope (k.own own) := by rw [K.nn, K.sc]; exact blkOk_by h3
      have hc : X.calm = true := by rw [K.cal, h1]; rfl
      have := pe_dc (pos := p) hc (by rw [K.nn]; exact K.nd) (hI true K q3) ok (g := GT Y O t) (tt := RT Y O W0 (seqC (evl C cs))) (tk := RE Y O W0 (ev C ke)) (tv := RE Y O W0 (ev C ve)) (fun s H A cl fp => soundT_ (K.blk h1 scope s H A cl fp) hc q1)
        (fun s H A cl fp => hT (K.blk h1 scope s H A cl fp) q4 q5 q6) (fun s H A cl fp => hk (K.blk h1 scope s H A cl fp) h4) (fun s H A cl fp => hv (K.blk h1 scope s H A cl fp) h5) (fold_it q3)
      rw [own_map] at this
      exact (pe_frzV this).imp fun σ H Q h => dc_read q2 h
  | _ => exact nof h
end
mutual
theorem soundP : ∀ (g : E), SndE Y g ∧ SndB Y g
  | .var i => both rfl fun {O} {X} {C} {k} {Wx} {e} K h => by
    cases e with
    | Name x p =>
      obtain ⟨h1, h2, h3, h4⟩ := K.vis (show k.vis i x = true from h)
      exact se_var h1 h2 h3 h4
    | _ => exact nof h
  | .gl x => both rfl fun {O} {X} {C} {k} {Wx} {e} K h => by
    cases e with
    | Name y p =>
      have h' : (decide (x = y) && k.gl y) = true := h
      simp only [Bool.and_eq_true, decide_eq_true_eq] at h'
      obtain ⟨rfl, h2⟩ := h'
      obtain ⟨q1, q2⟩ := K.gl h2
      exact se_gl (d := .non) q1 (fun d hd => K.glob x d hd) q2
    | _ => exact nof h
  | .int i => both rfl fun {O} {X} {C} {k} {Wx} {e} K h => by
    cases e with
    | Constant c j p =>
      cases c with
      | int j =>
        have h' : i = j := of_decide_eq_true h
        subst h'
        exact se_const pe_int fun _ _ _ => .int i
      | _ => exact nof h
    | _ => exact nof h
  | .str i => both rfl fun {O} {X} {C} {k} {Wx} {e} K h => by
    cases e with
    | Constant c j p =>
      cases c with
      | str j =>
        have h' : i = j := of_decide_eq_true h
        subst h'
        exact se_const pe_str fun _ _ _ => .str i
      | _ => exact nof h
    | _ => exact nof h
  | .bl i => both rfl fun {O} {X} {C} {k} {Wx} {e} K h => by
    cases e with
    | Constant c j p =>
      cases c with
      | bool j =>
        have h' : i = j := of_decide_eq_true h
        subst h'
        exact se_const pe_bl fun _ _ _ => .bl i
      | _ => exact nof h
    | _ => exact nof h
  | .non => both rfl fun {O} {X} {C} {k} {Wx} {e} K h => by
    cases e with
    | Constant c j p =>
      cases c with
      | none => exact se_const pe_non fun _ _ _ => .non
      | _ => exact nof h
    | _ => exact nof h
  | .tup es => both rfl fun {O} {X} {C} {k} {Wx} {e} K h => by
    cases e with
    | Tuple xs j p => exact se_tup (soundL es K (show chkL k es xs = true from h))
    | _ => exact nof h
  | .lst es => both rfl fun {O} {X} {C} {k} {Wx} {e} K h => by
    cases e with
    | List xs p => exact re_of_rf (sf_lst (soundL es K (show chkL k es xs = true from h)))
    | _ => exact nof h
  | .bin op a b => both rfl fun {O} {X} {C} {k} {Wx} {e} K h => by
    cases e with
    | BinOp x o y p =>
      have h' : (decide (op = o) && chkE k a x && chkE k b y) = true := h
      simp only [Bool.and_eq_true, decide_eq_true_eq] at h'
      obtain ⟨⟨rfl, h1⟩, h2⟩ := h'
      exact se_bin K.hK (bor_of K h1 ((soundP a).1 K h1)) (bor_of K h2 ((soundP b).1 K h2))
    | _ => exact nof h
  | .neg a => both rfl fun {O} {X} {C} {k} {Wx} {e} K h => by
    cases e with
    | UnaryOp o x p =>
      cases o with
      | USub => exact se_neg ((soundP a).1 K (show chkE k a x = true from h))
      | _ => exact nof h
    | _ => exact nof h
  | .not a => ⟨fun {O} {X} {C} {k} {Wx} {e} K h => by
    cases e with
    | UnaryOp o x p =>
      cases o with
      | Not =>
        have h' : (chkE k a x && noIf x) = true := h
        simp only [Bool.and_eq_true] at h'
        exact se_not K.hK (bor_of K h'.1 ((soundP a).1 K h'.1))
      | _ => exact nof h
    | _ => exact nof h, fun {O} {X} {C} {k} {Wx} {e} K h hi => by
    cases e with
    | UnaryOp o x p =>
      cases o with
      | Not =>
        have h' : (chkE k a x && noIf x) = true := h
        simp only [Bool.and_eq_true] at h'
        exact st_not (tb_of K h'.1 ((soundP a).2 K h'.1 h'.2))
      | _ => exact nof h
    | _ => exact nof h⟩
  | .bop cj es => ⟨fun {O} {X} {C} {k} {Wx} {e} K h => by
    cases e with
    | BoolOp o xs p =>
      have h' : (decide (o = if cj then .And else .Or) && chkL k es xs && xs.all noIf && !xs.isEmpty) = true := h
      simp only [Bool.and_eq_true, decide_eq_true_eq] at h'
      obtain ⟨⟨⟨rfl, h1⟩, _⟩, h3⟩ := h'
      exact soundW es K h1 (by intro z; rw [z] at h3; cases h3)
    | _ => exact nof h, fun {O} {X} {C} {k} {Wx} {e} K h hi => by
    cases e with
    | BoolOp o xs p =>
      have h' : (decide (o = if cj then .And else .Or) && chkL k es xs && xs.all noIf && !xs.isEmpty) = true := h
      simp only [Bool.and_eq_true, decide_eq_true_eq] at h'
      obtain ⟨⟨⟨rfl, h1⟩, h2⟩, h3⟩ := h'
      exact (soundWT es K h1 (by intro z; rw [z] at h3; cases h3) h2).pt
    | _ => exact nof h⟩
  | .cmp op a b => ⟨fun {O} {X} {C} {k} {Wx} {e} K h => by
    cases e with
    | Compare x os ys p =>
      cases os with
      | nil => exact nof h
      | cons o os =>
        cases os with
        | cons _ _ => exact nof h
        | nil =>
          cases ys with
          | nil => exact nof h
          | cons y ys =>
            cases ys with
            | cons _ _ => exact nof h
            | nil =>
              have h' : (decide (op = o) && chkE k a x && chkE k b y && noSet y) = true := h
              simp only [Bool.and_eq_true, decide_eq_true_eq] at h'
              obtain ⟨⟨⟨rfl, h1⟩, h2⟩, h3⟩ := h'
              exact se_cmp K.hK K.un (bor_of K h1 ((soundP a).1 K h1)) (bor_of K h2 ((soundP b).1 K h2)) (noSet_marks h3)
    | _ => exact nof h, fun {O} {X} {C} {k} {Wx} {e} K h hi => by
    cases e with
    | Compare x os ys p =>
      cases os with
      | nil => exact nof h
      | cons o os =>
        cases os with
        | cons _ _ => exact nof h
        | nil =>
          cases ys with
          | nil => exact nof h
          | cons y ys =>
            cases ys with
            | cons _ _ => exact nof h
            | nil =>
              have h' : (decide (op = o) && chkE k a x && chkE k b y && noSet y) = true := h
              simp only [Bool.and_eq_true, decide_eq_true_eq] at h'
              obtain ⟨⟨⟨rfl, h1⟩, h2⟩, h3⟩ := h'
              exact st_cmp K.hK K.un (bor_of K h1 ((soundP a).1 K h1)) (bor_of K h2 ((soundP b).1 K h2)) (noSet_marks h3)
    | _ => exact nof h⟩
  | .chain op op2 a b c => ⟨fun {O} {X} {C} {k} {Wx} {e} K h => by
    cases e with
    | Compare x os ys p =>
      cases os with
      | nil => exact nof h
      | cons o os =>
        cases os with
        | nil => exact nof h
        | cons o2 os =>
          cases os with
          | cons _ _ => exact nof h
          | nil =>
            cases ys with
            | nil => exact nof h
            | cons y ys =>
              cases ys with
              | nil => exact nof h
              | cons z ys =>
                cases ys with
                | cons _ _ => exact nof h
                | nil =>
                  have h' : (decide (op = o) && decide (op2 = o2) && chkE k a x && chkE k b y && chkE k c z && noSet z) = true := h
                  simp only [Bool.and_eq_true, decide_eq_true_eq] at h'
                  obtain ⟨⟨⟨⟨⟨rfl, rfl⟩, h1⟩, h2⟩, h3⟩, h4⟩ := h'
                  exact se_chain K.hK K.un (bor_of K h1 ((soundP a).1 K h1)) (bor_of K h2 ((soundP b).1 K h2)) (bor_of K h3 ((soundP c).1 K h3)) (noSet_marks h4)
    | _ => exact nof h, fun {O} {X} {C} {k} {Wx} {e} K h hi => by
    cases e with
    | Compare x os ys p =>
      cases os with
      | nil => exact nof h
      | cons o os =>
        cases os with
        | nil => exact nof h
        | cons o2 os =>
          cases os with
          | cons _ _ => exact nof h
          | nil =>
            cases ys with
            | nil => exact nof h
            | cons y ys =>
              cases ys with
              | nil => exact nof h
              | cons z ys =>
                cases ys with
                | cons _ _ => exact nof h
                | nil =>
                  have h' : (decide (op = o) && decide (op2 = o2) && chkE k a x && chkE k b y && chkE k c z && noSet z) = true := h
                  simp only [Bool.and_eq_true, decide_eq_true_eq] at h'
                  obtain ⟨⟨⟨⟨⟨rfl, rfl⟩, h1⟩, h2⟩, h3⟩, h4⟩ := h'
                  exact st_chain K.hK K.un (bor_of K h1 ((soundP a).1 K h1)) (bor_of K h2 ((soundP b).1 K h2)) (bor_of K h3 ((soundP c).1 K h3)) (noSet_marks h4)
    | _ => exact nof h⟩
  | .ite c a b => ⟨fun {O} {X} {C} {k} {Wx} {e} K h => by
    cases e with
    | IfExp z x y p =>
      have h' : (chkE k c z && noIf z && chkE k a x && chkE k b y) = true := h
      simp only [Bool.and_eq_true] at h'
      obtain ⟨⟨⟨h1, h2⟩, h3⟩, h4⟩ := h'
      exact se_ite (tb_of K h1 ((soundP c).2 K h1 h2)) ((soundP a).1 K h3) ((soundP b).1 K h4)
    | _ => exact nof h, fun {O} {X} {C} {k} {Wx} {e} K h hi => by
    cases e with
    | IfExp _ _ _ _ => exact nof hi
    | _ => exact nof h⟩
  | .idx a i => both rfl fun {O} {X} {C} {k} {Wx} {e} K h => by
    cases e with
    | Call f args kws cp =>
      cases f with
      | Attribute x m ap =>
        cases args with
        | nil => cases kws <;> exact nof h
        | cons y args =>
          cases args with
          | cons _ _ => cases kws <;> exact nof h
          | nil =>
            cases kws with
            | cons _ _ => exact nof h
            | nil =>
              have h' : (decide (m = "index") && (ap.endLine == cp.line) && plainBase x && chkE k a x && chkE k i y && noStar y) = true := h
              simp only [Bool.and_eq_true, decide_eq_true_eq] at h'
              obtain ⟨⟨⟨⟨⟨rfl, h1⟩, h2⟩, h3⟩, h4⟩, h5⟩ := h'
              exact se_idx K.hK K.un (bor_of K h3 ((soundP a).1 K h3)) ((soundP i).1 K h4) h2 h1 (star1 h5)
      | _ => cases args <;> exact nof h
    | _ => exact nof h
  | .ix a i => both rfl fun {O} {X} {C} {k} {Wx} {e} K h => by
    cases e with
    | Subscript x y p =>
      have h' : (chkE k a x && chkE k i y && notSl y) = true := h
      simp only [Bool.and_eq_true] at h'
      obtain ⟨⟨h1, h2⟩, h3⟩ := h'
      exact se_ix K.hK (by have := K.un; omega) (bor_of K h1 ((soundP a).1 K h1)) ((soundP i).1 K h2) (plainIx_of h3)
    | _ => exact nof h
  | .sl a lo hi => both rfl fun {O} {X} {C} {k} {Wx} {e} K h => by
    cases e with
    | Subscript x y p =>
      cases y with
      | Slice l u st p2 =>
        cases st with
        | none =>
          have h' : (chkE k a x && chkO k lo l && chkO k hi u) = true := h
          simp only [Bool.and_eq_true] at h'
          obtain ⟨⟨h1, h2⟩, h3⟩ := h'
          exact se_slice K.hK (bor_of K h1 ((soundP a).1 K h1)) (soundO lo K h2) (soundO hi K h3)
        | some _ => exact nof h
      | _ => exact nof h
    | _ => exact nof h
  | .rev a => both rfl fun {O} {X} {C} {k} {Wx} {e} K h => by
    cases e with
    | Subscript x y p =>
      cases y with
      | Slice l u st p3 =>
        cases l with
        | some _ => exact nof h
        | none =>
          cases u with
          | some _ => exact nof h
          | none =>
            cases st with
            | none => exact nof h
            | some z =>
              cases z with
              | UnaryOp o w p2 =>
                cases o with
                | USub =>
                  cases w with
                  | Constant c q p1 =>
                    cases c with
                    | int j =>
                      have h' : (decide (j = 1) && chkE k a x) = true := h
                      simp only [Bool.and_eq_true, decide_eq_true_eq] at h'
                      obtain ⟨rfl, h1⟩ := h'
                      exact se_back K.hK (bor_of K h1 ((soundP a).1 K h1))
                    | _ => exact nof h
                  | _ => exact nof h
                | _ => exact nof h
              | _ => exact nof h
      | _ => exact nof h
    | _ => exact nof h
  | .call f es => both rfl fun {O} {X} {C} {k} {Wx} {e} K h => re_of_rc (call_s (soundL es) K h)
  | .callv i => both rfl fun {O} {X} {C} {k} {Wx} {e} K h => by
    cases e with
    | Call f args kws p =>
      cases f with
      | Name x p1 =>
        cases args with
        | cons _ _ => exact nof h
        | nil =>
          cases kws with
          | cons _ _ => exact nof h
          | nil =>
            have h' : (k.tk && decide (i = 0) && k.vis i x) = true := h
            simp only [Bool.and_eq_true, decide_eq_true_eq] at h'
            obtain ⟨⟨h0, rfl⟩, h3⟩ := h'
            obtain ⟨h1, h2, _, _⟩ := K.vis h3
            exact K.thk h0 x p1 p h1 h2
      | _ => exact nof h
    | _ => exact nof h
  | .lam f b => both rfl fun {O} {X} {C} {k} {Wx} {e} K h => re_of_rc (lam_s ((soundP b).1) K h)
  | .bi b es => both rfl fun {O} {X} {C} {k} {Wx} {e} K h => by
    cases e with
    | Call f args kws p =>
      cases f with
      | Name g p1 =>
        cases kws with
        | cons _ _ => exact nof h
        | nil =>
          have h' : (decide (g = b.nm) && k.gl g && (b.hot || !k.hot) && chkL k es args && !args.isEmpty) = true := h
          simp only [Bool.and_eq_true, decide_eq_true_eq, Bool.or_eq_true] at h'
          obtain ⟨⟨⟨⟨rfl, h1⟩, h2⟩, h3⟩, h4⟩ := h'
          cases args with
          | nil => cases h4
          | cons x xs =>
            have hs := chkL_star h3
            refine se_bi K.hK K.un K.gd b (h2.imp id fun z => by rw [K.cal]; exact z) (K.gl h1).1 (K.mg _ (bi_name b)) (soundLB es K h3) (star1 (hs x List.mem_cons_self)) (starAll fun y hy => hs y (List.mem_cons_of_mem _ hy))
      | _ => exact nof h
    | _ => exact nof h
  | .lrng [a] => both rfl fun {O} {X} {C} {k} {Wx} {e} K h => re_of_rf (lrng1_s ((soundP a).1) K h)
  | .lrng [a, b] => both rfl fun {O} {X} {C} {k} {Wx} {e} K h => re_of_rf (lrng2_s ((soundP a).1) ((soundP b).1) K h)
  | .lrng [] => both rfl fun {O} {X} {C} {k} {Wx} {e} K h => by
    obtain ⟨_, _, args, _, _, _, _, _, _, h7, h8⟩ := rng_shape (b := true) h
    have := chkL_len h7
    rcases h8 with h8 | h8 <;> rw [h8] at this <;> cases this
  | .lrng (_ :: _ :: _ :: _) => both rfl fun {O} {X} {C} {k} {Wx} {e} K h => by
    obtain ⟨_, _, args, _, _, _, _, _, _, h7, h8⟩ := rng_shape (b := true) h
    have := chkL_len h7
    rcases h8 with h8 | h8 <;> rw [h8] at this <;> simp at this
  | .trng [a] => both rfl fun {O} {X} {C} {k} {Wx} {e} K h => trng1_s ((soundP a).1) K h
  | .trng [a, b] => both rfl fun {O} {X} {C} {k} {Wx} {e} K h => trng2_s ((soundP a).1) ((soundP b).1) K h
  | .trng [] => both rfl fun {O} {X} {C} {k} {Wx} {e} K h => by
    obtain ⟨_, _, args, _, _, _, _, _, _, h7, h8⟩ := rng_shape (b := false) h
    have := chkL_len h7
    rcases h8 with h8 | h8 <;> rw [h8] at this <;> cases this
  | .trng (_ :: _ :: _ :: _) => both rfl fun {O} {X} {C} {k} {Wx} {e} K h => by
    obtain ⟨_, _, args, _, _, _, _, _, _, h7, h8⟩ := rng_shape (b := false) h
    have := chkL_len h7
    rcases h8 with h8 | h8 <;> rw [h8] at this <;> simp at this
  | .isi g us => both rfl fun {O} {X} {C} {k} {Wx} {e} K h => by
    cases e with
    | Call f args kws p =>
      cases f with
      | Name nm p1 =>
        cases kws with
        | cons _ _ => cases args with
          | nil => exact nof h
          | cons x args => cases args with
            | nil => exact nof h
            | cons ty args => cases args <;> exact nof h
        | nil =>
          cases args with
          | nil => exact nof h
          | cons x args =>
            cases args with
            | nil => exact nof h
            | cons ty args =>
              cases args with
              | cons _ _ => exact nof h
              | nil =>
                have h' : (decide (nm = "isinstance") && k.gl nm && chkE k g x && noStar x && chkTy k us ty) = true := h
                simp only [Bool.and_eq_true, decide_eq_true_eq] at h'
                obtain ⟨⟨⟨⟨rfl, h1⟩, h2⟩, h3⟩, h4⟩ := h'
                have g1 := (K.gl h1).1
                have m1 := K.mg "isinstance" (by decide)
                have hx := bor_of K h2 ((soundP g).1 K h2)
                cases ty with
                | Name T p2 =>
                  have h5 : chkTyN k us [.Name T p2] = true := h4
                  cases us with
                  | nil => exact nof h5
                  | cons U us =>
                    cases us with
                    | cons _ _ =>
                      have h6 : (decide ((U, T) ∈ tyTab) && k.gl T && false) = true := h5
                      simp at h6
                    | nil =>
                      have h6 : (decide ((U, T) ∈ tyTab) && k.gl T && true) = true := h5
                      simp only [Bool.and_eq_true, decide_eq_true_eq, and_true] at h6
                      obtain ⟨q1, q2, q3, q4⟩ := tyTab_ok _ h6.1
                      have hn : T ≠ "__name__" := fun z => by rw [z] at q3; simp at q3
                      exact se_isi1 K.hK g1 m1 hx (se_tyn (K.gl h6.2).1 (K.mg _ q2) q1 hn q4) (star1 h3) (by rfl) (by rfl)
                | Tuple ts q p2 =>
                  have h5 : (chkTyN k us ts && !us.isEmpty && decide (us.length ≤ 9)) = true := h4
                  simp only [Bool.and_eq_true, decide_eq_true_eq] at h5
                  obtain ⟨⟨h6, h7⟩, h8⟩ := h5
                  exact se_isiT K.hK (fun z => by rw [z] at h7; cases h7) (by rw [sizeLine_eq]; omega) g1 m1 hx (sound_ty K h6).1 (star1 h3)
                | _ => exact nof h4
      | _ => exact nof h
    | _ => exact nof h
  | .lc elt [.mk own t it cs] => both rfl fun {O} {X} {C} {k} {Wx} {e} K h => re_of_rf (lc1_s ((soundP elt).1) (soundI it) (soundT cs) K h)
  | .lc elt [.mk own t it cs, .mk own1 t1 it1 cs1] => both rfl fun {O} {X} {C} {k} {Wx} {e} K h => re_of_rf (lc2_s ((soundP elt).1) (soundI it) (soundT cs) (soundI it1) (soundT cs1) K h)
  | .lc elt [] => both rfl fun {O} {X} {C} {k} {Wx} {e} K h => by cases e <;> exact nof h
  | .lc elt (_ :: _ :: _ :: _) => both rfl fun {O} {X} {C} {k} {Wx} {e} K h => by cases e <;> exact nof h
  | .exci i us => both rfl fun {O} {X} {C} {k} {Wx} {e} K h => by
    cases e with
    | Call f args kws pos =>
      cases f with
      | Name g p =>
        cases kws with
        | cons _ _ => cases args with
          | nil => exact nof h
          | cons x args =>
            cases x with
            | Name x q => cases args with
              | nil => exact nof h
              | cons te args => cases args <;> exact nof h
            | _ => exact nof h
        | nil => cases args with
          | nil => exact nof h
          | cons x args =>
            cases x with
            | Name x q => cases args with
              | nil => exact nof h
              | cons te args => cases args with
                | cons _ _ => exact nof h
                | nil =>
                  have h' : (k.hot && decide (g = "isinstance") && k.gl g && k.vis i x && chkCl k us te) = true := h
                  simp only [Bool.and_eq_true, decide_eq_true_eq] at h'
                  obtain ⟨⟨⟨⟨h1, rfl⟩, h2⟩, h3⟩, h4⟩ := h'
                  obtain ⟨q1, q2, q3, q4⟩ := K.vis h3
                  exact K.exi h1 i x us te p q pos q1 q2 q3 q4 (K.gl h2).1 (cls_of K h4)
            | _ => exact nof h
      | _ => exact nof h
    | _ => exact nof h
  | .excf i f => both rfl fun {O} {X} {C} {k} {Wx} {e} K h => by
    cases e with
    | Attribute y g p =>
      cases y with
      | Name x p1 =>
        have h' : (decide (f = g) && k.hot && k.vis i x && decide (f ∈ k.flds)) = true := h
        simp only [Bool.and_eq_true, decide_eq_true_eq] at h'
        obtain ⟨⟨⟨rfl, h1⟩, h2⟩, h3⟩ := h'
        obtain ⟨q1, q2, q3, q4⟩ := K.vis h2
        exact K.exf h1 i x f p1 p h3 q1 q2 q3 q4
      | _ => exact nof h
    | _ => exact nof h
  | .cget c s => both rfl fun {O} {X} {C} {k} {Wx} {e} K h => by
    cases e with
    | Subscript x y p =>
      cases y with
      | Constant v q p1 =>
        cases v with
        | str t =>
          have h' : (decide (s = t) && chkE k c x) = true := h
          simp only [Bool.and_eq_true, decide_eq_true_eq] at h'
          obtain ⟨rfl, h1⟩ := h'
          exact se_cget K.un ((soundP c).1 K h1)
        | _ => exact nof h
      | _ => exact nof h
    | _ => exact nof h
  | .disp ks es => both rfl fun {O} {X} {C} {k} {Wx} {e} K h => by
    cases e with
    | Dict keys xs p =>
      have h' : (strKeys ks keys && chkL k es xs && decide (keys.length = xs.length) && decide (ks ≠ []) && decide (ks.length ≤ 15)) = true := h
      simp only [Bool.and_eq_true, decide_eq_true_eq] at h'
      obtain ⟨⟨⟨⟨h1, h2⟩, h3⟩, h4⟩, h5⟩ := h'
      exact se_disp h1 h3 h4 h5 (pairs_s es K h1 h2)
    | _ => exact nof h
  | .chain3 op op2 op3 a b c d => ⟨fun {O} {X} {C} {k} {Wx} {e} K h => by
    obtain ⟨x, y, z, u, p, rfl, h1, h2, h3, h4, h5⟩ := chain3_shape h
    exact se_chain3 K.hK K.un (bor_of K h1 ((soundP a).1 K h1)) (bor_of K h2 ((soundP b).1 K h2)) (bor_of K h3 ((soundP c).1 K h3)) (bor_of K h4 ((soundP d).1 K h4)) (noSet_marks h5), fun {O} {X} {C} {k} {Wx} {e} K h hi => by
    obtain ⟨x, y, z, u, p, rfl, h1, h2, h3, h4, h5⟩ := chain3_shape h
    exact st_chain3 K.hK K.un (bor_of K h1 ((soundP a).1 K h1)) (bor_of K h2 ((soundP b).1 K h2)) (bor_of K h3 ((soundP c).1 K h3)) (bor_of K h4 ((soundP d).1 K h4)) (noSet_marks h5)⟩
  | .get2 a i d => both rfl fun {O} {X} {C} {k} {Wx} {e} K h => by
    obtain ⟨x, ap, y, z, cp, rfl, h1, h2, h3, h4, h5, h6, h7⟩ := get2_shape h
    have s1 := star1 (es := [z]) h5 (env := X.env)
    have s2 := star1 (es := []) h7 (env := X.env)
    exact se_get2 K.un (bor_of K h3 ((soundP a).1 K h3)) ((soundP i).1 K h4) ((soundP d).1 K h6) ⟨base_of h2, by rw [s1, s2]; rfl, h1, by rw [s1, s2]; rfl⟩
  | .ddsp ks vs => both rfl fun {O} {X} {C} {k} {Wx} {e} K h => by
    cases e with
    | Dict keys xs p =>
      have h' : (chkKs k ks keys && chkL k vs xs && decide (keys.length = xs.length) && decide (ks ≠ []) && decide (ks.length ≤ 15)) = true := h
      simp only [Bool.and_eq_true, decide_eq_true_eq] at h'
      obtain ⟨⟨⟨⟨h1, h2⟩, h3⟩, h4⟩, h5⟩ := h'
      obtain ⟨q1, q2, q3⟩ := sound_ps (pos := p) (O := O) (Wx := Wx) K (soundA ks) (soundA vs) h1 h2 h3
      exact se_ddsp q1 q2 h3 (fun z => by rw [z] at q3; exact h4 (List.length_eq_zero_iff.mp q3)) (by rw [evl_len]; exact h5) (by rw [← q3]; exact h5)
    | _ => exact nof h
  | .dcomp ke ve (.mk own t it cs) => both rfl fun {O} {X} {C} {k} {Wx} {e} K h => dcomp_s ((soundP ke).1) ((soundP ve).1) (soundI it) (soundT cs) K h
theorem soundA : ∀ (gs : List E), AllS Y gs
  | [] => .nil
  | g :: gs => .cons (soundP g).1 (soundA gs)
theorem pairs_s : ∀ (gs : List E) {O : Own} {X : Cx} {C : Ctx} {k : Ck} {Wx : WX} {ks : List Str} {keys : List (Option Expr)} {xs : List Expr} {pos : Pos}, XOk Y O C Wx k X → strKeys ks keys = true → chkL k gs xs = true → PairsOk Y O Wx X pos ks keys xs (seqM (evl C gs))
  | [], O, X, C, k, Wx, ks, keys, xs, pos, K, h1, h => by
    cases xs with
    | nil => exact pairs_nil h1
    | cons _ _ => exact nof h
  | g :: gs, O, X, C, k, Wx, ks, keys, xs, pos, K, h1, h => by
    cases xs with
    | nil => exact nof h
    | cons x xs =>
      have h' : (chkE k g x && noStar x && chkL k gs xs) = true := h
      simp only [Bool.and_eq_true] at h'
      cases keys with
      | nil => exact pairs_none h1
      | cons q keys =>
        obtain ⟨s, kr, j, pp, rfl, rfl, h2⟩ := strKeys_cons h1
        exact pairs_cons ((soundP g).1 K h'.1.1) (pairs_s gs K h2 h'.2)
theorem soundL : ∀ (gs : List E), SndL Y gs
  | [], O, X, C, k, Wx, xs, K, h => by
    cases xs with
    | nil => exact sa_nil
    | cons _ _ => exact nof h
  | g :: gs, O, X, C, k, Wx, xs, K, h => by
    cases xs with
    | nil => exact nof h
    | cons x xs =>
      have h' : (chkE k g x && noStar x && chkL k gs xs) = true := h
      simp only [Bool.and_eq_true] at h'
      exact sa_cons ((soundP g).1 K h'.1.1) (soundL gs K h'.2) (star1 h'.1.2)
theorem soundLB : ∀ (gs : List E), SndLB Y gs
  | [], O, X, C, k, Wx, xs, K, h => by
    cases xs with
    | nil => exact sb_nil
    | cons _ _ => exact nof h
  | g :: gs, O, X, C, k, Wx, xs, K, h => by
    cases xs with
    | nil => exact nof h
    | cons x xs =>
      have h' : (chkE k g x && noStar x && chkL k gs xs) = true := h
      simp only [Bool.and_eq_true] at h'
      exact sb_cons (bor_of K h'.1.1 ((soundP g).1 K h'.1.1)) (soundLB gs K h'.2) (star1 h'.1.2)
theorem soundO : ∀ (g : Option E) {O : Own} {X : Cx} {C : Ctx} {k : Ck} {Wx : WX} {e : Option Expr}, XOk Y O C Wx k X → chkO k g e = true → PO X e (RO Y O Wx fun δ => optM (evo C g) δ)
  | none, O, X, C, k, Wx, e, K, h => by
    cases e with
    | none => exact so_none
    | some _ => exact nof h
  | some g, O, X, C, k, Wx, e, K, h => by
    cases e with
    | none => exact nof h
    | some e => exact so_some ((soundP g).1 K (show chkE k g e = true from h))
theorem soundW : ∀ (gs : List E) {O : Own} {X : Cx} {C : Ctx} {k : Ck} {Wx : WX} {cj : Bool} {xs : List Expr} {pos : Pos}, XOk Y O C Wx k X → chkL k gs xs = true → xs ≠ [] → PE X (.BoolOp (if cj then .And else .Or) xs pos) (RE Y O Wx (seqW cj (evl C gs)))
  | [], O, X, C, k, Wx, cj, xs, pos, K, h, hne => by
    cases xs with
    | nil => exact absurd rfl hne
    | cons _ _ => exact nof h
  | g :: gs, O, X, C, k, Wx, cj, xs, pos, K, h, hne => by
    cases xs with
    | nil => exact absurd rfl hne
    | cons x xs =>
      have h' : (chkE k g x && noStar x && chkL k gs xs) = true := h
      simp only [Bool.and_eq_true] at h'
      have hx := (soundP g).1 K h'.1.1
      cases gs with
      | nil =>
        cases xs with
        | nil => exact se_one hx
        | cons _ _ => exact nof h'.2
      | cons g2 gs =>
        cases xs with
        | nil => exact nof h'.2
        | cons y ys =>
          have hr := soundW (g2 :: gs) (cj := cj) (pos := pos) K h'.2 (by simp)
          cases cj with
          | true => exact se_and K.hK hx hr
          | false => exact se_or K.hK hx hr
theorem soundWT : ∀ (gs : List E) {O : Own} {X : Cx} {C : Ctx} {k : Ck} {Wx : WX} {cj : Bool} {xs : List Expr} {pos : Pos}, XOk Y O C Wx k X → chkL k gs xs = true → xs ≠ [] → xs.all noIf = true → PW X (.BoolOp (if cj then .And else .Or) xs pos) (RT Y O Wx fun δ => M.bind (seqW cj (evl C gs) δ) fun d => M.of (truthD d))
  | [], O, X, C, k, Wx, cj, xs, pos, K, h, hne, hi => by
    cases xs with
    | nil => exact absurd rfl hne
    | cons _ _ => exact nof h
  | g :: gs, O, X, C, k, Wx, cj, xs, pos, K, h, hne, hi => by
    cases xs with
    | nil => exact absurd rfl hne
    | cons x xs =>
      have h' : (chkE k g x && noStar x && chkL k gs xs) = true := h
      simp only [Bool.and_eq_true] at h'
      rw [List.all_cons] at hi
      obtain ⟨i1, i2⟩ := Bool.and_eq_true_iff.mp hi
      have hx := (soundP g).2 K h'.1.1 i1
      cases gs with
      | nil =>
        cases xs with
        | nil => exact sw_one rfl hx
        | cons _ _ => exact nof h'.2
      | cons g2 gs =>
        cases xs with
        | nil => exact nof h'.2
        | cons y ys =>
          have hr := soundWT (g2 :: gs) (cj := cj) (pos := pos) K h'.2 (by simp) i2
          have e : (fun δ => M.bind (seqW cj (evl C (g :: g2 :: gs)) δ) fun d => M.of (truthD d)) = fun δ => M.bind (M.bind (ev C g δ) fun d => M.of (truthD d)) fun b => if b = cj then M.bind (seqW cj (evl C (g2 :: gs)) δ) (fun d => M.of (truthD d)) else M.pure (!cj) := by
            funext δ
            exact bop_truth cj g (ev C g) (g2, ev C g2) (evl C gs) δ
          rw [e]
          cases cj with
          | true => exact sw_and hx hr
          | false => exact sw_or hx hr
theorem soundI : ∀ (g : Wk), SndI Y g
  | .seq g, bor, O, X, C, k, Wx, tg, e, K, h => by
    have h' : (chkE k g e && noSet e) = true := h
    simp only [Bool.and_eq_true] at h'
    exact si_seq K.hK (bor_at bor K h'.1 ((soundP g).1 K h'.1))
  | .rng es, bor, O, X, C, k, Wx, tg, e, K, h => rng_s (soundL es) bor K h
  | .enum g, bor, O, X, C, k, Wx, tg, e, K, h => enum_s (soundP g).1 bor K h
  | .zip a b, bor, O, X, C, k, Wx, tg, e, K, h => zip_s (soundP a).1 (soundP b).1 bor K h
  | .rev g, bor, O, X, C, k, Wx, tg, e, K, h => rev_s (soundP g).1 bor K h
  | .revrng _, bor, O, X, C, k, Wx, tg, e, K, h => by cases e <;> exact nof h
theorem soundT : ∀ (gs : List E), SndT Y gs
  | [], O, X, C, k, Wx, xs, K, h, hl, hi => by
    cases xs with
    | nil => exact sts_nil
    | cons _ _ => exact nof h
  | g :: gs, O, X, C, k, Wx, xs, K, h, hl, hi => by
    cases xs with
    | nil => exact nof h
    | cons x xs =>
      have h' : (chkE k g x && noStar x && chkL k gs xs) = true := h
      simp only [Bool.and_eq_true] at h'
      rw [List.all_cons] at hi
      obtain ⟨i1, i2⟩ := Bool.and_eq_true_iff.mp hi
      cases xs with
      | cons _ _ => rw [List.length_cons, List.length_cons] at hl; omega
      | nil =>
        cases gs with
        | cons _ _ => exact nof h'.2
        | nil => exact sts_one (tb_of K h'.1.1 ((soundP g).2 K h'.1.1 i1))
end
end Sw

set_option Elab.async false
set_option linter.all false
set_option maxRecDepth 100000
set_option maxHeartbeats 4000000
/-! Sw, part U: expressions that make a list that nobody else has; several values. -/
namespace Sw
open PySem PySem.Spec PyProof.Rows L2 LamX
variable {Y : Cfg} {O : Own} {Wx : WX} {X : Cx} {C : Ctx} {k : Ck} {pos : Pos}
theorem pe_bad {e : Expr} : PE X e (RF Y O Wx fun _ => M.bad) := ⟨fun pins s σ H Q I ⟨δ, st, Z, ms, R, P⟩ => (show False from P).elim⟩
theorem bi_shape {b : BI} {es : List E} {e : Expr} (h : chkE k (.bi b es) e = true) : ∃ p1 x xs p, e = .Call (.Name b.nm p1) (x :: xs) [] p ∧ k.gl b.nm = true ∧ chkL k es (x :: xs) = true := by
  cases e with
  | Call f args kws p =>
    cases f with
    | Name g p1 =>
      cases kws with
      | cons _ _ => exact nof h
      | nil =>
        have h' : (decide (g = b.nm) && k.gl g && (b.hot || !k.hot) && chkL k es args && !args.isEmpty) = true := h
        simp only [Bool.and_eq_true, decide_eq_true_eq, Bool.or_eq_true] at h'
        obtain ⟨⟨⟨⟨rfl, h1⟩, h2⟩, h3⟩, h4⟩ := h'
        cases args with
        | nil => cases h4
        | cons x xs => exact ⟨p1, x, xs, p, rfl, h1, h3⟩
    | _ => exact nof h
  | _ => exact nof h
theorem bi_fresh {b : BI} {es : List E} {e : Expr} (hb : b = .list ∨ b = .sorted) (K : XOk Y O C Wx k X) (h : chkE k (.bi b es) e = true) : PE X e (RF Y O Wx fun δ => M.bind (seqB (evl C es) δ) fun ds => M.of (biD b ds)) := by
  obtain ⟨p1, x, xs, p, rfl, h1, h3⟩ := bi_shape h
  have hs := chkL_star h3
  exact sf_bi K.hK b hb (K.gl h1).1 (K.mg _ (bi_name b)) (soundLB es K h3) (star1 (hs x List.mem_cons_self)) (starAll fun y hy => hs y (List.mem_cons_of_mem _ hy))
theorem rev_shape {a : E} {e : Expr} (h : chkE k (.rev a) e = true) : ∃ x q p1 p2 p3 p, e = backE x q p1 p2 p3 p ∧ chkE k a x = true := by
  cases e with
  | Subscript x y p =>
    cases y with
    | Slice l u st p3 =>
      cases l with
      | some _ => exact nof h
      | none =>
        cases u with
        | some _ => exact nof h
        | none =>
          cases st with
          | none => exact nof h
          | some z =>
            cases z with
            | UnaryOp o w p2 =>
              cases o with
              | USub =>
                cases w with
                | Constant c q p1 =>
                  cases c with
                  | int j =>
                    have h' : (decide (j = 1) && chkE k a x) = true := h
                    simp only [Bool.and_eq_true, decide_eq_true_eq] at h'
                    obtain ⟨rfl, h1⟩ := h'
                    exact ⟨x, q, p1, p2, p3, p, rfl, h1⟩
                  | _ => exact nof h
                | _ => exact nof h
              | _ => exact nof h
            | _ => exact nof h
    | _ => exact nof h
  | _ => exact nof h
theorem soundF : ∀ (g : E) {O : Own} {X : Cx} {C : Ctx} {k : Ck} {Wx : WX} {e : Expr}, XOk Y O C Wx k X → chkE k g e = true → PE X e (RF Y O Wx (evf C g)) := by
  intro g O X C k Wx e K h
  cases g with
  | lst es =>
    cases e with
    | List xs p => exact sf_lst (soundL es K (show chkL k es xs = true from h))
    | _ => exact nof h
  | lc elt gs =>
    match gs, h with
    | [], h => cases e <;> exact nof h
    | [.mk own t it cs], h => exact lc1_s (soundP elt).1 (soundI it) (soundT cs) K h
    | [.mk own t it cs, .mk own1 t1 it1 cs1], h => exact lc2_s (soundP elt).1 (soundI it) (soundT cs) (soundI it1) (soundT cs1) K h
    | _ :: _ :: _ :: _, h => cases e <;> exact nof h
  | lrng es =>
    match es, h with
    | [a], h => exact lrng1_s (soundP a).1 K h
    | [a, b], h => exact lrng2_s (soundP a).1 (soundP b).1 K h
    | [], h =>
      obtain ⟨_, _, args, _, _, _, _, _, _, h7, h8⟩ := rng_shape (b := true) h
      have := chkL_len h7
      rcases h8 with h8 | h8 <;> rw [h8] at this <;> cases this
    | _ :: _ :: _ :: _, h =>
      obtain ⟨_, _, args, _, _, _, _, _, _, h7, h8⟩ := rng_shape (b := true) h
      have := chkL_len h7
      rcases h8 with h8 | h8 <;> rw [h8] at this <;> simp at this
  | bi b es =>
    cases b with
    | list => exact bi_fresh (.inl rfl) K h
    | sorted => exact bi_fresh (.inr rfl) K h
    | _ => exact pe_bad
  | bin op a b =>
    have key : ∀ {o2 : Operator}, op = o2 → (o2 = .Add ∨ o2 = .Mult) → PE X e (RF Y O Wx fun δ => M.bind (borM a (ev C a) δ) fun x => M.bind (borM b (ev C b) δ) fun y => M.of (binF o2 x y)) := fun e1 ho => by
      subst e1
      cases e with
      | BinOp x o y p =>
        have h' : (decide (op = o) && chkE k a x && chkE k b y) = true := h
        simp only [Bool.and_eq_true, decide_eq_true_eq] at h'
        obtain ⟨⟨rfl, h1⟩, h2⟩ := h'
        exact sf_bin ho (bor_of K h1 ((soundP a).1 K h1)) (bor_of K h2 ((soundP b).1 K h2))
      | _ => exact nof h
    cases op with
    | Add => exact key rfl (.inl rfl)
    | Mult => exact key rfl (.inr rfl)
    | _ => exact pe_bad
  | sl a lo hi =>
    cases e with
    | Subscript x y p =>
      cases y with
      | Slice l u st p2 =>
        cases st with
        | none =>
          have h' : (chkE k a x && chkO k lo l && chkO k hi u) = true := h
          simp only [Bool.and_eq_true] at h'
          obtain ⟨⟨h1, h2⟩, h3⟩ := h'
          exact sf_slice (bor_of K h1 ((soundP a).1 K h1)) (soundO lo K h2) (soundO hi K h3)
        | some _ => exact nof h
      | _ => exact nof h
    | _ => exact nof h
  | rev a =>
    obtain ⟨x, q, p1, p2, p3, p, rfl, h1⟩ := rev_shape h
    exact sf_back (bor_of K h1 ((soundP a).1 K h1))
  | call f es => exact rf_of_rc (call_s (soundL es) K h)
  | lam f b => exact rf_of_rc (lam_s (soundP b).1 K h)
  | _ => exact pe_bad
/-- several values: those marked are new lists -/
theorem soundS : ∀ (is : List (Bool × Nat)) (gs : List E) {O : Own} {X : Cx} {C : Ctx} {k : Ck} {Wx : WX} {xs : List Expr}, XOk Y O C Wx k X → chkL k gs xs = true → is.length = gs.length → PA X xs (RPs Y O Wx (seqS C is gs))
  | [], [], O, X, C, k, Wx, xs, K, h, _ => by
    cases xs with
    | nil => exact sS_nil
    | cons _ _ => exact nof h
  | (b, i) :: is, g :: gs, O, X, C, k, Wx, xs, K, h, hl => by
    cases xs with
    | nil => exact nof h
    | cons x xs =>
      have h' : (chkE k g x && noStar x && chkL k gs xs) = true := h
      simp only [Bool.and_eq_true] at h'
      have hr := soundS is gs K h'.2 (by simpa using hl)
      cases b with
      | true => exact sS_ow (soundF g K h'.1.1) hr (star1 h'.1.2)
      | false => exact sS_sh ((soundP g).1 K h'.1.1) hr (star1 h'.1.2)
  | [], _ :: _, _, _, _, _, _, _, _, _, hl => by cases hl
  | _ :: _, [], _, _, _, _, _, _, _, _, hl => by cases hl
end Sw

set_option Elab.async false
set_option linter.all false
set_option maxRecDepth 100000
set_option maxHeartbeats 4000000
/-! Sw, part V: the look at statements; what the interpreter says of them holds of the text. -/
namespace Sw
open PySem PySem.Spec PyProof.Rows L2 LamX
/-- an own error that may be made by its name: its class, its fields in the order of the arguments -/
def ExcK (P : Program) (w : World) (K : PySem.W.Frag) (mg : Str → Option Value) (base : Heap) (j : Nat) (c : Str) (C : Addr) (fs : List Str) : Prop :=
  ∀ (X : Cx), X.prog = P → X.w = w → X.K = K → X.mg = mg → X.base = base → X.calm = true → Room j X.A → Gl X c → (c == ("__debug__" : Str)) = false → ∀ (x : Expr) (xs : List Expr) (t : TA) (p pos : Pos), PA X (x :: xs) t →
    starEach (x :: xs) X.env = (false, eval x X.env) :: starEach xs X.env → (backTo pos (starEach xs X.env)).any (·.1) = false →
    PMk X (.Call (.Name c p) (x :: xs) [] pos) (fun σ H Q => t σ H fun vs H1 => vs.length = fs.length ∧ ∀ dd, H1 dd = none → Q (.ref C) (some dd) (upd H1 dd (.xd (fs.zip vs))))
structure SOk (Y : Cfg) (O : Own) (C : Ctx) (Wx : WX) (k : Ck) (X : Cx) : Prop where
  x : XOk Y O C Wx k X
  kd : k.sc.kind = .function
  same : k.st = k.sc
  stk : X.stack = X.env :: X.outer
  fr : X.env.frame = some X.env.locals
  pa : k.hot = false → PassesOwn (model X.prog X.w) X.A X.env X.xe
  sub : ∀ c h b, C.sub c h = some b → PySem.W.exmOne X.K (.ref (Y.ca c)) (.ref (Y.ca h)) = some b ∧ XfC X.K (Y.ca c) ∧ (∀ f ∈ k.flds, PySem.W.findIn X.K (.ref (Y.ca c)) f = some none) ∧ XiC X.K (Y.ca c) ∧ PySem.W.kitOne X.K (.ref (Y.ca c)) (.ref (Y.ca h)) = some b
  hnd : ∀ h ∈ k.hns, X.mg h = some (.ref (Y.ca h))
  exk : k.hot = false → ∀ c ∈ k.exs, ∃ j, ExcK X.prog X.w X.K X.mg X.base j c (Y.ca c) (C.fields c) ∧ Room j X.A
  thk : k.tk = true → ∀ (pn : List (Addr × Obj)) (xe : Value → Shared → Prop) (W : WX) x p1 p2, Takes (X.tr pn xe) W → X.N[0]? = some x → Vis X.env.scope x → PE (X.tr pn xe) (.Call (.Name x p1) [] [] p2) (RE Y O W (callvM C 0))
def Ck.hotted (k : Ck) : Ck := { k with hot := true, full := false, tk := false }
variable {Y : Cfg} {O : Own} {Wx : WX} {X : Cx} {C : Ctx} {k : Ck} {pos : Pos}
theorem SOk.tr (K : SOk Y O C Wx k X) (hh : k.hot = false) {pn : List (Addr × Obj)} {xe : Value → Shared → Prop} {W : WX} (tk : Takes (X.tr pn xe) W) (pa : PassesOwn (model X.prog X.w) X.A X.env xe) : SOk Y O C W k (X.tr pn xe) where
  x := {
    hK := K.x.hK, nn := K.x.nn, nd := K.x.nd, sc := K.x.sc, un := K.x.un, gd := K.x.gd, cal := K.x.cal, mg := K.x.mg, glob := K.x.glob, st := K.x.st, tk := tk, call := K.x.call
    exf := fun h => by rw [hh] at h; cases h
    exi := fun h => by rw [hh] at h; cases h
    thk := fun h x p1 p2 h1 h2 => K.thk h pn xe W x p1 p2 tk h1 h2
    lam := fun h1 h2 => ⟨(K.x.lam h1 h2).ok⟩ }
  kd := K.kd
  same := K.same
  stk := K.stk
  fr := K.fr
  pa := fun _ => pa
  sub := K.sub
  hnd := K.hnd
  exk := K.exk
  thk := fun h pn' xe' W' x p1 p2 tk' => K.thk h pn' xe' W' x p1 p2 tk'
theorem SOk.suite (K : SOk Y O C Wx k X) (hh : k.hot = false) {a dd : Addr} {oe : Obj} {pn : List (Addr × Obj)} {c h : Str} {b : Bool} (es : C.sub c h = some b) (hz : Zc (.ref (Y.ca c)) (some dd) oe) (hf : ∃ vs, oe.data = .fields vs) :
    SOk Y (O.see a dd c) C W0 k.hotted (X.suite a ((a, oe) :: pn)) where
  x := {
    hK := K.x.hK, nn := K.x.nn, nd := K.x.nd, sc := K.x.sc, un := K.x.un, gd := K.x.gd, cal := rfl, mg := K.x.mg, glob := K.x.glob, st := K.x.st, tk := takes0
    call := fun h => by cases h
    exf := fun _ i x f q pos hfl h1 h2 h3 h4 => se_excf (O := O.see a dd c) (X := X) (K.sub c h b es).2.1 ((K.sub c h b es).2.2.1 f hfl) hz hf h1 h2 h3 h4 (by rfl)
    exi := fun _ i x us te p q pos h1 h2 h3 h4 hg ht => se_exci (O := O.see a dd c) (X := X) rfl (K.sub c h b es).2.1 (K.sub c h b es).2.2.2.1 hz hf (fun h' b' e' => (K.sub c h' b' e').2.2.2.2) h1 h2 h3 h4 hg (K.x.mg _ (by decide)) (by
      rcases ht with ⟨u, p1, rfl, rfl, hu, hgu, hdu⟩ | ⟨xs, k', p1, rfl, hl, hc⟩
      · exact .inl ⟨u, rfl, pe_glob (X := X.suite a ((a, oe) :: pn)) hgu (K.hnd u hu) rfl hdu, p1, rfl⟩
      · exact .inr ⟨xs, k', p1, rfl, hl, clCs_pa (X := X.suite a ((a, oe) :: pn)) (fun u hu => K.hnd u hu) hc⟩)
    thk := fun h => by cases h
    lam := fun h => by cases h }
  kd := K.kd
  same := K.same
  stk := K.stk
  fr := K.fr
  pa := fun h => by cases h
  sub := K.sub
  hnd := K.hnd
  exk := fun h => by cases h
  thk := fun h => by cases h
/-! ### stores -/
def swapB (k : Ck) (y : Str) (p : Pos) : Expr → Bool
  | .ListComp _ _ s q => (k.sc.names.lookup y == some .local) && p.line == q.line && !(s.names.any fun z => z.1 == y && (z.2 == .local || z.2 == .cell))
  | .SetComp .. => true
  | .DictComp _ _ _ s q => (k.sc.names.lookup y == some .local) && p.line == q.line && !(s.names.any fun z => z.1 == y && (z.2 == .local || z.2 == .cell))
  | _ => false
theorem block_fun (h : X.env.scope.kind = .function) : X.env.blockKind = .function := by
  unfold Env.blockKind
  rw [h]
  rfl
theorem swapB_eq (K : SOk Y O C Wx k X) {y : Str} {p : Pos} {ln : Nat} {x : Expr} {g : List Comprehension} {s : Scope} {q : Pos} : swapsWith (.ListComp x g s q) (some (.Name y p)) ln X.env = pure (swapB k y p (.ListComp x g s q)) := by
  have hb := block_fun (X := X) (by rw [K.x.sc]; exact K.kd)
  unfold swapsWith
  dsimp only
  show pure _ = pure _
  congr 1
  rw [hb]
  unfold swapB Env.kindOf
  rw [K.x.sc]
  rfl
theorem swapB_eqD (K : SOk Y O C Wx k X) {y : Str} {p : Pos} {ln : Nat} {x x2 : Expr} {g : List Comprehension} {s : Scope} {q : Pos} : swapsWith (.DictComp x x2 g s q) (some (.Name y p)) ln X.env = pure (swapB k y p (.DictComp x x2 g s q)) := by
  have hb := block_fun (X := X) (by rw [K.x.sc]; exact K.kd)
  unfold swapsWith
  dsimp only
  show pure _ = pure _
  congr 1
  rw [hb]
  unfold swapB Env.kindOf
  rw [K.x.sc]
  rfl
theorem swapB_no (K : SOk Y O C Wx k X) {y : Str} {p : Pos} {ln : Nat} {x : Expr} (h : swapB k y p x = false) : swapsWith x (some (.Name y p)) ln X.env = pure false := by
  cases x with
  | ListComp x g s q => rw [swapB_eq K, h]
  | SetComp _ _ _ _ => cases h
  | DictComp x x2 g s q => rw [swapB_eqD K, h]
  | _ => rfl
/-- name = {..} on one line, the name a local; the dict is locked for good -/
theorem ps_setDc {i : Nat} {y : Str} {py : Pos} {kx vx tg iter : Expr} {ifs : List Expr} {scope : Scope} {own : List (Str × Nat)} {pos spos : Pos} {wi : TI} {g : TG} {tt : TT} {tk tv : TE} (hc : X.calm = true) (hN : X.N.Nodup) (hy : X.N[i]? = some y) (hyl : X.env.scope.names.lookup y = some .local)
    (hsw : swapsWith (.DictComp kx vx [⟨tg, iter, ifs, 0⟩] scope pos) (some (.Name y py)) spos.line X.env = pure true) (hi : PI X tg iter wi) (ok : BlkOk X.N X.env.scope scope own)
    (hg : ∀ (s : Shared) (H : Hp) (C : Addr) (cl : List (Str × Addr)) (fp : List Addr), PG (X.blk s H scope (compEnvC scope cl C X.env) fp) tg g) (ht : ∀ (s : Shared) (H : Hp) (C : Addr) (cl : List (Str × Addr)) (fp : List Addr), PTs (X.blk s H scope (compEnvC scope cl C X.env) fp) ifs tt)
    (hk : ∀ (s : Shared) (H : Hp) (C : Addr) (cl : List (Str × Addr)) (fp : List Addr), PE (X.blk s H scope (compEnvC scope cl C X.env) fp) kx tk) (hv : ∀ (s : Shared) (H : Hp) (C : Addr) (cl : List (Str × Addr)) (fp : List Addr), PE (X.blk s H scope (compEnvC scope cl C X.env) fp) vx tv) (hs : ∀ x, foldedSetIterable iter X.env x = pure x) :
    PS X (.Assign [.Name y py] (.DictComp kx vx [⟨tg, iter, ifs, 0⟩] scope pos) spos) (fun D σ H => tDc wi g tt tk tv (own.map (·.2)) σ H fun x H1 => ∃ a u, x = .ref a ∧ H1 a = some u ∧ Mut (some u) ∧ ∀ od, gName i x σ (upd H1 a (.frz od u)) D.nx) := by
  refine ⟨fun pins s σ H D I h => ?_⟩
  rw [exec_Assign_Name_used _ _ _ _ hsw]
  refine wpAny_bind (wpAny_standAt (wpAny_bind ?_))
  show wpAny _ X.A (do let _ ← comprehension (.DictComp kx vx [⟨tg, iter, ifs, 0⟩] scope pos) scope X.env (firstIterPos [⟨tg, iter, ifs, 0⟩] pos) newDict false (eval iter X.env) (some (assign (.Name y py) X.env))) _ _ s
  refine wpAny_bind (thn (dc_core (Qf := fun _ s' => SP X pins D .next s') hc hN I hi ok hg ht hk hv hs h fun L C s' m H' I' q hn f => ?_) fun _ s' hq => wpAny_pure (wpAny_pure hq))
  show wpAny _ _ (assign (.Name y py) X.env (.ref L)) _ _ _
  refine wpAny_assign_Name (store_ok2 (v := V.ref L) I' hN hy (.inl hyl) rfl (fun s2 I2 ⟨a, sb, ha⟩ => ?_) (.inr hyl))
  obtain ⟨f0, f1, f2, f3, f4, f5⟩ := f
  have haC : C ≠ a := by
    rcases ha with z | z
    · rw [z]; exact f1
    · exact fun e => f4 y a z e.symm
  refine ⟨m, hn.sameBut sb haC, fun h3 sb3 => ?_⟩
  have I3 := I2.turned (t' := s2.toks) (fun b o hb e => (sb3.2 b hb).trans e) f0 f1 f3 f4 f5
  obtain ⟨b, u, _, hb, mu, q⟩ := q
  obtain ⟨od, I4⟩ := I3.lock hb mu
  exact ⟨_, _, I4, q od⟩
theorem set_dc (K : SOk Y O C Wx k X) {i : Nat} {y : Str} {py : Pos} {ke ve : E} {own : List Nat} {t : T} {it : Wk} {cs : List E} {e : Expr} (hi : X.N[i]? = some y) (h : chkE k (.dcomp ke ve (.mk own t it cs)) e = true) (hsw : swapB k y py e = true) :
    PS X (.Assign [.Name y py] e pos) (RS Y O Wx fun δ => M.at (ev C (.dcomp ke ve (.mk own t it cs)) δ) δ fun d => M.bind (M.of (bindT (.nm i) d δ)) fun δ' => M.pure (.next δ')) := by
  cases e with
  | DictComp kx vx gs scope p =>
    match gs, h, hsw with
    | [], h, _ => exact nof h
    | _ :: _ :: _, h, _ => exact nof h
    | [c], h, hsw =>
      have h' : (!k.hot && chkG k (k.blk scope) true (.mk own t it cs) c && blkC k.N k.sc scope (k.own own) && chkE (k.blk scope) ke kx && chkE (k.blk scope) ve vx) = true := h
      simp only [Bool.and_eq_true, Bool.not_eq_true'] at h'
      obtain ⟨⟨⟨⟨h1, h2⟩, h3⟩, h4⟩, h5⟩ := h'
      obtain ⟨e1, q1, q2, q3, q4, q5, q6⟩ := chkG_of h2
      have hl : X.env.scope.names.lookup y = some .local := by
        rw [K.x.sc]
        have hsw' : ((k.sc.names.lookup y == some .local) && py.line == p.line && !(scope.names.any fun z => z.1 == y && (z.2 == .local || z.2 == .cell))) = true := hsw
        simp only [Bool.and_eq_true] at hsw'
        exact eq_of_beq hsw'.1.1
      have sw := swapB_eqD K (y := y) (p := py) (ln := pos.line) (x := kx) (x2 := vx) (g := [c]) (s := scope) (q := p)
      rw [show swapB k y py (.DictComp kx vx [c] scope p) = true from hsw] at sw
      rw [e1] at sw ⊢
      have ok : BlkOk X.N X.env.scope scope (k.own own) := by rw [K.x.nn, K.x.sc]; exact blkOk_by h3
      have hc : X.calm = true := by rw [K.x.cal, h1]; rfl
      have := ps_setDc (pos := p) hc (by rw [K.x.nn]; exact K.x.nd) hi hl sw (soundI it true K.x q3) ok (g := GT Y O t) (tt := RT Y O W0 (seqC (evl C cs))) (tk := RE Y O W0 (ev C ke)) (tv := RE Y O W0 (ev C ve)) (fun s H A cl fp => soundT_ (K.x.blk h1 scope s H A cl fp) hc q1)
        (fun s H A cl fp => soundT cs (K.x.blk h1 scope s H A cl fp) q4 q5 q6) (fun s H A cl fp => (soundP ke).1 (K.x.blk h1 scope s H A cl fp) h4) (fun s H A cl fp => (soundP ve).1 (K.x.blk h1 scope s H A cl fp) h5) (fold_it q3)
      rw [own_map] at this
      refine this.imp fun N σ H h => ?_
      have h2 := as_name h
      exact dc_read (Q := fun v H1 => gName i v σ H1 N.nx) q2 h2
  | _ => exact nof h
theorem set_lc1 (K : SOk Y O C Wx k X) {i : Nat} {y : Str} {py : Pos} {elt : E} {own : List Nat} {t : T} {it : Wk} {cs : List E} {e : Expr} (hi : X.N[i]? = some y) (h : chkE k (.lc elt [.mk own t it cs]) e = true) (hsw : swapB k y py e = true) :
    PS X (.Assign [.Name y py] e pos) (tAsg (RF Y O Wx (ev C (.lc elt [.mk own t it cs]))) (gName i)) := by
  cases e with
  | ListComp x gs scope p =>
    cases gs with
    | nil => exact nof h
    | cons c gs =>
      cases gs with
      | cons _ _ => exact nof h
      | nil =>
        have h' : (!k.hot && chkG k (k.blk scope) true (.mk own t it cs) c && blkC k.N k.sc scope (k.own own) && chkE (k.blk scope) elt x) = true := h
        simp only [Bool.and_eq_true, Bool.not_eq_true'] at h'
        obtain ⟨⟨⟨h1, h2⟩, h3⟩, h4⟩ := h'
        obtain ⟨e1, q1, q2, q3, q4, q5, q6⟩ := chkG_of h2
        have hl : X.env.scope.names.lookup y = some .local := by
          rw [K.x.sc]
          have hsw' : ((k.sc.names.lookup y == some .local) && py.line == p.line && !(scope.names.any fun z => z.1 == y && (z.2 == .local || z.2 == .cell))) = true := hsw
          simp only [Bool.and_eq_true] at hsw'
          exact eq_of_beq hsw'.1.1
        have sw := swapB_eq K (y := y) (p := py) (ln := pos.line) (x := x) (g := [c]) (s := scope) (q := p)
        rw [show swapB k y py (.ListComp x [c] scope p) = true from hsw] at sw
        rw [e1] at sw ⊢
        have ok : BlkOk X.N X.env.scope scope (k.own own) := by rw [K.x.nn, K.x.sc]; exact blkOk_by h3
        have hc : X.calm = true := by rw [K.x.cal, h1]; rfl
        have := ps_setLc (pos := p) hc (by rw [K.x.nn]; exact K.x.nd) hi hl sw (soundI it true K.x q3) ok (g := GT Y O t) (tt := RT Y O W0 (seqC (evl C cs))) (te := RE Y O W0 (ev C elt)) (fun s H A cl fp => soundT_ (K.x.blk h1 scope s H A cl fp) hc q1)
          (fun s H A cl fp => soundT cs (K.x.blk h1 scope s H A cl fp) q4 q5 q6) (fun s H A cl fp => (soundP elt).1 (K.x.blk h1 scope s H A cl fp) h4) (fold_it q3)
        rw [own_map] at this
        exact this.imp fun N σ H h => lc_read q2 h
  | _ => exact nof h
theorem set_lc2 (K : SOk Y O C Wx k X) {i : Nat} {y : Str} {py : Pos} {elt : E} {own own1 : List Nat} {t t1 : T} {it it1 : Wk} {cs cs1 : List E} {e : Expr} (hi : X.N[i]? = some y) (h : chkE k (.lc elt [.mk own t it cs, .mk own1 t1 it1 cs1]) e = true) (hsw : swapB k y py e = true) :
    PS X (.Assign [.Name y py] e pos) (tAsg (RF Y O Wx (ev C (.lc elt [.mk own t it cs, .mk own1 t1 it1 cs1]))) (gName i)) := by
  cases e with
  | ListComp x gs scope p =>
    cases gs with
    | nil => exact nof h
    | cons c gs =>
      cases gs with
      | nil => exact nof h
      | cons c1 gs =>
        cases gs with
        | cons _ _ => exact nof h
        | nil =>
          have h' : (!k.hot && chkG k (k.blk scope) true (.mk own t it cs) c && chkG (k.blk scope) (k.blk scope) false (.mk own1 t1 it1 cs1) c1 && (own1.all fun i => decide (i ∈ own)) && blkC k.N k.sc scope (k.own own) && chkE (k.blk scope) elt x) = true := h
          simp only [Bool.and_eq_true, Bool.not_eq_true'] at h'
          obtain ⟨⟨⟨⟨⟨h1, h2⟩, h5⟩, h6⟩, h3⟩, h4⟩ := h'
          obtain ⟨e1, q1, q2, q3, q4, q5, q6⟩ := chkG_of h2
          obtain ⟨e2, r1, r2, r3, r4, r5, r6⟩ := chkG_of h5
          have hl : X.env.scope.names.lookup y = some .local := by
            rw [K.x.sc]
            have hsw' : ((k.sc.names.lookup y == some .local) && py.line == p.line && !(scope.names.any fun z => z.1 == y && (z.2 == .local || z.2 == .cell))) = true := hsw
            simp only [Bool.and_eq_true] at hsw'
            exact eq_of_beq hsw'.1.1
          have sw := swapB_eq K (y := y) (p := py) (ln := pos.line) (x := x) (g := [c, c1]) (s := scope) (q := p)
          rw [show swapB k y py (.ListComp x [c, c1] scope p) = true from hsw] at sw
          rw [e1, e2] at sw ⊢
          have ok : BlkOk X.N X.env.scope scope (k.own own) := by rw [K.x.nn, K.x.sc]; exact blkOk_by h3
          have hc : X.calm = true := by rw [K.x.cal, h1]; rfl
          have B := fun s H A cl fp => K.x.blk h1 scope s H A cl fp
          have := ps_setLc2 (pos := p) hc (by rw [K.x.nn]; exact K.x.nd) hi hl sw (soundI it true K.x q3) ok (vs1 := own1) (fun i hi => by rw [own_map]; exact of_decide_eq_true (List.all_eq_true.mp h6 i hi)) (g := GT Y O t) (tt := RT Y O W0 (seqC (evl C cs))) (te := RE Y O W0 (ev C elt))
            (wi1 := RI false Y O W0 (evi C false it1)) (g1 := GT Y O t1) (tt1 := RT Y O W0 (seqC (evl C cs1))) (fun s H A cl fp => soundT_ (B s H A cl fp) hc q1)
            (fun s H A cl fp => soundT cs (B s H A cl fp) q4 q5 q6) (fun s H A cl fp => soundI it1 false (B s H A cl fp) r3) (fun s H A cl fp => soundT_ (B s H A cl fp) hc r1) (fun s H A cl fp => soundT cs1 (B s H A cl fp) r4 r5 r6) (fun s H A cl fp => (soundP elt).1 (B s H A cl fp) h4)
            (fold_it q3) (fun env => fold_it r3)
          rw [own_map] at this
          exact this.imp fun N σ H h => lc2_read q2 r2 h
  | _ => exact nof h
/-! a, b = x, y: which stores -/
def isStar : Expr → Bool
  | .Starred .. => true
  | _ => false
def swK (k : Ck) (ts vs : List Expr) : Option (Option (List Str)) :=
  if (!(ts.length == 2 || ts.length == 3) || vs.length != ts.length) = true then some none
  else if (vs.any isStar) = true then some none
  else
    let ln := (ts.head?.map (·.pos.line)).getD 0
    let names := ts.filterMap fun e => match e with
      | .Name id pos => if (k.sc.names.lookup id == some .local && pos.line == ln) = true then some id else none
      | _ => none
    if (names.length != ts.length || names.eraseDups.length != names.length) = true then some none
    else if (vs.all (foldedForSure 8)) = true then some none
    else if (vs.all (constantsAlone 8)) = true then none
    else some (some names)
theorem swK_ok (K : SOk Y O C Wx k X) {ts vs : List Expr} {kt k2 : Nat} {pt p2 : Pos} {r : Option (List Str)} (h : swK k ts vs = some r) : swappedStores [.Tuple ts kt pt] (.Tuple vs k2 p2) X.env = pure r := by
  have hb : (X.env.blockKind != .function) = false := by rw [block_fun (X := X) (by rw [K.x.sc]; exact K.kd)]; rfl
  have hk : X.env.kindOf = fun id => k.sc.names.lookup id := by
    funext id
    unfold Env.kindOf
    rw [K.x.sc]
  unfold swappedStores
  unfold swK at h
  dsimp only at h ⊢
  rw [hb, hk, Bool.or_false]
  by_cases c1 : (!(ts.length == 2 || ts.length == 3) || vs.length != ts.length) = true
  · rw [if_pos c1] at h ⊢
    cases h
    rfl
  rw [if_neg c1] at h ⊢
  by_cases c2 : (vs.any isStar) = true
  · rw [if_pos c2] at h
    cases h
    exact if_pos c2
  rw [if_neg c2] at h
  refine (if_neg c2).trans ?_
  generalize hn : (List.filterMap (fun (e : Expr) => match e with
      | .Name id pos => if (k.sc.names.lookup id == some .local && pos.line == (ts.head?.map (·.pos.line)).getD 0) = true then some id else none
      | _ => none) ts) = names at h
  have hn' : (ts.filterMap fun (e : Expr) => match e with
      | .Name id pos => if (k.sc.names.lookup id == some .local && pos.line == (ts.head?.map (·.pos.line)).getD 0) then some id else none
      | _ => none) = names := hn
  by_cases c3 : (names.length != ts.length || names.eraseDups.length != names.length) = true
  · rw [if_pos c3] at h
    cases h
    subst hn'
    exact if_pos c3
  rw [if_neg c3] at h
  by_cases c4 : (vs.all (foldedForSure 8)) = true
  · rw [if_pos c4] at h
    cases h
    subst hn'
    exact (if_neg c3).trans (if_pos c4)
  rw [if_neg c4] at h
  by_cases c5 : (vs.all (constantsAlone 8)) = true
  · rw [if_pos c5] at h
    cases h
  rw [if_neg c5] at h
  cases h
  subst hn'
  exact (if_neg c3).trans ((if_neg c4).trans (if_neg c5))
end Sw

set_option Elab.async false
set_option linter.all false
set_option maxRecDepth 100000
set_option maxHeartbeats 4000000
/-! Sw, part W: statements. -/
namespace Sw
open PySem PySem.Spec PyProof.Rows L2 LamX
def noTup : Expr → Bool
  | .Tuple .. => false
  | _ => true
def noComp : Expr → Bool
  | .ListComp .. => false
  | .SetComp .. => false
  | .DictComp .. => false
  | _ => true
def namesOn (k : Ck) : List (Bool × Nat) → List Expr → Bool
  | [], [] => true
  | (_, i) :: is, .Name x _ :: ts => k.stv i x && namesOn k is ts
  | _, _ => false
def popArg (k : Ck) : Option E → List Expr → Bool
  | none, [] => true
  | some e, [y] => chkE k e y && noStar y
  | _, _ => false
def retoK (k : Ck) : E → Expr → Bool
  | .var i, .Name y _ => k.vis i y
  | .var _, _ => false
  | e, x => chkE k e x
def nameK (k : Ck) : Option Str → Option Nat → Bool
  | none, none => true
  | some y, some i => decide (k.N[i]? = some y) && (k.sc.names.lookup y == some .local)
  | _, _ => false
def chkPop (k : Ck) (i : Nat) (kk : Option E) : Expr → Bool
  | .Call (.Attribute (.Name x _) m ap) args [] cp => decide (m = "pop") && k.vis i x && (ap.endLine == cp.line) && popArg k kk args
  | _ => false
def parK (k : Ck) (is : List (Bool × Nat)) (ts xs : List Expr) : Bool := match swK k ts xs with
  | some none => decide (is.length ≤ 9)
  | some (some _) => (match is, ts, xs with
      | [(_, i), (_, j)], [.Name x _, .Name y _], [_, _] => decide (i ≠ j) && decide (swK k ts xs = some (some [x, y])) && (k.sc.names.lookup x == some .local) && (k.sc.names.lookup y == some .local)
      | _, _, _ => false)
  | none => false
def isDc : E → Bool
  | .dcomp .. => true
  | _ => false
mutual
def chkS (k : Ck) : S → Stmt → Bool
  | .asg (.nm i) e, .Assign [.Name y p] x _ => chkE k e x && k.stv i y && (!swapB k y p x || isDc e)
  | .asg (.tu ts) e, .Assign [.Tuple xs q p] x _ => chkE k e x && noTup x && !k.hot && chkT k (.tu ts) (.Tuple xs q p)
  | .own i e, .Assign [.Name y _] x _ => chkE k e x && k.stv i y
  | .par is es, .Assign [.Tuple ts _ _] (.Tuple xs _ _) _ => !k.hot && chkL k es xs && decide (is.length = es.length) && namesOn k is ts && parK k is ts xs
  | .app i e, .Expr (.Call (.Attribute (.Name x _) m ap) [y] [] cp) _ => decide (m = "append") && k.vis i x && chkE k e y && noStar y && (ap.endLine == cp.line)
  | .pop none i kk, .Expr x _ => chkPop k i kk x
  | .pop (some t) i kk, .Assign [tg] x _ => !k.hot && chkT k t tg && chkPop k i kk x
  | .apppop i j kk, .Expr (.Call (.Attribute (.Name x _) m ap) [y] [] cp) _ => decide (m = "append") && k.vis i x && chkPop k j kk y && (ap.endLine == cp.line)
  | .setix i a e, .Assign [.Subscript (.Name x _) y _] z _ => k.vis i x && chkE k a y && notSl y && chkE k e z
  | .set2 i a b e f, .Assign [.Tuple [.Subscript (.Name x _) y _, .Subscript (.Name x2 _) y2 _] _ _] (.Tuple [z, z2] _ _) _ => !k.hot && decide (x = x2) && k.vis i x && chkE k a y && notSl y && chkE k b y2 && notSl y2 && chkE k e z && noStar z && chkE k f z2 && noStar z2
  | .cset c s e, .Assign [.Subscript x (.Constant (.str t) _ _) _] z _ => decide (s = t) && chkE k c x && chkE k e z
  | .ifs c a b, .If x u v _ => chkE k c x && noIf x && chkSs k a u && chkSs k b v
  | .for t it b, .For tg x u [] _ => !k.hot && chkT k t tg && chkI k (isTup tg) it x && chkSs k b u
  | .while c b, .While x u [] _ => !k.hot && chkE k c x && noIf x && chkSs k b u
  | .ret e, .Return (some x) _ => chkE k e x
  | .reto e, .Return (some x) _ => retoK k e x
  | .retN, .Return none _ => true
  | .raise c es, .Raise (some (.Call (.Name x _) xs [] _)) none _ => !k.hot && decide (c = x) && decide (c ∈ k.exs) && k.gl x && chkL k es xs && !xs.isEmpty
  | .try b hs, .Try u gs [] [] _ => !k.hot && !gs.isEmpty && chkSs k b u && chkHs k hs gs
  | .ex e, .Expr x _ => chkE k e x && noComp x
  | .aug i op e, .AugAssign (.Name x _) o y _ => decide (op = o) && k.stv i x && chkE k e y
  | .ext i e, .Expr (.Call (.Attribute (.Name x _) m ap) [y] [] cp) _ => decide (m = "extend") && k.vis i x && chkE k e y && noStar y && (ap.endLine == cp.line)
  | .pass, .Pass _ => true
  | .brk, .Break _ => true
  | .cont, .Continue _ => true
  | _, _ => false
def chkSs (k : Ck) : List S → List Stmt → Bool
  | [], [] => true
  | .frz _ :: r, xs => chkSs k r xs
  | s :: r, x :: xs => chkS k s x && chkSs k r xs
  | _, _ => false
def chkHs (k : Ck) : List (Str × Option Nat × List S) → List ExceptHandler → Bool
  | [], [] => true
  | (h, n, b) :: r, .ExceptHandler (some (.Name x _)) nm su _ :: gs => decide (x = h) && k.gl x && decide (h ∈ k.hns) && !su.isEmpty && nameK k nm n && chkSs k.hotted b su && chkHs k r gs
  | _, _ => false
end
variable {Y : Cfg} {O : Own} {Wx : WX} {X : Cx} {C : Ctx} {k : Ck} {pos : Pos}
theorem XOk.stv (K : XOk Y O C Wx k X) {i : Nat} {x : Str} (h : k.stv i x = true) : X.N[i]? = some x ∧ Loc X.env.scope x ∧ (X.fn x = true ∨ X.env.scope.names.lookup x = some .local) := by
  unfold Ck.stv at h
  simp only [Bool.and_eq_true, decide_eq_true_eq] at h
  exact ⟨by rw [K.nn]; exact h.1, K.st x h.2⟩
theorem XOk.ndX (K : XOk Y O C Wx k X) : X.N.Nodup := by rw [K.nn]; exact K.nd
theorem XOk.clm (K : XOk Y O C Wx k X) (h : k.hot = false) : X.calm = true := by rw [K.cal, h]; rfl
theorem swaps_sub {e o i : Expr} {p : Pos} {ln : Nat} {env : Env} : swapsWith e (some (.Subscript o i p)) ln env = pure false := by cases e <;> rfl
theorem swaps_none {e : Expr} {ln : Nat} {env : Env} (h : noComp e = true) : swapsWith e none ln env = pure false := by
  cases e <;> first | exact nof h | rfl
theorem swaps_tup {e : Expr} {xs : List Expr} {q : Nat} {p : Pos} {ln : Nat} {env : Env} : swapsWithSole [.Tuple xs q p] e ln env = pure false := by cases e <;> rfl
theorem stores_tup {e : Expr} {xs : List Expr} {q : Nat} {p : Pos} {env : Env} (h : noTup e = true) : swappedStores [.Tuple xs q p] e env = pure none := by
  cases e <;> first | exact nof h | rfl
theorem names_of : ∀ {is : List (Bool × Nat)} {ts : List Expr}, XOk Y O C Wx k X → namesOn k is ts = true → PGs X ts (gNs is) ∧ NoStar ts ∧ ts.length = is.length
  | [], [], K, _ => ⟨sgn_nil, (fun e he => absurd he (by simp)), rfl⟩
  | [], _ :: _, _, h => nof h
  | _ :: _, [], _, h => nof h
  | (b, i) :: is, e :: ts, K, h => by
    cases e with
    | Name x p =>
      have h' : (k.stv i x && namesOn k is ts) = true := h
      obtain ⟨h1, h2⟩ := Bool.and_eq_true_iff.mp h'
      obtain ⟨q1, q2, q3⟩ := names_of K h2
      obtain ⟨r1, r2, r3⟩ := K.stv h1
      exact ⟨sgn_cons K.ndX r1 r2 r3 q1, fun e he v p => (List.mem_cons.mp he).elim (fun q => by rw [q]; exact fun z => by cases z) fun q => q2 e q v p, by rw [List.length_cons, List.length_cons, q3]⟩
    | _ => exact nof h
theorem pop_of {i : Nat} {kk : Option E} {e : Expr} (K : XOk Y O C Wx k X) (h : chkPop k i kk e = true) : PE X e (tPop X.K i (RO Y O Wx fun δ => optM (evo C kk) δ)) ∧ ∃ f as p, e = .Call f as [] p := by
  cases e with
  | Call f args kws p =>
    cases f with
    | Attribute o m ap =>
      cases o with
      | Name x p1 =>
        cases kws with
        | cons _ _ => exact nof h
        | nil =>
          have h' : (decide (m = "pop") && k.vis i x && (ap.endLine == p.line) && popArg k kk args) = true := h
          simp only [Bool.and_eq_true, decide_eq_true_eq] at h'
          obtain ⟨⟨⟨rfl, h1⟩, h2⟩, h3⟩ := h'
          obtain ⟨q1, q2, q3, q4⟩ := K.vis h1
          refine ⟨?_, _, _, _, rfl⟩
          cases kk with
          | none =>
            cases args with
            | nil => exact pe_pop0 q1 q2 q3 q4 h2
            | cons _ _ => exact nof h3
          | some g =>
            cases args with
            | nil => exact nof h3
            | cons y args =>
              cases args with
              | cons _ _ => exact nof h3
              | nil =>
                obtain ⟨g1, g2⟩ := Bool.and_eq_true_iff.mp h3
                exact pe_pop1 q1 q2 q3 q4 h2 ((soundP g).1 K g1) (star1 g2)
      | _ => exact nof h
    | _ => exact nof h
  | _ => exact nof h
/-- a list that nobody else has, stored under a name -/
theorem own_of (K : SOk Y O C Wx k X) {i : Nat} {y : Str} {p : Pos} {g : E} {e : Expr} (h : chkE k g e = true) (hy : k.stv i y = true) : PS X (.Assign [.Name y p] e pos) (tAsg (RF Y O Wx (evf C g)) (gName i)) := by
  obtain ⟨r1, r2, r3⟩ := K.x.stv hy
  cases hs : swapB k y p e with
  | false => exact ps_set K.x.ndX r1 r2 (soundF g K.x h) (swapB_no K hs) r3
  | true =>
    cases g with
    | lc elt gs =>
      match gs, h with
      | [], h => cases e <;> exact nof h
      | [.mk own t it cs], h => exact set_lc1 K r1 h hs
      | [.mk own t it cs, .mk own1 t1 it1 cs1], h => exact set_lc2 K r1 h hs
      | _ :: _ :: _ :: _, h => cases e <;> exact nof h
    | _ =>
      cases e with
      | ListComp _ _ _ _ => exact nof h
      | SetComp _ _ _ _ => exact nof h
      | DictComp _ _ _ _ _ =>
        first
          | exact nof h
          | exact ⟨fun pins s σ H N I q => by obtain ⟨δ, st, Z, ms, R, P⟩ := q; exact (show False from P).elim⟩
      | _ => exact nof hs
theorem raise_of (K : SOk Y O C Wx k X) {c : Str} {es : List E} {xs : List Expr} {p1 p2 : Pos} (hh : k.hot = false) (hc : c ∈ k.exs) (hg : k.gl c = true) (h : chkL k es xs = true) (hne : xs.isEmpty = false) :
    PS X (.Raise (some (.Call (.Name c p1) xs [] p2)) none pos) (RS Y O Wx (exec C (.raise c es))) := by
  cases xs with
  | nil => cases hne
  | cons x xs =>
    have hs := chkL_star h
    obtain ⟨g1, g2⟩ := K.x.gl hg
    obtain ⟨j, F, hr⟩ := K.exk hh c hc
    have mk := F X rfl rfl rfl rfl rfl (K.x.clm hh) hr g1 g2 x xs (RL Y O Wx (seqM (evl C es))) p1 p2 (soundL es K.x h) (star1 (hs x List.mem_cons_self)) (starAll fun y hy => hs y (List.mem_cons_of_mem _ hy))
    refine (ps_raise (K.x.clm hh) K.x.tk mk).imp fun N σ H ⟨δ, st, Z, ms, R, P⟩ => ?_
    have P' : PostS Y O Wx Z ms H N (M.at (seqM (evl C es) δ) δ (fun ds => if ds.length = (C.fields c).length then M.pure (.exc c ((C.fields c).zip ds) δ) else M.bad) st) := P
    refine rs_at R P' fun ds st1 vs H1 Z1 ms1 s1 R1 vds P1 => ?_
    by_cases hl : ds.length = (C.fields c).length
    · rw [if_pos hl] at P1
      have hl2 : vs.length = (C.fields c).length := vds.length.trans hl
      refine ⟨hl2, fun dd hd => ?_⟩
      have s2 := Step.laidZ (o := .xd ((C.fields c).zip vs)) R1.ok hd
      have zipk : ∀ {α : Type} (l : List Str) (m : List α), m.length = l.length → (l.zip m).map (·.1) = l := fun l m e => by rw [List.map_fst_zip (by omega)]
      have zipv : ∀ {α : Type} (l : List Str) (m : List α), m.length = l.length → (l.zip m).map (·.2) = m := fun l m e => by rw [List.map_snd_zip (by omega)]
      refine P1 dd σ _ _ ms1 (s2.z R1.ok) (R1.step s2) ⟨_, upd_same, .inr rfl, ?_, ?_⟩
      · rw [zipk _ _ hl2, zipk _ _ hl]
      · rw [zipv _ _ hl2, zipv _ _ hl]
        exact s2.denL R1.ok vds
    · rw [if_neg hl] at P1
      exact (show False from P1).elim
theorem par_of (K : SOk Y O C Wx k X) {is : List (Bool × Nat)} {es : List E} {ts xs : List Expr} {kt k2 : Nat} {pt p2 : Pos} (hh : k.hot = false) (h1 : chkL k es xs = true) (h2 : is.length = es.length) (h3 : namesOn k is ts = true) (h4 : parK k is ts xs = true) :
    PS X (.Assign [.Tuple ts kt pt] (.Tuple xs k2 p2) pos) (RS Y O Wx (exec C (.par is es))) := by
  have ha := soundS is es (Wx := Wx) (O := O) K.x h1 h2
  unfold parK at h4
  cases hs : swK k ts xs with
  | none => rw [hs] at h4; exact nof h4
  | some r =>
    rw [hs] at h4
    have sw := swK_ok K (kt := kt) (k2 := k2) (pt := pt) (p2 := p2) hs
    cases r with
    | none =>
      obtain ⟨q1, q2, q3⟩ := names_of K.x h3
      exact ss_parT K.x.hK (K.x.clm hh) ha q1 q2 q3 (by have := of_decide_eq_true h4; rw [sizeLine_eq]; omega) sw
    | some l =>
      dsimp only at h4
      match is, ts, xs, h4, h3, ha, sw, hs with
      | [(b1, i), (b2, j)], [.Name x px, .Name y py], [a, b], h4, h3, ha, sw, hs =>
        simp only [Bool.and_eq_true, decide_eq_true_eq] at h4
        obtain ⟨⟨⟨g1, g2⟩, g3⟩, g4⟩ := h4
        have h3' : (k.stv i x && (k.stv j y && true)) = true := h3
        simp only [Bool.and_eq_true, and_true] at h3'
        cases g2
        exact ss_par2 (K.x.clm hh) K.x.ndX (K.x.stv h3'.1).1 (K.x.stv h3'.2).1 g1 (by rw [K.x.sc]; exact eq_of_beq g3) (by rw [K.x.sc]; exact eq_of_beq g4) ha sw
theorem cons_of {g : S} {gs : List S} {O : Own} {X : Cx} {C : Ctx} {k : Ck} {Wx : WX} {xs : List Stmt} (h1 : ∀ {e : Stmt}, SOk Y O C Wx k X → chkS k g e = true → PS X e (RS Y O Wx (exec C g))) (h2 : ∀ {xs : List Stmt}, SOk Y O C Wx k X → chkSs k gs xs = true → PSs X xs (RS Y O Wx (execs C gs)))
    (K : SOk Y O C Wx k X) (eq : ∀ x xs, chkSs k (g :: gs) (x :: xs) = (chkS k g x && chkSs k gs xs)) (e0 : ∀ _ : Unit, chkSs k (g :: gs) [] = false) (h : chkSs k (g :: gs) xs = true) : PSs X xs (RS Y O Wx (execs C (g :: gs))) := by
  cases xs with
  | nil => rw [e0 ()] at h; cases h
  | cons x xs =>
    rw [eq] at h
    obtain ⟨g1, g2⟩ := Bool.and_eq_true_iff.mp h
    exact sss_cons (h1 K g1) (h2 K g2)
theorem set2_shape {i : Nat} {a b f g : E} {e : Stmt} (h : chkS k (.set2 i a b f g) e = true) : ∃ x p1 y q1 x2 p2 y2 q2 kt pt z z2 k2 p3 p, e = .Assign [.Tuple [.Subscript (.Name x p1) y q1, .Subscript (.Name x2 p2) y2 q2] kt pt] (.Tuple [z, z2] k2 p3) p ∧
    (!k.hot && decide (x = x2) && k.vis i x && chkE k a y && notSl y && chkE k b y2 && notSl y2 && chkE k f z && noStar z && chkE k g z2 && noStar z2) = true := by
  cases e with
  | Assign tgs v p =>
    cases tgs with
    | nil => exact nof h
    | cons tg tgs =>
      cases tg with
      | Tuple ts kt pt =>
        cases ts with
        | nil => exact nof h
        | cons t1 ts =>
          cases t1 with
          | Subscript o1 y q1 =>
            cases o1 with
            | Name x p1 =>
              cases ts with
              | nil => exact nof h
              | cons t2 ts =>
                cases t2 with
                | Subscript o2 y2 q2 =>
                  cases o2 with
                  | Name x2 p2 =>
                    cases ts with
                    | cons _ _ => exact nof h
                    | nil =>
                      cases tgs with
                      | cons _ _ => exact nof h
                      | nil =>
                        cases v with
                        | Tuple vs k2 p3 =>
                          cases vs with
                          | nil => exact nof h
                          | cons z vs =>
                            cases vs with
                            | nil => exact nof h
                            | cons z2 vs =>
                              cases vs with
                              | cons _ _ => exact nof h
                              | nil => exact ⟨x, p1, y, q1, x2, p2, y2, q2, kt, pt, z, z2, k2, p3, p, rfl, h⟩
                        | _ => exact nof h
                  | _ => exact nof h
                | _ => exact nof h
            | _ => exact nof h
          | _ => exact nof h
      | _ => exact nof h
  | _ => exact nof h
mutual
theorem soundSt : ∀ (g : S) {O : Own} {X : Cx} {C : Ctx} {k : Ck} {Wx : WX} {e : Stmt}, SOk Y O C Wx k X → chkS k g e = true → PS X e (RS Y O Wx (exec C g))
  | .asg t g, O, X, C, k, Wx, e, K, h => by
    cases e with
    | Assign tgs x p =>
      cases tgs with
      | nil => cases t <;> exact nof h
      | cons tg tgs =>
        cases tgs with
        | cons _ _ => cases t <;> cases tg <;> exact nof h
        | nil =>
          cases t with
          | nm i =>
            cases tg with
            | Name y q =>
              have h' : (chkE k g x && k.stv i y && (!swapB k y q x || isDc g)) = true := h
              simp only [Bool.and_eq_true, Bool.or_eq_true, Bool.not_eq_true'] at h'
              obtain ⟨⟨h1, h2⟩, h3⟩ := h'
              obtain ⟨r1, r2, r3⟩ := K.x.stv h2
              cases hsw : swapB k y q x with
              | true =>
                rw [hsw] at h3
                have h4 := h3.resolve_left (fun z => by cases z)
                cases g with
                | dcomp ke ve gg => cases gg with
                  | mk own t it cs => exact set_dc K r1 h1 hsw
                | _ => cases h4
              | false =>
              have h3 := hsw
              exact (ps_set K.x.ndX r1 r2 ((soundP g).1 K.x h1) (swapB_no K h3) r3).imp fun N σ H h => as_name h
            | _ => exact nof h
          | tu ts =>
            cases tg with
            | Tuple xs q p2 =>
              have h' : (chkE k g x && noTup x && !k.hot && chkT k (.tu ts) (.Tuple xs q p2)) = true := h
              simp only [Bool.and_eq_true, Bool.not_eq_true'] at h'
              obtain ⟨⟨⟨h1, h2⟩, h3⟩, h4⟩ := h'
              exact (ps_asg ((soundP g).1 K.x h1) (soundT_ K.x (K.x.clm h3) h4) swaps_tup (stores_tup h2) (by rfl)).imp fun N σ H h => as_read h
            | _ => exact nof h
    | _ => cases t <;> exact nof h
  | .own i g, O, X, C, k, Wx, e, K, h => by
    cases e with
    | Assign tgs x p =>
      cases tgs with
      | nil => exact nof h
      | cons tg tgs =>
        cases tgs with
        | cons _ _ => cases tg <;> exact nof h
        | nil =>
          cases tg with
          | Name y q =>
            have h' : (chkE k g x && k.stv i y) = true := h
            obtain ⟨h1, h2⟩ := Bool.and_eq_true_iff.mp h'
            exact (own_of K h1 h2).imp fun N σ H h => own_name h
          | _ => exact nof h
    | _ => exact nof h
  | .par is es, O, X, C, k, Wx, e, K, h => by
    cases e with
    | Assign tgs x p =>
      cases tgs with
      | nil => exact nof h
      | cons tg tgs =>
        cases tgs with
        | cons _ _ => cases tg <;> exact nof h
        | nil =>
          cases tg with
          | Tuple ts q p2 =>
            cases x with
            | Tuple xs q2 p3 =>
              have h' : (!k.hot && chkL k es xs && decide (is.length = es.length) && namesOn k is ts && parK k is ts xs) = true := h
              simp only [Bool.and_eq_true, Bool.not_eq_true', decide_eq_true_eq] at h'
              obtain ⟨⟨⟨⟨h1, h2⟩, h3⟩, h4⟩, h5⟩ := h'
              exact par_of K h1 h2 h3 h4 h5
            | _ => exact nof h
          | _ => exact nof h
    | _ => exact nof h
  | .app i g, O, X, C, k, Wx, e, K, h => by
    obtain ⟨x, p1, m, ap, y, cp, p, rfl, h5⟩ : ∃ x p1 m ap y cp p, e = .Expr (.Call (.Attribute (.Name x p1) m ap) [y] [] cp) p ∧ (decide (m = "append") && k.vis i x && chkE k g y && noStar y && (ap.endLine == cp.line)) = true := by
      cases e with
      | Expr v p => cases v with
        | Call f args kws cp => cases f with
          | Attribute o m ap => cases o with
            | Name x p1 => cases args with
              | nil => exact nof h
              | cons y args => cases args with
                | cons _ _ => exact nof h
                | nil => cases kws with
                  | cons _ _ => exact nof h
                  | nil => exact ⟨x, p1, m, ap, y, cp, p, rfl, h⟩
            | _ => exact nof h
          | _ => exact nof h
        | _ => exact nof h
      | _ => exact nof h
    simp only [Bool.and_eq_true, decide_eq_true_eq] at h5
    obtain ⟨⟨⟨⟨rfl, h1⟩, h2⟩, h3⟩, h4⟩ := h5
    obtain ⟨q1, q2, q3, q4⟩ := K.x.vis h1
    exact ss_app q1 q2 q3 q4 ((soundP g).1 K.x h2) (star1 h3) h4
  | .pop t i kk, O, X, C, k, Wx, e, K, h => by
    cases t with
    | none =>
      cases e with
      | Expr x p =>
        obtain ⟨q, f, as, p2, rfl⟩ := pop_of (Wx := Wx) (O := O) K.x (show chkPop k i kk x = true from h)
        exact ss_pop q (by rfl)
      | _ => exact nof h
    | some t =>
      cases e with
      | Assign tgs x p =>
        cases tgs with
        | nil => exact nof h
        | cons tg tgs =>
          cases tgs with
          | cons _ _ => exact nof h
          | nil =>
            have h' : (!k.hot && chkT k t tg && chkPop k i kk x) = true := h
            simp only [Bool.and_eq_true, Bool.not_eq_true'] at h'
            obtain ⟨⟨h1, h2⟩, h3⟩ := h'
            obtain ⟨q, f, as, p2, rfl⟩ := pop_of (Wx := Wx) (O := O) K.x h3
            exact ss_popT q (soundT_ K.x (K.x.clm h1) h2) (fun v p z => by subst z; cases t <;> exact nof h2) (by rfl) (by cases tg <;> rfl)
      | _ => exact nof h
  | .apppop i j kk, O, X, C, k, Wx, e, K, h => by
    obtain ⟨x, p1, m, ap, y, cp, p, rfl, h5⟩ : ∃ x p1 m ap y cp p, e = .Expr (.Call (.Attribute (.Name x p1) m ap) [y] [] cp) p ∧ (decide (m = "append") && k.vis i x && chkPop k j kk y && (ap.endLine == cp.line)) = true := by
      cases e with
      | Expr v p => cases v with
        | Call f args kws cp => cases f with
          | Attribute o m ap => cases o with
            | Name x p1 => cases args with
              | nil => exact nof h
              | cons y args => cases args with
                | cons _ _ => exact nof h
                | nil => cases kws with
                  | cons _ _ => exact nof h
                  | nil => exact ⟨x, p1, m, ap, y, cp, p, rfl, h⟩
            | _ => exact nof h
          | _ => exact nof h
        | _ => exact nof h
      | _ => exact nof h
    simp only [Bool.and_eq_true, decide_eq_true_eq] at h5
    obtain ⟨⟨⟨rfl, h1⟩, h2⟩, h4⟩ := h5
    obtain ⟨q1, q2, q3, q4⟩ := K.x.vis h1
    obtain ⟨q, f, as, p2, rfl⟩ := pop_of (Wx := Wx) (O := O) K.x h2
    exact ss_appPop q1 q2 q3 q4 q (by rfl) h4
  | .setix i a g, O, X, C, k, Wx, e, K, h => by
    obtain ⟨x, p1, y, p2, z, p, rfl, h5⟩ : ∃ x p1 y p2 z p, e = .Assign [.Subscript (.Name x p1) y p2] z p ∧ (k.vis i x && chkE k a y && notSl y && chkE k g z) = true := by
      cases e with
      | Assign tgs z p => cases tgs with
        | nil => exact nof h
        | cons tg tgs => cases tgs with
          | cons _ _ => cases tg with
            | Subscript o y p2 => cases o <;> exact nof h
            | _ => exact nof h
          | nil => cases tg with
            | Subscript o y p2 => cases o with
              | Name x p1 => exact ⟨x, p1, y, p2, z, p, rfl, h⟩
              | _ => exact nof h
            | _ => exact nof h
      | _ => exact nof h
    simp only [Bool.and_eq_true] at h5
    obtain ⟨⟨⟨h1, h2⟩, h3⟩, h4⟩ := h5
    obtain ⟨q1, q2, q3, q4⟩ := K.x.vis h1
    exact ss_setix q1 q2 q3 q4 ((soundP a).1 K.x h2) ((soundP g).1 K.x h4) h3 swaps_sub
  | .set2 i a b f g, O, X, C, k, Wx, e, K, h => by
    obtain ⟨x, p1, y, q1, x2, p2, y2, q2, kt, pt, z, z2, k2, p3, p, rfl, h5⟩ : ∃ x p1 y q1 x2 p2 y2 q2 kt pt z z2 k2 p3 p, e = .Assign [.Tuple [.Subscript (.Name x p1) y q1, .Subscript (.Name x2 p2) y2 q2] kt pt] (.Tuple [z, z2] k2 p3) p ∧
        (!k.hot && decide (x = x2) && k.vis i x && chkE k a y && notSl y && chkE k b y2 && notSl y2 && chkE k f z && noStar z && chkE k g z2 && noStar z2) = true := set2_shape h
    simp only [Bool.and_eq_true, decide_eq_true_eq, Bool.not_eq_true'] at h5
    obtain ⟨⟨⟨⟨⟨⟨⟨⟨⟨⟨h0, rfl⟩, h1⟩, h2⟩, h3⟩, h4⟩, h6⟩, h7⟩, h8⟩, h9⟩, h10⟩ := h5
    obtain ⟨r1, r2, r3, r4⟩ := K.x.vis h1
    exact ss_set2 K.x.hK (K.x.clm h0) r1 r2 r3 r4 ((soundP a).1 K.x h2) ((soundP b).1 K.x h4) ((soundP f).1 K.x h7) ((soundP g).1 K.x h9) h3 h6 (star1 h8) (star1 h10)
  | .cset c s g, O, X, C, k, Wx, e, K, h => by
    obtain ⟨x, t, q1, p1, p2, z, p, rfl, h5⟩ : ∃ x t q1 p1 p2 z p, e = .Assign [.Subscript x (.Constant (.str t) q1 p1) p2] z p ∧ (decide (s = t) && chkE k c x && chkE k g z) = true := by
      cases e with
      | Assign tgs z p => cases tgs with
        | nil => exact nof h
        | cons tg tgs => cases tgs with
          | cons _ _ => cases tg with
            | Subscript o y p2 => cases y with
              | Constant c _ _ => cases c <;> exact nof h
              | _ => exact nof h
            | _ => exact nof h
          | nil => cases tg with
            | Subscript o y p2 => cases y with
              | Constant c q1 p1 => cases c with
                | str t => exact ⟨o, t, q1, p1, p2, z, p, rfl, h⟩
                | _ => exact nof h
              | _ => exact nof h
            | _ => exact nof h
      | _ => exact nof h
    simp only [Bool.and_eq_true, decide_eq_true_eq] at h5
    obtain ⟨⟨rfl, h1⟩, h2⟩ := h5
    exact ss_cset K.x.un ((soundP c).1 K.x h1) ((soundP g).1 K.x h2) swaps_sub
  | .ifs c a b, O, X, C, k, Wx, e, K, h => by
    cases e with
    | If x u v p =>
      have h' : (chkE k c x && noIf x && chkSs k a u && chkSs k b v) = true := h
      simp only [Bool.and_eq_true] at h'
      obtain ⟨⟨⟨h1, h2⟩, h3⟩, h4⟩ := h'
      exact ss_if (tb_of K.x h1 ((soundP c).2 K.x h1 h2)) (soundSs a K h3) (soundSs b K h4)
    | _ => exact nof h
  | .for t it b, O, X, C, k, Wx, e, K, h => by
    cases e with
    | For tg x u el p =>
      cases el with
      | cons _ _ => exact nof h
      | nil =>
        have h' : (!k.hot && chkT k t tg && chkI k (isTup tg) it x && chkSs k b u) = true := h
        simp only [Bool.and_eq_true, Bool.not_eq_true'] at h'
        obtain ⟨⟨⟨h1, h2⟩, h3⟩, h4⟩ := h'
        exact ss_for (K.pa h1) (K.x.clm h1) (soundI it false K.x h3) (soundT_ K.x (K.x.clm h1) h2) (soundSs b K h4) (fold_it h3)
    | _ => exact nof h
  | .while c b, O, X, C, k, Wx, e, K, h => by
    cases e with
    | While x u el p =>
      cases el with
      | cons _ _ => exact nof h
      | nil =>
        have h' : (!k.hot && chkE k c x && noIf x && chkSs k b u) = true := h
        simp only [Bool.and_eq_true, Bool.not_eq_true'] at h'
        obtain ⟨⟨⟨h1, h2⟩, h3⟩, h4⟩ := h'
        exact ss_while (K.pa h1) (tb_of K.x h2 ((soundP c).2 K.x h2 h3)) (soundSs b K h4)
    | _ => exact nof h
  | .ret g, O, X, C, k, Wx, e, K, h => by
    cases e with
    | Return v p =>
      cases v with
      | none => exact nof h
      | some x => exact ss_ret ((soundP g).1 K.x (show chkE k g x = true from h))
    | _ => exact nof h
  | .reto g, O, X, C, k, Wx, e, K, h => by
    cases e with
    | Return v p =>
      cases v with
      | none => exact nof h
      | some x =>
        have h' : retoK k g x = true := h
        cases g with
        | var i =>
          cases x with
          | Name y p1 =>
            obtain ⟨q1, q2, q3, q4⟩ := K.x.vis (show k.vis i y = true from h')
            exact ss_retv q1 q2 q3 q4
          | _ => exact nof h'
        | _ => exact ss_reto (soundF _ K.x h')
    | _ => exact nof h
  | .retN, O, X, C, k, Wx, e, K, h => by
    cases e with
    | Return v p =>
      cases v with
      | none => exact ss_retN
      | some x => exact nof h
    | _ => exact nof h
  | .raise c es, O, X, C, k, Wx, e, K, h => by
    cases e with
    | Raise v cs p =>
      cases v with
      | none => exact nof h
      | some v =>
        cases v with
        | Call f xs kws p2 =>
          cases f with
          | Name x p1 =>
            cases kws with
            | cons _ _ => exact nof h
            | nil =>
              cases cs with
              | some _ => exact nof h
              | none =>
                have h' : (!k.hot && decide (c = x) && decide (c ∈ k.exs) && k.gl x && chkL k es xs && !xs.isEmpty) = true := h
                simp only [Bool.and_eq_true, Bool.not_eq_true', decide_eq_true_eq] at h'
                obtain ⟨⟨⟨⟨⟨h1, rfl⟩, h2⟩, h3⟩, h4⟩, h5⟩ := h'
                exact raise_of K h1 h2 h3 h4 h5
          | _ => exact nof h
        | _ => exact nof h
    | _ => exact nof h
  | .try b hs, O, X, C, k, Wx, e, K, h => by
    cases e with
    | Try u gs el fi p =>
      cases el with
      | cons _ _ => exact nof h
      | nil =>
        cases fi with
        | cons _ _ => exact nof h
        | nil =>
          have h' : (!k.hot && !gs.isEmpty && chkSs k b u && chkHs k hs gs) = true := h
          simp only [Bool.and_eq_true, Bool.not_eq_true'] at h'
          obtain ⟨⟨⟨h1, h2⟩, h3⟩, h4⟩ := h'
          cases gs with
          | nil => cases h2
          | cons g0 gs => exact ss_try K.stk K.fr K.x.ndX K.x.tk (fun c h b e => (K.sub c h b e).1) (fun W pn xe tk pa => soundSs b (K.tr h1 tk pa) h3) (soundH hs K h1 h4)
    | _ => exact nof h
  | .ex g, O, X, C, k, Wx, e, K, h => by
    cases e with
    | Expr x p =>
      have h' : (chkE k g x && noComp x) = true := h
      obtain ⟨h1, h2⟩ := Bool.and_eq_true_iff.mp h'
      exact ss_ex ((soundP g).1 K.x h1) (swaps_none h2)
    | _ => exact nof h
  | .aug i op g, O, X, C, k, Wx, e, K, h => by
    cases e with
    | AugAssign t o y p =>
      cases t with
      | Name x q =>
        have h' : (decide (op = o) && k.stv i x && chkE k g y) = true := h
        simp only [Bool.and_eq_true, decide_eq_true_eq] at h'
        obtain ⟨⟨rfl, h1⟩, h2⟩ := h'
        obtain ⟨r1, r2, r3⟩ := K.x.stv h1
        exact ss_aug K.x.ndX r1 r2 r3 ((soundP g).1 K.x h2)
      | _ => exact nof h
    | _ => exact nof h
  | .ext i g, O, X, C, k, Wx, e, K, h => by
    obtain ⟨x, p1, m, ap, y, cp, p, rfl, h5⟩ : ∃ x p1 m ap y cp p, e = .Expr (.Call (.Attribute (.Name x p1) m ap) [y] [] cp) p ∧ (decide (m = "extend") && k.vis i x && chkE k g y && noStar y && (ap.endLine == cp.line)) = true := by
      cases e with
      | Expr v p => cases v with
        | Call f args kws cp => cases f with
          | Attribute o m ap => cases o with
            | Name x p1 => cases args with
              | nil => exact nof h
              | cons y args => cases args with
                | cons _ _ => exact nof h
                | nil => cases kws with
                  | cons _ _ => exact nof h
                  | nil => exact ⟨x, p1, m, ap, y, cp, p, rfl, h⟩
            | _ => exact nof h
          | _ => exact nof h
        | _ => exact nof h
      | _ => exact nof h
    simp only [Bool.and_eq_true, decide_eq_true_eq] at h5
    obtain ⟨⟨⟨⟨rfl, h1⟩, h2⟩, h3⟩, h4⟩ := h5
    obtain ⟨q1, q2, q3, q4⟩ := K.x.vis h1
    exact ss_ext q1 q2 q3 q4 ((soundP g).1 K.x h2) (star1 h3) h4
  | .pass, O, X, C, k, Wx, e, K, h => by
    cases e with
    | Pass p => exact ss_pass
    | _ => exact nof h
  | .brk, O, X, C, k, Wx, e, K, h => by
    cases e with
    | Break p => exact ss_brk
    | _ => exact nof h
  | .cont, O, X, C, k, Wx, e, K, h => by
    cases e with
    | Continue p => exact ss_cont
    | _ => exact nof h
  | .frz _, O, X, C, k, Wx, e, K, h => by cases e <;> exact nof h
theorem soundSs : ∀ (gs : List S) {O : Own} {X : Cx} {C : Ctx} {k : Ck} {Wx : WX} {xs : List Stmt}, SOk Y O C Wx k X → chkSs k gs xs = true → PSs X xs (RS Y O Wx (execs C gs))
  | [], O, X, C, k, Wx, xs, K, h => by
    cases xs with
    | nil => exact sss_nil
    | cons _ _ => exact nof h
  | .frz i :: gs, O, X, C, k, Wx, xs, K, h => (soundSs gs K (show chkSs k gs xs = true by cases xs <;> exact h)).imp fun N σ H q => frz_read (t := tNext) q
  | .asg t g :: gs, O, X, C, k, Wx, xs, K, h => cons_of (fun K h => soundSt (.asg t g) K h) (fun K h => soundSs gs K h) K (fun x xs => rfl) (fun x => rfl) h
  | .own i g :: gs, O, X, C, k, Wx, xs, K, h => cons_of (fun K h => soundSt (.own i g) K h) (fun K h => soundSs gs K h) K (fun x xs => rfl) (fun x => rfl) h
  | .par is es :: gs, O, X, C, k, Wx, xs, K, h => cons_of (fun K h => soundSt (.par is es) K h) (fun K h => soundSs gs K h) K (fun x xs => rfl) (fun x => rfl) h
  | .app i g :: gs, O, X, C, k, Wx, xs, K, h => cons_of (fun K h => soundSt (.app i g) K h) (fun K h => soundSs gs K h) K (fun x xs => rfl) (fun x => rfl) h
  | .pop t i kk :: gs, O, X, C, k, Wx, xs, K, h => cons_of (fun K h => soundSt (.pop t i kk) K h) (fun K h => soundSs gs K h) K (fun x xs => rfl) (fun x => rfl) h
  | .apppop i j kk :: gs, O, X, C, k, Wx, xs, K, h => cons_of (fun K h => soundSt (.apppop i j kk) K h) (fun K h => soundSs gs K h) K (fun x xs => rfl) (fun x => rfl) h
  | .setix i a g :: gs, O, X, C, k, Wx, xs, K, h => cons_of (fun K h => soundSt (.setix i a g) K h) (fun K h => soundSs gs K h) K (fun x xs => rfl) (fun x => rfl) h
  | .set2 i a b f g :: gs, O, X, C, k, Wx, xs, K, h => cons_of (fun K h => soundSt (.set2 i a b f g) K h) (fun K h => soundSs gs K h) K (fun x xs => rfl) (fun x => rfl) h
  | .cset c s g :: gs, O, X, C, k, Wx, xs, K, h => cons_of (fun K h => soundSt (.cset c s g) K h) (fun K h => soundSs gs K h) K (fun x xs => rfl) (fun x => rfl) h
  | .ifs c a b :: gs, O, X, C, k, Wx, xs, K, h => cons_of (fun K h => soundSt (.ifs c a b) K h) (fun K h => soundSs gs K h) K (fun x xs => rfl) (fun x => rfl) h
  | .for t it b :: gs, O, X, C, k, Wx, xs, K, h => cons_of (fun K h => soundSt (.for t it b) K h) (fun K h => soundSs gs K h) K (fun x xs => rfl) (fun x => rfl) h
  | .while c b :: gs, O, X, C, k, Wx, xs, K, h => cons_of (fun K h => soundSt (.while c b) K h) (fun K h => soundSs gs K h) K (fun x xs => rfl) (fun x => rfl) h
  | .ret g :: gs, O, X, C, k, Wx, xs, K, h => cons_of (fun K h => soundSt (.ret g) K h) (fun K h => soundSs gs K h) K (fun x xs => rfl) (fun x => rfl) h
  | .reto g :: gs, O, X, C, k, Wx, xs, K, h => cons_of (fun K h => soundSt (.reto g) K h) (fun K h => soundSs gs K h) K (fun x xs => rfl) (fun x => rfl) h
  | .retN :: gs, O, X, C, k, Wx, xs, K, h => cons_of (fun K h => soundSt (.retN) K h) (fun K h => soundSs gs K h) K (fun x xs => rfl) (fun x => rfl) h
  | .raise c es :: gs, O, X, C, k, Wx, xs, K, h => cons_of (fun K h => soundSt (.raise c es) K h) (fun K h => soundSs gs K h) K (fun x xs => rfl) (fun x => rfl) h
  | .try b hs :: gs, O, X, C, k, Wx, xs, K, h => cons_of (fun K h => soundSt (.try b hs) K h) (fun K h => soundSs gs K h) K (fun x xs => rfl) (fun x => rfl) h
  | .ex g :: gs, O, X, C, k, Wx, xs, K, h => cons_of (fun K h => soundSt (.ex g) K h) (fun K h => soundSs gs K h) K (fun x xs => rfl) (fun x => rfl) h
  | .aug i op g :: gs, O, X, C, k, Wx, xs, K, h => cons_of (fun K h => soundSt (.aug i op g) K h) (fun K h => soundSs gs K h) K (fun x xs => rfl) (fun x => rfl) h
  | .ext i g :: gs, O, X, C, k, Wx, xs, K, h => cons_of (fun K h => soundSt (.ext i g) K h) (fun K h => soundSs gs K h) K (fun x xs => rfl) (fun x => rfl) h
  | .pass :: gs, O, X, C, k, Wx, xs, K, h => cons_of (fun K h => soundSt (.pass) K h) (fun K h => soundSs gs K h) K (fun x xs => rfl) (fun x => rfl) h
  | .brk :: gs, O, X, C, k, Wx, xs, K, h => cons_of (fun K h => soundSt (.brk) K h) (fun K h => soundSs gs K h) K (fun x xs => rfl) (fun x => rfl) h
  | .cont :: gs, O, X, C, k, Wx, xs, K, h => cons_of (fun K h => soundSt (.cont) K h) (fun K h => soundSs gs K h) K (fun x xs => rfl) (fun x => rfl) h
theorem soundH : ∀ (hs : List (Str × Option Nat × List S)) {O : Own} {X : Cx} {C : Ctx} {k : Ck} {Wx : WX} {gs : List ExceptHandler}, SOk Y O C Wx k X → k.hot = false → chkHs k hs gs = true → ClsOk X gs (clauses Y O C.sub (exech C hs))
  | [], O, X, C, k, Wx, gs, K, hh, h => by
    cases gs with
    | nil => exact .nil
    | cons _ _ => exact nof h
  | (c, n, b) :: hs, O, X, C, k, Wx, gs, K, hh, h => by
    cases gs with
    | nil => exact nof h
    | cons g0 gs =>
      cases g0 with
      | ExceptHandler ty nm su p2 =>
        cases ty with
        | none => exact nof h
        | some ty =>
          cases ty with
          | Name x p1 =>
            have h' : (decide (x = c) && k.gl x && decide (c ∈ k.hns) && !su.isEmpty && nameK k nm n && chkSs k.hotted b su && chkHs k hs gs) = true := h
            simp only [Bool.and_eq_true, decide_eq_true_eq, Bool.not_eq_true'] at h'
            obtain ⟨⟨⟨⟨⟨⟨rfl, h1⟩, h2⟩, h3⟩, h4⟩, h5⟩, h6⟩ := h'
            obtain ⟨g1, g2⟩ := K.x.gl h1
            cases su with
            | nil => cases h3
            | cons b0 su =>
              refine ClsOk.cons (q := ⟨.ref (Y.ca x), n, tsOf Y O C.sub (execs C b)⟩) ⟨g1, g2, .inl (K.hnd x h2)⟩ ?_ (fun a oe cls d pn hz hf => ?_) (soundH hs K hh h6)
              · cases nm with
                | none =>
                  cases n with
                  | none => exact True.intro
                  | some _ => exact nof h4
                | some y =>
                  cases n with
                  | none => exact nof h4
                  | some i =>
                    have h4' : (decide (k.N[i]? = some y) && (k.sc.names.lookup y == some .local)) = true := h4
                    simp only [Bool.and_eq_true, decide_eq_true_eq] at h4'
                    exact ⟨by rw [K.x.nn]; exact h4'.1, by unfold Env.kindOf; rw [K.x.sc]; exact eq_of_beq h4'.2⟩
              · refine ⟨fun pins s σ H N I ⟨dd, c', h'', bb, ed, ec, es, hrs⟩ => ?_⟩
                subst ed
                subst ec
                exact (soundSs b (K.suite hh (a := a) (pn := pn) es hz hf) h5).run pins s σ H N I hrs
          | _ => exact nof h
end
end Sw

set_option Elab.async false
set_option linter.all false
set_option maxRecDepth 100000
set_option maxHeartbeats 2000000
/-! Sw, part Y: the defs, level by level. -/
namespace Sw
open PySem PySem.Spec PyProof.Rows L2 LamX
/-- what is common to the looks at all the defs of a program -/
structure Gk where
  par : Str → Option Nat
  lamD : Str → Bool
  flds : List Str
  exs : List Str
  hns : List Str
def Gk.ck (g : Gk) (N : List Str) (sc : Scope) (full tk : Bool) : Ck := ⟨N, sc, sc, false, full, tk, g.par, g.lamD, g.flds, g.exs, g.hns⟩
/-- the full name of a lambda in the def f -/
def lamT (f : Str) : Str := (f ++ (".<locals>." : Str)) ++ ("<lambda>" : Str)
/-- a def of the text, as it stands, that is the def d of the own language -/
structure DefOk (K : PySem.W.Frag) (mg : Str → Option Value) (base : Heap) (Y : Cfg) (g : Gk) (f : Str) (d : Def) (tk : Bool) : Prop where
  ok : ∃ (N ps : List Str) (full : Bool) (fa : Addr) (pa : Arguments) (bd : List Stmt) (sc : Scope) (dV kV doc pm cdv ct oc : Value) (an od : Option Addr) (osl : Array (Option Value)),
    mg f = some (.ref fa) ∧ PySem.W.keepIn K (.ref fa) = true ∧ K.lookup fa = some ⟨oc, od, .func (PySem.W.fnOf f f pa bd sc dV kV doc pm an cdv ct), osl⟩ ∧ PySem.W.codeIn K cdv f = true ∧ Binds K (PySem.W.fnOf f f pa bd sc dV kV doc pm an cdv ct) ps [] ∧ FnScope N ps sc ∧
    ps.length = d.params ∧ N.length = d.names ∧ chkSs (g.ck N sc full tk) d.body bd = true ∧
    (full = true → ∃ c Pt, TabB base mg c Pt ∧ cdv = .ref c ∧ (Pt, lamT f) ∈ Y.tabs ∧ ∀ q ∈ Y.tabs, q.1 = Pt → q.2 = lamT f) ∧
    (tk = true → full = false ∧ ∃ a, ps = [a] ∧ N[0]? = some a ∧ Vis sc a ∧ (a == ("__debug__" : Str)) = false ∧ (a == ("__classdict__" : Str)) = false)
/-- a program's facts -/
structure Wd (P : Program) (w : World) (K : PySem.W.Frag) (mg : Str → Option Value) (base : Heap) (Y : Cfg) (g : Gk) (p : Prog) (r : Nat) : Prop where
  hK : K = Y.K
  mgb : ∀ x ∈ bnames, mg x = none
  glob : ∀ x d, p.glob x = some d → ∃ u v, mg x = some u ∧ RelV v u ∧ ∀ Z ms H, Den Y Z ms H v d
  sub : ∀ c h b, p.sub c h = some b → PySem.W.exmOne K (.ref (Y.ca c)) (.ref (Y.ca h)) = some b ∧ XfC K (Y.ca c) ∧ (∀ f ∈ g.flds, PySem.W.findIn K (.ref (Y.ca c)) f = some none) ∧ XiC K (Y.ca c) ∧ PySem.W.kitOne K (.ref (Y.ca c)) (.ref (Y.ca h)) = some b
  hnd : ∀ h ∈ g.hns, mg h = some (.ref (Y.ca h))
  exk : ∀ c ∈ g.exs, ExcK P w K mg base r c (Y.ca c) (p.fields c)
  dfs : ∀ f n, g.par f = some n → ∃ d, p.defs f = some d ∧ d.params = n ∧ DefOk K mg base Y g f d false
  lms : ∀ f, g.lamD f = true → ∃ d, p.defs f = some d ∧ d.params = 1 ∧ DefOk K mg base Y g f d true
variable {P : Program} {w : World} {K : PySem.W.Frag} {mg : Str → Option Value} {base : Heap} {Y : Cfg} {g : Gk} {p : Prog} {r : Nat}
abbrev CallsAt (P : Program) (w : World) (K : PySem.W.Frag) (mg : Str → Option Value) (base : Heap) (Y : Cfg) (g : Gk) (j : Nat) (c : Calls) : Prop := ∀ f n, g.par f = some n → CallOk P w K mg base Y j f n (c f)
/-- a def's frame at its start -/
theorem start_rel {O : Own} {N : List Str} {vs : List V} {ds : List D} {H : Hp} (k : StOk Y O.Z0 O.ms0 H O.st0) (h0 : O.H0 = H) (r : DenL Y O.Z0 O.ms0 H vs ds) (hl : vs.length ≤ N.length) :
    Rel Y O O.Z0 O.ms0 ((ds.map Slot.sh).map some ++ List.replicate (N.length - (ds.map Slot.sh).length) none) (L2.start N vs) H O.st0 := by
  subst h0
  have e := r.length
  refine ⟨k, Step.refl k, ?_, fun i s e1 => ?_, fun i j as bs a e1 => ?_⟩
  · unfold L2.start
    simp only [List.length_append, List.length_map, List.length_replicate]
    omega
  · by_cases hi : i < ds.length
    · rw [List.getElem?_append_left (by simpa using hi), List.getElem?_map, List.getElem?_map] at e1
      obtain ⟨v, e2, q⟩ := r.get (List.getElem?_eq_getElem hi)
      rw [List.getElem?_eq_getElem hi] at e1
      cases e1
      refine ⟨some v, ?_, v, rfl, q⟩
      unfold L2.start
      rw [List.getElem?_append_left (by simp; omega), List.getElem?_map, e2]
      rfl
    · rw [List.getElem?_append_right (by simpa using hi), List.getElem?_replicate] at e1
      split at e1 <;> cases e1
  · by_cases hi : i < ds.length
    · rw [List.getElem?_append_left (by simpa using hi), List.getElem?_map, List.getElem?_map, List.getElem?_eq_getElem hi] at e1
      cases e1
    · rw [List.getElem?_append_right (by simpa using hi), List.getElem?_replicate] at e1
      split at e1 <;> cases e1
theorem body_read {O : Own} {E : XK} {Q : VK} {δ : Fr} {σ : L2.St} {C : Ctx} {body : List S} {Z : Zs} {ms : List Addr} {H : Hp} {st : Store} (hO : O.Z0 = Z ∧ O.ms0 = ms ∧ O.H0 = H ∧ O.st0 = st) (R : Rel Y O Z ms δ σ H st)
    (h : PostC Y Z ms H (endM (execs C body δ) st) Q E) : RS Y O (fun cls d _ H' => E cls d H') (execs C body) { nx := fun _ H' => Q .non H', rt := Q } σ H := by
  refine ⟨δ, st, Z, ms, R, ?_⟩
  obtain ⟨z1, z2, z3, z4⟩ := hO
  unfold endM at h
  cases e : execs C body δ st with
  | ok f st' =>
    rw [e] at h
    cases f with
    | next δ' => exact fun σ' H' Z' ms' s' R' => h .non H' Z' ms' (z1 ▸ z2 ▸ z3 ▸ R'.base) .non
    | ret sl => exact fun v H' Z' ms' s' b q => h v H' Z' ms' (z1 ▸ z2 ▸ z3 ▸ b) (z3 ▸ q)
    | exc c fs δ' => exact fun d σ' H' Z' ms' s' R' q => h d H' Z' ms' (z1 ▸ z2 ▸ z3 ▸ R'.base) q
    | brk δ' => exact (show False from h).elim
    | cont δ' => exact (show False from h).elim
  | exn c fs st' => rw [e] at h; exact (show False from h).elim
  | bad => rw [e] at h; exact (show False from h).elim
theorem CallsAt.mono {i j : Nat} {c : Calls} (h : CallsAt P w K mg base Y g i c) (hij : i ≤ j) : CallsAt P w K mg base Y g j c := fun f n e => by
  obtain ⟨fa, fd, ps, F, q⟩ := (h f n e).ok
  exact ⟨fa, fd, ps, ⟨F.len, fun A outer s H args us vs Q E hr => F.run A outer s H args us vs Q E (hr.mono hij)⟩, q⟩
/-- the context of a def's body -/
theorem def_sok (W : Wd P w K mg base Y g p r) {N ps : List Str} {q : Str} {sc : Scope} {fa : Addr} {cdv : Value} {A : Around} {outer : List Env} {s : Shared} {H : Hp} {E : XK} {O : Own} {C : Ctx} {full tk : Bool} {j : Nat} {c2 : Calls} (S : FnScope N ps sc)
    (hC : C.glob = p.glob ∧ C.sub = p.sub ∧ C.fields = p.fields ∧ C.call = c2) (hr : Room j (A.deeper (envOfC q sc s.heap.objs.size fa cdv))) (hg : A.guards = some []) (hc : CallsAt P w K mg base Y g j c2) (hrj : r ≤ j)
    (hl : full = true → LamIn Y C (g.ck N sc full tk) (cxOf (L2.CX P w) P w K mg base N q sc fa cdv A outer s H E))
    (ht : tk = true → ∀ (pn : List (Addr × Obj)) (xe : Value → Shared → Prop) (W : WX) x p1 p2, Takes ((cxOf (L2.CX P w) P w K mg base N q sc fa cdv A outer s H E).tr pn xe) W → N[0]? = some x → Vis sc x → PE ((cxOf (L2.CX P w) P w K mg base N q sc fa cdv A outer s H E).tr pn xe) (.Call (.Name x p1) [] [] p2) (RE Y O W (callvM C 0))) :
    SOk Y O C (fun cls d _ H' => E cls d H') (g.ck N sc full tk) (cxOf (L2.CX P w) P w K mg base N q sc fa cdv A outer s H E) := by
  obtain ⟨e1, e2, e3, e4⟩ := hC
  have tk0 : Takes (cxOf (L2.CX P w) P w K mg base N q sc fa cdv A outer s H E) (fun cls d _ H' => E cls d H') := takes_of rfl rfl rfl rfl
  exact {
    x := {
      hK := W.hK
      nn := rfl
      nd := S.nd
      sc := rfl
      un := by have := hr.un; show (A.deeper (envOfC q sc s.heap.objs.size fa cdv)).units + 65 < cLine; omega
      gd := hg
      cal := rfl
      mg := W.mgb
      glob := fun x d h => W.glob x d (by rw [← e1]; exact h)
      st := fun x h => ⟨stK_of h, .inl rfl⟩
      tk := tk0
      call := fun _ f n h => ⟨j, by rw [e4]; exact hc f n h, hr⟩
      exf := fun h => by cases h
      exi := fun h => by cases h
      thk := fun h x p1 p2 h1 h2 => ht h [] (cxOf (L2.CX P w) P w K mg base N q sc fa cdv A outer s H E).xe _ x p1 p2 tk0 h1 h2
      lam := fun h _ => hl h }
    kd := S.kind
    same := rfl
    stk := rfl
    fr := rfl
    pa := fun _ => passes_of rfl
    sub := fun c h b e => W.sub c h b (by rw [← e2]; exact e)
    hnd := W.hnd
    exk := fun _ c hc => ⟨r, by rw [e3]; exact W.exk c hc, hr.mono hrj⟩
    thk := ht }
/-- a def called with a lambda that is worth t -/
def Prog.callG (p : Prog) (c1 : Calls) (g : Str) (t : M D) : M Slot := match p.defs g with
  | some d => if d.params = 1 then runBody ⟨c1, fun _ _ => M.bad, p.glob, p.sub, p.fields, some t⟩ d.names d.body [Slot.thk] else M.bad
  | none => M.bad
theorem callT_eq (c1 c0 : Calls) (f : Str) (m : Calls → M D) : p.callT c1 c0 f m = p.callG c1 f (m c0) := rfl
theorem start_thk {O : Own} {N : List Str} {H : Hp} (k : StOk Y O.Z0 O.ms0 H O.st0) (h0 : O.H0 = H) (hl : 1 ≤ N.length) :
    Rel Y O O.Z0 O.ms0 ([Slot.thk].map some ++ List.replicate (N.length - [Slot.thk].length) none) (L2.start N [V.ref O.tf]) H O.st0 := by
  subst h0
  refine ⟨k, Step.refl k, ?_, fun i s e1 => ?_, fun i j as bs a e1 => ?_⟩
  · unfold L2.start
    simp
  · cases i with
    | zero =>
      cases e1
      exact ⟨_, rfl, rfl⟩
    | succ i =>
      rw [List.getElem?_append_right (by simp), List.getElem?_replicate] at e1
      split at e1 <;> cases e1
  · cases i with
    | zero => cases e1
    | succ i =>
      rw [List.getElem?_append_right (by simp), List.getElem?_replicate] at e1
      split at e1 <;> cases e1
theorem callvM_some {C : Ctx} {O : Own} {Wx : WX} {δ : Fr} {σ : L2.St} {Z : Zs} {ms : List Addr} {H : Hp} {st : Store} {Q : VK} (P : Post Y Wx (VD Y) σ Z ms H st (callvM C 0 δ st) Q) : ∃ t, C.thunk = some t ∧ δ[0]? = some (some .thk) ∧ Post Y Wx (VD Y) σ Z ms H st (t st) Q := by
  unfold callvM at P
  generalize δ[0]? = o at P
  generalize C.thunk = t at P
  cases o with
  | none => exact P.elim
  | some o =>
    cases o with
    | none => exact P.elim
    | some sl =>
      cases sl with
      | thk =>
        cases t with
        | none => exact P.elim
        | some t => exact ⟨t, rfl, rfl, P⟩
      | _ => exact P.elim
theorem lam_ok (W : Wd P w K mg base Y g p r) {f : Str} {j : Nat} {c1 : Calls} (h : g.lamD f = true) (hc : CallsAt P w K mg base Y g j c1) (hr : r ≤ j) : LamOk P w K mg base Y j f (p.callG c1 f) := by
  obtain ⟨d, hd, h1, D⟩ := W.lms f h
  obtain ⟨N, ps, full, fa, pa, bd, sc, dV, kV, doc, pm, cdv, ct, oc, an, od, osl, m1, m2, m3, m4, m5, S, l1, l2, ck, _, tk⟩ := D.ok
  obtain ⟨hf, a, rfl, n0, va, nd, nc⟩ := tk rfl
  subst hf
  refine ⟨fa, a, cdv, pa, bd, sc, N, dV, kV, doc, pm, ct, oc, an, od, osl, m1, m2, m3, m4, m5, S, n0, va, nd, nc, fun A outer s H q Q E Z ms st t hrm hg k act hp => ?_⟩
  have hN : 1 ≤ N.length := by
    have := (List.getElem?_eq_some_iff.mp n0).1
    omega
  unfold Prog.callG at hp
  rw [hd] at hp
  dsimp only at hp
  rw [if_pos h1] at hp
  have so : SOk Y ⟨Z, ms, H, st, q, 0, 0, ""⟩ ⟨c1, fun _ _ => M.bad, p.glob, p.sub, p.fields, some t⟩ (fun cls d _ H' => E cls d H') (g.ck N sc false true) (cxOf (L2.CX P w) P w K mg base N f sc fa cdv A outer s H E) :=
    def_sok W S ⟨rfl, rfl, rfl, rfl⟩ hrm hg hc hr (fun z => by cases z) fun _ pn xe Wx x p1 p2 tk' hx hv => by
      rw [n0] at hx
      cases hx
      refine (act pn xe Wx p1 p2 tk').imp fun τ HZ Q' ⟨δ, stZ, ZZ, mZ, R, Po⟩ => ?_
      obtain ⟨t', e1, e2, P2⟩ := callvM_some (O := ⟨Z, ms, H, st, q, 0, 0, ""⟩) Po
      cases e1
      obtain ⟨x', e3, e4⟩ := R.slots 0 _ e2
      have e5 : x' = some (.ref q) := e4
      subst e5
      exact ⟨ZZ, mZ, stZ, e3, R.base, P2⟩
  refine ⟨_, soundSs d.body so ck, body_read (O := ⟨Z, ms, H, st, q, 0, 0, ""⟩) (C := ⟨c1, fun _ _ => M.bad, p.glob, p.sub, p.fields, some t⟩) ⟨rfl, rfl, rfl, rfl⟩ (start_thk (O := ⟨Z, ms, H, st, q, 0, 0, ""⟩) k rfl hN) ?_⟩
  have e : d.names = N.length := l2.symm
  unfold runBody at hp
  rw [e] at hp
  exact hp
theorem next_eq {c2 c1 c0 : Calls} {f : Str} {d : Def} {ds : List D} (hd : p.defs f = some d) (hl : ds.length = d.params) : p.next c2 c1 c0 f ds = runBody (p.ctx c2 c1 c0) d.names d.body (ds.map Slot.sh) := by
  show (match p.defs f with
    | some d => if ds.length = d.params then runBody (p.ctx c2 c1 c0) d.names d.body (ds.map Slot.sh) else M.bad
    | none => M.bad) = _
  rw [hd]
  exact if_pos hl
theorem lamQ_of {f : Str} {sc : Scope} {fa : Addr} {cdv : Value} {N : List Str} {A : Around} {outer : List Env} {s : Shared} {H : Hp} {E : XK} : lamQ (cxOf (L2.CX P w) P w K mg base N f sc fa cdv A outer s H E) = lamT f := rfl
theorem next_run (W : Wd P w K mg base Y g p r) {j : Nat} {c2 c1 c0 : Calls} (h2 : CallsAt P w K mg base Y g (j + 2) c2) (h1 : CallsAt P w K mg base Y g (j + 1) c1) (h0 : CallsAt P w K mg base Y g j c0) (hr : r ≤ j + 1) {f : Str} {d : Def} {N ps : List Str} {full : Bool} {fa : Addr} {bd : List Stmt} {sc : Scope} {cdv : Value}
    (S : FnScope N ps sc) (l1 : ps.length = d.params) (l2 : N.length = d.names) (ck : chkSs (g.ck N sc full false) d.body bd = true)
    (lam : full = true → ∃ c Pt, TabB base mg c Pt ∧ cdv = .ref c ∧ (Pt, lamT f) ∈ Y.tabs ∧ ∀ q ∈ Y.tabs, q.1 = Pt → q.2 = lamT f)
    {A : Around} {outer : List Env} {s : Shared} {H : Hp} {vs : List V} {Q : VK} {E : XK} {Z : Zs} {ms : List Addr} {st : Store} {ds : List D} (hg : A.guards = some []) (hrd : Room (j + 2) (A.deeper (envOfC f sc s.heap.objs.size fa cdv))) (k : StOk Y Z ms H st) (rr : DenL Y Z ms H vs ds) (hl : ds.length = d.params)
    (hp : PostC Y Z ms H (runBody (p.ctx c2 c1 c0) d.names d.body (ds.map Slot.sh) st) Q E) :
    ∃ t, PSs (cxOf (L2.CX P w) P w K mg base N f sc fa cdv A outer s H E) bd t ∧ t { nx := fun _ H' => Q .non H', rt := Q } (L2.start N vs) H := by
  have lm : full = true → LamIn Y (p.ctx c2 c1 c0) (g.ck N sc full false) (cxOf (L2.CX P w) P w K mg base N f sc fa cdv A outer s H E) := fun hfull => by
    obtain ⟨c, Pt, t1, t2, t3, t4⟩ := lam hfull
    have e : lamQ (cxOf (L2.CX P w) P w K mg base N f sc fa cdv A outer s H E) = lamT f := lamQ_of
    constructor
    rw [e]
    refine ⟨j, c0, p.callG c1, c, Pt, callT_eq c1 c0, ?_, ?_, ?_, t1, t2, t3, t4⟩
    · intro f' h'
      exact lam_ok W h' h1 hr
    · exact hrd
    · intro f' n' h'
      exact ⟨j, Nat.le_refl j, h0 f' n' h'⟩
  have so : SOk Y ⟨Z, ms, H, st, 0, 0, 0, ""⟩ (p.ctx c2 c1 c0) (fun cls d _ H' => E cls d H') (g.ck N sc full false) (cxOf (L2.CX P w) P w K mg base N f sc fa cdv A outer s H E) :=
    def_sok W S ⟨rfl, rfl, rfl, rfl⟩ hrd hg h2 (by omega) lm fun z => by cases z
  have hlN : vs.length ≤ N.length := by
    have h3 : (N.take ps.length).length = ps.length := by rw [S.pre]
    rw [List.length_take] at h3
    have := rr.length
    omega
  have R := start_rel (O := ⟨Z, ms, H, st, 0, 0, 0, ""⟩) (N := N) k rfl rr hlN
  unfold runBody at hp
  rw [l2.symm] at hp
  exact ⟨_, soundSs d.body so ck, body_read (O := ⟨Z, ms, H, st, 0, 0, 0, ""⟩) (C := p.ctx c2 c1 c0) ⟨rfl, rfl, rfl, rfl⟩ R hp⟩
theorem call_next (W : Wd P w K mg base Y g p r) {j : Nat} {c2 c1 c0 : Calls} (h2 : CallsAt P w K mg base Y g (j + 2) c2) (h1 : CallsAt P w K mg base Y g (j + 1) c1) (h0 : CallsAt P w K mg base Y g j c0) (hr : r ≤ j + 1) : CallsAt P w K mg base Y g (j + 3) (p.next c2 c1 c0) := by
  intro f n hf
  obtain ⟨d, hd, hn, D⟩ := W.dfs f n hf
  obtain ⟨N, ps, full, fa, pa, bd, sc, dV, kV, doc, pm, cdv, ct, oc, an, od, osl, m1, m2, m3, m4, m5, S, l1, l2, ck, lam, _⟩ := D.ok
  subst hn
  have F : FnG P w K mg base (j + 3) fa (PySem.W.fnOf f f pa bd sc dV kV doc pm an cdv ct) ps (spC Y d.params (p.next c2 c1 c0 f)) := by
    refine ⟨fun vs H Q E ⟨Z, ms, st, ds, k, rr, hl, hp⟩ => hl.trans l1.symm, fun A outer s H args us vs Q E hrm hg e0 hb rv hs => ?_⟩
    obtain ⟨Z, ms, st, ds, k, rr, hl, hp⟩ := hs
    have hlen : ds.length = d.params := rr.length.symm.trans hl
    rw [next_eq hd hlen] at hp
    exact run_ofS (CX := L2.CX P w) m3 m4 S hrm e0 hb rv (hl.trans l1.symm) fun hrd => next_run W h2 h1 h0 hr S l1 l2 ck lam hg hrd k rr hlen hp
  exact ⟨fa, _, ps, F, m1, m2, m5⟩
theorem calls_none (j : Nat) (W : Wd P w K mg base Y g p r) : CallsAt P w K mg base Y g j Calls.none := by
  intro f n hf
  obtain ⟨d, hd, hn, D⟩ := W.dfs f n hf
  obtain ⟨N, ps, full, fa, pa, bd, sc, dV, kV, doc, pm, cdv, ct, oc, an, od, osl, m1, m2, m3, m4, m5, S, l1, l2, ck, lam, _⟩ := D.ok
  subst hn
  exact ⟨fa, _, ps, ⟨fun vs H Q E ⟨Z, ms, st, ds, k, rr, hl, hp⟩ => hl.trans l1.symm, fun A outer s H args us vs Q E hrm hg e0 hb rv ⟨Z, ms, st, ds, k, rr, hl, hp⟩ => (show False from hp).elim⟩, m1, m2, m5⟩
theorem calls_lv (W : Wd P w K mg base Y g p r) : ∀ k : Nat, CallsAt P w K mg base Y g (r + 2 + k) (p.lv k).1 ∧ CallsAt P w K mg base Y g (r + 1 + k) (p.lv k).2.1 ∧ CallsAt P w K mg base Y g (r + k) (p.lv k).2.2
  | 0 => ⟨calls_none _ W, calls_none _ W, calls_none _ W⟩
  | k + 1 => by
    obtain ⟨h2, h1, h0⟩ := calls_lv W k
    refine ⟨?_, h2.mono (by omega), h1.mono (by omega)⟩
    have := call_next W (j := r + k) (h2.mono (by omega)) (h1.mono (by omega)) h0 (by omega)
    exact this.mono (by omega)
end Sw

set_option Elab.async false
set_option linter.all false
set_option maxRecDepth 100000
set_option maxHeartbeats 2000000
/-! Sw, part Z: the end of a law (after the kit's end with tables; for defs that are called where no guard is open). Printed by mkz.py. -/
namespace Sw
open PySem PySem.Spec PyProof.Rows L2 LamX
theorem law_callG {Pg : Program} {wd : World} {Kf : PySem.W.Frag} {gm gb : Str → Option Value} {rm : Nat} {fo a : Addr} {tbs : List (Addr × Addr)} {prm : Sp} {s1 : Shared} {us : List Value} {zs : List Int}
    (inK : Kf.In s1.heap) (nsG : s1.heap.Ns mainGlobals gm) (nsB : s1.heap.Ns builtinsNs gb) (blt : ∀ pn : Str, pn ≠ "__name__" → gb pn = bootBuiltins pn) (nol : s1.heap.NoLimit) (hg : s1.gens = #[])
    (tabE : ∀ p ∈ tbs, s1.heap.get? p.2 = some { cls := .none, data := .fields #[] }) (tabK : ∀ p ∈ tbs, Kf.lookup p.2 = none) (hdC : ∀ p ∈ tbs, PySem.W.CodeHd s1.heap p.1 p.2)
    (mainB : ∃ (bm : Addr) (ob : Obj), gm "__builtins__" = some (.ref bm) ∧ bm ≠ builtinsNs ∧ s1.heap.get? bm = some ob ∧ ob.cls = .type "module" ∧ ob.dict = some builtinsNs ∧ ob.data = .plain)
    (obA : s1.heap.get? a = some { cls := .type "list", data := .seq us.toArray }) (intA : IntsAre us zs) (lenA : zs.length ≤ sizeLine) (room : Room rm callerA)
    (F : ∀ base : Heap, Kf.In base → base.Ns mainGlobals gm → (∀ p ∈ tbs, TabB base gm p.1 p.2) → ∃ fdat ps, FnG Pg wd Kf gm base rm fo fdat ps prm ∧ Binds Kf fdat ps [])
    (prom : ∀ H : Hp, (∀ p ∈ tbs, H p.2 = some (.tbl #[])) → SqL Kf H a (zs.map V.int) → prm [.ref a] H (fun v _ => v = .bl true) fun _ _ _ => False)
    (hCX : ∀ H e s', L2.CX Pg wd [] H s1 (fun _ _ _ => False) e s' → False) :
    codeAny (model Pg wd) callerA (.call (.ref fo) ⟨[.ref a], []⟩) (fun r s' => r = .ok (.ret (.bool true)) ∧ OldK s1.heap s'.heap ∧ s'.os = s1.os ∧ AllBare s'.gens) s1 := by
  have relU := vals_ints intA
  have lenU := intA.length
  have tabAt : ∀ b : Addr, b ∈ tbs.map (·.2) → s1.heap.get? b = some { cls := .none, data := .fields #[] } := fun b nsB => by
    obtain ⟨p, hp, e⟩ := List.mem_map.mp nsB
    rw [← e]
    exact tabE p hp
  have notT : a ∉ tbs.map (·.2) := fun z => by
    have q := tabAt a z
    rw [obA] at q
    have z' : Data.seq us.toArray _ = Data.fields #[] := congrArg Obj.data (Option.some.inj q)
    cases z'
  have inT : ∀ p ∈ tbs, p.2 ∈ tbs.map (·.2) := fun p hp => List.mem_map.mpr ⟨p, hp, rfl⟩
  have main_ : ∀ H : Hp, (∀ p ∈ tbs, H p.2 = some (.tbl #[])) → (∀ b, H b = none ∨ b ∈ tbs.map (·.2) ∨ ∃ o xs, H b = some (.frz o (.lst xs))) → SqL Kf H a (zs.map V.int) → HOk Pg wd H s1.heap → (∀ b, H b ≠ none → b = a ∨ b ∈ tbs.map (·.2)) → (H a ≠ none → Kf.lookup a = none) →
      codeAny (model Pg wd) callerA (.call (.ref fo) ⟨[.ref a], []⟩) (fun r s' => r = .ok (.ret (.bool true)) ∧ OldK s1.heap s'.heap ∧ s'.os = s1.os ∧ AllBare s'.gens) s1 := by
    intro H atT kinds sqH okH onlyA freeK
    have toBase : ∀ {b : Addr} {o : Obj}, s1.heap.get? b = some o → H b = none → (hidT s1.heap H).get? b = some o := fun e most => hidT_get e most
    have plainAt : ∀ {b : Addr} {o : Obj}, s1.heap.get? b = some o → (∀ us most, o.data ≠ .seq us most) → o.data ≠ .fields #[] → H b = none := fun {b o} e h1 h2 => by
      cases q : H b with
      | none => rfl
      | some u =>
        rcases onlyA b (by rw [q]; simp) with e' | e'
        · rw [e', obA] at e
          cases e
          exact (h1 _ _ rfl).elim
        · rw [tabAt b e'] at e
          cases e
          exact (h2 rfl).elim
    have dictAt : ∀ {b : Addr} {o : Obj} {es : Array DictEntry} {ep : Nat}, s1.heap.get? b = some o → o.data = .dict es ep → H b = none := fun {b o es ep} e d => by
      refine plainAt e (fun us most z => ?_) fun z => ?_
      · rw [d] at z
        cases z
      · rw [d] at z
        cases z
    have nsAt : ∀ {b : Addr} {m : Str → Option Value}, s1.heap.Ns b m → (hidT s1.heap H).Ns b m := fun {b m} ⟨o, es, ep, e, d, r⟩ => ⟨o, es, ep, toBase e (dictAt e d), d, r⟩
    have kIn : Kf.In (hidT s1.heap H) := fun b o e => toBase (inK b o e) (by
      cases q : H b with
      | none => rfl
      | some u =>
        rcases onlyA b (by rw [q]; simp) with e' | e'
        · rw [e'] at e q
          rw [freeK (by rw [q]; simp)] at e
          cases e
        · obtain ⟨p, hp, ep⟩ := List.mem_map.mp e'
          rw [← ep, tabK p hp] at e
          cases e)
    have md : L2.Mod Kf gm (hidT s1.heap H) := ⟨kIn, nsAt nsG, ⟨gb, nsAt nsB, blt⟩, let ⟨mc, h1, h2⟩ := nol; ⟨mc, nsAt h1, h2⟩⟩
    have tabs_ : ∀ p ∈ tbs, TabB (hidT s1.heap H) gm p.1 p.2 := fun p hp => by
      have tp := tabE p hp
      refine ⟨?_, ?_, fun z => ?_⟩
      · obtain ⟨o, us, file, tf, flags, tg, inF, text, tt, e1, r1, r2, r3, r4, r5, r6, r7, r8, hne⟩ := hdC p hp
        refine ⟨o, us, file, tf, flags, tg, inF, text, tt, toBase e1 (plainAt e1 (fun us most z => ?_) fun z => ?_), r1, r2, r3, r4, r5, r6, r7, r8, hne⟩
        · rw [r2] at z
          cases z
        · rw [r2] at z
          cases z
          simp at r3
      · obtain ⟨bm, ob, b1, b2, b3, b4, b5, b6⟩ := mainB
        have neG : bm ≠ mainGlobals := fun q => by
          obtain ⟨o, es, ep, e, hd, _⟩ := nsG
          rw [q, e] at b3
          cases b3
          rw [hd] at b6
          cases b6
        have neP : bm ≠ p.2 := fun q => by
          rw [q, tp] at b3
          cases b3
          cases b6
        refine ⟨bm, ob, b1, b2, neG, neP, toBase b3 (plainAt b3 (fun us most z => ?_) fun z => ?_), b4, b5, b6⟩
        · rw [b6] at z
          cases z
        · rw [b6] at z
          cases z
      · obtain ⟨o, es, ep, e, hd, _⟩ := nsG
        rw [z, tp] at e
        cases e
        cases hd
    have env0_ : Env0 Pg wd Kf gm (hidT s1.heap H) callerA [] s1 H := ⟨rfl, md, fun b o e => of_hidT e, Nat.le_of_eq (hidT_size _ _), trivial, fun b nsB => absurd (show b ∈ ([] : List Addr) from nsB) (by simp), okH, .of_eq hg⟩
    obtain ⟨fdat, ps, FF, bb⟩ := F _ kIn (nsAt nsG) tabs_
    have lenP : 1 = ps.length := FF.len _ _ _ _ (prom H atT sqH)
    refine codeAny_mono (FF.run callerA [] s1 H ⟨[.ref a], []⟩ [.ref a] [.ref a] _ _ room rfl env0_ (by simpa using bb s1 [.ref a] inK (by simpa using lenP)) (.cons rfl .nil) (prom H atT sqH)) fun r s' h => ?_
    cases r with
    | error e => exact (hCX H e s' h).elim
    | ok fl =>
      cases fl with
      | next => exact False.elim h
      | brk => exact False.elim h
      | cont => exact False.elim h
      | ret u =>
        obtain ⟨v, H', os, bare, un, hok', r', q⟩ := h
        have q' : v = .bl true := q
        subst q'
        obtain rfl : u = Value.bool true := r'
        have kept_ : ∀ b o, b ∉ tbs.map (·.2) → s1.heap.get? b = some o → s'.heap.get? b = some o := fun b o nb e => by
          cases q : H b with
          | none => exact un.keep b o e q (by intro z; exact absurd (show b ∈ ([] : List Addr) from z) (by simp)) (by simp)
          | some u =>
            rcases kinds b with z | z | ⟨ob, xs, z⟩
            · rw [q] at z; cases z
            · exact absurd z nb
            · have z2 := un.frzs b ob _ z
              obtain ⟨e1, _⟩ := okH b _ z
              obtain ⟨e2, _⟩ := hok' b _ z2
              rw [e] at e1; cases e1
              exact e2
        have longer : ∀ p ∈ tbs, ∃ more : Array Value, s'.heap.get? p.2 = some { cls := .none, data := .fields more } := fun p hp => by
          obtain ⟨more, z⟩ := un.tbls p.2 #[] (atT p hp)
          exact ⟨_, hok' p.2 _ z⟩
        refine ⟨rfl, ⟨fun b o e => ?_, fun b o e => ?_⟩, os, bare⟩
        · by_cases nsB : b ∈ tbs.map (·.2)
          · obtain ⟨p, hp, ep⟩ := List.mem_map.mp nsB
            obtain ⟨more, hm⟩ := longer p hp
            rw [← ep] at e ⊢
            rw [tabE p hp] at e
            cases e
            exact .inr (.inl ⟨((hdC p hp).tab (tabE p hp)).isCodeTable, rfl, #[], more, rfl, by rw [Array.empty_append]; exact hm⟩)
          · exact .inl (kept_ b o nsB e)
        · by_cases nsB : b ∈ tbs.map (·.2)
          · obtain ⟨p, hp, ep⟩ := List.mem_map.mp nsB
            obtain ⟨more, hm⟩ := longer p hp
            rw [← ep]
            exact ⟨_, hm⟩
          · exact ⟨o, kept_ b o nsB e⟩
  cases hk : Kf.lookup a with
  | some o =>
    have e := inK a o hk
    rw [obA] at e
    cases e
    refine main_ (fun b => if b ∈ tbs.map (·.2) then some (.tbl #[]) else none) (fun p hp => if_pos (inT p hp)) (fun b => ?_) (.inr ⟨_, us.toArray, _, hk, rfl, rfl, rfl, by rw [List.size_toArray, lenU]; exact lenA, by simpa using relU⟩) (fun b u z => ?_) (fun b z => ?_) fun z => absurd (show (if a ∈ tbs.map (·.2) then some (HO.tbl #[]) else none) = none from if_neg notT) z
    · by_cases nsB : b ∈ tbs.map (·.2)
      · exact .inr (.inl nsB)
      · exact .inl (if_neg nsB)
    · by_cases nsB : b ∈ tbs.map (·.2)
      · have z' := (if_pos nsB).symm.trans z
        cases z'
        exact tabAt b nsB
      · have z' := (if_neg nsB).symm.trans z
        cases z'
    · by_cases nsB : b ∈ tbs.map (·.2)
      · exact .inr nsB
      · exact absurd (if_neg nsB) z
  | none =>
    refine main_ (fun b => if b = a then some (.frz { cls := .type "list", data := .seq us.toArray } (.lst (zs.map V.int))) else if b ∈ tbs.map (·.2) then some (.tbl #[]) else none) (fun p hp => (if_neg (show ¬ p.2 = a from fun z => notT (by rw [← z]; exact inT p hp))).trans (if_pos (inT p hp))) (fun b => ?_)
      (.inl (.inr ⟨{ cls := .type "list", data := .seq us.toArray }, if_pos rfl⟩)) (fun b u z => ?_) (fun b z => ?_) fun _ => hk
    · by_cases nsB : b = a
      · exact .inr (.inr ⟨_, _, if_pos nsB⟩)
      · by_cases hb2 : b ∈ tbs.map (·.2)
        · exact .inr (.inl hb2)
        · exact .inl ((if_neg nsB).trans (if_neg hb2))
    · by_cases nsB : b = a
      · have z' := (if_pos nsB).symm.trans z
        cases z'
        rw [nsB]
        exact ⟨obA, by rw [List.length_map]; exact lenA, us, _, relU, obA⟩
      · have z1 := (if_neg nsB).symm.trans z
        by_cases hb2 : b ∈ tbs.map (·.2)
        · have z' := (if_pos hb2).symm.trans z1
          cases z'
          exact tabAt b hb2
        · have z' := (if_neg hb2).symm.trans z1
          cases z'
    · by_cases nsB : b = a
      · exact .inl nsB
      · by_cases hb2 : b ∈ tbs.map (·.2)
        · exact .inr hb2
        · exact absurd ((if_neg nsB).trans (if_neg hb2)) z
end Sw

set_option Elab.async false
set_option linter.all false
set_option maxRecDepth 100000
set_option maxHeartbeats 1000000
/-! Sw, part X: own errors: C(v, ..), C's __init__ saying super().__init__(v, ..) and keeping each argument under its name. -/
namespace Sw
open PySem PySem.W PySem.Calls PySem.Spec PyProof.Rows
section
variable {prog : Program} {w : World} {A : Around} {E : Value → Shared → Prop} {h : Heap} {g : Array GenState} {d : Drawn} {t : Nat} {os : OsState}
/-- super() in __init__ of the class at C, self at x -/
theorem sup_here {body : List Stmt} {q : Str} {sc : Scope} {p0 p1 : Pos} {attr : Str} {whole : Sem Value} {L x C f cda cc : Addr} {of oc ox oC cl : Obj} {fd : FuncData} {ar : Arg} {vs : Array Value} {file : Str} {tf : Tok} {cd : ClassData} {m mg mb : Str → Option Value} {Q : Value → Shared → Prop}
    (hn : h.Ns L m) (hv : m ar.arg = some (.ref x)) (hf : h.get? f = some of) (hfd : of.data = .func fd) (hp : (fd.params.posonlyargs ++ fd.params.args).head? = some ar)
    (hcode : h.get? cda = some oc) (hoc : oc.data = .fields vs) (hvs : vs[2]? = some (.str file tf)) (hfile : ((prog.main.file : Str) == file) = true)
    (hcell : h.get? cc = some cl) (hcl : cl.data = .cell (some (.ref C))) (hC : h.get? C = some oC) (hCd : oC.data = .cls cd) (hx : h.get? x = some ox) (hxc : ox.cls = .ref C) (hnc : ∀ c, ox.data ≠ .cls c)
    (hsub : Looks (model prog w) h (isSubtype (.ref C) (.ref C)) true) (hg : h.Ns mainGlobals mg) (gs : mg "super" = none) (hb : h.Ns builtinsNs mb) (bs : mb "super" = some (.type "super"))
    (hat : (attr == ("__class__" : Str)) = false) (hks : sc.names.lookup ("super" : Str) = some .globalImplicit) (hkc : sc.names.lookup ("__class__" : Str) = some .free) (hka : sc.names.lookup ar.arg = some .local) (hk : sc.kind = .function)
    (htop : (prog.main.scope.names.lookup ("super" : Str)).isSome = false)
    (hq : ∀ h', h'.get? h.objs.size = some (ks_superObj C x C) → (∀ y o, h.get? y = some o → h'.get? y = some o) → Q (.ref h.objs.size) ⟨h', g, d, t, os⟩) :
    _root_.PySem.wpAt (model prog w) A (.func body (ksEnv q sc L f (.ref cda) cc)) (attributeBase (.Call (.Name "super" p0) [] [] p1) attr (ksEnv q sc L f (.ref cda) cc) whole) Q E ⟨h, g, d, t, os⟩ := by
  refine ks_wpAt_super_base (env := ksEnv q sc L f (.ref cda) cc) hks hkc hat rfl hf hfd hp rfl hcode hoc hvs hfile htop ?_
  refine ks_loadName_global hk hks (PySem.Calls.loadGlobal_builtin (env := ksEnv q sc L f (.ref cda) cc) hg gs hb bs ⟨rfl, ?_⟩)
  refine wpAny_loadName_free hk hkc rfl ⟨_, hcell, hcl⟩ ?_
  refine wpAny_loadName_local hk hka hn hv ?_
  refine ks_wpAny_isType_cls hC hCd ⟨rfl, ?_⟩
  exact ks_wpAny_call_super hC hCd hx hxc hnc hsub hq
/-- the bound ValueError.__init__ is called -/
theorem bound_call {nm q : Str} {C N u x t0 : Addr} {bs bm : List Value} {hdct : Bool} {sn : List Str} {sub : List Value} {ab : Bool} {col : Option Bool} {dd : Option Addr} {k0 k1 k2 k3 k5 : Option Value} {rest : List Value} {Q : Value → Shared → Prop}
    (hC : h.get? C = some (excClassObj nm q C N bs bm hdct sn sub ab col dd k0 k1 k2 k3 k5 "ValueError.__new__")) (hu : h.get? u = some (kxs_mw "ValueError.__init__" x)) (hx : h.get? x = some (excObj C t0 none .none)) (hz : rest.length ≤ sizeLine)
    (hq : ∀ h' t1, (∀ b o, b ≠ x → h.get? b = some o → h'.get? b = some o) → h'.get? x = some (excObj C t1 none .none) → Q .none ⟨h', g, d, t, os⟩) :
    wpAny (model prog w) A (call (.ref u) rest) Q E ⟨h, g, d, t, os⟩ := by
  have FB := F.excBase_ValueError
  refine wpAny_call (codeAny_of_tree ?_)
  show wpAny _ A.in1 (callAny (.ref u) ⟨rest, []⟩) _ _ _
  simp only [callAny]
  refine wpAny_bind (wpAny_load hu ?_)
  simp only [kxs_mw, show (Value.type "method-wrapper" == Value.type "method" || Value.type "method-wrapper" == Value.type "builtin_function_or_method" || Value.type "method-wrapper" == Value.type "method-wrapper") = true from by decide, if_true]
  refine KFB.if_so (by decide) (wpAny_bind (check_bound_init FB.toExcCallFacts hC hx rfl (wpAny_bind (wpAny_pure (wpAny_pure ?_)))))
  refine ⟨plainId_quiet FB.init.plain _, codeAny_builtin FB.initEntry ?_⟩
  exact exc_init_tree (cls := .ref C) (t0 := t0) (dv := none) (c2 := .none) (c3 := .none) (b4 := .bool false) hx hz fun h' k e' _ => hq h' _ k e'
end
/-- self.f = f, one after the other -/
inductive Stores (sf : Str) : List Str → List Stmt → Prop
  | nil : Stores sf [] []
  | cons {f : Str} {fs : List Str} {bd : List Stmt} {q1 q2 q3 q4 : Pos} : Stores sf fs bd → Stores sf (f :: fs) (.Assign [.Attribute (.Name sf q1) f q2] (.Name f q3) q4 :: bd)
/-- what is known of the class at C -/
structure ECls (K : Frag) (C : Addr) (fs : List Str) : Prop where
  cls : ∃ nm q N bs bm sn sub ab col dd k0 k1 k2 k3 k5, K.lookup C = some (excClassObj nm q C N bs bm true sn sub ab col dd k0 k1 k2 k3 k5 "ValueError.__new__") ∧ PySem.HandSPX.refsVE bm = true
  sa : findIn K (.ref C) "__setattr__" = some (some (.builtin "object.__setattr__"))
  no : ∀ f ∈ fs, findIn K (.ref C) f = some none
section
variable {prog : Program} {w : World} {A : Around} {E : Value → Shared → Prop}
theorem ld_here {M : Model} {s : Shared} {env : Env} {L : Addr} {m : Str → Option Value} {x : Str} {pos : Pos} {v : Value} {Q : Value → Shared → Prop} (hn : s.heap.Ns env.locals m) (hv : m x = some v) (hk : env.scope.kind = .function) (hl : env.kindOf x = some .local) (hd : (x == ("__debug__" : Str)) = false) (h : Q v s) :
    wpAny M A (eval (.Name x pos) env) Q E s := wpAny_Name (wpAny_loadName_local hk hl hn hv h) hd
/-- the fields that follow, the dict being there -/
theorem stores_more {sf : Str} {env : Env} {K : Frag} {C x dx t1 : Addr} {allf : List Str} (TC : ECls K C allf) (hk : env.scope.kind = .function) (hsf : env.kindOf sf = some .local) (dsf : (sf == ("__debug__" : Str)) = false) :
    ∀ {fs : List Str} {bd : List Stmt}, Stores sf fs bd → ∀ {h : Heap} {g : Array GenState} {d : Drawn} {t : Nat} {os : OsState} {m mD : Str → Option Value} {nl : List Str} {Q : PySem.Flow → Shared → Prop}, (∀ f ∈ fs, f ∈ allf ∧ env.kindOf f = some .local ∧ (f == ("__debug__" : Str)) = false ∧ ∃ v, m f = some v) → K.In h → K.lookup dx = none →
      h.Ns env.locals m → m sf = some (.ref x) → env.locals ≠ dx → x ≠ dx → h.get? x = some { cls := .ref C, dict := some dx, data := .fields #[.ref t1, .none, .none, .none, .bool false, .none] } → h.Ns1 dx mD → Within mD nl → nl.length + fs.length ≤ 1000 →
      (∀ h' t' mD', (∀ b o, b ≠ dx → h.get? b = some o → h'.get? b = some o) → h'.Ns1 dx mD' → (∀ y, mD' y = if y ∈ fs then m y else mD y) → Q .next ⟨h', g, d, t', os⟩) → wpAny (model prog w) A (PySem.execs bd env) Q E ⟨h, g, d, t, os⟩
  | _, _, .nil, h, g, d, t, os, m, mD, nl, Q, hfs, X, hdx, hn, hself, hL, hxd, hx, hns, hw, hz, hq => wpAny_execs_nil (hq h t mD (fun _ _ _ e => e) hns fun y => by simp)
  | _, _, @Stores.cons _ f fs bd q1 q2 q3 q4 r, h, g, d, t, os, m, mD, nl, Q, hfs, X, hdx, hn, hself, hL, hxd, hx, hns, hw, hz, hq => by
    obtain ⟨f1, f2, f3, v, f4⟩ := hfs f List.mem_cons_self
    obtain ⟨nm, q, N, bs, bm, sn, sub, ab, col, dd, k0, k1, k2, k3, k5, hC, hbm⟩ := TC.cls
    have hcl : clsIn K C = some { name := nm, bases := bs, mro := .ref C :: bm, ns := N, qualname := q, hasDict := true, slotNames := sn, subclasses := sub, abstract := ab, collection := col, hasDel := false } := by unfold clsIn; rw [hC] <;> rfl
    obtain ⟨oD, es, ep, hoD, hdD, _⟩ := hns.count hw
    refine wpAny_execs_cons (plainObj_wpAny_Assign_Attribute (ld_here (s := ⟨h, g, d, t, os⟩) (L := env.locals) hn f4 hk f2 f3 (ld_here (s := ⟨h, g, d, t, os⟩) (L := env.locals) hn hself hk hsf dsf ?_)))
    refine set_plain X (ox := { cls := .ref C, dict := some dx, data := .fields #[.ref t1, .none, .none, .none, .bool false, .none] }) (od := some oD) ⟨hx, rfl, rfl, hoD⟩ TC.sa ?_
    refine PySem.OEX.osa_old X hx hns hw (by rw [List.length_cons] at hz; omega) hcl (show PySem.HandSPX.refsVE (.ref C :: bm) = true from hbm) rfl (TC.no f f1) fun h' t' k' hns' => ?_
    have hn' : h'.Ns env.locals m := by
      obtain ⟨o, es, ep, e, rest⟩ := hn
      exact ⟨o, es, ep, k' _ _ hL e, rest⟩
    refine stores_more TC hk hsf dsf r (fun f' hf' => hfs f' (List.mem_cons_of_mem _ hf')) (fun b o e => k' b o (fun z => by rw [z, hdx] at e; cases e) (X b o e)) hdx hn' hself hL hxd (k' _ _ hxd hx) hns' (Within.cons f v hw) (by rw [List.length_cons] at hz ⊢; omega) fun h2 t2 mD2 k2 hns2 e2 => ?_
    refine hq h2 t2 mD2 (fun b o hb e => k2 b o hb (k' b o hb e)) hns2 fun y => ?_
    rw [e2 y]
    by_cases h1 : y ∈ fs
    · rw [if_pos h1, if_pos (List.mem_cons_of_mem _ h1)]
    · rw [if_neg h1]
      by_cases h2 : y = f
      · rw [if_pos h2, if_pos (h2 ▸ List.mem_cons_self), h2, f4]
      · rw [if_neg h2, if_neg (fun z => (List.mem_cons.mp z).elim h2 h1)]
/-- what a made error leaves -/
structure MadeE (h h' : Heap) (x C dx : Addr) (mD : Str → Option Value) : Prop where
  keep : ∀ b o, b ≠ x → h.get? b = some o → h'.get? b = some o
  obj : ∃ t1, h'.get? x = some { cls := .ref C, dict := some dx, data := .fields #[.ref t1, .none, .none, .none, .bool false, .none] }
  big : h.objs.size ≤ dx
  ne : dx ≠ x
  ns : h'.Ns1 dx mD
theorem stores_first {sf : Str} {env : Env} {K : Frag} {C x t1 : Addr} {allf : List Str} (TC : ECls K C allf) (hk : env.scope.kind = .function) (hsf : env.kindOf sf = some .local) (dsf : (sf == ("__debug__" : Str)) = false) {f : Str} {fs : List Str} {bd : List Stmt} (r : Stores sf (f :: fs) bd)
    {h : Heap} {g : Array GenState} {d : Drawn} {t : Nat} {os : OsState} {m : Str → Option Value} {Q : PySem.Flow → Shared → Prop} (hfs : ∀ f' ∈ f :: fs, f' ∈ allf ∧ env.kindOf f' = some .local ∧ (f' == ("__debug__" : Str)) = false ∧ ∃ v, m f' = some v) (X : K.In h)
    (hn : h.Ns env.locals m) (hself : m sf = some (.ref x)) (hx : h.get? x = some (excObj C t1 none .none)) (hL : env.locals ≠ x) (hxK : K.lookup x = none) (hz : fs.length ≤ 900)
    (hq : ∀ h' t' dx mD, MadeE h h' x C dx mD → (∀ y, mD y = if y ∈ f :: fs then m y else none) → Q .next ⟨h', g, d, t', os⟩) : wpAny (model prog w) A (PySem.execs bd env) Q E ⟨h, g, d, t, os⟩ := by
  cases r with
  | @cons _ _ bd q1 q2 q3 q4 r =>
    obtain ⟨f1, f2, f3, v, f4⟩ := hfs f List.mem_cons_self
    obtain ⟨nm, q, N, bs, bm, sn, sub, ab, col, dd, k0, k1, k2, k3, k5, hC, hbm⟩ := TC.cls
    have hcl : clsIn K C = some { name := nm, bases := bs, mro := .ref C :: bm, ns := N, qualname := q, hasDict := true, slotNames := sn, subclasses := sub, abstract := ab, collection := col, hasDel := false } := by unfold clsIn; rw [hC] <;> rfl
    refine wpAny_execs_cons (plainObj_wpAny_Assign_Attribute (ld_here (s := ⟨h, g, d, t, os⟩) (L := env.locals) hn f4 hk f2 f3 (ld_here (s := ⟨h, g, d, t, os⟩) (L := env.locals) hn hself hk hsf dsf ?_)))
    refine set_plain X (ox := excObj C t1 none .none) (od := none) ⟨hx, rfl, rfl, trivial⟩ TC.sa ?_
    refine PySem.HandSPX.exc_osa X hx hcl (show PySem.HandSPX.refsVE (.ref C :: bm) = true from hbm) rfl (TC.no f f1) fun h1 t' dx k1 big ne hx1 hns1 => ?_
    have hLlt : env.locals < h.objs.size := hn.lt
    have big : h.objs.size ≤ dx := big
    have hLd : env.locals ≠ dx := Nat.ne_of_lt (Nat.lt_of_lt_of_le hLlt big)
    have hdK : K.lookup dx = none := by
      cases e : K.lookup dx with
      | none => rfl
      | some o =>
        have z := Heap.lt_size (X _ _ e)
        exact absurd (Nat.lt_of_lt_of_le z big) (Nat.lt_irrefl _)
    have hn1 : h1.Ns env.locals m := by
      obtain ⟨o, es, ep, e, rest⟩ := hn
      exact ⟨o, es, ep, k1 _ _ hL e, rest⟩
    refine stores_more TC hk hsf dsf r (fun f' hf' => hfs f' (List.mem_cons_of_mem _ hf')) (fun b o e => k1 b o (fun z => by rw [z, hxK] at e; cases e) (X b o e)) hdK hn1 hself hLd (Ne.symm ne) hx1 hns1 (nl := [f]) (Within.cons f v (fun y hy => absurd rfl hy)) (by rw [List.length_singleton]; omega) fun h2 t2 mD2 k2 hns2 e2 => ?_
    · refine hq h2 t2 dx mD2 ⟨fun b o hb e => k2 b o (fun z => ?_) (k1 b o hb e), ⟨t1, k2 _ _ (Ne.symm ne) hx1⟩, big, ne, hns2⟩ fun y => ?_
      · have z2 := Heap.lt_size e
        rw [z] at z2
        exact absurd (Nat.lt_of_lt_of_le z2 big) (Nat.lt_irrefl _)
      · rw [e2 y]
        by_cases h1 : y ∈ fs
        · rw [if_pos h1, if_pos (List.mem_cons_of_mem _ h1)]
        · rw [if_neg h1]
          by_cases h2 : y = f
          · rw [if_pos h2, if_pos (h2 ▸ List.mem_cons_self), h2, f4]
          · rw [if_neg h2, if_neg (fun z => (List.mem_cons.mp z).elim h2 h1)]
/-- names as arguments -/
inductive ArgN : List Str → List Expr → Prop
  | nil : ArgN [] []
  | cons {f : Str} {fs : List Str} {es : List Expr} {q : Pos} : ArgN fs es → ArgN (f :: fs) (.Name f q :: es)
theorem names_run {M : Model} {env : Env} {pos : Pos} (hk : env.scope.kind = .function) {h : Heap} {g : Array GenState} {d : Drawn} {t : Nat} {os : OsState} {m : Str → Option Value} (hn : h.Ns env.locals m) :
    ∀ {fs : List Str} {es : List Expr} {vs : List Value}, ArgN fs es → fs.map m = vs.map some → (∀ f ∈ fs, env.kindOf f = some .local ∧ (f == ("__debug__" : Str)) = false) → ∀ {Q : List Value → Shared → Prop}, Q vs ⟨h, g, d, t, os⟩ →
      wpAny M A (spliced (backTo pos (starEach es env))) Q E ⟨h, g, d, t, os⟩
  | _, _, vs, .nil, e, _, Q, q => by
    cases vs with
    | nil => exact Calls.spliced_nil q
    | cons _ _ => cases e
  | _, _, vs, .cons r, e, hf, Q, q => by
    cases vs with
    | nil => cases e
    | cons v vs =>
      rw [List.map_cons, List.map_cons] at e
      injection e with e1 e2
      obtain ⟨f1, f2⟩ := hf _ List.mem_cons_self
      exact Calls.spliced_cons (ld_here (s := ⟨h, g, d, t, os⟩) (L := env.locals) hn e1 hk f1 f2 (names_run hk hn r e2 (fun f h => hf f (List.mem_cons_of_mem _ h)) q))
abbrev supE (p0 p1 p2 p3 : Pos) (es : List Expr) : Expr := .Call (.Attribute (.Call (.Name "super" p0) [] [] p1) "__init__" p2) es [] p3
/-- what the written part says of super() in C's __init__ -/
structure SupK (prog : Program) (K : Frag) (C : Addr) : Prop where
  opq : nsIn K cStatics "thirdparty.any" = some none
  sup : ks_superIn K C C "__init__" = some (some (.builtin "ValueError.__init__"))
  ve : subIn K (.ref C) (.type "ValueError") = some true
  slf : mroIn K C (.ref C) = some true
  top : (prog.main.scope.names.lookup ("super" : Str)).isSome = false
theorem sup_stmt {q : Str} {sc : Scope} {p0 p1 p2 p3 p4 : Pos} {body : List Stmt} {L x C f cda cc t0 : Addr} {of oc cl : Obj} {fd : FuncData} {ar : Arg} {vs : Array Value} {file : Str} {tf : Tok} {m mg mb : Str → Option Value} {K : Frag} {allf fs : List Str} {es : List Expr} {us : List Value} {Q : PySem.Flow → Shared → Prop}
    {h : Heap} {g : Array GenState} {d : Drawn} {t : Nat} {os : OsState} (TC : ECls K C allf) (TS : SupK prog K C) (X : K.In h)
    (hn : h.Ns L m) (hv : m ar.arg = some (.ref x)) (hf : h.get? f = some of) (hfd : of.data = .func fd) (hp : (fd.params.posonlyargs ++ fd.params.args).head? = some ar)
    (hcode : h.get? cda = some oc) (hoc : oc.data = .fields vs) (hvs : vs[2]? = some (.str file tf)) (hfile : ((prog.main.file : Str) == file) = true)
    (hcell : h.get? cc = some cl) (hcl : cl.data = .cell (some (.ref C))) (hx : h.get? x = some (excObj C t0 none .none)) (hg : h.Ns mainGlobals mg) (gs : mg "super" = none) (hb : h.Ns builtinsNs mb) (bs : mb "super" = some (.type "super"))
    (hks : sc.names.lookup ("super" : Str) = some .globalImplicit) (hkc : sc.names.lookup ("__class__" : Str) = some .free) (hka : sc.names.lookup ar.arg = some .local) (hk : sc.kind = .function)
    (he : ∃ pl : Sem Bool, eval (supE p0 p1 p2 p3 es) (ksEnv q sc L f (.ref cda) cc) = (do
      let ov ← attributeBase (.Call (.Name "super" p0) [] [] p1) "__init__" (ksEnv q sc L f (.ref cda) cc) (eval (.Call (.Name "super" p0) [] [] p1) (ksEnv q sc L f (.ref cda) cc))
      standAt p2.atName
      let (fn, first) ← holding [ov] (getMethod ov "__init__" pl)
      callWith p3 fn first (backTo p3 (starEach es (ksEnv q sc L f (.ref cda) cc))) []))
    (ra : ArgN fs es) (hne : fs ≠ []) (hm : fs.map m = us.map some) (hfs : ∀ f ∈ fs, sc.names.lookup f = some .local ∧ (f == ("__debug__" : Str)) = false) (hz : us.length ≤ sizeLine)
    (hq : ∀ h' t' t1, (∀ b o, b ≠ x → h.get? b = some o → h'.get? b = some o) → h'.get? x = some (excObj C t1 none .none) → Q .next ⟨h', g, d, t', os⟩) :
    _root_.PySem.wpAt (model prog w) A (.func body (ksEnv q sc L f (.ref cda) cc)) (PySem.exec (.Expr (supE p0 p1 p2 p3 es) p4) (ksEnv q sc L f (.ref cda) cc)) Q E ⟨h, g, d, t, os⟩ := by
  obtain ⟨nm, qn, N, bs', bm, sn, sub, ab, col, dd, k0, k1, k2, k3, k5, hC, hbm⟩ := TC.cls
  have hcd : clsIn K C = some { name := nm, bases := bs', mro := .ref C :: bm, ns := N, qualname := qn, hasDict := true, slotNames := sn, subclasses := sub, abstract := ab, collection := col, hasDel := false } := by unfold clsIn; rw [hC] <;> rfl
  obtain ⟨pl, he⟩ := he
  refine ks_wpAt_Expr_any (ks_wpAt_MethodCall (o := .Call (.Name "super" p0) [] [] p1) (name := "__init__") (apos := p2) (pos := p3) (args := es) (pl := pl) ?_ he) (by simp [interactive, hk]) (by rfl)
  refine sup_here hn hv hf hfd hp hcode hoc hvs hfile hcell hcl (X _ _ hC) rfl hx rfl (fun c e => by cases e) (looks_mroIn X TS.slf) hg gs hb bs (by decide) hks hkc hka hk TS.top fun h2 hso k2 => ?_
  have X2 : K.In h2 := X.keeps k2
  have I2 : InstAt h2 x (excObj C t0 none .none) C none := ⟨k2 _ _ hx, rfl, rfl, trivial⟩
  have hsu : alongIn K "__init__" (((.ref C :: bm).dropWhile (· != .ref C)).drop 1) = some (some (.builtin "ValueError.__init__")) := by
    have z := TS.sup
    unfold ks_superIn at z
    rw [hcd] at z
    exact z
  refine kxs_getMethod kxs_ValueError hso (looks_opaque X2 TS.opq) (l₀ := .ref C :: bm) (fun A Q E s k q => wpAny_bind ((looks_clsIn X2 hcd) A _ E s k (wpAny_pure q))) rfl X2 hsu (I2.type.andThen (looks_subIn X2 TS.ve)) (ks_ne X2 I2 hcd) (by decide) ?_
  have k3' : ∀ b o, h.get? b = some o → (h2.push (kxs_mw "ValueError.__init__" x)).get? b = some o := fun b o e => Heap.get?_push_of_some _ (k2 b o e)
  have hn3 : (h2.push (kxs_mw "ValueError.__init__" x)).Ns L m := by
    obtain ⟨o, es', ep, e, rest⟩ := hn
    exact ⟨o, es', ep, k3' _ _ e, rest⟩
  cases ra with
  | nil => exact absurd rfl hne
  | @cons f1 fs1 es1 q1 r =>
    have hpl : (backTo p3 (starEach es1 (ksEnv q sc L f (.ref cda) cc))).any (·.1) = false := by
      clear hm hfs hne he
      induction r with
      | nil => rfl
      | cons r ih => exact ih
    refine kxs_callWith (i := "ValueError.__init__") (x := x) (by show (false || (backTo p3 (starEach es1 (ksEnv q sc L f (.ref cda) cc))).any (·.1)) = false; rw [hpl]; rfl) (Calls.evalArgs_plain ?_)
    refine names_run (env := ksEnv q sc L f (.ref cda) cc) (pos := p3) hk hn3 (.cons r) hm hfs ⟨Heap.get?_push_size _ rfl, ?_⟩
    refine bound_call (k3' _ _ (X _ _ hC)) (Heap.get?_push_size _ rfl) (k3' _ _ hx) hz fun h4 t1 k4 hx4 => ?_
    exact hq h4 _ t1 (fun b o hb e => k4 b o hb (k3' b o e)) hx4
theorem lookup_none {y : Str} : ∀ {l : List (Str × Value)}, y ∉ l.map (·.1) → l.lookup y = none
  | [], _ => rfl
  | (a, b) :: l, h => by
    rw [List.map_cons, List.mem_cons, not_or] at h
    rw [List.lookup_cons, beq_eq_false_iff_ne.mpr h.1]
    exact lookup_none h.2
theorem lookup_app {y : Str} : ∀ {l l' : List (Str × Value)}, (l ++ l').lookup y = match l.lookup y with
    | some v => some v
    | none => l'.lookup y
  | [], _ => rfl
  | (a, b) :: l, l' => by
    rw [List.cons_append, List.lookup_cons, List.lookup_cons]
    cases y == a with
    | true => rfl
    | false => exact lookup_app
theorem lookup_rev {y : Str} : ∀ {l : List (Str × Value)}, (l.map (·.1)).Nodup → l.reverse.lookup y = l.lookup y
  | [], _ => rfl
  | (a, b) :: l, h => by
    rw [List.map_cons, List.nodup_cons] at h
    rw [List.reverse_cons, lookup_app, lookup_rev h.2]
    by_cases e : y = a
    · subst e
      rw [lookup_none h.1]
      simp [List.lookup]
    · have e' : (y == a) = false := beq_eq_false_iff_ne.mpr e
      simp only [e', List.lookup_nil, List.lookup_cons]
      cases l.lookup y <;> rfl
theorem zip_keys : ∀ {fs : List Str} {us : List Value}, us.length = fs.length → (fs.zip us).map (·.1) = fs := fun e => by rw [List.map_fst_zip (by omega)]
theorem zip_map {m : Str → Option Value} : ∀ {fs : List Str} {us : List Value}, us.length = fs.length → fs.Nodup → (∀ y ∈ fs, m y = (fs.zip us).lookup y) → fs.map m = us.map some
  | [], [], _, _, _ => rfl
  | [], _ :: _, h, _, _ => by cases h
  | _ :: _, [], h, _, _ => by cases h
  | f :: fs, u :: us, h, nd, e => by
    rw [List.nodup_cons] at nd
    rw [List.map_cons, List.map_cons, e f List.mem_cons_self, List.zip_cons_cons, List.lookup_cons, beq_self_eq_true]
    congr 1
    refine zip_map (by simpa using h) nd.2 fun y hy => ?_
    rw [e y (List.mem_cons_of_mem _ hy), List.zip_cons_cons, List.lookup_cons, beq_eq_false_iff_ne.mpr (fun z : y = f => nd.1 (by rw [← z]; exact hy))]
theorem init_run {q : Str} {sc : Scope} {p0 p1 p2 p3 p4 : Pos} {x C fI cda cc t0 : Addr} {ar : Arg} {params : Arguments} {file : Str} {tf : Tok} {mg mb : Str → Option Value} {K : Frag} {f : Str} {fs : List Str} {es : List Expr} {bd : List Stmt} {us cvs : List Value} {cva : Array Value}
    {oc occ occl doc pm ct : Value} {od odc odcl an : Option Addr} {osl oslc oslcl : Array (Option Value)} {R : Result → Shared → Prop} {s : Shared} (TC : ECls K C (f :: fs)) (TS : SupK prog K C) (X : K.In s.heap) (nol : s.heap.NoLimit) (room : A.depth < recursionLimit)
    (lk : K.lookup fI = some ⟨oc, od, .func (ksFn "__init__" q params (.Expr (supE p0 p1 p2 p3 es) p4 :: bd) sc .none .none doc pm an (.ref cda) ct cc), osl⟩) (hcd : codeIn K (.ref cda) q = true) (hp : (params.posonlyargs ++ params.args).head? = some ar)
    (lc : K.lookup cda = some ⟨occ, odc, .fields cva, oslc⟩) (hvs : cva[2]? = some (.str file tf)) (hfile : ((prog.main.file : Str) == file) = true) (lcc : K.lookup cc = some ⟨occl, odcl, .cell (some (.ref C)), oslcl⟩)
    (hx : s.heap.get? x = some (excObj C t0 none .none)) (hxK : K.lookup x = none) (hg : s.heap.Ns mainGlobals mg) (gs : mg "super" = none) (hb : s.heap.Ns builtinsNs mb) (bs : mb "super" = some (.type "super"))
    (hks : sc.names.lookup ("super" : Str) = some .globalImplicit) (hkc : sc.names.lookup ("__class__" : Str) = some .free) (hk : sc.kind = .function) (hco : sc.isCoroutine = false) (hgen : sc.isGenerator = false) (noc : ∀ y ∈ sc.names, y.2 ≠ .cell)
    (he : ∀ L, ∃ pl : Sem Bool, eval (supE p0 p1 p2 p3 es) (ksEnv q sc L fI (.ref cda) cc) = (do
      let ov ← attributeBase (.Call (.Name "super" p0) [] [] p1) "__init__" (ksEnv q sc L fI (.ref cda) cc) (eval (.Call (.Name "super" p0) [] [] p1) (ksEnv q sc L fI (.ref cda) cc))
      standAt p2.atName
      let (fn, first) ← holding [ov] (getMethod ov "__init__" pl)
      callWith p3 fn first (backTo p3 (starEach es (ksEnv q sc L fI (.ref cda) cc))) []))
    (ra : ArgN (f :: fs) es) (rs : Stores ar.arg (f :: fs) bd) (hz : fs.length ≤ 900) (hl : us.length = fs.length + 1) (kinds : ∀ y ∈ ar.arg :: f :: fs, sc.names.lookup y = some .local ∧ (y == ("__debug__" : Str)) = false) (nd : (ar.arg :: f :: fs).Nodup)
    (bnd : BindsTo s (ksFn "__init__" q params (.Expr (supE p0 p1 p2 p3 es) p4 :: bd) sc .none .none doc pm an (.ref cda) ct cc) ⟨.ref x :: us, []⟩ ((ar.arg, .ref x) :: (f :: fs).zip us))
    (hq : ∀ h' t' dx mD, MadeE s.heap h' x C dx mD → (∀ y, mD y = if y ∈ f :: fs then ((f :: fs).zip us).lookup y else none) → R (.ok (.ret .none)) { s with heap := h', toks := t' }) :
    codeAny (model prog w) A (.call (.ref fI) ⟨.ref x :: us, []⟩) R s := by
  have hloc : ∀ y ∈ (ar.arg, Value.ref x) :: (f :: fs).zip us, sc.names.lookup y.1 = some .local := fun y hy => by
    rcases List.mem_cons.mp hy with rfl | hy
    · exact (kinds _ List.mem_cons_self).1
    · exact (kinds _ (List.mem_cons_of_mem _ (List.of_mem_zip hy).1)).1
  refine ks_codeAny_call_defAt room (X _ _ lk) rfl nol (codeRec_of X hcd) rfl bnd noc hloc (fun h1 hns k1 => ?_) hco hgen hk
  have X1 : K.In h1 := X.keeps k1
  have ns1 : ∀ {b : Addr} {m : Str → Option Value}, s.heap.Ns b m → h1.Ns b m := fun {b m} ⟨o, es, ep, e, r⟩ => ⟨o, es, ep, k1 _ _ e, r⟩
  have keysE : (((ar.arg, Value.ref x) :: (f :: fs).zip us).map (·.1)) = ar.arg :: f :: fs := by
    rw [List.map_cons, zip_keys (by simpa using hl)]
  have rv : ∀ y, (((ar.arg, Value.ref x) :: (f :: fs).zip us).reverse).lookup y = ((ar.arg, Value.ref x) :: (f :: fs).zip us).lookup y := fun y => lookup_rev (by rw [keysE]; exact nd)
  obtain ⟨nd1, nd2⟩ := List.nodup_cons.mp nd
  have mself : (((ar.arg, Value.ref x) :: (f :: fs).zip us).reverse).lookup ar.arg = some (.ref x) := by
    rw [rv, List.lookup_cons, beq_self_eq_true]
  have mf : ∀ y ∈ f :: fs, (((ar.arg, Value.ref x) :: (f :: fs).zip us).reverse).lookup y = ((f :: fs).zip us).lookup y := fun y hy => by
    rw [rv, List.lookup_cons, beq_eq_false_iff_ne.mpr (fun z : y = ar.arg => nd1 (by rw [← z]; exact hy))]
  have maps : (f :: fs).map (fun y => (((ar.arg, Value.ref x) :: (f :: fs).zip us).reverse).lookup y) = us.map some := zip_map (by simpa using hl) nd2 mf
  have loc : ∀ y ∈ f :: fs, sc.names.lookup y = some .local ∧ (y == ("__debug__" : Str)) = false := fun y hy => kinds y (List.mem_cons_of_mem _ hy)
  have xL : s.heap.objs.size ≠ x := Nat.ne_of_gt (Heap.lt_size hx)
  have hzs : us.length ≤ sizeLine := by rw [hl, sizeLine_eq]; omega
  refine ks_wpAt_execs_cons (sup_stmt (L := s.heap.objs.size) TC TS X1 hns mself (k1 _ _ (X _ _ lk)) rfl hp (k1 _ _ (X _ _ lc)) rfl hvs hfile (k1 _ _ (X _ _ lcc)) rfl (k1 _ _ hx) (ns1 hg) gs (ns1 hb) bs hks hkc (kinds _ List.mem_cons_self).1 hk (he _) ra (by simp) maps loc hzs fun h2 t2 t1 k2 hx2 => ?_)
  have X2 : K.In h2 := fun b o e => k2 b o (fun z => by rw [z, hxK] at e; cases e) (X1 b o e)
  have hn2 : h2.Ns s.heap.objs.size (fun y => (((ar.arg, Value.ref x) :: (f :: fs).zip us).reverse).lookup y) := by
    obtain ⟨o, es', ep, e, rest⟩ := hns
    exact ⟨o, es', ep, k2 _ _ xL e, rest⟩
  refine wpAt_of_wpAny (stores_first (env := ksEnv q sc s.heap.objs.size fI (.ref cda) cc) TC hk (kinds _ List.mem_cons_self).1 (kinds _ List.mem_cons_self).2 rs (fun y hy => ⟨hy, (loc y hy).1, (loc y hy).2, ?_⟩) X2 hn2 mself hx2 xL hxK hz fun h3 t3 dx mD M e => ?_)
  · have hm : (((ar.arg, Value.ref x) :: (f :: fs).zip us).reverse).lookup y ∈ us.map some := maps ▸ List.mem_map_of_mem (f := fun y => (((ar.arg, Value.ref x) :: (f :: fs).zip us).reverse).lookup y) hy
    obtain ⟨v, _, ev⟩ := List.mem_map.mp hm
    exact ⟨v, ev.symm⟩
  · refine hq h3 _ dx mD ⟨fun b o hb e => M.keep b o hb (k2 b o hb (k1 b o e)), M.obj, Nat.le_trans (Nat.le_of_lt hn2.lt) M.big, M.ne, M.ns⟩ fun y => ?_
    rw [e y]
    by_cases h1 : y ∈ f :: fs
    · rw [if_pos h1, if_pos h1, mf y h1]
    · rw [if_neg h1, if_neg h1]
/-- an error made: its object at e, its own dict at d -/
structure MadeO (h h' : Heap) (e C d : Addr) (mD : Str → Option Value) : Prop where
  keep : ∀ b o, h.get? b = some o → h'.get? b = some o
  new : h.objs.size ≤ e
  obj : ∃ t1, h'.get? e = some { cls := .ref C, dict := some d, data := .fields #[.ref t1, .none, .none, .none, .bool false, .none] }
  big : h.objs.size ≤ d
  ne : d ≠ e
  ns : h'.Ns1 d mD
theorem make_run {K : Frag} {C fI : Addr} {allf : List Str} {us : List Value} {mF : Str → Option Value} {R : Result → Shared → Prop} {s : Shared} (TC : ECls K C allf) (iC : findIn K (.ref C) "__init__" = some (some (.ref fI))) (tC : typeIn K (.ref fI) = some (.type "function")) (X : K.In s.heap) (hz : us.length ≤ sizeLine)
    (init : ∀ (A' : Around) (s' : Shared) (x t0 : Addr) (R' : Result → Shared → Prop), A'.depth = A.depth + 1 → (∀ b o, s.heap.get? b = some o → s'.heap.get? b = some o) → s'.heap.get? x = some (excObj C t0 none .none) → K.lookup x = none →
      (∀ h' t' dx mD, MadeE s'.heap h' x C dx mD → (∀ y, mD y = mF y) → R' (.ok (.ret .none)) { s' with heap := h', toks := t' }) → codeAny (model prog w) A' (.call (.ref fI) ⟨.ref x :: us, []⟩) R' s')
    (hq : ∀ h' tk e d mD, MadeO s.heap h' e C d mD → (∀ y, mD y = mF y) → R (.ok (.ret (.ref e))) { s with heap := h', toks := tk }) :
    codeAny (model prog w) A (.call (.ref C) ⟨us, []⟩) R s := by
  obtain ⟨nm, q, N, bs, bm, sn, sub, ab, col, dd, k0, k1, k2, k3, k5, hC, hbm⟩ := TC.cls
  obtain ⟨hp, g, dr, tk, os⟩ := s
  have k : ∀ b o, hp.get? b = some o → ((hp.push (kdv_tup us)).push (PySem.HandSPX.excO C hp.objs.size)).get? b = some o := fun b o e => Heap.get?_push_of_some _ (Heap.get?_push_of_some _ e)
  have hget : ((hp.push (kdv_tup us)).push (PySem.HandSPX.excO C hp.objs.size)).get? (hp.objs.size + 1) = some (PySem.HandSPX.excO C hp.objs.size) := by heap_get
  have hnx : K.lookup (hp.objs.size + 1) = none := by
    cases e : K.lookup (hp.objs.size + 1) with
    | none => rfl
    | some o => exact absurd (Nat.lt_of_succ_lt (Heap.lt_size (show hp.get? (hp.objs.size + 1) = some o from X _ _ e))) (Nat.lt_irrefl _)
  refine PySem.HandSPX.call_own F.excBase_ValueError (fun X => PySem.HandSPX.refsVE_contains X bm hbm) (X _ _ hC) (looks_findIn X iC) (fun self => bind_fn X self tC) hz ?_
  refine init _ ⟨(hp.push (kdv_tup us)).push (PySem.HandSPX.excO C hp.objs.size), g, dr, tk, os⟩ (hp.objs.size + 1) hp.objs.size _ rfl k hget hnx fun h' t' dx mD M e => ?_
  have old : ∀ b o, hp.get? b = some o → h'.get? b = some o := fun b o e => M.keep b o (Nat.ne_of_lt (Nat.lt_succ_of_lt (Heap.lt_size e))) (k b o e)
  have big : hp.objs.size ≤ dx := by
    have z := M.big
    rw [Heap.size_push, Heap.size_push] at z
    omega
  exact ⟨rfl, hq h' t' (hp.objs.size + 1) dx mD ⟨old, Nat.le_succ _, M.obj, big, M.ne, M.ns⟩ e⟩
end
end Sw
namespace Sw
open PySem PySem.Spec PyProof.Rows L2
theorem lookup_rel {f : Str} : ∀ {fs : List Str} {vs : List V} {us : List Value}, Vals vs us → vs.length = fs.length → RelO ((fs.zip vs).lookup f) (if f ∈ fs then (fs.zip us).lookup f else none)
  | [], [], _, .nil, _ => by
    simp
    exact True.intro
  | [], _ :: _, _, _, h => by cases h
  | _ :: _, [], _, _, h => by cases h
  | a :: fs, v :: vs, u :: us, .cons r rr, h => by
    have ih := lookup_rel (f := f) (fs := fs) rr (by simpa using h)
    rw [List.zip_cons_cons, List.zip_cons_cons, List.lookup_cons, List.lookup_cons]
    by_cases e : f = a
    · subst e
      rw [beq_self_eq_true, if_pos List.mem_cons_self]
      exact r
    · have e' : (f == a) = false := beq_eq_false_iff_ne.mpr e
      rw [e']
      by_cases hm : f ∈ fs
      · rw [if_pos hm] at ih
        rw [if_pos (List.mem_cons_of_mem _ hm)]
        exact ih
      · rw [if_neg hm] at ih
        rw [if_neg (fun z => (List.mem_cons.mp z).elim e hm)]
        exact ih
/-- C(e, ..) as the making of an error; mk: what make_run says of it -/
theorem pmk_err {X : Cx} {C : Addr} {c : Str} {fs : List Str} {x : Expr} {xs : List Expr} {ta : TA} {p pos : Pos} (gC : X.mg c = some (.ref C)) (kC : PySem.W.keepIn X.K (.ref C) = true) (rs : Raises X (.ref C)) (hg : Gl X c) (hd : (c == ("__debug__" : Str)) = false) (ha : PA X (x :: xs) ta)
    (he : starEach (x :: xs) X.env = (false, eval x X.env) :: starEach xs X.env) (hpl : (backTo pos (starEach xs X.env)).any (·.1) = false)
    (mk : ∀ (s : Shared) (us : List Value) (R : Result → Shared → Prop), L2.Mod X.K X.mg X.base → X.K.In s.heap → (∀ b o, X.base.get? b = some o → s.heap.get? b = some o) → us.length = fs.length → (∀ h' tk e d mD, MadeO s.heap h' e C d mD → (∀ y, mD y = if y ∈ fs then (fs.zip us).lookup y else none) → R (.ok (.ret (.ref e))) { s with heap := h', toks := tk }) →
      codeAny (model X.prog X.w) X.A (.call (.ref C) ⟨us, []⟩) R s) :
    PMk X (.Call (.Name c p) (x :: xs) [] pos) (fun σ H Q => ta σ H fun vs H1 => vs.length = fs.length ∧ ∀ dd, H1 dd = none → Q (.ref C) (some dd) (upd H1 dd (.xd (fs.zip vs)))) := by
  intro pins s σ H Q I h
  refine wpAny_Call_Name_kw (ld_glob I hg gC ?_ hd)
  refine PySem.W.callWith_K (h₀ := X.base) I.ok.mod.kin kC (thn (ha.run pos pins s σ H _ I h) fun us s1 ⟨vs, H1, I1, r1, hl, q1⟩ => ⟨I1.kIn, ?_⟩) he hpl
  show wpAny _ _ (call (.ref C) us) _ _ _
  refine wpAny_call (mk s1 us _ I1.ok.mod I1.kIn I1.bk (r1.length.symm.trans hl) fun h' tk' e d mD M eD => ?_)
  obtain ⟨hp, g, dr, tk, os⟩ := s1
  show MkP X pins σ Q (.ref e) ⟨h', g, dr, tk', os⟩
  obtain ⟨t1, hoe⟩ := M.obj
  obtain ⟨G', g1, g2⟩ := restrict h' fun b => decide (b ≠ e)
  have gk : ∀ b, b ≠ e → G'.get? b = h'.get? b := fun b hb => g1 b (decide_eq_true hb)
  have ge : G'.get? e = none := g2 e (by simp)
  have old : ∀ b o, hp.get? b = some o → G'.get? b = some o := fun b o q => (gk b (Nat.ne_of_lt (Nat.lt_of_lt_of_le (Heap.lt_size q) M.new))).trans (M.keep b o q)
  have ob : ObjOk X.prog X.w (upd H1 d (.xd (fs.zip vs))) G' d (.xd (fs.zip vs)) := ⟨mD, M.ns.at (fun o q => (gk d M.ne).trans q), fun y => by rw [eD y]; exact lookup_rel r1 hl⟩
  have J : Inv X pins σ (upd H1 d (.xd (fs.zip vs))) ⟨G', g, dr, tk', os⟩ := I1.laid (t' := tk') old M.big ob
  refine ⟨e, _, _, ⟨G', g, dr, tk', os⟩, _, .ref C, some d, rfl, J, fun b o q => ?_, ge, hoe, ⟨rfl, rfl⟩, rfl, rfl, ?_, rfl, I1.bare, rs, q1 d (I1.hok.fresh M.big)⟩
  · by_cases hb : b = e
    · have q' : G'.get? b = some o := q
      rw [hb, ge] at q'
      cases q'
    · exact (gk b hb).symm.trans q
  · rw [upd_ne (Ne.symm M.ne)]
    exact I1.hok.fresh M.new
/-- super().__init__(names) on one line, as it is evaluated -/
theorem sup_eval {q : Str} {sc : Scope} {L fI cda cc : Addr} {p0 p1 p2 p3 : Pos} : ∀ {fs : List Str} {es : List Expr}, ArgN fs es → es.length < 30 → (p2.endLine == p3.line) = true →
    ∃ pl : Sem Bool, PySem.eval (supE p0 p1 p2 p3 es) (PySem.W.ksEnv q sc L fI (.ref cda) cc) = (do
      let ov ← attributeBase (.Call (.Name "super" p0) [] [] p1) "__init__" (PySem.W.ksEnv q sc L fI (.ref cda) cc) (eval (.Call (.Name "super" p0) [] [] p1) (PySem.W.ksEnv q sc L fI (.ref cda) cc))
      standAt p2.atName
      let (fn, first) ← holding [ov] (getMethod ov "__init__" pl)
      callWith p3 fn first (backTo p3 (starEach es (PySem.W.ksEnv q sc L fI (.ref cda) cc))) []) := by
  intro fs es h hl hp
  have hall : ∀ (env : Env) (pos : Pos) {fs : List Str} {es : List Expr}, ArgN fs es → (backTo pos (starEach es env)).all (!·.1) = true := by
    intro env pos fs es h
    induction h with
    | nil => rfl
    | cons r ih => exact ih
  refine ⟨plainOf (.Call (.Name "super" p0) [] [] p1) (PySem.W.ksEnv q sc L fI (.ref cda) cc), ?_⟩
  have hf : methodCallForm (es.length + ([] : List Keyword).length) (backTo p3 (starEach es (PySem.W.ksEnv q sc L fI (.ref cda) cc))) (backToKw p3 (keywordEach [] (PySem.W.ksEnv q sc L fI (.ref cda) cc))) = true := by
    unfold methodCallForm
    rw [hall _ _ h]
    show (true && true && decide (es.length + 0 + 0 < 30)) = true
    simpa using hl
  show eval (.Call (.Attribute (.Call (.Name "super" p0) [] [] p1) "__init__" p2) es [] p3) _ = _
  rw [arm_eval_Call]
  have e := fun ov => mcall_line (o := .Call (.Name "super" p0) [] [] p1) (m := "__init__") (apos := p2) (pos := p3) (env := PySem.W.ksEnv q sc L fI (.ref cda) cc) (ov := ov) hf hp
  simp only [e]
  rfl
/-- an own error, of what is written of its class and its __init__ -/
theorem exck_of {P : Program} {w : World} {K : PySem.W.Frag} {mg : Str → Option Value} {base : Heap} {j : Nat} {c : Str} {C fI cda cc : Addr} {f : Str} {fs : List Str} {es : List Expr} {bd : List Stmt} {q : Str} {sc : Scope} {p0 p1 p2 p3 p4 : Pos} {ar : Arg} {params : Arguments} {file : Str} {tf : Tok}
    {cva : Array Value} {oc occ occl doc pm ct : Value} {od odc odcl an : Option Addr} {osl oslc oslcl : Array (Option Value)} (gC : mg c = some (.ref C)) (kC : PySem.W.keepIn K (.ref C) = true) (sB : PySem.W.subIn K (.ref C) (.type "BaseException") = some true) (tyC : PySem.W.typeIn K (.ref C) = some (.type "type"))
    (TC : ECls K C (f :: fs)) (TS : SupK P K C) (iC : PySem.W.findIn K (.ref C) "__init__" = some (some (.ref fI))) (tC : PySem.W.typeIn K (.ref fI) = some (.type "function"))
    (lk : K.lookup fI = some ⟨oc, od, .func (PySem.W.ksFn "__init__" q params (.Expr (supE p0 p1 p2 p3 es) p4 :: bd) sc .none .none doc pm an (.ref cda) ct cc), osl⟩) (hcd : PySem.W.codeIn K (.ref cda) q = true) (hp : (params.posonlyargs ++ params.args).head? = some ar)
    (lc : K.lookup cda = some ⟨occ, odc, .fields cva, oslc⟩) (hvs : cva[2]? = some (.str file tf)) (hfile : ((P.main.file : Str) == file) = true) (lcc : K.lookup cc = some ⟨occl, odcl, .cell (some (.ref C)), oslcl⟩)
    (gs : mg "super" = none) (hks : sc.names.lookup ("super" : Str) = some .globalImplicit) (hkc : sc.names.lookup ("__class__" : Str) = some .free) (hk : sc.kind = .function) (hco : sc.isCoroutine = false) (hgen : sc.isGenerator = false) (noc : ∀ y ∈ sc.names, y.2 ≠ .cell)
    (ra : ArgN (f :: fs) es) (hl30 : es.length < 30) (hline : (p2.endLine == p3.line) = true) (rs : Stores ar.arg (f :: fs) bd) (hz : fs.length ≤ 900) (kinds : ∀ y ∈ ar.arg :: f :: fs, sc.names.lookup y = some .local ∧ (y == ("__debug__" : Str)) = false) (nd : (ar.arg :: f :: fs).Nodup)
    (bnd : ∀ (s : Shared) (us : List Value), us.length = fs.length + 2 → BindsTo s (PySem.W.ksFn "__init__" q params (.Expr (supE p0 p1 p2 p3 es) p4 :: bd) sc .none .none doc pm an (.ref cda) ct cc) ⟨us, []⟩ ((ar.arg :: f :: fs).zip us)) :
    ExcK P w K mg base j c C (f :: fs) := by
  intro X hP hw hK hmg hb hcalm hr hg hd x xs t p pos ha he hpl
  subst hP hw hK hmg hb
  refine pmk_err gC kC (raises_own sB tyC) hg hd ha he hpl fun s us R md hin keep hl hq => ?_
  have hl' : us.length = fs.length + 1 := by simpa using hl
  have nsk : ∀ {b : Addr} {m : Str → Option Value}, X.base.Ns b m → s.heap.Ns b m := fun {b m} ⟨o, es, ep, e, r⟩ => ⟨o, es, ep, keep _ _ e, r⟩
  obtain ⟨mb, hmb, hblt⟩ := md.blt
  have bs : mb "super" = some (.type "super") := (hblt "super" (by decide)).trans (by decide +kernel)
  refine make_run (mF := fun y => if y ∈ f :: fs then ((f :: fs).zip us).lookup y else none) TC iC tC hin (by rw [hl', sizeLine_eq]; omega) (fun A' s' x0 t0 R' hA k hx hxK hq' => ?_) fun h' tk e d mD M eD => hq h' tk e d mD M eD
  have ns2 : ∀ {b : Addr} {m : Str → Option Value}, X.base.Ns b m → s'.heap.Ns b m := fun {b m} h => by
    obtain ⟨o, es, ep, e, r⟩ := nsk h
    exact ⟨o, es, ep, k _ _ e, r⟩
  have nol : s'.heap.NoLimit := by
    obtain ⟨mc, h1, h2⟩ := md.nolimit
    exact ⟨mc, ns2 h1, h2⟩
  have room : A'.depth < recursionLimit := by
    have := hr.dp
    omega
  have bn := bnd s' (.ref x0 :: us) (by simp [hl'])
  rw [List.zip_cons_cons] at bn
  exact init_run (us := us) (cvs := []) TC TS (hin.keeps k) nol room lk hcd hp lc hvs hfile lcc hx hxK (ns2 md.glob) gs (ns2 hmb) bs hks hkc hk hco hgen noc (fun L => sup_eval ra hl30 hline) ra rs hz hl' kinds nd bn hq'
end Sw

set_option Elab.async false
set_option linter.all false
set_option maxRecDepth 100000
/-! Sw: a program of the own language as a list of its defs. -/
namespace Sw
open PySem
/-! ### a program of the own language, with what the look needs -/
structure DefR where
  d : Def
  N : List Str
  ps : List Str
  full : Bool
  tk : Bool
abbrev nm {α : Type} (x : Str) (a : α) : Str × α := (x, a)
structure PT where
  defs : List (Str × DefR)
  glob : List (Str × D)
  exs : List (Str × List Str)
  anc : List (Str × List Str)
  flds : List Str
def PT.prog (t : PT) : Prog := ⟨fun f => (t.defs.lookup f).map (·.d), fun x => t.glob.lookup x, fun c h => match t.anc.lookup c, t.anc.lookup h with
  | some l, some _ => some (l.contains h)
  | _, _ => none, fun c => (t.exs.lookup c).getD []⟩
/-- the law's run by the interpreter, at every script, one call in another at most k deep -/
def PT.Runs (t : PT) (k : Nat) (f : Str) : Prop := ∀ zs : List Int, zs.length ≤ 63 → (∀ z ∈ zs, Builtin.Int.intBits z ≤ 1048576) → ∃ st, t.prog.call k f [.seqI zs] [] = .ok (.sh (.bl true)) st
end Sw

set_option Elab.async false
set_option linter.all false
set_option maxRecDepth 100000
set_option maxHeartbeats 1000000
/-! Sw, the head: one look at what the top has left (objects that the module's names reach) says all that Wd asks. -/
namespace Sw
open PySem PySem.Spec PyProof.Rows L2 LamX
open He (ga eqO eqO_ok ba)
def PT.gk (t : PT) : Gk := ⟨fun f => match t.defs.lookup f with
  | some q => if q.tk then none else some q.d.params
  | none => none, fun f => match t.defs.lookup f with
  | some q => q.tk
  | none => false, t.flds, t.exs.map (·.1), t.anc.map (·.1)⟩
theorem look_mem {α : Type} {y : Str} {u : α} : ∀ {l : List (Str × α)}, l.lookup y = some u → (y, u) ∈ l
  | [], h => by cases h
  | (a, b) :: l, h => by
    rw [List.lookup_cons] at h
    by_cases z : y = a
    · rw [z, beq_self_eq_true] at h
      cases h
      rw [z]
      exact List.mem_cons_self
    · rw [beq_eq_false_iff_ne.mpr z] at h
      exact List.mem_cons_of_mem _ (look_mem h)
/-! ### parameters -/
def argsB (pa : Arguments) (ps : List Str) : Bool := pa.posonlyargs.isEmpty && (decide (pa.args.map (·.arg) = ps) && (pa.vararg.isNone && (pa.kwonlyargs.isEmpty && (pa.kwarg.isNone && decide ps.Nodup))))
theorem zip_find {y : Str} : ∀ {ps : List Str} {us : List Value}, us.length = ps.length → y ∈ ps → ∃ u, (ps.zip us).lookup y = some u
  | [], _, _, h => absurd h (by simp)
  | p :: ps, [], e, _ => by cases e
  | p :: ps, u :: us, e, h => by
    rw [List.zip_cons_cons, List.lookup_cons]
    by_cases z : y = p
    · rw [z, beq_self_eq_true]; exact ⟨u, rfl⟩
    · rw [beq_eq_false_iff_ne.mpr z]
      exact zip_find (by simpa using e) ((List.mem_cons.mp h).resolve_left z)
theorem zip_back : ∀ {ps : List Str} {us : List Value} (l : List (Str × Value)), us.length = ps.length → ps.Nodup → (∀ y ∈ ps, l.lookup y = (ps.zip us).lookup y) → ps.filterMap (fun n => (l.lookup n).map (n, ·)) = ps.zip us
  | [], _, _, _, _, _ => by simp
  | p :: ps, [], _, e, _, _ => by cases e
  | p :: ps, u :: us, l, e, nd, h => by
    rw [List.nodup_cons] at nd
    have h1 := h p List.mem_cons_self
    rw [List.zip_cons_cons, List.lookup_cons, beq_self_eq_true] at h1
    rw [List.filterMap_cons, h1, List.zip_cons_cons]
    dsimp only [Option.map_some]
    rw [zip_back l (by simpa using e) nd.2 fun y hy => by
      rw [h y (List.mem_cons_of_mem _ hy), List.zip_cons_cons, List.lookup_cons, beq_eq_false_iff_ne.mpr fun z : y = p => nd.1 (z ▸ hy)]]
theorem bind_plain {fd : FuncData} {ps : List Str} {us : List Value} (h : argsB fd.params ps = true) (hd : fd.defaults = .none) (hl : us.length = ps.length) : bindArgs fd ⟨us, []⟩ = pure (ps.zip us) := by
  unfold argsB at h
  simp only [Bool.and_eq_true, decide_eq_true_eq, List.isEmpty_iff, Option.isNone_iff_eq_none] at h
  obtain ⟨h1, h2, h3, h4, h5, h6⟩ := h
  have e1 : seqItems? Value.none = pure none := rfl
  have e2 : (List.take ps.length ps).filter (fun n => (List.lookup n (ps.zip us)).isNone) = [] := by
    rw [List.filter_eq_nil_iff]
    intro y hy
    obtain ⟨u, e⟩ := zip_find hl (List.mem_of_mem_take hy)
    rw [e]
    simp
  have e3 : ps.filterMap (fun n => ((ps.zip us).lookup n).map (n, ·)) = ps.zip us := zip_back _ hl h6 fun _ _ => rfl
  obtain ⟨n1, n2, ⟨po, ar, va, ko, kd, kw, df⟩, n4, n5, n6, n7, n8, n9, n10, n11, n12, n13, n14, n15⟩ := fd
  dsimp only at h1 h2 h3 h4 h5 hd
  subst h1 h3 h4 h5 hd
  have e4 : (List.map (fun x : Arg => x.arg) ar).length = us.length := by rw [h2, hl]
  unfold bindArgs
  dsimp only
  rw [e1]
  simp only [List.map_nil, List.nil_append, List.append_nil, List.forIn_nil, pure_bind, h2, Option.getD_none]
  simp [hl, e2, e3]
  intro x hx hn
  obtain ⟨u, e⟩ := zip_find hl hx
  exact absurd (look_mem e) (hn u)
/-! ### scopes -/
def locB : Option NameKind → Bool
  | some .local => true
  | some .cell => true
  | _ => false
def isFun : ScopeKind → Bool
  | .function => true
  | _ => false
theorem isFun_ok {k : ScopeKind} (h : isFun k = true) : k = .function := by cases k <;> first | rfl | cases h
def freeB : NameKind → Bool
  | .free => true
  | _ => false
def scB (N ps : List Str) (sc : Scope) : Bool := isFun sc.kind && (!sc.isCoroutine && (!sc.isGenerator && (decide N.Nodup && (decide (N.take ps.length = ps) && ((ps.all fun x => locB (sc.names.lookup x)) && sc.names.all fun y => !freeB y.2)))))
theorem locB_ok {o : Option NameKind} (h : locB o = true) : o = some .local ∨ o = some .cell := by
  cases o with
  | none => cases h
  | some k => cases k <;> first | exact .inl rfl | exact .inr rfl | cases h
theorem scB_ok {N ps : List Str} {sc : Scope} (h : scB N ps sc = true) : FnScope N ps sc := by
  unfold scB at h
  simp only [Bool.and_eq_true, Bool.not_eq_true', decide_eq_true_eq] at h
  obtain ⟨h1, h2, h3, h4, h5, h6, h7⟩ := h
  refine ⟨isFun_ok h1, h2, h3, h4, h5, fun x hx => locB_ok (List.all_eq_true.mp h6 x hx), fun y hy e => ?_⟩
  have := List.all_eq_true.mp h7 y hy
  rw [e] at this
  cases this
/-! ### constants -/
mutual
def denK (K : PySem.W.Frag) : D → Value → Bool
  | .non, .none => true
  | .bl b, .bool c => b == c
  | .int i, .int j _ => decide (i = j)
  | .str x, .str y _ => decide (x = y)
  | .tup ds, .ref a => (match K.lookup a with
    | some ⟨.type c, _, .seq its _, _⟩ => decide (c = "tuple") && (decide (its.size ≤ sizeLine) && denKs K ds its.toList)
    | _ => false)
  | _, _ => false
def denKs (K : PySem.W.Frag) : List D → List Value → Bool
  | [], [] => true
  | d :: ds, u :: us => denK K d u && denKs K ds us
  | _, _ => false
end
mutual
theorem denK_ok {Y : Cfg} : ∀ (d : D) (u : Value), denK Y.K d u = true → ∃ v, RelV v u ∧ ∀ Z ms H, Den Y Z ms H v d
  | .non, u, h => by
    cases u with
    | none => exact ⟨.non, rfl, fun _ _ _ => .non⟩
    | _ => cases h
  | .bl b, u, h => by
    cases u with
    | bool c =>
      have e : b = c := eq_of_beq (show (b == c) = true from h)
      exact ⟨.bl b, by rw [e]; rfl, fun _ _ _ => .bl b⟩
    | _ => cases h
  | .int i, u, h => by
    cases u with
    | int j t =>
      have e : i = j := of_decide_eq_true h
      exact ⟨.int i, ⟨t, by rw [e]⟩, fun _ _ _ => .int i⟩
    | _ => cases h
  | .str x, u, h => by
    cases u with
    | str y t =>
      have e : x = y := of_decide_eq_true h
      exact ⟨.str x, ⟨t, by rw [e]⟩, fun _ _ _ => .str x⟩
    | _ => cases h
  | .tup ds, u, h => by
    cases u with
    | ref a =>
      have h2 : (match Y.K.lookup a with
        | some ⟨.type c, _, .seq its _, _⟩ => decide (c = "tuple") && (decide (its.size ≤ sizeLine) && denKs Y.K ds its.toList)
        | _ => false) = true := h
      cases q : Y.K.lookup a with
      | none => rw [q] at h2; cases h2
      | some o =>
        obtain ⟨oc, od, dt, osl⟩ := o
        rw [q] at h2
        cases oc with
        | type c =>
          cases dt with
          | seq its n =>
            obtain ⟨h3, h4⟩ := ba h2
            obtain ⟨h5, h6⟩ := ba h4
            obtain ⟨vs, r1, r2⟩ := denKs_ok ds its.toList h6
            exact ⟨.ref a, rfl, fun Z ms H => .tupK ⟨_, its, n, q, congrArg Value.type (of_decide_eq_true h3), rfl, of_decide_eq_true h5, r1⟩ (r2 Z ms H)⟩
          | _ => cases h2
        | _ => cases dt <;> cases h2
    | _ => cases h
  | .lst _, u, h => by cases u <;> cases h
  | .ins _ _, u, h => by cases u <;> cases h
  | .cell _, u, h => by cases u <;> cases h
  | .fn _, u, h => by cases u <;> cases h
  | .seqI _, u, h => by cases u <;> cases h
  | .dct _ _, u, h => by cases u <;> cases h
theorem denKs_ok {Y : Cfg} : ∀ (ds : List D) (us : List Value), denKs Y.K ds us = true → ∃ vs, Vals vs us ∧ ∀ Z ms H, DenL Y Z ms H vs ds
  | [], [], _ => ⟨[], .nil, fun _ _ _ => .nil⟩
  | [], _ :: _, h => by cases h
  | _ :: _, [], h => by cases h
  | d :: ds, u :: us, h => by
    obtain ⟨h1, h2⟩ := ba (show (denK Y.K d u && denKs Y.K ds us) = true from h)
    obtain ⟨v, r1, r2⟩ := denK_ok d u h1
    obtain ⟨vs, r3, r4⟩ := denKs_ok ds us h2
    exact ⟨v :: vs, .cons r1 r3, fun Z ms H => .cons (r2 Z ms H) (r4 Z ms H)⟩
end
/-! ### defs -/
/-- the table of the code object of f -/
def tabAd (K : PySem.W.Frag) (f : Str) : Addr := He.tabOf K (He.codeOf K (f, none))
def codAd (K : PySem.W.Frag) (f : Str) : Addr := He.codeOf K (f, none)
def PT.fulls (t : PT) : List Str := (t.defs.filter fun q => q.2.full).map (·.1)
def PT.cfg (t : PT) (K : PySem.W.Frag) : Cfg := ⟨K, t.fulls.map fun f => (tabAd K f, lamT f), fun c => ga K c⟩
def takesB (N ps : List Str) (sc : Scope) : Bool := match ps with
  | [a] => decide (N[0]? = some a) && (locB (sc.names.lookup a) && plainN a)
  | _ => false
def noneB : Value → Bool
  | .none => true
  | _ => false
theorem noneB_ok {v : Value} (h : noneB v = true) : v = .none := by cases v <;> first | rfl | cases h
def fdB (K : PySem.W.Frag) (g : Gk) (f : Str) (r : DefR) (fd : FuncData) : Bool := decide (fd.name = f) && (decide (fd.qualname = f) && (decide (fd.globals = mainGlobals) && (fd.closure.isEmpty && (decide (fd.builtins = builtinsNs) && (noneB fd.defaults && (argsB fd.params r.ps && (PySem.W.codeIn K fd.code f && (scB r.N r.ps fd.scope &&
  (decide (r.ps.length = r.d.params) && (decide (r.N.length = r.d.names) && ((match fd.body with
    | .stmts bd => chkSs (g.ck r.N fd.scope r.full r.tk) r.d.body bd
    | _ => false) && (!r.tk || (!r.full && takesB r.N r.ps fd.scope)))))))))))))
def defB (K : PySem.W.Frag) (g : Gk) (f : Str) (r : DefR) : Bool := eqO (PySem.W.nsIn K mainGlobals f) (some (some (.ref (ga K f)))) && (PySem.W.keepIn K (.ref (ga K f)) && (match K.lookup (ga K f) with
  | some ⟨_, _, .func fd, _⟩ => fdB K g f r fd
  | _ => false))
theorem defB_ok {K : PySem.W.Frag} {base : Heap} {mg : Str → Option Value} {t : PT} {f : Str} {r : DefR} (X : K.In base) (G : base.Ns mainGlobals mg) (h : defB K t.gk f r = true)
    (hT : r.full = true → TabB base mg (codAd K f) (tabAd K f) ∧ (tabAd K f, lamT f) ∈ (t.cfg K).tabs ∧ ∀ q ∈ (t.cfg K).tabs, q.1 = tabAd K f → q.2 = lamT f) : DefOk K mg base (t.cfg K) t.gk f r.d r.tk := by
  obtain ⟨h1, h⟩ := ba h
  obtain ⟨h2, h⟩ := ba h
  cases q : K.lookup (ga K f) with
  | none => rw [q] at h; cases h
  | some o =>
    obtain ⟨oc, od, dt, osl⟩ := o
    rw [q] at h
    cases dt with
    | func fd =>
      have h : fdB K t.gk f r fd = true := h
      unfold fdB at h
      obtain ⟨g1, h⟩ := ba h
      obtain ⟨g2, h⟩ := ba h
      obtain ⟨g3, h⟩ := ba h
      obtain ⟨g4, h⟩ := ba h
      obtain ⟨g5, h⟩ := ba h
      obtain ⟨g6, h⟩ := ba h
      obtain ⟨g7, h⟩ := ba h
      obtain ⟨g8, h⟩ := ba h
      obtain ⟨g9, h⟩ := ba h
      obtain ⟨g10, h⟩ := ba h
      obtain ⟨g11, h⟩ := ba h
      obtain ⟨g12, g13⟩ := ba h
      obtain ⟨n1, n2, n3, n4, n5, n6, n7, n8, n9, n10, n11, n12, n13, n14, n15⟩ := fd
      have e1 : f = n1 := (of_decide_eq_true g1 : n1 = f).symm
      subst e1
      have e2 : f = n2 := (of_decide_eq_true g2 : n2 = f).symm
      subst e2
      obtain rfl : n6 = mainGlobals := of_decide_eq_true g3
      obtain rfl : n7 = [] := List.isEmpty_iff.mp g4
      obtain rfl : n15 = builtinsNs := of_decide_eq_true g5
      obtain rfl : n8 = .none := noneB_ok g6
      cases n4 with
      | stmts bd =>
        refine ⟨r.N, r.ps, r.full, ga K f, n3, bd, n5, .none, n9, n10, n11, n13, n14, oc, n12, od, osl, PySem.W.mg_of X G (eqO_ok h1), h2, q, g8, .all fun us hl => bind_plain g7 rfl hl, scB_ok g9, of_decide_eq_true g10, of_decide_eq_true g11, g12, fun hf => ?_, fun hk => ?_⟩
        · obtain ⟨t1, t2, t3⟩ := hT hf
          refine ⟨codAd K f, tabAd K f, t1, ?_, t2, t3⟩
          obtain ⟨c, ec⟩ := He.codeIn_ref g8
          have : codAd K f = c := He.codeOf_eq (p := (f, none)) q ec
          rw [this]
          exact ec
        · have g13' : (!r.tk || (!r.full && takesB r.N r.ps n5)) = true := g13
          rw [hk] at g13'
          obtain ⟨k1, k2⟩ := ba (show (!r.full && takesB r.N r.ps n5) = true from g13')
          refine ⟨by simpa using k1, ?_⟩
          unfold takesB at k2
          split at k2
          · rename_i a ha
            obtain ⟨k3, k4⟩ := ba k2
            obtain ⟨k5, k6⟩ := ba k4
            obtain ⟨k7, k8⟩ := plainN_of k6
            exact ⟨a, ha, of_decide_eq_true k3, (locB_ok k5).imp id .inl, k7, k8⟩
          · cases k2
      | _ => cases g12
    | _ => cases h
/-! ### own errors -/
def stB (sf : Str) : List Str → List Stmt → Bool
  | [], [] => true
  | f :: fs, .Assign [.Attribute (.Name s _) g _] (.Name y _) _ :: bd => decide (s = sf) && (decide (g = f) && (decide (y = f) && stB sf fs bd))
  | _, _ => false
theorem stB_ok {sf : Str} : ∀ {fs : List Str} {bd : List Stmt}, stB sf fs bd = true → Stores sf fs bd
  | [], [], _ => .nil
  | [], _ :: _, h => by cases h
  | _ :: _, [], h => by cases h
  | f :: fs, s :: bd, h => by
    cases s with
    | Assign ts v p =>
      cases ts with
      | nil => cases h
      | cons tg tr =>
        cases tr with
        | cons _ _ => simp [stB] at h
        | nil =>
          cases tg with
          | Attribute o g p2 =>
            cases o with
            | Name s p1 =>
              cases v with
              | Name y p3 =>
                have h' : (decide (s = sf) && (decide (g = f) && (decide (y = f) && stB sf fs bd))) = true := h
                obtain ⟨h1, h'⟩ := ba h'
                obtain ⟨h2, h'⟩ := ba h'
                obtain ⟨h3, h4⟩ := ba h'
                obtain rfl := of_decide_eq_true h1
                obtain rfl := of_decide_eq_true h2
                obtain rfl := of_decide_eq_true h3
                exact .cons (stB_ok h4)
              | _ => cases h
            | _ => cases h
          | _ => cases h
    | _ => cases h
def argNB : List Str → List Expr → Bool
  | [], [] => true
  | f :: fs, .Name y _ :: es => decide (y = f) && argNB fs es
  | _, _ => false
theorem argNB_ok : ∀ {fs : List Str} {es : List Expr}, argNB fs es = true → ArgN fs es
  | [], [], _ => .nil
  | [], _ :: _, h => by cases h
  | _ :: _, [], h => by cases h
  | f :: fs, e :: es, h => by
    cases e with
    | Name y p =>
      obtain ⟨h1, h2⟩ := ba (show (decide (y = f) && argNB fs es) = true from h)
      obtain rfl := of_decide_eq_true h1
      exact .cons (argNB_ok h2)
    | _ => cases h
/-- super().__init__(..), then the stores -/
def bodyB (sf : Str) (fs : List Str) : List Stmt → Bool
  | .Expr (.Call (.Attribute (.Call (.Name s _) [] [] _) m p2) es [] p3) _ :: bd => decide (s = "super") && (decide (m = "__init__") && ((p2.endLine == p3.line) && (argNB fs es && stB sf fs bd)))
  | _ => false
theorem argN_len : ∀ {fs : List Str} {es : List Expr}, ArgN fs es → es.length = fs.length
  | _, _, .nil => rfl
  | _, _, .cons r => by rw [List.length_cons, List.length_cons, argN_len r]
theorem bodyB_ok {sf : Str} {fs : List Str} {b : List Stmt} (h : bodyB sf fs b = true) : ∃ p0 p1 p2 p3 p4 es bd, b = .Expr (supE p0 p1 p2 p3 es) p4 :: bd ∧ (p2.endLine == p3.line) = true ∧ ArgN fs es ∧ Stores sf fs bd := by
  unfold bodyB at h
  split at h
  · rename_i s p0 p1 m p2 es p3 p4 bd
    obtain ⟨h1, h⟩ := ba h
    obtain ⟨h2, h⟩ := ba h
    obtain ⟨h3, h⟩ := ba h
    obtain ⟨h4, h5⟩ := ba h
    obtain rfl := of_decide_eq_true h1
    obtain rfl := of_decide_eq_true h2
    exact ⟨p0, p1, p2, p3, p4, es, bd, rfl, h3, argNB_ok h4, stB_ok h5⟩
  · cases h
def eclsB (K : PySem.W.Frag) (C : Addr) : Bool := match K.lookup C with
  | some ⟨.type c, _, .cls cd, sl⟩ => decide (c = "type") && (match cd.mro, sl.toList with
    | .ref C' :: bm, [_, _, _, _, some (.builtin n), _] => decide (C' = C) && (decide (n = "ValueError.__new__") && (!cd.hasDel && (cd.hasDict && PySem.HandSPX.refsVE bm)))
    | _, _ => false)
  | _ => false
theorem eclsB_ok {K : PySem.W.Frag} {C : Addr} {fs : List Str} (h : eclsB K C = true) (sa : PySem.W.findIn K (.ref C) "__setattr__" = some (some (.builtin "object.__setattr__"))) (no : ∀ f ∈ fs, PySem.W.findIn K (.ref C) f = some none) : ECls K C fs := by
  unfold eclsB at h
  cases q : K.lookup C with
  | none => rw [q] at h; cases h
  | some o =>
    obtain ⟨oc, od, dt, sl⟩ := o
    rw [q] at h
    cases oc with
    | type c =>
      cases dt with
      | cls cd =>
        obtain ⟨h1, h2⟩ := ba h
        obtain rfl := of_decide_eq_true h1
        obtain ⟨l⟩ := sl
        obtain ⟨nm, bs, mro, ns, qn, hd, sn, sub, ab, col, del⟩ := cd
        dsimp only at h2
        split at h2
        · rename_i C' bm k0 k1 k2 k3 n k5
          obtain ⟨h3, h2⟩ := ba h2
          obtain ⟨h4, h2⟩ := ba h2
          obtain ⟨h5, h2⟩ := ba h2
          obtain ⟨h6, h7⟩ := ba h2
          obtain rfl := of_decide_eq_true h3
          obtain rfl := of_decide_eq_true h4
          obtain rfl : del = false := by simpa using h5
          obtain rfl : hd = true := h6
          exact ⟨⟨nm, qn, ns, bs, bm, sn, sub, ab, col, od, k0, k1, k2, k3, k5, q, h7⟩, sa, no⟩
        · cases h2
      | _ => cases h
    | _ => cases dt <;> cases h
def iAd (K : PySem.W.Frag) (C : Addr) : Addr := match PySem.W.findIn K (.ref C) "__init__" with
  | some (some (.ref a)) => a
  | _ => 0
def fileB (K : PySem.W.Frag) (file : Str) (cd : Value) : Bool := match cd with
  | .ref c => (match K.lookup c with
    | some ⟨_, _, .fields cva, _⟩ => (match (cva[2]? : Option Value) with
      | some (.str y _) => file == y
      | _ => false)
    | _ => false)
  | _ => false
def cellB (K : PySem.W.Frag) (C : Addr) : List (Str × Addr) → Bool
  | [(y, cc)] => decide (y = "__class__") && (match K.lookup cc with
    | some ⟨_, _, .cell (some (.ref D)), _⟩ => decide (D = C)
    | _ => false)
  | _ => false
def cellK : NameKind → Bool
  | .cell => true
  | _ => false
def scI (sf : Str) (fs : List Str) (sc : Scope) : Bool := isFun sc.kind && (!sc.isCoroutine && (!sc.isGenerator && (decide (sc.names.lookup ("super" : Str) = some .globalImplicit) && (decide (sc.names.lookup ("__class__" : Str) = some .free) && ((sc.names.all fun y => !cellK y.2) &&
  (((sf :: fs).all fun y => decide (sc.names.lookup y = some .local) && !(y == ("__debug__" : Str))) && decide (sf :: fs).Nodup))))))
def headArg : Arguments → Option Str
  | ⟨[], a :: _, _, _, _, _, _⟩ => some a.arg
  | _ => none
def initB (K : PySem.W.Frag) (file : Str) (C : Addr) (fs : List Str) (sf : Str) (fd : FuncData) : Bool := decide (fd.name = "__init__") && (decide (fd.globals = mainGlobals) && (decide (fd.builtins = builtinsNs) && (noneB fd.defaults && (noneB fd.kwdefaults && (argsB fd.params (sf :: fs) && (PySem.W.codeIn K fd.code fd.qualname &&
  (fileB K file fd.code && (cellB K C fd.closure && (scI sf fs fd.scope && (match fd.body with
    | .stmts bd => bodyB sf fs bd
    | _ => false))))))))))
def excB (K : PySem.W.Frag) (file : Str) (c : Str) (fs : List Str) : Bool := eqO (PySem.W.nsIn K mainGlobals c) (some (some (.ref (ga K c)))) && (PySem.W.keepIn K (.ref (ga K c)) && (decide (PySem.W.subIn K (.ref (ga K c)) (.type "BaseException") = some true) && (decide (PySem.W.typeIn K (.ref (ga K c)) = some (.type "type")) &&
  (eclsB K (ga K c) && (eqO (PySem.W.findIn K (.ref (ga K c)) "__setattr__") (some (some (.builtin "object.__setattr__"))) && ((fs.all fun f => eqO (PySem.W.findIn K (.ref (ga K c)) f) (some none)) && (eqO (PySem.W.ks_superIn K (ga K c) (ga K c) "__init__") (some (some (.builtin "ValueError.__init__"))) &&
  (decide (PySem.W.subIn K (.ref (ga K c)) (.type "ValueError") = some true) && (decide (PySem.W.mroIn K (ga K c) (.ref (ga K c)) = some true) && (eqO (PySem.W.findIn K (.ref (ga K c)) "__init__") (some (some (.ref (iAd K (ga K c))))) && (decide (PySem.W.typeIn K (.ref (iAd K (ga K c))) = some (.type "function")) &&
  ((!fs.isEmpty && decide (fs.length ≤ 20)) && (match K.lookup (iAd K (ga K c)) with
    | some ⟨_, _, .func fd, _⟩ => (match headArg fd.params with
      | some sf => initB K file (ga K c) fs sf fd
      | none => false)
    | _ => false)))))))))))))
theorem cellB_ok {K : PySem.W.Frag} {C : Addr} {l : List (Str × Addr)} (h : cellB K C l = true) : ∃ cc oc od sl, l = [(("__class__" : Str), cc)] ∧ K.lookup cc = some ⟨oc, od, .cell (some (.ref C)), sl⟩ := by
  unfold cellB at h
  split at h
  · rename_i y cc
    obtain ⟨z1, z2⟩ := ba h
    obtain rfl := of_decide_eq_true z1
    split at z2
    · rename_i oc2 od2 D os2 q2
      obtain rfl := of_decide_eq_true z2
      exact ⟨cc, _, _, _, rfl, q2⟩
    · cases z2
  · cases h
theorem fileB_ok {K : PySem.W.Frag} {file : Str} {cda : Addr} (h : fileB K file (.ref cda) = true) : ∃ oc od cva sl y tf, K.lookup cda = some ⟨oc, od, .fields cva, sl⟩ ∧ cva[2]? = some (.str y tf) ∧ (file == y) = true := by
  unfold fileB at h
  dsimp only at h
  split at h
  · rename_i occ odc cva oslc q2
    split at h
    · rename_i y tf q3
      exact ⟨_, _, _, _, y, tf, q2, q3, h⟩
    · cases h
  · cases h
theorem headArg_ok {pa : Arguments} {sf : Str} (e : headArg pa = some sf) : ∃ ar, (pa.posonlyargs ++ pa.args).head? = some ar ∧ ar.arg = sf := by
  unfold headArg at e
  split at e
  · rename_i a _ _ _ _ _ _
    cases e
    exact ⟨a, rfl, rfl⟩
  · cases e
theorem excB_ok {P : Program} {w : World} {K : PySem.W.Frag} {base : Heap} {mg : Str → Option Value} {c : Str} {fs : List Str} {j : Nat} (X : K.In base) (G : base.Ns mainGlobals mg) (opq : PySem.W.nsIn K cStatics "thirdparty.any" = some none) (top : (P.main.scope.names.lookup ("super" : Str)).isSome = false) (gs : mg "super" = none)
    (h : excB K P.main.file c fs = true) : ExcK P w K mg base j c (ga K c) fs := by
  unfold excB at h
  obtain ⟨h1, h⟩ := ba h
  obtain ⟨h2, h⟩ := ba h
  obtain ⟨h3, h⟩ := ba h
  obtain ⟨h4, h⟩ := ba h
  obtain ⟨h5, h⟩ := ba h
  obtain ⟨h6, h⟩ := ba h
  obtain ⟨h7, h⟩ := ba h
  obtain ⟨h8, h⟩ := ba h
  obtain ⟨h9, h⟩ := ba h
  obtain ⟨h10, h⟩ := ba h
  obtain ⟨h11, h⟩ := ba h
  obtain ⟨h12, h⟩ := ba h
  obtain ⟨h13, h⟩ := ba h
  obtain ⟨h14, h15⟩ := ba h13
  cases fs with
  | nil => cases h14
  | cons f fs =>
    cases q : K.lookup (iAd K (ga K c)) with
    | none => rw [q] at h; cases h
    | some o =>
      obtain ⟨oc, od, dt, osl⟩ := o
      rw [q] at h
      cases dt with
      | func fd =>
        obtain ⟨n1, n2, n3, n4, n5, n6, n7, n8, n9, n10, n11, n12, n13, n14, n15⟩ := fd
        dsimp only at h
        cases e : headArg n3 with
        | none => rw [e] at h; cases h
        | some sf =>
          rw [e] at h
          have h : initB K P.main.file (ga K c) (f :: fs) sf ⟨n1, n2, n3, n4, n5, n6, n7, n8, n9, n10, n11, n12, n13, n14, n15⟩ = true := h
          unfold initB at h
          obtain ⟨g1, h⟩ := ba h
          obtain ⟨g2, h⟩ := ba h
          obtain ⟨g3, h⟩ := ba h
          obtain ⟨g4, h⟩ := ba h
          obtain ⟨g5, h⟩ := ba h
          obtain ⟨g6, h⟩ := ba h
          obtain ⟨g7, h⟩ := ba h
          obtain ⟨g8, h⟩ := ba h
          obtain ⟨g9, h⟩ := ba h
          obtain ⟨g10, g11⟩ := ba h
          obtain rfl : n1 = "__init__" := of_decide_eq_true g1
          obtain rfl : n6 = mainGlobals := of_decide_eq_true g2
          obtain rfl : n15 = builtinsNs := of_decide_eq_true g3
          obtain rfl : n8 = .none := noneB_ok g4
          obtain rfl : n9 = .none := noneB_ok g5
          dsimp only at g6 g7 g8 g9 g10 g11
          cases n4 with
          | stmts b =>
            obtain ⟨p0, p1, p2, p3, p4, es, bd, rfl, l1, l2, l3⟩ := bodyB_ok (show bodyB sf (f :: fs) b = true from g11)
            obtain ⟨cda, rfl⟩ := He.codeIn_ref g7
            obtain ⟨cc, occl, odcl, oslcl, rfl, lcc⟩ := cellB_ok (show cellB K (ga K c) n7 = true from g9)
            obtain ⟨occ, odc, cva, oslc, y, tf, lc, hvs, hfile⟩ := fileB_ok (show fileB K P.main.file (.ref cda) = true from g8)
            unfold scI at g10
            obtain ⟨s1, s⟩ := ba g10
            obtain ⟨s2, s⟩ := ba s
            obtain ⟨s3, s⟩ := ba s
            obtain ⟨s4, s⟩ := ba s
            obtain ⟨s5, s⟩ := ba s
            obtain ⟨s6, s⟩ := ba s
            obtain ⟨s7, s8⟩ := ba s
            obtain ⟨ar, hpar, harg⟩ := headArg_ok e
            subst harg
            have hgr : fs.length + 1 ≤ 20 := of_decide_eq_true h15
            refine exck_of (fI := iAd K (ga K c)) (PySem.W.mg_of X G (eqO_ok h1)) h2 (of_decide_eq_true h3) (of_decide_eq_true h4) (eclsB_ok h5 (eqO_ok h6) fun f hf => eqO_ok (List.all_eq_true.mp h7 f hf))
              ⟨opq, eqO_ok h8, of_decide_eq_true h9, of_decide_eq_true h10, top⟩ (eqO_ok h11) (of_decide_eq_true h12) q g7 hpar lc hvs hfile lcc gs (of_decide_eq_true s4) (of_decide_eq_true s5) (isFun_ok s1) (by simpa using s2) (by simpa using s3) (fun y hy z => ?_) l2 (by rw [argN_len l2, List.length_cons]; omega) l1 l3 (by omega) (fun y hy => ?_) (of_decide_eq_true s8) fun s us hl => .of_eq (bind_plain (fd := ⟨"__init__", n2, n3, _, n5, mainGlobals, _, .none, .none, n10, n11, n12, .ref cda, n14, builtinsNs⟩) g6 rfl (by simpa using hl))
            · have := List.all_eq_true.mp s6 y hy
              rw [z] at this
              cases this
            · obtain ⟨z1, z2⟩ := ba (List.all_eq_true.mp s7 y hy)
              exact ⟨of_decide_eq_true z1, by simpa using z2⟩
          | _ => cases g11
      | _ => cases h
/-! ### all of it -/
def PT.ok (t : PT) (file : Str) (K : PySem.W.Frag) : Bool := (bnames.all fun x => eqO (PySem.W.nsIn K mainGlobals x) (some none)) && (eqO (PySem.W.nsIn K mainGlobals "super") (some none) && (eqO (PySem.W.nsIn K cStatics "thirdparty.any") (some none) &&
  ((t.glob.all fun q => match PySem.W.nsIn K mainGlobals q.1 with
    | some (some u) => denK K q.2 u
    | _ => false) && ((t.anc.all fun c => eqO (PySem.W.nsIn K mainGlobals c.1) (some (some (.ref (ga K c.1)))) && (xfB K (ga K c.1) && ((t.flds.all fun f => eqO (PySem.W.findIn K (.ref (ga K c.1)) f) (some none)) &&
    (xiB K (ga K c.1) && t.anc.all fun h => decide (PySem.W.exmOne K (.ref (ga K c.1)) (.ref (ga K h.1)) = some (c.2.contains h.1)) && decide (PySem.W.kitOne K (.ref (ga K c.1)) (.ref (ga K h.1)) = some (c.2.contains h.1)))))) && ((t.exs.all fun c => excB K file c.1 c.2) && ((t.defs.all fun q => defB K t.gk q.1 q.2) && decide (t.fulls.map (tabAd K)).Nodup))))))
theorem nodup_inj {α β : Type} {f : α → β} : ∀ {l : List α}, (l.map f).Nodup → ∀ {a b : α}, a ∈ l → b ∈ l → f a = f b → a = b
  | [], _, a, b, h, _, _ => absurd h (by simp)
  | x :: l, nd, a, b, ha, hb, e => by
    rw [List.map_cons, List.nodup_cons] at nd
    rcases List.mem_cons.mp ha with rfl | ha2
    · rcases List.mem_cons.mp hb with rfl | hb2
      · rfl
      · exact absurd (e ▸ List.mem_map_of_mem hb2) nd.1
    · rcases List.mem_cons.mp hb with rfl | hb2
      · exact absurd (e ▸ List.mem_map_of_mem ha2) nd.1
      · exact nodup_inj nd.2 ha2 hb2 e
/-- the def's code object and its table, of each def that makes lambdas -/
def PT.tbs (t : PT) (K : PySem.W.Frag) : List (Addr × Addr) := t.fulls.map fun f => (codAd K f, tabAd K f)
theorem wd_of {P : Program} {w : World} {K : PySem.W.Frag} {base : Heap} {mg : Str → Option Value} {t : PT} {r : Nat} (X : K.In base) (G : base.Ns mainGlobals mg) (top : (P.main.scope.names.lookup ("super" : Str)).isSome = false) (c : t.ok P.main.file K = true)
    (T : ∀ p ∈ t.tbs K, TabB base mg p.1 p.2) : Wd P w K mg base (t.cfg K) t.gk t.prog r := by
  obtain ⟨c1, c⟩ := ba c
  obtain ⟨c2, c⟩ := ba c
  obtain ⟨c3, c⟩ := ba c
  obtain ⟨c4, c⟩ := ba c
  obtain ⟨c5, c⟩ := ba c
  obtain ⟨c6, c⟩ := ba c
  obtain ⟨c7, c8⟩ := ba c
  have tabs : ∀ f r, (f, r) ∈ t.defs → r.full = true → TabB base mg (codAd K f) (tabAd K f) ∧ (tabAd K f, lamT f) ∈ (t.cfg K).tabs ∧ ∀ q ∈ (t.cfg K).tabs, q.1 = tabAd K f → q.2 = lamT f := fun f r hm hf => by
    have hfm : f ∈ t.fulls := List.mem_map.mpr ⟨(f, r), List.mem_filter.mpr ⟨hm, hf⟩, rfl⟩
    refine ⟨T _ (List.mem_map.mpr ⟨f, hfm, rfl⟩), List.mem_map.mpr ⟨f, hfm, rfl⟩, fun q hq e => ?_⟩
    obtain ⟨f2, h2, rfl⟩ := List.mem_map.mp hq
    rw [nodup_inj (of_decide_eq_true c8) h2 hfm e]
  exact {
    hK := rfl
    mgb := fun x hx => PySem.W.mg_none_of X G (eqO_ok (List.all_eq_true.mp c1 x hx))
    glob := fun x d h => by
      have h2 := List.all_eq_true.mp c4 _ (look_mem h)
      dsimp only at h2
      cases e : PySem.W.nsIn K mainGlobals x with
      | none => rw [e] at h2; cases h2
      | some o =>
        rw [e] at h2
        cases o with
        | none => cases h2
        | some u =>
          obtain ⟨v, r1, r2⟩ := denK_ok (Y := t.cfg K) d u h2
          exact ⟨u, v, PySem.W.mg_of X G e, r1, r2⟩
    sub := fun c h b e => by
      have e2 : (match t.anc.lookup c, t.anc.lookup h with
        | some l, some _ => some (l.contains h)
        | _, _ => none) = some b := e
      cases q1 : t.anc.lookup c with
      | none => rw [q1] at e2; cases e2
      | some l =>
        cases q2 : t.anc.lookup h with
        | none => rw [q1, q2] at e2; cases e2
        | some l2 =>
          rw [q1, q2] at e2
          cases e2
          obtain ⟨h1, h2⟩ := ba (List.all_eq_true.mp c5 _ (look_mem q1))
          obtain ⟨h3, h4⟩ := ba h2
          obtain ⟨h5, h6⟩ := ba h4
          obtain ⟨h7, h8⟩ := ba h6
          obtain ⟨h9, h10⟩ := ba (List.all_eq_true.mp h8 _ (look_mem q2))
          exact ⟨of_decide_eq_true h9, xfB_ok h3, fun f hf => eqO_ok (List.all_eq_true.mp h5 f hf), xiB_ok h7, of_decide_eq_true h10⟩
    hnd := fun h hh => by
      obtain ⟨q, hq, rfl⟩ := List.mem_map.mp hh
      exact PySem.W.mg_of X G (eqO_ok (ba (List.all_eq_true.mp c5 q hq)).1)
    exk := fun c hc => by
      obtain ⟨q, hq, rfl⟩ := List.mem_map.mp hc
      cases e : t.exs.lookup q.1 with
      | none =>
        have : ∀ {l : List (Str × List Str)}, q ∈ l → l.lookup q.1 ≠ none := fun {l} => by
          induction l with
          | nil => exact fun h => absurd h (by simp)
          | cons p l ih =>
            intro h z
            rw [show p = (p.1, p.2) from rfl, List.lookup_cons] at z
            by_cases y : q.1 = p.1
            · rw [y, beq_self_eq_true] at z; cases z
            · rw [beq_eq_false_iff_ne.mpr y] at z
              rcases List.mem_cons.mp h with h | h
              · exact y (by rw [h])
              · exact ih h z
        exact absurd e (this hq)
      | some fs =>
        have h2 := excB_ok (P := P) (w := w) (j := r) X G (eqO_ok c3) top (PySem.W.mg_none_of X G (eqO_ok c2)) (List.all_eq_true.mp c6 _ (look_mem e))
        have e3 : t.prog.fields q.1 = fs := by
          show (t.exs.lookup q.1).getD [] = fs
          rw [e]
          rfl
        rw [e3]
        exact h2
    dfs := fun f n e => by
      have e2 : (match t.defs.lookup f with
        | some q => if q.tk then none else some q.d.params
        | none => none) = some n := e
      cases q : t.defs.lookup f with
      | none => rw [q] at e2; cases e2
      | some r =>
        rw [q] at e2
        dsimp only at e2
        cases hk : r.tk with
        | true => rw [hk] at e2; cases e2
        | false =>
          rw [hk] at e2
          have e3 : r.d.params = n := Option.some.inj e2
          have D := defB_ok (t := t) X G (List.all_eq_true.mp c7 _ (look_mem q)) (tabs f r (look_mem q))
          rw [hk] at D
          refine ⟨r.d, ?_, e3, D⟩
          show (t.defs.lookup f).map (·.d) = _
          rw [q]
          rfl
    lms := fun f e => by
      have e2 : (match t.defs.lookup f with
        | some q => q.tk
        | none => false) = true := e
      cases q : t.defs.lookup f with
      | none => rw [q] at e2; cases e2
      | some r =>
        rw [q] at e2
        have hk : r.tk = true := e2
        have D := defB_ok (t := t) X G (List.all_eq_true.mp c7 _ (look_mem q)) (tabs f r (look_mem q))
        rw [hk] at D
        have hp : r.d.params = 1 := by
          obtain ⟨N, ps, full, fa, pa, bd, sc, dV, kV, doc, pm, cdv, ct, oc, an, od, osl, m1, m2, m3, m4, m5, S, l1, l2, ck, _, tk⟩ := D.ok
          obtain ⟨_, a, rfl, _⟩ := tk rfl
          exact l1.symm
        refine ⟨r.d, ?_, hp, D⟩
        show (t.defs.lookup f).map (·.d) = _
        rw [q]
        rfl }
end Sw

set_option Elab.async false
set_option linter.all false
set_option maxRecDepth 100000
set_option maxHeartbeats 1000000
/-! Sw, a law's end: the Hook that looks at the whole program, and the law from its run by the interpreter. -/
namespace Sw
open PySem PySem.Spec PyProof.Rows L2 LamX
open He (ba)
def asS (g : Addr → Option Obj) (n : Nat) : List Addr := He.asD g n ++ [cStatics]
structure SaysS (t : PT) (file : Str) (h : Heap) (K : PySem.W.Frag) : Prop where
  ok : t.ok file K = true
  hd : ∀ p ∈ t.tbs K, PySem.W.codeHdIn K p.1 p.2 = true
  out : ∀ p ∈ t.tbs K, K.lookup p.2 = none
  empty : ∀ p ∈ t.tbs K, h.get? p.2 = some { cls := .none, data := .fields #[] }
def tbsB (t : PT) (g : Addr → Option Obj) (K : PySem.W.Frag) : Bool := (t.tbs K).all fun p => PySem.W.codeHdIn K p.1 p.2 && (match g p.2 with
  | some o => He.emptyTab o
  | none => false)
def obsS (t : PT) (file : Str) (n : Nat) (g : Addr → Option Obj) : Bool := t.ok file (He.frT g (asS g n)) && tbsB t g (He.frT g (asS g n))
theorem saysS_of {t : PT} {file : Str} {n : Nat} {h : Heap} (e : obsS t file n h.get? = true) : SaysS t file h (He.frT h.get? (asS h.get? n)) := by
  obtain ⟨h1, h2⟩ := ba e
  have key : ∀ p ∈ t.tbs (He.frT h.get? (asS h.get? n)), PySem.W.codeHdIn (He.frT h.get? (asS h.get? n)) p.1 p.2 = true ∧ ∃ o, h.get? p.2 = some o ∧ He.emptyTab o = true := fun p hp => by
    obtain ⟨h3, h4⟩ := ba (List.all_eq_true.mp h2 p hp)
    refine ⟨h3, ?_⟩
    cases q : h.get? p.2 with
    | none =>
      rw [q] at h4
      cases h4
    | some o =>
      rw [q] at h4
      exact ⟨o, rfl, h4⟩
  exact ⟨h1, fun p hp => (key p hp).1, fun p hp => by
    obtain ⟨_, o, q, z⟩ := key p hp
    exact He.frT_none q z, fun p hp => by
    obtain ⟨_, o, q, z⟩ := key p hp
    rw [q, He.emptyTab_eq z]⟩
def hookS (t : PT) (file : Str) (n : Nat) : PySem.W.Hook where
  α := Bool
  obs := fun s => obsS t file n s.heap.get?
  val := fun _ => true
  says := fun _ h => ∃ K : PySem.W.Frag, K.In h ∧ SaysS t file h K
  of := fun _ _ e => ⟨_, He.frT_in, saysS_of e⟩
  keeps := fun _ _ _ ⟨K, hK, c⟩ k => ⟨K, PySem.W.Frag.In.keeps hK k, ⟨c.ok, c.hd, c.out, fun p hp => k _ _ (c.empty p hp)⟩⟩
theorem obsS_eq {t : PT} {file : Str} {n : Nat} {g : Addr → Option Obj} {s : Shared} (h : ∀ a, g a = s.heap.get? a) : obsS t file n g = (hookS t file n).obs s := by
  have e : g = s.heap.get? := funext h
  rw [e] <;> rfl
theorem walk_S {lw : PySem.W.OpenLaw} {q : Program} {loose : List Str} {XP : (Str → Option Value) → Heap → Prop} {d : DefRec} {t : PT} {n k : Nat} (hn : lw.most = some 63) (hdf : d.params.defaults = []) (hp : t.gk.par d.name = some 1) (top : (lw.prog.main.scope.names.lookup ("super" : Str)).isSome = false)
    (room : Room (3 + k) callerA) (run : t.Runs k d.name) : PySem.W.WalkO q loose XP (hookS t lw.prog.main.file n).says lw.row.toRowW d [] (fun f us => PySem.call f us) := by
  refine Att.attach_callB hn hdf fun wd s₀ s1 gm gb fo o pm cd doc a us zs G Y ho hd hcd nameG objA intsA lenS bitS hg => ?_
  obtain ⟨K, KX, S⟩ := Y
  refine law_callG (tbs := t.tbs K) (prm := spC (t.cfg K) 1 (t.prog.call k d.name)) KX G.T.g G.T.b G.T.builtins G.T.nolimit hg S.empty S.out (fun p hp => PySem.W.codeHd_of_K KX (S.hd p hp)) G.T.bmain objA intsA (Nat.le_trans lenS (by decide)) room (fun base KB GB TB => ?_) (fun H hT hS => ?_) fun H e s' h => by
    obtain ⟨_, _, _, _, _, _, _, _, _, _, _, _, z⟩ := h
    exact z
  · have W := wd_of (P := lw.prog) (w := wd) (r := 1) KB GB top S.ok TB
    obtain ⟨fa, fd, ps, F, m1, m2, m3⟩ := ((calls_lv W k).1 d.name 1 hp).ok
    rw [nameG] at m1
    cases m1
    exact ⟨fd, ps, F, m3⟩
  · obtain ⟨st, e⟩ := run zs lenS bitS
    have tab : ∀ p ∈ (t.cfg K).tabs, H p.1 = some (.tbl #[]) := fun p hp => by
      obtain ⟨f, hf, rfl⟩ := List.mem_map.mp hp
      exact hT _ (List.mem_map.mpr ⟨f, hf, rfl⟩)
    have nT : ∀ b, b ∈ (t.cfg K).tabs.map (·.1) → H b = some (.tbl #[]) := fun b hb => by
      obtain ⟨p, hp, rfl⟩ := List.mem_map.mp hb
      exact tab p hp
    have hZ : SqI K (fun b => b = a ∧ Rd H a (.lst (zs.map V.int))) H a zs := hS.imp (fun z => ⟨z, rfl, z⟩) id
    refine ⟨fun b => b = a ∧ Rd H a (.lst (zs.map V.int)), [], [], [.seqI zs], ⟨fun b ⟨h1, h2⟩ z => ?_, rfl, fun n c b e1 _ => (by cases e1), .nil, fun b hb ⟨h1, h2⟩ => ?_, fun b hb => (by cases hb), fun p hp => TabS.nil (tab p hp)⟩, .cons (.seqI hZ) .nil, rfl, ?_⟩
    · subst h1
      rcases h2 with h2 | ⟨o, h2⟩ <;> rw [z] at h2 <;> cases h2
    · subst h1
      rcases hb with hb | hb
      · cases hb
      · have z := nT b hb
        rcases h2 with h2 | ⟨o, h2⟩ <;> rw [z] at h2 <;> cases h2
    · rw [e]
      intro v H' Z' ms' s q
      have q' : Den (t.cfg K) Z' ms' H' v (.bl true) := q
      cases q'
      rfl
end Sw

set_option Elab.async false
set_option linter.all false
set_option maxRecDepth 100000
set_option maxHeartbeats 1000000
/-! Sw, plain laws: what a run of the interpreter tells, by weakest preconditions. -/
namespace Sw
open PySem
/-- an end in Q, or with an error in X; never a bad one -/
def WpR {α : Type} (r : Res α) (Q : α → Store → Prop) (X : Str → List (Str × D) → Store → Prop) : Prop := match r with
  | .ok a st' => Q a st'
  | .exn c fs st' => X c fs st'
  | .bad => False
/-- m, begun at st, ends in Q, or with an error in X; never badly -/
structure Wp {α : Type} (m : M α) (st : Store) (Q : α → Store → Prop) (X : Str → List (Str × D) → Store → Prop) : Prop where
  h : WpR (m st) Q X
theorem wp_eq {α : Type} {m : M α} {st : Store} {Q : α → Store → Prop} {X : Str → List (Str × D) → Store → Prop} : Wp m st Q X = WpR (m st) Q X := propext ⟨fun h => h.h, fun h => ⟨h⟩⟩
abbrev X0 : Str → List (Str × D) → Store → Prop := fun _ _ _ => False
/-- what a call hands back, taken as a value; as a list that nobody else has -/
def ofK (Q : D → Store → Prop) : Slot → Store → Prop
  | .sh d, st => Q d st
  | .ow ds, st => Q (.lst ds) st
  | _, _ => False
def owK (Q : D → Store → Prop) : Slot → Store → Prop
  | .ow ds, st => Q (.lst ds) st
  | _, _ => False
theorem ofK_sh {Q : D → Store → Prop} {d : D} {st : Store} : ofK Q (.sh d) st = Q d st := propext ⟨fun h => h, fun h => h⟩
theorem ofK_ow {Q : D → Store → Prop} {d : List D} {st : Store} : ofK Q (.ow d) st = Q (.lst d) st := propext ⟨fun h => h, fun h => h⟩
theorem owK_ow {Q : D → Store → Prop} {d : List D} {st : Store} : owK Q (.ow d) st = Q (.lst d) st := propext ⟨fun h => h, fun h => h⟩
theorem truth_bl (b : Bool) : truthD (.bl b) = some b := rfl
theorem truth_non : truthD .non = some false := rfl
theorem truth_int (i : Int) : truthD (.int i) = some (i != 0) := rfl
theorem truth_tup (ds : List D) : truthD (.tup ds) = some !ds.isEmpty := rfl
theorem truth_lst (ds : List D) : truthD (.lst ds) = some !ds.isEmpty := rfl
theorem lookV_0 {d : D} {r : Fr} : lookV (some (.sh d) :: r) 0 = some d := rfl
theorem lookV_s {o : Option Slot} {r : Fr} {i : Nat} : lookV (o :: r) (i + 1) = lookV r i := rfl
theorem borV_0 {d : D} {r : Fr} : borV (some (.sh d) :: r) 0 = some d := rfl
theorem borV_1 {d : List D} {r : Fr} : borV (some (.ow d) :: r) 0 = some (.lst d) := rfl
theorem borV_s {o : Option Slot} {r : Fr} {i : Nat} : borV (o :: r) (i + 1) = borV r i := rfl
theorem ownAt_0 {d : List D} {r : Fr} : ownAt (some (.ow d) :: r) 0 = some d := rfl
theorem ownAt_s {o : Option Slot} {r : Fr} {i : Nat} : ownAt (o :: r) (i + 1) = ownAt r i := rfl
theorem frzF_0 {d : List D} {r : Fr} : frzF (some (.ow d) :: r) 0 = some (.sh (.lst d)) :: r := rfl
theorem frzF_1 {d : D} {r : Fr} : frzF (some (.sh d) :: r) 0 = some (.sh d) :: r := rfl
theorem frzF_2 {r : Fr} : frzF (none :: r) 0 = none :: r := rfl
theorem frzF_s {o : Option Slot} {r : Fr} {i : Nat} : frzF (o :: r) (i + 1) = o :: frzF r i := by
  unfold frzF
  rw [ownAt_s]
  cases ownAt r i <;> rfl
theorem cmp_le (i j : Int) : cmpD .LtE (.int i) (.int j) = some (decide (i ≤ j)) := rfl
theorem cmp_lt (i j : Int) : cmpD .Lt (.int i) (.int j) = some (decide (i < j)) := rfl
theorem cmp_ge (i j : Int) : cmpD .GtE (.int i) (.int j) = some (decide (j ≤ i)) := rfl
theorem cmp_gt (i j : Int) : cmpD .Gt (.int i) (.int j) = some (decide (j < i)) := rfl
theorem cmp_eq (a b : D) : cmpD .Eq a b = eqD a b := by cases a <;> cases b <;> rfl
theorem cmp_ne (a b : D) : cmpD .NotEq a b = (eqD a b).map (!·) := by cases a <;> cases b <;> rfl
theorem cmp_in (a b : D) : cmpD .In a b = inD a b := by cases a <;> cases b <;> rfl
theorem cmp_nin (a b : D) : cmpD .NotIn a b = (inD a b).map (!·) := by cases a <;> cases b <;> rfl
theorem cmp_is (a : D) : cmpD .Is a .non = some (match a with | .non => true | _ => false) := by cases a <;> rfl
theorem cmp_isn (a : D) : cmpD .IsNot a .non = some (match a with | .non => false | _ => true) := by cases a <;> rfl
theorem bin_add (i j : Int) : binD .Add (.int i) (.int j) = some (.int (i + j)) := rfl
theorem bin_sub (i j : Int) : binD .Sub (.int i) (.int j) = some (.int (i - j)) := rfl
theorem neg_int (i : Int) : negD (.int i) = some (.int (-i)) := rfl
theorem rev_tup (ds : List D) : revD (.tup ds) = some (.tup ds.reverse) := rfl
theorem rev_lst (ds : List D) : revD (.lst ds) = some (.lst ds.reverse) := rfl
theorem item_tup (ds : List D) (i : Nat) : itemD (.tup ds) (.int (i : Int)) = ds[i]? := by
  show (ixD ds.length (i : Int)).bind (fun j => ds[j]?) = _
  unfold ixD
  rw [if_pos (by omega)]
  split
  · simp
  · rw [List.getElem?_eq_none (by omega)]
    rfl
theorem item_lst (ds : List D) (i : Nat) : itemD (.lst ds) (.int (i : Int)) = ds[i]? := item_tup ds i
theorem item_tup0 (ds : List D) : itemD (.tup ds) (.int 0) = ds[0]? := item_tup ds 0
theorem item_lst0 (ds : List D) : itemD (.lst ds) (.int 0) = ds[0]? := item_tup ds 0
theorem item_last (ds : List D) : itemD (.lst ds) (.int (-1)) = ds.getLast? := by
  show (ixD ds.length (-1)).bind (fun j => ds[j]?) = _
  unfold ixD
  rw [if_neg (by omega)]
  cases ds with
  | nil => rfl
  | cons d r =>
    rw [if_pos (by simp only [List.length_cons]; omega)]
    have : (-1 + ((d :: r).length : Int)).toNat = (d :: r).length - 1 := by simp only [List.length_cons]; omega
    rw [this, List.getLast?_eq_getElem?]
    rfl
theorem slice_from {v : Int} {i : Nat} (h : v = i) (ds : List D) : sliceD (some v) none (.tup ds) = some (.tup (ds.drop i)) := by
  subst h
  have e1 : bndD ds.length 0 (some (i : Int)) = min i ds.length := by
    show (if (i : Int) < 0 then ((i : Int) + ds.length).toNat else min (i : Int).toNat ds.length) = _
    rw [if_neg (by omega), Int.toNat_natCast]
  show some (D.tup ((ds.drop (bndD ds.length 0 (some (i : Int)))).take (ds.length - bndD ds.length 0 (some (i : Int))))) = _
  rw [e1]
  congr 2
  rw [List.take_of_length_le (by rw [List.length_drop]; exact Nat.le_refl _)]
  rcases Nat.le_total i ds.length with h | h
  · rw [Nat.min_eq_left h]
  · rw [Nat.min_eq_right h, List.drop_of_length_le (Nat.le_refl _), List.drop_of_length_le h]
theorem bi_len_tup (ds : List D) : biD .len [.tup ds] = some (.int ds.length) := rfl
theorem bi_len_lst (ds : List D) : biD .len [.lst ds] = some (.int ds.length) := rfl
theorem bi_tuple_lst (ds : List D) : biD .tuple [.lst ds] = some (.tup ds) := rfl
theorem bi_tuple_tup (ds : List D) : biD .tuple [.tup ds] = some (.tup ds) := rfl
theorem bi_list_lst (ds : List D) : biD .list [.lst ds] = some (.lst ds) := rfl
theorem bi_list_tup (ds : List D) : biD .list [.tup ds] = some (.lst ds) := rfl
theorem bi_int_int (i : Int) : biD .int [.int i] = some (.int i) := rfl
theorem bi_int_bl (b : Bool) : biD .int [.bl b] = some (.int (if b then 1 else 0)) := rfl
theorem bi_repr (d : D) : biD .repr [d] = (reprD d).map .str := by cases d <;> rfl
theorem bi_all (ds : List D) : biD .all [.lst ds] = (bools ds).map fun bs => .bl (bs.all id) := rfl
theorem bi_sorted_lst (ds : List D) : biD .sorted [.lst ds] = (sortedD ds).map .lst := rfl
theorem bi_sorted_tup (ds : List D) : biD .sorted [.tup ds] = (sortedD ds).map .lst := rfl
theorem row_tup (ds : List D) : rowOf (.tup ds) = some ds := rfl
theorem row_lst (ds : List D) : rowOf (.lst ds) = some ds := rfl
theorem walk_tup (ds : List D) : walkOf (.tup ds) = some ds := rfl
theorem walk_lst (ds : List D) : walkOf (.lst ds) = some ds := rfl
theorem walk_seqI (ns : List Int) : walkOf (.seqI ns) = some (ns.map .int) := rfl
theorem lstOf_lst (ds : List D) : lstOf (.lst ds) = some ds := rfl
section
variable {α β : Type} {Q Q' : α → Store → Prop} {R : β → Store → Prop} {X X' : Str → List (Str × D) → Store → Prop} {st : Store}
theorem wp_pure (a : α) : Wp (M.pure a) st Q X = Q a st := wp_eq.trans (propext ⟨fun h => h, fun h => h⟩)
theorem wp_pureI {a : α} (h : Q a st) : Wp (M.pure a) st Q X := by
  rw [wp_pure]
  exact h
theorem wp_bind (m : M β) (f : β → M α) : Wp (M.bind m f) st Q X = Wp m st (fun b st' => Wp (f b) st' Q X) X := by
  simp only [wp_eq]
  unfold WpR M.bind
  cases m st <;> rfl
theorem wp_some (a : α) : Wp (M.of (some a)) st Q X = Q a st := wp_eq.trans (propext ⟨fun h => h, fun h => h⟩)
theorem wp_none : Wp (M.of (none : Option α)) st Q X = False := wp_eq.trans (propext ⟨fun h => h, fun h => h⟩)
theorem wp_bad : Wp (M.bad : M α) st Q X = False := wp_eq.trans (propext ⟨fun h => h, fun h => h⟩)
theorem wp_mono {m : M α} (h : Wp m st Q X) (hq : ∀ a s, Q a s → Q' a s) (hx : ∀ c fs s, X c fs s → X' c fs s) : Wp m st Q' X' := by
  rw [wp_eq] at *
  unfold WpR at *
  cases e : m st with
  | ok a s => rw [e] at h; exact hq a s h
  | exn c fs s => rw [e] at h; exact hx c fs s h
  | bad => rw [e] at h; exact h
theorem wp_guard {b : Bool} {Q : Unit → Store → Prop} : Wp (M.guard b) st Q X = (b = true ∧ Q () st) := by
  rw [wp_eq]
  cases b
  · show False = _
    simp
  · show Q () st = _
    simp
theorem wp_at {m : M β} {δ : Fr} {k : β → M Flow} {Q : Flow → Store → Prop} : Wp (M.at m δ k) st Q X = Wp m st (fun b st' => Wp (k b) st' Q X) (fun c fs st' => Q (.exc c fs δ) st') := by
  simp only [wp_eq]
  unfold WpR M.at
  cases m st <;> rfl
theorem wp_nox {m : M α} : Wp (M.nox m) st Q X = Wp m st Q X0 := by
  simp only [wp_eq]
  unfold WpR M.nox
  cases m st <;> rfl
theorem wp_ok {m : M α} (h : Wp m st Q X0) : ∃ a st', m st = .ok a st' ∧ Q a st' := by
  rw [wp_eq] at h
  unfold WpR at h
  cases e : m st with
  | ok a s => rw [e] at h; exact ⟨a, s, rfl, h⟩
  | exn c fs s => rw [e] at h; exact h.elim
  | bad => rw [e] at h; exact h.elim
/-- a known end -/
theorem wp_of_eq {m : M α} {a : α} {st' : Store} (e : m st = .ok a st') (h : Q a st') : Wp m st Q X := by
  rw [wp_eq, e]
  exact h
theorem wp_of_exn {m : M α} {c : Str} {fs : List (Str × D)} {st' : Store} (e : m st = .exn c fs st') (h : X c fs st') : Wp m st Q X := by
  rw [wp_eq, e]
  exact h
theorem wp_ite {c : Prop} [Decidable c] {a b : M α} : Wp (if c then a else b) st Q X = if c then Wp a st Q X else Wp b st Q X := by
  split <;> rfl
theorem wp_shM {m : M Slot} {Q : D → Store → Prop} : Wp (shM m) st Q X = Wp m st (ofK Q) X := by
  unfold shM
  rw [wp_bind]
  congr 1
  funext s st'
  cases s
  · exact wp_some _
  · exact wp_some _
  · exact wp_none
  · exact wp_none
theorem wp_owM {m : M Slot} {Q : D → Store → Prop} : Wp (owM m) st Q X = Wp m st (owK Q) X := by
  unfold owM
  rw [wp_bind]
  congr 1
  funext s st'
  cases s
  · exact wp_bad
  · exact wp_pure _
  · exact wp_bad
  · exact wp_bad
theorem wp_endM {m : M Flow} {Q : Slot → Store → Prop} : Wp (endM m) st Q X = Wp m st (fun f st' => match f with
  | .ret s => Q s st'
  | .next _ => Q (.sh .non) st'
  | .exc c fs _ => X c fs st'
  | _ => False) X0 := by
  simp only [wp_eq]
  unfold WpR endM
  cases m st with
  | ok f s => cases f <;> rfl
  | exn c fs s => rfl
  | bad => rfl
theorem wp_seqX {a b : Ex} {δ : Fr} {Q : Flow → Store → Prop} : Wp (seqX a b δ) st Q X = Wp (a δ) st (fun f st' => match f with
  | .next δ' => Wp (b δ') st' Q X
  | f => Q f st') X := by
  unfold seqX
  rw [wp_bind]
  congr 1
  funext f s
  cases f <;> first | rfl | exact wp_pure _
end
/-! ### calls -/
/-- what the body of a def called at level k + 1 sees -/
def cx (p : Prog) (k : Nat) : Ctx := p.ctx (p.lv k).1 (p.lv k).2.1 (p.lv k).2.2
/-- what the body of a def called with a lambda sees: its own calls at level k, the lambda worth t -/
def tx (p : Prog) (k : Nat) (t : M D) : Ctx := ⟨p.call k, fun _ _ => M.bad, p.glob, p.sub, p.fields, some t⟩
section
variable {p : Prog} {k : Nat} {t : M D} {c : Calls}
theorem cx_call : (cx p k).call = p.call k := rfl
theorem cx_glob : (cx p k).glob = p.glob := rfl
theorem cx_sub : (cx p k).sub = p.sub := rfl
theorem cx_fields : (cx p k).fields = p.fields := rfl
theorem tx_call : (tx p k t).call = p.call k := rfl
theorem tx_glob : (tx p k t).glob = p.glob := rfl
theorem tx_sub : (tx p k t).sub = p.sub := rfl
theorem tx_fields : (tx p k t).fields = p.fields := rfl
theorem tx_thunk : (tx p k t).thunk = some t := rfl
theorem low_call : ((cx p k).low c).call = c := rfl
theorem low_glob : ((cx p k).low c).glob = p.glob := rfl
end
/-- how a body's end is taken -/
def endK (Q : Slot → Store → Prop) (X : Str → List (Str × D) → Store → Prop) : Flow → Store → Prop
  | .ret s, st => Q s st
  | .next _, st => Q (.sh .non) st
  | .exc c fs _, st => X c fs st
  | _, _ => False
/-- what follows a statement -/
def thenK (C : Ctx) (r : List S) (Q : Flow → Store → Prop) (X : Str → List (Str × D) → Store → Prop) : Flow → Store → Prop
  | .next δ, st => Wp (execs C r δ) st Q X
  | f, st => Q f st
section
variable {p : Prog} {k : Nat} {f : Str} {d : Def} {ds : List D} {Q : Slot → Store → Prop} {X : Str → List (Str × D) → Store → Prop} {st : Store}
theorem endK_ret {s : Slot} : endK Q X (.ret s) st = Q s st := propext ⟨fun h => h, fun h => h⟩
theorem endK_next {δ : Fr} : endK Q X (.next δ) st = Q (.sh .non) st := propext ⟨fun h => h, fun h => h⟩
theorem endK_exc {c : Str} {fs : List (Str × D)} {δ : Fr} : endK Q X (.exc c fs δ) st = X c fs st := propext ⟨fun h => h, fun h => h⟩
theorem wp_runBody {C : Ctx} {n : Nat} {b : List S} {ss : List Slot} : Wp (runBody C n b ss) st Q X = Wp (execs C b (ss.map some ++ List.replicate (n - ss.length) none)) st (endK Q X) X0 := by
  unfold runBody
  rw [wp_endM]
  congr 1
  funext f s
  cases f <;> rfl
theorem wp_call (hd : p.defs f = some d) (hl : ds.length = d.params) : Wp (p.call (k + 1) f ds) st Q X = Wp (execs (cx p k) d.body ((ds.map Slot.sh).map some ++ List.replicate (d.names - (ds.map Slot.sh).length) none)) st (endK Q X) X0 := by
  have e : p.call (k + 1) f ds = runBody (cx p k) d.names d.body (ds.map Slot.sh) := by
    show p.next _ _ _ f ds = _
    unfold Prog.next
    rw [hd]
    exact if_pos hl
  rw [e, wp_runBody]
theorem wp_lam {m : Calls → M D} (hd : p.defs f = some d) (hl : d.params = 1) : Wp ((cx p (k + 2)).callT f m) st Q X = Wp (execs (tx p (k + 1) (m (p.call k))) d.body ([Slot.thk].map some ++ List.replicate (d.names - [Slot.thk].length) none)) st (endK Q X) X0 := by
  have e : (cx p (k + 2)).callT f m = runBody (tx p (k + 1) (m (p.call k))) d.names d.body [Slot.thk] := by
    show p.callT _ _ f m = _
    unfold Prog.callT
    rw [hd]
    exact if_pos hl
  rw [e, wp_runBody]
end
section
variable {C : Ctx} {δ : Fr} {st : Store} {Q : Flow → Store → Prop} {X : Str → List (Str × D) → Store → Prop} {s : S} {r : List S}
theorem wp_nil : Wp (execs C [] δ) st Q X = Q (.next δ) st := wp_pure _
theorem wp_cons : Wp (execs C (s :: r) δ) st Q X = Wp (exec C s δ) st (thenK C r Q X) X := by
  show Wp (seqX (exec C s) (execs C r) δ) st Q X = _
  rw [wp_seqX]
  congr 1
  funext f s
  cases f <;> rfl
theorem wp_append : ∀ {a b : List S} {δ : Fr} {st : Store}, Wp (execs C (a ++ b) δ) st Q X = Wp (execs C a δ) st (thenK C b Q X) X
  | [], b, δ, st => by rw [wp_nil]; rfl
  | s :: a, b, δ, st => by
    rw [List.cons_append, wp_cons, wp_cons]
    congr 1
    funext f s
    cases f with
    | next δ' => exact wp_append
    | _ => rfl
theorem thenK_next {δ : Fr} : thenK C r Q X (.next δ) st = Wp (execs C r δ) st Q X := propext ⟨fun h => h, fun h => h⟩
theorem thenK_ret {v : Slot} : thenK C r Q X (.ret v) st = Q (.ret v) st := propext ⟨fun h => h, fun h => h⟩
theorem thenK_exc {c : Str} {fs : List (Str × D)} {δ : Fr} : thenK C r Q X (.exc c fs δ) st = Q (.exc c fs δ) st := propext ⟨fun h => h, fun h => h⟩
theorem thenK_brk {δ : Fr} : thenK C r Q X (.brk δ) st = Q (.brk δ) st := propext ⟨fun h => h, fun h => h⟩
theorem thenK_cont {δ : Fr} : thenK C r Q X (.cont δ) st = Q (.cont δ) st := propext ⟨fun h => h, fun h => h⟩
/-! ### loops -/
/-- how a turn's end is taken -/
def turnK (I : Fr → Store → Prop) (Q : Flow → Store → Prop) : Flow → Store → Prop
  | .next δ, st => I δ st
  | .cont δ, st => I δ st
  | .brk δ, st => Q (.next δ) st
  | f, st => Q f st
theorem turnK_next {I : Fr → Store → Prop} {δ : Fr} : turnK I Q (.next δ) st = I δ st := propext ⟨fun h => h, fun h => h⟩
theorem turnK_cont {I : Fr → Store → Prop} {δ : Fr} : turnK I Q (.cont δ) st = I δ st := propext ⟨fun h => h, fun h => h⟩
theorem turnK_brk {I : Fr → Store → Prop} {δ : Fr} : turnK I Q (.brk δ) st = Q (.next δ) st := propext ⟨fun h => h, fun h => h⟩
theorem turnK_ret {I : Fr → Store → Prop} {v : Slot} : turnK I Q (.ret v) st = Q (.ret v) st := propext ⟨fun h => h, fun h => h⟩
theorem turnK_exc {I : Fr → Store → Prop} {c : Str} {fs : List (Str × D)} : turnK I Q (.exc c fs δ) st = Q (.exc c fs δ) st := propext ⟨fun h => h, fun h => h⟩
theorem wp_loop {t : T} {body : Ex} (I : List D → Fr → Store → Prop) : ∀ {items : List D} {δ : Fr} {st : Store}, I items δ st →
    (∀ d r δ st, I (d :: r) δ st → Wp (M.bind (M.of (bindT t d δ)) body) st (turnK (I r) Q) X) → (∀ δ st, I [] δ st → Q (.next δ) st) → Wp (loopF t body items δ) st Q X
  | [], δ, st, h, _, hf => wp_pureI (hf δ st h)
  | d :: r, δ, st, h, hs, hf => by
    show Wp (M.bind (M.of (bindT t d δ)) fun δ1 => M.bind (body δ1) fun f => match f with
      | .next δ' => loopF t body r δ'
      | .cont δ' => loopF t body r δ'
      | .brk δ' => M.pure (.next δ')
      | f => M.pure f) st Q X
    have h1 := hs d r δ st h
    rw [wp_bind] at h1 ⊢
    refine wp_mono h1 (fun δ1 st1 h2 => ?_) fun _ _ _ h => h
    rw [wp_bind]
    refine wp_mono h2 (fun f st2 h3 => ?_) fun _ _ _ h => h
    cases f with
    | next δ' => exact wp_loop I h3 hs hf
    | cont δ' => exact wp_loop I h3 hs hf
    | brk δ' => exact wp_pureI h3
    | ret v => exact wp_pureI h3
    | exc c fs δ' => exact wp_pureI h3
theorem wp_loop_nil {t : T} {body : Ex} : Wp (loopF t body [] δ) st Q X = Q (.next δ) st := wp_pure _
theorem wp_loop_cons {t : T} {body : Ex} {d : D} {ds : List D} : Wp (loopF t body (d :: ds) δ) st Q X = Wp (M.bind (M.of (bindT t d δ)) body) st (turnK (fun δ' st' => Wp (loopF t body ds δ') st' Q X) Q) X := by
  show Wp (M.bind (M.of (bindT t d δ)) fun δ1 => M.bind (body δ1) fun f => match f with
      | .next δ' => loopF t body ds δ'
      | .cont δ' => loopF t body ds δ'
      | .brk δ' => M.pure (.next δ')
      | f => M.pure f) st Q X = _
  rw [wp_bind, wp_bind]
  congr 1
  funext δ1 st1
  rw [wp_bind]
  congr 1
  funext f st2
  cases f <;> first | rfl | exact wp_pure _
/-- by the number of the turn -/
theorem wp_loopN {t : T} {body : Ex} {items : List D} (I : Nat → Fr → Store → Prop) (h : I 0 δ st)
    (hs : ∀ i d δ st, items[i]? = some d → I i δ st → Wp (M.bind (M.of (bindT t d δ)) body) st (turnK (I (i + 1)) Q) X) (hf : ∀ δ st, I items.length δ st → Q (.next δ) st) : Wp (loopF t body items δ) st Q X := by
  refine wp_loop (fun r δ st => ∃ i, items.drop i = r ∧ i ≤ items.length ∧ I i δ st) ⟨0, rfl, Nat.zero_le _, h⟩ ?_ ?_
  · rintro d r δ st ⟨i, e, hi, h⟩
    have e1 : items[i]? = some d := by
      have := congrArg (·[0]?) e
      simpa [List.getElem?_drop] using this
    have hlt : i < items.length := (List.getElem?_eq_some_iff.mp e1).1
    have e2 : items.drop (i + 1) = r := by
      have := congrArg (List.drop 1) e
      simpa [List.drop_drop] using this
    refine wp_mono (hs i d δ st e1 h) (fun f st' h' => ?_) fun _ _ _ h => h
    cases f <;> first | exact ⟨i + 1, e2, hlt, h'⟩ | exact h'
  · rintro δ st ⟨i, e, hi, h⟩
    have : i = items.length := by
      have := congrArg List.length e
      simp at this
      omega
    subst this
    exact hf δ st h
theorem wp_loopW {c : Fr → M Bool} {body : Ex} (I : Nat → Fr → Store → Prop)
    (hs : ∀ n δ st, I n δ st → Wp (c δ) st (fun b st' => if b then Wp (body δ) st' (turnK (fun δ' st2 => ∃ m, m < n ∧ I m δ' st2) Q) X else Q (.next δ) st') (fun c fs st' => Q (.exc c fs δ) st')) :
    ∀ {m n : Nat} {δ : Fr} {st : Store}, n < m → I n δ st → Wp (loopW c body m δ) st Q X
  | 0, n, δ, st, h, _ => absurd h (Nat.not_lt_zero _)
  | m + 1, n, δ, st, h, hI => by
    show Wp (M.at (c δ) δ fun b => if b then M.bind (body δ) fun f => match f with
      | .next δ' => loopW c body m δ'
      | .cont δ' => loopW c body m δ'
      | .brk δ' => M.pure (.next δ')
      | f => M.pure f
    else M.pure (.next δ)) st Q X
    rw [wp_at]
    refine wp_mono (hs n δ st hI) (fun b st1 h1 => ?_) fun _ _ _ h => h
    cases b with
    | false => exact wp_pureI h1
    | true =>
      rw [if_pos rfl] at h1 ⊢
      rw [wp_bind]
      refine wp_mono h1 (fun f st2 h2 => ?_) fun _ _ _ h => h
      cases f with
      | next δ' =>
        obtain ⟨j, hj, h3⟩ := h2
        exact wp_loopW I hs (by omega) h3
      | cont δ' =>
        obtain ⟨j, hj, h3⟩ := h2
        exact wp_loopW I hs (by omega) h3
      | brk δ' => exact wp_pureI h2
      | ret v => exact wp_pureI h2
      | exc c fs δ' => exact wp_pureI h2
end
/-! ### comprehensions -/
section
variable {st : Store} {X : Str → List (Str × D) → Store → Prop}
theorem wp_foldG {body : D → Fr → List D → M (List D)} {δ : Fr} (g : D → List D) {Q : List D → Store → Prop} : ∀ {items acc : List D}, acc.length + (items.flatMap g).length ≤ sizeLine →
    (∀ d ∈ items, ∀ acc R, acc.length + (g d).length ≤ sizeLine → R (acc ++ g d) st → Wp (body d δ acc) st R X) → Q (acc ++ items.flatMap g) st → Wp (foldG body δ items acc) st Q X
  | [], acc, _, _, h => by
    rw [List.flatMap_nil, List.append_nil] at h
    exact wp_pureI h
  | d :: items, acc, hz, hs, h => by
    show Wp (M.bind (body d δ acc) fun acc' => foldG body δ items acc') st Q X
    rw [wp_bind]
    rw [List.flatMap_cons, List.length_append] at hz
    refine hs d List.mem_cons_self acc _ (by omega) ?_
    refine wp_foldG g (by rw [List.length_append]; omega) (fun d' h' => hs d' (List.mem_cons_of_mem _ h')) ?_
    rw [List.flatMap_cons] at h
    rw [List.append_assoc]
    exact h
/-- with a state -/
theorem wp_foldI {body : D → Fr → List D → M (List D)} {δ : Fr} (I : List D → List D → Store → Prop) {Q : List D → Store → Prop} : ∀ {items acc : List D} {st : Store}, I items acc st →
    (∀ d r acc st, I (d :: r) acc st → Wp (body d δ acc) st (I r) X) → (∀ acc st, I [] acc st → Q acc st) → Wp (foldG body δ items acc) st Q X
  | [], acc, st, h, _, hf => wp_pureI (hf acc st h)
  | d :: r, acc, st, h, hs, hf => by
    show Wp (M.bind (body d δ acc) fun acc' => foldG body δ r acc') st Q X
    rw [wp_bind]
    exact wp_mono (hs d r acc st h) (fun a s h' => wp_foldI I h' hs hf) fun _ _ _ h => h
theorem wp_leaf {m : Ev} {δ : Fr} {acc : List D} {Q : List D → Store → Prop} : Wp (leafM m δ acc) st Q X = Wp (m δ) st (fun d s => acc.length < sizeLine ∧ Q (acc ++ [d]) s) X := by
  unfold leafM
  rw [wp_bind]
  congr 1
  funext d s
  rw [wp_bind, wp_guard, decide_eq_true_eq, wp_pure]
/-- [f(x) for x in xs if b(x)], nothing else happens -/
theorem wp_lc {α : Type} {elt : Ev} {own : List Nat} {t : T} {it : Fr → M (List D)} {cs : List (E × Ev)} {δ : Fr} {Q : D → Store → Prop} (xs : List α) (e : α → D) (b : α → Bool) (f : α → D) (hn : xs.length ≤ sizeLine)
    (hi : ∀ R : List D → Store → Prop, R (xs.map e) st → Wp (it δ) st R X)
    (hb : ∀ x ∈ xs, ∀ R : Option D → Store → Prop, R (if b x then some (f x) else none) st → Wp (M.bind (M.of (bindT t (e x) (wipeF δ own))) fun δ' => M.bind (seqC cs δ') fun c => if c then M.bind (elt δ') fun d => M.pure (some d) else M.pure none) st R X0)
    (hq : Q (.lst ((xs.filter b).map f)) st) : Wp (lcM (leafM elt) [(own, t, it, cs)] δ) st Q X := by
  show Wp (M.bind (it δ) fun items => M.bind (M.nox (foldG (fun d δ acc => M.bind (M.of (bindT t d δ)) fun δ' => M.bind (seqC cs δ') fun c => if c then leafM elt δ' acc else M.pure acc) (wipeF δ own) items [])) fun r => M.pure (.lst r)) st Q X
  rw [wp_bind]
  refine hi _ ?_
  rw [wp_bind, wp_nox]
  have key : ∀ {ys : List α} {acc : List D}, (∀ y ∈ ys, y ∈ xs) → acc.length + ys.length ≤ sizeLine → ∀ {R : List D → Store → Prop}, R (acc ++ (ys.filter b).map f) st →
      Wp (foldG (fun d δ acc => M.bind (M.of (bindT t d δ)) fun δ' => M.bind (seqC cs δ') fun c => if c then leafM elt δ' acc else M.pure acc) (wipeF δ own) (ys.map e) acc) st R X0 := by
    intro ys
    induction ys with
    | nil =>
      intro acc _ _ R h
      refine wp_pureI ?_
      simpa using h
    | cons y ys ih =>
      intro acc hm hz R h
      rw [List.length_cons] at hz
      show Wp (M.bind (M.bind (M.of (bindT t (e y) (wipeF δ own))) fun δ' => M.bind (seqC cs δ') fun c => if c then leafM elt δ' acc else M.pure acc) fun acc' => foldG _ (wipeF δ own) (ys.map e) acc') st R X0
      have h1 := hb y (hm y List.mem_cons_self) (fun o s => o = (if b y then some (f y) else none) ∧ s = st) ⟨rfl, rfl⟩
      rw [wp_bind, wp_bind]
      rw [wp_bind] at h1
      refine wp_mono h1 (fun δ' s h2 => ?_) fun _ _ _ h => h
      rw [wp_bind] at h2 ⊢
      refine wp_mono h2 (fun c s h3 => ?_) fun _ _ _ h => h
      cases c with
      | false =>
        obtain ⟨h4, rfl⟩ := h3
        rw [if_neg (by simp)]
        rw [wp_pure]
        refine ih (fun z hz' => hm z (List.mem_cons_of_mem _ hz')) (by omega) ?_
        cases hby : b y with
        | true => rw [hby] at h4; cases h4
        | false => rw [List.filter_cons_of_neg (by simp [hby])] at h; exact h
      | true =>
        rw [if_pos rfl] at h3 ⊢
        rw [wp_leaf]
        rw [wp_bind] at h3
        refine wp_mono h3 (fun d s h5 => ?_) fun _ _ _ h => h
        obtain ⟨h4, rfl⟩ := h5
        refine ⟨by omega, ?_⟩
        refine ih (fun z hz' => hm z (List.mem_cons_of_mem _ hz')) (by rw [List.length_append, List.length_singleton]; omega) ?_
        cases hby : b y with
        | false => rw [hby] at h4; cases h4
        | true =>
          rw [hby] at h4
          have : d = f y := by simpa using h4
          rw [List.filter_cons_of_pos (by simp [hby]), List.map_cons] at h
          rw [this, List.append_assoc]
          exact h
  exact key (fun _ h => h) (by simpa using hn) (by rw [wp_pure]; simpa using hq)
/-- [f(x) for x in xs] -/
theorem wp_lcm {α : Type} {elt : Ev} {own : List Nat} {t : T} {it : Fr → M (List D)} {δ : Fr} {Q : D → Store → Prop} (xs : List α) (e : α → D) (f : α → D) (hn : xs.length ≤ sizeLine)
    (hi : ∀ R : List D → Store → Prop, R (xs.map e) st → Wp (it δ) st R X)
    (hb : ∀ x ∈ xs, ∀ R : D → Store → Prop, R (f x) st → Wp (M.bind (M.of (bindT t (e x) (wipeF δ own))) elt) st R X0)
    (hq : Q (.lst (xs.map f)) st) : Wp (lcM (leafM elt) [(own, t, it, [])] δ) st Q X := by
  refine wp_lc xs e (fun _ => true) f hn hi (fun x hx R h => ?_) (by rw [show xs.filter (fun _ => true) = xs from List.filter_eq_self.mpr (fun _ _ => rfl)]; exact hq)
  have h1 := hb x hx (fun d s => R (some d) s) (by simpa using h)
  rw [wp_bind] at h1 ⊢
  refine wp_mono h1 (fun δ' s h2 => ?_) fun _ _ _ h => h
  rw [wp_bind]
  refine wp_pureI ?_
  rw [if_pos rfl, wp_bind]
  exact wp_mono h2 (fun _ _ h => wp_pureI h) fun _ _ _ h => h
/-- [f(x, y) for x in xs for y in ys(x) if b(x, y)] -/
theorem wp_lc2 {α β : Type} {elt : Ev} {own own1 : List Nat} {t t1 : T} {it it1 : Fr → M (List D)} {cs1 : List (E × Ev)} {δ : Fr} {Q : D → Store → Prop} (xs : List α) (e : α → D) (ys : α → List β) (e1 : β → D) (b : α → β → Bool) (f : α → β → D) (hn : (xs.flatMap ys).length ≤ sizeLine)
    (hi : ∀ R : List D → Store → Prop, R (xs.map e) st → Wp (it δ) st R X)
    (hb : ∀ x ∈ xs, ∀ R : Fr → Store → Prop, (∀ δ', (∀ R : List D → Store → Prop, R ((ys x).map e1) st → Wp (it1 δ') st R X0) →
        (∀ y ∈ ys x, ∀ R : Option D → Store → Prop, R (if b x y then some (f x y) else none) st → Wp (M.bind (M.of (bindT t1 (e1 y) (wipeF δ' own1))) fun δ' => M.bind (seqC cs1 δ') fun c => if c then M.bind (elt δ') fun d => M.pure (some d) else M.pure none) st R X0) → R δ' st) → Wp (M.of (bindT t (e x) (wipeF δ own))) st R X0)
    (hq : Q (.lst (xs.flatMap fun x => ((ys x).filter (b x)).map (f x))) st) : Wp (lcM (leafM elt) [(own, t, it, []), (own1, t1, it1, cs1)] δ) st Q X := by
  show Wp (M.bind (it δ) fun items => M.bind (M.nox (foldG (fun d δ acc => M.bind (M.of (bindT t d δ)) fun δ' => M.bind (seqC [] δ') fun c => if c then runG (leafM elt) [(own1, t1, it1, cs1)] δ' acc else M.pure acc) (wipeF δ own) items [])) fun r => M.pure (.lst r)) st Q X
  rw [wp_bind]
  refine hi _ ?_
  rw [wp_bind, wp_nox]
  have inner : ∀ (x : α) (δ' : Fr) (zs : List β) (acc : List D), (∀ z ∈ zs, z ∈ ys x) → acc.length + zs.length ≤ sizeLine →
      (∀ y ∈ ys x, ∀ R : Option D → Store → Prop, R (if b x y then some (f x y) else none) st → Wp (M.bind (M.of (bindT t1 (e1 y) (wipeF δ' own1))) fun δ' => M.bind (seqC cs1 δ') fun c => if c then M.bind (elt δ') fun d => M.pure (some d) else M.pure none) st R X0) →
      ∀ {R : List D → Store → Prop}, R (acc ++ (zs.filter (b x)).map (f x)) st → Wp (foldG (fun d δ acc => M.bind (M.of (bindT t1 d δ)) fun δ' => M.bind (seqC cs1 δ') fun c => if c then leafM elt δ' acc else M.pure acc) (wipeF δ' own1) (zs.map e1) acc) st R X0 := by
    intro x δ' zs
    induction zs with
    | nil =>
      intro acc _ _ _ R h
      refine wp_pureI ?_
      simpa using h
    | cons y zs ih =>
      intro acc hm hz hby R h
      rw [List.length_cons] at hz
      show Wp (M.bind (M.bind (M.of (bindT t1 (e1 y) (wipeF δ' own1))) fun δ' => M.bind (seqC cs1 δ') fun c => if c then leafM elt δ' acc else M.pure acc) fun acc' => foldG _ (wipeF δ' own1) (zs.map e1) acc') st R X0
      have h1 := hby y (hm y List.mem_cons_self) (fun o s => o = (if b x y then some (f x y) else none) ∧ s = st) ⟨rfl, rfl⟩
      rw [wp_bind, wp_bind]
      rw [wp_bind] at h1
      refine wp_mono h1 (fun δ2 s h2 => ?_) fun _ _ _ h => h
      rw [wp_bind] at h2 ⊢
      refine wp_mono h2 (fun c s h3 => ?_) fun _ _ _ h => h
      cases c with
      | false =>
        obtain ⟨h4, rfl⟩ := h3
        rw [if_neg (by simp), wp_pure]
        refine ih _ (fun z hz' => hm z (List.mem_cons_of_mem _ hz')) (by omega) hby ?_
        cases hbx : b x y with
        | true => rw [hbx] at h4; cases h4
        | false => rw [List.filter_cons_of_neg (by simp [hbx])] at h; exact h
      | true =>
        rw [if_pos rfl] at h3 ⊢
        rw [wp_leaf]
        rw [wp_bind] at h3
        refine wp_mono h3 (fun d s h5 => ?_) fun _ _ _ h => h
        obtain ⟨h4, rfl⟩ := h5
        refine ⟨by omega, ?_⟩
        refine ih _ (fun z hz' => hm z (List.mem_cons_of_mem _ hz')) (by rw [List.length_append, List.length_singleton]; omega) hby ?_
        cases hbx : b x y with
        | false => rw [hbx] at h4; cases h4
        | true =>
          rw [hbx] at h4
          have : d = f x y := by simpa using h4
          rw [List.filter_cons_of_pos (by simp [hbx]), List.map_cons] at h
          rw [this, List.append_assoc]
          exact h
  have key : ∀ {zs : List α} {acc : List D}, (∀ y ∈ zs, y ∈ xs) → acc.length + (zs.flatMap ys).length ≤ sizeLine → ∀ {R : List D → Store → Prop}, R (acc ++ zs.flatMap fun x => ((ys x).filter (b x)).map (f x)) st →
      Wp (foldG (fun d δ acc => M.bind (M.of (bindT t d δ)) fun δ' => M.bind (seqC [] δ') fun c => if c then runG (leafM elt) [(own1, t1, it1, cs1)] δ' acc else M.pure acc) (wipeF δ own) (zs.map e) acc) st R X0 := by
    intro zs
    induction zs with
    | nil =>
      intro acc _ _ R h
      refine wp_pureI ?_
      simpa using h
    | cons y zs ih =>
      intro acc hm hz R h
      rw [List.flatMap_cons, List.length_append] at hz
      show Wp (M.bind (M.bind (M.of (bindT t (e y) (wipeF δ own))) fun δ' => M.bind (seqC [] δ') fun c => if c then runG (leafM elt) [(own1, t1, it1, cs1)] δ' acc else M.pure acc) fun acc' => foldG _ (wipeF δ own) (zs.map e) acc') st R X0
      rw [wp_bind, wp_bind]
      refine hb y (hm y List.mem_cons_self) _ fun δ' h1 h2 => ?_
      show Wp (M.bind (it1 δ') fun items => foldG (fun d δ acc => M.bind (M.of (bindT t1 d δ)) fun δ' => M.bind (seqC cs1 δ') fun c => if c then leafM elt δ' acc else M.pure acc) (wipeF δ' own1) items acc) st _ X0
      rw [wp_bind]
      refine h1 _ ?_
      refine inner y δ' (ys y) acc (fun _ h => h) (by omega) h2 ?_
      refine ih (fun z hz' => hm z (List.mem_cons_of_mem _ hz')) ?_ ?_
      · have := List.length_filter_le (b y) (ys y)
        rw [List.length_append, List.length_map]
        omega
      · rw [List.flatMap_cons] at h
        rw [List.append_assoc]
        exact h
  exact key (fun _ h => h) (by simpa using hn) (by rw [wp_pure]; simpa using hq)
end
/-! ### try -/
section
variable {C : Ctx} {δ : Fr} {st : Store} {Q : Flow → Store → Prop} {X : Str → List (Str × D) → Store → Prop}
/-- what is done with an error -/
def tryK (C : Ctx) (hs : List (Str × Option Nat × List S)) (Q : Flow → Store → Prop) (X : Str → List (Str × D) → Store → Prop) : Flow → Store → Prop
  | .exc c fs δ, st => Wp (handle C.sub c fs δ (exech C hs)) st Q X
  | f, st => Q f st
theorem wp_try {b : List S} {hs : List (Str × Option Nat × List S)} : Wp (exec C (.try b hs) δ) st Q X = Wp (execs C b δ) st (tryK C hs Q X) X := by
  show Wp (M.bind (execs C b δ) fun f => match f with
    | .exc c fs δ' => handle C.sub c fs δ' (exech C hs)
    | f => M.pure f) st Q X = _
  rw [wp_bind]
  congr 1
  funext f s
  cases f <;> first | rfl | exact wp_pure _
theorem tryK_ret {hs : List (Str × Option Nat × List S)} {v : Slot} : tryK C hs Q X (.ret v) st = Q (.ret v) st := rfl
theorem tryK_next {hs : List (Str × Option Nat × List S)} {δ : Fr} : tryK C hs Q X (.next δ) st = Q (.next δ) st := rfl
theorem tryK_exc {hs : List (Str × Option Nat × List S)} {δ : Fr} {c : Str} {fs : List (Str × D)} : tryK C hs Q X (.exc c fs δ) st = Wp (handle C.sub c fs δ (exech C hs)) st Q X := rfl
/-- how the suite's end is taken -/
def hotK (n : Option Nat) (Q : Flow → Store → Prop) : Flow → Store → Prop
  | .exc _ _ _, _ => False
  | .ret s, st => Q (.ret s) st
  | .next δ, st => noExc (hotEnd.offF n δ) = true ∧ Q (.next (hotEnd.offF n δ)) st
  | .brk δ, st => noExc (hotEnd.offF n δ) = true ∧ Q (.brk (hotEnd.offF n δ)) st
  | .cont δ, st => noExc (hotEnd.offF n δ) = true ∧ Q (.cont (hotEnd.offF n δ)) st
theorem hotK_ret {n : Option Nat} {s : Slot} : hotK n Q (.ret s) st = Q (.ret s) st := rfl
theorem wp_hotEnd {n : Option Nat} {f : Flow} : Wp (hotEnd n f) st Q X = hotK n Q f st := by
  cases f with
  | exc => exact wp_bad
  | ret s => exact wp_pure _
  | next δ => show Wp (M.bind (M.guard _) _) st Q X = _; rw [wp_bind, wp_guard, wp_pure]; rfl
  | brk δ => show Wp (M.bind (M.guard _) _) st Q X = _; rw [wp_bind, wp_guard, wp_pure]; rfl
  | cont δ => show Wp (M.bind (M.guard _) _) st Q X = _; rw [wp_bind, wp_guard, wp_pure]; rfl
theorem wp_handle_no {sub : Str → Str → Option Bool} {c h : Str} {fs : List (Str × D)} {n : Option Nat} {b : List S} {r : List (Str × Option Nat × List S)} (e : sub c h = some false) : Wp (handle sub c fs δ (exech C ((h, n, b) :: r))) st Q X = Wp (handle sub c fs δ (exech C r)) st Q X := by
  show Wp (M.bind (M.of (sub c h)) fun y => if y = true then _ else handle sub c fs δ (exech C r)) st Q X = _
  rw [wp_bind, e, wp_some, if_neg (by simp)]
theorem wp_handle_yes {sub : Str → Str → Option Bool} {c h : Str} {fs : List (Str × D)} {n : Option Nat} {b : List S} {r : List (Str × Option Nat × List S)} {δ' : Fr} (e : sub c h = some true) (hn : noExc δ = true) (ho : onF c fs n δ = some δ') :
    Wp (handle sub c fs δ (exech C ((h, n, b) :: r))) st Q X = Wp (execs C b δ') st (hotK n Q) X := by
  show Wp (M.bind (M.of (sub c h)) fun y => if y = true then M.bind (M.guard (noExc δ)) fun _ => M.bind (M.of (onF c fs n δ)) fun δ' => M.bind (execs C b δ') (hotEnd n) else _) st Q X = _
  rw [wp_bind, e, wp_some, if_pos rfl, wp_bind, wp_guard, hn, ho, wp_bind, wp_some, wp_bind]
  simp only [wp_hotEnd, true_and]
theorem wp_handle_nil {sub : Str → Str → Option Bool} {c : Str} {fs : List (Str × D)} : Wp (handle sub c fs δ (exech C [])) st Q X = Q (.exc c fs δ) st := wp_pure _
end
end Sw

set_option Elab.async false
set_option linter.all false
set_option maxRecDepth 100000
set_option maxHeartbeats 1000000
/-! Sw, plain laws: plain data, their equality, their text. -/
namespace Sw
open PySem
/-! ### texts -/
def sOk (x : Str) : Prop := ∀ c ∈ x.cps.toList, c < 1114112
theorem sOk_iff {x : Str} : PyData.strOk x = true ↔ sOk x := by
  unfold PyData.strOk sOk
  rw [Array.all_eq_true']
  simp
theorem sOk_of (s : String) : sOk (Str.ofString s) := by
  intro c h
  rw [Str.ofString_eq_toList] at h
  obtain ⟨d, _, rfl⟩ := List.mem_map.mp (by simpa using h)
  have hc := d.valid
  simp only [UInt32.isValidChar, Nat.isValidChar] at hc
  have : d.toNat = d.val.toNat := rfl
  omega
theorem sOk_app {x y : Str} (hx : sOk x) (hy : sOk y) : sOk (x ++ y) := by
  intro c h
  have : c ∈ (x.cps ++ y.cps).toList := h
  rw [Array.toList_append] at this
  exact (List.mem_append.mp this).elim (hx c) (hy c)
theorem sOk_join {t : Str} (ht : sOk t) : ∀ {ts : List Str}, (∀ x ∈ ts, sOk x) → sOk (Str.join t ts)
  | [], _ => by
    intro c h
    exact absurd h (by simp [Str.join, Str.empty])
  | [x], h => h x (by simp)
  | x :: y :: r, h => by
    show sOk (x ++ t ++ Str.join t (y :: r))
    exact sOk_app (sOk_app (h x (by simp)) ht) (sOk_join ht fun z hz => h z (List.mem_cons_of_mem _ hz))
theorem sOk_textFrom : ∀ {ts : List Str} {k : Nat} {acc : Str}, sOk acc → (∀ x ∈ ts, sOk x) → sOk (textFrom k acc ts)
  | [], k, acc, ha, _ => ha
  | t :: ts, k, acc, ha, h => by
    unfold textFrom
    refine sOk_textFrom (sOk_app (sOk_app ha (sOk_of _)) (h t (by simp))) fun x hx => h x (List.mem_cons_of_mem _ hx)
theorem sOk_listText {ts : List Str} (h : ∀ x ∈ ts, sOk x) : sOk (listText ts) := sOk_app (sOk_textFrom (sOk_of _) h) (sOk_of _)
theorem sOk_tupleText {ts : List Str} (h : ∀ x ∈ ts, sOk x) : sOk (tupleText ts) := sOk_app (sOk_app (sOk_of _) (sOk_join (sOk_of _) h)) (sOk_of _)
theorem reprChar_ok {q c : Nat} (hc : c < 1114112) : ∀ d ∈ Builtin.Str.reprChar q c, d < 1114112 := by
  intro d hd
  unfold Builtin.Str.reprChar at hd
  dsimp only at hd
  have hex : ∀ w, d ∈ List.replicate (w - ((Nat.toDigits 16 c).map Char.toNat).length) 48 ++ (Nat.toDigits 16 c).map Char.toNat → d < 1114112 := by
    intro w h
    rcases List.mem_append.mp h with h | h
    · rw [(List.mem_replicate.mp h).2]
      omega
    · obtain ⟨e, _, rfl⟩ := List.mem_map.mp h
      have hv := e.valid
      simp only [UInt32.isValidChar, Nat.isValidChar] at hv
      have : e.toNat = e.val.toNat := rfl
      omega
  split at hd
  · simp at hd; omega
  split at hd
  · simp at hd; omega
  split at hd
  · simp at hd; omega
  split at hd
  · simp at hd; omega
  split at hd
  · simp at hd; omega
  split at hd
  · rcases List.mem_append.mp hd with h | h
    · simp at h; omega
    · exact hex 2 h
  split at hd
  · rcases List.mem_append.mp hd with h | h
    · simp at h; omega
    · exact hex 4 h
  · rcases List.mem_append.mp hd with h | h
    · simp at h; omega
    · exact hex 8 h
theorem foldl_repr_ok (q : Nat) : ∀ (l : List Nat) (acc : Array Nat), (∀ c ∈ l, c < 1114112) → (∀ c ∈ acc.toList, c < 1114112) → ∀ c ∈ (l.foldl (fun out c => out ++ (Builtin.Str.reprChar q c).toArray) acc).toList, c < 1114112
  | [], acc, _, h => h
  | x :: l, acc, hl, h => by
    rw [List.foldl_cons]
    refine foldl_repr_ok q l _ (fun c hc => hl c (List.mem_cons_of_mem _ hc)) fun c hc => ?_
    rw [Array.toList_append] at hc
    rcases List.mem_append.mp hc with hc | hc
    · exact h c hc
    · exact reprChar_ok (hl x (by simp)) c (by simpa using hc)
theorem reprQuote_ok (x : Str) : reprQuote x < 1114112 := by
  unfold reprQuote
  split <;> omega
theorem sOk_reprText {x : Str} (h : sOk x) : sOk (reprText x) := by
  intro c hc
  unfold reprText at hc
  rw [Array.toList_push, List.mem_append] at hc
  rcases hc with hc | hc
  · rw [← Array.foldl_toList] at hc
    exact foldl_repr_ok (reprQuote x) x.cps.toList #[reprQuote x] h (fun d hd => by
      have : d = reprQuote x := by simpa using hd
      rw [this]
      exact reprQuote_ok x) c hc
  · rw [List.mem_singleton.mp hc]
    exact reprQuote_ok x
mutual
theorem sOk_shown : ∀ (p : PyData), p.canLay0 = true → sOk p.shown
  | .none, _ => sOk_of _
  | .bool b, _ => by
    unfold PyData.shown
    split <;> exact sOk_of _
  | .int i, _ => sOk_of _
  | .str x, h => sOk_reprText (sOk_iff.mp h)
  | .list xs, h => sOk_listText (sOk_shownAll xs h)
  | .tuple xs, h => sOk_tupleText (sOk_shownAll xs h)
  | .dict _, h => by cases h
theorem sOk_shownAll : ∀ (ps : List PyData), PyData.canLayAll0 ps = true → ∀ x ∈ PyData.shownAll ps, sOk x
  | [], _, x, hx => absurd hx (by simp [PyData.shownAll])
  | p :: ps, h, x, hx => by
    have h' : (p.canLay0 && PyData.canLayAll0 ps) = true := h
    obtain ⟨h1, h2⟩ := Bool.and_eq_true_iff.mp h'
    have hx' : x ∈ p.shown :: PyData.shownAll ps := hx
    rcases List.mem_cons.mp hx' with rfl | hx'
    · exact sOk_shown p h1
    · exact sOk_shownAll ps h2 x hx'
end
/-! ### plain data -/
mutual
def D.pl : D → Bool
  | .non => true
  | .bl _ => true
  | .int i => decide (i.natAbs < 10 ^ 12)
  | .str x => PyData.strOk x
  | .tup ds => D.pls ds
  | .lst ds => D.pls ds
  | _ => false
def D.pls : List D → Bool
  | [] => true
  | d :: ds => D.pl d && D.pls ds
end
mutual
def D.wt : D → Nat
  | .int _ => 41
  | .str x => x.length
  | .tup ds => D.wts ds
  | .lst ds => D.wts ds
  | _ => 0
def D.wts : List D → Nat
  | [] => 0
  | d :: ds => D.wt d + 1 + D.wts ds
end
mutual
def D.dp : D → Nat
  | .tup ds => D.dps ds + 1
  | .lst ds => D.dps ds + 1
  | _ => 0
def D.dps : List D → Nat
  | [] => 0
  | d :: ds => max (D.dp d) (D.dps ds)
end
theorem pl_tup (ds : List D) : D.pl (.tup ds) = D.pls ds := rfl
theorem pl_lst (ds : List D) : D.pl (.lst ds) = D.pls ds := rfl
theorem wt_tup (ds : List D) : D.wt (.tup ds) = D.wts ds := rfl
theorem wt_lst (ds : List D) : D.wt (.lst ds) = D.wts ds := rfl
theorem dp_tup (ds : List D) : D.dp (.tup ds) = D.dps ds + 1 := rfl
theorem dp_lst (ds : List D) : D.dp (.lst ds) = D.dps ds + 1 := rfl
theorem pls_mem : ∀ {ds : List D}, D.pls ds = true → ∀ d ∈ ds, D.pl d = true
  | [], _, d, h => absurd h (by simp)
  | x :: ds, h, d, hd => by
    obtain ⟨h1, h2⟩ := Bool.and_eq_true_iff.mp (show (D.pl x && D.pls ds) = true from h)
    rcases List.mem_cons.mp hd with rfl | hd
    · exact h1
    · exact pls_mem h2 d hd
theorem pls_of : ∀ {ds : List D}, (∀ d ∈ ds, D.pl d = true) → D.pls ds = true
  | [], _ => rfl
  | x :: ds, h => by
    show (D.pl x && D.pls ds) = true
    rw [h x (by simp), pls_of fun d hd => h d (List.mem_cons_of_mem _ hd)]
    rfl
/-- what is known of plain data as the library's data -/
structure PyOk (d : D) (p : PyData) : Prop where
  py : d.py = some p
  lay : p.canLay0 = true
  short : p.intsShort 13 = true
  show_ : p.showable = true
  w : p.weight ≤ d.wt
  dp : p.depth = d.dp
structure PysOk (ds : List D) (ps : List PyData) : Prop where
  py : D.py.pys ds = some ps
  lay : PyData.canLayAll0 ps = true
  short : PyData.intsShortAll 13 ps = true
  show_ : PyData.showableAll ps = true
  w : PyData.weightAll ps ≤ D.wts ds
  dp : PyData.depthAll ps = D.dps ds
theorem log2_lt {n : Nat} (h : n < 10 ^ 12) : n.log2 < 40 := by
  by_cases h0 : n = 0
  · subst h0; decide
  · exact (Nat.log2_lt h0).mpr (Nat.lt_trans h (by decide))
mutual
theorem py_ok : ∀ {d : D}, d.pl = true → ∃ p, PyOk d p
  | .non, _ => ⟨.none, rfl, rfl, rfl, rfl, Nat.zero_le _, rfl⟩
  | .bl b, _ => ⟨.bool b, rfl, rfl, rfl, rfl, Nat.zero_le _, rfl⟩
  | .int i, h => by
    have h1 : i.natAbs < 10 ^ 12 := of_decide_eq_true h
    have h2 := log2_lt h1
    refine ⟨.int i, rfl, rfl, decide_eq_true (PyData.shown_int_le h1), decide_eq_true (by omega), ?_, rfl⟩
    show (if i == 0 then 0 else i.natAbs.log2 + 1) ≤ 41
    split <;> omega
  | .str x, h => ⟨.str x, rfl, h, rfl, rfl, Nat.le_refl _, rfl⟩
  | .tup ds, h => by
    obtain ⟨ps, k⟩ := pys_ok (ds := ds) h
    exact ⟨.tuple ps, by simp [D.py, k.py], k.lay, k.short, k.show_, k.w, by show PyData.depthAll ps + 1 = _; rw [k.dp]; rfl⟩
  | .lst ds, h => by
    obtain ⟨ps, k⟩ := pys_ok (ds := ds) h
    exact ⟨.list ps, by simp [D.py, k.py], k.lay, k.short, k.show_, k.w, by show PyData.depthAll ps + 1 = _; rw [k.dp]; rfl⟩
  | .ins _ _, h => by cases h
  | .cell _, h => by cases h
  | .fn _, h => by cases h
  | .seqI _, h => by cases h
theorem pys_ok : ∀ {ds : List D}, D.pls ds = true → ∃ ps, PysOk ds ps
  | [], _ => ⟨[], rfl, rfl, rfl, rfl, Nat.le_refl _, rfl⟩
  | d :: ds, h => by
    obtain ⟨h1, h2⟩ := Bool.and_eq_true_iff.mp (show (D.pl d && D.pls ds) = true from h)
    obtain ⟨p, a⟩ := py_ok h1
    obtain ⟨ps, b⟩ := pys_ok h2
    refine ⟨p :: ps, by simp [D.py.pys, a.py, b.py], ?_, ?_, ?_, ?_, ?_⟩
    · show (p.canLay0 && PyData.canLayAll0 ps) = true
      rw [a.lay, b.lay]; rfl
    · show (p.intsShort 13 && PyData.intsShortAll 13 ps) = true
      rw [a.short, b.short]; rfl
    · show (p.showable && PyData.showableAll ps) = true
      rw [a.show_, b.show_]; rfl
    · show PyData.weightAll (p :: ps) ≤ D.wt d + 1 + D.wts ds
      have h3 := a.w
      have h4 := b.w
      simp only [PyData.weightAll]
      omega
    · show max p.depth (PyData.depthAll ps) = max d.dp (D.dps ds)
      rw [a.dp, b.dp]
end
/-- plain, not deep, not great -/
def D.good (d : D) : Bool := d.pl && decide (d.dp ≤ 32) && decide (d.wt ≤ 2 ^ 20)
theorem good_py {d : D} (h : d.good = true) : ∃ p, PyOk d p ∧ p.depth ≤ 32 ∧ p.weight ≤ 2 ^ 20 := by
  unfold D.good at h
  simp only [Bool.and_eq_true, decide_eq_true_eq] at h
  obtain ⟨⟨h1, h2⟩, h3⟩ := h
  obtain ⟨p, k⟩ := py_ok h1
  exact ⟨p, k, by rw [k.dp]; exact h2, Nat.le_trans k.w h3⟩
theorem shaped_of {p : PyData} (h1 : p.canLay0 = true) (h2 : p.depth ≤ 32) : SeqAt.shaped p = true := by
  unfold SeqAt.shaped
  rw [h1, decide_eq_true (by omega)]
  rfl
theorem eqD_self {d : D} (h : d.good = true) : eqD d d = some true := by
  obtain ⟨p, k, h1, _⟩ := good_py h
  unfold eqD
  rw [k.py]
  dsimp only
  rw [shaped_of k.lay h1, SeqAt.eqv_refl p k.lay]
  rfl
theorem repr_good {d : D} (h : d.good = true) : ∃ t, reprD d = some t ∧ sOk t := by
  obtain ⟨p, k, h1, h2⟩ := good_py h
  have hl := PyData.leavesShort_of_canLay0 13 p k.lay k.short
  have hz := PyData.shown_fits (B := 13) (by omega) (by omega) hl h2
  refine ⟨p.shown, ?_, sOk_shown p k.lay⟩
  unfold reprD
  rw [k.py]
  dsimp only
  rw [k.show_, decide_eq_true h1]
  rw [show okLen p.shown.length = true from decide_eq_true hz]
  rfl
theorem eqD_int (i j : Int) : eqD (.int i) (.int j) = some (decide (i = j)) := by
  show (if (true && true) = true then some (i == j) else none) = _
  rw [if_pos (by rfl)]
  congr 1
theorem eqD_bl (i j : Bool) : eqD (.bl i) (.bl j) = some (decide (i = j)) := by
  show (if (true && true) = true then some (i == j) else none) = _
  rw [if_pos (by rfl)]
  cases i <;> cases j <;> rfl
theorem eqD_str {x y : Str} (hx : sOk x) (hy : sOk y) : eqD (.str x) (.str y) = some (decide (x = y)) := by
  show (if SeqAt.shaped (.str x) && SeqAt.shaped (.str y) then some (x == y) else none) = _
  rw [shaped_of (p := .str x) (sOk_iff.mpr hx) (Nat.zero_le _), shaped_of (p := .str y) (sOk_iff.mpr hy) (Nat.zero_le _)]
  show some (x == y) = _
  congr 1
end Sw

set_option Elab.async false
set_option linter.all false
set_option maxRecDepth 100000
set_option maxHeartbeats 1000000
/-! Sw, plain laws: rows of numbers, ranges. -/
namespace Sw
open PySem
abbrev nD (n : Nat) : D := .int n
abbrev tupN (w : List Nat) : D := .tup (w.map nD)
abbrev lstN (w : List Nat) : D := .lst (w.map nD)
theorem intL_map : ∀ ns : List Int, intL (ns.map .int) = some ns
  | [] => rfl
  | n :: ns => by
    show (intL (ns.map D.int)).map (n :: ·) = _
    rw [intL_map ns]
    rfl
theorem intL_nat (w : List Nat) : intL (w.map nD) = some (w.map (fun n : Nat => (n : Int))) := by
  have := intL_map (w.map (fun n : Nat => (n : Int)))
  rw [List.map_map] at this
  exact this
theorem intL_some : ∀ {ds : List D} {ns : List Int}, intL ds = some ns → ds = ns.map .int
  | [], ns, e => by cases e; rfl
  | d :: ds, ns, e => by
    cases d with
    | int i =>
      have e' : (intL ds).map (i :: ·) = some ns := e
      obtain ⟨ms, e1, rfl⟩ := Option.map_eq_some_iff.mp e'
      rw [intL_some e1]
      rfl
    | _ => cases e
theorem bools_map {α : Type} (b : α → Bool) : ∀ xs : List α, bools (xs.map fun x => D.bl (b x)) = some (xs.map b)
  | [] => rfl
  | x :: xs => by
    show (bools (xs.map fun x => D.bl (b x))).map (b x :: ·) = _
    rw [bools_map b xs]
    rfl
theorem sortedD_ints (ns : List Int) : sortedD (ns.map .int) = some ((sortI ns).map .int) := by
  unfold sortedD
  rw [intL_map]
theorem sortedD_nat (w : List Nat) : sortedD (w.map nD) = some ((sortI (w.map (fun n : Nat => (n : Int)))).map .int) := by
  unfold sortedD
  rw [intL_nat]
theorem wp_okRow {ds : List D} {st : Store} {Q : List D → Store → Prop} {X : Str → List (Str × D) → Store → Prop} : Wp (okRow ds) st Q X = (ds.length ≤ sizeLine ∧ Q ds st) := by
  unfold okRow
  rw [wp_bind, wp_guard, wp_pure]
  unfold okLen
  rw [decide_eq_true_eq]
theorem le_size {n : Nat} (h : n ≤ 1000000) : n ≤ sizeLine := by
  rw [PySem.sizeLine_eq]
  omega
theorem rangeI_nat (a n : Nat) : rangeI (a : Int) n 1 = (List.range' a n).map nD := by
  unfold rangeI
  rw [List.range'_eq_map_range, List.map_map]
  apply List.map_congr_left
  intro i hi
  show D.int ((a : Int) + i * 1) = D.int ((a + i : Nat) : Int)
  congr 1
  omega
theorem range1 {n : Nat} (h : n ≤ 1000000) : rangeD [.int (n : Int)] = some ((List.range n).map nD) := by
  have h1 : rgSmall (n : Int) = true := by
    unfold rgSmall
    rw [decide_eq_true_eq]
    omega
  show (if rgSmall (n : Int) then some (rangeI 0 (n : Int).toNat 1) else none) = _
  rw [if_pos h1]
  unfold rangeI
  simp
theorem range2 {a b : Nat} (ha : a ≤ 1000000) (hb : b ≤ 1000000) : rangeD [.int (a : Int), .int (b : Int)] = some ((List.range' a (b - a)).map nD) := by
  have h1 : (rgSmall (a : Int) && rgSmall (b : Int)) = true := by
    unfold rgSmall
    rw [Bool.and_eq_true, decide_eq_true_eq, decide_eq_true_eq]
    omega
  show (if (rgSmall (a : Int) && rgSmall (b : Int)) = true then some (rangeI a ((b : Int) - a).toNat 1) else none) = _
  rw [if_pos h1, show ((b : Int) - a).toNat = b - a by omega, rangeI_nat]
theorem eqv_ints : ∀ a b : List Int, PyData.eqvAll (a.map .int) (b.map .int) = decide (a = b)
  | [], [] => rfl
  | [], _ :: _ => rfl
  | _ :: _, [] => rfl
  | x :: a, y :: b => by
    show (PyData.eqv (.int x) (.int y) && PyData.eqvAll (a.map .int) (b.map .int)) = _
    rw [eqv_ints a b]
    show ((x == y) && _) = _
    by_cases h : x = y
    · by_cases h2 : a = b <;> simp [h, h2]
    · simp [h]
theorem pys_ints : ∀ a : List Int, D.py.pys (a.map .int) = some (a.map .int)
  | [] => rfl
  | x :: a => by
    simp only [List.map_cons, D.py.pys, D.py, pys_ints a]
theorem lay_ints : ∀ a : List Int, PyData.canLayAll0 (a.map .int) = true
  | [] => rfl
  | x :: a => by
    show (PyData.canLay0 (.int x) && PyData.canLayAll0 (a.map .int)) = true
    rw [lay_ints a]
    rfl
theorem dep_ints : ∀ a : List Int, PyData.depthAll (a.map .int) = 0
  | [] => rfl
  | x :: a => by
    show max (PyData.depth (.int x)) (PyData.depthAll (a.map .int)) = 0
    rw [dep_ints a]
    rfl
theorem eqD_intsT (a b : List Int) : eqD (.tup (a.map .int)) (.tup (b.map .int)) = some (decide (a = b)) := by
  unfold eqD
  simp only [D.py, pys_ints, Option.map_some]
  rw [shaped_of (p := .tuple (a.map .int)) (lay_ints a) (by show PyData.depthAll _ + 1 ≤ 32; rw [dep_ints]; omega), shaped_of (p := .tuple (b.map .int)) (lay_ints b) (by show PyData.depthAll _ + 1 ≤ 32; rw [dep_ints]; omega)]
  show some (PyData.eqvAll _ _) = _
  rw [eqv_ints]
theorem eqD_intsL (a b : List Int) : eqD (.lst (a.map .int)) (.lst (b.map .int)) = some (decide (a = b)) := by
  unfold eqD
  simp only [D.py, pys_ints, Option.map_some]
  rw [shaped_of (p := .list (a.map .int)) (lay_ints a) (by show PyData.depthAll _ + 1 ≤ 32; rw [dep_ints]; omega), shaped_of (p := .list (b.map .int)) (lay_ints b) (by show PyData.depthAll _ + 1 ≤ 32; rw [dep_ints]; omega)]
  show some (PyData.eqvAll _ _) = _
  rw [eqv_ints]
theorem nat_ints (w : List Nat) : w.map nD = (w.map (fun n : Nat => (n : Int))).map D.int := by
  rw [List.map_map]
  rfl
theorem castN_inj {a b : List Nat} : a.map (fun n : Nat => (n : Int)) = b.map (fun n : Nat => (n : Int)) ↔ a = b := by
  constructor
  · intro h
    exact List.map_inj_right (fun x y h => Int.ofNat.inj h) |>.mp h
  · rintro rfl
    rfl
theorem eqD_natT (a b : List Nat) : eqD (tupN a) (tupN b) = some (decide (a = b)) := by
  unfold tupN
  rw [nat_ints, nat_ints, eqD_intsT]
  congr 1
  exact decide_eq_decide.mpr castN_inj
theorem eqD_natL (a b : List Nat) : eqD (lstN a) (lstN b) = some (decide (a = b)) := by
  unfold lstN
  rw [nat_ints, nat_ints, eqD_intsL]
  congr 1
  exact decide_eq_decide.mpr castN_inj
/-! sorting -/
theorem q_insP (x : Int) : ∀ l : List Int, (insI x l).Perm (x :: l)
  | [] => .refl _
  | y :: r => by
    unfold insI
    split
    · exact .refl _
    · exact ((q_insP x r).cons y).trans (.swap ..)
theorem q_sortP : ∀ l : List Int, (sortI l).Perm l
  | [] => .refl _
  | x :: r => (q_insP x (sortI r)).trans ((q_sortP r).cons x)
theorem q_insS {x : Int} : ∀ {l : List Int}, l.Pairwise (· ≤ ·) → (insI x l).Pairwise (· ≤ ·)
  | [], _ => by simp [insI]
  | y :: r, h => by
    unfold insI
    split
    · rename_i hxy
      rw [List.pairwise_cons] at h ⊢
      refine ⟨fun z hz => ?_, List.pairwise_cons.mpr h⟩
      rcases List.mem_cons.mp hz with rfl | hz
      · exact hxy
      · have := h.1 z hz
        omega
    · rename_i hxy
      rw [List.pairwise_cons] at h
      rw [List.pairwise_cons]
      refine ⟨fun z hz => ?_, q_insS h.2⟩
      rcases List.mem_cons.mp ((q_insP x r).mem_iff.mp hz) with rfl | hz
      · omega
      · exact h.1 z hz
theorem q_sortS : ∀ l : List Int, (sortI l).Pairwise (· ≤ ·)
  | [] => .nil
  | x :: r => q_insS (q_sortS r)
theorem q_uniq {a b : List Int} (p : a.Perm b) (hb : b.Pairwise (· ≤ ·)) : sortI a = b :=
  ((q_sortP a).trans p).eq_of_pairwise (fun x y _ _ h1 h2 => by omega) (q_sortS a) hb
theorem range_sorted (n : Nat) : ((List.range n).map (fun n : Nat => (n : Int))).Pairwise (· ≤ ·) := by
  rw [List.pairwise_map]
  exact List.pairwise_lt_range.imp fun h => by omega
/-- sorted(ns) is 0, 1, .. just if ns is an arrangement of these -/
theorem sortI_range {ns : List Int} {n : Nat} : sortI ns = (List.range n).map (fun n : Nat => (n : Int)) ↔ ns.Perm ((List.range n).map (fun n : Nat => (n : Int))) := by
  constructor
  · intro h
    rw [← h]
    exact (q_sortP ns).symm
  · intro h
    exact q_uniq h (range_sorted n)
end Sw

set_option Elab.async false
set_option linter.all false
set_option maxRecDepth 100000
set_option maxHeartbeats 1000000
/-! Sw, plain laws: checks of values, orders. -/
namespace Sw
open PySem
def isInt : D → Bool
  | .int _ => true
  | _ => false
def isRow : D → Bool
  | .tup _ => true
  | .lst _ => true
  | _ => false
def isBl : D → Bool
  | .bl _ => true
  | _ => false
def isStrD : D → Bool
  | .str _ => true
  | _ => false
def isTupD : D → Bool
  | .tup _ => true
  | _ => false
theorem ty_int {d : D} (h : d.pl = true) : isTys d ["int"] = some (isInt d || isBl d) := by cases d <;> first | rfl | exact absurd h (by simp [D.pl])
theorem ty_bool {d : D} (h : d.pl = true) : isTys d ["bool"] = some (isBl d) := by cases d <;> first | rfl | exact absurd h (by simp [D.pl])
theorem ty_str {d : D} (h : d.pl = true) : isTys d ["str"] = some (isStrD d) := by cases d <;> first | rfl | exact absurd h (by simp [D.pl])
theorem ty_tuple {d : D} (h : d.pl = true) : isTys d ["tuple"] = some (isTupD d) := by cases d <;> first | rfl | exact absurd h (by simp [D.pl])
theorem ty_row {d : D} (h : d.pl = true) : isTys d ["list", "tuple"] = some (isRow d) := by cases d <;> first | rfl | exact absurd h (by simp [D.pl])
theorem ty_tup (ds : List D) : isTys (.tup ds) ["tuple"] = some true := rfl
theorem ty_bl (b : Bool) : isTys (.bl b) ["bool"] = some true := rfl
/-- a row of integers that is 0, 1, .. in some order -/
def ordDs (ds : List D) : Bool := decide (1 ≤ ds.length ∧ ds.length ≤ 8) && match intL ds with
  | some ns => decide (sortI ns = (List.range ds.length).map (fun n : Nat => (n : Int)))
  | none => false
def isOrd (d : D) : Bool := match rowOf d with
  | some ds => ordDs ds
  | none => false
def toTup (d : D) : D := match rowOf d with
  | some ds => .tup ds
  | none => d
theorem isOrd_tup (ds : List D) : isOrd (.tup ds) = ordDs ds := rfl
theorem isOrd_lst (ds : List D) : isOrd (.lst ds) = ordDs ds := rfl
theorem intL_all : ∀ {ds : List D}, ds.all isInt = true → ∃ ns, intL ds = some ns
  | [], _ => ⟨[], rfl⟩
  | d :: ds, h => by
    rw [List.all_cons, Bool.and_eq_true] at h
    obtain ⟨ns, e⟩ := intL_all h.2
    cases d with
    | int i => exact ⟨i :: ns, by show (intL ds).map (i :: ·) = _; rw [e]; rfl⟩
    | _ => cases h.1
theorem intL_not {ds : List D} (h : ds.all isInt = false) : intL ds = none := by
  cases e : intL ds with
  | none => rfl
  | some ns =>
    rw [intL_some e, List.all_map] at h
    have : ns.all (isInt ∘ D.int) = true := List.all_eq_true.mpr fun _ _ => rfl
    rw [this] at h
    cases h
/-- an order of one to eight things -/
structure IsOrder (w : List Nat) : Prop where
  perm : w.Perm (List.range w.length)
  pos : 1 ≤ w.length
  most : w.length ≤ 8
theorem ordDs_nat {w : List Nat} : ordDs (w.map nD) = true ↔ IsOrder w := by
  unfold ordDs
  rw [intL_nat]
  simp only [List.length_map, Bool.and_eq_true, decide_eq_true_eq, sortI_range]
  constructor
  · rintro ⟨⟨h1, h2⟩, h3⟩
    refine ⟨?_, h1, h2⟩
    have := h3.map Int.toNat
    simpa [List.map_map, Function.comp_def] using this
  · rintro ⟨h1, h2, h3⟩
    exact ⟨⟨h2, h3⟩, h1.map _⟩
theorem ordDs_some {ds : List D} (h : ordDs ds = true) : ∃ w, ds = w.map nD ∧ IsOrder w := by
  have h0 := h
  unfold ordDs at h
  rw [Bool.and_eq_true, decide_eq_true_eq] at h
  obtain ⟨⟨h1, h2⟩, h3⟩ := h
  cases e : intL ds with
  | none => rw [e] at h3; cases h3
  | some ns =>
    rw [e] at h3
    have h4 := sortI_range.mp (of_decide_eq_true h3)
    have e2 : ns = (ns.map Int.toNat).map (fun n : Nat => (n : Int)) := by
      rw [List.map_map]
      conv => lhs; rw [← List.map_id ns]
      apply List.map_congr_left
      intro x hx
      obtain ⟨y, _, rfl⟩ := List.mem_map.mp (h4.mem_iff.mp hx)
      simp
    have e3 : ds = (ns.map Int.toNat).map nD := by
      rw [intL_some e]
      conv => lhs; rw [e2]
      rw [List.map_map]
      rfl
    refine ⟨_, e3, ?_⟩
    rw [e3] at h0
    exact ordDs_nat.mp h0
theorem IsOrder.nd {w : List Nat} (h : IsOrder w) : w.Nodup := h.perm.nodup_iff.mpr List.nodup_range
theorem IsOrder.lt {w : List Nat} (h : IsOrder w) {x : Nat} (hx : x ∈ w) : x < w.length := List.mem_range.mp (h.perm.mem_iff.mp hx)
theorem IsOrder.mem {w : List Nat} (h : IsOrder w) {x : Nat} (hx : x < w.length) : x ∈ w := h.perm.mem_iff.mpr (List.mem_range.mpr hx)
theorem IsOrder.len {w : List Nat} (h : IsOrder w) : w.length ≤ 1000000 := Nat.le_trans h.most (by decide)
/-- an order as a list or as a tuple -/
def rowD (l : Bool) (w : List Nat) : D := if l then lstN w else tupN w
theorem isOrd_row {l : Bool} {w : List Nat} (h : IsOrder w) : isOrd (rowD l w) = true := by
  cases l <;> exact ordDs_nat.mpr h
theorem toTup_row (l : Bool) (w : List Nat) : toTup (rowD l w) = tupN w := by cases l <;> rfl
def dlen (d : D) : Nat := match rowOf d with
  | some ds => ds.length
  | none => 0
/-- the error that need_orders raises -/
def needErr : Option Nat → List D → Option (Str × List (Str × D))
  | _, [] => none
  | o, d :: ds => if isOrd d = false then some ("BadOrder", [("value", d)]) else if o.getD (dlen d) = dlen d then needErr (some (dlen d)) ds else some ("NotSame", [("order", toTup d)])
theorem isOrd_rowOf {d : D} (h : isOrd d = true) : ∃ ds, rowOf d = some ds ∧ ordDs ds = true := by
  unfold isOrd at h
  cases e : rowOf d with
  | none => rw [e] at h; cases h
  | some ds => rw [e] at h; exact ⟨ds, rfl, h⟩
theorem row_len {d : D} {ds : List D} (h : rowOf d = some ds) : biD .len [d] = some (.int ds.length) := by cases d <;> first | (cases h; rfl) | cases h
theorem row_tuple {d : D} {ds : List D} (h : rowOf d = some ds) : biD .tuple [d] = some (.tup ds) := by cases d <;> first | (cases h; rfl) | cases h
theorem row_walk {d : D} {ds : List D} (h : rowOf d = some ds) : walkOf d = some ds := by cases d <;> first | exact h | cases h
theorem pl_row {d : D} {ds : List D} (h : rowOf d = some ds) (hp : d.pl = true) : D.pls ds = true := by cases d <;> first | (cases h; exact hp) | cases h
theorem put_nat {ds : List D} {i : Nat} {d : D} (h : i < ds.length) : putAt ds (.int (i : Int)) d = some (ds.set i d) := by
  show (ixD ds.length (i : Int)).map (fun n => ds.set n d) = _
  unfold ixD
  rw [if_pos (by omega), if_pos (by omega)]
  simp
theorem pop_nat {ds : List D} {i : Nat} {d : D} (h : ds[i]? = some d) (hz : i ≤ 1000000) : popAt ds (some (i : Int)) = some (d, ds.eraseIdx i) := by
  have hlt : i < ds.length := (List.getElem?_eq_some_iff.mp h).1
  have e : ixD ds.length (i : Int) = some i := by
    unfold ixD
    rw [if_pos (by omega), if_pos (by omega)]
    simp
  have hc : decide (-(2 ^ 63) ≤ (i : Int) ∧ (i : Int) < 2 ^ 63) = true := decide_eq_true (by constructor <;> omega)
  unfold popAt
  simp only [hc, if_true, e, h]
theorem rep_flat {α : Type} (x : α) : ∀ n : Nat, (List.replicate n [x]).flatten = List.replicate n x
  | 0 => rfl
  | n + 1 => by
    rw [List.replicate_succ, List.replicate_succ, List.flatten_cons, rep_flat x n]
    rfl
theorem rep1 (x : D) {n : Nat} (h : n ≤ 1000000) : binD .Mult (.lst [x]) (.int (n : Int)) = some (.lst (List.replicate n x)) := by
  have hz := le_size h
  have hc : decide (-(2 ^ 63) ≤ (n : Int) ∧ (n : Int) < 2 ^ 63 ∧ [x].length * (n : Int).toNat ≤ sizeLine) = true := by
    refine decide_eq_true ⟨by omega, by omega, ?_⟩
    rw [Int.toNat_natCast, List.length_singleton, Nat.one_mul]
    exact hz
  unfold binD
  dsimp only
  rw [if_pos hc, Int.toNat_natCast, rep_flat]
theorem rep1F (x : D) {n : Nat} (h : n ≤ 1000000) : binF .Mult (.lst [x]) (.int (n : Int)) = some (.lst (List.replicate n x)) := by
  unfold binF
  exact rep1 x h
/-- the pairs i < j -/
def pairsN (n : Nat) : List (Nat × Nat) := (List.range n).flatMap fun i => (List.range' (i + 1) (n - (i + 1))).map fun j => (i, j)
def pD (p : Nat × Nat) : D := .tup [nD p.1, nD p.2]
/-- u after v -/
def comp (u v : List Nat) : List Nat := v.map fun i => u.getD i 0
/-- the inverse -/
def backN (w : List Nat) : List Nat := (List.range w.length).map fun i => w.idxOf i
def overN (w : List Nat) : List Nat := w.reverse.map fun x => w.length - 1 - x
def invN (w : List Nat) : List (Nat × Nat) := (pairsN w.length).filter fun p => decide (w.getD p.2 0 < w.getD p.1 0)
def fallsN (w : List Nat) : List Nat := (List.range (w.length - 1)).filter fun k => decide (w.getD (k + 1) 0 < w.getD k 0)
def codeN (w : List Nat) : List Nat := (List.range w.length).map fun i => ((w.drop (i + 1)).filter fun x => decide (x < w.getD i 0)).length
/-- the first index where a code is wrong -/
def codeBad (n : Nat) : Nat → List D → Option Nat
  | _, [] => none
  | i, d :: ds => if (match d with
    | .int c => decide (0 ≤ c ∧ c ≤ (n : Int) - 1 - i)
    | _ => false) then codeBad n (i + 1) ds else some i
def decodeN : List Nat → List Nat → List Nat
  | _, [] => []
  | l, c :: cs => l.getD c 0 :: decodeN (l.eraseIdx c) cs
theorem getD_map {α : Type} (f : Nat → α) {w : List Nat} {i : Nat} (h : i < w.length) : (w.map f)[i]? = some (f (w.getD i 0)) := by
  rw [List.getElem?_map, List.getElem?_eq_getElem h, List.getD_eq_getElem?_getD, List.getElem?_eq_getElem h]
  rfl
theorem pair_mem {n : Nat} {p : Nat × Nat} (h : p ∈ pairsN n) : p.1 < p.2 ∧ p.2 < n := by
  unfold pairsN at h
  obtain ⟨i, hi, h⟩ := List.mem_flatMap.mp h
  obtain ⟨j, hj, rfl⟩ := List.mem_map.mp h
  rw [List.mem_range] at hi
  rw [List.mem_range'] at hj
  obtain ⟨k, hk, rfl⟩ := hj
  constructor <;> dsimp only <;> omega
theorem flat_len {α β : Type} (f : α → List β) (m : Nat) : ∀ l : List α, (∀ x ∈ l, (f x).length ≤ m) → (l.flatMap f).length ≤ l.length * m
  | [], _ => by simp
  | x :: l, h => by
    rw [List.flatMap_cons, List.length_append, List.length_cons, Nat.add_mul, Nat.one_mul]
    have h1 := h x (by simp)
    have h2 := flat_len f m l fun y hy => h y (List.mem_cons_of_mem _ hy)
    omega
theorem pairs_len (n : Nat) : (pairsN n).length ≤ n * n := by
  have := flat_len (fun i => (List.range' (i + 1) (n - (i + 1))).map fun j => (i, j)) n (List.range n) fun i _ => by
    rw [List.length_map, List.length_range']
    omega
  rw [List.length_range] at this
  exact this
theorem back_step {w : List Nat} (h : IsOrder w) {j : Nat} (hj : j < w.length) :
    ((List.range w.length).map fun i => if w.idxOf i < j then w.idxOf i else 0).set w[j] j = (List.range w.length).map fun i => if w.idxOf i < j + 1 then w.idxOf i else 0 := by
  have hlt : w[j] < w.length := h.lt (List.getElem_mem hj)
  have hix : w.idxOf w[j] = j := by
    have := h.nd
    exact List.Nodup.idxOf_getElem this j hj
  refine List.ext_getElem (by simp) fun i h1 h2 => ?_
  rw [List.getElem_set]
  simp only [List.getElem_map, List.getElem_range]
  have hi : i < w.length := by simpa using h2
  split
  · rename_i e
    rw [← e, hix, if_pos (by omega)]
  · rename_i e
    have hne : w.idxOf i ≠ j := by
      intro z
      have hmem : i ∈ w := h.mem hi
      have := List.getElem_idxOf (List.idxOf_lt_length_of_mem hmem)
      simp only [z] at this
      exact e this
    by_cases h3 : w.idxOf i < j
    · rw [if_pos h3, if_pos (by omega)]
    · rw [if_neg h3, if_neg (by omega)]
def codeL : List Nat → List Nat
  | [] => []
  | x :: s => (s.filter fun y => decide (y < x)).length :: codeL s
theorem codeN_eq : ∀ w : List Nat, codeN w = codeL w
  | [] => rfl
  | x :: s => by
    have ih := codeN_eq s
    unfold codeN at ih ⊢
    rw [List.length_cons, List.range_succ_eq_map, List.map_cons, List.map_map]
    show _ :: _ = _ :: codeL s
    rw [← ih]
    congr 1
theorem decode_code : ∀ (s l : List Nat), l.Pairwise (· < ·) → l.Perm s → decodeN l (codeL s) = s
  | [], l, _, _ => rfl
  | x :: s, l, hs, hp => by
    obtain ⟨a, b, rfl⟩ := List.append_of_mem (hp.mem_iff.mpr (List.mem_cons_self))
    have h1 := List.pairwise_append.mp hs
    have ha : ∀ y ∈ a, y < x := fun y hy => h1.2.2 y hy x List.mem_cons_self
    have hb : ∀ y ∈ b, x < y := fun y hy => (List.pairwise_cons.mp h1.2.1).1 y hy
    have hf : (a ++ x :: b).filter (fun y => decide (y < x)) = a := by
      rw [List.filter_append, List.filter_cons_of_neg (by simp), List.filter_eq_self.mpr fun y hy => decide_eq_true (ha y hy), List.filter_eq_nil_iff.mpr fun y hy => by have := hb y hy; simp; omega, List.append_nil]
    have hc : (s.filter fun y => decide (y < x)).length = a.length := by
      have := (hp.filter (fun y => decide (y < x))).length_eq
      rw [hf, List.filter_cons_of_neg (by simp)] at this
      exact this.symm
    show (a ++ x :: b).getD _ 0 :: decodeN ((a ++ x :: b).eraseIdx _) (codeL s) = x :: s
    rw [hc, List.getD_eq_getElem?_getD, List.getElem?_append_right (Nat.le_refl _), Nat.sub_self]
    have he : (a ++ x :: b).eraseIdx a.length = a ++ b := by
      rw [List.eraseIdx_append_of_length_le (Nat.le_refl _), Nat.sub_self]
      rfl
    rw [he, decode_code s (a ++ b)]
    · rfl
    · exact List.pairwise_append.mpr ⟨h1.1, (List.pairwise_cons.mp h1.2.1).2, fun y hy z hz => h1.2.2 y hy z (List.mem_cons_of_mem _ hz)⟩
    · exact (List.perm_cons x).mp (List.perm_middle.symm.trans hp)
theorem decode_codeN {w : List Nat} (h : IsOrder w) : decodeN (List.range w.length) (codeN w) = w := by
  rw [codeN_eq]
  exact decode_code w _ List.pairwise_lt_range h.perm.symm
theorem codeN_len (w : List Nat) : (codeN w).length = w.length := by unfold codeN; simp
theorem codeN_at {w : List Nat} {i : Nat} (h : i < (codeN w).length) : (codeN w)[i] + i + 1 ≤ w.length := by
  rw [codeN_len] at h
  have : (codeN w)[i]'(by rw [codeN_len]; exact h) = ((w.drop (i + 1)).filter fun x => decide (x < w.getD i 0)).length := by unfold codeN; simp
  rw [this]
  have := List.length_filter_le (fun x => decide (x < w.getD i 0)) (w.drop (i + 1))
  rw [List.length_drop] at this
  omega
theorem erase_map {α β : Type} (f : α → β) : ∀ (l : List α) (i : Nat), (l.map f).eraseIdx i = (l.eraseIdx i).map f
  | [], _ => rfl
  | _ :: _, 0 => rfl
  | x :: l, i + 1 => by
    show f x :: (l.map f).eraseIdx i = f x :: (l.eraseIdx i).map f
    rw [erase_map f l i]
theorem getD_at {w : List Nat} {i : Nat} (h : i < w.length) : w.getD i 0 = w[i] := by
  rw [List.getD_eq_getElem?_getD, List.getElem?_eq_getElem h]
  rfl
theorem map_getD (u : List Nat) : (List.range u.length).map (fun i => u.getD i 0) = u := by
  refine List.ext_getElem (by simp) fun i h1 h2 => ?_
  rw [List.getElem_map, List.getElem_range, getD_at h2]
theorem comp_len (u v : List Nat) : (comp u v).length = v.length := by unfold comp; simp
theorem comp_order {u v : List Nat} (hu : IsOrder u) (hv : IsOrder v) (he : u.length = v.length) : IsOrder (comp u v) := by
  have hl := comp_len u v
  refine ⟨?_, by have := hv.pos; omega, by have := hv.most; omega⟩
  rw [hl]
  have h1 : (comp u v).Perm ((List.range v.length).map fun i => u.getD i 0) := hv.perm.map _
  rw [← he, map_getD] at h1
  rw [← he]
  exact h1.trans hu.perm
theorem back_len (w : List Nat) : (backN w).length = w.length := by unfold backN; simp
theorem back_order {w : List Nat} (h : IsOrder w) : IsOrder (backN w) := by
  have hl := back_len w
  refine ⟨?_, by have := h.pos; omega, by have := h.most; omega⟩
  rw [hl]
  have h1 : (w.map fun i => w.idxOf i).Perm (backN w) := h.perm.map _
  have h2 : (w.map fun i => w.idxOf i) = List.range w.length := by
    refine List.ext_getElem (by simp) fun i h1 h2 => ?_
    have hi : i < w.length := by simpa using h1
    rw [List.getElem_map, List.getElem_range]
    exact List.Nodup.idxOf_getElem h.nd i hi
  rw [h2] at h1
  exact h1.symm
theorem comp_back {w : List Nat} (h : IsOrder w) : comp w (backN w) = List.range w.length := by
  unfold comp backN
  rw [List.map_map]
  refine List.ext_getElem (by simp) fun i h1 h2 => ?_
  have hi : i < w.length := by simpa using h2
  have hm := h.mem hi
  simp only [List.getElem_map, List.getElem_range, Function.comp]
  rw [getD_at (List.idxOf_lt_length_of_mem hm)]
  exact List.getElem_idxOf (List.idxOf_lt_length_of_mem hm)
theorem comp_at {u v : List Nat} {i : Nat} (h : i < v.length) : (comp u v).getD i 0 = u.getD (v.getD i 0) 0 := by
  rw [getD_at (by rw [comp_len]; exact h), getD_at h]
  unfold comp
  rw [List.getElem_map]
theorem comp_assoc {u v w : List Nat} (h : ∀ x ∈ w, x < v.length) : comp (comp u v) w = comp u (comp v w) := by
  show w.map (fun i => (comp u v).getD i 0) = (w.map fun i => v.getD i 0).map fun i => u.getD i 0
  rw [List.map_map]
  exact List.map_congr_left fun x hx => comp_at (h x hx)
end Sw

set_option Elab.async false
set_option linter.all false
set_option maxRecDepth 100000
set_option maxHeartbeats 1000000
/-! Sw, plain laws: the law's source of draws. -/
namespace Sw
open PySem
/-! ### arithmetic -/
theorem fmod_nat (i : Int) {m : Nat} (h : 0 < m) : ∃ r : Nat, i.fmod m = r ∧ r < m := by
  have h1 : 0 ≤ i.fmod m := Int.fmod_nonneg_of_pos _ (by omega)
  have h2 : i.fmod m < m := Int.fmod_lt_of_pos _ (by omega)
  exact ⟨(i.fmod m).toNat, by omega, by omega⟩
theorem mod_int (i : Int) {m : Nat} (h : 0 < m) : ∃ r : Nat, binD .Mod (.int i) (.int (m : Int)) = some (nD r) ∧ r < m := by
  obtain ⟨r, e, hr⟩ := fmod_nat i h
  refine ⟨r, ?_, hr⟩
  have hc : decide ((m : Int) ≠ 0) = true := decide_eq_true (by omega)
  unfold binD
  dsimp only
  rw [if_pos hc, e]
theorem fdiv_nat (a : Nat) {m : Nat} (h : 0 < m) (h2 : m < 1073741824) : binD .FloorDiv (.int (a : Int)) (.int (m : Int)) = some (nD (a / m)) := by
  have hc : decide ((m : Int) ≠ 0 ∧ (m : Int).natAbs < 1073741824) = true := decide_eq_true ⟨by omega, by omega⟩
  unfold binD
  dsimp only
  rw [if_pos hc]
  show some (D.int ((a : Int).fdiv m)) = some (D.int ((a / m : Nat) : Int))
  rw [Int.fdiv_eq_ediv_of_nonneg _ (by omega)]
  rfl
theorem log2_64 {n : Nat} (h : n < 2 ^ 64) : n.log2 < 64 := by
  by_cases h0 : n = 0
  · subst h0; decide
  · exact (Nat.log2_lt h0).mpr h
theorem mul_nat {a b : Nat} (ha : a < 2 ^ 64) (hb : b < 2 ^ 64) : binD .Mult (.int (a : Int)) (.int (b : Int)) = some (nD (a * b)) := by
  have h1 := log2_64 ha
  have h2 := log2_64 hb
  have hc : cmul (a : Int) (b : Int) = true := by
    unfold cmul
    refine decide_eq_true ?_
    simp only [Int.natAbs_natCast]
    omega
  unfold binD
  dsimp only
  rw [if_pos hc]
  show some (D.int ((a : Int) * b)) = some (D.int ((a * b : Nat) : Int))
  rw [Int.natCast_mul]
theorem pow_nat {a e : Nat} (ha : a < 2 ^ 64) (he : e ≤ 1000000) : binD .Pow (.int (a : Int)) (.int (e : Int)) = some (nD (a ^ e)) := by
  have hc : decide (0 ≤ (e : Int) ∧ (e : Int) ≤ 1000000 ∧ (a : Int).natAbs < 2 ^ 64) = true := decide_eq_true ⟨by omega, by omega, by simpa using ha⟩
  unfold binD
  dsimp only
  rw [if_pos hc]
  show some (D.int ((a : Int) ^ (e : Int).toNat)) = some (D.int ((a ^ e : Nat) : Int))
  rw [Int.toNat_natCast, Int.natCast_pow]
/-! ### the pen -/
/-- the pen's dict, the objects behind it -/
def penS (zs : List Int) (a d c f : Nat) (r : Store) : Store := .dic [nm "cells" (.lst (zs.map .int)), nm "at" (nD a), nm "digits" (nD d), nm "count" (nD c), nm "fold" (nD f)] :: r
def Pen (b : Nat) (r : Store) (st : Store) : Prop := ∃ zs a d c f, st = penS zs a d c f r ∧ c ≤ b ∧ f < 2147483648
theorem Pen.mono {b b' : Nat} {r st : Store} (h : Pen b r st) (hb : b ≤ b') : Pen b' r st := by
  obtain ⟨zs, a, d, c, f, e, h1, h2⟩ := h
  exact ⟨zs, a, d, c, f, e, by omega, h2⟩
section
variable {zs : List Int} {a d c f v : Nat} {r : Store} {Q : D → Store → Prop} {Q' : Unit → Store → Prop} {X : Str → List (Str × D) → Store → Prop}
theorem get_cells : Wp (cgetM (.cell 0) "cells") (penS zs a d c f r) Q X = Q (.lst (zs.map .int)) (penS zs a d c f r) := wp_eq.trans (propext ⟨fun h => h, fun h => h⟩)
theorem get_at : Wp (cgetM (.cell 0) "at") (penS zs a d c f r) Q X = Q (nD a) (penS zs a d c f r) := wp_eq.trans (propext ⟨fun h => h, fun h => h⟩)
theorem get_digits : Wp (cgetM (.cell 0) "digits") (penS zs a d c f r) Q X = Q (nD d) (penS zs a d c f r) := wp_eq.trans (propext ⟨fun h => h, fun h => h⟩)
theorem get_count : Wp (cgetM (.cell 0) "count") (penS zs a d c f r) Q X = Q (nD c) (penS zs a d c f r) := wp_eq.trans (propext ⟨fun h => h, fun h => h⟩)
theorem get_fold : Wp (cgetM (.cell 0) "fold") (penS zs a d c f r) Q X = Q (nD f) (penS zs a d c f r) := wp_eq.trans (propext ⟨fun h => h, fun h => h⟩)
theorem set_at : Wp (csetM (.cell 0) "at" (nD v)) (penS zs a d c f r) Q' X = Q' () (penS zs v d c f r) := wp_eq.trans (propext ⟨fun h => h, fun h => h⟩)
theorem set_digits : Wp (csetM (.cell 0) "digits" (nD v)) (penS zs a d c f r) Q' X = Q' () (penS zs a v c f r) := wp_eq.trans (propext ⟨fun h => h, fun h => h⟩)
theorem set_count : Wp (csetM (.cell 0) "count" (nD v)) (penS zs a d c f r) Q' X = Q' () (penS zs a d v f r) := wp_eq.trans (propext ⟨fun h => h, fun h => h⟩)
theorem set_fold : Wp (csetM (.cell 0) "fold" (nD v)) (penS zs a d c f r) Q' X = Q' () (penS zs a d c v r) := wp_eq.trans (propext ⟨fun h => h, fun h => h⟩)
end
theorem wp_disp {ks : List Str} {ds : List D} {st : Store} {Q : D → Store → Prop} {X : Str → List (Str × D) → Store → Prop} (h1 : ks.Nodup) (h2 : ds.length = ks.length) : Wp (dispM ks ds) st Q X = Q (.cell st.length) (st ++ [.dic (ks.zip ds)]) := by
  rw [wp_eq]
  unfold dispM
  rw [if_pos (decide_eq_true ⟨h1, h2⟩)]
  rfl
theorem bi_list_seqI (ns : List Int) : biD .list [.seqI ns] = some (.lst (ns.map .int)) := rfl
theorem add_lst {a b : List D} (h : a.length + b.length ≤ 1000000) : binD .Add (.lst a) (.lst b) = some (.lst (a ++ b)) := by
  have : okLen (a.length + b.length) = true := decide_eq_true (le_size h)
  show (if okLen (a.length + b.length) = true then some (D.lst (a ++ b)) else none) = _
  rw [if_pos this]
theorem addF_lst {a b : List D} (h : a.length + b.length ≤ 1000000) : binF .Add (.lst a) (.lst b) = some (.lst (a ++ b)) := add_lst h
/-! ### plain data that are good -/
theorem good_of {d : D} (h1 : d.pl = true) (h2 : d.dp ≤ 32) (h3 : d.wt ≤ 1000000) : d.good = true := by
  unfold D.good
  rw [h1, decide_eq_true h2, decide_eq_true (Nat.le_trans h3 (by decide))]
  rfl
theorem wts_map {α : Type} (f : α → D) (m : Nat) : ∀ l : List α, (∀ x ∈ l, (f x).wt ≤ m) → D.wts (l.map f) ≤ l.length * (m + 1)
  | [], _ => by simp [D.wts]
  | x :: l, h => by
    have h1 := h x (by simp)
    have h2 := wts_map f m l fun y hy => h y (List.mem_cons_of_mem _ hy)
    show (f x).wt + 1 + D.wts (l.map f) ≤ _
    rw [List.length_cons, Nat.add_mul, Nat.one_mul]
    omega
theorem dps_map {α : Type} (f : α → D) (m : Nat) : ∀ l : List α, (∀ x ∈ l, (f x).dp ≤ m) → D.dps (l.map f) ≤ m
  | [], _ => by simp [D.dps]
  | x :: l, h => by
    have h1 := h x (by simp)
    have h2 := dps_map f m l fun y hy => h y (List.mem_cons_of_mem _ hy)
    show max (f x).dp (D.dps (l.map f)) ≤ _
    omega
theorem pls_map {α : Type} (f : α → D) (l : List α) (h : ∀ x ∈ l, (f x).pl = true) : D.pls (l.map f) = true := pls_of fun d hd => by
  obtain ⟨x, hx, rfl⟩ := List.mem_map.mp hd
  exact h x hx
theorem pl_nD {n : Nat} (h : n < 10 ^ 12) : (nD n).pl = true := decide_eq_true (by simpa using h)
theorem good_nats {w : List Nat} (h : ∀ x ∈ w, x < 10 ^ 12) (hl : w.length ≤ 1000) : (tupN w).good = true ∧ (lstN w).good = true := by
  have h1 := pls_map nD w fun x hx => pl_nD (h x hx)
  have h2 := dps_map nD 0 w fun x _ => Nat.le_refl 0
  have h3 := wts_map nD 41 w fun x _ => Nat.le_refl 41
  have h4 : w.length * 42 ≤ 1000 * 42 := Nat.mul_le_mul hl (Nat.le_refl _)
  constructor
  · exact good_of h1 (by rw [dp_tup]; omega) (by rw [wt_tup]; omega)
  · exact good_of h1 (by rw [dp_lst]; omega) (by rw [wt_lst]; omega)
theorem good_pairs {ps : List (Nat × Nat)} (h : ∀ p ∈ ps, p.1 < 10 ^ 12 ∧ p.2 < 10 ^ 12) (hl : ps.length ≤ 1000) : (D.tup (ps.map pD)).good = true := by
  have h1 := pls_map pD ps fun p hp => by
    obtain ⟨a, b⟩ := h p hp
    show D.pls [nD p.1, nD p.2] = true
    exact pls_of fun d hd => by
      rcases List.mem_cons.mp hd with rfl | hd
      · exact pl_nD a
      · rw [List.mem_singleton.mp hd]; exact pl_nD b
  have h2 := dps_map pD 1 ps fun p _ => by show max 0 (max 0 0) + 1 ≤ 1; decide
  have h3 := wts_map pD 84 ps fun p _ => by show 41 + 1 + (41 + 1 + 0) ≤ 84; decide
  have h4 : ps.length * 85 ≤ 1000 * 85 := Nat.mul_le_mul hl (Nat.le_refl _)
  exact good_of h1 (by rw [dp_tup]; omega) (by rw [wt_tup]; omega)
theorem overN_eq (w : List Nat) : overN w = (List.range w.length).map fun i => w.length - 1 - w.getD (w.length - 1 - i) 0 := by
  unfold overN
  refine List.ext_getElem (by simp) fun i h1 h2 => ?_
  have hi : i < w.length := by simpa using h2
  rw [List.getElem_map, List.getElem_map, List.getElem_reverse, List.getElem_range, List.getD_eq_getElem?_getD, List.getElem?_eq_getElem (show w.length - 1 - i < w.length by omega)]
  rfl
/-- a word and a value -/
theorem good_two {x : Str} {d : D} (hx : PyData.strOk x = true) (hl : x.length ≤ 1000) (h1 : d.pl = true) (h2 : d.dp ≤ 30) (h3 : d.wt ≤ 500000) : (D.tup [.str x, d]).good = true := by
  refine good_of ?_ ?_ ?_
  · show (PyData.strOk x && (D.pl d && true)) = true
    rw [hx, h1]
    rfl
  · show max 0 (max d.dp 0) + 1 ≤ 32
    omega
  · show x.length + 1 + (d.wt + 1 + 0) ≤ 1000000
    omega
theorem eqD_same {d : D} (h1 : d.pl = true) (h2 : d.dp ≤ 32) : eqD d d = some true := by
  obtain ⟨p, k⟩ := py_ok h1
  unfold eqD
  rw [k.py]
  dsimp only
  rw [shaped_of k.lay (by rw [k.dp]; exact h2), SeqAt.eqv_refl p k.lay]
  rfl
/-- if x == c: passed by, taken -/
theorem skip_eq {C : Ctx} {δ : Fr} {st : Store} {Q : Flow → Store → Prop} {X : Str → List (Str × D) → Store → Prop} {i : Nat} {y c : Int} {B r : List S} (hv : borV δ i = some (.int y)) (hn : y ≠ c) (h : Wp (execs C r δ) st Q X) : Wp (execs C (.ifs (.cmp .Eq (.var i) (.int c)) B [] :: r) δ) st Q X := by
  rw [wp_cons]
  simp only [exec, wp_at, testM, borM, ev, wp_bind, hv, wp_some, wp_pure, cmp_eq, eqD_int, truth_bl, wp_ite]
  rw [if_neg (by simpa using hn), wp_nil]
  exact h
theorem take_eq {C : Ctx} {δ : Fr} {st : Store} {Q : Flow → Store → Prop} {X : Str → List (Str × D) → Store → Prop} {i : Nat} {y c : Int} {B r : List S} (hv : borV δ i = some (.int y)) (hn : y = c) (h : Wp (execs C B δ) st (thenK C r Q X) X) : Wp (execs C (.ifs (.cmp .Eq (.var i) (.int c)) B [] :: r) δ) st Q X := by
  rw [wp_cons]
  simp only [exec, wp_at, testM, borM, ev, wp_bind, hv, wp_some, wp_pure, cmp_eq, eqD_int, truth_bl, wp_ite]
  rw [if_pos (by simpa using hn)]
  exact h
/-- a small value -/
structure Sml (d : D) : Prop where
  pl : d.pl = true
  dp : d.dp ≤ 3
  wt : d.wt ≤ 1000
theorem Sml.nat {n : Nat} (h : n < 10 ^ 12) : Sml (nD n) := ⟨pl_nD h, Nat.zero_le _, show 41 ≤ 1000 by decide⟩
theorem Sml.row {ds : List D} (h : ∀ d ∈ ds, Sml d) (hl : ds.length ≤ 20) : (D.tup ds).pl = true ∧ (D.lst ds).pl = true ∧ (D.tup ds).dp ≤ 4 ∧ (D.lst ds).dp ≤ 4 ∧ (D.tup ds).wt ≤ 30000 ∧ (D.lst ds).wt ≤ 30000 := by
  have h1 : D.pls ds = true := pls_of fun d hd => (h d hd).pl
  have h2 := dps_map id 3 ds fun d hd => (h d hd).dp
  have h3 := wts_map id 1000 ds fun d hd => (h d hd).wt
  rw [List.map_id] at h2 h3
  have h4 : ds.length * 1001 ≤ 20 * 1001 := Nat.mul_le_mul hl (Nat.le_refl _)
  refine ⟨h1, h1, ?_, ?_, ?_, ?_⟩
  · rw [dp_tup]; omega
  · rw [dp_lst]; omega
  · rw [wt_tup]; omega
  · rw [wt_lst]; omega
end Sw

set_option Elab.async false
set_option linter.all false
set_option maxRecDepth 100000
set_option maxHeartbeats 1000000
/-! Sw, plain laws: words of steps. -/
namespace Sw
open PySem
theorem item_nat {w : List Nat} {i : Nat} (h : i < w.length) : itemD (tupN w) (.int (i : Int)) = some (nD (w.getD i 0)) := by
  rw [item_tup, getD_map nD h]
theorem item_natL {w : List Nat} {i : Nat} (h : i < w.length) : itemD (lstN w) (.int (i : Int)) = some (nD (w.getD i 0)) := by
  rw [item_lst, getD_map nD h]
theorem bnd_to (n i : Nat) : bndD n n (some (i : Int)) = min i n := by
  show (if (i : Int) < 0 then ((i : Int) + n).toNat else min (i : Int).toNat n) = _
  rw [if_neg (by omega), Int.toNat_natCast]
theorem bnd_from (n i : Nat) : bndD n 0 (some (i : Int)) = min i n := by
  show (if (i : Int) < 0 then ((i : Int) + n).toNat else min (i : Int).toNat n) = _
  rw [if_neg (by omega), Int.toNat_natCast]
theorem take_min {α : Type} (ds : List α) (i : Nat) : ds.take (min i ds.length) = ds.take i := by
  rcases Nat.le_total i ds.length with h | h
  · rw [Nat.min_eq_left h]
  · rw [Nat.min_eq_right h, List.take_length, List.take_of_length_le h]
theorem slice_to {i : Nat} (ds : List D) : sliceD none (some (i : Int)) (.tup ds) = some (.tup (ds.take i)) := by
  show some (D.tup ((ds.drop 0).take (bndD ds.length ds.length (some (i : Int)) - 0))) = _
  rw [bnd_to, List.drop_zero, Nat.sub_zero, take_min]
theorem slice_toL {i : Nat} (ds : List D) : sliceD none (some (i : Int)) (.lst ds) = some (.lst (ds.take i)) := by
  show some (D.lst ((ds.drop 0).take (bndD ds.length ds.length (some (i : Int)) - 0))) = _
  rw [bnd_to, List.drop_zero, Nat.sub_zero, take_min]
theorem slice_fromL {i : Nat} (ds : List D) : sliceD (some (i : Int)) none (.lst ds) = some (.lst (ds.drop i)) := by
  have h := slice_from (v := (i : Int)) (i := i) rfl ds
  have e : sliceD (some (i : Int)) none (.tup ds) = some (D.tup ((ds.drop (bndD ds.length 0 (some (i : Int)))).take (ds.length - bndD ds.length 0 (some (i : Int))))) := rfl
  rw [e] at h
  show some (D.lst ((ds.drop (bndD ds.length 0 (some (i : Int)))).take (ds.length - bndD ds.length 0 (some (i : Int))))) = _
  injection h with h
  injection h with h
  rw [h]
theorem slice_L {a b : Nat} (ds : List D) (hab : a ≤ b) (hb : b ≤ ds.length) : sliceD (some (a : Int)) (some (b : Int)) (.lst ds) = some (.lst ((ds.drop a).take (b - a))) := by
  have e1 : bndD ds.length 0 (some (a : Int)) = a := by rw [bnd_from]; omega
  have e2 : bndD ds.length ds.length (some (b : Int)) = b := by rw [bnd_to]; omega
  show some (D.lst ((ds.drop (bndD ds.length 0 (some (a : Int)))).take (bndD ds.length ds.length (some (b : Int)) - bndD ds.length 0 (some (a : Int))))) = _
  rw [e1, e2]
theorem add_tup {a b : List D} (h : a.length + b.length ≤ 1000000) : binD .Add (.tup a) (.tup b) = some (.tup (a ++ b)) := by
  have : okLen (a.length + b.length) = true := decide_eq_true (le_size h)
  show (if okLen (a.length + b.length) = true then some (D.tup (a ++ b)) else none) = _
  rw [if_pos this]
theorem any_ints (x : Int) (a : List Int) : (a.map PyData.int).any (fun z => PyData.eqv z (.int x)) = decide (x ∈ a) := by
  induction a with
  | nil => rfl
  | cons y a ih =>
    show ((y == x) || _) = _
    rw [ih]
    by_cases h : y = x
    · subst h; simp
    · have h2 : ¬ x = y := fun e => h e.symm
      simp [h, h2]
theorem inD_intsT (x : Int) (a : List Int) : inD (.int x) (.tup (a.map .int)) = some (decide (x ∈ a)) := by
  unfold inD inR
  simp only [D.py, pys_ints, Option.map_some]
  rw [shaped_of (p := .int x) rfl (Nat.zero_le _), shaped_of (p := .tuple (a.map .int)) (lay_ints a) (by show PyData.depthAll _ + 1 ≤ 32; rw [dep_ints]; omega)]
  show some (List.any _ _) = _
  rw [any_ints]
theorem inD_intsL (x : Int) (a : List Int) : inD (.int x) (.lst (a.map .int)) = some (decide (x ∈ a)) := by
  unfold inD inR
  simp only [D.py, pys_ints, Option.map_some]
  rw [shaped_of (p := .int x) rfl (Nat.zero_le _), shaped_of (p := .list (a.map .int)) (lay_ints a) (by show PyData.depthAll _ + 1 ≤ 32; rw [dep_ints]; omega)]
  show some (List.any _ _) = _
  rw [any_ints]
theorem mem_nats (i : Nat) (w : List Nat) : (i : Int) ∈ w.map (fun n : Nat => (n : Int)) ↔ i ∈ w := by
  rw [List.mem_map]
  exact ⟨fun ⟨a, h, e⟩ => by have : a = i := Int.ofNat.inj e; rwa [this] at h, fun h => ⟨i, h, rfl⟩⟩
theorem inD_natT (i : Nat) (w : List Nat) : inD (nD i) (tupN w) = some (decide (i ∈ w)) := by
  unfold tupN
  rw [nat_ints, inD_intsT]
  congr 1
  exact decide_eq_decide.mpr (mem_nats i w)
theorem inD_natL (i : Nat) (w : List Nat) : inD (nD i) (lstN w) = some (decide (i ∈ w)) := by
  unfold lstN
  rw [nat_ints, inD_intsL]
  congr 1
  exact decide_eq_decide.mpr (mem_nats i w)
theorem inD_two (i a b : Nat) : inD (nD i) (.tup [nD a, nD b]) = some (decide (i = a ∨ i = b)) := by
  have := inD_natT i [a, b]
  rw [show tupN [a, b] = .tup [nD a, nD b] from rfl] at this
  rw [this]
  congr 1
  simp
theorem enumD_nat (s : List Nat) : enumD (s.map nD) = (List.range s.length).map fun i => D.tup [nD i, nD (s.getD i 0)] := by
  refine List.ext_getElem (by unfold enumD; simp) fun i h1 h2 => ?_
  have hi : i < s.length := by simpa using h2
  have e1 : (enumD (s.map nD))[i]? = some (D.tup [nD i, nD (s.getD i 0)]) := by
    unfold enumD
    rw [List.getElem?_map, List.getElem?_zipIdx, getD_map nD hi]
    simp
  rw [List.getElem?_eq_getElem h1] at e1
  rw [Option.some.inj e1, List.getElem_map, List.getElem_range]
/-- neighbours exchanged -/
def stN (w : List Nat) (k : Nat) : List Nat := (w.set k (w.getD (k + 1) 0)).set (k + 1) (w.getD k 0)
def ledN (w : List Nat) (s : List Nat) : List Nat := s.foldl stN w
/-- the steps of a word of n -/
def Word (n : Nat) (s : List Nat) : Prop := ∀ k ∈ s, k + 1 < n
/-- where a step takes a place from -/
def sw (k i : Nat) : Nat := if i = k then k + 1 else if i = k + 1 then k else i
theorem sw_sw (k i : Nat) : sw k (sw k i) = i := by
  unfold sw
  repeat' split
  all_goals omega
theorem stN_len (w : List Nat) (k : Nat) : (stN w k).length = w.length := by unfold stN; simp
theorem stN_at {w : List Nat} {k : Nat} (h : k + 1 < w.length) {i : Nat} : (stN w k).getD i 0 = w.getD (sw k i) 0 := by
  unfold stN sw
  rw [List.getD_eq_getElem?_getD, List.getElem?_set]
  by_cases h1 : k + 1 = i
  · subst h1
    have hz : k + 1 < (w.set k (w.getD (k + 1) 0)).length := by simpa using h
    rw [if_pos rfl, if_pos hz, if_neg (show ¬ k + 1 = k by omega), if_pos rfl]
    rfl
  · rw [if_neg h1, List.getElem?_set]
    by_cases h2 : k = i
    · subst h2
      have hz : k < w.length := by omega
      rw [if_pos rfl, if_pos hz, if_pos rfl]
      rfl
    · rw [if_neg h2, if_neg (by omega), if_neg (by omega)]
      rfl
theorem ext_getD {u v : List Nat} (hl : u.length = v.length) (h : ∀ i < u.length, u.getD i 0 = v.getD i 0) : u = v := by
  refine List.ext_getElem hl fun i h1 h2 => ?_
  have := h i h1
  rwa [getD_at h1, getD_at h2] at this
theorem sw_lt {k i n : Nat} (h : k + 1 < n) (hi : i < n) : sw k i < n := by
  unfold sw
  repeat' split
  all_goals omega
theorem stN_twice {w : List Nat} {k : Nat} (h : k + 1 < w.length) : stN (stN w k) k = w := by
  refine ext_getD (by rw [stN_len, stN_len]) fun i hi => ?_
  rw [stN_at (by rwa [stN_len]), stN_at h, sw_sw]
/-- as the program writes it -/
theorem stN_eq {w : List Nat} {k : Nat} (h : k + 1 < w.length) : w.take k ++ [w.getD (k + 1) 0, w.getD k 0] ++ w.drop (k + 2) = stN w k := by
  have hl : (w.take k ++ [w.getD (k + 1) 0, w.getD k 0] ++ w.drop (k + 2)).length = w.length := by
    simp only [List.length_append, List.length_take, List.length_drop, List.length_cons, List.length_nil]
    omega
  refine ext_getD (by rw [hl, stN_len]) fun i hi => ?_
  rw [hl] at hi
  rw [stN_at h]
  unfold sw
  simp only [List.getD_eq_getElem?_getD, List.getElem?_append, List.length_append, List.length_take, List.length_cons, List.length_nil, Nat.min_eq_left (show k ≤ w.length by omega)]
  by_cases h1 : i < k
  · rw [if_pos (by omega), if_pos h1, List.getElem?_take_of_lt h1, if_neg (by omega), if_neg (by omega)]
  · by_cases h2 : i = k
    · subst h2
      rw [if_pos (by omega), if_neg (by omega), if_pos rfl, Nat.sub_self]
      rfl
    · by_cases h3 : i = k + 1
      · subst h3
        rw [if_pos (by omega), if_neg (by omega), if_neg (by omega), if_pos rfl, show k + 1 - k = 1 by omega]
        rfl
      · rw [if_neg (by omega), if_neg h2, if_neg h3, List.getElem?_drop, show k + 2 + (i - (k + (0 + 1 + 1))) = i by omega]
theorem stN_map {w : List Nat} {k : Nat} (h : k + 1 < w.length) (f : Nat → Nat) : (stN w k).map f = stN (w.map f) k := by
  refine ext_getD (by simp [stN_len]) fun i hi => ?_
  rw [List.length_map, stN_len] at hi
  have e : ∀ (u : List Nat) (j : Nat), j < u.length → (u.map f).getD j 0 = f (u.getD j 0) := fun u j hj => by
    rw [getD_at hj, getD_at (by simpa using hj), List.getElem_map]
  rw [e _ _ (by rwa [stN_len]), stN_at h, stN_at (by simpa using h), e _ _ (sw_lt h hi)]
theorem ledN_len : ∀ {s w : List Nat}, (ledN w s).length = w.length
  | [], _ => rfl
  | k :: s, w => by
    show (ledN (stN w k) s).length = _
    rw [ledN_len, stN_len]
theorem ledN_app (w a b : List Nat) : ledN w (a ++ b) = ledN (ledN w a) b := List.foldl_append
theorem ledN_cons (w : List Nat) (k : Nat) (b : List Nat) : ledN w (k :: b) = ledN (stN w k) b := rfl
theorem Word.cons {n k : Nat} {s : List Nat} : Word n (k :: s) ↔ k + 1 < n ∧ Word n s := by
  unfold Word
  simp
theorem Word.app {n : Nat} {a b : List Nat} : Word n (a ++ b) ↔ Word n a ∧ Word n b := by
  unfold Word
  simp only [List.mem_append]
  exact ⟨fun h => ⟨fun k hk => h k (.inl hk), fun k hk => h k (.inr hk)⟩, fun h k hk => hk.elim (h.1 k) (h.2 k)⟩
theorem Word.sub {n : Nat} {a b : List Nat} (h : Word n a) (hs : ∀ k ∈ b, k ∈ a) : Word n b := fun k hk => h k (hs k hk)
theorem ledN_map {f : Nat → Nat} : ∀ {s w : List Nat}, Word w.length s → (ledN w s).map f = ledN (w.map f) s
  | [], _, _ => rfl
  | k :: s, w, h => by
    obtain ⟨h1, h2⟩ := Word.cons.mp h
    rw [ledN_cons, ledN_cons, ledN_map (by rwa [stN_len]), stN_map h1]
theorem ledN_inj : ∀ {s u v : List Nat}, Word u.length s → u.length = v.length → ledN u s = ledN v s → u = v
  | [], _, _, _, _, e => e
  | k :: s, u, v, h, hl, e => by
    obtain ⟨h1, h2⟩ := Word.cons.mp h
    have := ledN_inj (u := stN u k) (v := stN v k) (by rwa [stN_len]) (by rw [stN_len, stN_len, hl]) e
    rw [← stN_twice h1, ← stN_twice (w := v) (k := k) (by omega), this]
theorem stN_perm {w : List Nat} {k : Nat} (h : k + 1 < w.length) : (stN w k).Perm w := by
  have e : stN w k = w.take k ++ ([w.getD (k + 1) 0, w.getD k 0] ++ w.drop (k + 2)) := by rw [← List.append_assoc, stN_eq h]
  have e2 : w = w.take k ++ ([w.getD k 0, w.getD (k + 1) 0] ++ w.drop (k + 2)) := by
    conv => lhs; rw [← List.take_append_drop k w]
    congr 1
    rw [List.drop_eq_getElem_cons (show k < w.length by omega), List.drop_eq_getElem_cons h, getD_at (show k < w.length by omega), getD_at h]
    rfl
  rw [e]
  conv => rhs; rw [e2]
  exact (List.Perm.append_right _ (List.Perm.swap _ _ _)).append_left _
theorem ledN_perm : ∀ {s w : List Nat}, Word w.length s → (ledN w s).Perm w
  | [], w, _ => .refl _
  | k :: s, w, h => by
    obtain ⟨h1, h2⟩ := Word.cons.mp h
    exact (ledN_perm (w := stN w k) (by rwa [stN_len])).trans (stN_perm h1)
/-- two things exchanged -/
def sx (x y z : Nat) : Nat := if z = x then y else if z = y then x else z
theorem nd_inj {w : List Nat} (nd : w.Nodup) {i j : Nat} (hi : i < w.length) (hj : j < w.length) (e : w[i] = w[j]) : i = j := by
  rcases Nat.lt_trichotomy i j with h | h | h
  · exact absurd e (List.pairwise_iff_getElem.mp nd i j hi hj h)
  · exact h
  · exact absurd e.symm (List.pairwise_iff_getElem.mp nd j i hj hi h)
theorem stN_sx {w : List Nat} {k : Nat} (nd : w.Nodup) (h : k + 1 < w.length) : stN w k = w.map (sx (w.getD k 0) (w.getD (k + 1) 0)) := by
  refine ext_getD (by simp [stN_len]) fun i hi => ?_
  rw [stN_len] at hi
  have e : (w.map (sx (w.getD k 0) (w.getD (k + 1) 0))).getD i 0 = sx (w.getD k 0) (w.getD (k + 1) 0) (w.getD i 0) := by rw [getD_at hi, getD_at (by simpa using hi), List.getElem_map]
  rw [stN_at h, e]
  have hk : k < w.length := by omega
  have inj : ∀ i j, i < w.length → j < w.length → w.getD i 0 = w.getD j 0 → i = j := fun i j hi hj e => by
    rw [getD_at hi, getD_at hj] at e
    exact nd_inj nd hi hj e
  unfold sx sw
  by_cases h1 : i = k
  · subst h1
    rw [if_pos rfl, if_pos rfl]
  · rw [if_neg h1, if_neg fun e => h1 (inj _ _ hi hk e)]
    by_cases h2 : i = k + 1
    · subst h2
      rw [if_pos rfl, if_pos rfl]
    · rw [if_neg h2, if_neg fun e => h2 (inj _ _ hi h e)]
end Sw

set_option Elab.async false
set_option linter.all false
set_option maxRecDepth 100000
set_option maxHeartbeats 1000000
/-! Sw, plain laws: needless steps. -/
namespace Sw
open PySem
def same2 (x y u v : Nat) : Bool := decide (x = u ∧ y = v) || decide (x = v ∧ y = u)
theorem same2_iff {x y u v : Nat} : same2 x y u v = true ↔ (x = u ∧ y = v) ∨ (x = v ∧ y = u) := by
  unfold same2
  simp
theorem sx_sx (x y z : Nat) : sx x y (sx x y z) = z := by
  unfold sx
  repeat' split
  all_goals omega
theorem nd_step {w : List Nat} (nd : w.Nodup) {k : Nat} (h : k + 1 < w.length) : (stN w k).Nodup := (stepP h).nodup_iff.mpr nd
where stepP {w : List Nat} {k : Nat} (h : k + 1 < w.length) := stN_perm h
theorem nd_led {w s : List Nat} (nd : w.Nodup) (h : Word w.length s) : (ledN w s).Nodup := (ledN_perm h).nodup_iff.mpr nd
theorem getD_ne {w : List Nat} (nd : w.Nodup) {k : Nat} (h : k + 1 < w.length) : w.getD k 0 ≠ w.getD (k + 1) 0 := fun e => by
  rw [getD_at (show k < w.length by omega), getD_at h] at e
  have := nd_inj nd _ _ e
  omega
/-- a step left out, and a later one with it: nothing changes just if both exchange the same things -/
theorem two_out {p B : List Nat} {s t : Nat} (nd : p.Nodup) (hs : s + 1 < p.length) (ht : t + 1 < p.length) (hB : Word p.length B) :
    ledN p B = stN (ledN (stN p s) B) t ↔ same2 (p.getD s 0) (p.getD (s + 1) 0) ((ledN (stN p s) B).getD t 0) ((ledN (stN p s) B).getD (t + 1) 0) = true := by
  have hq : ledN (stN p s) B = (ledN p B).map (sx (p.getD s 0) (p.getD (s + 1) 0)) := by rw [stN_sx nd hs, ledN_map hB]
  have lq : (ledN (stN p s) B).length = p.length := by rw [ledN_len, stN_len]
  have nq : (ledN (stN p s) B).Nodup := nd_led (nd_step nd hs) (by rwa [stN_len])
  have hr : ledN p B = (ledN (stN p s) B).map (sx (p.getD s 0) (p.getD (s + 1) 0)) := by
    rw [hq, List.map_map]
    conv => lhs; rw [← List.map_id (ledN p B)]
    exact List.map_congr_left fun z _ => (sx_sx _ _ z).symm
  generalize hx : p.getD s 0 = x at *
  generalize hy : p.getD (s + 1) 0 = y at *
  generalize ledN (stN p s) B = q at *
  rw [hr, stN_sx nq (by omega), same2_iff]
  have hne := getD_ne nq (show t + 1 < q.length by omega)
  have m1 : q.getD t 0 ∈ q := by rw [getD_at (show t < q.length by omega)]; exact List.getElem_mem _
  generalize q.getD t 0 = u at *
  generalize q.getD (t + 1) 0 = v at *
  constructor
  · intro e
    have := List.map_inj_left.mp e u m1
    unfold sx at this
    rw [if_pos rfl] at this
    by_cases h1 : u = x
    · rw [if_pos h1] at this
      exact .inl ⟨h1.symm, this⟩
    · rw [if_neg h1] at this
      by_cases h2 : u = y
      · rw [if_pos h2] at this
        exact .inr ⟨this, h2.symm⟩
      · rw [if_neg h2] at this
        exact absurd this hne
  · rintro (⟨rfl, rfl⟩ | ⟨rfl, rfl⟩)
    · rfl
    · refine List.map_congr_left fun z _ => ?_
      unfold sx
      repeat' split
      all_goals omega
/-! ### left out -/
def keepN (p : Nat → Bool) : Nat → List Nat → List Nat
  | _, [] => []
  | i, x :: r => if p i then x :: keepN p (i + 1) r else keepN p (i + 1) r
theorem keepN_eq (p : Nat → Bool) : ∀ (s : List Nat) (i : Nat), keepN p i s = ((List.range' i s.length).filter p).map fun j => s.getD (j - i) 0
  | [], _ => rfl
  | x :: r, i => by
    have e : ((List.range' (i + 1) r.length).filter p).map (fun j => (x :: r).getD (j - i) 0) = keepN p (i + 1) r := by
      rw [keepN_eq p r (i + 1)]
      refine List.map_congr_left fun j hj => ?_
      have := (List.mem_range'_1.mp (List.mem_filter.mp hj).1).1
      rw [show j - i = (j - (i + 1)) + 1 by omega]
      rfl
    rw [List.length_cons, List.range'_succ]
    unfold keepN
    cases h : p i with
    | true => rw [if_pos rfl, List.filter_cons_of_pos h, List.map_cons, e, Nat.sub_self]; rfl
    | false => rw [if_neg (by simp), List.filter_cons_of_neg (by simp [h]), e]
theorem keepN_app (p : Nat → Bool) : ∀ (u v : List Nat) (i : Nat), keepN p i (u ++ v) = keepN p i u ++ keepN p (i + u.length) v
  | [], _, _ => rfl
  | x :: u, v, i => by
    have e := keepN_app p u v (i + 1)
    rw [show i + 1 + u.length = i + (x :: u).length by rw [List.length_cons]; omega] at e
    show (if p i = true then x :: keepN p (i + 1) (u ++ v) else keepN p (i + 1) (u ++ v)) = (if p i = true then x :: keepN p (i + 1) u else keepN p (i + 1) u) ++ _
    rw [e]
    cases p i <;> rfl
theorem keepN_all (p : Nat → Bool) : ∀ (u : List Nat) (i : Nat), (∀ j, i ≤ j → j < i + u.length → p j = true) → keepN p i u = u
  | [], _, _ => rfl
  | x :: u, i, h => by
    unfold keepN
    rw [if_pos (h i (Nat.le_refl _) (by simp)), keepN_all p u (i + 1) fun j h1 h2 => h j (by omega) (by simp only [List.length_cons]; omega)]
theorem keepN_sub (p : Nat → Bool) : ∀ (u : List Nat) (i : Nat), ∀ k ∈ keepN p i u, k ∈ u
  | [], _, k, h => h
  | x :: u, i, k, h => by
    unfold keepN at h
    split at h
    · rcases List.mem_cons.mp h with rfl | h
      · exact List.mem_cons_self
      · exact List.mem_cons_of_mem _ (keepN_sub p u _ k h)
    · exact List.mem_cons_of_mem _ (keepN_sub p u _ k h)
theorem keepN_len (p : Nat → Bool) : ∀ (u : List Nat) (i : Nat), (keepN p i u).length ≤ u.length
  | [], _ => Nat.le_refl _
  | x :: u, i => by
    have := keepN_len p u (i + 1)
    unfold keepN
    split <;> simp only [List.length_cons] <;> omega
/-- a word without two of its steps -/
def leftN (s : List Nat) (a b : Nat) : List Nat := keepN (fun i => !decide (i = a ∨ i = b)) 0 s
theorem leftN_range (s : List Nat) (a b : Nat) : leftN s a b = ((List.range s.length).filter fun i => !decide (i = a ∨ i = b)).map fun i => s.getD i 0 := by
  unfold leftN
  rw [keepN_eq, List.range_eq_range']
  rfl
theorem split2 {s : List Nat} {a b : Nat} (hab : a < b) (hb : b < s.length) : s = s.take a ++ s.getD a 0 :: ((s.drop (a + 1)).take (b - (a + 1)) ++ s.getD b 0 :: s.drop (b + 1)) := by
  have ha : a < s.length := by omega
  have e1 : s = s.take a ++ s.getD a 0 :: s.drop (a + 1) := by rw [getD_at ha, ← List.drop_eq_getElem_cons ha, List.take_append_drop]
  have e2 : s.drop (a + 1) = (s.drop (a + 1)).take (b - (a + 1)) ++ s.getD b 0 :: s.drop (b + 1) := by
    conv => lhs; rw [← List.take_append_drop (b - (a + 1)) (s.drop (a + 1))]
    rw [List.drop_drop, show a + 1 + (b - (a + 1)) = b by omega, List.drop_eq_getElem_cons hb, getD_at hb]
  rw [← e2]
  exact e1
theorem leftN_eq {s : List Nat} {a b : Nat} (hab : a < b) (hb : b < s.length) : leftN s a b = s.take a ++ ((s.drop (a + 1)).take (b - (a + 1)) ++ s.drop (b + 1)) := by
  have la : (s.take a).length = a := by rw [List.length_take]; omega
  have lb : ((s.drop (a + 1)).take (b - (a + 1))).length = b - (a + 1) := by rw [List.length_take, List.length_drop]; omega
  have e := split2 hab hb
  unfold leftN
  conv => lhs; rw [e]
  rw [keepN_app, la, Nat.zero_add, keepN_all _ (s.take a) 0 fun j h1 h2 => by simp; omega]
  congr 1
  show (if (!decide (a = a ∨ a = b)) = true then _ else keepN _ (a + 1) _) = _
  rw [if_neg (by simp), keepN_app, lb, show a + 1 + (b - (a + 1)) = b by omega, keepN_all _ _ (a + 1) fun j h1 h2 => by rw [lb] at h2; simp; omega]
  congr 1
  show (if (!decide (b = a ∨ b = b)) = true then _ else keepN _ (b + 1) _) = _
  rw [if_neg (by simp), keepN_all _ _ (b + 1) fun j h1 h2 => by simp; omega]
theorem leftN_len {s : List Nat} {a b : Nat} (hab : a < b) (hb : b < s.length) : (leftN s a b).length + 2 = s.length := by
  rw [leftN_eq hab hb]
  simp only [List.length_append, List.length_take, List.length_drop]
  omega
theorem leftN_word {n : Nat} {s : List Nat} {a b : Nat} (h : Word n s) : Word n (leftN s a b) := h.sub (keepN_sub _ _ _)
/-- the order ahead of a step -/
def preN (n : Nat) (s : List Nat) (b : Nat) : List Nat := ledN (List.range n) (s.take b)
theorem preN_len (n : Nat) (s : List Nat) (b : Nat) : (preN n s b).length = n := by unfold preN; rw [ledN_len, List.length_range]
theorem take_word {n : Nat} {s : List Nat} (h : Word n s) (b : Nat) : Word n (s.take b) := h.sub fun k hk => List.mem_of_mem_take hk
theorem drop_word {n : Nat} {s : List Nat} (h : Word n s) (b : Nat) : Word n (s.drop b) := h.sub fun k hk => List.mem_of_mem_drop hk
theorem preN_nd {n : Nat} {s : List Nat} (h : Word n s) (b : Nat) : (preN n s b).Nodup := nd_led List.nodup_range (by rw [List.length_range]; exact take_word h b)
theorem preN_succ {n : Nat} {s : List Nat} {b : Nat} (hb : b < s.length) : preN n s (b + 1) = stN (preN n s b) (s.getD b 0) := by
  unfold preN
  rw [List.take_succ_eq_append_getElem hb, ledN_app, getD_at hb]
  rfl
theorem step_lt {n : Nat} {s : List Nat} (h : Word n s) {b : Nat} (hb : b < s.length) : s.getD b 0 + 1 < n := by
  rw [getD_at hb]
  exact h _ (List.getElem_mem hb)
def lowN (n : Nat) (s : List Nat) (b : Nat) : Bool := decide ((preN n s b).getD (s.getD b 0 + 1) 0 < (preN n s b).getD (s.getD b 0) 0)
def sameN (n : Nat) (s : List Nat) (b a : Nat) : Bool := same2 ((preN n s a).getD (s.getD a 0) 0) ((preN n s a).getD (s.getD a 0 + 1) 0) ((preN n s b).getD (s.getD b 0) 0) ((preN n s b).getD (s.getD b 0 + 1) 0)
theorem left_same {n : Nat} {s : List Nat} {a b : Nat} (h : Word n s) (hab : a < b) (hb : b < s.length) : ledN (List.range n) (leftN s a b) = ledN (List.range n) s ↔ sameN n s b a = true := by
  have ha : a < s.length := by omega
  have wB : Word n ((s.drop (a + 1)).take (b - (a + 1))) := (drop_word h _).sub fun k hk => List.mem_of_mem_take hk
  have lp := preN_len n s a
  have eq : preN n s b = ledN (stN (preN n s a) (s.getD a 0)) ((s.drop (a + 1)).take (b - (a + 1))) := by
    rw [← preN_succ ha]
    unfold preN
    rw [← ledN_app]
    congr 1
    conv => lhs; rw [show b = (a + 1) + (b - (a + 1)) by omega, List.take_add]
  have key := two_out (p := preN n s a) (B := (s.drop (a + 1)).take (b - (a + 1))) (s := s.getD a 0) (t := s.getD b 0) (preN_nd h a) (by rw [lp]; exact step_lt h ha) (by rw [lp]; exact step_lt h hb) (by rwa [lp])
  rw [← eq] at key
  have e1 : ledN (List.range n) (leftN s a b) = ledN (ledN (preN n s a) ((s.drop (a + 1)).take (b - (a + 1)))) (s.drop (b + 1)) := by
    rw [leftN_eq hab hb, ledN_app, ledN_app]
    rfl
  have e2 : ledN (List.range n) s = ledN (stN (preN n s b) (s.getD b 0)) (s.drop (b + 1)) := by
    rw [← preN_succ hb]
    unfold preN
    rw [← ledN_app, List.take_append_drop]
  rw [e1, e2]
  unfold sameN
  rw [← key]
  constructor
  · intro e
    refine ledN_inj (s := s.drop (b + 1)) ?_ ?_ e
    · rw [ledN_len, lp]
      exact drop_word h _
    · rw [ledN_len, lp, stN_len, preN_len]
  · intro e
    rw [e]
end Sw

set_option Elab.async false
set_option linter.all false
set_option maxRecDepth 100000
set_option maxHeartbeats 1000000
/-! Sw, plain laws: a step that lowers takes back an earlier one; inversions step by step. -/
namespace Sw
open PySem
/-- x stands ahead of y -/
def bef (u : List Nat) (x y : Nat) : Prop := ∃ i j, i < j ∧ j < u.length ∧ u.getD i 0 = x ∧ u.getD j 0 = y
theorem bef_step {u : List Nat} {k x y : Nat} (h : k + 1 < u.length) (hn : same2 (u.getD k 0) (u.getD (k + 1) 0) x y = false) (hb : bef u x y) : bef (stN u k) x y := by
  obtain ⟨i, j, hij, hj, rfl, rfl⟩ := hb
  have hne : ¬ (i = k ∧ j = k + 1) := by
    rintro ⟨rfl, rfl⟩
    unfold same2 at hn
    simp at hn
  refine ⟨sw k i, sw k j, ?_, by rw [stN_len]; exact sw_lt h hj, by rw [stN_at h, sw_sw], by rw [stN_at h, sw_sw]⟩
  unfold sw
  repeat' split
  all_goals omega
theorem bef_no {u : List Nat} (nd : u.Nodup) {x y : Nat} (h1 : bef u x y) (h2 : bef u y x) : False := by
  obtain ⟨i, j, hij, hj, e1, e2⟩ := h1
  obtain ⟨i2, j2, hij2, hj2, e3, e4⟩ := h2
  rw [getD_at (by omega)] at e1 e2 e3 e4
  have a := nd_inj nd (i := i) (j := j2) (by omega) (by omega) (by rw [e1, e4])
  have b := nd_inj nd (i := j) (j := i2) (by omega) (by omega) (by rw [e2, e3])
  omega
theorem bef_range {n x y : Nat} (h : x < y) (hy : y < n) : bef (List.range n) x y := by
  refine ⟨x, y, h, by simpa using hy, ?_, ?_⟩
  · rw [getD_at (by rw [List.length_range]; omega), List.getElem_range]
  · rw [getD_at (by rw [List.length_range]; omega), List.getElem_range]
theorem bef_pre {n : Nat} {s : List Nat} (h : Word n s) {x y : Nat} (h0 : bef (List.range n) x y) : ∀ b ≤ s.length, (∀ a < b, same2 ((preN n s a).getD (s.getD a 0) 0) ((preN n s a).getD (s.getD a 0 + 1) 0) x y = false) → bef (preN n s b) x y
  | 0, _, _ => h0
  | b + 1, hb, hn => by
    rw [preN_succ hb]
    exact bef_step (by rw [preN_len]; exact step_lt h hb) (hn b (Nat.lt_succ_self b)) (bef_pre h h0 b (by omega) fun a ha => hn a (by omega))
theorem same2_sym {x y u v : Nat} : same2 x y u v = same2 x y v u := by
  rw [Bool.eq_iff_iff, same2_iff, same2_iff]
  exact Or.comm
theorem preN_lt {n : Nat} {s : List Nat} (h : Word n s) (b : Nat) {x : Nat} (hx : x ∈ preN n s b) : x < n := by
  have := (ledN_perm (w := List.range n) (s := s.take b) (by rw [List.length_range]; exact take_word h b)).mem_iff.mp hx
  exact List.mem_range.mp this
theorem low_same {n : Nat} {s : List Nat} (h : Word n s) {b : Nat} (hb : b < s.length) (hl : lowN n s b = true) : ∃ a < b, sameN n s b a = true := by
  have hl := of_decide_eq_true hl
  have hs := step_lt h hb
  have lp := preN_len n s b
  apply Classical.byContradiction
  intro hc
  have hc' : ∀ a < b, sameN n s b a = false := fun a ha => by
    cases e : sameN n s b a with
    | false => rfl
    | true => exact absurd ⟨a, ha, e⟩ hc
  have hm : (preN n s b).getD (s.getD b 0) 0 < n := by
    refine preN_lt h b ?_
    rw [getD_at (by omega)]
    exact List.getElem_mem _
  have b1 : bef (preN n s b) ((preN n s b).getD (s.getD b 0 + 1) 0) ((preN n s b).getD (s.getD b 0) 0) :=
    bef_pre h (bef_range hl hm) b (by omega) fun a ha => by
      rw [same2_sym]
      exact hc' a ha
  exact bef_no (preN_nd h b) b1 ⟨_, _, Nat.lt_succ_self _, by omega, rfl, rfl⟩
/-- the first step that lowers, and the one ahead that it takes back -/
def needN (n : Nat) (s : List Nat) : Option (Nat × Nat) := ((List.range s.length).find? (lowN n s)).bind fun b => ((List.range b).find? (sameN n s b)).map fun a => (a, b)
theorem needN_some {n : Nat} {s : List Nat} {a b : Nat} (h : needN n s = some (a, b)) : a < b ∧ b < s.length ∧ lowN n s b = true ∧ sameN n s b a = true := by
  unfold needN at h
  cases e : (List.range s.length).find? (lowN n s) with
  | none => rw [e] at h; cases h
  | some b' =>
    rw [e] at h
    cases e2 : (List.range b').find? (sameN n s b') with
    | none => simp [e2] at h
    | some a' =>
      simp [e2] at h
      obtain ⟨rfl, rfl⟩ := h
      exact ⟨List.mem_range.mp (List.mem_of_find?_eq_some e2), List.mem_range.mp (List.mem_of_find?_eq_some e), List.find?_some e, List.find?_some e2⟩
theorem needN_at {n : Nat} {s : List Nat} (h : Word n s) {b : Nat} (hb : b < s.length) (h0 : ∀ j < b, lowN n s j = false) (hl : lowN n s b = true) : ∃ a, (List.range b).find? (sameN n s b) = some a ∧ needN n s = some (a, b) := by
  obtain ⟨a0, ha0, hs0⟩ := low_same h hb hl
  have e : (List.range s.length).find? (lowN n s) = some b := by
    rw [List.find?_eq_some_iff_append]
    refine ⟨hl, List.range b, (List.range' (b + 1) (s.length - (b + 1))), ?_, fun j hj => by simp [h0 j (List.mem_range.mp hj)]⟩
    rw [List.range_eq_range', List.range_eq_range', show s.length = b + ((s.length - (b + 1)) + 1) by omega, ← List.range'_append_1, Nat.zero_add, List.range'_succ]
    simp
    omega
  cases e2 : (List.range b).find? (sameN n s b) with
  | none => exact absurd hs0 (by simpa using List.find?_eq_none.mp e2 a0 (List.mem_range.mpr ha0))
  | some a =>
    refine ⟨a, rfl, ?_⟩
    unfold needN
    rw [e]
    show ((List.range b).find? (sameN n s b)).map _ = _
    rw [e2]
    rfl
theorem needN_none {n : Nat} {s : List Nat} (h0 : ∀ j < s.length, lowN n s j = false) : needN n s = none := by
  have : (List.range s.length).find? (lowN n s) = none := List.find?_eq_none.mpr fun j hj => by simp [h0 j (List.mem_range.mp hj)]
  unfold needN
  rw [this]
  rfl
theorem needN_none' {n : Nat} {s : List Nat} (h : Word n s) (e : needN n s = none) : ∀ j < s.length, lowN n s j = false := by
  intro j
  induction j using Nat.strongRecOn with
  | ind j ih =>
    intro hj
    cases q : lowN n s j with
    | false => rfl
    | true =>
      obtain ⟨a, _, e2⟩ := needN_at h hj (fun i hi => ih i hi (by omega)) q
      rw [e] at e2
      cases e2
/-! ### inversions -/
def invL : List Nat → Nat
  | [] => 0
  | x :: r => (r.filter fun y => decide (y < x)).length + invL r
theorem invL_swap {x y : Nat} (hne : x < y) : ∀ (a r : List Nat), invL (a ++ y :: x :: r) = invL (a ++ x :: y :: r) + 1
  | [], r => by
    show invL (y :: x :: r) = invL (x :: y :: r) + 1
    unfold invL invL
    rw [List.filter_cons_of_pos (by simpa using hne), List.filter_cons_of_neg (by simp; omega), List.length_cons]
    omega
  | z :: a, r => by
    show (List.filter _ (a ++ y :: x :: r)).length + invL (a ++ y :: x :: r) = (List.filter _ (a ++ x :: y :: r)).length + invL (a ++ x :: y :: r) + 1
    have p : (a ++ y :: x :: r).Perm (a ++ x :: y :: r) := (List.Perm.swap ..).append_left a
    rw [(p.filter _).length_eq, invL_swap hne a r]
    omega
theorem cut2 {w : List Nat} {k : Nat} (h : k + 1 < w.length) : w = w.take k ++ (w.getD k 0 :: w.getD (k + 1) 0 :: w.drop (k + 2)) ∧ stN w k = w.take k ++ (w.getD (k + 1) 0 :: w.getD k 0 :: w.drop (k + 2)) := by
  refine ⟨?_, by rw [← stN_eq h]; simp⟩
  conv => lhs; rw [← List.take_append_drop k w]
  congr 1
  rw [List.drop_eq_getElem_cons (show k < w.length by omega), List.drop_eq_getElem_cons h, getD_at (show k < w.length by omega), getD_at h]
theorem invL_up {w : List Nat} {k : Nat} (h : k + 1 < w.length) (hu : w.getD k 0 < w.getD (k + 1) 0) : invL (stN w k) = invL w + 1 := by
  obtain ⟨e1, e2⟩ := cut2 h
  conv => rhs; rw [e1]
  rw [e2, invL_swap hu]
theorem invL_down {w : List Nat} {k : Nat} (h : k + 1 < w.length) (hu : w.getD (k + 1) 0 < w.getD k 0) : invL (stN w k) + 1 = invL w := by
  obtain ⟨e1, e2⟩ := cut2 h
  conv => rhs; rw [e1]
  rw [e2, invL_swap hu]
theorem invL_range' : ∀ (n a : Nat), invL (List.range' a n) = 0
  | 0, _ => rfl
  | n + 1, a => by
    rw [List.range'_succ]
    unfold invL
    rw [invL_range' n (a + 1), List.filter_eq_nil_iff.mpr fun y hy => by
      have := (List.mem_range'_1.mp hy).1
      simp
      omega]
    rfl
theorem inv_pre {n : Nat} {s : List Nat} (h : Word n s) : ∀ b ≤ s.length, invL (preN n s b) ≤ b ∧ (invL (preN n s b) = b ↔ ∀ j < b, lowN n s j = false)
  | 0, _ => by
    have : invL (preN n s 0) = 0 := by
      show invL (List.range n) = 0
      rw [List.range_eq_range']
      exact invL_range' n 0
    exact ⟨by omega, ⟨fun _ j hj => absurd hj (Nat.not_lt_zero _), fun _ => this⟩⟩
  | b + 1, hb => by
    obtain ⟨i1, i2⟩ := inv_pre h b (by omega)
    have hs := step_lt h hb
    have lp := preN_len n s b
    have hne := getD_ne (preN_nd h b) (show s.getD b 0 + 1 < (preN n s b).length by omega)
    rw [preN_succ hb]
    cases hl : lowN n s b with
    | true =>
      have := invL_down (show s.getD b 0 + 1 < (preN n s b).length by omega) (of_decide_eq_true hl)
      refine ⟨by omega, fun e => by omega, fun q => ?_⟩
      rw [q b (Nat.lt_succ_self b)] at hl
      cases hl
    | false =>
      have hl := of_decide_eq_false hl
      have := invL_up (show s.getD b 0 + 1 < (preN n s b).length by omega) (by omega)
      refine ⟨by omega, fun e j hj => ?_, fun q => ?_⟩
      · by_cases hjb : j = b
        · subst hjb
          exact decide_eq_false hl
        · exact i2.mp (by omega) j (by omega)
      · rw [this, i2.mpr fun j hj => q j (by omega)]
theorem need_short {n : Nat} {s : List Nat} (h : Word n s) : needN n s = none ↔ invL (ledN (List.range n) s) = s.length := by
  have e : preN n s s.length = ledN (List.range n) s := by unfold preN; rw [List.take_length]
  have := (inv_pre h s.length (Nat.le_refl _)).2
  rw [e] at this
  rw [this]
  exact ⟨fun q => needN_none' h q, fun q => needN_none q⟩
/-- the pairs of places and the items -/
theorem invN_len (w : List Nat) : (invN w).length = invL w := by
  have key : ∀ (v : List Nat) (a : Nat) (u : Nat → Nat), (∀ i, i < v.length → u (a + i) = v.getD i 0) → ((List.range' a v.length).flatMap fun i => (List.range' (i + 1) (a + v.length - (i + 1))).filter fun j => decide (u j < u i)).length = invL v := by
    intro v
    induction v with
    | nil => intros; rfl
    | cons x r ih =>
      intro a u hu
      rw [List.length_cons, List.range'_succ, List.flatMap_cons, List.length_append]
      have h1 := ih (a + 1) u fun i hi => by
        rw [show a + 1 + i = a + (i + 1) by omega, hu (i + 1) (by simp; omega)]
        rfl
      rw [show a + 1 + r.length = a + (r.length + 1) by omega] at h1
      rw [h1]
      show _ = (r.filter fun y => decide (y < x)).length + invL r
      congr 1
      have hx : u a = x := by simpa using hu 0 (by simp)
      have hr : (List.range' (a + 1) (a + (r.length + 1) - (a + 1))).map u = r := by
        rw [show a + (r.length + 1) - (a + 1) = r.length by omega]
        refine List.ext_getElem (by simp) fun i h1 h2 => ?_
        rw [List.getElem_map, List.getElem_range', Nat.one_mul, show a + 1 + i = a + (i + 1) by omega, hu (i + 1) (by simpa using h2)]
        show r.getD i 0 = _
        rw [getD_at h2]
      rw [hx]
      conv => rhs; rw [← hr]
      rw [List.filter_map, List.length_map]
      rfl
  have e := key w 0 (fun i => w.getD i 0) fun i hi => by rw [Nat.zero_add]
  rw [← e]
  unfold invN pairsN
  rw [List.filter_flatMap, List.range_eq_range', Nat.zero_add, List.length_flatMap, List.length_flatMap]
  congr 1
  refine List.map_congr_left fun i _ => ?_
  rw [List.filter_map, List.length_map]
  rfl
/-! ### made shorter -/
def shrinkN (n : Nat) (s : List Nat) : List Nat := match needN n s with
  | none => s
  | some (a, b) => if (leftN s a b).length < s.length then shrinkN n (leftN s a b) else s
termination_by s.length
theorem shrink_none {n : Nat} {s : List Nat} (h : needN n s = none) : shrinkN n s = s := by
  rw [shrinkN, h]
theorem shrink_some {n : Nat} {s : List Nat} {a b : Nat} (h : needN n s = some (a, b)) : shrinkN n s = shrinkN n (leftN s a b) := by
  obtain ⟨h1, h2, _⟩ := needN_some h
  rw [shrinkN, h]
  have := leftN_len h1 h2
  dsimp only
  rw [if_pos (by omega)]
theorem left_goal {n : Nat} {s : List Nat} {a b : Nat} (hw : Word n s) (h : needN n s = some (a, b)) : ledN (List.range n) (leftN s a b) = ledN (List.range n) s := by
  obtain ⟨h1, h2, _, h3⟩ := needN_some h
  exact (left_same hw h1 h2).mpr h3
theorem shrink_ok {n : Nat} : ∀ {m : Nat} {s : List Nat}, s.length ≤ m → Word n s → Word n (shrinkN n s) ∧ needN n (shrinkN n s) = none ∧ ledN (List.range n) (shrinkN n s) = ledN (List.range n) s ∧ (shrinkN n s).length ≤ s.length
  | m, s, hm, hw => by
    cases h : needN n s with
    | none =>
      rw [shrink_none h]
      exact ⟨hw, h, rfl, Nat.le_refl _⟩
    | some p =>
      obtain ⟨a, b⟩ := p
      obtain ⟨h1, h2, _⟩ := needN_some h
      have hl := leftN_len h1 h2
      match m with
      | 0 => omega
      | m + 1 =>
        obtain ⟨r1, r2, r3, r4⟩ := shrink_ok (m := m) (show (leftN s a b).length ≤ m by omega) (leftN_word hw)
        rw [shrink_some h]
        exact ⟨r1, r2, r3.trans (left_goal hw h), by omega⟩
end Sw

set_option Elab.async false
set_option linter.all false
set_option maxRecDepth 100000
set_option maxHeartbeats 1000000
/-! Sw, plain laws: numbers of orders. -/
namespace Sw
open PySem
def facN : Nat → Nat
  | 0 => 1
  | n + 1 => facN n * (n + 1)
theorem facN_pos : ∀ n, 0 < facN n
  | 0 => Nat.one_pos
  | n + 1 => Nat.mul_pos (facN_pos n) (Nat.succ_pos n)
/-- the number with these digits, the place values being factorials -/
def numN : List Nat → Nat
  | [] => 0
  | x :: r => x * facN r.length + numN r
def CodeOk : List Nat → Prop
  | [] => True
  | x :: r => x ≤ r.length ∧ CodeOk r
/-- the digits of a number -/
def digN : Nat → Nat → List Nat
  | 0, _ => []
  | n + 1, m => m / facN n :: digN n (m % facN n)
theorem digN_len : ∀ n m, (digN n m).length = n
  | 0, _ => rfl
  | n + 1, m => by
    show (digN n (m % facN n)).length + 1 = n + 1
    rw [digN_len]
theorem numN_lt : ∀ {c : List Nat}, CodeOk c → numN c < facN c.length
  | [], _ => Nat.one_pos
  | x :: r, h => by
    have h2 := numN_lt h.2
    show x * facN r.length + numN r < facN r.length * (r.length + 1)
    have : x * facN r.length ≤ r.length * facN r.length := Nat.mul_le_mul_right _ h.1
    rw [Nat.mul_succ, Nat.mul_comm (facN r.length)]
    omega
theorem digN_numN : ∀ {c : List Nat}, CodeOk c → digN c.length (numN c) = c
  | [], _ => rfl
  | x :: r, h => by
    have h2 := numN_lt h.2
    have hp := facN_pos r.length
    show (x * facN r.length + numN r) / facN r.length :: digN r.length ((x * facN r.length + numN r) % facN r.length) = x :: r
    rw [Nat.mul_comm x, Nat.mul_add_div hp, Nat.div_eq_of_lt h2, Nat.add_zero, Nat.mul_add_mod, Nat.mod_eq_of_lt h2, digN_numN h.2]
theorem digN_ok : ∀ {n m : Nat}, m < facN n → CodeOk (digN n m) ∧ numN (digN n m) = m
  | 0, m, h => ⟨trivial, by
    have : m < 1 := h
    show 0 = m
    omega⟩
  | n + 1, m, h => by
    have hp := facN_pos n
    obtain ⟨h1, h2⟩ := digN_ok (Nat.mod_lt m hp)
    refine ⟨⟨?_, h1⟩, ?_⟩
    · rw [digN_len]
      have : m / facN n < n + 1 := Nat.div_lt_of_lt_mul h
      omega
    · show m / facN n * facN (digN n (m % facN n)).length + numN (digN n (m % facN n)) = m
      rw [h2, digN_len, Nat.mul_comm]
      exact Nat.div_add_mod m (facN n)
theorem codeOk_iff : ∀ {c : List Nat}, CodeOk c ↔ ∀ i (h : i < c.length), c[i] + i + 1 ≤ c.length
  | [] => ⟨fun _ i h => absurd h (Nat.not_lt_zero _), fun _ => trivial⟩
  | x :: r => by
    constructor
    · rintro ⟨h1, h2⟩ i hi
      cases i with
      | zero => show x + 0 + 1 ≤ r.length + 1; omega
      | succ i =>
        have := codeOk_iff.mp h2 i (by simpa using hi)
        show r[i]'(by simpa using hi) + (i + 1) + 1 ≤ r.length + 1
        omega
    · intro h
      refine ⟨?_, codeOk_iff.mpr fun i hi => ?_⟩
      · have := h 0 (by simp)
        have : x + 0 + 1 ≤ r.length + 1 := this
        omega
      · have := h (i + 1) (by simpa using hi)
        have : r[i] + (i + 1) + 1 ≤ r.length + 1 := this
        omega
theorem codeN_ok (w : List Nat) : CodeOk (codeN w) := codeOk_iff.mpr fun i h => by
  have := codeN_at h
  rwa [codeN_len]
/-- the number of an order -/
def ordNum (w : List Nat) : Nat := numN (codeN w)
theorem ordNum_lt (w : List Nat) : ordNum w < facN w.length := by
  have := numN_lt (codeN_ok w)
  rwa [codeN_len] at this
theorem dig_ordNum (w : List Nat) : digN w.length (ordNum w) = codeN w := by
  have := digN_numN (codeN_ok w)
  rwa [codeN_len] at this
/-- one item more, at each order -/
def growN (n : Nat) (found : List (List Nat)) : List (List Nat) := found.flatMap fun o => ((List.range n).filter fun i => !decide (i ∈ o)).map fun i => o ++ [i]
def growsN (n : Nat) : Nat → List (List Nat)
  | 0 => [[]]
  | k + 1 => growN n (growsN n k)
/-- all orders, ascending -/
def ordsN (n : Nat) : List (List Nat) := growsN n n
end Sw

set_option Elab.async false
set_option linter.all false
set_option maxRecDepth 100000
set_option maxHeartbeats 1000000
namespace Sw
open PySem
def okAll (n : Nat) : Bool := (ordsN n).zipIdx.all fun p => Nat.beq (ordNum p.1) p.2 && p.1.isPerm (List.range n)
theorem ok6 : okAll 6 = true := by decide +kernel
theorem ok5 : okAll 5 = true := by decide +kernel
theorem ok4 : okAll 4 = true := by decide +kernel
theorem ok3 : okAll 3 = true := by decide +kernel
theorem ok2 : okAll 2 = true := by decide +kernel
theorem ok1 : okAll 1 = true := by decide +kernel
theorem len6 : (ordsN 6).length = 720 := by decide +kernel
end Sw

set_option Elab.async false
set_option linter.all false
set_option maxRecDepth 100000
/-! Sw, plain laws: rules with conditions, for walks by simp with omega. -/
namespace Sw
open PySem
theorem c_add (a b : Nat) : (a : Int) + (b : Int) = ((a + b : Nat) : Int) := by omega
theorem c_add1 (a : Nat) : (a : Int) + 1 = ((a + 1 : Nat) : Int) := by omega
theorem c_add2 (a : Nat) : (a : Int) + 2 = ((a + 2 : Nat) : Int) := by omega
theorem c_add3 (a : Nat) : (a : Int) + 3 = ((a + 3 : Nat) : Int) := by omega
theorem c_1add (a : Nat) : (1 : Int) + (a : Int) = ((1 + a : Nat) : Int) := by omega
theorem c_2add (a : Nat) : (2 : Int) + (a : Int) = ((2 + a : Nat) : Int) := by omega
theorem c_sub {a b : Nat} (h : b ≤ a) : (a : Int) - (b : Int) = ((a - b : Nat) : Int) := by omega
theorem c_sub1 {a : Nat} (h : 1 ≤ a) : (a : Int) - 1 = ((a - 1 : Nat) : Int) := by omega
theorem c_sub2 {a : Nat} (h : 2 ≤ a) : (a : Int) - 2 = ((a - 2 : Nat) : Int) := by omega
theorem c_le (a b : Nat) : ((a : Int) ≤ (b : Int)) = (a ≤ b) := propext Int.ofNat_le
theorem c_lt (a b : Nat) : ((a : Int) < (b : Int)) = (a < b) := propext Int.ofNat_lt
theorem c_0le (a : Nat) : ((0 : Int) ≤ (a : Int)) = True := eq_true (by omega)
theorem c_1le (a : Nat) : ((1 : Int) ≤ (a : Int)) = (1 ≤ a) := propext (by omega)
theorem c_0lt (a : Nat) : ((0 : Int) < (a : Int)) = (0 < a) := propext (by omega)
theorem c_1lt (a : Nat) : ((1 : Int) < (a : Int)) = (1 < a) := propext (by omega)
theorem c_2le (a : Nat) : ((2 : Int) ≤ (a : Int)) = (2 ≤ a) := propext (by omega)
theorem c_le8 (a : Nat) : ((a : Int) ≤ 8) = (a ≤ 8) := propext (by omega)
theorem c_eq (a b : Nat) : ((a : Int) = (b : Int)) = (a = b) := propext Int.ofNat_inj
theorem c_eq0 (a : Nat) : ((a : Int) = 0) = (a = 0) := propext (by omega)
theorem c_eq1 (a : Nat) : ((a : Int) = 1) = (a = 1) := propext (by omega)
theorem getN {w : List Nat} {i : Nat} (h : i < w.length) : (w.map nD)[i]? = some (nD (w.getD i 0)) := getD_map nD h
theorem sizeT {n : Nat} (h : n ≤ 1000000) : (n ≤ sizeLine) = True := eq_true (le_size h)
theorem ifT {α : Type} {c : Prop} [Decidable c] {a b : α} (h : c) : (if c then a else b) = a := if_pos h
theorem ifF {α : Type} {c : Prop} [Decidable c] {a b : α} (h : ¬ c) : (if c then a else b) = b := if_neg h
theorem ifTP {c : Prop} [Decidable c] {a b : Prop} (h : c) : (if c then a else b) = a := if_pos h
theorem ifFP {c : Prop} [Decidable c] {a b : Prop} (h : ¬ c) : (if c then a else b) = b := if_neg h
theorem guardT {b : Prop} [Decidable b] {st : Store} {Q : Unit → Store → Prop} {X : Str → List (Str × D) → Store → Prop} (h : b) : Wp (M.guard (decide b)) st Q X = Q () st := by
  rw [wp_guard, decide_eq_true h]
  simp
theorem sliceTo {i : Nat} (ds : List D) : sliceD none (some (i : Int)) (.tup ds) = some (.tup (ds.take i)) := slice_to ds
theorem sliceFrom {i : Nat} (ds : List D) : sliceD (some (i : Int)) none (.tup ds) = some (.tup (ds.drop i)) := slice_from rfl ds
theorem keyD_int (i : Int) : keyD false (.int i) = some (.inl (.inl i)) := rfl
theorem dctD_dct (t : Bool) (kvs : List (Ky × D)) : dctD (.dct t kvs) = some (t, kvs) := rfl
theorem get2_eq (t : Bool) (kvs : List (Ky × D)) (y x : D) : get2D (t, kvs) y x = (keyD t y).map fun k => (getY kvs k).getD x := rfl
theorem gY_nil {k : Ky} : getY [] k = none := rfl
theorem gY_cons (p : Ky × D) (r : List (Ky × D)) (k : Ky) : getY (p :: r) k = if p.1 = k then some p.2 else getY r k := by
  unfold getY
  rw [List.find?_cons]
  by_cases e : p.1 = k
  · simp [e]
  · simp [e]
abbrev kI (i : Int) : Ky := .inl (.inl i)
/-- keys that are new, one after the other -/
theorem dctP_new {α : Type} (kf : α → Int) (v : α → D) : ∀ (xs : List α) (acc : List (Ky × D)), (xs.map kf).Nodup → (∀ x ∈ xs, ∀ p ∈ acc, p.1 ≠ kI (kf x)) →
    dctP false (xs.map fun x => .tup [.int (kf x), v x]) acc = some (acc ++ xs.map fun x => (kI (kf x), v x))
  | [], acc, _, _ => by
    rw [List.map_nil, List.map_nil, List.append_nil]
    rfl
  | x :: xs, acc, nd, h => by
    rw [List.map_cons, List.nodup_cons] at nd
    show dctP false (xs.map _) (putY acc (kI (kf x)) (v x)) = _
    have e : putY acc (kI (kf x)) (v x) = acc ++ [(kI (kf x), v x)] := by
      unfold putY
      rw [if_neg]
      rw [Bool.not_eq_true, List.any_eq_false]
      intro p hp
      rw [decide_eq_true_eq]
      exact h x List.mem_cons_self p hp
    rw [e, dctP_new kf v xs _ nd.2 fun y hy p hp => ?_, List.append_assoc]
    · rfl
    · rcases List.mem_append.mp hp with hp | hp
      · exact h y (List.mem_cons_of_mem _ hy) p hp
      · rw [List.mem_singleton.mp hp]
        intro z
        have z2 : kf x = kf y := Sum.inl.inj (Sum.inl.inj z)
        exact nd.1 (z2 ▸ List.mem_map_of_mem hy)
theorem getY_map {α : Type} (kf : α → Int) (v : α → D) : ∀ {xs : List α}, (xs.map kf).Nodup → ∀ {x : α}, x ∈ xs → getY (xs.map fun x => (kI (kf x), v x)) (kI (kf x)) = some (v x)
  | [], _, x, h => absurd h (by simp)
  | y :: xs, nd, x, h => by
    rw [List.map_cons, List.nodup_cons] at nd
    rw [List.map_cons, gY_cons]
    rcases List.mem_cons.mp h with z | h
    · rw [z, if_pos rfl]
    · rw [if_neg fun z => nd.1 ((Sum.inl.inj (Sum.inl.inj z) : kf y = kf x) ▸ List.mem_map_of_mem h)]
      exact getY_map kf v nd.2 h
theorem dct_item {kvs : List (Ky × D)} (i : Int) : itemD (.dct false kvs) (.int i) = getY kvs (.inl (.inl i)) := rfl
/-- a walk's guard on a list's length -/
theorem size_lt {n : Nat} (h : n < 1000000) : (n < sizeLine) = True := eq_true (Nat.lt_of_lt_of_le h (le_size (Nat.le_refl _)))
theorem guardL {n : Nat} {st : Store} {Q : Unit → Store → Prop} {X : Str → List (Str × D) → Store → Prop} (h : n < 1000000) : Wp (M.guard (decide (n < sizeLine))) st Q X = Q () st := guardT (Nat.lt_of_lt_of_le h (le_size (Nat.le_refl _)))
end Sw

set_option Elab.async false
set_option linter.all false
set_option maxRecDepth 100000
/-! Sw, plain laws: items exchanged, first words. -/
namespace Sw
open PySem
/-- the steps with which a short word may begin -/
def aheadN (w : List Nat) : List Nat := (List.range (w.length - 1)).filter fun k => decide (w.idxOf (k + 1) < w.idxOf k)
/-- the items k and k + 1 exchanged -/
def exchN (w : List Nat) (k : Nat) : List Nat := w.map (sx k (k + 1))
def firstF : Nat → List Nat → List Nat
  | 0, _ => []
  | m + 1, w => match aheadN w with
    | [] => []
    | k :: _ => k :: firstF m (exchN w k)
/-- the first short word -/
def firstW (w : List Nat) : List Nat := firstF (invL w) w
theorem exchN_len (w : List Nat) (k : Nat) : (exchN w k).length = w.length := by unfold exchN; simp
theorem sx_range {n k : Nat} (h : k + 1 < n) : (List.range n).map (sx k (k + 1)) = stN (List.range n) k := by
  have := stN_sx (w := List.range n) (k := k) List.nodup_range (by simpa using h)
  rw [this]
  congr 2
  · rw [getD_at (by simpa using by omega)]; simp
  · rw [getD_at (by simpa using by omega)]; simp
theorem IsOrder.exch {w : List Nat} (h : IsOrder w) {k : Nat} (hk : k + 1 < w.length) : IsOrder (exchN w k) := by
  refine ⟨?_, by rw [exchN_len]; exact h.pos, by rw [exchN_len]; exact h.most⟩
  have h1 : (exchN w k).Perm ((List.range w.length).map (sx k (k + 1))) := h.perm.map _
  rw [exchN_len]
  refine h1.trans ?_
  rw [sx_range hk]
  exact stN_perm (by simpa using hk)
theorem ahead_lt {w : List Nat} {k : Nat} (h : k ∈ aheadN w) : k + 1 < w.length ∧ w.idxOf (k + 1) < w.idxOf k := by
  unfold aheadN at h
  rw [List.mem_filter, List.mem_range, decide_eq_true_eq] at h
  omega
/-- inversions are kept by what keeps the order of the items -/
theorem invL_map {f : Nat → Nat} : ∀ {r : List Nat}, (∀ x ∈ r, ∀ y ∈ r, (f y < f x ↔ y < x)) → invL (r.map f) = invL r
  | [], _ => rfl
  | x :: r, h => by
    have ih := invL_map (f := f) (r := r) fun a ha b hb => h a (List.mem_cons_of_mem _ ha) b (List.mem_cons_of_mem _ hb)
    show (((r.map f).filter fun y => decide (y < f x)).length) + invL (r.map f) = (r.filter fun y => decide (y < x)).length + invL r
    rw [ih, List.filter_map, List.length_map]
    congr 2
    refine List.filter_congr fun y hy => ?_
    exact decide_eq_decide.mpr (h x List.mem_cons_self y (List.mem_cons_of_mem _ hy))
theorem invL_exch {k : Nat} : ∀ {w : List Nat}, w.Nodup → k ∈ w → k + 1 ∈ w → w.idxOf (k + 1) < w.idxOf k → invL (w.map (sx k (k + 1))) + 1 = invL w
  | [], _, h, _, _ => absurd h (by simp)
  | x :: r, nd, h1, h2, hlt => by
    rw [List.nodup_cons] at nd
    show ((r.map (sx k (k + 1))).filter fun y => decide (y < sx k (k + 1) x)).length + invL (r.map (sx k (k + 1))) + 1 = (r.filter fun y => decide (y < x)).length + invL r
    rw [List.filter_map, List.length_map]
    by_cases e1 : x = k
    · subst e1
      rw [List.idxOf_cons_self] at hlt
      omega
    · by_cases e2 : x = k + 1
      · subst e2
        have hk : k ∈ r := by
          rcases List.mem_cons.mp h1 with z | z
          · omega
          · exact z
        have e3 : sx k (k + 1) (k + 1) = k := by unfold sx; rw [if_neg (by omega), if_pos rfl]
        have hm : invL (r.map (sx k (k + 1))) = invL r := invL_map fun a ha b hb => by
          have na : a ≠ k + 1 := fun z => nd.1 (z ▸ ha)
          have nb : b ≠ k + 1 := fun z => nd.1 (z ▸ hb)
          unfold sx
          rw [if_neg na, if_neg nb]
          split <;> split <;> omega
        rw [hm, e3]
        have c1 : (r.filter ((fun y => decide (y < k)) ∘ sx k (k + 1))).length = (r.filter fun y => decide (y < k)).length := by
          congr 1
          refine List.filter_congr fun y hy => decide_eq_decide.mpr ?_
          have ny : y ≠ k + 1 := fun z => nd.1 (z ▸ hy)
          unfold sx
          rw [if_neg ny]
          split <;> omega
        have c2 : ∀ {l : List Nat}, l.Nodup → k ∈ l → (l.filter fun y => decide (y < k + 1)).length = (l.filter fun y => decide (y < k)).length + 1 := by
          intro l
          induction l with
          | nil => intro _ h; exact absurd h (by simp)
          | cons y l ih =>
            intro ndl hl
            rw [List.nodup_cons] at ndl
            by_cases hy : y = k
            · subst hy
              rw [List.filter_cons_of_pos (by simp), List.filter_cons_of_neg (by simp), List.length_cons]
              congr 2
              refine List.filter_congr fun z hz => decide_eq_decide.mpr ?_
              have : z ≠ y := fun q => ndl.1 (q ▸ hz)
              omega
            · have hl2 : k ∈ l := by
                rcases List.mem_cons.mp hl with z | z
                · exact absurd z.symm hy
                · exact z
              have := ih ndl.2 hl2
              by_cases hlt : y < k
              · rw [List.filter_cons_of_pos (by simp; omega), List.filter_cons_of_pos (by simpa using hlt), List.length_cons, List.length_cons, this]
              · rw [List.filter_cons_of_neg (by simp; omega), List.filter_cons_of_neg (by simpa using hlt), this]
        rw [c1, c2 nd.2 hk]
        omega
      · have m1 : k ∈ r := (List.mem_cons.mp h1).resolve_left (Ne.symm e1)
        have m2 : k + 1 ∈ r := (List.mem_cons.mp h2).resolve_left (Ne.symm e2)
        have j1 : (x :: r).idxOf k = r.idxOf k + 1 := by rw [List.idxOf_cons, show (x == k) = false from beq_eq_false_iff_ne.mpr e1]; rfl
        have j2 : (x :: r).idxOf (k + 1) = r.idxOf (k + 1) + 1 := by rw [List.idxOf_cons, show (x == k + 1) = false from beq_eq_false_iff_ne.mpr e2]; rfl
        rw [j1, j2] at hlt
        have ih := invL_exch nd.2 m1 m2 (by omega)
        have e3 : sx k (k + 1) x = x := by unfold sx; rw [if_neg e1, if_neg e2]
        rw [e3]
        have c1 : (r.filter ((fun y => decide (y < x)) ∘ sx k (k + 1))).length = (r.filter fun y => decide (y < x)).length := by
          congr 1
          refine List.filter_congr fun y hy => decide_eq_decide.mpr ?_
          unfold sx
          split
          · omega
          · split <;> omega
        rw [c1]
        omega
theorem invL_ahead {w : List Nat} (h : IsOrder w) {k : Nat} (hk : k ∈ aheadN w) : invL (exchN w k) + 1 = invL w := by
  obtain ⟨h1, h2⟩ := ahead_lt hk
  exact invL_exch h.nd (h.mem (by omega)) (h.mem h1) h2
theorem idx_at {w : List Nat} (h : IsOrder w) {k : Nat} (hk : k < w.length) : w.idxOf k < w.length ∧ w.getD (w.idxOf k) 0 = k := by
  have h1 := List.idxOf_lt_length_of_mem (h.mem hk)
  refine ⟨h1, ?_⟩
  rw [getD_at h1]
  exact List.getElem_idxOf h1
theorem ahead_nil {w : List Nat} (h : IsOrder w) : aheadN w = [] ↔ w = List.range w.length := by
  constructor
  · intro e
    have up : ∀ k, k + 1 < w.length → w.idxOf k < w.idxOf (k + 1) := fun k hk => by
      have h1 : k ∉ aheadN w := by rw [e]; simp
      unfold aheadN at h1
      rw [List.mem_filter, List.mem_range, decide_eq_true_eq] at h1
      have h2 : ¬ w.idxOf (k + 1) < w.idxOf k := fun z => h1 ⟨by omega, z⟩
      have h3 : w.idxOf k ≠ w.idxOf (k + 1) := fun z => by
        have a1 := (idx_at h (show k < w.length by omega)).2
        have a2 := (idx_at h hk).2
        rw [z, a2] at a1
        omega
      omega
    have lo : ∀ k, k < w.length → k ≤ w.idxOf k := by
      intro k
      induction k with
      | zero => intro _; exact Nat.zero_le _
      | succ k ih => intro hk; have := ih (by omega); have := up k hk; omega
    have hi : ∀ d k, k + d + 1 = w.length → w.idxOf k + d + 1 ≤ w.length := by
      intro d
      induction d with
      | zero => intro k hk; have := (idx_at h (show k < w.length by omega)).1; omega
      | succ d ih => intro k hk; have := ih (k + 1) (by omega); have := up k (by omega); omega
    refine ext_getD (by simp) fun i hi' => ?_
    have e1 : w.idxOf i = i := by
      have := lo i hi'
      have := hi (w.length - 1 - i) i (by omega)
      omega
    have := (idx_at h hi').2
    rw [e1] at this
    rw [this, getD_at (by simpa using hi')]
    simp
  · intro e
    refine List.filter_eq_nil_iff.mpr fun k hk => ?_
    rw [List.mem_range] at hk
    have g : ∀ i, i < w.length → w.getD i 0 = i := fun i hi => by
      rw [e, getD_at (by rw [List.length_range]; exact hi)]
      simp
    have i1 : ∀ j, j < w.length → w.idxOf j = j := fun j hj => by
      obtain ⟨a1, a2⟩ := idx_at h hj
      rw [g _ a1] at a2
      exact a2
    rw [decide_eq_true_eq, i1 k (by omega), i1 (k + 1) (by omega)]
    omega
theorem invL_zero {w : List Nat} (h : IsOrder w) (e : invL w = 0) : w = List.range w.length := by
  refine (ahead_nil h).mp ?_
  cases q : aheadN w with
  | nil => rfl
  | cons k r =>
    have := invL_ahead h (k := k) (by rw [q]; exact List.mem_cons_self)
    omega
theorem exch_twice (w : List Nat) (k : Nat) : exchN (exchN w k) k = w := by
  unfold exchN
  rw [List.map_map]
  have : sx k (k + 1) ∘ sx k (k + 1) = id := funext fun z => sx_sx k (k + 1) z
  rw [this, List.map_id]
/-- a word that begins with k -/
theorem led_cons {n k : Nat} {s : List Nat} (hk : k + 1 < n) (hs : Word n s) : ledN (List.range n) (k :: s) = exchN (ledN (List.range n) s) k := by
  rw [ledN_cons, ← sx_range hk]
  unfold exchN
  rw [ledN_map (by simpa using hs)]
theorem first_ok : ∀ {m : Nat} {w : List Nat}, IsOrder w → invL w ≤ m → Word w.length (firstF m w) ∧ ledN (List.range w.length) (firstF m w) = w ∧ (firstF m w).length = invL w
  | 0, w, h, hm => by
    have e := invL_zero h (by omega)
    refine ⟨fun k hk => absurd hk (by simp [firstF]), ?_, ?_⟩
    · show List.range w.length = w
      exact e.symm
    · show 0 = invL w
      omega
  | m + 1, w, h, hm => by
    unfold firstF
    cases q : aheadN w with
    | nil =>
      have e := (ahead_nil h).mp q
      refine ⟨fun k hk => absurd hk (by simp), e.symm, ?_⟩
      have : invL w = 0 := by
        rw [e]
        have := invL_range' w.length 0
        rwa [← List.range_eq_range'] at this
      rw [this]
      rfl
    | cons k r =>
      have hk : k ∈ aheadN w := by rw [q]; exact List.mem_cons_self
      have h1 := (ahead_lt hk).1
      have h2 := invL_ahead h hk
      obtain ⟨i1, i2, i3⟩ := first_ok (m := m) (h.exch h1) (by omega)
      rw [exchN_len] at i1 i2
      refine ⟨Word.cons.mpr ⟨h1, i1⟩, ?_, ?_⟩
      · rw [led_cons h1 i1, i2, exch_twice]
      · rw [List.length_cons, i3, h2]
theorem first_word {w : List Nat} (h : IsOrder w) : Word w.length (firstW w) ∧ ledN (List.range w.length) (firstW w) = w ∧ (firstW w).length = invL w := first_ok h (Nat.le_refl _)
theorem first_nil {w : List Nat} (h : IsOrder w) (e : aheadN w = []) (m : Nat) : firstF m w = [] := by
  cases m with
  | zero => rfl
  | succ m => unfold firstF; rw [e]
theorem first_cons {w : List Nat} (h : IsOrder w) {k : Nat} {r : List Nat} (e : aheadN w = k :: r) : firstW w = k :: firstW (exchN w k) := by
  have := invL_ahead h (k := k) (by rw [e]; exact List.mem_cons_self)
  unfold firstW
  rw [← this]
  show (match aheadN w with | [] => [] | k :: _ => k :: firstF _ (exchN w k)) = _
  rw [e]
theorem inv_le {w : List Nat} (h : IsOrder w) : invL w ≤ 64 := by
  have h1 := pairs_len w.length
  have h2 := List.length_filter_le (fun p : Nat × Nat => decide (w.getD p.2 0 < w.getD p.1 0)) (pairsN w.length)
  have h3 := invN_len w
  have h8 := h.most
  have : w.length * w.length ≤ 8 * 8 := Nat.mul_le_mul h8 h8
  unfold invN at h3
  omega
end Sw

set_option Elab.async false
set_option linter.all false
set_option maxRecDepth 100000
/-! Sw, part Br: tables of ranks; one order below another; steps that only raise, exchanges that only lower, and how they hang together. -/
namespace Sw
/-- of the first i items those that are at least j -/
def rk (w : List Nat) (i j : Nat) : Nat := ((w.take i).filter fun x => decide (j ≤ x)).length
def BelA (u w : List Nat) : Prop := ∀ i j, rk u i j ≤ rk w i j
def isBel (u w : List Nat) : Bool := (List.range w.length).all fun i => (List.range w.length).all fun j => decide (rk u (i + 1) j ≤ rk w (i + 1) j)
theorem rk_zero (w : List Nat) (j : Nat) : rk w 0 j = 0 := rfl
theorem len_filter_split (j : Nat) : ∀ l : List Nat, (l.filter fun x => decide (j ≤ x)).length = (l.filter fun x => decide (j + 1 ≤ x)).length + l.count j
  | [] => rfl
  | x :: r => by
    have ih := len_filter_split j r
    rw [List.filter_cons, List.filter_cons, List.count_cons]
    by_cases h1 : j + 1 ≤ x
    · rw [if_pos (decide_eq_true (show j ≤ x by omega)), if_pos (decide_eq_true h1), if_neg (by simp; omega), List.length_cons, List.length_cons]
      omega
    · by_cases h2 : j = x
      · subst h2
        rw [if_pos (decide_eq_true (Nat.le_refl _)), if_neg (by simp), if_pos (by simp), List.length_cons]
        omega
      · rw [if_neg (by simp; omega), if_neg (by simp; omega), if_neg (by simp; omega)]
        omega
theorem rk_col (w : List Nat) (i j : Nat) : rk w i j = rk w i (j + 1) + (w.take i).count j := len_filter_split j _
theorem rk_row {w : List Nat} {i : Nat} (h : i < w.length) (j : Nat) : rk w (i + 1) j = rk w i j + if j ≤ w.getD i 0 then 1 else 0 := by
  unfold rk
  rw [List.take_succ, List.getElem?_eq_getElem h, List.filter_append, List.length_append, getD_at h]
  congr 1
  show ([w[i]].filter _).length = _
  rw [List.filter_cons]
  by_cases q : j ≤ w[i]
  · rw [if_pos (decide_eq_true q), if_pos q]; rfl
  · rw [if_neg (by simpa using q), if_neg q]; rfl
theorem rk_big {w : List Nat} {i : Nat} (h : w.length ≤ i) (j : Nat) : rk w i j = rk w w.length j := by
  unfold rk
  rw [List.take_of_length_le h, List.take_of_length_le (Nat.le_refl _)]
theorem rk_end {u w : List Nat} (p : u.Perm w) (j : Nat) : rk u u.length j = rk w w.length j := by
  unfold rk
  rw [List.take_of_length_le (Nat.le_refl _), List.take_of_length_le (Nat.le_refl _)]
  exact (p.filter _).length_eq
theorem rk_high {w : List Nat} (h : IsOrder w) (i : Nat) {j : Nat} (hj : w.length ≤ j) : rk w i j = 0 := by
  unfold rk
  rw [List.length_eq_zero_iff, List.filter_eq_nil_iff]
  intro x hx
  have := h.lt (List.mem_of_mem_take hx)
  simp
  omega
theorem ord_perm {u w : List Nat} (hu : IsOrder u) (hw : IsOrder w) (e : u.length = w.length) : u.Perm w := by
  have := hu.perm
  rw [e] at this
  exact this.trans hw.perm.symm
theorem bel_iff {u w : List Nat} (hu : IsOrder u) (hw : IsOrder w) (e : u.length = w.length) : isBel u w = true ↔ BelA u w := by
  unfold isBel
  simp only [List.all_eq_true, List.mem_range, decide_eq_true_eq]
  constructor
  · intro h i j
    by_cases hj : w.length ≤ j
    · rw [rk_high hu i (by omega)]; exact Nat.zero_le _
    · by_cases hi : w.length ≤ i
      · rw [rk_big (by omega), rk_big hi, rk_end (ord_perm hu hw e)]; exact Nat.le_refl _
      · cases i with
        | zero => exact Nat.le_refl _
        | succ i => exact h i (by omega) j (by omega)
  · exact fun h i _ j _ => h (i + 1) j
theorem rk_inj {u w : List Nat} (e : u.length = w.length) (h : ∀ i j, rk u i j = rk w i j) : u = w := by
  refine List.ext_getElem e fun i h1 h2 => ?_
  have key : ∀ j, (j ≤ u[i]) ↔ (j ≤ w[i]) := fun j => by
    have a := rk_row h1 j
    have b := rk_row h2 j
    rw [h, h, getD_at h1] at a
    rw [getD_at h2] at b
    by_cases q1 : j ≤ u[i]
    · rw [if_pos q1] at a
      by_cases q2 : j ≤ w[i]
      · exact ⟨fun _ => q2, fun _ => q1⟩
      · rw [if_neg q2] at b; omega
    · rw [if_neg q1] at a
      by_cases q2 : j ≤ w[i]
      · rw [if_pos q2] at b; omega
      · exact ⟨fun z => absurd z q1, fun z => absurd z q2⟩
  exact Nat.le_antisymm ((key _).mp (Nat.le_refl _)) ((key _).mpr (Nat.le_refl _))
theorem BelA.antisymm {u w : List Nat} (e : u.length = w.length) (h1 : BelA u w) (h2 : BelA w u) : u = w := rk_inj e fun i j => Nat.le_antisymm (h1 i j) (h2 i j)
theorem BelA.refl (u : List Nat) : BelA u u := fun _ _ => Nat.le_refl _
theorem BelA.trans {u v w : List Nat} (h1 : BelA u v) (h2 : BelA v w) : BelA u w := fun i j => Nat.le_trans (h1 i j) (h2 i j)
theorem cnt_le {w : List Nat} (nd : w.Nodup) (i j : Nat) : (w.take i).count j ≤ 1 := List.nodup_iff_count.mp (nd.sublist (List.take_sublist i w)) j
theorem mem_take_idx {x : Nat} : ∀ {w : List Nat} {i : Nat}, x ∈ w → (x ∈ w.take i ↔ w.idxOf x < i)
  | [], _, h => absurd h (by simp)
  | y :: r, 0, _ => by simp
  | y :: r, i + 1, h => by
    rw [List.take_succ_cons, List.mem_cons, List.idxOf_cons]
    by_cases q : x = y
    · subst q
      simp
    · have hx : x ∈ r := by
        rcases List.mem_cons.mp h with z | z
        · exact absurd z q
        · exact z
      rw [show (y == x) = false from beq_eq_false_iff_ne.mpr (Ne.symm q), cond_false, mem_take_idx (i := i) hx]
      constructor
      · rintro (z | z)
        · exact absurd z q
        · omega
      · exact fun z => .inr (by omega)
theorem cnt_first {w : List Nat} {x y : Nat} (hx : x ∈ w) (hy : y ∈ w) (nd : w.Nodup) (h : w.idxOf x < w.idxOf y) (i : Nat) : (w.take i).count y ≤ (w.take i).count x := by
  by_cases q : y ∈ w.take i
  · have h1 := (mem_take_idx hy).mp q
    have h2 := (mem_take_idx (i := i) hx).mpr (by omega)
    have h3 := List.count_pos_iff.mpr h2
    have h4 := cnt_le nd i y
    omega
  · rw [List.count_eq_zero.mpr q]
    exact Nat.zero_le _
/-! ### exchanges of the items k, k + 1 -/
theorem take_exch (w : List Nat) (k i : Nat) : (exchN w k).take i = (w.take i).map (sx k (k + 1)) := by
  unfold exchN
  rw [List.map_take]
theorem rk_exch_ne {w : List Nat} {k i j : Nat} (h : j ≠ k + 1) : rk (exchN w k) i j = rk w i j := by
  unfold rk
  rw [take_exch, List.filter_map, List.length_map]
  congr 1
  refine List.filter_congr fun x _ => ?_
  show decide (j ≤ sx k (k + 1) x) = decide (j ≤ x)
  unfold sx
  rw [decide_eq_decide]
  split
  · omega
  · split <;> omega
theorem cnt_exch {w : List Nat} (k i : Nat) : ((exchN w k).take i).count (k + 1) = (w.take i).count k := by
  rw [take_exch]
  generalize w.take i = l
  induction l with
  | nil => rfl
  | cons x r ih =>
    rw [List.map_cons, List.count_cons, List.count_cons, ih]
    congr 1
    unfold sx
    by_cases h1 : x = k
    · subst h1; simp
    · by_cases h2 : x = k + 1
      · subst h2; simp
      · simp [h1, h2]
def dropV (k : Nat) (w : List Nat) : List Nat := if w.idxOf (k + 1) < w.idxOf k then exchN w k else w
def liftV (k : Nat) (w : List Nat) : List Nat := if w.idxOf k < w.idxOf (k + 1) then exchN w k else w
theorem dropV_len (k : Nat) (w : List Nat) : (dropV k w).length = w.length := by unfold dropV; split <;> simp [exchN_len]
theorem liftV_len (k : Nat) (w : List Nat) : (liftV k w).length = w.length := by unfold liftV; split <;> simp [exchN_len]
theorem dropV_ord {k : Nat} {w : List Nat} (h : IsOrder w) (hk : k + 1 < w.length) : IsOrder (dropV k w) := by
  unfold dropV; split
  · exact h.exch hk
  · exact h
theorem liftV_ord {k : Nat} {w : List Nat} (h : IsOrder w) (hk : k + 1 < w.length) : IsOrder (liftV k w) := by
  unfold liftV; split
  · exact h.exch hk
  · exact h
/-- how the ranks of neighbouring columns hang together -/
theorem rk_cols {w : List Nat} (h : IsOrder w) (i k : Nat) : rk w i (k + 1) ≤ rk w i k ∧ rk w i k ≤ rk w i (k + 1) + 1 := by
  have h1 := rk_col w i k
  have h2 := cnt_le h.nd i k
  omega
theorem rk_drop {k : Nat} {w : List Nat} (h : IsOrder w) (hk : k + 1 < w.length) (i j : Nat) : rk (dropV k w) i j = if j = k + 1 then max (rk w i (k + 2)) (rk w i k - 1) else rk w i j := by
  by_cases hj : j = k + 1
  · subst hj
    rw [if_pos rfl]
    have e0 := rk_col w i k
    have e1 := rk_col w i (k + 1)
    have c0 := cnt_le h.nd i k
    have c1 := cnt_le h.nd i (k + 1)
    unfold dropV
    split
    · rename_i q
      have e2 := rk_col (exchN w k) i (k + 1)
      rw [cnt_exch, rk_exch_ne (show k + 1 + 1 ≠ k + 1 by omega)] at e2
      have := cnt_first (h.mem hk) (h.mem (by omega)) h.nd q i
      rw [show k + 2 = k + 1 + 1 from rfl]
      omega
    · rename_i q
      have n : w.idxOf k ≠ w.idxOf (k + 1) := fun z => by
        obtain ⟨a1, a2⟩ := idx_at h (show k < w.length by omega)
        obtain ⟨b1, b2⟩ := idx_at h hk
        rw [z, b2] at a2
        omega
      have := cnt_first (h.mem (show k < w.length by omega)) (h.mem hk) h.nd (show w.idxOf k < w.idxOf (k + 1) by omega) i
      rw [show k + 2 = k + 1 + 1 from rfl]
      omega
  · rw [if_neg hj]
    unfold dropV
    split
    · exact rk_exch_ne hj
    · rfl
theorem rk_lift {k : Nat} {w : List Nat} (h : IsOrder w) (hk : k + 1 < w.length) (i j : Nat) : rk (liftV k w) i j = if j = k + 1 then min (rk w i k) (rk w i (k + 2) + 1) else rk w i j := by
  by_cases hj : j = k + 1
  · subst hj
    rw [if_pos rfl]
    have e0 := rk_col w i k
    have e1 := rk_col w i (k + 1)
    have c0 := cnt_le h.nd i k
    have c1 := cnt_le h.nd i (k + 1)
    unfold liftV
    split
    · rename_i q
      have e2 := rk_col (exchN w k) i (k + 1)
      rw [cnt_exch, rk_exch_ne (show k + 1 + 1 ≠ k + 1 by omega)] at e2
      have := cnt_first (h.mem (show k < w.length by omega)) (h.mem hk) h.nd q i
      rw [show k + 2 = k + 1 + 1 from rfl]
      omega
    · rename_i q
      have n : w.idxOf k ≠ w.idxOf (k + 1) := fun z => by
        obtain ⟨a1, a2⟩ := idx_at h (show k < w.length by omega)
        obtain ⟨b1, b2⟩ := idx_at h hk
        rw [z, b2] at a2
        omega
      have := cnt_first (h.mem hk) (h.mem (show k < w.length by omega)) h.nd (show w.idxOf (k + 1) < w.idxOf k by omega) i
      rw [show k + 2 = k + 1 + 1 from rfl]
      omega
  · rw [if_neg hj]
    unfold liftV
    split
    · exact rk_exch_ne hj
    · rfl
theorem adj {k : Nat} {w x : List Nat} (hw : IsOrder w) (hx : IsOrder x) (kw : k + 1 < w.length) (kx : k + 1 < x.length) : BelA (dropV k w) x ↔ BelA w (liftV k x) := by
  constructor
  · intro h i j
    rw [rk_lift hx kx]
    by_cases hj : j = k + 1
    · subst hj
      rw [if_pos rfl]
      have a := h i k
      have b := h i (k + 2)
      rw [rk_drop hw kw, if_neg (by omega)] at a b
      have c1 := rk_cols hw i k
      have c2 := rk_cols hw i (k + 1)
      rw [show k + 2 = k + 1 + 1 from rfl] at *
      omega
    · rw [if_neg hj]
      have a := h i j
      rw [rk_drop hw kw, if_neg hj] at a
      exact a
  · intro h i j
    rw [rk_drop hw kw]
    by_cases hj : j = k + 1
    · subst hj
      rw [if_pos rfl]
      have a := h i k
      have b := h i (k + 2)
      rw [rk_lift hx kx, if_neg (by omega)] at a b
      have c1 := rk_cols hx i k
      have c2 := rk_cols hx i (k + 1)
      rw [show k + 2 = k + 1 + 1 from rfl] at *
      omega
    · rw [if_neg hj]
      have a := h i j
      rw [rk_lift hx kx, if_neg hj] at a
      exact a
/-! ### steps that only raise -/
def raiseP (k : Nat) (w : List Nat) : List Nat := if w.getD k 0 < w.getD (k + 1) 0 then stN w k else w
theorem raiseP_len (k : Nat) (w : List Nat) : (raiseP k w).length = w.length := by unfold raiseP; split <;> simp [stN_len]
theorem st_ord {v : List Nat} {c : Nat} (h : IsOrder v) (g : c + 1 < v.length) : IsOrder (stN v c) := ⟨by rw [stN_len]; exact (stN_perm g).trans h.perm, by rw [stN_len]; exact h.pos, by rw [stN_len]; exact h.most⟩
theorem raiseP_ord {k : Nat} {w : List Nat} (h : IsOrder w) (hk : k + 1 < w.length) : IsOrder (raiseP k w) := by
  unfold raiseP; split
  · exact st_ord h hk
  · exact h
theorem take_stN {w : List Nat} {k : Nat} (h : k + 1 < w.length) {i : Nat} (hi : i ≠ k + 1) : rk (stN w k) i = rk w i := by
  funext j
  unfold rk
  obtain ⟨e1, e2⟩ := cut2 h
  have hl : (w.take k).length = k := by rw [List.length_take]; omega
  by_cases hik : i ≤ k
  · rw [e2]
    conv => rhs; rw [e1]
    rw [List.take_append_of_le_length (by omega), List.take_append_of_le_length (by omega)]
  · have hp : ((stN w k).take i).Perm (w.take i) := by
      rw [e2]
      conv => rhs; rw [e1]
      rw [List.take_append, List.take_append, hl]
      refine List.Perm.append_left _ ?_
      obtain ⟨m, rfl⟩ : ∃ m, i = k + (m + 2) := ⟨i - k - 2, by omega⟩
      rw [show k + (m + 2) - k = m + 2 by omega, List.take_succ_cons, List.take_succ_cons, List.take_succ_cons, List.take_succ_cons]
      exact List.Perm.swap _ _ _
    exact (hp.filter _).length_eq
theorem rk_raise {k : Nat} {w : List Nat} (h : IsOrder w) (hk : k + 1 < w.length) (i j : Nat) : rk (raiseP k w) i j = if i = k + 1 then min (rk w (k + 2) j) (rk w k j + 1) else rk w i j := by
  by_cases hi : i = k + 1
  · subst hi
    rw [if_pos rfl]
    have r1 := rk_row (w := w) (i := k) (by omega) j
    have r2 := rk_row (w := w) (i := k + 1) hk j
    rw [show k + 2 = k + 1 + 1 from rfl]
    unfold raiseP
    split
    · rename_i q
      have r3 := rk_row (w := stN w k) (i := k) (by rw [stN_len]; omega) j
      rw [take_stN hk (show k ≠ k + 1 by omega), stN_at hk] at r3
      rw [show sw k k = k + 1 by unfold sw; rw [if_pos rfl]] at r3
      rw [r3]
      split at r1 <;> split at r2 <;> split <;> omega
    · rename_i q
      split at r1 <;> split at r2 <;> omega
  · rw [if_neg hi]
    unfold raiseP
    split
    · rw [take_stN hk hi]
    · rfl
/-- lifting of items and raising of places: either may come first -/
theorem lift_raise {k l : Nat} {w : List Nat} (h : IsOrder w) (hk : k + 1 < w.length) (hl : l + 1 < w.length) : liftV k (raiseP l w) = raiseP l (liftV k w) := by
  refine rk_inj (by rw [liftV_len, raiseP_len, raiseP_len, liftV_len]) fun i j => ?_
  rw [rk_lift (raiseP_ord h hl) (by rw [raiseP_len]; exact hk), rk_raise (liftV_ord h hk) (by rw [liftV_len]; exact hl)]
  simp only [rk_lift h hk, rk_raise h hl]
  by_cases hj : j = k + 1 <;> by_cases hi : i = l + 1
  · simp only [hj, hi, if_true]
    try simp only [show ¬ (k + 2 = k + 1) by omega, show ¬ (k = k + 1) by omega, show ¬ (l + 2 = l + 1) by omega, show ¬ (l = l + 1) by omega, if_false]
    omega
  · simp only [hj, hi, if_true, if_false]
  · simp only [hj, hi, if_true, if_false]
  · simp only [hj, hi, if_false]
/-! ### along words -/
def dropL (s w : List Nat) : List Nat := s.foldl (fun w k => dropV k w) w
def liftL (s v : List Nat) : List Nat := s.foldr liftV v
def raiseL (s u : List Nat) : List Nat := s.foldl (fun w k => raiseP k w) u
theorem dropL_len : ∀ {s w : List Nat}, (dropL s w).length = w.length
  | [], _ => rfl
  | k :: s, w => (dropL_len (s := s) (w := dropV k w)).trans (dropV_len k w)
theorem liftL_len : ∀ {s w : List Nat}, (liftL s w).length = w.length
  | [], _ => rfl
  | k :: s, w => (liftV_len k _).trans (liftL_len (s := s))
theorem raiseL_len : ∀ {s w : List Nat}, (raiseL s w).length = w.length
  | [], _ => rfl
  | k :: s, w => (raiseL_len (s := s) (w := raiseP k w)).trans (raiseP_len k w)
theorem dropL_ord : ∀ {s w : List Nat}, IsOrder w → Word w.length s → IsOrder (dropL s w)
  | [], _, h, _ => h
  | k :: s, w, h, hs => by
    obtain ⟨h1, h2⟩ := Word.cons.mp hs
    exact dropL_ord (s := s) (w := dropV k w) (dropV_ord h h1) (by rw [dropV_len]; exact h2)
theorem liftL_ord : ∀ {s w : List Nat}, IsOrder w → Word w.length s → IsOrder (liftL s w)
  | [], _, h, _ => h
  | k :: s, w, h, hs => by
    obtain ⟨h1, h2⟩ := Word.cons.mp hs
    exact liftV_ord (liftL_ord h h2) (by show k + 1 < (liftL s w).length; rw [liftL_len]; exact h1)
theorem raiseL_ord : ∀ {s w : List Nat}, IsOrder w → Word w.length s → IsOrder (raiseL s w)
  | [], _, h, _ => h
  | k :: s, w, h, hs => by
    obtain ⟨h1, h2⟩ := Word.cons.mp hs
    exact raiseL_ord (s := s) (w := raiseP k w) (raiseP_ord h h1) (by rw [raiseP_len]; exact h2)
theorem adjL : ∀ {s w x : List Nat}, IsOrder w → IsOrder x → w.length = x.length → Word w.length s → (BelA (dropL s w) x ↔ BelA w (liftL s x))
  | [], _, _, _, _, _, _ => Iff.rfl
  | k :: s, w, x, hw, hx, e, hs => by
    obtain ⟨h1, h2⟩ := Word.cons.mp hs
    have ih := adjL (s := s) (w := dropV k w) (x := x) (dropV_ord hw h1) hx (by rw [dropV_len]; exact e) (by rw [dropV_len]; exact h2)
    have a := adj (x := liftL s x) hw (liftL_ord hx (by rw [← e]; exact h2)) h1 (by rw [liftL_len, ← e]; exact h1)
    exact ih.trans a
theorem lift_raiseL {k : Nat} : ∀ {b w : List Nat}, IsOrder w → k + 1 < w.length → Word w.length b → liftV k (raiseL b w) = raiseL b (liftV k w)
  | [], _, _, _, _ => rfl
  | l :: b, w, h, hk, hb => by
    obtain ⟨h1, h2⟩ := Word.cons.mp hb
    have ih := lift_raiseL (b := b) (w := raiseP l w) (raiseP_ord h h1) (by rw [raiseP_len]; exact hk) (by rw [raiseP_len]; exact h2)
    show liftV k (raiseL b (raiseP l w)) = raiseL b (raiseP l (liftV k w))
    rw [ih, lift_raise h hk h1]
theorem liftL_raiseL : ∀ {a b w : List Nat}, IsOrder w → Word w.length a → Word w.length b → liftL a (raiseL b w) = raiseL b (liftL a w)
  | [], _, _, _, _, _ => rfl
  | k :: a, b, w, h, ha, hb => by
    obtain ⟨h1, h2⟩ := Word.cons.mp ha
    show liftV k (liftL a (raiseL b w)) = raiseL b (liftV k (liftL a w))
    rw [liftL_raiseL h h2 hb, lift_raiseL (liftL_ord h h2) (by rw [liftL_len]; exact h1) (by rw [liftL_len]; exact hb)]
/-- a short word of an order -/
def Red (n : Nat) (s w : List Nat) : Prop := Word n s ∧ ledN (List.range n) s = w ∧ s.length = invL w
theorem st_inv {w : List Nat} (h : IsOrder w) {k : Nat} (hk : k + 1 < w.length) : (w.getD k 0 < w.getD (k + 1) 0 ∧ invL (stN w k) = invL w + 1) ∨ (¬ w.getD k 0 < w.getD (k + 1) 0 ∧ invL (stN w k) + 1 = invL w) := by
  by_cases q : w.getD k 0 < w.getD (k + 1) 0
  · exact .inl ⟨q, invL_up hk q⟩
  · refine .inr ⟨q, invL_down hk ?_⟩
    have : w.getD k 0 ≠ w.getD (k + 1) 0 := fun z => by
      rw [getD_at (show k < w.length by omega), getD_at hk] at z
      exact (List.pairwise_iff_getElem.mp h.nd) k (k + 1) (by omega) hk (by omega) z
    omega
theorem led_inv : ∀ {s w : List Nat}, IsOrder w → Word w.length s → invL (ledN w s) ≤ invL w + s.length ∧ (invL (ledN w s) = invL w + s.length → raiseL s w = ledN w s)
  | [], w, _, _ => ⟨Nat.le_refl _, fun _ => rfl⟩
  | k :: s, w, h, hs => by
    obtain ⟨h1, h2⟩ := Word.cons.mp hs
    obtain ⟨i1, i2⟩ := led_inv (s := s) (w := stN w k) (st_ord h h1) (by rw [stN_len]; exact h2)
    rw [ledN_cons, List.length_cons]
    rcases st_inv h h1 with ⟨q, e⟩ | ⟨q, e⟩
    · refine ⟨by omega, fun z => ?_⟩
      show raiseL s (raiseP k w) = _
      rw [show raiseP k w = stN w k from if_pos q]
      exact i2 (by omega)
    · exact ⟨by omega, fun z => by omega⟩
theorem range_ord {n : Nat} (h1 : 1 ≤ n) (h8 : n ≤ 8) : IsOrder (List.range n) := ⟨by rw [List.length_range], by simpa using h1, by simpa using h8⟩
theorem inv_range (n : Nat) : invL (List.range n) = 0 := by rw [List.range_eq_range']; exact invL_range' n 0
theorem Red.raise {n : Nat} {s w : List Nat} (h1 : 1 ≤ n) (h8 : n ≤ 8) (r : Red n s w) : raiseL s (List.range n) = w := by
  obtain ⟨hs, e, hl⟩ := r
  have := (led_inv (s := s) (range_ord h1 h8) (by rw [List.length_range]; exact hs)).2
  rw [inv_range, e, hl, Nat.zero_add] at this
  exact this rfl
theorem led_ord {n : Nat} {s : List Nat} (h1 : 1 ≤ n) (h8 : n ≤ 8) (h : Word n s) : IsOrder (ledN (List.range n) s) := by
  have hl : (ledN (List.range n) s).length = n := by rw [ledN_len, List.length_range]
  refine ⟨?_, by rw [hl]; exact h1, by rw [hl]; exact h8⟩
  rw [hl]
  exact ledN_perm (by rw [List.length_range]; exact h)
theorem exch_inv {w : List Nat} (h : IsOrder w) {k : Nat} (hk : k + 1 < w.length) : (w.idxOf k < w.idxOf (k + 1) ∧ invL (exchN w k) = invL w + 1) ∨ (¬ w.idxOf k < w.idxOf (k + 1) ∧ invL (exchN w k) + 1 = invL w) := by
  have n : w.idxOf k ≠ w.idxOf (k + 1) := fun z => by
    obtain ⟨a1, a2⟩ := idx_at h (show k < w.length by omega)
    obtain ⟨b1, b2⟩ := idx_at h hk
    rw [z, b2] at a2
    omega
  by_cases q : w.idxOf k < w.idxOf (k + 1)
  · refine .inl ⟨q, ?_⟩
    have hx := h.exch hk
    have e : invL (exchN (exchN w k) k) + 1 = invL (exchN w k) := by
      refine invL_exch hx.nd (hx.mem (by rw [exchN_len]; omega)) (hx.mem (by rw [exchN_len]; exact hk)) ?_
      have m1 := mem_take_idx (w := exchN w k) (x := k + 1) (i := (w.idxOf k) + 1) (hx.mem (by rw [exchN_len]; exact hk))
      have m2 := mem_take_idx (w := exchN w k) (x := k) (i := (w.idxOf k) + 1) (hx.mem (by rw [exchN_len]; omega))
      have c1 : k + 1 ∈ (exchN w k).take (w.idxOf k + 1) := by
        rw [take_exch]
        refine List.mem_map.mpr ⟨k, (mem_take_idx (h.mem (by omega))).mpr (by omega), ?_⟩
        unfold sx; simp
      have c2 : k ∉ (exchN w k).take (w.idxOf k + 1) := by
        rw [take_exch]
        intro z
        obtain ⟨x, hx1, hx2⟩ := List.mem_map.mp z
        have : x = k + 1 := by
          unfold sx at hx2
          split at hx2
          · omega
          · split at hx2 <;> omega
        rw [this] at hx1
        have := (mem_take_idx (h.mem hk)).mp hx1
        omega
      have d1 := m1.mp c1
      have d2 : ¬ (exchN w k).idxOf k < w.idxOf k + 1 := fun z => c2 (m2.mpr z)
      omega
    rw [exch_twice] at e
    omega
  · exact .inr ⟨q, invL_exch h.nd (h.mem (by omega)) (h.mem hk) (by omega)⟩
theorem Red.lift : ∀ {n : Nat} {s w : List Nat}, 1 ≤ n → n ≤ 8 → Red n s w → liftL s (List.range n) = w
  | n, [], w, _, _, ⟨_, e, _⟩ => e
  | n, k :: s, w, h1, h8, ⟨hs, e, hl⟩ => by
    obtain ⟨k1, k2⟩ := Word.cons.mp hs
    rw [led_cons k1 k2] at e
    have ho := led_ord h1 h8 k2
    have hn : (ledN (List.range n) s).length = n := by rw [ledN_len, List.length_range]
    have hb := (led_inv (s := s) (range_ord h1 h8) (by rw [List.length_range]; exact k2)).1
    rw [inv_range, Nat.zero_add] at hb
    rw [List.length_cons] at hl
    rcases exch_inv ho (show k + 1 < (ledN (List.range n) s).length by rw [hn]; exact k1) with ⟨q, z⟩ | ⟨q, z⟩
    · rw [e, ← hl] at z
      have ih := Red.lift (s := s) h1 h8 ⟨k2, rfl, by omega⟩
      show liftV k (liftL s (List.range n)) = w
      rw [ih]
      unfold liftV
      rw [if_pos q]
      exact e
    · rw [e, ← hl] at z
      omega
/-- the product of two orders, whichever short words are taken -/
theorem star_same {n : Nat} {a b u v : List Nat} (h1 : 1 ≤ n) (h8 : n ≤ 8) (ra : Red n a u) (rb : Red n b v) : raiseL b u = liftL a v := by
  have hr := range_ord h1 h8
  have ha : Word (List.range n).length a := by rw [List.length_range]; exact ra.1
  have hb : Word (List.range n).length b := by rw [List.length_range]; exact rb.1
  rw [← ra.lift h1 h8, ← liftL_raiseL hr ha hb, rb.raise h1 h8]
/-- what is dropped of w along a short word of u is below v just if w is below the product -/
theorem drop_star {n : Nat} {a b u v w : List Nat} (h1 : 1 ≤ n) (h8 : n ≤ 8) (ra : Red n a u) (rb : Red n b v) (hv : IsOrder v) (lv : v.length = n) (hw : IsOrder w) (lw : w.length = n) : BelA w (raiseL b u) ↔ BelA (dropL a w) v := by
  rw [star_same h1 h8 ra rb]
  exact (adjL hw hv (by rw [lw, lv]) (by rw [lw]; exact ra.1)).symm
theorem drop_same {n : Nat} {a a' u w : List Nat} (h1 : 1 ≤ n) (h8 : n ≤ 8) (ra : Red n a u) (rb : Red n a' u) (hw : IsOrder w) (lw : w.length = n) : dropL a w = dropL a' w := by
  have q : ∀ x, IsOrder x → x.length = n → (BelA (dropL a w) x ↔ BelA (dropL a' w) x) := fun x hx lx => by
    have hxr := first_word hx
    rw [lx] at hxr
    have rx : Red n (firstW x) x := hxr
    exact (drop_star h1 h8 ra rx hx lx hw lw).symm.trans (drop_star h1 h8 rb rx hx lx hw lw)
  have wa : Word w.length a := by rw [lw]; exact ra.1
  have wb : Word w.length a' := by rw [lw]; exact rb.1
  refine BelA.antisymm (by rw [dropL_len, dropL_len]) ?_ ?_
  · exact (q _ (dropL_ord hw wb) (by rw [dropL_len, lw])).mpr (BelA.refl _)
  · exact (q _ (dropL_ord hw wa) (by rw [dropL_len, lw])).mp (BelA.refl _)
end Sw

set_option Elab.async false
set_option linter.all false
set_option maxRecDepth 100000
/-! law_k26_whole_least_partners: the program in the own language (printed by tr.py). -/
namespace Sw.K26
open Sw
def d_is_integer : DefR := ⟨⟨1, 1, [.ret (.bop true [.isi (.var 0) ["int"], .not (.isi (.var 0) ["bool"])])]⟩, ["value"], ["value"], false, false⟩
def d_is_row : DefR := ⟨⟨1, 1, [.ret (.isi (.var 0) ["list", "tuple"])]⟩, ["value"], ["value"], false, false⟩
def d_is_order : DefR := ⟨⟨2, 1, [.ifs (.bop false [.not (.call "is_row" [.var 0]), .not (.chain .LtE .LtE (.int 1) (.bi .len [.var 0]) (.gl "MOST")), .not (.bi .all [.lc (.call "is_integer" [.var 1]) [.mk [1] (.nm 1) (.seq (.var 0)) []]])]) [.ret (.bl false)] [], .ret (.cmp .Eq (.bi .sorted [.var 0]) (.lrng [.bi .len [.var 0]]))]⟩, ["value", "item"], ["value"], false, false⟩
def d_need_orders : DefR := ⟨⟨3, 1, [.own 1 (.lst []), .for (.nm 2) (.seq (.var 0)) [.ifs (.not (.call "is_order" [.var 2])) [.raise "BadOrder" [.var 2]] [], .app 1 (.bi .tuple [.var 2]), .ifs (.cmp .NotEq (.bi .len [.var 2]) (.bi .len [.ix (.var 1) (.int 0)])) [.raise "NotSame" [.ix (.var 1) (.neg (.int 1))]] []], .reto (.var 1)]⟩, ["orders", "found", "order"], ["orders"], false, false⟩
def d_stepped : DefR := ⟨⟨2, 2, [.ret (.bin .Add (.bin .Add (.sl (.var 0) none (some (.var 1))) (.tup [.ix (.var 0) (.bin .Add (.var 1) (.int 1)), .ix (.var 0) (.var 1)])) (.sl (.var 0) (some (.bin .Add (.var 1) (.int 2))) none))]⟩, ["w", "k"], ["w", "k"], false, false⟩
def d_short_word : DefR := ⟨⟨4, 1, [.par [(true, 1), (false, 2)] [.lst [], .var 0], .while (.bl true) [.asg (.nm 3) (.call "falls_ahead" [.var 2]), .ifs (.cmp .Eq (.bi .len [.var 3]) (.int 0)) [.ret (.bi .tuple [.var 1])] [], .app 1 (.ix (.var 3) (.int 0)), .asg (.nm 2) (.call "items_exchanged" [.var 2, .ix (.var 3) (.int 0)])]]⟩, ["w", "found", "left", "lower"], ["w"], false, false⟩
def d_falls_ahead : DefR := ⟨⟨5, 1, [.asg (.nm 1) (.dcomp (.var 3) (.var 2) (.mk [2, 3] (.tu [.nm 2, .nm 3]) (.enum (.var 0)) [])), .reto (.lc (.var 4) [.mk [4] (.nm 4) (.rng [.bin .Sub (.bi .len [.var 0]) (.int 1)]) [.cmp .Gt (.ix (.var 1) (.var 4)) (.ix (.var 1) (.bin .Add (.var 4) (.int 1)))]])]⟩, ["w", "places", "place", "item", "k"], ["w"], false, false⟩
def d_items_exchanged : DefR := ⟨⟨3, 2, [.ret (.bi .tuple [.lc (.ite (.cmp .Eq (.var 2) (.var 1)) (.bin .Add (.var 1) (.int 1)) (.ite (.cmp .Eq (.var 2) (.bin .Add (.var 1) (.int 1))) (.var 1) (.var 2))) [.mk [2] (.nm 2) (.seq (.var 0)) []]])]⟩, ["w", "k", "item"], ["w", "k"], false, false⟩
def d_raised_along : DefR := ⟨⟨3, 2, [.for (.nm 2) (.seq (.var 1)) [.ifs (.cmp .Lt (.ix (.var 0) (.var 2)) (.ix (.var 0) (.bin .Add (.var 2) (.int 1)))) [.asg (.nm 0) (.call "stepped" [.var 0, .var 2])] []], .ret (.var 0)]⟩, ["w", "word", "k"], ["w", "word"], false, false⟩
def d_star : DefR := ⟨⟨2, 2, [.asg (.tu [.nm 0, .nm 1]) (.call "need_orders" [.lst [.var 0, .var 1]]), .ret (.call "raised_along" [.var 0, .call "short_word" [.var 1]])]⟩, ["u", "v"], ["u", "v"], false, false⟩
def d_dropped : DefR := ⟨⟨3, 2, [.asg (.tu [.nm 0, .nm 1]) (.call "need_orders" [.lst [.var 0, .var 1]]), .for (.nm 2) (.seq (.call "short_word" [.var 0])) [.ifs (.cmp .In (.var 2) (.call "falls_ahead" [.var 1])) [.asg (.nm 1) (.call "items_exchanged" [.var 1, .var 2])] []], .ret (.var 1)]⟩, ["u", "w", "k"], ["u", "w"], false, false⟩
def d__law_pen : DefR := ⟨⟨3, 1, [.asg (.nm 1) (.int 0), .for (.nm 2) (.seq (.var 0)) [.asg (.nm 1) (.bin .Mod (.bi .int [.bin .Add (.bin .Mult (.var 1) (.int 47)) (.var 2)]) (.int 1000000007))], .ret (.disp ["cells", "at", "digits", "count", "fold"] [.bi .list [.var 0], .int 0, .int 0, .int 0, .var 1])]⟩, ["script", "fold", "cell"], ["script"], false, false⟩
def d__law_draw : DefR := ⟨⟨5, 2, [.cset (.var 0) "count" (.bin .Add (.cget (.var 0) "count") (.int 1)), .ifs (.bop true [.cmp .Eq (.cget (.var 0) "digits") (.int 0), .cmp .Lt (.cget (.var 0) "at") (.bi .len [.cget (.var 0) "cells"])]) [.asg (.nm 2) (.ix (.cget (.var 0) "cells") (.cget (.var 0) "at")), .cset (.var 0) "at" (.bin .Add (.cget (.var 0) "at") (.int 1)), .ifs (.cmp .GtE (.var 2) (.bin .Pow (.int 10) (.int 18))) [.cset (.var 0) "digits" (.bin .Sub (.var 2) (.bin .Pow (.int 10) (.int 18)))] [.cset (.var 0) "fold" (.bin .Mod (.bi .int [.bin .Add (.bin .Mult (.cget (.var 0) "fold") (.int 69069)) (.var 2)]) (.int 2147483587))]] [], .ifs (.cmp .Gt (.cget (.var 0) "digits") (.int 0)) [.asg (.nm 3) (.bin .Mod (.bi .int [.cget (.var 0) "digits"]) (.var 1)), .cset (.var 0) "digits" (.bin .FloorDiv (.cget (.var 0) "digits") (.var 1)), .ret (.var 3)] [], .asg (.nm 4) (.bin .Add (.bin .Add (.cget (.var 0) "fold") (.bin .Mult (.cget (.var 0) "count") (.int 7907))) (.int 37)), .ret (.bin .Mod (.bin .FloorDiv (.bi .int [.bin .Mod (.bin .Pow (.var 4) (.int 17)) (.int 2305843009213693951)]) (.int 128)) (.var 1))]⟩, ["pen", "many", "cell", "digit", "mixed"], ["pen", "many"], false, false⟩
def d__law_pick : DefR := ⟨⟨2, 2, [.ret (.ix (.var 1) (.call "_law_draw" [.var 0, .bi .len [.var 1]]))]⟩, ["pen", "some"], ["pen", "some"], false, false⟩
def d__law_shuffled : DefR := ⟨⟨5, 2, [.par [(true, 2), (true, 3)] [.bi .list [.var 1], .lst []], .for (.nm 4) (.rng [.bi .len [.var 1]]) [.apppop 3 2 (some (.call "_law_draw" [.var 0, .bi .len [.var 2]]))], .reto (.var 3)]⟩, ["pen", "some", "rest", "found", "lap"], ["pen", "some"], false, false⟩
def d__law_rows_of : DefR := ⟨⟨6, 1, [.asg (.nm 1) (.lst [.tup []]), .for (.nm 2) (.rng [.var 0]) [.asg (.nm 3) (.lst []), .for (.nm 4) (.seq (.var 1)) [.asg (.nm 3) (.bin .Add (.var 3) (.lc (.bin .Add (.var 4) (.tup [.var 5])) [.mk [5] (.nm 5) (.rng [.var 0]) [.cmp .NotIn (.var 5) (.var 4)]]))], .asg (.nm 1) (.var 3)], .ret (.var 1)]⟩, ["n", "found", "lap", "longer", "order", "item"], ["n"], false, false⟩
def d__law_pairs : DefR := ⟨⟨4, 1, [.asg (.nm 1) (.lst []), .for (.nm 2) (.rng [.var 0]) [.asg (.nm 1) (.bin .Add (.var 1) (.lc (.tup [.var 2, .var 3]) [.mk [3] (.nm 3) (.rng [.bin .Add (.var 2) (.int 1), .var 0]) []]))], .ret (.var 1)]⟩, ["n", "found", "i", "j"], ["n"], false, false⟩
def d__law_some_order : DefR := ⟨⟨2, 2, [.ret (.bi .tuple [.call "_law_shuffled" [.var 0, .lrng [.var 1]]])]⟩, ["pen", "n"], ["pen", "n"], false, false⟩
def d__law_listed : DefR := ⟨⟨2, 2, [.ret (.ite (.cmp .Eq (.call "_law_draw" [.var 0, .int 2]) (.int 0)) (.bi .list [.var 1]) (.bi .tuple [.var 1]))]⟩, ["pen", "row"], ["pen", "row"], false, false⟩
def d__law_stepped : DefR := ⟨⟨3, 2, [.own 2 (.bi .list [.var 0]), .set2 2 (.var 1) (.bin .Add (.var 1) (.int 1)) (.ix (.var 2) (.bin .Add (.var 1) (.int 1))) (.ix (.var 2) (.var 1)), .ret (.bi .tuple [.var 2])]⟩, ["w", "k", "row"], ["w", "k"], false, false⟩
def d__law_swapped : DefR := ⟨⟨4, 3, [.own 3 (.bi .list [.var 0]), .set2 3 (.var 1) (.var 2) (.ix (.var 3) (.var 2)) (.ix (.var 3) (.var 1)), .ret (.bi .tuple [.var 3])]⟩, ["w", "i", "j", "row"], ["w", "i", "j"], false, false⟩
def d__law_back : DefR := ⟨⟨4, 1, [.own 1 (.bin .Mult (.lst [.int 0]) (.bi .len [.var 0])), .for (.tu [.nm 2, .nm 3]) (.enum (.var 0)) [.setix 1 (.var 3) (.var 2)], .ret (.bi .tuple [.var 1])]⟩, ["w", "found", "place", "item"], ["w"], false, false⟩
def d__law_short_word : DefR := ⟨⟨5, 2, [.own 2 (.lst []), .while (.bl true) [.own 3 (.lc (.var 4) [.mk [4] (.nm 4) (.rng [.bin .Sub (.bi .len [.var 1]) (.int 1)]) [.cmp .Gt (.ix (.var 1) (.var 4)) (.ix (.var 1) (.bin .Add (.var 4) (.int 1)))]]), .frz 3, .ifs (.cmp .Eq (.var 3) (.lst [])) [.ret (.rev (.var 2))] [], .app 2 (.call "_law_pick" [.var 0, .var 3]), .asg (.nm 1) (.call "_law_stepped" [.var 1, .ix (.var 2) (.neg (.int 1))])]]⟩, ["pen", "w", "word", "lower", "k"], ["pen", "w"], false, false⟩
def d__law_lower : DefR := ⟨⟨5, 1, [.own 1 (.lst []), .for (.tu [.nm 2, .nm 3]) (.seq (.call "_law_pairs" [.bi .len [.var 0]])) [.ifs (.bop true [.cmp .Gt (.ix (.var 0) (.var 2)) (.ix (.var 0) (.var 3)), .cmp .Eq (.lc (.var 4) [.mk [4] (.nm 4) (.seq (.sl (.var 0) (some (.bin .Add (.var 2) (.int 1))) (some (.var 3)))) [.chain .Lt .Lt (.ix (.var 0) (.var 3)) (.var 4) (.ix (.var 0) (.var 2))]]) (.lst [])]) [.app 1 (.call "_law_swapped" [.var 0, .var 2, .var 3])] []], .reto (.var 1)]⟩, ["w", "found", "i", "j", "item"], ["w"], false, false⟩
def d__law_is_below : DefR := ⟨⟨5, 2, [.for (.nm 2) (.rng [.bi .len [.var 1]]) [.for (.nm 3) (.rng [.bi .len [.var 1]]) [.ifs (.cmp .Gt (.bi .len [.lc (.var 4) [.mk [4] (.nm 4) (.seq (.sl (.var 0) none (some (.bin .Add (.var 2) (.int 1))))) [.cmp .GtE (.var 4) (.var 3)]]]) (.bi .len [.lc (.var 4) [.mk [4] (.nm 4) (.seq (.sl (.var 1) none (some (.bin .Add (.var 2) (.int 1))))) [.cmp .GtE (.var 4) (.var 3)]]])) [.ret (.bl false)] []]], .ret (.bl true)]⟩, ["u", "w", "i", "j", "item"], ["u", "w"], false, false⟩
def d__law_is_integer : DefR := ⟨⟨1, 1, [.ret (.bop true [.isi (.var 0) ["int"], .not (.isi (.var 0) ["bool"])])]⟩, ["told"], ["told"], false, false⟩
def d__law_is_row_of : DefR := ⟨⟨3, 2, [.ifs (.not (.isi (.var 0) ["tuple"])) [.ret (.bl false)] [], .ret (.cmp .Eq (.lc (.int 1) [.mk [2] (.nm 2) (.seq (.var 0)) [.bop false [.not (.call "_law_is_integer" [.var 2]), .cmp .Lt (.var 2) (.int 0), .cmp .GtE (.var 2) (.var 1)]]]) (.lst []))]⟩, ["told", "many", "item"], ["told", "many"], false, false⟩
def d__law_is_own_order : DefR := ⟨⟨2, 2, [.ret (.bop true [.call "_law_is_row_of" [.var 0, .var 1], .cmp .Eq (.bi .sorted [.var 0]) (.lrng [.var 1])])]⟩, ["told", "n"], ["told", "n"], false, false⟩
def d__law_no_order : DefR := ⟨⟨4, 2, [.asg (.nm 2) (.lrng [.var 1]), .asg (.nm 3) (.lst [.non, .int 5, .str "01", .tup [], .bin .Add (.sl (.var 2) none (some (.neg (.int 1)))) (.lst [.var 1]), .bin .Add (.lst [.bl true]) (.sl (.var 2) (some (.int 1)) none), .bin .Add (.sl (.var 2) none (some (.neg (.int 1)))) (.lst [.non]), .lrng [.int 9], .bin .Add (.var 2) (.lst [.int 0])]), .ret (.call "_law_pick" [.var 0, .var 3])]⟩, ["pen", "n", "row", "some"], ["pen", "n"], false, false⟩
def d__law_near_order : DefR := ⟨⟨7, 2, [.par [(false, 2), (false, 3)] [.call "_law_draw" [.var 0, .int 4], .bi .len [.var 1]], .ifs (.cmp .Eq (.var 2) (.int 0)) [.ret (.call "_law_some_order" [.var 0, .var 3])] [], .ifs (.bop true [.cmp .Eq (.var 2) (.int 1), .cmp .Gt (.var 3) (.int 1)]) [.ret (.call "_law_stepped" [.var 1, .call "_law_draw" [.var 0, .bin .Sub (.var 3) (.int 1)]])] [], .ifs (.cmp .Eq (.var 2) (.int 2)) [.ret (.call "_law_swapped" [.var 1, .call "_law_draw" [.var 0, .var 3], .call "_law_draw" [.var 0, .var 3]])] [], .asg (.nm 4) (.var 1), .for (.nm 5) (.rng [.call "_law_draw" [.var 0, .int 6]]) [.asg (.nm 6) (.call "_law_lower" [.var 4]), .asg (.nm 4) (.ite (.cmp .NotEq (.var 6) (.lst [])) (.call "_law_pick" [.var 0, .var 6]) (.var 4))], .ret (.var 4)]⟩, ["pen", "w", "way", "n", "lower", "lap", "some"], ["pen", "w"], false, false⟩
def d__law_up : DefR := ⟨⟨3, 2, [.for (.nm 2) (.seq (.var 1)) [.ifs (.cmp .Lt (.ix (.var 0) (.var 2)) (.ix (.var 0) (.bin .Add (.var 2) (.int 1)))) [.asg (.nm 0) (.call "_law_stepped" [.var 0, .var 2])] []], .ret (.var 0)]⟩, ["w", "word", "k"], ["w", "word"], false, false⟩
def d__law_plain : DefR := ⟨⟨1, 1, [.ret (.trng [.var 0])]⟩, ["n"], ["n"], false, false⟩
def d__law_own_dropped : DefR := ⟨⟨5, 3, [.for (.nm 3) (.seq (.call "_law_short_word" [.var 0, .var 1])) [.asg (.nm 4) (.call "_law_back" [.var 2]), .ifs (.cmp .Lt (.ix (.var 4) (.bin .Add (.var 3) (.int 1))) (.ix (.var 4) (.var 3))) [.asg (.nm 2) (.call "_law_swapped" [.var 2, .ix (.var 4) (.var 3), .ix (.var 4) (.bin .Add (.var 3) (.int 1))])] []], .ret (.var 2)]⟩, ["pen", "u", "w", "k", "places"], ["pen", "u", "w"], false, false⟩
def d__law_upper : DefR := ⟨⟨5, 1, [.asg (.nm 1) (.bi .len [.var 0]), .own 2 (.lc (.bi .tuple [.lc (.bin .Sub (.bin .Sub (.var 1) (.int 1)) (.var 4)) [.mk [4] (.nm 4) (.seq (.var 3)) []]]) [.mk [3] (.nm 3) (.seq (.call "_law_lower" [.bi .tuple [.lc (.bin .Sub (.bin .Sub (.var 1) (.int 1)) (.var 4)) [.mk [4] (.nm 4) (.seq (.var 0)) []]]])) []]), .frz 2, .ret (.var 2)]⟩, ["w", "n", "turned", "one", "item"], ["w"], false, false⟩
def d__law_pair_right : DefR := ⟨⟨5, 5, [.ret (.cmp .Eq (.call "_law_is_below" [.var 3, .call "_law_up" [.var 1, .call "_law_short_word" [.var 0, .var 2]]]) (.call "_law_is_below" [.var 4, .var 2]))]⟩, ["pen", "u", "v", "w", "least"], ["pen", "u", "v", "w", "least"], false, false⟩
def d__law_all_right : DefR := ⟨⟨5, 4, [.for (.nm 4) (.seq (.call "_law_rows_of" [.bi .len [.var 1]])) [.ifs (.bop false [.not (.call "_law_pair_right" [.var 0, .var 1, .var 4, .var 2, .var 3]), .cmp .NotEq (.call "_law_is_below" [.var 2, .call "star" [.var 1, .var 4]]) (.call "_law_is_below" [.var 3, .var 4])]) [.ret (.bl false)] []], .ret (.bl true)]⟩, ["pen", "u", "w", "least", "v"], ["pen", "u", "w", "least"], false, false⟩
def d__law_refused : DefR := ⟨⟨2, 1, [.try [.ex (.callv 0)] [("BadOrder", some 1, [.ret (.ite (.not (.exci 1 ["NotSame", "BadWord"])) (.tup [.str "order", .bi .repr [.excf 1 "value"]]) .non)]), ("NotSame", some 1, [.ret (.ite (.not (.exci 1 ["BadOrder"])) (.tup [.str "same", .bi .tuple [.excf 1 "order"]]) .non)])], .ret .non]⟩, ["call", "e"], ["call"], false, true⟩
def d_law : DefR := ⟨⟨11, 1, [.asg (.nm 1) (.call "_law_pen" [.var 0]), .for (.nm 2) (.rng [.int 2]) [.asg (.nm 3) (.call "_law_pick" [.var 1, .lst [.int 1, .int 2, .int 3, .int 4, .int 4, .int 5, .int 6, .int 7, .int 8]]), .par [(false, 7), (false, 8)] [.call "_law_some_order" [.var 1, .var 3], .call "_law_some_order" [.var 1, .var 3]], .ifs (.cmp .Eq (.call "_law_draw" [.var 1, .int 2]) (.int 0)) [.asg (.nm 8) (.call "_law_near_order" [.var 1, .var 7])] [], .asg (.nm 4) (.call "dropped" [.call "_law_listed" [.var 1, .var 7], .call "_law_listed" [.var 1, .var 8]]), .ifs (.bop false [.not (.call "_law_is_own_order" [.var 4, .var 3]), .cmp .NotEq (.var 4) (.call "_law_own_dropped" [.var 1, .var 7, .var 8]), .cmp .NotEq (.var 4) (.call "_law_own_dropped" [.var 1, .var 7, .var 8])]) [.ret (.bl false)] [], .asg (.nm 5) (.lst [.var 4, .call "_law_some_order" [.var 1, .var 3], .call "_law_near_order" [.var 1, .var 4], .call "_law_plain" [.var 3]]), .asg (.nm 5) (.bin .Add (.bin .Add (.var 5) (.sl (.call "_law_lower" [.var 4]) none (some (.int 6)))) (.sl (.call "_law_upper" [.var 4]) none (some (.int 6)))), .for (.nm 6) (.seq (.var 5)) [.ifs (.bop false [.not (.call "_law_pair_right" [.var 1, .var 7, .var 6, .var 8, .var 4]), .cmp .NotEq (.call "_law_is_below" [.var 8, .call "star" [.var 7, .var 6]]) (.call "_law_is_below" [.var 4, .var 6])]) [.ret (.bl false)] []], .ifs (.bop true [.cmp .Lt (.var 3) (.int 5), .not (.call "_law_all_right" [.var 1, .var 7, .var 8, .var 4])]) [.ret (.bl false)] []], .par [(false, 9), (false, 10)] [.call "_law_no_order" [.var 1, .var 3], .call "_law_some_order" [.var 1, .bin .Add (.int 1) (.bin .Mod (.bi .int [.var 3]) (.int 8))]], .ifs (.cmp .NotEq (.lam "_law_refused" (.call "dropped" [.var 9, .non])) (.tup [.str "order", .bi .repr [.var 9]])) [.ret (.bl false)] [], .ifs (.cmp .NotEq (.lam "_law_refused" (.call "dropped" [.var 7, .var 9])) (.tup [.str "order", .bi .repr [.var 9]])) [.ret (.bl false)] [], .ret (.cmp .Eq (.lam "_law_refused" (.call "dropped" [.var 7, .var 10])) (.tup [.str "same", .var 10]))]⟩, ["script", "pen", "lap", "n", "told", "some", "v", "u", "w", "odd", "other"], ["script"], true, false⟩
def P : PT := ⟨[nm "is_integer" d_is_integer, nm "is_row" d_is_row, nm "is_order" d_is_order, nm "need_orders" d_need_orders, nm "stepped" d_stepped, nm "short_word" d_short_word, nm "falls_ahead" d_falls_ahead, nm "items_exchanged" d_items_exchanged, nm "raised_along" d_raised_along, nm "star" d_star, nm "dropped" d_dropped, nm "_law_pen" d__law_pen, nm "_law_draw" d__law_draw, nm "_law_pick" d__law_pick, nm "_law_shuffled" d__law_shuffled, nm "_law_rows_of" d__law_rows_of, nm "_law_pairs" d__law_pairs, nm "_law_some_order" d__law_some_order, nm "_law_listed" d__law_listed, nm "_law_stepped" d__law_stepped, nm "_law_swapped" d__law_swapped, nm "_law_back" d__law_back, nm "_law_short_word" d__law_short_word, nm "_law_lower" d__law_lower, nm "_law_is_below" d__law_is_below, nm "_law_is_integer" d__law_is_integer, nm "_law_is_row_of" d__law_is_row_of, nm "_law_is_own_order" d__law_is_own_order, nm "_law_no_order" d__law_no_order, nm "_law_near_order" d__law_near_order, nm "_law_up" d__law_up, nm "_law_plain" d__law_plain, nm "_law_own_dropped" d__law_own_dropped, nm "_law_upper" d__law_upper, nm "_law_pair_right" d__law_pair_right, nm "_law_all_right" d__law_all_right, nm "_law_refused" d__law_refused, nm "law" d_law], [nm "MOST" (.int 8)], [nm "BadOrder" ["value"], nm "NotSame" ["order"], nm "BadWord" ["index"]], [nm "SwapError" ["SwapError"], nm "BadOrder" ["BadOrder", "SwapError"], nm "NotSame" ["NotSame", "SwapError"], nm "BadWord" ["BadWord", "SwapError"]], ["index", "order", "value"]⟩
end Sw.K26

set_option Elab.async false
set_option linter.all false
set_option maxRecDepth 100000
set_option maxHeartbeats 1000000
namespace Sw.K26
open PySem Sw
local macro_rules | `(tactic| walk_at "sx") => `(tactic| try simp only [wp_bind, wp_pure, wp_some, wp_none, wp_bad, wp_at, wp_ite, wp_shM, wp_owM, exec, ev, evl, evo, evi, evf, evg, seqM, seqB, seqW, seqC, borM, borI, testM, optM, bindT, bindT.binds, storeF, storesF, wipeF, id_eq, seqS, lstOf_lst,
  lookV_0, lookV_s, borV_0, borV_1, borV_s, ownAt_0, ownAt_s, frzF_0, frzF_1, frzF_2, frzF_s, ofK_sh, ofK_ow, owK_ow, truth_bl, truth_non, truth_int, truth_tup, truth_lst, cmp_le, cmp_lt, cmp_ge, cmp_gt, cmp_eq, cmp_ne, cmp_in, cmp_nin, bin_add, bin_sub, neg_int, rev_tup, rev_lst, item_tup, item_lst, item_tup0, item_lst0, item_last, bi_len_tup, bi_len_lst, bi_tuple_lst, bi_tuple_tup, bi_list_lst, bi_list_tup, bi_int_int, bi_int_bl, bi_repr, bi_all, bi_sorted_lst, bi_sorted_tup,
  row_tup, row_lst, walk_tup, walk_lst, walk_seqI, cx_call, cx_glob, cx_fields, cx_sub, turnK_next, turnK_cont, turnK_brk, turnK_ret, turnK_exc, thenK_next, thenK_ret, thenK_exc, thenK_brk, thenK_cont, endK_ret, endK_next, endK_exc, wp_nil, wp_okRow, bi_list_seqI, ty_tup, ty_bl, wp_try, tryK_ret, tryK_next, tryK_exc, hotK_ret, tx_call, tx_glob, tx_sub, tx_fields, tx_thunk, low_call, low_glob, low_glob, get_cells, get_at, get_digits, get_count, get_fold, set_at, set_digits, set_count, set_fold,
  List.getElem?_cons_zero, List.getElem?_cons_succ, List.length_cons, List.length_nil, List.set_cons_zero, List.set_cons_succ, List.map_cons, List.map_nil, List.zip_cons_cons, List.zip_nil_right, List.zip_nil_left, List.replicate, List.append_nil, List.cons_append, List.nil_append, Option.bind_some, Option.map_some, Option.bind_none, Option.map_none, Nat.reduceAdd, Nat.reduceSub, Nat.reduceLT, Nat.reduceLeDiff, if_true, if_false, Bool.false_eq_true, Nat.zero_add, Nat.lt_irrefl, Nat.zero_lt_succ, Nat.reduceSucc, decide_true, decide_false, Bool.true_eq_false, if_pos, Bool.not_true, Bool.not_false, Bool.not_eq_true', Bool.not_eq_false', decide_eq_true_eq, decide_eq_false_iff_not, Prod.mk.injEq])
local macro_rules | `(tactic| walk_at "sc") => `(tactic| (rw [wp_cons]; walk_at "sx"))
local macro_rules | `(tactic| walk_at "go") => `(tactic| try simp (disch := omega) only [wp_bind, wp_pure, wp_some, wp_none, wp_bad, wp_at, wp_ite, wp_shM, wp_owM, exec, ev, evl, evo, evi, evf, evg, seqM, seqB, seqW, seqC, borM, borI, testM, optM, bindT, bindT.binds, storeF, storesF, wipeF, id_eq, seqS, lstOf_lst,
  lookV_0, lookV_s, borV_0, borV_1, borV_s, ownAt_0, ownAt_s, frzF_0, frzF_1, frzF_2, frzF_s, ofK_sh, ofK_ow, owK_ow, truth_bl, truth_non, truth_int, truth_tup, truth_lst, cmp_le, cmp_lt, cmp_ge, cmp_gt, cmp_eq, cmp_ne, cmp_in, cmp_nin, bin_add, bin_sub, neg_int, rev_tup, rev_lst, item_tup, item_lst, item_tup0, item_lst0, item_last, bi_len_tup, bi_len_lst, bi_tuple_lst, bi_tuple_tup, bi_list_lst, bi_list_tup, bi_int_int, bi_int_bl, bi_repr, bi_all, bi_sorted_lst, bi_sorted_tup,
  row_tup, row_lst, walk_tup, walk_lst, walk_seqI, cx_call, cx_glob, cx_fields, cx_sub, turnK_next, turnK_cont, turnK_brk, turnK_ret, turnK_exc, thenK_next, thenK_ret, thenK_exc, thenK_brk, thenK_cont, endK_ret, endK_next, endK_exc, wp_nil, wp_okRow, bi_list_seqI, ty_tup, ty_bl, wp_try, tryK_ret, tryK_next, tryK_exc, hotK_ret, tx_call, tx_glob, tx_sub, tx_fields, tx_thunk, low_call, low_glob, low_glob, get_cells, get_at, get_digits, get_count, get_fold, set_at, set_digits, set_count, set_fold,
  List.getElem?_cons_zero, List.getElem?_cons_succ, List.length_cons, List.length_nil, List.set_cons_zero, List.set_cons_succ, List.map_cons, List.map_nil, List.zip_cons_cons, List.zip_nil_right, List.zip_nil_left, List.replicate, List.append_nil, List.cons_append, List.nil_append, Option.bind_some, Option.map_some, Option.bind_none, Option.map_none, Nat.reduceAdd, Nat.reduceSub, Nat.reduceLT, Nat.reduceLeDiff, if_true, if_false, Bool.false_eq_true, Nat.zero_add, Nat.lt_irrefl, Nat.zero_lt_succ, Nat.reduceSucc, decide_true, decide_false, Bool.true_eq_false, if_pos, Bool.not_true, Bool.not_false, Bool.not_eq_true', Bool.not_eq_false', decide_eq_true_eq, decide_eq_false_iff_not, Prod.mk.injEq, c_add, c_add1, c_add2, c_add3, c_1add, c_2add, c_sub, c_sub1, c_sub2, c_le, c_lt, c_0le, c_1le, c_0lt, c_1lt, c_2le, c_le8, c_eq, c_eq0, c_eq1, getN, sizeT, ifT, ifF, ifTP, ifFP, guardL, sliceTo, sliceFrom, dct_item, evg1, pairM, dctM, keyD_int, dctD_dct, get2_eq, seqP, range1, range2, eqD_int, eqD_natT, eqD_natL, eqD_bl, add_tup, add_lst, addF_lst, List.length_map, List.length_range, List.length_range', true_and, and_true, Option.some.injEq, Int.toNat_natCast])
local macro_rules | `(tactic| walk_at "gc") => `(tactic| (rw [wp_cons]; walk_at "go"))
theorem def_is_integer : P.prog.defs "is_integer" = some d_is_integer.d := by rfl
theorem def_is_row : P.prog.defs "is_row" = some d_is_row.d := by rfl
theorem def_is_order : P.prog.defs "is_order" = some d_is_order.d := by rfl
theorem def_need_orders : P.prog.defs "need_orders" = some d_need_orders.d := by rfl
theorem def_stepped : P.prog.defs "stepped" = some d_stepped.d := by rfl
theorem def_short_word : P.prog.defs "short_word" = some d_short_word.d := by rfl
theorem def_falls_ahead : P.prog.defs "falls_ahead" = some d_falls_ahead.d := by rfl
theorem def_items_exchanged : P.prog.defs "items_exchanged" = some d_items_exchanged.d := by rfl
theorem def_raised_along : P.prog.defs "raised_along" = some d_raised_along.d := by rfl
theorem def_star : P.prog.defs "star" = some d_star.d := by rfl
theorem def_dropped : P.prog.defs "dropped" = some d_dropped.d := by rfl
theorem def__law_pen : P.prog.defs "_law_pen" = some d__law_pen.d := by rfl
theorem def__law_draw : P.prog.defs "_law_draw" = some d__law_draw.d := by rfl
theorem def__law_pick : P.prog.defs "_law_pick" = some d__law_pick.d := by rfl
theorem def__law_shuffled : P.prog.defs "_law_shuffled" = some d__law_shuffled.d := by rfl
theorem def__law_rows_of : P.prog.defs "_law_rows_of" = some d__law_rows_of.d := by rfl
theorem def__law_pairs : P.prog.defs "_law_pairs" = some d__law_pairs.d := by rfl
theorem def__law_some_order : P.prog.defs "_law_some_order" = some d__law_some_order.d := by rfl
theorem def__law_listed : P.prog.defs "_law_listed" = some d__law_listed.d := by rfl
theorem def__law_stepped : P.prog.defs "_law_stepped" = some d__law_stepped.d := by rfl
theorem def__law_swapped : P.prog.defs "_law_swapped" = some d__law_swapped.d := by rfl
theorem def__law_back : P.prog.defs "_law_back" = some d__law_back.d := by rfl
theorem def__law_short_word : P.prog.defs "_law_short_word" = some d__law_short_word.d := by rfl
theorem def__law_lower : P.prog.defs "_law_lower" = some d__law_lower.d := by rfl
theorem def__law_is_below : P.prog.defs "_law_is_below" = some d__law_is_below.d := by rfl
theorem def__law_is_integer : P.prog.defs "_law_is_integer" = some d__law_is_integer.d := by rfl
theorem def__law_is_row_of : P.prog.defs "_law_is_row_of" = some d__law_is_row_of.d := by rfl
theorem def__law_is_own_order : P.prog.defs "_law_is_own_order" = some d__law_is_own_order.d := by rfl
theorem def__law_no_order : P.prog.defs "_law_no_order" = some d__law_no_order.d := by rfl
theorem def__law_near_order : P.prog.defs "_law_near_order" = some d__law_near_order.d := by rfl
theorem def__law_up : P.prog.defs "_law_up" = some d__law_up.d := by rfl
theorem def__law_plain : P.prog.defs "_law_plain" = some d__law_plain.d := by rfl
theorem def__law_own_dropped : P.prog.defs "_law_own_dropped" = some d__law_own_dropped.d := by rfl
theorem def__law_upper : P.prog.defs "_law_upper" = some d__law_upper.d := by rfl
theorem def__law_pair_right : P.prog.defs "_law_pair_right" = some d__law_pair_right.d := by rfl
theorem def__law_all_right : P.prog.defs "_law_all_right" = some d__law_all_right.d := by rfl
theorem def__law_refused : P.prog.defs "_law_refused" = some d__law_refused.d := by rfl
theorem def_law : P.prog.defs "law" = some d_law.d := by rfl
theorem fld_BadOrder : P.prog.fields "BadOrder" = (["value"] : List Str) := by rfl
theorem fld_NotSame : P.prog.fields "NotSame" = (["order"] : List Str) := by rfl
theorem glob_MOST : P.prog.glob "MOST" = some (.int 8) := by rfl
variable {k : Nat} {st : Store} {Q : Slot → Store → Prop} {X : Str → List (Str × D) → Store → Prop}
theorem is_integer_w {d : D} (h : d.pl = true) : Wp (P.prog.call (k + 1) "is_integer" [d]) st Q X = Q (.sh (.bl (isInt d))) st := by
  rw [wp_call def_is_integer rfl]
  unfold d_is_integer
  dsimp only
  walk_at "sc"
  rw [ty_int h]
  walk_at "sx"
  rw [ty_bool h]
  walk_at "sx"
  cases d <;> simp [isInt, isBl]
theorem is_row_w {d : D} (h : d.pl = true) : Wp (P.prog.call (k + 1) "is_row" [d]) st Q X = Q (.sh (.bl (isRow d))) st := by
  rw [wp_call def_is_row rfl]
  unfold d_is_row
  dsimp only
  walk_at "sc"
  rw [ty_row h]
  walk_at "sx"
theorem is_order_w {d : D} (h : d.pl = true) (hQ : Q (.sh (.bl (isOrd d))) st) : Wp (P.prog.call (k + 2) "is_order" [d]) st Q X := by
  rw [wp_call def_is_order rfl]
  unfold d_is_order
  dsimp only
  rw [wp_cons]
  walk_at "sx"
  simp only [is_row_w h, glob_MOST]
  walk_at "sx"
  cases hr : rowOf d with
  | none =>
    have e1 : isRow d = false := by cases d <;> first | rfl | cases hr
    have e2 : isOrd d = false := by unfold isOrd; rw [hr]
    rw [e1, if_neg (by simp), if_pos rfl, wp_cons]
    walk_at "sx"
    rw [e2] at hQ
    exact hQ
  | some ds =>
    have e1 : isRow d = true := by cases d <;> first | rfl | cases hr
    have e2 : isOrd d = ordDs ds := by unfold isOrd; rw [hr]
    have e3 : biD .len [d] = some (.int ds.length) := by cases d <;> first | (cases hr; rfl) | cases hr
    have e4 : walkOf d = some ds := by cases d <;> first | exact hr | cases hr
    have e5 : biD .sorted [d] = (sortedD ds).map .lst := by cases d <;> first | (cases hr; rfl) | cases hr
    have e6 : D.pls ds = true := by cases d <;> first | (cases hr; exact h) | cases hr
    rw [e1, if_pos rfl, e3]
    walk_at "sx"
    rw [e2] at hQ
    have stop : ordDs ds = false → Wp (execs (cx P.prog (k + 1)) [S.ret (E.bl false)] [some (Slot.sh d), none]) st (thenK (cx P.prog (k + 1)) [S.ret (E.cmp CmpOp.Eq (E.bi BI.sorted [E.var 0]) (E.lrng [E.bi BI.len [E.var 0]]))] (endK Q X) X0) X0 := fun h => by
      rw [wp_cons]
      walk_at "sx"
      rw [h] at hQ
      exact hQ
    have hpl : ∀ x ∈ ds, D.pl x = true := pls_mem e6
    by_cases h1 : 1 ≤ ds.length
    · rw [if_pos (by omega)]
      by_cases h2 : ds.length ≤ 8
      · rw [if_pos (by omega)]
        refine wp_lcm ds id (fun x => .bl (isInt x)) (le_size (by omega)) (fun R hR => ?_) (fun x hx R hR => ?_) ?_
        · walk_at "sx"
          rw [e4, wp_some]
          simpa using hR
        · walk_at "sx"
          rw [is_integer_w (hpl x hx)]
          exact hR
        · rw [bi_all, bools_map]
          walk_at "sx"
          cases hall : ds.all isInt with
          | false =>
            have : (ds.map isInt).all id = false := by rw [List.all_map]; exact hall
            rw [this, if_pos rfl]
            exact stop (by unfold ordDs; rw [intL_not hall, Bool.and_false])
          | true =>
            have : (ds.map isInt).all id = true := by rw [List.all_map]; exact hall
            rw [this, if_neg (by simp), wp_cons]
            walk_at "sx"
            obtain ⟨ns, en⟩ := intL_all hall
            have ed := intL_some en
            have el : ns.length = ds.length := by rw [ed, List.length_map]
            have es : sortedD ds = some ((sortI ns).map .int) := by rw [ed, sortedD_ints]
            rw [e5, e3, es]
            walk_at "sx"
            rw [range1 (by omega)]
            walk_at "sx"
            refine ⟨by rw [List.length_map, List.length_range]; exact le_size (by omega), ?_⟩
            have ho : ordDs ds = decide (sortI ns = (List.range ds.length).map (fun n : Nat => (n : Int))) := by
              unfold ordDs
              rw [en, decide_eq_true (show 1 ≤ ds.length ∧ ds.length ≤ 8 from ⟨h1, h2⟩)]
              exact Bool.true_and _
            rw [nat_ints, eqD_intsL, ← ho]
            walk_at "sx"
            exact hQ
      · rw [if_neg (by omega), if_pos (by omega)]
        exact stop (by unfold ordDs; rw [decide_eq_false (by omega)]; rfl)
    · rw [if_neg (by omega)]
      exact stop (by unfold ordDs; rw [decide_eq_false (by omega)]; rfl)
theorem need_orders_w {ds : List D} (h : D.pls ds = true) (h1 : needErr none ds = none → Q (.ow (ds.map toTup)) st) (h2 : ∀ c fs, needErr none ds = some (c, fs) → X c fs st) (hz : ds.length ≤ 1000000) : Wp (P.prog.call (k + 3) "need_orders" [.lst ds]) st Q X := by
  rw [wp_call def_need_orders rfl]
  unfold d_need_orders
  dsimp only
  walk_at "sc"
  refine ⟨le_size (by decide), ?_⟩
  walk_at "sc"
  refine wp_loop (fun r δ st' => st' = st ∧ ∃ pre j, ds = pre ++ r ∧ δ = [some (.sh (.lst ds)), some (.ow (pre.map toTup)), j] ∧ (∀ d, pre.head? = some d → ∃ e, rowOf d = some e) ∧ needErr none ds = needErr (pre.head?.map dlen) r) ⟨rfl, [], none, rfl, rfl, by simp, rfl⟩ ?_ ?_
  · rintro d r δ st' ⟨rfl, pre, j, e1, rfl, hr, e2⟩
    have hd : d.pl = true := pls_mem h d (by rw [e1]; simp)
    walk_at "sx"
    walk_at "sc"
    refine is_order_w hd ?_
    walk_at "sx"
    cases ho : isOrd d with
    | false =>
      rw [if_pos rfl]
      walk_at "sc"
      rw [fld_BadOrder]
      walk_at "sx"
      exact h2 _ _ (by rw [e2]; show (if isOrd d = false then _ else _) = _; rw [if_pos ho])
    | true =>
      obtain ⟨es, er, eo⟩ := isOrd_rowOf ho
      have et : toTup d = .tup es := by unfold toTup; rw [er]
      have el : dlen d = es.length := by unfold dlen; rw [er]
      rw [if_neg (by simp)]
      walk_at "sc"
      rw [row_tuple er]
      walk_at "sx"
      rw [wp_guard]
      refine ⟨decide_eq_true ?_, ?_⟩
      · have : pre.length < ds.length := by rw [e1]; simp
        rw [List.length_map]
        have := le_size hz
        omega
      walk_at "sx"
      walk_at "sc"
      rw [row_len er]
      walk_at "sx"
      have hnx : needErr (pre.head?.map dlen) (d :: r) = if (pre.head?.map dlen).getD (dlen d) = dlen d then needErr (some (dlen d)) r else some ("NotSame", [("order", toTup d)]) := by
        show (if isOrd d = false then _ else _) = _
        rw [if_neg (by rw [ho]; simp)]
      cases pre with
      | nil =>
        simp only [List.map_nil, List.nil_append, List.getElem?_cons_zero, et]
        walk_at "sx"
        rw [eqD_int]
        walk_at "sx"
        refine ⟨trivial, [d], some (.sh d), e1, by rw [List.map_cons, et]; rfl, ?_, ?_⟩
        · intro d' h'
          cases h'
          exact ⟨es, er⟩
        · rw [e2, hnx]
          simp
      | cons a pre =>
        obtain ⟨ea, era⟩ := hr a rfl
        have eta : toTup a = .tup ea := by unfold toTup; rw [era]
        have ela : dlen a = ea.length := by unfold dlen; rw [era]
        simp only [List.map_cons, List.cons_append, List.getElem?_cons_zero, eta]
        walk_at "sx"
        rw [eqD_int]
        walk_at "sx"
        have hc : ((es.length : Int) = (ea.length : Int)) ↔ dlen a = dlen d := by rw [el, ela]; omega
        have hg : ((a :: pre).head?.map dlen).getD (dlen d) = dlen a := rfl
        rw [hg] at hnx
        by_cases hq : dlen a = dlen d
        · rw [if_neg (by rw [hc]; simpa using hq)]
          walk_at "sx"
          refine ⟨trivial, a :: pre ++ [d], some (.sh d), by rw [e1]; simp, by simp [et, eta], ?_, ?_⟩
          · intro d' h'
            exact hr d' h'
          · rw [e2, hnx, if_pos hq]
            show _ = needErr (some (dlen a)) r
            rw [hq]
        · rw [if_pos (by rw [hc]; exact hq)]
          walk_at "sc"
          have e5 : (D.tup ea :: (List.map toTup pre ++ [D.tup es])).getLast? = some (toTup d) := by
            rw [← List.cons_append, List.getLast?_concat, et]
          rw [fld_NotSame, e5]
          walk_at "sx"
          exact h2 _ _ (by rw [e2, hnx, if_neg hq])
  · rintro δ st' ⟨rfl, pre, j, e1, rfl, hr, e2⟩
    rw [List.append_nil] at e1
    subst e1
    walk_at "sx"
    walk_at "sc"
    exact h1 e2
theorem rowD_pl {l : Bool} {w : List Nat} (h : IsOrder w) : (rowD l w).pl = true := by
  have : D.pls (w.map nD) = true := pls_of fun d hd => by
    obtain ⟨x, hx, rfl⟩ := List.mem_map.mp hd
    have h1 := h.lt hx
    have h2 := h.most
    exact decide_eq_true (by omega)
  cases l <;> exact this
theorem dlen_row (l : Bool) (w : List Nat) : dlen (rowD l w) = w.length := by cases l <;> simp [dlen, rowD, rowOf]
theorem enum_at {w : List Nat} {i : Nat} {d : D} (h : (enumD (w.map nD))[i]? = some d) : ∃ hi : i < w.length, d = .tup [nD i, nD w[i]] := by
  unfold enumD at h
  rw [List.getElem?_map, List.getElem?_zipIdx, List.getElem?_map] at h
  cases e : w[i]? with
  | none => rw [e] at h; cases h
  | some x =>
    rw [e] at h
    obtain ⟨hi, rfl⟩ := List.getElem?_eq_some_iff.mp e
    refine ⟨hi, ?_⟩
    have := Option.some.inj h
    rw [← this]
    simp
theorem enum_len (ds : List D) : (enumD ds).length = ds.length := by unfold enumD; simp
theorem perm_erase {α : Type} : ∀ {l : List α} {i : Nat} (h : i < l.length), (l[i] :: l.eraseIdx i).Perm l
  | x :: l, 0, _ => .refl _
  | x :: l, i + 1, h => by
    have h' : i < l.length := by simpa using h
    show (l[i] :: x :: l.eraseIdx i).Perm (x :: l)
    exact (List.Perm.swap ..).trans ((perm_erase h').cons x)
theorem draw_end {b m a d c f : Nat} {zs : List Int} {r : Store} {j : Option Slot} (h1 : 1 ≤ m) (h2 : m ≤ 1000000000) (hc : c ≤ b) (hb : b ≤ 1000001) (hf : f < 2147483648) (hq : ∀ x < m, ∀ st', Pen b r st' → Q (.sh (nD x)) st') : Wp (execs (cx P.prog k)
      [.ifs (.cmp .Gt (.cget (.var 0) "digits") (.int 0)) [.asg (.nm 3) (.bin .Mod (.bi .int [.cget (.var 0) "digits"]) (.var 1)), .cset (.var 0) "digits" (.bin .FloorDiv (.cget (.var 0) "digits") (.var 1)), .ret (.var 3)] [],
        .asg (.nm 4) (.bin .Add (.bin .Add (.cget (.var 0) "fold") (.bin .Mult (.cget (.var 0) "count") (.int 7907))) (.int 37)),
        .ret (.bin .Mod (.bin .FloorDiv (.bi .int [.bin .Mod (.bin .Pow (.var 4) (.int 17)) (.int 2305843009213693951)]) (.int 128)) (.var 1))]
      [some (.sh (.cell 0)), some (.sh (nD m)), j, none, none]) (penS zs a d c f r) (endK Q X) X0 := by
  walk_at "sc"
  by_cases hd : 0 < d
  · rw [if_pos (by omega)]
    walk_at "sc"
    obtain ⟨x, ex, hx⟩ := mod_int (d : Int) (show 0 < m by omega)
    rw [ex]
    walk_at "sx"
    walk_at "sc"
    rw [fdiv_nat d (show 0 < m by omega) (by omega)]
    walk_at "sx"
    walk_at "sc"
    exact hq x hx _ ⟨zs, a, d / m, c, f, rfl, hc, hf⟩
  · rw [if_neg (by omega)]
    walk_at "sx"
    walk_at "sc"
    rw [show (7907 : Int) = ((7907 : Nat) : Int) by rfl, mul_nat (show c < 2 ^ 64 by omega) (by decide)]
    walk_at "sx"
    rw [show (f : Int) + ((c * 7907 : Nat) : Int) + 37 = ((f + c * 7907 + 37 : Nat) : Int) by omega]
    walk_at "sc"
    rw [show (17 : Int) = ((17 : Nat) : Int) by rfl, pow_nat (show f + c * 7907 + 37 < 2 ^ 64 by omega) (by decide)]
    walk_at "sx"
    obtain ⟨y, ey, hy⟩ := mod_int (((f + c * 7907 + 37) ^ 17 : Nat) : Int) (show 0 < 2305843009213693951 by decide)
    rw [show (2305843009213693951 : Int) = ((2305843009213693951 : Nat) : Int) by rfl, ey]
    walk_at "sx"
    rw [show (128 : Int) = ((128 : Nat) : Int) by rfl, fdiv_nat y (by decide) (by decide)]
    walk_at "sx"
    obtain ⟨z, ez, hz⟩ := mod_int ((y / 128 : Nat) : Int) (show 0 < m by omega)
    rw [ez]
    walk_at "sx"
    exact hq z hz _ ⟨zs, a, d, c, f, rfl, hc, hf⟩
theorem draw_w {b m : Nat} {r st : Store} (hp : Pen b r st) (hb : b ≤ 1000000) (h1 : 1 ≤ m) (h2 : m ≤ 1000000000) (hq : ∀ x < m, ∀ st', Pen (b + 1) r st' → Q (.sh (nD x)) st') : Wp (P.prog.call (k + 1) "_law_draw" [.cell 0, nD m]) st Q X := by
  obtain ⟨zs, a, d, c, f, rfl, hc, hf⟩ := hp
  rw [wp_call def__law_draw rfl]
  unfold d__law_draw
  dsimp only
  walk_at "sc"
  rw [show (c : Int) + 1 = ((c + 1 : Nat) : Int) by omega]
  walk_at "sx"
  walk_at "sc"
  rw [eqD_int]
  walk_at "sx"
  have p18 : binD .Pow (.int 10) (.int 18) = some (.int 1000000000000000000) := by rfl
  by_cases hd : (d : Int) = 0
  · rw [if_pos hd, List.length_map]
    by_cases ha : a < zs.length
    · rw [if_pos (by omega)]
      walk_at "sc"
      rw [List.getElem?_map, List.getElem?_eq_getElem ha]
      walk_at "sx"
      walk_at "sc"
      rw [show (a : Int) + 1 = ((a + 1 : Nat) : Int) by omega]
      walk_at "sx"
      walk_at "sc"
      rw [p18]
      walk_at "sx"
      by_cases hz : (1000000000000000000 : Int) ≤ zs[a]
      · rw [if_pos hz]
        walk_at "sc"
        rw [p18]
        walk_at "sx"
        rw [show zs[a] - 1000000000000000000 = (((zs[a] - 1000000000000000000).toNat : Nat) : Int) by omega]
        walk_at "sx"
        exact draw_end h1 h2 (show c + 1 ≤ b + 1 by omega) (by omega) hf hq
      · rw [if_neg hz]
        walk_at "sc"
        rw [show (69069 : Int) = ((69069 : Nat) : Int) by rfl, mul_nat (show f < 2 ^ 64 by omega) (by decide)]
        walk_at "sx"
        obtain ⟨y, ey, hy⟩ := mod_int (((f * 69069 : Nat) : Int) + zs[a]) (show 0 < 2147483587 by decide)
        rw [show (2147483587 : Int) = ((2147483587 : Nat) : Int) by rfl, ey]
        walk_at "sx"
        exact draw_end h1 h2 (show c + 1 ≤ b + 1 by omega) (by omega) (by omega) hq
    · rw [if_neg (by omega)]
      walk_at "sx"
      exact draw_end h1 h2 (show c + 1 ≤ b + 1 by omega) (by omega) hf hq
  · rw [if_neg hd, if_neg hd]
    walk_at "sx"
    exact draw_end h1 h2 (show c + 1 ≤ b + 1 by omega) (by omega) hf hq
theorem pick_w {b : Nat} {r st : Store} {some_ : D} {ds : List D} (hs : rowOf some_ = some ds) (hp : Pen b r st) (hb : b ≤ 1000000) (h1 : 1 ≤ ds.length) (h2 : ds.length ≤ 1000000) (hq : ∀ d ∈ ds, ∀ st', Pen (b + 1) r st' → Q (.sh d) st') : Wp (P.prog.call (k + 2) "_law_pick" [.cell 0, some_]) st Q X := by
  rw [wp_call def__law_pick rfl]
  unfold d__law_pick
  dsimp only
  walk_at "sc"
  rw [row_len hs]
  walk_at "sx"
  refine draw_w hp hb h1 (by omega) fun x hx st' hp' => ?_
  walk_at "sx"
  have : itemD some_ (.int (x : Int)) = ds[x]? := by cases some_ <;> first | (cases hs; exact item_tup _ _) | cases hs
  rw [this, List.getElem?_eq_getElem hx]
  walk_at "sx"
  exact hq _ (List.getElem_mem hx) _ hp'
theorem shuffled_w {b : Nat} {r st : Store} {w : List Nat} (hp : Pen b r st) (hb : b + w.length ≤ 1000000) (hq : ∀ w' : List Nat, w'.Perm w → ∀ st', Pen (b + w.length) r st' → Q (.ow (w'.map nD)) st') : Wp (P.prog.call (k + 2) "_law_shuffled" [.cell 0, lstN w]) st Q X := by
  rw [wp_call def__law_shuffled rfl]
  unfold d__law_shuffled
  dsimp only
  walk_at "sc"
  refine ⟨le_size (by decide), ?_⟩
  walk_at "sc"
  rw [List.length_map, range1 (by omega)]
  walk_at "sx"
  refine wp_loopN (fun i δ s => Pen (b + i) r s ∧ ∃ R F j, δ = [some (.sh (.cell 0)), some (.sh (lstN w)), some (.ow (R.map nD)), some (.ow (F.map nD)), j] ∧ R.length + i = w.length ∧ F.length = i ∧ (F ++ R).Perm w) ⟨hp, w, [], none, rfl, by simp, rfl, by simp⟩ ?_ ?_
  · rintro i d δ s hd ⟨hp, R, F, j, rfl, g1, g2, g3⟩
    have hi : i < w.length := by
      have := (List.getElem?_eq_some_iff.mp hd).1
      simpa using this
    walk_at "sx"
    walk_at "sc"
    rw [List.length_map]
    refine draw_w hp (by omega) (by omega) (by omega) fun x hx s' hp' => ?_
    walk_at "sx"
    rw [pop_nat (getD_map nD hx) (by omega)]
    walk_at "sx"
    rw [wp_guard]
    refine ⟨decide_eq_true ?_, ?_⟩
    · rw [List.length_map]
      have := le_size (n := F.length + 1) (by omega)
      omega
    · walk_at "sx"
      refine ⟨by rw [← Nat.add_assoc]; exact hp', R.eraseIdx x, F ++ [R.getD x 0], some (.sh d), by rw [erase_map]; simp, ?_, by simp [g2], ?_⟩
      · rw [List.length_eraseIdx_of_lt hx]
        omega
      · refine List.Perm.trans ?_ g3
        rw [List.append_assoc]
        refine List.Perm.append_left F ?_
        have e1 : R.getD x 0 = R[x] := by rw [List.getD_eq_getElem?_getD, List.getElem?_eq_getElem hx]; rfl
        rw [e1]
        exact perm_erase hx
  · rintro δ s ⟨hp, R, F, j, rfl, g1, g2, g3⟩
    rw [List.length_map, List.length_range] at hp g1 g2
    walk_at "sx"
    walk_at "sc"
    have : R = [] := List.length_eq_zero_iff.mp (by omega)
    subst this
    rw [List.append_nil] at g3
    exact hq F g3 _ hp
theorem some_order_w {b n : Nat} {r st : Store} (hp : Pen b r st) (h1 : 1 ≤ n) (h8 : n ≤ 8) (hb : b ≤ 900000) (hq : ∀ w, IsOrder w → w.length = n → ∀ st', Pen (b + 8) r st' → Q (.sh (tupN w)) st') : Wp (P.prog.call (k + 3) "_law_some_order" [.cell 0, nD n]) st Q X := by
  rw [wp_call def__law_some_order rfl]
  unfold d__law_some_order
  dsimp only
  walk_at "sc"
  rw [range1 (by omega)]
  walk_at "sx"
  refine ⟨by rw [List.length_map, List.length_range]; exact le_size (by omega), ?_⟩
  refine shuffled_w hp (by rw [List.length_range]; omega) fun w hw st' hp' => ?_
  have hl : w.length = n := by rw [hw.length_eq, List.length_range]
  walk_at "sx"
  exact hq w ⟨by rw [hl]; exact hw, by omega, by omega⟩ hl st' (hp'.mono (by rw [List.length_range]; omega))
theorem listed_w {b : Nat} {r st : Store} {d : D} {ds : List D} (hs : rowOf d = some ds) (hp : Pen b r st) (hb : b ≤ 900000) (hq : ∀ l : Bool, ∀ st', Pen (b + 1) r st' → Q (.sh (if l then .lst ds else .tup ds)) st') : Wp (P.prog.call (k + 2) "_law_listed" [.cell 0, d]) st Q X := by
  rw [wp_call def__law_listed rfl]
  unfold d__law_listed
  dsimp only
  walk_at "sc"
  refine draw_w (m := 2) hp (by omega) (by decide) (by decide) fun x hx st' hp' => ?_
  walk_at "sx"
  rw [eqD_int]
  walk_at "sx"
  by_cases h0 : (x : Int) = 0
  · rw [if_pos h0]
    have : biD .list [d] = some (.lst ds) := by cases d <;> first | (cases hs; rfl) | cases hs
    rw [this]
    walk_at "sx"
    exact hq true st' hp'
  · rw [if_neg h0, row_tuple hs]
    walk_at "sx"
    exact hq false st' hp'
theorem pen_w {zs : List Int} (hq : ∀ st', Pen 0 [] st' → Q (.sh (.cell 0)) st') : Wp (P.prog.call (k + 1) "_law_pen" [.seqI zs]) [] Q X := by
  rw [wp_call def__law_pen rfl]
  unfold d__law_pen
  dsimp only
  walk_at "sc"
  walk_at "sc"
  refine wp_loop (fun r δ s => s = [] ∧ ∃ f : Nat, ∃ j, δ = [some (.sh (.seqI zs)), some (.sh (nD f)), j] ∧ f < 1000000007 ∧ ∀ d ∈ r, ∃ z : Int, d = .int z) ⟨rfl, 0, none, rfl, by decide, fun d hd => by
    obtain ⟨z, _, rfl⟩ := List.mem_map.mp hd
    exact ⟨z, rfl⟩⟩ ?_ ?_
  · rintro d r δ s ⟨rfl, f, j, rfl, hf, hr⟩
    obtain ⟨z, rfl⟩ := hr d (by simp)
    walk_at "sx"
    walk_at "sc"
    rw [show (47 : Int) = ((47 : Nat) : Int) by rfl, mul_nat (show f < 2 ^ 64 by omega) (by decide)]
    walk_at "sx"
    obtain ⟨y, ey, hy⟩ := mod_int (((f * 47 : Nat) : Int) + z) (show 0 < 1000000007 by decide)
    rw [show (1000000007 : Int) = ((1000000007 : Nat) : Int) by rfl, ey]
    walk_at "sx"
    exact ⟨trivial, y, _, rfl, hy, fun d hd => hr d (List.mem_cons_of_mem _ hd)⟩
  · rintro δ s ⟨rfl, f, j, rfl, hf, hr⟩
    walk_at "sx"
    walk_at "sc"
    rw [wp_disp (by decide +kernel) (by rfl)]
    exact hq _ ⟨zs, 0, 0, 0, f, rfl, Nat.le_refl _, by omega⟩
theorem law_pairs_w {n : Nat} (h : n ≤ 100) (hq : Q (.sh (.lst ((pairsN n).map pD))) st) : Wp (P.prog.call (k + 1) "_law_pairs" [nD n]) st Q X := by
  rw [wp_call def__law_pairs rfl]
  unfold d__law_pairs
  dsimp only
  walk_at "sc"
  refine ⟨le_size (by decide), ?_⟩
  walk_at "sc"
  rw [range1 (by omega)]
  walk_at "sx"
  refine wp_loopN (fun i δ s => s = st ∧ ∃ j, δ = [some (.sh (nD n)), some (.sh (.lst (((List.range i).flatMap fun i => (List.range' (i + 1) (n - (i + 1))).map fun j => (i, j)).map pD))), j, none]) ⟨rfl, none, rfl⟩ ?_ ?_
  · rintro i d δ s hd ⟨rfl, j, rfl⟩
    have hi : i < n := by
      have := (List.getElem?_eq_some_iff.mp hd).1
      simpa using this
    rw [List.getElem?_map, List.getElem?_range hi] at hd
    cases hd
    walk_at "sx"
    walk_at "sc"
    refine wp_lcm (List.range' (i + 1) (n - (i + 1))) nD (fun j => pD (i, j)) (le_size (by rw [List.length_range']; omega)) (fun R hR => ?_) (fun x hx R hR => ?_) ?_
    · walk_at "sx"
      rw [show (i : Int) + 1 = ((i + 1 : Nat) : Int) by omega, range2 (by omega) (by omega)]
      walk_at "sx"
      exact hR
    · walk_at "sx"
      exact ⟨le_size (by decide), hR⟩
    · have hl : ((List.range i).flatMap fun i => (List.range' (i + 1) (n - (i + 1))).map fun j => (i, j)).length ≤ i * n := by
        have := flat_len (fun i => (List.range' (i + 1) (n - (i + 1))).map fun j => (i, j)) n (List.range i) fun i _ => by rw [List.length_map, List.length_range']; omega
        rwa [List.length_range] at this
      have hm : i * n ≤ 100 * 100 := Nat.mul_le_mul (by omega) h
      rw [add_lst (by rw [List.length_map, List.length_map, List.length_range']; omega)]
      walk_at "sx"
      refine ⟨trivial, some (.sh (nD i)), ?_⟩
      rw [List.range_succ, List.flatMap_append, List.map_append, List.flatMap_singleton, List.map_map]
      rfl
  · rintro δ s ⟨rfl, j, rfl⟩
    walk_at "sx"
    walk_at "sc"
    rw [List.length_map, List.length_range]
    exact hq
theorem law_back_w {w : List Nat} (h : IsOrder w) (hq : Q (.sh (tupN (backN w))) st) : Wp (P.prog.call (k + 1) "_law_back" [tupN w]) st Q X := by
  rw [wp_call def__law_back rfl]
  unfold d__law_back
  dsimp only
  walk_at "sc"
  refine ⟨le_size (by simp), ?_⟩
  rw [List.length_map, rep1F _ h.len]
  walk_at "sx"
  walk_at "sc"
  refine wp_loopN (fun j δ st' => st' = st ∧ ∃ a b, δ = [some (.sh (tupN w)), some (.ow (((List.range w.length).map fun i => if w.idxOf i < j then w.idxOf i else 0).map nD)), a, b]) ⟨rfl, none, none, ?_⟩ ?_ ?_
  · have : List.replicate w.length (D.int 0) = ((List.range w.length).map fun i => if w.idxOf i < 0 then w.idxOf i else 0).map nD := by
      rw [List.map_map]
      refine List.ext_getElem (by simp) fun i h1 h2 => ?_
      simp
    rw [this]
  · rintro j d δ st' hd ⟨rfl, a, b, rfl⟩
    obtain ⟨hj, rfl⟩ := enum_at hd
    walk_at "sx"
    walk_at "sc"
    have hlt : w[j] < w.length := h.lt (List.getElem_mem hj)
    rw [put_nat (by simpa using hlt)]
    walk_at "sx"
    refine ⟨trivial, some (.sh (nD j)), some (.sh (nD w[j])), ?_⟩
    rw [← back_step h hj, List.map_set]
  · rintro δ st' ⟨rfl, a, b, rfl⟩
    walk_at "sx"
    walk_at "sc"
    have : ((List.range w.length).map fun i => if w.idxOf i < (enumD (w.map nD)).length then w.idxOf i else 0) = backN w := by
      unfold backN
      refine List.map_congr_left fun i hi => ?_
      rw [enum_len, List.length_map, if_pos (List.idxOf_lt_length_of_mem (h.mem (List.mem_range.mp hi)))]
    rw [this]
    exact hq
theorem listedN {b : Nat} {r st : Store} {w : List Nat} (hp : Pen b r st) (hb : b ≤ 900000) (hq : ∀ l : Bool, ∀ st', Pen (b + 1) r st' → Q (.sh (rowD l w)) st') : Wp (P.prog.call (k + 2) "_law_listed" [.cell 0, tupN w]) st Q X :=
  listed_w (ds := w.map nD) rfl hp hb fun l st' hp' => hq l st' hp'
theorem stepped_w {w : List Nat} {k' : Nat} (h : k' + 1 < w.length) (hz : w.length ≤ 1000) (hq : Q (.sh (tupN (stN w k'))) st) : Wp (P.prog.call (k + 1) "stepped" [tupN w, nD k']) st Q X := by
  rw [wp_call def_stepped rfl]
  unfold d_stepped
  dsimp only
  walk_at "sc"
  rw [show ((k' : Int) + 1) = ((k' + 1 : Nat) : Int) by omega, show ((k' : Int) + 2) = ((k' + 2 : Nat) : Int) by omega]
  rw [slice_to, item_nat h, show (w.map nD)[k']? = some (nD (w.getD k' 0)) from getD_map nD (by omega), wp_some, wp_some, wp_some]
  refine ⟨le_size (by decide), ?_⟩
  rw [add_tup (by rw [List.length_take, List.length_map, List.length_cons, List.length_cons, List.length_nil]; omega), wp_some, slice_from rfl, wp_some, add_tup (by
    simp only [List.length_append, List.length_take, List.length_drop, List.length_map, List.length_cons, List.length_nil]
    omega), wp_some]
  have e : (w.map nD).take k' ++ [nD (w.getD (k' + 1) 0), nD (w.getD k' 0)] ++ (w.map nD).drop (k' + 2) = (stN w k').map nD := by
    rw [← stN_eq h, List.map_append, List.map_append, List.map_take, List.map_drop]
    rfl
  rw [e]
  exact hq
theorem law_stepped_w {w : List Nat} {k' : Nat} (h : k' + 1 < w.length) (hz : w.length ≤ 1000) (hq : Q (.sh (tupN (stN w k'))) st) : Wp (P.prog.call (k + 1) "_law_stepped" [tupN w, nD k']) st Q X := by
  rw [wp_call def__law_stepped rfl]
  unfold d__law_stepped
  dsimp only
  walk_at "sc"
  walk_at "sc"
  rw [show ((k' : Int) + 1) = ((k' + 1 : Nat) : Int) by omega]
  walk_at "sx"
  rw [getD_map nD h]
  walk_at "sx"
  rw [getD_map nD (show k' < w.length by omega)]
  walk_at "sx"
  rw [put_nat (by simp; omega)]
  walk_at "sx"
  rw [put_nat (by simp; omega)]
  walk_at "sx"
  walk_at "sc"
  rw [← List.map_set, ← List.map_set]
  exact hq
theorem slice_toN (a : Nat) (t : List Nat) : sliceD none (some (a : Int)) (lstN t) = some (lstN (t.take a)) := by
  unfold lstN
  rw [slice_toL, List.map_take]
theorem slice_fromN (a : Nat) (t : List Nat) : sliceD (some (a : Int)) none (lstN t) = some (lstN (t.drop a)) := by
  unfold lstN
  rw [slice_fromL, List.map_drop]
theorem slice_N {a b : Nat} {t : List Nat} (hab : a ≤ b) (hb : b ≤ t.length) : sliceD (some (a : Int)) (some (b : Int)) (lstN t) = some (lstN ((t.drop a).take (b - a))) := by
  unfold lstN
  rw [slice_L _ hab (by simpa using hb), List.map_take, List.map_drop]
theorem add_N {a b : List Nat} (h : a.length + b.length ≤ 1000000) : binD .Add (lstN a) (lstN b) = some (lstN (a ++ b)) := by
  unfold lstN
  rw [add_lst (by simpa using h), List.map_append]
theorem wp_lcI {elt : Ev} {own : List Nat} {t : T} {it : Fr → M (List D)} {δ : Fr} {st : Store} {X : Str → List (Str × D) → Store → Prop} {Q : D → Store → Prop} (I : List D → List D → Store → Prop)
    (hi : ∀ R : List D → Store → Prop, (∀ items st', I items [] st' → R items st') → Wp (it δ) st R X)
    (hs : ∀ d r acc st', I (d :: r) acc st' → Wp (M.bind (M.of (bindT t d (wipeF δ own))) elt) st' (fun e s => acc.length < sizeLine ∧ I r (acc ++ [e]) s) X0)
    (hf : ∀ acc st', I [] acc st' → Q (.lst acc) st') : Wp (lcM (leafM elt) [(own, t, it, [])] δ) st Q X := by
  show Wp (M.bind (it δ) fun items => M.bind (M.nox (foldG (fun d δ acc => M.bind (M.of (bindT t d δ)) fun δ' => M.bind (seqC [] δ') fun c => if c then leafM elt δ' acc else M.pure acc) (wipeF δ own) items [])) fun r => M.pure (.lst r)) st Q X
  rw [wp_bind]
  refine hi _ fun items st' h => ?_
  rw [wp_bind, wp_nox]
  refine wp_foldI I h (fun d r acc st2 h2 => ?_) fun acc st2 h2 => ?_
  · have h3 := hs d r acc st2 h2
    rw [wp_bind] at h3 ⊢
    refine wp_mono h3 (fun δ' s h4 => ?_) fun _ _ _ h => h
    rw [wp_bind]
    refine wp_pureI ?_
    rw [if_pos rfl, wp_leaf]
    exact h4
  · rw [wp_pure]
    exact hf acc st2 h2
theorem falls_ahead_w {w : List Nat} (h : IsOrder w) (hq : Q (.ow ((aheadN w).map nD)) st) : Wp (P.prog.call (k + 1) "falls_ahead" [tupN w]) st Q X := by
  have h8 := h.most
  have hp := h.pos
  rw [wp_call def_falls_ahead rfl]
  unfold d_falls_ahead
  dsimp only
  walk_at "gc"
  have nd : ((List.range w.length).map fun i => ((w.getD i 0 : Nat) : Int)).Nodup := by
    rw [show (fun i => ((w.getD i 0 : Nat) : Int)) = (fun n : Nat => (n : Int)) ∘ (fun i => w.getD i 0) from rfl, ← List.map_map, map_getD]
    exact h.nd.map (f := fun n : Nat => (n : Int)) fun a b hab e => hab (Int.ofNat_inj.mp e)
  refine wp_lcm (List.range w.length) (fun i => D.tup [nD i, nD (w.getD i 0)]) (fun i => D.tup [nD (w.getD i 0), nD i]) (le_size (by rw [List.length_range]; omega)) (fun R hR => ?_) (fun i hi R hR => ?_) ?_
  · walk_at "go"
    rw [enumD_nat]
    exact hR
  · walk_at "go"
    exact hR
  · have e1 := dctP_new (fun i => ((w.getD i 0 : Nat) : Int)) (fun i => nD i) (List.range w.length) [] nd fun _ _ p hp => absurd hp (by simp)
    rw [List.nil_append] at e1
    walk_at "go"
    rw [e1]
    walk_at "go"
    have gy : ∀ x, x < w.length → getY ((List.range w.length).map fun i => (kI ((w.getD i 0 : Nat) : Int), nD i)) (.inl (.inl (x : Int))) = some (nD (w.idxOf x)) := fun x hx => by
      obtain ⟨a1, a2⟩ := idx_at h hx
      have := getY_map (fun i => ((w.getD i 0 : Nat) : Int)) (fun i => nD i) nd (x := w.idxOf x) (List.mem_range.mpr a1)
      rw [a2] at this
      exact this
    generalize (List.range w.length).map (fun i => (kI ((w.getD i 0 : Nat) : Int), nD i)) = kvs at gy
    walk_at "gc"
    refine wp_lc (List.range (w.length - 1)) nD (fun k => decide (w.idxOf (k + 1) < w.idxOf k)) nD (le_size (by rw [List.length_range]; omega)) (fun R hR => ?_) (fun x hx R hR => ?_) ?_
    · walk_at "go"
      exact hR
    · have hx := List.mem_range.mp hx
      walk_at "go"
      rw [gy x (by omega), gy (x + 1) (by omega)]
      walk_at "go"
      by_cases hc : w.idxOf (x + 1) < w.idxOf x
      · rw [if_pos hc]
        rw [decide_eq_true hc] at hR
        exact hR
      · rw [if_neg hc]
        rw [decide_eq_false hc] at hR
        exact hR
    · walk_at "go"
      exact hq
theorem exch_item (a k' : Nat) : (if a = k' then nD (k' + 1) else if a = k' + 1 then nD k' else nD a) = nD (sx k' (k' + 1) a) := by
  unfold sx
  split
  · rfl
  · split <;> rfl
theorem items_exchanged_w {w : List Nat} {k' : Nat} (hz : w.length ≤ 1000) (hq : Q (.sh (tupN (exchN w k'))) st) : Wp (P.prog.call (k + 1) "items_exchanged" [tupN w, nD k']) st Q X := by
  rw [wp_call def_items_exchanged rfl]
  unfold d_items_exchanged
  dsimp only
  walk_at "gc"
  refine wp_lcm w nD (fun a => nD (sx k' (k' + 1) a)) (le_size (by omega)) (fun R hR => ?_) (fun a ha R hR => ?_) ?_
  · walk_at "go"
    exact hR
  · walk_at "go"
    rw [← exch_item] at hR
    split
    · rw [if_pos ‹_›] at hR
      exact hR
    · rw [if_neg ‹_›] at hR
      split
      · rw [if_pos ‹_›] at hR
        exact hR
      · rw [if_neg ‹_›] at hR
        exact hR
  · walk_at "go"
    rw [show tupN (exchN w k') = .tup (w.map fun a => nD (sx k' (k' + 1) a)) by unfold exchN; rw [tupN, List.map_map]; rfl] at hq
    exact hq
theorem short_word_w {w : List Nat} (h : IsOrder w) (hq : Q (.sh (tupN (firstW w))) st) : Wp (P.prog.call (k + 2) "short_word" [tupN w]) st Q X := by
  rw [wp_call def_short_word rfl]
  unfold d_short_word
  dsimp only
  walk_at "gc"
  rw [wp_cons]
  show Wp (loopW _ _ _ _) _ _ _
  have hi := inv_le h
  refine wp_loopW (fun m δ st' => st' = st ∧ ∃ (s : List Nat) (v : List Nat) (a : Option Slot), IsOrder v ∧ v.length = w.length ∧ m = invL v ∧ s.length + m = invL w ∧ firstW w = s ++ firstW v ∧ δ = [some (.sh (tupN w)), some (.ow (s.map nD)), some (.sh (tupN v)), a]) ?_ (show invL w < wFuel by unfold wFuel; omega) ⟨rfl, [], w, none, h, rfl, rfl, by simp, rfl, rfl⟩
  rintro m δ st' ⟨rfl, s, v, a, hv, hl, rfl, hs, hf, rfl⟩
  walk_at "go"
  walk_at "gc"
  refine falls_ahead_w hv ?_
  walk_at "go"
  walk_at "gc"
  cases e : aheadN v with
  | nil =>
    walk_at "go"
    walk_at "gc"
    have : firstW v = [] := first_nil hv e _
    rw [hf, this, List.append_nil] at hq
    exact hq
  | cons c r =>
    have hc : c ∈ aheadN v := by rw [e]; exact List.mem_cons_self
    have h1 := (ahead_lt hc).1
    have h2 := invL_ahead hv hc
    have e2 := first_cons hv e
    walk_at "go"
    walk_at "gc"
    walk_at "gc"
    refine items_exchanged_w (by have := hv.most; omega) ?_
    walk_at "go"
    refine ⟨invL (exchN v c), by omega, s ++ [c], exchN v c, _, hv.exch h1, by rw [exchN_len]; exact hl, rfl, by simp; omega, ?_, by rw [List.map_append]; rfl⟩
    rw [hf, e2]
    simp
theorem grow_len (n : Nat) (found : List (List Nat)) : (growN n found).length ≤ found.length * n := flat_len _ n found fun o _ => by
  rw [List.length_map]
  exact Nat.le_trans (List.length_filter_le _ _) (by rw [List.length_range]; exact Nat.le_refl _)
theorem grows_len (n : Nat) : ∀ k, (growsN n k).length ≤ n ^ k
  | 0 => Nat.le_refl _
  | k + 1 => Nat.le_trans (grow_len n _) (by rw [Nat.pow_succ]; exact Nat.mul_le_mul_right _ (grows_len n k))
theorem grow_in {n : Nat} : ∀ {k : Nat} {o : List Nat}, o ∈ growsN n k → o.length = k
  | 0, o, h => by
    have : o = [] := by simpa [growsN] using h
    rw [this]; rfl
  | k + 1, o, h => by
    have h : o ∈ (growsN n k).flatMap fun o => ((List.range n).filter fun i => !decide (i ∈ o)).map fun i => o ++ [i] := h
    obtain ⟨o', h1, h2⟩ := List.mem_flatMap.mp h
    obtain ⟨i, _, rfl⟩ := List.mem_map.mp h2
    rw [List.length_append, grow_in h1, List.length_singleton]
theorem item_tups {ls : List (List Nat)} {i : Nat} (h : i < ls.length) : (ls.map tupN)[i]? = some (tupN ls[i]) := by rw [List.getElem?_map, List.getElem?_eq_getElem h]; rfl
theorem law_rows_of_w {n : Nat} (h : n ≤ 6) (hq : Q (.sh (.lst ((ordsN n).map tupN))) st) : Wp (P.prog.call (k + 1) "_law_rows_of" [nD n]) st Q X := by
  rw [wp_call def__law_rows_of rfl]
  unfold d__law_rows_of
  dsimp only
  walk_at "sc"
  refine ⟨le_size (by decide), le_size (by decide), ?_⟩
  rw [wp_cons]
  walk_at "sx"
  rw [range1 (by omega)]
  walk_at "sx"
  refine wp_loopN (fun i δ st' => st' = st ∧ i ≤ n ∧ ∃ a b c d, δ = [some (.sh (nD n)), some (.sh (.lst ((growsN n i).map tupN))), a, b, c, d]) ⟨rfl, Nat.zero_le _, none, none, none, none, rfl⟩ ?_ ?_
  · rintro i d δ st' hd ⟨rfl, _, a, b, c, e, rfl⟩
    have hi : i < n := by simpa using (List.getElem?_eq_some_iff.mp hd).1
    have hsz : (growsN n i).length * n ≤ 46656 := by
      have h1 := grows_len n i
      have h2 : n ^ i * n ≤ 6 ^ 6 := by
        rw [← Nat.pow_succ]
        exact Nat.le_trans (Nat.pow_le_pow_right (by omega) (show i + 1 ≤ n by omega)) (Nat.le_trans (Nat.pow_le_pow_left h n) (Nat.pow_le_pow_right (by decide) h))
      have h3 := Nat.mul_le_mul_right n h1
      have : (6 : Nat) ^ 6 = 46656 := by decide
      omega
    walk_at "sx"
    walk_at "sc"
    refine ⟨le_size (by decide), ?_⟩
    rw [wp_cons]
    walk_at "sx"
    refine wp_loopN (fun j δ st2 => st2 = st' ∧ ∃ c e, δ = [some (.sh (nD n)), some (.sh (.lst ((growsN n i).map tupN))), some (.sh d), some (.sh (.lst ((growN n ((growsN n i).take j)).map tupN))), c, e]) ⟨rfl, c, e, rfl⟩ ?_ ?_
    · rintro j d2 δ st2 hd2 ⟨rfl, c, e, rfl⟩
      have hj : j < (growsN n i).length := by simpa using (List.getElem?_eq_some_iff.mp hd2).1
      rw [item_tups hj] at hd2
      cases hd2
      have ho : (growsN n i)[j] ∈ growsN n i := List.getElem_mem hj
      have hol := grow_in ho
      walk_at "sx"
      walk_at "sc"
      refine wp_lc (List.range n) nD (fun x => !decide (x ∈ (growsN n i)[j])) (fun x => tupN ((growsN n i)[j] ++ [x])) (le_size (by rw [List.length_range]; omega)) (fun R hR => ?_) (fun x hx R hR => ?_) ?_
      · walk_at "sx"
        rw [range1 (by omega)]
        walk_at "sx"
        exact hR
      · walk_at "sx"
        rw [inD_natT]
        walk_at "sx"
        by_cases hc : x ∈ (growsN n i)[j]
        · rw [decide_eq_true hc] at hR
          rw [if_neg fun z => z hc]
          exact hR
        · rw [decide_eq_false hc] at hR
          rw [if_pos hc]
          refine ⟨le_size (by decide), ?_⟩
          rw [show D.tup [nD x] = .tup ([x].map nD) from rfl, add_tup (by simp; omega), ← List.map_append, wp_some]
          exact hR
      · walk_at "sx"
        have hl1 := grow_len n ((growsN n i).take j)
        have hl2 : ((growsN n i).take j).length * n ≤ (growsN n i).length * n := Nat.mul_le_mul_right _ (by rw [List.length_take]; omega)
        have hl3 := List.length_filter_le (fun x => !decide (x ∈ (growsN n i)[j])) (List.range n)
        rw [List.length_range] at hl3
        rw [add_lst (by rw [List.length_map, List.length_map]; omega)]
        walk_at "sx"
        refine ⟨trivial, some (.sh (tupN (growsN n i)[j])), e, ?_⟩
        rw [List.take_succ_eq_append_getElem hj]
        have e1 : (growN n ((growsN n i).take j ++ [(growsN n i)[j]])).map tupN = (growN n ((growsN n i).take j)).map tupN ++ ((List.range n).filter fun x => !decide (x ∈ (growsN n i)[j])).map fun x => tupN ((growsN n i)[j] ++ [x]) := by
          unfold growN
          rw [List.flatMap_append, List.map_append, List.flatMap_singleton, List.map_map]
          rfl
        rw [e1]
    · rintro δ st2 ⟨rfl, c, e, rfl⟩
      rw [List.length_map, List.take_length]
      walk_at "sx"
      walk_at "sc"
      exact ⟨trivial, hi, _, _, _, _, rfl⟩
  · rintro δ st' ⟨rfl, _, a, b, c, d, rfl⟩
    rw [List.length_map, List.length_range]
    walk_at "sx"
    walk_at "sc"
    exact hq
theorem ords_at {n : Nat} (h1 : 1 ≤ n) (h6 : n ≤ 6) {i : Nat} (hi : i < (ordsN n).length) : ordNum (ordsN n)[i] = i ∧ IsOrder (ordsN n)[i] ∧ (ordsN n)[i].length = n := by
  have ok : okAll n = true := by
    rcases show n = 1 ∨ n = 2 ∨ n = 3 ∨ n = 4 ∨ n = 5 ∨ n = 6 by omega with rfl | rfl | rfl | rfl | rfl | rfl
    · exact ok1
    · exact ok2
    · exact ok3
    · exact ok4
    · exact ok5
    · exact ok6
  have := List.all_eq_true.mp ok ((ordsN n)[i], i) (by
    rw [List.mem_iff_getElem?]
    exact ⟨i, by rw [List.getElem?_zipIdx, List.getElem?_eq_getElem hi]; simp⟩)
  obtain ⟨e1, e2⟩ := Bool.and_eq_true_iff.mp this
  have e2 := List.isPerm_iff.mp e2
  have hl : (ordsN n)[i].length = n := by rw [e2.length_eq, List.length_range]
  exact ⟨Nat.eq_of_beq_eq_true e1, ⟨by rw [hl]; exact e2, by omega, by omega⟩, hl⟩
end Sw.K26

set_option Elab.async false
set_option linter.all false
set_option maxRecDepth 100000
set_option maxHeartbeats 1000000
namespace Sw.K26
open PySem Sw
local macro_rules | `(tactic| walk_at "sx") => `(tactic| try simp only [wp_bind, wp_pure, wp_some, wp_none, wp_bad, wp_at, wp_ite, wp_shM, wp_owM, exec, ev, evl, evo, evi, evf, evg, seqM, seqB, seqW, seqC, borM, borI, testM, optM, bindT, bindT.binds, storeF, storesF, wipeF, id_eq, seqS, lstOf_lst,
  lookV_0, lookV_s, borV_0, borV_1, borV_s, ownAt_0, ownAt_s, frzF_0, frzF_1, frzF_2, frzF_s, ofK_sh, ofK_ow, owK_ow, truth_bl, truth_non, truth_int, truth_tup, truth_lst, cmp_le, cmp_lt, cmp_ge, cmp_gt, cmp_eq, cmp_ne, cmp_in, cmp_nin, bin_add, bin_sub, neg_int, rev_tup, rev_lst, item_tup, item_lst, item_tup0, item_lst0, item_last, bi_len_tup, bi_len_lst, bi_tuple_lst, bi_tuple_tup, bi_list_lst, bi_list_tup, bi_int_int, bi_int_bl, bi_repr, bi_all, bi_sorted_lst, bi_sorted_tup,
  row_tup, row_lst, walk_tup, walk_lst, walk_seqI, cx_call, cx_glob, cx_fields, cx_sub, turnK_next, turnK_cont, turnK_brk, turnK_ret, turnK_exc, thenK_next, thenK_ret, thenK_exc, thenK_brk, thenK_cont, endK_ret, endK_next, endK_exc, wp_nil, wp_okRow, bi_list_seqI, ty_tup, ty_bl, wp_try, tryK_ret, tryK_next, tryK_exc, hotK_ret, tx_call, tx_glob, tx_sub, tx_fields, tx_thunk, low_call, low_glob, low_glob, get_cells, get_at, get_digits, get_count, get_fold, set_at, set_digits, set_count, set_fold,
  List.getElem?_cons_zero, List.getElem?_cons_succ, List.length_cons, List.length_nil, List.set_cons_zero, List.set_cons_succ, List.map_cons, List.map_nil, List.zip_cons_cons, List.zip_nil_right, List.zip_nil_left, List.replicate, List.append_nil, List.cons_append, List.nil_append, Option.bind_some, Option.map_some, Option.bind_none, Option.map_none, Nat.reduceAdd, Nat.reduceSub, Nat.reduceLT, Nat.reduceLeDiff, if_true, if_false, Bool.false_eq_true, Nat.zero_add, Nat.lt_irrefl, Nat.zero_lt_succ, Nat.reduceSucc, decide_true, decide_false, Bool.true_eq_false, if_pos, Bool.not_true, Bool.not_false, Bool.not_eq_true', Bool.not_eq_false', decide_eq_true_eq, decide_eq_false_iff_not, Prod.mk.injEq])
local macro_rules | `(tactic| walk_at "sc") => `(tactic| (rw [wp_cons]; walk_at "sx"))
local macro_rules | `(tactic| walk_at "go") => `(tactic| try simp (disch := omega) only [wp_bind, wp_pure, wp_some, wp_none, wp_bad, wp_at, wp_ite, wp_shM, wp_owM, exec, ev, evl, evo, evi, evf, evg, seqM, seqB, seqW, seqC, borM, borI, testM, optM, bindT, bindT.binds, storeF, storesF, wipeF, id_eq, seqS, lstOf_lst,
  lookV_0, lookV_s, borV_0, borV_1, borV_s, ownAt_0, ownAt_s, frzF_0, frzF_1, frzF_2, frzF_s, ofK_sh, ofK_ow, owK_ow, truth_bl, truth_non, truth_int, truth_tup, truth_lst, cmp_le, cmp_lt, cmp_ge, cmp_gt, cmp_eq, cmp_ne, cmp_in, cmp_nin, bin_add, bin_sub, neg_int, rev_tup, rev_lst, item_tup, item_lst, item_tup0, item_lst0, item_last, bi_len_tup, bi_len_lst, bi_tuple_lst, bi_tuple_tup, bi_list_lst, bi_list_tup, bi_int_int, bi_int_bl, bi_repr, bi_all, bi_sorted_lst, bi_sorted_tup,
  row_tup, row_lst, walk_tup, walk_lst, walk_seqI, cx_call, cx_glob, cx_fields, cx_sub, turnK_next, turnK_cont, turnK_brk, turnK_ret, turnK_exc, thenK_next, thenK_ret, thenK_exc, thenK_brk, thenK_cont, endK_ret, endK_next, endK_exc, wp_nil, wp_okRow, bi_list_seqI, ty_tup, ty_bl, wp_try, tryK_ret, tryK_next, tryK_exc, hotK_ret, tx_call, tx_glob, tx_sub, tx_fields, tx_thunk, low_call, low_glob, low_glob, get_cells, get_at, get_digits, get_count, get_fold, set_at, set_digits, set_count, set_fold,
  List.getElem?_cons_zero, List.getElem?_cons_succ, List.length_cons, List.length_nil, List.set_cons_zero, List.set_cons_succ, List.map_cons, List.map_nil, List.zip_cons_cons, List.zip_nil_right, List.zip_nil_left, List.replicate, List.append_nil, List.cons_append, List.nil_append, Option.bind_some, Option.map_some, Option.bind_none, Option.map_none, Nat.reduceAdd, Nat.reduceSub, Nat.reduceLT, Nat.reduceLeDiff, if_true, if_false, Bool.false_eq_true, Nat.zero_add, Nat.lt_irrefl, Nat.zero_lt_succ, Nat.reduceSucc, decide_true, decide_false, Bool.true_eq_false, if_pos, Bool.not_true, Bool.not_false, Bool.not_eq_true', Bool.not_eq_false', decide_eq_true_eq, decide_eq_false_iff_not, Prod.mk.injEq, c_add, c_add1, c_add2, c_add3, c_1add, c_2add, c_sub, c_sub1, c_sub2, c_le, c_lt, c_0le, c_1le, c_0lt, c_1lt, c_2le, c_le8, c_eq, c_eq0, c_eq1, getN, sizeT, ifT, ifF, ifTP, ifFP, guardL, sliceTo, sliceFrom, dct_item, evg1, pairM, dctM, keyD_int, dctD_dct, get2_eq, seqP, range1, range2, eqD_int, eqD_natT, eqD_natL, eqD_bl, add_tup, add_lst, addF_lst, List.length_map, List.length_range, List.length_range', true_and, and_true, Option.some.injEq, Int.toNat_natCast])
local macro_rules | `(tactic| walk_at "gc") => `(tactic| (rw [wp_cons]; walk_at "go"))
variable {k : Nat} {st : Store} {Q : Slot → Store → Prop} {X : Str → List (Str × D) → Store → Prop}
theorem two_pl {a b : D} (ha : a.pl = true) (hb : b.pl = true) : D.pls [a, b] = true := pls_of fun d hd => by
  rcases List.mem_cons.mp hd with rfl | hd
  · exact ha
  · rw [List.mem_singleton.mp hd]
    exact hb
theorem toTup_row (l : Bool) (w : List Nat) : toTup (rowD l w) = tupN w := by cases l <;> rfl
theorem need_two {l1 l2 : Bool} {u v : List Nat} (hu : IsOrder u) (hv : IsOrder v) (he : u.length = v.length) (hq : Q (.ow [tupN u, tupN v]) st) : Wp (P.prog.call (k + 3) "need_orders" [.lst [rowD l1 u, rowD l2 v]]) st Q X :=
  need_orders_w (two_pl (rowD_pl hu) (rowD_pl hv)) (fun _ => by rw [List.map_cons, List.map_cons, toTup_row, toTup_row]; exact hq) (fun c fs e => by simp [needErr, isOrd_row hu, isOrd_row hv, dlen_row, he] at e) (by simp)
theorem need_two_x {a b : D} {c : Str} {fs : List (Str × D)} (ha : a.pl = true) (hb : b.pl = true) (h : needErr none [a, b] = some (c, fs)) (hq : X c fs st) : Wp (P.prog.call (k + 3) "need_orders" [.lst [a, b]]) st Q X :=
  need_orders_w (two_pl ha hb) (fun z => by rw [h] at z; cases z) (fun c' fs' e => by rw [h] at e; cases e; exact hq) (by simp)
theorem raiseL_snoc (s : List Nat) (k' : Nat) (w : List Nat) : raiseL (s ++ [k']) w = raiseP k' (raiseL s w) := by unfold raiseL; rw [List.foldl_append]; rfl
theorem dropL_snoc (s : List Nat) (k' : Nat) (w : List Nat) : dropL (s ++ [k']) w = dropV k' (dropL s w) := by unfold dropL; rw [List.foldl_append]; rfl
theorem raised_along_w {d : D} {w s : List Nat} (hd : walkOf d = some (s.map nD)) (h : Word w.length s) (hz : w.length ≤ 1000) (hq : Q (.sh (tupN (raiseL s w))) st) : Wp (P.prog.call (k + 2) "raised_along" [tupN w, d]) st Q X := by
  rw [wp_call def_raised_along rfl]
  unfold d_raised_along
  dsimp only
  rw [wp_cons]
  walk_at "sx"
  rw [hd]
  walk_at "sx"
  refine wp_loopN (fun i δ st' => st' = st ∧ ∃ a, δ = [some (.sh (tupN (raiseL (s.take i) w))), some (.sh d), a]) ⟨rfl, none, rfl⟩ ?_ ?_
  · rintro i e δ st' he ⟨rfl, a, rfl⟩
    have hi : i < s.length := by simpa using (List.getElem?_eq_some_iff.mp he).1
    rw [getD_map nD hi] at he
    cases he
    have hw := step_lt h hi
    have hl : (raiseL (s.take i) w).length = w.length := raiseL_len
    walk_at "go"
    walk_at "gc"
    by_cases q : (raiseL (s.take i) w).getD (s.getD i 0) 0 < (raiseL (s.take i) w).getD (s.getD i 0 + 1) 0
    · rw [if_pos q]
      walk_at "gc"
      refine stepped_w (by rw [hl]; exact hw) (by rw [hl]; exact hz) ?_
      walk_at "go"
      refine ⟨some (.sh (nD (s.getD i 0))), ?_⟩
      rw [List.take_succ_eq_append_getElem hi, raiseL_snoc, getD_at hi]
      rw [getD_at hi] at q
      rw [raiseP, if_pos q]
    · rw [if_neg q]
      walk_at "go"
      refine ⟨some (.sh (nD (s.getD i 0))), ?_⟩
      rw [List.take_succ_eq_append_getElem hi, raiseL_snoc, getD_at hi]
      rw [getD_at hi] at q
      rw [raiseP, if_neg q]
  · rintro δ st' ⟨rfl, a, rfl⟩
    rw [List.length_map, List.take_length]
    walk_at "sx"
    walk_at "sc"
    exact hq
theorem law_up_w {d : D} {w s : List Nat} (hd : walkOf d = some (s.map nD)) (h : Word w.length s) (hz : w.length ≤ 1000) (hq : Q (.sh (tupN (raiseL s w))) st) : Wp (P.prog.call (k + 2) "_law_up" [tupN w, d]) st Q X := by
  rw [wp_call def__law_up rfl]
  unfold d__law_up
  dsimp only
  rw [wp_cons]
  walk_at "sx"
  rw [hd]
  walk_at "sx"
  refine wp_loopN (fun i δ st' => st' = st ∧ ∃ a, δ = [some (.sh (tupN (raiseL (s.take i) w))), some (.sh d), a]) ⟨rfl, none, rfl⟩ ?_ ?_
  · rintro i e δ st' he ⟨rfl, a, rfl⟩
    have hi : i < s.length := by simpa using (List.getElem?_eq_some_iff.mp he).1
    rw [getD_map nD hi] at he
    cases he
    have hw := step_lt h hi
    have hl : (raiseL (s.take i) w).length = w.length := raiseL_len
    walk_at "go"
    walk_at "gc"
    by_cases q : (raiseL (s.take i) w).getD (s.getD i 0) 0 < (raiseL (s.take i) w).getD (s.getD i 0 + 1) 0
    · rw [if_pos q]
      walk_at "gc"
      refine law_stepped_w (by rw [hl]; exact hw) (by rw [hl]; exact hz) ?_
      walk_at "go"
      refine ⟨some (.sh (nD (s.getD i 0))), ?_⟩
      rw [List.take_succ_eq_append_getElem hi, raiseL_snoc, getD_at hi]
      rw [getD_at hi] at q
      rw [raiseP, if_pos q]
    · rw [if_neg q]
      walk_at "go"
      refine ⟨some (.sh (nD (s.getD i 0))), ?_⟩
      rw [List.take_succ_eq_append_getElem hi, raiseL_snoc, getD_at hi]
      rw [getD_at hi] at q
      rw [raiseP, if_neg q]
  · rintro δ st' ⟨rfl, a, rfl⟩
    rw [List.length_map, List.take_length]
    walk_at "sx"
    walk_at "sc"
    exact hq
theorem star_w {l1 l2 : Bool} {u v : List Nat} (hu : IsOrder u) (hv : IsOrder v) (he : u.length = v.length) (hq : Q (.sh (tupN (raiseL (firstW v) u))) st) : Wp (P.prog.call (k + 4) "star" [rowD l1 u, rowD l2 v]) st Q X := by
  have h8 := hu.most
  rw [wp_call def_star rfl]
  unfold d_star
  dsimp only
  walk_at "gc"
  refine need_two hu hv he ?_
  walk_at "go"
  walk_at "gc"
  refine short_word_w hv ?_
  walk_at "go"
  refine raised_along_w (s := firstW v) rfl (by rw [he]; exact (first_word hv).1) (by omega) ?_
  walk_at "go"
  exact hq
theorem dropped_w {l1 l2 : Bool} {u w : List Nat} (hu : IsOrder u) (hw : IsOrder w) (he : u.length = w.length) (hq : Q (.sh (tupN (dropL (firstW u) w))) st) : Wp (P.prog.call (k + 4) "dropped" [rowD l1 u, rowD l2 w]) st Q X := by
  have h8 := hu.most
  rw [wp_call def_dropped rfl]
  unfold d_dropped
  dsimp only
  walk_at "gc"
  refine need_two hu hw he ?_
  walk_at "go"
  rw [wp_cons]
  walk_at "go"
  refine short_word_w hu ?_
  walk_at "go"
  have hs : Word w.length (firstW u) := by rw [← he]; exact (first_word hu).1
  generalize firstW u = s at hs hq
  refine wp_loopN (fun i δ st' => st' = st ∧ ∃ a, δ = [some (.sh (tupN u)), some (.sh (tupN (dropL (s.take i) w))), a]) ⟨rfl, none, rfl⟩ ?_ ?_
  · rintro i e δ st' hi2 ⟨rfl, a, rfl⟩
    have hi : i < s.length := by simpa using (List.getElem?_eq_some_iff.mp hi2).1
    rw [getD_map nD hi] at hi2
    cases hi2
    have hk := step_lt hs hi
    have hl : (dropL (s.take i) w).length = w.length := dropL_len
    have ho : IsOrder (dropL (s.take i) w) := dropL_ord hw (hs.sub fun x hx => List.mem_of_mem_take hx)
    walk_at "go"
    walk_at "gc"
    refine falls_ahead_w ho ?_
    walk_at "go"
    rw [show inD (nD (s.getD i 0)) (.lst ((aheadN (dropL (s.take i) w)).map nD)) = some (decide (s.getD i 0 ∈ aheadN (dropL (s.take i) w))) from inD_natL _ _]
    walk_at "go"
    have hm : s.getD i 0 ∈ aheadN (dropL (s.take i) w) ↔ (dropL (s.take i) w).idxOf (s.getD i 0 + 1) < (dropL (s.take i) w).idxOf (s.getD i 0) := by
      unfold aheadN
      rw [List.mem_filter, List.mem_range, decide_eq_true_eq, hl]
      constructor
      · exact fun z => z.2
      · exact fun z => ⟨by omega, z⟩
    have hsn : dropL (s.take (i + 1)) w = dropV (s.getD i 0) (dropL (s.take i) w) := by rw [List.take_succ_eq_append_getElem hi, dropL_snoc, getD_at hi]
    rw [hsn]
    by_cases q : s.getD i 0 ∈ aheadN (dropL (s.take i) w)
    · rw [if_pos q]
      walk_at "gc"
      refine items_exchanged_w (by omega) ?_
      walk_at "go"
      exact ⟨some (.sh (nD (s.getD i 0))), by rw [dropV, if_pos (hm.mp q)]⟩
    · rw [if_neg q]
      exact ⟨some (.sh (nD (s.getD i 0))), by rw [dropV, if_neg fun z => q (hm.mpr z)]⟩
  · rintro δ st' ⟨rfl, a, rfl⟩
    rw [List.length_map, List.take_length]
    walk_at "sx"
    walk_at "sc"
    exact hq
theorem law_swapped_w {w : List Nat} {i j : Nat} (hi : i < w.length) (hj : j < w.length) (hz : w.length ≤ 1000) (hq : Q (.sh (tupN ((w.set i (w.getD j 0)).set j (w.getD i 0)))) st) : Wp (P.prog.call (k + 1) "_law_swapped" [tupN w, nD i, nD j]) st Q X := by
  rw [wp_call def__law_swapped rfl]
  unfold d__law_swapped
  dsimp only
  walk_at "gc"
  walk_at "gc"
  rw [put_nat (by simp; omega)]
  walk_at "sx"
  rw [put_nat (by simp; omega)]
  walk_at "sx"
  walk_at "sc"
  rw [← List.map_set, ← List.map_set]
  exact hq
theorem set_exch {w : List Nat} (h : IsOrder w) {k' : Nat} (hk : k' + 1 < w.length) : (w.set (w.idxOf k') (w.getD (w.idxOf (k' + 1)) 0)).set (w.idxOf (k' + 1)) (w.getD (w.idxOf k') 0) = exchN w k' := by
  obtain ⟨a1, a2⟩ := idx_at h (show k' < w.length by omega)
  obtain ⟨b1, b2⟩ := idx_at h hk
  rw [a2, b2]
  refine List.ext_getElem (by simp [exchN]) fun m h1 h2 => ?_
  have hm : m < w.length := by simpa using h1
  have ex : (exchN w k')[m]'h2 = sx k' (k' + 1) w[m] := List.getElem_map (sx k' (k' + 1))
  rw [ex, List.getElem_set, List.getElem_set]
  rw [getD_at a1] at a2
  rw [getD_at b1] at b2
  unfold sx
  by_cases q1 : w.idxOf (k' + 1) = m
  · rw [if_pos q1]
    subst q1
    rw [b2, if_neg (by omega), if_pos rfl]
  · rw [if_neg q1]
    by_cases q2 : w.idxOf k' = m
    · rw [if_pos q2]
      subst q2
      rw [a2, if_pos rfl]
    · rw [if_neg q2, if_neg, if_neg]
      · intro z
        exact q1 ((List.pairwise_iff_getElem.mp h.nd) |> fun p => by
          rcases Nat.lt_trichotomy (w.idxOf (k' + 1)) m with y | y | y
          · exact absurd (b2.trans z.symm) (p _ _ b1 hm y)
          · exact y
          · exact absurd (z.trans b2.symm) (p _ _ hm b1 y))
      · intro z
        exact q2 ((List.pairwise_iff_getElem.mp h.nd) |> fun p => by
          rcases Nat.lt_trichotomy (w.idxOf k') m with y | y | y
          · exact absurd (a2.trans z.symm) (p _ _ a1 hm y)
          · exact y
          · exact absurd (z.trans a2.symm) (p _ _ hm a1 y))
theorem back_at {w : List Nat} {i : Nat} (hi : i < w.length) : (backN w).getD i 0 = w.idxOf i := by
  unfold backN
  rw [getD_at (by simp; omega), List.getElem_map, List.getElem_range]
theorem is_below_w {u w : List Nat} (he : u.length = w.length) (hz : w.length ≤ 1000) (hq : Q (.sh (.bl (isBel u w))) st) : Wp (P.prog.call (k + 1) "_law_is_below" [tupN u, tupN w]) st Q X := by
  rw [wp_call def__law_is_below rfl]
  unfold d__law_is_below
  dsimp only
  rw [wp_cons]
  walk_at "go"
  have cnt : ∀ (v : List Nat) (i j : Nat), ((v.take (i + 1)).filter fun x => decide (j ≤ x)).length = rk v (i + 1) j := fun v i j => rfl
  have bad : ∀ i j, i < w.length → j < w.length → ¬ rk u (i + 1) j ≤ rk w (i + 1) j → isBel u w = false := fun i j hi hj h => by
    rw [Bool.eq_false_iff]
    intro z
    unfold isBel at z
    simp only [List.all_eq_true, List.mem_range, decide_eq_true_eq] at z
    exact h (z i hi j hj)
  refine wp_loopN (fun i δ st' => st' = st ∧ (∀ i' < i, ∀ j < w.length, rk u (i' + 1) j ≤ rk w (i' + 1) j) ∧ ∃ a b c, δ = [some (.sh (tupN u)), some (.sh (tupN w)), a, b, c]) ⟨rfl, fun i' h => absurd h (by omega), none, none, none, rfl⟩ ?_ ?_
  · rintro i d δ st' hd ⟨rfl, hI, a, b, c, rfl⟩
    have hi : i < w.length := by simpa using (List.getElem?_eq_some_iff.mp hd).1
    have hdi : d = nD i := by
      rw [List.getElem?_map, List.getElem?_range hi] at hd
      exact (Option.some.inj hd).symm
    subst hdi
    walk_at "go"
    rw [wp_cons]
    walk_at "go"
    refine wp_loopN (fun j δ st2 => st2 = st' ∧ (∀ j' < j, rk u (i + 1) j' ≤ rk w (i + 1) j') ∧ ∃ b c, δ = [some (.sh (tupN u)), some (.sh (tupN w)), some (.sh (nD i)), b, c]) ⟨rfl, fun j' h => absurd h (by omega), b, c, rfl⟩ ?_ ?_
    · rintro j d2 δ st2 hd2 ⟨rfl, hJ, b, c, rfl⟩
      have hj : j < w.length := by simpa using (List.getElem?_eq_some_iff.mp hd2).1
      have hdj : d2 = nD j := by
        rw [List.getElem?_map, List.getElem?_range hj] at hd2
        exact (Option.some.inj hd2).symm
      subst hdj
      walk_at "go"
      walk_at "gc"
      refine wp_lc (u.take (i + 1)) nD (fun x => decide (j ≤ x)) nD (le_size (by rw [List.length_take]; omega)) (fun R hR => ?_) (fun x hx R hR => ?_) ?_
      · walk_at "go"
        rw [← List.map_take]
        walk_at "go"
        exact hR
      · walk_at "go"
        by_cases q : j ≤ x
        · rw [decide_eq_true q] at hR
          rw [ifTP (by omega)]
          exact hR
        · rw [decide_eq_false q] at hR
          rw [ifFP (by omega)]
          exact hR
      · walk_at "go"
        refine wp_lc (w.take (i + 1)) nD (fun x => decide (j ≤ x)) nD (le_size (by rw [List.length_take]; omega)) (fun R hR => ?_) (fun x hx R hR => ?_) ?_
        · walk_at "go"
          rw [← List.map_take]
          walk_at "go"
          exact hR
        · walk_at "go"
          by_cases q : j ≤ x
          · rw [decide_eq_true q] at hR
            rw [ifTP (by omega)]
            exact hR
          · rw [decide_eq_false q] at hR
            rw [ifFP (by omega)]
            exact hR
        · walk_at "go"
          rw [cnt, cnt]
          by_cases q : rk u (i + 1) j ≤ rk w (i + 1) j
          · rw [ifFP (by omega)]
            walk_at "go"
            refine ⟨fun j' hj' => ?_, _, _, rfl⟩
            rcases Nat.lt_or_ge j' j with z | z
            · exact hJ j' z
            · rw [show j' = j by omega]; exact q
          · rw [ifTP (by omega)]
            walk_at "gc"
            rw [bad i j hi hj q] at hq
            exact hq
    · rintro δ st2 ⟨rfl, hJ, b, c, rfl⟩
      rw [List.length_map, List.length_range] at hJ
      walk_at "go"
      refine ⟨fun i' hi' j hj => ?_, _, _, _, rfl⟩
      rcases Nat.lt_or_ge i' i with z | z
      · exact hI i' z j hj
      · rw [show i' = i by omega]; exact hJ j hj
  · rintro δ st' ⟨rfl, hI, a, b, c, rfl⟩
    rw [List.length_map, List.length_range] at hI
    walk_at "sx"
    walk_at "sc"
    have : isBel u w = true := by
      unfold isBel
      simp only [List.all_eq_true, List.mem_range, decide_eq_true_eq]
      exact hI
    rw [this] at hq
    exact hq
theorem law_is_integer_w {d : D} (h : d.pl = true) : Wp (P.prog.call (k + 1) "_law_is_integer" [d]) st Q X = Q (.sh (.bl (isInt d))) st := by
  rw [wp_call def__law_is_integer rfl]
  unfold d__law_is_integer
  dsimp only
  walk_at "sc"
  rw [ty_int h]
  walk_at "sx"
  rw [ty_bool h]
  walk_at "sx"
  cases d <;> simp [isInt, isBl]
theorem law_is_row_of_w {w : List Nat} {n : Nat} (hw : ∀ x ∈ w, x < n) (h8 : n ≤ 8) (hz : w.length ≤ 1000) (hq : Q (.sh (.bl true)) st) : Wp (P.prog.call (k + 2) "_law_is_row_of" [tupN w, nD n]) st Q X := by
  rw [wp_call def__law_is_row_of rfl]
  unfold d__law_is_row_of
  dsimp only
  walk_at "sc"
  walk_at "sc"
  refine wp_lc w nD (fun _ => false) (fun _ => D.int 1) (le_size (by omega)) (fun R hR => ?_) (fun x hx R hR => ?_) ?_
  · walk_at "go"
    exact hR
  · have := hw x hx
    walk_at "go"
    rw [law_is_integer_w (pl_nD (by omega))]
    walk_at "go"
    exact hR
  · walk_at "go"
    rw [show w.filter (fun _ => false) = [] by simp]
    rw [show eqD (D.lst ([].map fun _ : Nat => D.int 1)) (.lst []) = some true from rfl]
    walk_at "go"
    exact hq
theorem sortedD_ord {v : List Nat} (h : IsOrder v) : sortedD (v.map nD) = some ((List.range v.length).map nD) := by
  rw [sortedD_nat, sortI_range.mpr (h.perm.map _), List.map_map]
  rfl
theorem law_is_own_order_w {w : List Nat} {n : Nat} (hw : IsOrder w) (hn : w.length = n) (hq : Q (.sh (.bl true)) st) : Wp (P.prog.call (k + 3) "_law_is_own_order" [tupN w, nD n]) st Q X := by
  have h8 := hw.most
  rw [wp_call def__law_is_own_order rfl]
  unfold d__law_is_own_order
  dsimp only
  walk_at "gc"
  refine law_is_row_of_w (fun x hx => by rw [← hn]; exact hw.lt hx) (by omega) (by omega) ?_
  walk_at "go"
  rw [sortedD_ord hw, hn]
  walk_at "go"
  exact hq
theorem falls_nil {v : List Nat} (h : IsOrder v) (e : fallsN v = []) : v = List.range v.length := by
  have up : ∀ k, k + 1 < v.length → v.getD k 0 < v.getD (k + 1) 0 := fun k hk => by
    have h1 : k ∉ fallsN v := by rw [e]; simp
    unfold fallsN at h1
    rw [List.mem_filter, List.mem_range, decide_eq_true_eq] at h1
    have h2 : v.getD k 0 ≠ v.getD (k + 1) 0 := fun z => by
      rw [getD_at (show k < v.length by omega), getD_at hk] at z
      exact (List.pairwise_iff_getElem.mp h.nd) k (k + 1) (by omega) hk (by omega) z
    by_cases q : v.getD (k + 1) 0 < v.getD k 0
    · exact absurd ⟨by omega, q⟩ h1
    · omega
  have lo : ∀ k, k < v.length → k ≤ v.getD k 0 := fun k => by
    induction k with
    | zero => exact fun _ => Nat.zero_le _
    | succ k ih =>
      intro hk
      have := ih (by omega)
      have := up k hk
      omega
  have hi : ∀ m k, k + m + 1 = v.length → v.getD k 0 ≤ k := fun m => by
    induction m with
    | zero =>
      intro k hk
      have : v.getD k 0 < v.length := by
        rw [getD_at (show k < v.length by omega)]
        exact h.lt (List.getElem_mem _)
      omega
    | succ m ih =>
      intro k hk
      have := ih (k + 1) (by omega)
      have := up k (by omega)
      omega
  refine List.ext_getElem (by rw [List.length_range]) fun i h1 h2 => ?_
  rw [List.getElem_range, ← getD_at (w := v) h1]
  have := lo i h1
  have := hi (v.length - i - 1) i (by omega)
  omega
theorem law_short_word_w {b n : Nat} {r st : Store} {w : List Nat} (hp : Pen b r st) (h : IsOrder w) (hn : w.length = n) (hb : b ≤ 800000) (hq : ∀ s, Red n s w → ∀ st', Pen (b + 64) r st' → Q (.sh (lstN s)) st') : Wp (P.prog.call (k + 3) "_law_short_word" [.cell 0, tupN w]) st Q X := by
  rw [wp_call def__law_short_word rfl]
  unfold d__law_short_word
  dsimp only
  walk_at "sc"
  rw [wp_cons]
  walk_at "sx"
  have h64 : invL w ≤ 64 := by
    rw [← invN_len]
    have e1 : (invN w).length ≤ (pairsN w.length).length := List.length_filter_le ..
    have e2 := pairs_len w.length
    have e3 : w.length * w.length ≤ 8 * 8 := Nat.mul_le_mul h.most h.most
    omega
  refine ⟨le_size (by decide), ?_⟩
  refine wp_loopW (fun m δ st' => ∃ (v s : List Nat) (x y : Option Slot), δ = [some (.sh (.cell 0)), some (.sh (tupN v)), some (.ow (s.map nD)), x, y] ∧ Pen (b + s.length) r st' ∧ IsOrder v ∧ v.length = n ∧ Word n s ∧ m = invL v ∧ s.length + invL v = invL w ∧ ledN v s.reverse = w) ?_ (m := _) (n := invL w) ?_ ⟨w, [], none, none, rfl, hp, h, hn, fun k hk => absurd hk (by simp), rfl, by simp, rfl⟩
  · rintro m δ st' ⟨v, s, x, y, rfl, hp', hv, hvn, hs, rfl, hle, hback⟩
    walk_at "sx"
    walk_at "sc"
    refine wp_lc (List.range (v.length - 1)) nD (fun i => decide (v.getD (i + 1) 0 < v.getD i 0)) nD (le_size (by rw [List.length_range]; have := hv.most; omega)) (fun R hR => ?_) (fun i hi R hR => ?_) ?_
    · walk_at "sx"
      have := hv.pos
      rw [List.length_map, show (v.length : Int) - 1 = ((v.length - 1 : Nat) : Int) by omega, range1 (by have := hv.most; omega)]
      walk_at "sx"
      exact hR
    · have hi' := List.mem_range.mp hi
      walk_at "sx"
      rw [getD_map nD (show i < v.length by omega)]
      walk_at "sx"
      rw [show (i : Int) + 1 = ((i + 1 : Nat) : Int) by omega]
      walk_at "sx"
      rw [getD_map nD (show i + 1 < v.length by omega)]
      walk_at "sx"
      by_cases hc : v.getD (i + 1) 0 < v.getD i 0
      · rw [if_pos (by omega)]
        rw [if_pos (decide_eq_true hc)] at hR
        exact hR
      · rw [if_neg (by omega)]
        rw [if_neg (by simpa using hc)] at hR
        exact hR
    · rw [show (List.range (v.length - 1)).filter (fun i => decide (v.getD (i + 1) 0 < v.getD i 0)) = fallsN v from rfl]
      have hfa : ∀ i ∈ fallsN v, i + 1 < v.length ∧ v.getD (i + 1) 0 < v.getD i 0 := fun i hi => by
        obtain ⟨q1, q2⟩ := List.mem_filter.mp hi
        exact ⟨by have := List.mem_range.mp q1; omega, of_decide_eq_true q2⟩
      have hfl : (fallsN v).length ≤ 8 := by
        have := List.length_filter_le (fun k => decide (v.getD (k + 1) 0 < v.getD k 0)) (List.range (v.length - 1))
        rw [List.length_range] at this
        have := hv.most
        unfold fallsN
        omega
      have hfn := falls_nil hv
      generalize fallsN v = fa at hfa hfl hfn
      walk_at "sx"
      walk_at "sc"
      walk_at "sc"
      refine ⟨le_size (by decide), ?_⟩
      rw [show eqD (D.lst (fa.map nD)) (D.lst []) = some (decide (fa = [])) from eqD_natL fa []]
      walk_at "sx"
      by_cases hf : fa = []
      · rw [if_pos hf]
        walk_at "sc"
        rw [← List.map_reverse]
        have hvr := hfn hf
        rw [hvn] at hvr
        rw [hvr] at hback hle
        rw [inv_range] at hle
        refine hq s.reverse ⟨fun k hk => hs k (by simpa using hk), hback, by rw [List.length_reverse]; omega⟩ _ (hp'.mono (by omega))
      · rw [if_neg hf]
        walk_at "sc"
        refine pick_w (some_ := .lst (fa.map nD)) rfl hp' (by omega) (by rw [List.length_map]; have := List.length_pos_iff.mpr hf; omega) (by rw [List.length_map]; omega) fun d hd st2 hp2 => ?_
        obtain ⟨c, hc, rfl⟩ := List.mem_map.mp hd
        obtain ⟨g1, g2⟩ := hfa c hc
        have hdn := invL_down g1 g2
        walk_at "sx"
        rw [wp_guard]
        refine ⟨decide_eq_true (by rw [List.length_map]; exact Nat.lt_of_lt_of_le (show s.length < 1000 by omega) (le_size (by decide))), ?_⟩
        walk_at "sc"
        rw [List.getLast?_concat]
        walk_at "sx"
        refine law_stepped_w g1 (by have := hv.most; omega) ?_
        walk_at "sx"
        refine ⟨invL (stN v c), by omega, stN v c, s ++ [c], some (.sh (lstN fa)), y, ?_, ?_, ?_, ?_, ?_, rfl, ?_⟩
        · rw [List.map_append]
          rfl
        · rw [List.length_append, List.length_singleton]
          exact hp2
        · exact st_ord hv g1
        · rw [stN_len, hvn]
        · exact Word.app.mpr ⟨hs, Word.cons.mpr ⟨by omega, fun k hk => absurd hk (by simp)⟩⟩
        · rw [List.length_append, List.length_singleton]
          refine ⟨by omega, ?_⟩
          rw [List.reverse_append, List.reverse_singleton, List.singleton_append, ledN_cons, stN_twice g1]
          exact hback
  · exact Nat.lt_of_le_of_lt h64 (by decide)
theorem own_dropped_w {b n : Nat} {r st : Store} {u w : List Nat} (hp : Pen b r st) (hu : IsOrder u) (hn : u.length = n) (hw : IsOrder w) (hl : w.length = n) (hb : b ≤ 800000) (hq : ∀ st', Pen (b + 64) r st' → Q (.sh (tupN (dropL (firstW u) w))) st') : Wp (P.prog.call (k + 4) "_law_own_dropped" [.cell 0, tupN u, tupN w]) st Q X := by
  have h8 := hu.most
  have h1 := hu.pos
  rw [wp_call def__law_own_dropped rfl]
  unfold d__law_own_dropped
  dsimp only
  rw [wp_cons]
  walk_at "go"
  refine law_short_word_w hp hu hn hb fun s hs st1 hp1 => ?_
  have hfr : Red n (firstW u) u := by have := first_word hu; rw [hn] at this; exact this
  rw [drop_same (by omega) (by omega) hfr hs hw hl] at hq
  have hww : Word w.length s := by rw [hl]; exact hs.1
  walk_at "go"
  refine wp_loopN (fun i δ st' => st' = st1 ∧ ∃ a, δ = [some (.sh (.cell 0)), some (.sh (tupN u)), some (.sh (tupN (dropL (s.take i) w))), a.1, a.2]) ⟨rfl, (none, none), rfl⟩ ?_ ?_
  · rintro i e δ st' hi2 ⟨rfl, ⟨a, a'⟩, rfl⟩
    have hi : i < s.length := by simpa using (List.getElem?_eq_some_iff.mp hi2).1
    rw [getD_map nD hi] at hi2
    cases hi2
    have hk := step_lt hww hi
    have hl2 : (dropL (s.take i) w).length = w.length := dropL_len
    have ho : IsOrder (dropL (s.take i) w) := dropL_ord hw (hww.sub fun x hx => List.mem_of_mem_take hx)
    have hsn : dropL (s.take (i + 1)) w = dropV (s.getD i 0) (dropL (s.take i) w) := by rw [List.take_succ_eq_append_getElem hi, dropL_snoc, getD_at hi]
    rw [hsn]
    generalize dropL (s.take i) w = v at *
    have hbl : (backN v).length = v.length := by unfold backN; simp
    walk_at "go"
    walk_at "gc"
    refine law_back_w ho ?_
    walk_at "go"
    walk_at "gc"
    rw [back_at (show s.getD i 0 < v.length by omega), back_at (show s.getD i 0 + 1 < v.length by omega)]
    by_cases q : v.idxOf (s.getD i 0 + 1) < v.idxOf (s.getD i 0)
    · rw [if_pos q]
      obtain ⟨x1, x2⟩ := idx_at ho (show s.getD i 0 < v.length by omega)
      obtain ⟨y1, y2⟩ := idx_at ho (show s.getD i 0 + 1 < v.length by omega)
      walk_at "gc"
      rw [back_at (show s.getD i 0 < v.length by omega), back_at (show s.getD i 0 + 1 < v.length by omega)]
      refine law_swapped_w x1 y1 (by omega) ?_
      rw [set_exch ho (by omega)]
      walk_at "go"
      exact ⟨(_, _), by rw [dropV, if_pos q]⟩
    · rw [if_neg q]
      walk_at "go"
      exact ⟨(_, _), by rw [dropV, if_neg q]⟩
  · rintro δ st' ⟨rfl, a, rfl⟩
    rw [List.length_map, List.take_length]
    walk_at "sx"
    walk_at "sc"
    exact hq _ hp1
end Sw.K26

set_option Elab.async false
set_option linter.all false
set_option maxRecDepth 100000
set_option maxHeartbeats 1000000
namespace Sw.K26
open PySem Sw
local macro_rules | `(tactic| walk_at "sx") => `(tactic| try simp only [wp_bind, wp_pure, wp_some, wp_none, wp_bad, wp_at, wp_ite, wp_shM, wp_owM, exec, ev, evl, evo, evi, evf, evg, seqM, seqB, seqW, seqC, borM, borI, testM, optM, bindT, bindT.binds, storeF, storesF, wipeF, id_eq, seqS, lstOf_lst,
  lookV_0, lookV_s, borV_0, borV_1, borV_s, ownAt_0, ownAt_s, frzF_0, frzF_1, frzF_2, frzF_s, ofK_sh, ofK_ow, owK_ow, truth_bl, truth_non, truth_int, truth_tup, truth_lst, cmp_le, cmp_lt, cmp_ge, cmp_gt, cmp_eq, cmp_ne, cmp_in, cmp_nin, bin_add, bin_sub, neg_int, rev_tup, rev_lst, item_tup, item_lst, item_tup0, item_lst0, item_last, bi_len_tup, bi_len_lst, bi_tuple_lst, bi_tuple_tup, bi_list_lst, bi_list_tup, bi_int_int, bi_int_bl, bi_repr, bi_all, bi_sorted_lst, bi_sorted_tup,
  row_tup, row_lst, walk_tup, walk_lst, walk_seqI, cx_call, cx_glob, cx_fields, cx_sub, turnK_next, turnK_cont, turnK_brk, turnK_ret, turnK_exc, thenK_next, thenK_ret, thenK_exc, thenK_brk, thenK_cont, endK_ret, endK_next, endK_exc, wp_nil, wp_okRow, bi_list_seqI, ty_tup, ty_bl, wp_try, tryK_ret, tryK_next, tryK_exc, hotK_ret, tx_call, tx_glob, tx_sub, tx_fields, tx_thunk, low_call, low_glob, low_glob, get_cells, get_at, get_digits, get_count, get_fold, set_at, set_digits, set_count, set_fold,
  List.getElem?_cons_zero, List.getElem?_cons_succ, List.length_cons, List.length_nil, List.set_cons_zero, List.set_cons_succ, List.map_cons, List.map_nil, List.zip_cons_cons, List.zip_nil_right, List.zip_nil_left, List.replicate, List.append_nil, List.cons_append, List.nil_append, Option.bind_some, Option.map_some, Option.bind_none, Option.map_none, Nat.reduceAdd, Nat.reduceSub, Nat.reduceLT, Nat.reduceLeDiff, if_true, if_false, Bool.false_eq_true, Nat.zero_add, Nat.lt_irrefl, Nat.zero_lt_succ, Nat.reduceSucc, decide_true, decide_false, Bool.true_eq_false, if_pos, Bool.not_true, Bool.not_false, Bool.not_eq_true', Bool.not_eq_false', decide_eq_true_eq, decide_eq_false_iff_not, Prod.mk.injEq])
local macro_rules | `(tactic| walk_at "sc") => `(tactic| (rw [wp_cons]; walk_at "sx"))
local macro_rules | `(tactic| walk_at "go") => `(tactic| try simp (disch := omega) only [wp_bind, wp_pure, wp_some, wp_none, wp_bad, wp_at, wp_ite, wp_shM, wp_owM, exec, ev, evl, evo, evi, evf, evg, seqM, seqB, seqW, seqC, borM, borI, testM, optM, bindT, bindT.binds, storeF, storesF, wipeF, id_eq, seqS, lstOf_lst,
  lookV_0, lookV_s, borV_0, borV_1, borV_s, ownAt_0, ownAt_s, frzF_0, frzF_1, frzF_2, frzF_s, ofK_sh, ofK_ow, owK_ow, truth_bl, truth_non, truth_int, truth_tup, truth_lst, cmp_le, cmp_lt, cmp_ge, cmp_gt, cmp_eq, cmp_ne, cmp_in, cmp_nin, bin_add, bin_sub, neg_int, rev_tup, rev_lst, item_tup, item_lst, item_tup0, item_lst0, item_last, bi_len_tup, bi_len_lst, bi_tuple_lst, bi_tuple_tup, bi_list_lst, bi_list_tup, bi_int_int, bi_int_bl, bi_repr, bi_all, bi_sorted_lst, bi_sorted_tup,
  row_tup, row_lst, walk_tup, walk_lst, walk_seqI, cx_call, cx_glob, cx_fields, cx_sub, turnK_next, turnK_cont, turnK_brk, turnK_ret, turnK_exc, thenK_next, thenK_ret, thenK_exc, thenK_brk, thenK_cont, endK_ret, endK_next, endK_exc, wp_nil, wp_okRow, bi_list_seqI, ty_tup, ty_bl, wp_try, tryK_ret, tryK_next, tryK_exc, hotK_ret, tx_call, tx_glob, tx_sub, tx_fields, tx_thunk, low_call, low_glob, low_glob, get_cells, get_at, get_digits, get_count, get_fold, set_at, set_digits, set_count, set_fold,
  List.getElem?_cons_zero, List.getElem?_cons_succ, List.length_cons, List.length_nil, List.set_cons_zero, List.set_cons_succ, List.map_cons, List.map_nil, List.zip_cons_cons, List.zip_nil_right, List.zip_nil_left, List.replicate, List.append_nil, List.cons_append, List.nil_append, Option.bind_some, Option.map_some, Option.bind_none, Option.map_none, Nat.reduceAdd, Nat.reduceSub, Nat.reduceLT, Nat.reduceLeDiff, if_true, if_false, Bool.false_eq_true, Nat.zero_add, Nat.lt_irrefl, Nat.zero_lt_succ, Nat.reduceSucc, decide_true, decide_false, Bool.true_eq_false, if_pos, Bool.not_true, Bool.not_false, Bool.not_eq_true', Bool.not_eq_false', decide_eq_true_eq, decide_eq_false_iff_not, Prod.mk.injEq, c_add, c_add1, c_add2, c_add3, c_1add, c_2add, c_sub, c_sub1, c_sub2, c_le, c_lt, c_0le, c_1le, c_0lt, c_1lt, c_2le, c_le8, c_eq, c_eq0, c_eq1, getN, sizeT, ifT, ifF, ifTP, ifFP, guardL, sliceTo, sliceFrom, dct_item, evg1, pairM, dctM, keyD_int, dctD_dct, get2_eq, seqP, range1, range2, eqD_int, eqD_natT, eqD_natL, eqD_bl, add_tup, add_lst, addF_lst, List.length_map, List.length_range, List.length_range', true_and, and_true, Option.some.injEq, Int.toNat_natCast])
local macro_rules | `(tactic| walk_at "gc") => `(tactic| (rw [wp_cons]; walk_at "go"))
variable {k : Nat} {st : Store} {Q : Slot → Store → Prop} {X : Str → List (Str × D) → Store → Prop}
theorem slice_T {a b : Nat} (ds : List D) (hab : a ≤ b) (hb : b ≤ ds.length) : sliceD (some (a : Int)) (some (b : Int)) (.tup ds) = some (.tup ((ds.drop a).take (b - a))) := by
  have e1 : bndD ds.length 0 (some (a : Int)) = a := by rw [bnd_from]; omega
  have e2 : bndD ds.length ds.length (some (b : Int)) = b := by rw [bnd_to]; omega
  show some (D.tup ((ds.drop (bndD ds.length 0 (some (a : Int)))).take (bndD ds.length ds.length (some (b : Int)) - bndD ds.length 0 (some (a : Int))))) = _
  rw [e1, e2]
theorem swap_ord {w : List Nat} (h : IsOrder w) {i j : Nat} (hi : i < w.length) (hj : j < w.length) : IsOrder ((w.set i (w.getD j 0)).set j (w.getD i 0)) := by
  have hl : ((w.set i (w.getD j 0)).set j (w.getD i 0)).length = w.length := by simp
  refine ⟨?_, by rw [hl]; exact h.pos, by rw [hl]; exact h.most⟩
  rw [hl]
  refine List.Perm.trans ?_ h.perm
  rw [getD_at hi, getD_at hj]
  exact List.set_set_perm hi hj
theorem law_lower_w {w : List Nat} (h : IsOrder w) (hq : ∀ vs : List (List Nat), (∀ v ∈ vs, IsOrder v ∧ v.length = w.length) → vs.length ≤ 64 → Q (.ow (vs.map tupN)) st) : Wp (P.prog.call (k + 2) "_law_lower" [tupN w]) st Q X := by
  have h8 := h.most
  rw [wp_call def__law_lower rfl]
  unfold d__law_lower
  dsimp only
  walk_at "gc"
  rw [wp_cons]
  walk_at "go"
  refine law_pairs_w (by omega) ?_
  walk_at "go"
  have hpl : (pairsN w.length).length ≤ 64 := Nat.le_trans (pairs_len _) (Nat.mul_le_mul h8 h8)
  refine wp_loopN (fun m δ st' => st' = st ∧ ∃ (vs : List (List Nat)) (a b c : Option Slot), (∀ v ∈ vs, IsOrder v ∧ v.length = w.length) ∧ vs.length ≤ m ∧ δ = [some (.sh (tupN w)), some (.ow (vs.map tupN)), a, b, c]) ⟨rfl, [], none, none, none, fun v h => absurd h (by simp), Nat.le_refl _, rfl⟩ ?_ ?_
  · rintro m d δ st' hd ⟨rfl, vs, a, b, c, hv, hm, rfl⟩
    have hml : m < (pairsN w.length).length := by simpa using (List.getElem?_eq_some_iff.mp hd).1
    rw [List.getElem?_map, List.getElem?_eq_getElem hml] at hd
    have hd := Option.some.inj hd
    obtain ⟨p1, p2⟩ := pair_mem (List.getElem_mem hml)
    generalize (pairsN w.length)[m] = p at hd p1 p2
    obtain ⟨i, j⟩ := p
    subst hd
    dsimp only at p1 p2
    show Wp (M.bind (M.of (bindT _ (D.tup [nD i, nD j]) _)) _) _ _ _
    walk_at "go"
    walk_at "sc"
    walk_at "go"
    by_cases q : w.getD j 0 < w.getD i 0
    · rw [ifTP q]
      refine wp_lc ((w.drop (i + 1)).take (j - (i + 1))) nD (fun x => decide (w.getD j 0 < x ∧ x < w.getD i 0)) nD (le_size (by simp; omega)) (fun R hR => ?_) (fun x hx R hR => ?_) ?_
      · walk_at "go"
        rw [slice_T _ (by omega) (by simp; omega), ← List.map_drop, ← List.map_take]
        walk_at "go"
        exact hR
      · walk_at "go"
        by_cases q1 : w.getD j 0 < x
        · rw [ifTP q1]
          by_cases q2 : x < w.getD i 0
          · rw [decide_eq_true ⟨q1, q2⟩] at hR
            rw [ifTP q2]
            exact hR
          · rw [decide_eq_false (fun z => q2 z.2)] at hR
            rw [ifFP q2]
            exact hR
        · rw [decide_eq_false (fun z => q1 z.1)] at hR
          rw [ifFP q1]
          exact hR
      · generalize ((w.drop (i + 1)).take (j - (i + 1))).filter _ = fl
        rw [show eqD (D.lst (fl.map nD)) (D.lst []) = some (decide (fl = [])) from eqD_natL fl []]
        walk_at "go"
        by_cases q3 : fl = []
        · rw [ifTP q3]
          walk_at "gc"
          refine law_swapped_w (by omega) (by omega) (by omega) ?_
          walk_at "go"
          refine ⟨vs ++ [(w.set i (w.getD j 0)).set j (w.getD i 0)], _, _, _, fun v hvm => ?_, by rw [List.length_append, List.length_singleton]; omega, by rw [List.map_append]; rfl⟩
          rcases List.mem_append.mp hvm with z | z
          · exact hv v z
          · rw [List.mem_singleton.mp z]
            exact ⟨swap_ord h (by omega) (by omega), by simp⟩
        · rw [ifFP q3]
          exact ⟨vs, _, _, _, hv, by omega, rfl⟩
    · rw [ifFP q]
      exact ⟨vs, _, _, _, hv, by omega, rfl⟩
  · rintro δ st' ⟨rfl, vs, a, b, c, hv, hm, rfl⟩
    rw [List.length_map] at hm
    walk_at "sx"
    walk_at "sc"
    exact hq vs hv (by omega)
theorem over_ord {w : List Nat} (h : IsOrder w) : IsOrder (w.map fun x => w.length - 1 - x) := by
  have hl : (w.map fun x => w.length - 1 - x).length = w.length := by simp
  refine ⟨?_, by rw [hl]; exact h.pos, by rw [hl]; exact h.most⟩
  rw [hl]
  refine (h.perm.map _).trans ?_
  rw [show (List.range w.length).map (fun x => w.length - 1 - x) = (List.range w.length).reverse from ?_]
  · exact List.reverse_perm _
  · refine List.ext_getElem (by simp) fun i h1 h2 => ?_
    simp
theorem law_upper_w {w : List Nat} (h : IsOrder w) (hq : ∀ vs : List (List Nat), (∀ v ∈ vs, IsOrder v ∧ v.length = w.length) → vs.length ≤ 64 → Q (.sh (.lst (vs.map tupN))) st) : Wp (P.prog.call (k + 3) "_law_upper" [tupN w]) st Q X := by
  have h8 := h.most
  have hp := h.pos
  rw [wp_call def__law_upper rfl]
  unfold d__law_upper
  dsimp only
  walk_at "gc"
  walk_at "gc"
  refine wp_lcI (fun items acc st' => st' = st ∧ ∃ us vs : List (List Nat), items = us.map tupN ∧ acc = vs.map tupN ∧ (∀ u ∈ us, IsOrder u ∧ u.length = w.length) ∧ (∀ v ∈ vs, IsOrder v ∧ v.length = w.length) ∧ vs.length + us.length ≤ 64) (fun R hR => ?_) (fun d r acc st' hI => ?_) fun acc st' hI => ?_
  · walk_at "go"
    refine wp_lcm w nD (fun a => nD (w.length - 1 - a)) (le_size (by omega)) (fun R hR => ?_) (fun a ha R hR => ?_) ?_
    · walk_at "go"
      exact hR
    · have := h.lt ha
      walk_at "go"
      exact hR
    · walk_at "go"
      rw [show (w.map fun a => nD (w.length - 1 - a)) = (w.map fun a => w.length - 1 - a).map nD by rw [List.map_map]; rfl]
      refine law_lower_w (over_ord h) fun vs hv hl => ?_
      walk_at "go"
      refine hR _ st ⟨rfl, vs, [], rfl, rfl, fun v hvm => ?_, fun v hvm => absurd hvm (by simp), by simpa using hl⟩
      have := hv v hvm
      rw [List.length_map] at this
      exact this
  · obtain ⟨rfl, us, vs, e1, rfl, hu, hv, hl⟩ := hI
    cases us with
    | nil => cases e1
    | cons u us =>
      rw [List.map_cons] at e1
      injection e1 with e1 e2
      subst e1 e2
      rw [List.length_cons] at hl
      obtain ⟨u1, u2⟩ := hu u List.mem_cons_self
      walk_at "go"
      refine wp_lcm u nD (fun a => nD (w.length - 1 - a)) (le_size (by omega)) (fun R hR => ?_) (fun a ha R hR => ?_) ?_
      · walk_at "go"
        exact hR
      · have := u1.lt ha
        walk_at "go"
        exact hR
      · walk_at "go"
        refine ⟨Nat.lt_of_lt_of_le (show vs.length < 1000 by omega) (le_size (by decide)), us, vs ++ [u.map fun a => u.length - 1 - a], rfl, ?_, fun x hx => hu x (List.mem_cons_of_mem _ hx), fun v hvm => ?_, by rw [List.length_append, List.length_singleton]; omega⟩
        · rw [List.map_append, u2]
          show _ ++ [_] = _ ++ [D.tup ((u.map _).map nD)]
          rw [List.map_map]
          rfl
        · rcases List.mem_append.mp hvm with z | z
          · exact hv v z
          · rw [List.mem_singleton.mp z]
            exact ⟨over_ord u1, by simp [u2]⟩
  · obtain ⟨rfl, us, vs, e1, rfl, hu, hv, hl⟩ := hI
    walk_at "go"
    walk_at "gc"
    walk_at "gc"
    exact hq vs hv (by omega)
end Sw.K26

set_option Elab.async false
set_option linter.all false
set_option maxRecDepth 100000
set_option maxHeartbeats 1000000
namespace Sw.K26
open PySem Sw
local macro_rules | `(tactic| walk_at "sx") => `(tactic| try simp only [wp_bind, wp_pure, wp_some, wp_none, wp_bad, wp_at, wp_ite, wp_shM, wp_owM, exec, ev, evl, evo, evi, evf, evg, seqM, seqB, seqW, seqC, borM, borI, testM, optM, bindT, bindT.binds, storeF, storesF, wipeF, id_eq, seqS, lstOf_lst,
  lookV_0, lookV_s, borV_0, borV_1, borV_s, ownAt_0, ownAt_s, frzF_0, frzF_1, frzF_2, frzF_s, ofK_sh, ofK_ow, owK_ow, truth_bl, truth_non, truth_int, truth_tup, truth_lst, cmp_le, cmp_lt, cmp_ge, cmp_gt, cmp_eq, cmp_ne, cmp_in, cmp_nin, bin_add, bin_sub, neg_int, rev_tup, rev_lst, item_tup, item_lst, item_tup0, item_lst0, item_last, bi_len_tup, bi_len_lst, bi_tuple_lst, bi_tuple_tup, bi_list_lst, bi_list_tup, bi_int_int, bi_int_bl, bi_repr, bi_all, bi_sorted_lst, bi_sorted_tup,
  row_tup, row_lst, walk_tup, walk_lst, walk_seqI, cx_call, cx_glob, cx_fields, cx_sub, turnK_next, turnK_cont, turnK_brk, turnK_ret, turnK_exc, thenK_next, thenK_ret, thenK_exc, thenK_brk, thenK_cont, endK_ret, endK_next, endK_exc, wp_nil, wp_okRow, bi_list_seqI, ty_tup, ty_bl, wp_try, tryK_ret, tryK_next, tryK_exc, hotK_ret, tx_call, tx_glob, tx_sub, tx_fields, tx_thunk, low_call, low_glob, low_glob, get_cells, get_at, get_digits, get_count, get_fold, set_at, set_digits, set_count, set_fold,
  List.getElem?_cons_zero, List.getElem?_cons_succ, List.length_cons, List.length_nil, List.set_cons_zero, List.set_cons_succ, List.map_cons, List.map_nil, List.zip_cons_cons, List.zip_nil_right, List.zip_nil_left, List.replicate, List.append_nil, List.cons_append, List.nil_append, Option.bind_some, Option.map_some, Option.bind_none, Option.map_none, Nat.reduceAdd, Nat.reduceSub, Nat.reduceLT, Nat.reduceLeDiff, if_true, if_false, Bool.false_eq_true, Nat.zero_add, Nat.lt_irrefl, Nat.zero_lt_succ, Nat.reduceSucc, decide_true, decide_false, Bool.true_eq_false, if_pos, Bool.not_true, Bool.not_false, Bool.not_eq_true', Bool.not_eq_false', decide_eq_true_eq, decide_eq_false_iff_not, Prod.mk.injEq])
local macro_rules | `(tactic| walk_at "sc") => `(tactic| (rw [wp_cons]; walk_at "sx"))
local macro_rules | `(tactic| walk_at "go") => `(tactic| try simp (disch := omega) only [wp_bind, wp_pure, wp_some, wp_none, wp_bad, wp_at, wp_ite, wp_shM, wp_owM, exec, ev, evl, evo, evi, evf, evg, seqM, seqB, seqW, seqC, borM, borI, testM, optM, bindT, bindT.binds, storeF, storesF, wipeF, id_eq, seqS, lstOf_lst,
  lookV_0, lookV_s, borV_0, borV_1, borV_s, ownAt_0, ownAt_s, frzF_0, frzF_1, frzF_2, frzF_s, ofK_sh, ofK_ow, owK_ow, truth_bl, truth_non, truth_int, truth_tup, truth_lst, cmp_le, cmp_lt, cmp_ge, cmp_gt, cmp_eq, cmp_ne, cmp_in, cmp_nin, bin_add, bin_sub, neg_int, rev_tup, rev_lst, item_tup, item_lst, item_tup0, item_lst0, item_last, bi_len_tup, bi_len_lst, bi_tuple_lst, bi_tuple_tup, bi_list_lst, bi_list_tup, bi_int_int, bi_int_bl, bi_repr, bi_all, bi_sorted_lst, bi_sorted_tup,
  row_tup, row_lst, walk_tup, walk_lst, walk_seqI, cx_call, cx_glob, cx_fields, cx_sub, turnK_next, turnK_cont, turnK_brk, turnK_ret, turnK_exc, thenK_next, thenK_ret, thenK_exc, thenK_brk, thenK_cont, endK_ret, endK_next, endK_exc, wp_nil, wp_okRow, bi_list_seqI, ty_tup, ty_bl, wp_try, tryK_ret, tryK_next, tryK_exc, hotK_ret, tx_call, tx_glob, tx_sub, tx_fields, tx_thunk, low_call, low_glob, low_glob, get_cells, get_at, get_digits, get_count, get_fold, set_at, set_digits, set_count, set_fold,
  List.getElem?_cons_zero, List.getElem?_cons_succ, List.length_cons, List.length_nil, List.set_cons_zero, List.set_cons_succ, List.map_cons, List.map_nil, List.zip_cons_cons, List.zip_nil_right, List.zip_nil_left, List.replicate, List.append_nil, List.cons_append, List.nil_append, Option.bind_some, Option.map_some, Option.bind_none, Option.map_none, Nat.reduceAdd, Nat.reduceSub, Nat.reduceLT, Nat.reduceLeDiff, if_true, if_false, Bool.false_eq_true, Nat.zero_add, Nat.lt_irrefl, Nat.zero_lt_succ, Nat.reduceSucc, decide_true, decide_false, Bool.true_eq_false, if_pos, Bool.not_true, Bool.not_false, Bool.not_eq_true', Bool.not_eq_false', decide_eq_true_eq, decide_eq_false_iff_not, Prod.mk.injEq, c_add, c_add1, c_add2, c_add3, c_1add, c_2add, c_sub, c_sub1, c_sub2, c_le, c_lt, c_0le, c_1le, c_0lt, c_1lt, c_2le, c_le8, c_eq, c_eq0, c_eq1, getN, sizeT, ifT, ifF, ifTP, ifFP, guardL, sliceTo, sliceFrom, dct_item, evg1, pairM, dctM, keyD_int, dctD_dct, get2_eq, seqP, range1, range2, eqD_int, eqD_natT, eqD_natL, eqD_bl, add_tup, add_lst, addF_lst, List.length_map, List.length_range, List.length_range', true_and, and_true, Option.some.injEq, Int.toNat_natCast])
local macro_rules | `(tactic| walk_at "gc") => `(tactic| (rw [wp_cons]; walk_at "go"))
variable {k : Nat} {st : Store} {Q : Slot → Store → Prop} {X : Str → List (Str × D) → Store → Prop}
theorem eqD_cons_nil {d : D} {ds : List D} (h1 : (D.lst (d :: ds)).pl = true) (h2 : (D.lst (d :: ds)).dp ≤ 32) : eqD (.lst (d :: ds)) (.lst []) = some false := by
  obtain ⟨p, k⟩ := py_ok h1
  have e : ∃ q qs, p = .list (q :: qs) := by
    have h := k.py
    unfold D.py at h
    obtain ⟨ps, h3, h4⟩ := Option.map_eq_some_iff.mp h
    unfold D.py.pys at h3
    split at h3
    · cases h3
      exact ⟨_, _, h4.symm⟩
    · cases h3
  unfold eqD
  rw [k.py, show D.py (.lst []) = some (.list []) from rfl]
  dsimp only
  rw [shaped_of k.lay (by rw [k.dp]; exact h2), shaped_of (p := .list []) rfl (by decide)]
  obtain ⟨q, qs, rfl⟩ := e
  rfl
theorem pls_tups {vs : List (List Nat)} (h : ∀ v ∈ vs, IsOrder v) : (D.lst (vs.map tupN)).pl = true ∧ (D.lst (vs.map tupN)).dp ≤ 32 := by
  refine ⟨pls_map tupN _ fun v hv => rowD_pl (l := false) (h v hv), ?_⟩
  have := dps_map tupN 1 vs fun o _ => by
    have := dps_map nD 0 o fun x _ => Nat.le_refl 0
    show D.dps (o.map nD) + 1 ≤ 1
    omega
  show D.dps _ + 1 ≤ 32
  omega
theorem ite2F {c d : Prop} [Decidable c] [Decidable d] {A B : Prop} (h : ¬ (c ∧ d)) : (if c then (if d then A else B) else B) = B := by
  by_cases hc : c
  · rw [if_pos hc, if_neg fun z => h ⟨hc, z⟩]
  · rw [if_neg hc]
theorem near_order_w {b : Nat} {r st : Store} {w : List Nat} (hp : Pen b r st) (h : IsOrder w) (hb : b ≤ 800000) (hq : ∀ v, IsOrder v → v.length = w.length → ∀ st', Pen (b + 20) r st' → Q (.sh (tupN v)) st') : Wp (P.prog.call (k + 4) "_law_near_order" [.cell 0, tupN w]) st Q X := by
  have h8 := h.most
  have h1 := h.pos
  rw [wp_call def__law_near_order rfl]
  unfold d__law_near_order
  dsimp only
  walk_at "gc"
  refine draw_w (m := 4) hp (by omega) (by decide) (by decide) fun y hy st1 hp1 => ?_
  walk_at "go"
  walk_at "gc"
  by_cases y0 : y = 0
  · rw [ifTP y0]
    walk_at "gc"
    refine some_order_w hp1 h1 h8 (by omega) fun v hv hl st2 hp2 => ?_
    walk_at "go"
    exact hq v hv hl st2 (hp2.mono (by omega))
  rw [ifFP y0]
  walk_at "gc"
  by_cases y1 : y = 1 ∧ 1 < w.length
  · rw [ifTP y1.1]
    walk_at "go"
    walk_at "gc"
    refine draw_w (m := w.length - 1) hp1 (by omega) (by omega) (by omega) fun z hz st2 hp2 => ?_
    walk_at "go"
    refine law_stepped_w (by omega) (by omega) ?_
    walk_at "go"
    exact hq _ (st_ord h (by omega)) (stN_len _ _) st2 (hp2.mono (by omega))
  rw [ite2F y1]
  walk_at "gc"
  by_cases y2 : y = 2
  · rw [ifTP (show (y : Int) = 2 by omega)]
    walk_at "gc"
    refine draw_w (m := w.length) hp1 (by omega) (by omega) (by omega) fun z hz st2 hp2 => ?_
    walk_at "go"
    refine draw_w (m := w.length) hp2 (by omega) (by omega) (by omega) fun z2 hz2 st3 hp3 => ?_
    walk_at "go"
    refine law_swapped_w hz hz2 (by omega) ?_
    walk_at "go"
    exact hq _ (swap_ord h hz hz2) (by simp) st3 (hp3.mono (by omega))
  rw [ifFP (show ¬ (y : Int) = 2 by omega)]
  walk_at "gc"
  rw [wp_cons]
  walk_at "go"
  refine draw_w (m := 6) hp1 (by omega) (by omega) (by omega) fun z hz st2 hp2 => ?_
  walk_at "go"
  refine wp_loopN (fun i δ st' => ∃ (v : List Nat) (a c : Option Slot), IsOrder v ∧ v.length = w.length ∧ Pen (b + 2 + i) r st' ∧ δ = [some (.sh (.cell 0)), some (.sh (tupN w)), some (.sh (nD y)), some (.sh (.int (w.length : Int))), some (.sh (tupN v)), a, c]) ⟨w, none, none, h, rfl, hp2, rfl⟩ ?_ ?_
  · rintro i d δ st' hd ⟨v, a, c, hv, hvl, hp3, rfl⟩
    have hi : i < z := by simpa using (List.getElem?_eq_some_iff.mp hd).1
    walk_at "go"
    walk_at "gc"
    refine law_lower_w hv fun vs hvs hl => ?_
    walk_at "go"
    walk_at "gc"
    cases vs with
    | nil =>
      rw [show eqD (D.lst ([].map tupN)) (.lst []) = some true from rfl]
      walk_at "go"
      exact ⟨v, _, _, hv, hvl, hp3.mono (by omega), rfl⟩
    | cons x xs =>
      obtain ⟨g1, g2⟩ := pls_tups fun v hv => (hvs v hv).1
      rw [show eqD (D.lst ((x :: xs).map tupN)) (.lst []) = some false from eqD_cons_nil g1 g2]
      walk_at "go"
      refine pick_w (some_ := .lst ((x :: xs).map tupN)) rfl hp3 (by omega) (by simp) (by rw [List.length_map]; omega) fun d2 hd2 st4 hp4 => ?_
      obtain ⟨v2, hv2, rfl⟩ := List.mem_map.mp hd2
      obtain ⟨o1, o2⟩ := hvs v2 hv2
      walk_at "go"
      exact ⟨v2, _, _, o1, by omega, hp4, rfl⟩
  · rintro δ st' ⟨v, a, c, hv, hvl, hp3, rfl⟩
    rw [List.length_map, List.length_range] at hp3
    walk_at "sx"
    walk_at "sc"
    exact hq v hv hvl st' (hp3.mono (by omega))
end Sw.K26

set_option Elab.async false
set_option linter.all false
set_option maxRecDepth 100000
set_option maxHeartbeats 1000000
namespace Sw.K26
open PySem Sw
local macro_rules | `(tactic| walk_at "sx") => `(tactic| try simp only [wp_bind, wp_pure, wp_some, wp_none, wp_bad, wp_at, wp_ite, wp_shM, wp_owM, exec, ev, evl, evo, evi, evf, evg, seqM, seqB, seqW, seqC, borM, borI, testM, optM, bindT, bindT.binds, storeF, storesF, wipeF, id_eq, seqS, lstOf_lst,
  lookV_0, lookV_s, borV_0, borV_1, borV_s, ownAt_0, ownAt_s, frzF_0, frzF_1, frzF_2, frzF_s, ofK_sh, ofK_ow, owK_ow, truth_bl, truth_non, truth_int, truth_tup, truth_lst, cmp_le, cmp_lt, cmp_ge, cmp_gt, cmp_eq, cmp_ne, cmp_in, cmp_nin, bin_add, bin_sub, neg_int, rev_tup, rev_lst, item_tup, item_lst, item_tup0, item_lst0, item_last, bi_len_tup, bi_len_lst, bi_tuple_lst, bi_tuple_tup, bi_list_lst, bi_list_tup, bi_int_int, bi_int_bl, bi_repr, bi_all, bi_sorted_lst, bi_sorted_tup,
  row_tup, row_lst, walk_tup, walk_lst, walk_seqI, cx_call, cx_glob, cx_fields, cx_sub, turnK_next, turnK_cont, turnK_brk, turnK_ret, turnK_exc, thenK_next, thenK_ret, thenK_exc, thenK_brk, thenK_cont, endK_ret, endK_next, endK_exc, wp_nil, wp_okRow, bi_list_seqI, ty_tup, ty_bl, wp_try, tryK_ret, tryK_next, tryK_exc, hotK_ret, tx_call, tx_glob, tx_sub, tx_fields, tx_thunk, low_call, low_glob, low_glob, get_cells, get_at, get_digits, get_count, get_fold, set_at, set_digits, set_count, set_fold,
  List.getElem?_cons_zero, List.getElem?_cons_succ, List.length_cons, List.length_nil, List.set_cons_zero, List.set_cons_succ, List.map_cons, List.map_nil, List.zip_cons_cons, List.zip_nil_right, List.zip_nil_left, List.replicate, List.append_nil, List.cons_append, List.nil_append, Option.bind_some, Option.map_some, Option.bind_none, Option.map_none, Nat.reduceAdd, Nat.reduceSub, Nat.reduceLT, Nat.reduceLeDiff, if_true, if_false, Bool.false_eq_true, Nat.zero_add, Nat.lt_irrefl, Nat.zero_lt_succ, Nat.reduceSucc, decide_true, decide_false, Bool.true_eq_false, if_pos, Bool.not_true, Bool.not_false, Bool.not_eq_true', Bool.not_eq_false', decide_eq_true_eq, decide_eq_false_iff_not, Prod.mk.injEq])
local macro_rules | `(tactic| walk_at "sc") => `(tactic| (rw [wp_cons]; walk_at "sx"))
local macro_rules | `(tactic| walk_at "go") => `(tactic| try simp (disch := omega) only [wp_bind, wp_pure, wp_some, wp_none, wp_bad, wp_at, wp_ite, wp_shM, wp_owM, exec, ev, evl, evo, evi, evf, evg, seqM, seqB, seqW, seqC, borM, borI, testM, optM, bindT, bindT.binds, storeF, storesF, wipeF, id_eq, seqS, lstOf_lst,
  lookV_0, lookV_s, borV_0, borV_1, borV_s, ownAt_0, ownAt_s, frzF_0, frzF_1, frzF_2, frzF_s, ofK_sh, ofK_ow, owK_ow, truth_bl, truth_non, truth_int, truth_tup, truth_lst, cmp_le, cmp_lt, cmp_ge, cmp_gt, cmp_eq, cmp_ne, cmp_in, cmp_nin, bin_add, bin_sub, neg_int, rev_tup, rev_lst, item_tup, item_lst, item_tup0, item_lst0, item_last, bi_len_tup, bi_len_lst, bi_tuple_lst, bi_tuple_tup, bi_list_lst, bi_list_tup, bi_int_int, bi_int_bl, bi_repr, bi_all, bi_sorted_lst, bi_sorted_tup,
  row_tup, row_lst, walk_tup, walk_lst, walk_seqI, cx_call, cx_glob, cx_fields, cx_sub, turnK_next, turnK_cont, turnK_brk, turnK_ret, turnK_exc, thenK_next, thenK_ret, thenK_exc, thenK_brk, thenK_cont, endK_ret, endK_next, endK_exc, wp_nil, wp_okRow, bi_list_seqI, ty_tup, ty_bl, wp_try, tryK_ret, tryK_next, tryK_exc, hotK_ret, tx_call, tx_glob, tx_sub, tx_fields, tx_thunk, low_call, low_glob, low_glob, get_cells, get_at, get_digits, get_count, get_fold, set_at, set_digits, set_count, set_fold,
  List.getElem?_cons_zero, List.getElem?_cons_succ, List.length_cons, List.length_nil, List.set_cons_zero, List.set_cons_succ, List.map_cons, List.map_nil, List.zip_cons_cons, List.zip_nil_right, List.zip_nil_left, List.replicate, List.append_nil, List.cons_append, List.nil_append, Option.bind_some, Option.map_some, Option.bind_none, Option.map_none, Nat.reduceAdd, Nat.reduceSub, Nat.reduceLT, Nat.reduceLeDiff, if_true, if_false, Bool.false_eq_true, Nat.zero_add, Nat.lt_irrefl, Nat.zero_lt_succ, Nat.reduceSucc, decide_true, decide_false, Bool.true_eq_false, if_pos, Bool.not_true, Bool.not_false, Bool.not_eq_true', Bool.not_eq_false', decide_eq_true_eq, decide_eq_false_iff_not, Prod.mk.injEq, c_add, c_add1, c_add2, c_add3, c_1add, c_2add, c_sub, c_sub1, c_sub2, c_le, c_lt, c_0le, c_1le, c_0lt, c_1lt, c_2le, c_le8, c_eq, c_eq0, c_eq1, getN, sizeT, ifT, ifF, ifTP, ifFP, guardL, sliceTo, sliceFrom, dct_item, evg1, pairM, dctM, keyD_int, dctD_dct, get2_eq, seqP, range1, range2, eqD_int, eqD_natT, eqD_natL, eqD_bl, add_tup, add_lst, addF_lst, List.length_map, List.length_range, List.length_range', true_and, and_true, Option.some.injEq, Int.toNat_natCast])
local macro_rules | `(tactic| walk_at "gc") => `(tactic| (rw [wp_cons]; walk_at "go"))
variable {k : Nat} {st : Store} {Q : Slot → Store → Prop} {X : Str → List (Str × D) → Store → Prop}
def noOrds (n : Nat) : List D := [.non, .int 5, .str "01", .tup [], .lst ((List.range (n - 1)).map nD ++ [.int (n : Int)]), .lst (.bl true :: ((List.range n).map nD).drop 1), .lst ((List.range (n - 1)).map nD ++ [.non]), .lst ((List.range 9).map nD), .lst ((List.range n).map nD ++ [.int 0])]
theorem no_all : ∀ m : _root_.Fin 9, 1 ≤ m.val → ((noOrds m.val).all fun d => d.pl && (decide (d.dp ≤ 4) && (decide (d.wt ≤ 30000) && !isOrd d))) = true := by decide +kernel
theorem no_at {n : Nat} (h1 : 1 ≤ n) (h8 : n ≤ 8) {d : D} (h : d ∈ noOrds n) : d.pl = true ∧ d.dp ≤ 4 ∧ d.wt ≤ 30000 ∧ isOrd d = false := by
  have := List.all_eq_true.mp (no_all ⟨n, by omega⟩ h1) d h
  simp only [Bool.and_eq_true, decide_eq_true_eq, Bool.not_eq_true'] at this
  exact this
theorem slice_last {n : Nat} (h : 1 ≤ n) : sliceD none (some (-1)) (.lst ((List.range n).map nD)) = some (.lst ((List.range (n - 1)).map nD)) := by
  have e2 : bndD ((List.range n).map nD).length ((List.range n).map nD).length (some (-1)) = n - 1 := by
    unfold bndD
    dsimp only
    rw [if_pos (by decide), List.length_map, List.length_range]
    omega
  show some (D.lst ((((List.range n).map nD).drop 0).take (bndD ((List.range n).map nD).length ((List.range n).map nD).length (some (-1)) - 0))) = _
  rw [e2, List.drop_zero, Nat.sub_zero, ← List.map_take, List.take_range]
  congr 4
  omega
theorem no_order_w {b n : Nat} {r st : Store} (hp : Pen b r st) (h1 : 1 ≤ n) (h8 : n ≤ 8) (hb : b ≤ 900000) (hq : ∀ d, d.pl = true → d.dp ≤ 4 → d.wt ≤ 30000 → isOrd d = false → ∀ st', Pen (b + 1) r st' → Q (.sh d) st') : Wp (P.prog.call (k + 3) "_law_no_order" [.cell 0, .int (n : Int)]) st Q X := by
  rw [wp_call def__law_no_order rfl]
  unfold d__law_no_order
  dsimp only
  walk_at "gc"
  walk_at "gc"
  rw [slice_last h1]
  walk_at "sx"
  rw [add_lst (by simp; omega)]
  walk_at "sx"
  rw [show sliceD (some 1) none (D.lst ((List.range n).map nD)) = some (.lst (((List.range n).map nD).drop 1)) from slice_fromL (i := 1) _]
  walk_at "sx"
  rw [add_lst (by simp; omega)]
  walk_at "sx"
  rw [add_lst (by simp; omega)]
  walk_at "sx"
  rw [show rangeD [D.int 9] = some ((List.range 9).map nD) from range1 (n := 9) (by decide)]
  walk_at "sx"
  refine ⟨le_size (by decide), ?_⟩
  rw [add_lst (by simp; omega)]
  walk_at "sx"
  walk_at "sc"
  refine pick_w (some_ := .lst (noOrds n)) rfl hp (by omega) (show 1 ≤ 9 by decide) (show 9 ≤ 1000000 by decide) fun d hd st2 hp2 => ?_
  obtain ⟨g1, g2, g3, g4⟩ := no_at h1 h8 hd
  walk_at "sx"
  exact hq d g1 g2 g3 g4 st2 hp2
theorem plain_w {n : Nat} (h : n ≤ 1000) (hq : Q (.sh (tupN (List.range n))) st) : Wp (P.prog.call (k + 1) "_law_plain" [.int (n : Int)]) st Q X := by
  rw [wp_call def__law_plain rfl]
  unfold d__law_plain
  dsimp only
  walk_at "gc"
  exact hq
theorem bel_eq {n : Nat} {a b u v w : List Nat} (h1 : 1 ≤ n) (h8 : n ≤ 8) (ra : Red n a u) (rb : Red n b v) (hu : IsOrder u) (lu : u.length = n) (hv : IsOrder v) (lv : v.length = n) (hw : IsOrder w) (lw : w.length = n) : isBel w (raiseL b u) = isBel (dropL a w) v := by
  have q := drop_star h1 h8 ra rb hv lv hw lw
  have wa : Word w.length a := by rw [lw]; exact ra.1
  have wb : Word u.length b := by rw [lu]; exact rb.1
  have e1 := bel_iff hw (raiseL_ord hu wb) (by rw [raiseL_len, lu, lw])
  have e2 := bel_iff (dropL_ord hw wa) hv (by rw [dropL_len, lw, lv])
  rw [Bool.eq_iff_iff, e1, e2]
  exact q
theorem red_first {n : Nat} {u : List Nat} (hu : IsOrder u) (lu : u.length = n) : Red n (firstW u) u := by
  have := first_word hu
  rw [lu] at this
  exact this
theorem pair_right_w {b n : Nat} {r st : Store} {u v w : List Nat} (hp : Pen b r st) (h1 : 1 ≤ n) (h8 : n ≤ 8) (hu : IsOrder u) (lu : u.length = n) (hv : IsOrder v) (lv : v.length = n) (hw : IsOrder w) (lw : w.length = n) (hb : b ≤ 800000) (hq : ∀ st', Pen (b + 64) r st' → Q (.sh (.bl true)) st') : Wp (P.prog.call (k + 4) "_law_pair_right" [.cell 0, tupN u, tupN v, tupN w, tupN (dropL (firstW u) w)]) st Q X := by
  rw [wp_call def__law_pair_right rfl]
  unfold d__law_pair_right
  dsimp only
  walk_at "gc"
  refine law_short_word_w hp hv lv hb fun s hs st1 hp1 => ?_
  walk_at "go"
  refine law_up_w (s := s) rfl (by rw [lu]; exact hs.1) (by omega) ?_
  walk_at "go"
  refine is_below_w (by rw [raiseL_len, lu, lw]) (by rw [raiseL_len]; omega) ?_
  walk_at "go"
  refine is_below_w (by rw [dropL_len, lw, lv]) (by omega) ?_
  walk_at "go"
  rw [bel_eq h1 h8 (red_first hu lu) hs hu lu hv lv hw lw]
  rw [decide_eq_true rfl]
  exact hq _ hp1
theorem all_right_w {b n : Nat} {r st : Store} {u w : List Nat} (hp : Pen b r st) (h1 : 1 ≤ n) (h4 : n ≤ 4) (hu : IsOrder u) (lu : u.length = n) (hw : IsOrder w) (lw : w.length = n) (hb : b ≤ 700000) (hq : ∀ st', Pen (b + 16384) r st' → Q (.sh (.bl true)) st') : Wp (P.prog.call (k + 5) "_law_all_right" [.cell 0, tupN u, tupN w, tupN (dropL (firstW u) w)]) st Q X := by
  rw [wp_call def__law_all_right rfl]
  unfold d__law_all_right
  dsimp only
  rw [wp_cons]
  walk_at "go"
  rw [lu]
  refine law_rows_of_w (by omega) ?_
  walk_at "go"
  have hlen : (ordsN n).length ≤ 256 := by
    have : ∀ m : _root_.Fin 5, (ordsN m.val).length ≤ 256 := by decide +kernel
    exact this ⟨n, by omega⟩
  refine wp_loopN (fun i δ st' => ∃ a, Pen (b + 64 * i) r st' ∧ δ = [some (.sh (.cell 0)), some (.sh (tupN u)), some (.sh (tupN w)), some (.sh (tupN (dropL (firstW u) w))), a]) ⟨none, hp, rfl⟩ ?_ ?_
  · rintro i d δ st' hd ⟨a, hp2, rfl⟩
    have hi : i < (ordsN n).length := by simpa using (List.getElem?_eq_some_iff.mp hd).1
    rw [item_tups hi] at hd
    cases hd
    obtain ⟨_, hv, lv⟩ := ords_at h1 (by omega) hi
    generalize (ordsN n)[i] = v at hv lv
    walk_at "go"
    walk_at "sc"
    refine pair_right_w hp2 h1 (by omega) hu lu hv lv hw lw (by omega) fun st3 hp3 => ?_
    walk_at "sx"
    refine star_w (l1 := false) (l2 := false) hu hv (by rw [lu, lv]) ?_
    walk_at "sx"
    refine is_below_w (by rw [raiseL_len, lu, lw]) (by rw [raiseL_len]; omega) ?_
    walk_at "sx"
    refine is_below_w (by rw [dropL_len, lw, lv]) (by omega) ?_
    rw [bel_eq h1 (by omega) (red_first hu lu) (red_first hv lv) hu lu hv lv hw lw]
    walk_at "sx"
    rw [eqD_bl, decide_eq_true rfl]
    walk_at "sx"
    exact ⟨_, hp3.mono (by omega), rfl⟩
  · rintro δ st' ⟨a, hp2, rfl⟩
    rw [List.length_map] at hp2
    walk_at "sx"
    walk_at "sc"
    exact hq _ (hp2.mono (by omega))
/-- what comes of an error -/
def refX (Q : Slot → Store → Prop) : Str → List (Str × D) → Store → Prop := fun c fs st =>
  (c = "BadOrder" ∧ ∃ v t, fs = [nm "value" v] ∧ reprD v = some t ∧ Q (.sh (.tup [.str "order", .str t])) st) ∨
  (c = "NotSame" ∧ ∃ w : List Nat, fs = [nm "order" (tupN w)] ∧ Q (.sh (.tup [.str "same", tupN w])) st)
theorem refused_w {m : Calls → M D} (h : Wp (m (P.prog.call k)) st (fun _ s => Q (.sh .non) s) (refX Q)) : Wp ((cx P.prog (k + 2)).callT "_law_refused" m) st Q X := by
  rw [wp_lam def__law_refused rfl]
  unfold d__law_refused
  dsimp only
  walk_at "sc"
  rw [wp_cons]
  walk_at "sx"
  refine wp_mono h (fun d s hq => ?_) (fun c fs s hx => ?_)
  · walk_at "sx"
    walk_at "sc"
    exact hq
  · walk_at "sx"
    rcases hx with ⟨rfl, v, t, rfl, ht, hq⟩ | ⟨rfl, w, rfl, hq⟩
    · rw [wp_handle_yes (by rfl) (by rfl) (by rfl)]
      walk_at "sc"
      rw [show subAny P.prog.sub "BadOrder" ["NotSame", "BadWord"] = some false by rfl]
      walk_at "sx"
      rw [show List.lookup ("value" : Str) [nm "value" v] = some v by rfl]
      walk_at "sx"
      rw [ht]
      walk_at "sx"
      exact ⟨le_size (by decide), hq⟩
    · rw [wp_handle_no (by rfl), wp_handle_yes (by rfl) (by rfl) (by rfl)]
      walk_at "sc"
      rw [show subAny P.prog.sub "NotSame" ["BadOrder"] = some false by rfl]
      walk_at "sx"
      rw [show List.lookup ("order" : Str) [nm "order" (tupN w)] = some (tupN w) by rfl]
      walk_at "sx"
      exact ⟨le_size (by decide), hq⟩
theorem dropped_x {a b : D} {c : Str} {fs : List (Str × D)} (ha : a.pl = true) (hb : b.pl = true) (h : needErr none [a, b] = some (c, fs)) (hq : X c fs st) : Wp (P.prog.call (k + 4) "dropped" [a, b]) st Q X := by
  rw [wp_call def_dropped rfl]
  unfold d_dropped
  dsimp only
  walk_at "gc"
  refine need_two_x ha hb h ?_
  walk_at "go"
  exact hq
end Sw.K26

set_option Elab.async false
set_option linter.all false
set_option maxRecDepth 100000
set_option maxHeartbeats 1000000
namespace Sw.K26
open PySem Sw
local macro_rules | `(tactic| walk_at "sx") => `(tactic| try simp only [wp_bind, wp_pure, wp_some, wp_none, wp_bad, wp_at, wp_ite, wp_shM, wp_owM, exec, ev, evl, evo, evi, evf, evg, seqM, seqB, seqW, seqC, borM, borI, testM, optM, bindT, bindT.binds, storeF, storesF, wipeF, id_eq, seqS, lstOf_lst,
  lookV_0, lookV_s, borV_0, borV_1, borV_s, ownAt_0, ownAt_s, frzF_0, frzF_1, frzF_2, frzF_s, ofK_sh, ofK_ow, owK_ow, truth_bl, truth_non, truth_int, truth_tup, truth_lst, cmp_le, cmp_lt, cmp_ge, cmp_gt, cmp_eq, cmp_ne, cmp_in, cmp_nin, bin_add, bin_sub, neg_int, rev_tup, rev_lst, item_tup, item_lst, item_tup0, item_lst0, item_last, bi_len_tup, bi_len_lst, bi_tuple_lst, bi_tuple_tup, bi_list_lst, bi_list_tup, bi_int_int, bi_int_bl, bi_repr, bi_all, bi_sorted_lst, bi_sorted_tup,
  row_tup, row_lst, walk_tup, walk_lst, walk_seqI, cx_call, cx_glob, cx_fields, cx_sub, turnK_next, turnK_cont, turnK_brk, turnK_ret, turnK_exc, thenK_next, thenK_ret, thenK_exc, thenK_brk, thenK_cont, endK_ret, endK_next, endK_exc, wp_nil, wp_okRow, bi_list_seqI, ty_tup, ty_bl, wp_try, tryK_ret, tryK_next, tryK_exc, hotK_ret, tx_call, tx_glob, tx_sub, tx_fields, tx_thunk, low_call, low_glob, low_glob, get_cells, get_at, get_digits, get_count, get_fold, set_at, set_digits, set_count, set_fold,
  List.getElem?_cons_zero, List.getElem?_cons_succ, List.length_cons, List.length_nil, List.set_cons_zero, List.set_cons_succ, List.map_cons, List.map_nil, List.zip_cons_cons, List.zip_nil_right, List.zip_nil_left, List.replicate, List.append_nil, List.cons_append, List.nil_append, Option.bind_some, Option.map_some, Option.bind_none, Option.map_none, Nat.reduceAdd, Nat.reduceSub, Nat.reduceLT, Nat.reduceLeDiff, if_true, if_false, Bool.false_eq_true, Nat.zero_add, Nat.lt_irrefl, Nat.zero_lt_succ, Nat.reduceSucc, decide_true, decide_false, Bool.true_eq_false, if_pos, Bool.not_true, Bool.not_false, Bool.not_eq_true', Bool.not_eq_false', decide_eq_true_eq, decide_eq_false_iff_not, Prod.mk.injEq])
local macro_rules | `(tactic| walk_at "sc") => `(tactic| (rw [wp_cons]; walk_at "sx"))
local macro_rules | `(tactic| walk_at "go") => `(tactic| try simp (disch := omega) only [wp_bind, wp_pure, wp_some, wp_none, wp_bad, wp_at, wp_ite, wp_shM, wp_owM, exec, ev, evl, evo, evi, evf, evg, seqM, seqB, seqW, seqC, borM, borI, testM, optM, bindT, bindT.binds, storeF, storesF, wipeF, id_eq, seqS, lstOf_lst,
  lookV_0, lookV_s, borV_0, borV_1, borV_s, ownAt_0, ownAt_s, frzF_0, frzF_1, frzF_2, frzF_s, ofK_sh, ofK_ow, owK_ow, truth_bl, truth_non, truth_int, truth_tup, truth_lst, cmp_le, cmp_lt, cmp_ge, cmp_gt, cmp_eq, cmp_ne, cmp_in, cmp_nin, bin_add, bin_sub, neg_int, rev_tup, rev_lst, item_tup, item_lst, item_tup0, item_lst0, item_last, bi_len_tup, bi_len_lst, bi_tuple_lst, bi_tuple_tup, bi_list_lst, bi_list_tup, bi_int_int, bi_int_bl, bi_repr, bi_all, bi_sorted_lst, bi_sorted_tup,
  row_tup, row_lst, walk_tup, walk_lst, walk_seqI, cx_call, cx_glob, cx_fields, cx_sub, turnK_next, turnK_cont, turnK_brk, turnK_ret, turnK_exc, thenK_next, thenK_ret, thenK_exc, thenK_brk, thenK_cont, endK_ret, endK_next, endK_exc, wp_nil, wp_okRow, bi_list_seqI, ty_tup, ty_bl, wp_try, tryK_ret, tryK_next, tryK_exc, hotK_ret, tx_call, tx_glob, tx_sub, tx_fields, tx_thunk, low_call, low_glob, low_glob, get_cells, get_at, get_digits, get_count, get_fold, set_at, set_digits, set_count, set_fold,
  List.getElem?_cons_zero, List.getElem?_cons_succ, List.length_cons, List.length_nil, List.set_cons_zero, List.set_cons_succ, List.map_cons, List.map_nil, List.zip_cons_cons, List.zip_nil_right, List.zip_nil_left, List.replicate, List.append_nil, List.cons_append, List.nil_append, Option.bind_some, Option.map_some, Option.bind_none, Option.map_none, Nat.reduceAdd, Nat.reduceSub, Nat.reduceLT, Nat.reduceLeDiff, if_true, if_false, Bool.false_eq_true, Nat.zero_add, Nat.lt_irrefl, Nat.zero_lt_succ, Nat.reduceSucc, decide_true, decide_false, Bool.true_eq_false, if_pos, Bool.not_true, Bool.not_false, Bool.not_eq_true', Bool.not_eq_false', decide_eq_true_eq, decide_eq_false_iff_not, Prod.mk.injEq, c_add, c_add1, c_add2, c_add3, c_1add, c_2add, c_sub, c_sub1, c_sub2, c_le, c_lt, c_0le, c_1le, c_0lt, c_1lt, c_2le, c_le8, c_eq, c_eq0, c_eq1, getN, sizeT, ifT, ifF, ifTP, ifFP, guardL, sliceTo, sliceFrom, dct_item, evg1, pairM, dctM, keyD_int, dctD_dct, get2_eq, seqP, range1, range2, eqD_int, eqD_natT, eqD_natL, eqD_bl, add_tup, add_lst, addF_lst, List.length_map, List.length_range, List.length_range', true_and, and_true, Option.some.injEq, Int.toNat_natCast])
local macro_rules | `(tactic| walk_at "gc") => `(tactic| (rw [wp_cons]; walk_at "go"))
variable {k : Nat} {st : Store} {Q : Slot → Store → Prop} {X : Str → List (Str × D) → Store → Prop}
theorem good_d {d : D} (h1 : d.pl = true) (h2 : d.dp ≤ 4) (h3 : d.wt ≤ 30000) : ∃ t, reprD d = some t ∧ PyData.strOk t = true := by
  obtain ⟨t, ht, htk⟩ := repr_good (good_of h1 (by omega) (by omega))
  exact ⟨t, ht, sOk_iff.mpr htk⟩
theorem two {x t : Str} (hx : PyData.strOk x = true) (ht : PyData.strOk t = true) : eqD (.tup [.str x, .str t]) (.tup [.str x, .str t]) = some true := eqD_same (by
  show (PyData.strOk x && (PyData.strOk t && true)) = true
  rw [hx, ht]
  rfl) (show 1 ≤ 32 by decide)
def lapTail : List S := match d_law.d.body with
  | _ :: .for _ _ b :: _ => b.drop 3
  | _ => []
theorem tail_w {n b : Nat} {u w : List Nat} {Q : Flow → Store → Prop} {a0 a2 a4 a5 a6 a9 a10 : Option Slot} (h1 : 1 ≤ n) (h8 : n ≤ 8) (hu : IsOrder u) (lu : u.length = n) (hw : IsOrder w) (lw : w.length = n) (hp : Pen b [] st) (hb : b ≤ 30000)
    (hq : ∀ a4 a5 a6 : Option Slot, ∀ st', Pen (b + 20000) [] st' → Q (.next [a0, some (.sh (.cell 0)), a2, some (.sh (.int (n : Int))), a4, a5, a6, some (.sh (tupN u)), some (.sh (tupN w)), a9, a10]) st') :
    Wp (execs (cx P.prog 19) lapTail [a0, some (.sh (.cell 0)), a2, some (.sh (.int (n : Int))), a4, a5, a6, some (.sh (tupN u)), some (.sh (tupN w)), a9, a10]) st Q X0 := by
  have hwu : Word w.length (firstW u) := by rw [lw]; exact (red_first hu lu).1
  have hto : IsOrder (dropL (firstW u) w) := dropL_ord hw hwu
  have htl : (dropL (firstW u) w).length = n := by rw [dropL_len, lw]
  unfold lapTail d_law
  dsimp only [List.drop]
  walk_at "gc"
  refine listedN hp (by omega) fun l1 st1 hp1 => ?_
  walk_at "go"
  refine listedN hp1 (by omega) fun l2 st2 hp2 => ?_
  walk_at "go"
  refine dropped_w hu hw (by rw [lu, lw]) ?_
  walk_at "go"
  walk_at "sc"
  refine law_is_own_order_w hto htl ?_
  walk_at "go"
  refine own_dropped_w hp2 hu lu hw lw (by omega) fun st3 hp3 => ?_
  walk_at "go"
  refine own_dropped_w hp3 hu lu hw lw (by omega) fun st4 hp4 => ?_
  walk_at "go"
  walk_at "gc"
  refine some_order_w hp4 h1 h8 (by omega) fun v1 hv1 lv1 st5 hp5 => ?_
  walk_at "go"
  refine near_order_w hp5 hto (by omega) fun v2 hv2 lv2 st6 hp6 => ?_
  walk_at "go"
  refine plain_w (by omega) ?_
  walk_at "go"
  walk_at "sc"
  refine law_lower_w hto fun vs hvs hvl => ?_
  walk_at "sx"
  rw [show sliceD none (some 6) (D.lst (vs.map tupN)) = some (.lst ((vs.map tupN).take 6)) from slice_toL (i := 6) _]
  walk_at "sx"
  rw [add_lst (by simp; omega)]
  walk_at "sx"
  refine law_upper_w hto fun us hus hul => ?_
  walk_at "sx"
  rw [show sliceD none (some 6) (D.lst (us.map tupN)) = some (.lst ((us.map tupN).take 6)) from slice_toL (i := 6) _]
  walk_at "sx"
  rw [add_lst (by simp; omega)]
  walk_at "sx"
  have hall : ∃ ls : List (List Nat), tupN (dropL (firstW u) w) :: tupN v1 :: tupN v2 :: tupN (List.range n) :: ((vs.map tupN).take 6 ++ (us.map tupN).take 6) = ls.map tupN ∧ (∀ v ∈ ls, IsOrder v ∧ v.length = n) ∧ ls.length ≤ 16 := by
    refine ⟨([dropL (firstW u) w, v1, v2, List.range n] ++ vs.take 6) ++ us.take 6, by simp only [List.map_append, List.map_take, List.map_cons, List.map_nil, List.cons_append, List.nil_append], fun v hv => ?_, by simp; omega⟩
    rcases List.mem_append.mp hv with hv | hv
    · rcases List.mem_append.mp hv with hv | hv
      · simp only [List.mem_cons, List.not_mem_nil, or_false] at hv
        rcases hv with rfl | rfl | rfl | rfl
        · exact ⟨hto, htl⟩
        · exact ⟨hv1, lv1⟩
        · exact ⟨hv2, by omega⟩
        · exact ⟨range_ord h1 h8, List.length_range⟩
      · obtain ⟨g1, g2⟩ := hvs v (List.mem_of_mem_take hv)
        exact ⟨g1, by omega⟩
    · obtain ⟨g1, g2⟩ := hus v (List.mem_of_mem_take hv)
      exact ⟨g1, by omega⟩
  obtain ⟨ls, e, hls, hll⟩ := hall
  rw [e]
  rw [wp_cons]
  walk_at "go"
  refine wp_loopN (fun i δ st' => ∃ a, Pen (b + 300 + 64 * i) [] st' ∧ δ = [a0, some (.sh (.cell 0)), a2, some (.sh (.int (n : Int))), some (.sh (tupN (dropL (firstW u) w))), some (.sh (.lst (ls.map tupN))), a, some (.sh (tupN u)), some (.sh (tupN w)), a9, a10]) ⟨_, hp6.mono (by omega), rfl⟩ ?_ ?_
  · rintro i d δ st' hd ⟨a, hp2, rfl⟩
    have hi : i < ls.length := by simpa using (List.getElem?_eq_some_iff.mp hd).1
    rw [item_tups hi] at hd
    cases hd
    obtain ⟨hv, lv⟩ := hls _ (List.getElem_mem hi)
    generalize ls[i] = v at hv lv
    walk_at "go"
    walk_at "sc"
    refine pair_right_w hp2 h1 (by omega) hu lu hv lv hw lw (by omega) fun st3 hp3 => ?_
    walk_at "sx"
    refine star_w (l1 := false) (l2 := false) hu hv (by rw [lu, lv]) ?_
    walk_at "sx"
    refine is_below_w (by rw [raiseL_len, lu, lw]) (by rw [raiseL_len]; omega) ?_
    walk_at "sx"
    refine is_below_w (by rw [dropL_len, lw, lv]) (by omega) ?_
    rw [bel_eq h1 (by omega) (red_first hu lu) (red_first hv lv) hu lu hv lv hw lw]
    walk_at "sx"
    rw [eqD_bl, decide_eq_true rfl]
    walk_at "sx"
    exact ⟨_, hp3.mono (by omega), rfl⟩
  · rintro δ st' ⟨a, hp2, rfl⟩
    rw [List.length_map] at hp2
    walk_at "sx"
    walk_at "sc"
    by_cases h5 : (n : Int) < 5
    · rw [if_pos h5]
      refine all_right_w hp2 h1 (by omega) hu lu hw lw (by omega) fun st3 hp3 => ?_
      walk_at "sx"
      exact hq _ _ _ _ (hp3.mono (by omega))
    · rw [if_neg h5]
      walk_at "sx"
      rw [if_neg h5]
      exact hq _ _ _ _ (hp2.mono (by omega))
theorem law_w (zs : List Int) : Wp (P.prog.call 20 "law" [.seqI zs]) [] (fun s _ => s = .sh (.bl true)) X0 := by
  rw [wp_call def_law rfl]
  unfold d_law
  dsimp only
  walk_at "gc"
  refine pen_w fun s0 hp0 => ?_
  walk_at "go"
  rw [wp_cons]
  walk_at "go"
  rw [show rangeD [D.int 2] = some ((List.range 2).map nD) from range1 (n := 2) (by decide)]
  walk_at "go"
  refine wp_loopN (fun i δ st' => ∃ a2 a3 a4 a5 a6 a7 a8 a9 a10 : Option Slot, δ = [some (.sh (.seqI zs)), some (.sh (.cell 0)), a2, a3, a4, a5, a6, a7, a8, a9, a10] ∧ Pen (21000 * i) [] st' ∧ (0 < i → ∃ (n : Nat) (u : List Nat), 1 ≤ n ∧ n ≤ 8 ∧ IsOrder u ∧ u.length = n ∧ a3 = some (.sh (.int (n : Int))) ∧ a7 = some (.sh (tupN u)))) ⟨none, none, none, none, none, none, none, none, none, rfl, hp0, fun h => absurd h (by decide)⟩ ?_ ?_
  · rintro i d δ st1 hd ⟨a2, a3, a4, a5, a6, a7, a8, a9, a10, rfl, hp1, -⟩
    have hi : i < 2 := by simpa using (List.getElem?_eq_some_iff.mp hd).1
    walk_at "go"
    walk_at "gc"
    refine pick_w (some_ := .lst ([1, 2, 3, 4, 4, 5, 6, 7, 8].map nD)) rfl hp1 (by omega) (by decide) (by decide) fun dn hdn st2 hp2 => ?_
    obtain ⟨n, hn, rfl⟩ := List.mem_map.mp hdn
    have hn1 : 1 ≤ n ∧ n ≤ 8 := by
      simp only [List.mem_cons, List.not_mem_nil, or_false] at hn
      omega
    obtain ⟨hn1, hn8⟩ := hn1
    walk_at "go"
    walk_at "gc"
    refine some_order_w hp2 hn1 hn8 (by omega) fun u hu lu st3 hp3 => ?_
    walk_at "go"
    refine some_order_w hp3 hn1 hn8 (by omega) fun w hw lw st4 hp4 => ?_
    walk_at "go"
    walk_at "gc"
    refine draw_w (m := 2) hp4 (by omega) (by decide) (by decide) fun y hy st5 hp5 => ?_
    walk_at "go"
    by_cases y0 : y = 0
    · rw [ifTP y0]
      walk_at "gc"
      refine near_order_w hp5 hu (by omega) fun w2 hw2 lw2 st6 hp6 => ?_
      walk_at "go"
      refine tail_w hn1 hn8 hu lu hw2 (by omega) hp6 (by omega) fun b4 b5 b6 st7 hp7 => ?_
      walk_at "sx"
      exact ⟨_, _, _, _, _, _, _, _, _, rfl, hp7.mono (by omega), fun _ => ⟨n, u, hn1, hn8, hu, lu, rfl, rfl⟩⟩
    · rw [ifFP y0]
      refine tail_w hn1 hn8 hu lu hw lw hp5 (by omega) fun b4 b5 b6 st7 hp7 => ?_
      walk_at "sx"
      exact ⟨_, _, _, _, _, _, _, _, _, rfl, hp7.mono (by omega), fun _ => ⟨n, u, hn1, hn8, hu, lu, rfl, rfl⟩⟩
  · rintro δ st1 ⟨a2, a3, a4, a5, a6, a7, a8, a9, a10, rfl, hp1, hlast⟩
    rw [List.length_map, List.length_range] at hp1 hlast
    obtain ⟨n, u, hn1, hn8, hu, lu, rfl, rfl⟩ := hlast (by decide)
    walk_at "sx"
    walk_at "gc"
    refine no_order_w hp1 hn1 hn8 (by omega) fun d g1 g2 g3 g4 st2 hp2 => ?_
    obtain ⟨t, ht, htk⟩ := good_d g1 g2 g3
    walk_at "sx"
    have hm : binD .Mod (.int (n : Int)) (.int 8) = some (nD (n % 8)) := by
      rcases show n = 1 ∨ n = 2 ∨ n = 3 ∨ n = 4 ∨ n = 5 ∨ n = 6 ∨ n = 7 ∨ n = 8 by omega with rfl | rfl | rfl | rfl | rfl | rfl | rfl | rfl <;> rfl
    rw [hm]
    have hm8 : n % 8 < 8 := Nat.mod_lt _ (by decide)
    have hmn : n % 8 + 1 ≠ n := by omega
    generalize n % 8 = m at hm8 hmn
    walk_at "sx"
    obtain ⟨m1, em⟩ : ∃ m1 : Nat, m1 = m + 1 := ⟨_, rfl⟩
    have e1 : (1 : Int) + (m : Int) = (m1 : Int) := by omega
    first | rw [e1] | (walk_at "go"; rw [show 1 + m = m1 by omega]) | (walk_at "go"; rw [← em])
    refine some_order_w hp2 (show 1 ≤ m1 by omega) (by omega) (by omega) fun v hv lv st3 hp3 => ?_
    walk_at "sx"
    walk_at "sc"
    refine refused_w ?_
    walk_at "sx"
    refine dropped_x (b := .non) g1 rfl (c := "BadOrder") (fs := [nm "value" d]) (by simp [needErr, g4]) (.inl ⟨rfl, d, t, rfl, ht, ?_⟩)
    walk_at "sx"
    rw [ht]
    walk_at "sx"
    refine ⟨le_size (by decide), ?_⟩
    rw [two (by decide +kernel) htk]
    walk_at "sx"
    walk_at "sc"
    refine refused_w ?_
    walk_at "sx"
    have hur : isOrd (tupN u) = true := isOrd_row (l := false) hu
    have hvr : isOrd (tupN v) = true := isOrd_row (l := false) hv
    have dlu : dlen (tupN u) = n := by rw [← lu]; exact dlen_row false u
    have dlv : dlen (tupN v) = m1 := by rw [← lv]; exact dlen_row false v
    refine dropped_x (rowD_pl (l := false) hu) g1 (c := "BadOrder") (fs := [nm "value" d]) (by simp [needErr, hur, g4]) (.inl ⟨rfl, d, t, rfl, ht, ?_⟩)
    walk_at "sx"
    rw [ht]
    walk_at "sx"
    refine ⟨le_size (by decide), ?_⟩
    rw [two (by decide +kernel) htk]
    walk_at "sx"
    walk_at "sc"
    refine refused_w ?_
    walk_at "sx"
    refine dropped_x (rowD_pl (l := false) hu) (rowD_pl (l := false) hv) (c := "NotSame") (fs := [nm "order" (tupN v)]) (by simp [needErr, hur, hvr, dlu, dlv, show ¬ n = m1 by omega]; rfl) (.inr ⟨rfl, v, rfl, ?_⟩)
    walk_at "sx"
    refine ⟨le_size (by decide), ?_⟩
    rw [show eqD (.tup [.str "same", tupN v]) (.tup [.str "same", tupN v]) = some true from eqD_same (by
      show (PyData.strOk ("same" : Str) && (D.pl (tupN v) && true)) = true
      rw [show PyData.strOk ("same" : Str) = true by decide +kernel, show D.pl (tupN v) = true from rowD_pl (l := false) hv]
      rfl) (by
      have := dps_map nD 0 v fun x _ => Nat.le_refl 0
      show max 0 (max (D.dps (v.map nD) + 1) 0) + 1 ≤ 32
      omega)]
    walk_at "sx"
theorem runs : P.Runs 20 "law" := fun zs _ _ => by
  obtain ⟨a, st, e, h⟩ := wp_ok (law_w zs)
  subst h
  exact ⟨st, e⟩
end Sw.K26

set_option Elab.async false
set_option linter.all false
set_option maxRecDepth 100000
set_option maxHeartbeats 0
/-! law_k26_whole_least_partners: the head. -/
namespace Sw.K26
open PySem PySem.W PySem.Calls PyProof.Rows
abbrev R : OpenRow := OpenLaw.row PySem.Challenge.rw_swaprise_k26_whole_least_partners
abbrev file : PySem.Str := PySem.Challenge.pw_swaprise_k26_whole_least_partners.main.file
abbrev qv : Program := view R.prog [48]
def names : List PySem.Str := (["SwapError", "BadOrder", "NotSame", "BadWord", "is_integer", "is_row", "MOST", "is_order", "need_orders", "stepped", "short_word", "falls_ahead", "items_exchanged", "raised_along", "star", "dropped", "_law_pen", "_law_draw", "_law_pick", "_law_shuffled", "_law_rows_of", "_law_pairs", "_law_some_order", "_law_listed", "_law_stepped", "_law_swapped", "_law_back", "_law_short_word", "_law_lower", "_law_is_below"] : List PySem.Str) ++ (["_law_is_integer", "_law_is_row_of", "_law_is_own_order", "_law_no_order", "_law_near_order", "_law_up", "_law_plain", "_law_own_dropped", "_law_upper", "_law_pair_right", "_law_all_right", "_law_refused"] : List PySem.Str)
abbrev hk : Hook := hookS P file 5
def ob (s : SharedT) : Bool := obsS P file 5 (HandSHeadRun.getT s)
theorem ob_eq (s : SharedT) : ob s = hk.obs s.abs := obsS_eq (HandSHeadRun.getT_eq s)
theorem run (w : World) : HandSHeadRun.RunEq R qv hk ob 6000 names w := by
  intro os
  kernel_rfl
theorem holds (hr : P.Runs 20 "law") : PySem.Challenge.rw_swaprise_k26_whole_least_partners.Holds := by
  w_on; o_law
  refine HandSHeadRun.head_any (r := OpenLaw.row PySem.Challenge.rw_swaprise_k26_whole_least_partners) (q := view (OpenLaw.row PySem.Challenge.rw_swaprise_k26_whole_least_partners).prog [48]) (H := hk) (ob := ob) (M := 6000) (loose := names) (d := HandSHeadRun.topDef (OpenLaw.row PySem.Challenge.rw_swaprise_k26_whole_least_partners).prog 48) (kwd := []) ob_eq
    (by kernel_rfl) (fun s => by kernel_rfl) run (by kernel_rfl) (by kernel_rfl) (by kernel_rfl) (by rfl) (by first | assumption | decide +kernel) (by decide +kernel) ⟨rfl, rfl, rfl, rfl, rfl, by decide +kernel⟩ ?hw ?hc
  case hw => w_witness2
  case hc =>
    have e : (HandSHeadRun.topDef (OpenLaw.row PySem.Challenge.rw_swaprise_k26_whole_least_partners).prog 48).name = ("law" : PySem.Str) := by kernel_rfl
    exact walk_S (lw := PySem.Challenge.rw_swaprise_k26_whole_least_partners) (k := 20) rfl (by kernel_rfl) (by rw [e]; decide +kernel) (by decide +kernel) ⟨rfl, by decide, by decide⟩ (by rw [e]; exact hr)
end Sw.K26
open PySem PySem.W PyProof.Rows
set_option maxHeartbeats 8000000 in
theorem PySem.Challenge.cw_swaprise_k26_whole_least_partners_holds : PySem.Challenge.rw_swaprise_k26_whole_least_partners.Holds := by
  exact Sw.K26.holds Sw.K26.runs
