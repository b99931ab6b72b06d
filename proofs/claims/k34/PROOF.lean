import PyProof.Rows.All
import Wide.All
import OpenK.AllK
import Wide.FinOn
import HandS.ForMost
import KE.SortData
import HandS.ForExc
import HandS.DictComp
import HandS.DictTup
import HandS.TupAny
import HandS.Deep
import HandS.Conv
import HandS.Style
import HandS.ClsMeth
import HandS.Property
import HandS.HeadHook1
import HandS.TryMany
import HandS.Rev
import HandS.Zip
import KE.GoesMore
import KE.GoesEnum
import KE.GoesZip
import PyProof.ListMulRoad
import PyProof.FactsAll.tuple_2
import PyProof.Rows.SumAny
import HandS.TupMul
import HandS.IsInst
import HandS.Star
import HandS.More
import HandS.IterVal
import HandS.OwnIter
import HandS.Defaults
import KE.KOwnIter
import HandS.Text
import PyProof.Rows.FactsT3
import HandS.ExcIs
import HandS.ExcField
import HandS.HeadHook2
import HandS.Words
import HandS.HeadEnd
import HandS.Codes
import HandS.Head3
import PySem.Challenge.RW_reasonsandlevels_k34_distinctions_and_ne
set_option Elab.async false
set_option linter.all false
set_option autoImplicit false
set_option maxRecDepth 100000
set_option maxHeartbeats 0
/-! Den0: plain values (trees), what an expression or a statement of the text yields on them. No heap. -/
namespace DN
open PySem
/-- a value of Python as a tree -/
inductive D where
  | non | bl (b : Bool) | int (i : Int) | str (s : Str)
  | tup (l : List D) | lst (l : List D) | scr (l : List Int)
  | dic (l : List (D × D))
  | obj (c : Str) (fs : List (Str × D))
  | cls (c : Str)
  /-- a tuple that stands behind the top -/
  | ft (l : List D)
  /-- a range object 0 .. j - 1 -/
  | rng (j : Int)
/-- how an evaluation ends: a value, an error of an own class with its fields, or a thing that this layer does not carry -/
inductive R (α : Type) where
  | ok (a : α) | ex (c : Str) (fs : List (Str × D)) | bad
def R.bind {α β : Type} (x : R α) (f : α → R β) : R β := match x with
  | .ok a => f a
  | .ex c fs => .ex c fs
  | .bad => .bad
def R.map {α β : Type} (f : α → β) (x : R α) : R β := match x with
  | .ok a => .ok (f a)
  | .ex c fs => .ex c fs
  | .bad => .bad
/-- where a def stands: a global's name; a class's name and a method's -/
abbrev Fn := Str × Option Str
abbrev Call := Fn → List D → R (Bool × D)
/-- a local's value: held for good (anything may share it), its own (nobody else has it: it may be changed); bw: the error that an except suite has caught, its class and its fields -/
inductive Sl where
  | fr (d : D) | ow (d : D) | bw (d : D)
def Sl.d : Sl → D
  | .fr d => d
  | .ow d => d
  | .bw d => d
abbrev SE := List (Option Sl)
/-- the Bool: the value is new, and nobody else has it -/
abbrev ED := Call → SE → R (Bool × D)
abbrev LD := Call → SE → R D
abbrev BD := Call → SE → R Bool
abbrev AD := Call → SE → R (List D)
/-- how a statement ends -/
inductive O where
  | nx (s : SE) | rt (b : Bool) (d : D) | bk (s : SE) | ct (s : SE) | ex (c : Str) (fs : List (Str × D)) (s : SE) | bad
abbrev SD := Call → SE → O
def LIM : Nat := 16000000
def D.flat : D → Bool
  | .non => true
  | .bl _ => true
  | .int _ => true
  | .str _ => true
  | .cls _ => true
  | _ => false
def keepSl : Option Sl → Option Sl
  | some (.ow d) => some (.fr d)
  | o => o
/-- the slots at fz are held for good from now on -/
def demote : List Nat → SE → SE
  | [], s => s
  | i :: r, s => demote r (s.set i (keepSl (s.getD i none)))
def settle (fz : List Nat) (d : D) (s : SE) : SE := if d.flat = true then s else demote fz s
/-! ### expressions -/
def eC (d : D) : ED := fun _ _ => .ok (false, d)
/-- an error that was caught is not given away -/
def slotF (s : SE) (i : Nat) : R D := match s[i]? with
  | some (some (.fr d)) => .ok d
  | some (some (.ow d)) => .ok d
  | _ => .bad
def eVar (i : Nat) : ED := fun _ s => (slotF s i).map fun d => (false, d)
def lVar (i : Nat) : LD := fun _ s => slotF s i
def lOf (e : ED) : LD := fun c s => (e c s).map Prod.snd
def aNil : AD := fun _ _ => .ok []
def aCons (e : LD) (r : AD) : AD := fun c s => (e c s).bind fun d => (r c s).bind fun ds => .ok (d :: ds)
def eTup (a : AD) : ED := fun c s => (a c s).bind fun ds => .ok (false, .tup ds)
def eLst (a : AD) : ED := fun c s => (a c s).bind fun ds => .ok (true, .lst ds)
def ofO {α : Type} : Option α → R α
  | some a => .ok a
  | none => .bad
def e2 (f : D → D → Option (Bool × D)) (a b : LD) : ED := fun c s => (a c s).bind fun x => (b c s).bind fun y => ofO (f x y)
def e1 (f : D → Option (Bool × D)) (a : LD) : ED := fun c s => (a c s).bind fun x => ofO (f x)
def eA (f : List D → Option (Bool × D)) (a : AD) : ED := fun c s => (a c s).bind fun xs => ofO (f xs)
/-- the defaults that fill up -/
def aDef (a : AD) (dfs : List D) : AD := fun c s => (a c s).map fun ds => ds ++ dfs
def eCall (k : Fn) (a : AD) : ED := fun c s => (a c s).bind fun ds => c k ds
/-- f(..), f a def of p parameters and *rest -/
def eCallS (x : Str) (p : Nat) (a : AD) : ED := fun c s => (a c s).bind fun ds => if ds.length ≤ LIM then c (x, none) (ds.take p ++ [.tup (ds.drop p)]) else .bad
/-- o.m(..) -/
def eMeth (m : Str) (o : LD) (a : AD) (dfs : Str → Option (List D)) : ED := fun c s => (o c s).bind fun x => match x with
  | .obj k fs => if (fs.lookup m).isSome = true then .bad else match dfs k with
    | some dd => (a c s).bind fun ds => c (k, some m) (x :: (ds ++ dd))
    | none => .bad
  | _ => .bad
/-- C(..) -/
def eMake (k : Str) (a : AD) : ED := fun c s => (a c s).bind fun ds => (c (k, some "__init__") ds).bind fun r => if r.1 = true then .ok (true, r.2) else .bad
/-- o.f, a property -/
def noEx : R (Bool × D) → R (Bool × D)
  | .ex _ _ => .bad
  | r => r
def eProp (f : Str) (t : Str → Bool) (o : LD) : ED := fun c s => (o c s).bind fun x => match x with
  | .obj k fs => if (fs.lookup f).isSome = true then .bad else if t k = true then noEx (c (k, some f) [x]) else .bad
  | _ => .bad
/-- o.NAME, a constant of the class -/
def eCon (o : LD) (f : Str) (t : Str → Option D) : ED := fun c s => (o c s).bind fun x => match x with
  | .obj k fs => if (fs.lookup f).isSome = true then .bad else ofO ((t k).map fun d => (false, d))
  | _ => .bad
/-- a test as a value; a value as a test -/
def eB (b : BD) : ED := fun c s => (b c s).map fun x => (false, .bl x)
def isBl : D → Option Bool
  | .bl b => some b
  | _ => none
def bE (e : ED) : BD := fun c s => (e c s).bind fun x => ofO (isBl x.2)
def bTrue : BD := fun _ _ => .ok true
def bNot (a : BD) : BD := fun c s => (a c s).map not
def bAnd (a b : BD) : BD := fun c s => (a c s).bind fun x => if x = true then b c s else .ok false
def bOr (a b : BD) : BD := fun c s => (a c s).bind fun x => if x = true then .ok true else b c s
def eIf (t : BD) (a b : ED) : ED := fun c s => (t c s).bind fun x => if x = true then a c s else b c s
/-- truth -/
def truth : D → Option Bool
  | .non => some false
  | .bl b => some b
  | .int i => some (i != 0)
  | .str s => if s.length ≤ LIM then some (s.length != 0) else none
  | .tup l => some (!l.isEmpty)
  | .ft l => some (!l.isEmpty)
  | .lst l => some (!l.isEmpty)
  | .scr l => some (!l.isEmpty)
  | _ => none
def bTruth (e : LD) : BD := fun c s => (e c s).bind fun x => ofO (truth x)
/-! ### operators by values -/
def dAdd : D → D → Option (Bool × D)
  | .int i, .int j => some (false, .int (i + j))
  | .str a, .str b => if a.length + b.length ≤ LIM then some (false, .str (a ++ b)) else none
  | .lst a, .lst b => if a.length + b.length ≤ LIM then some (true, .lst (a ++ b)) else none
  | .tup a, .tup b => if a.length + b.length ≤ LIM then some (false, .tup (a ++ b)) else none
  | .tup a, .ft b => if a.length + b.length ≤ LIM ∧ a.isEmpty = false then some (false, .tup (a ++ b)) else none
  | _, _ => none
def dSub : D → D → Option (Bool × D)
  | .int i, .int j => some (false, .int (i - j))
  | _, _ => none
def dMul : D → D → Option (Bool × D)
  | .int i, .int j => if (-(2 ^ 64) < i ∧ i < 2 ^ 64) ∨ (-(2 ^ 64) < j ∧ j < 2 ^ 64) then some (false, .int (i * j)) else none
  | .lst a, .int j => if j ≤ 1000 ∧ -1000 ≤ j ∧ a.length ≤ 1000 then some (true, .lst (List.replicate j.toNat a).flatten) else none
  | .tup a, .int j => if j ≤ 1000 ∧ -1000 ≤ j ∧ a.length ≤ 1000 then some (false, .tup (List.replicate j.toNat a).flatten) else none
  | _, _ => none
def dFdiv : D → D → Option (Bool × D)
  | .int i, .int j => if 0 < j ∧ j < 1073741824 then some (false, .int (i / j)) else none
  | _, _ => none
def dMod : D → D → Option (Bool × D)
  | .int i, .int j => if 0 < j then some (false, .int (i % j)) else none
  | _, _ => none
def dPow : D → D → Option (Bool × D)
  | .int i, .int j => if 0 ≤ j ∧ j ≤ 1000000 ∧ i.natAbs < 2 ^ 64 then some (false, .int (i ^ j.toNat)) else none
  | _, _ => none
def dNeg : D → Option (Bool × D)
  | .int i => some (false, .int (-i))
  | _ => none
def dInts (g : Int → Int → Bool) : D → D → Option (Bool × D)
  | .int i, .int j => some (false, .bl (g i j))
  | _, _ => none
def D.isNon : D → Bool
  | .non => true
  | _ => false
def dIsN (x y : D) : Option (Bool × D) := match y with
  | .non => some (false, .bl x.isNon)
  | _ => none
def dNotN (x y : D) : Option (Bool × D) := match y with
  | .non => some (false, .bl (!x.isNon))
  | _ => none
mutual
def D.py : D → Option PyData
  | .non => some .none
  | .bl b => some (.bool b)
  | .int i => some (.int i)
  | .str s => some (.str s)
  | .tup l => (D.pys l).map PyData.tuple
  | .lst l => (D.pys l).map PyData.list
  | _ => none
def D.pys : List D → Option (List PyData)
  | [] => some []
  | d :: r => match D.py d with
    | some p => match D.pys r with
      | some q => some (p :: q)
      | none => none
    | none => none
end
def dEq (x y : D) : Option (Bool × D) := match x.py with
  | some p => match y.py with
    | some q => if SeqAt.shaped p = true ∧ SeqAt.shaped q = true then some (false, .bl (PyData.eqv p q)) else none
    | none => none
  | none => none
def dNe (x y : D) : Option (Bool × D) := match x.py with
  | some p => match y.py with
    | some q => if SeqAt.shaped p = true ∧ SeqAt.shaped q = true then some (false, .bl (!PyData.eqv p q)) else none
    | none => none
  | none => none
def keyOf : D → Option L2.Key
  | .int i => some (.inl i)
  | .str s => some (.inr s)
  | _ => none
def keysOf : List D → Option (List L2.Key)
  | [] => some []
  | d :: r => match keyOf d with
    | some k => match keysOf r with
      | some q => some (k :: q)
      | none => none
    | none => none
def tkeyOf : D → Option (List L2.Key)
  | .tup l => keysOf l
  | _ => none
/-- in its place, or at the end -/
def putDK (l : List (List L2.Key × D)) (k : List L2.Key) (d : D) : List (List L2.Key × D) := if (l.any fun p => decide (p.1 = k)) = true then l.map (fun p => if p.1 = k then (p.1, d) else p) else l ++ [(k, d)]
def dKey : L2.Key → D
  | .inl i => .int i
  | .inr s => .str s
def dicT (l : List (List L2.Key × D)) : D := .dic (l.map fun p => (.tup (p.1.map dKey), p.2))
/-- what a dict with tuple keys holds -/
def getDK (l : List (D × D)) (k : List L2.Key) : Option (Option D) := match l with
  | [] => some none
  | (x, d) :: r => match tkeyOf x with
    | some q => if q = k then some (some d) else getDK r k
    | none => none
def dIn (x y : D) : Option (Bool × D) := match y with
  | .lst l => match x.py with
    | some p => match D.pys l with
      | some q => if SeqAt.shaped p = true ∧ SeqAt.shaped (.list q) = true then some (false, .bl (q.any fun z => PyData.eqv z p)) else none
      | none => none
    | none => none
  | .tup l => match x.py with
    | some p => match D.pys l with
      | some q => if SeqAt.shaped p = true ∧ SeqAt.shaped (.tuple q) = true then some (false, .bl (q.any fun z => PyData.eqv z p)) else none
      | none => none
    | none => none
  | .str j => match x with
    | .str i => some (false, .bl (!(Builtin.Str.occurrences j i 0 j.length 1).isEmpty))
    | _ => none
  | .dic (p :: r) => (tkeyOf x).bind fun k => (getDK (p :: r) k).map fun o => (false, .bl o.isSome)
  | _ => none
def dNotIn (x y : D) : Option (Bool × D) := match y with
  | .lst l => match x.py with
    | some p => match D.pys l with
      | some q => if SeqAt.shaped p = true ∧ SeqAt.shaped (.list q) = true then some (false, .bl (!q.any fun z => PyData.eqv z p)) else none
      | none => none
    | none => none
  | .tup l => match x.py with
    | some p => match D.pys l with
      | some q => if SeqAt.shaped p = true ∧ SeqAt.shaped (.tuple q) = true then some (false, .bl (!q.any fun z => PyData.eqv z p)) else none
      | none => none
    | none => none
  | .str j => match x with
    | .str i => some (false, .bl (!(!(Builtin.Str.occurrences j i 0 j.length 1).isEmpty)))
    | _ => none
  | .dic (p :: r) => (tkeyOf x).bind fun k => (getDK (p :: r) k).map fun o => (false, .bl (!o.isSome))
  | _ => none
def dIx : D → D → Option (Bool × D)
  | .scr l, .int i => match L2.ixN l.length i with
    | some j => match l[j]? with
      | some d => some (false, .int d)
      | none => none
    | none => none
  | .lst l, .int i => match L2.ixN l.length i with
    | some j => match l[j]? with
      | some d => some (false, d)
      | none => none
    | none => none
  | .tup l, .int i => match L2.ixN l.length i with
    | some j => match l[j]? with
      | some d => some (false, d)
      | none => none
    | none => none
  | .str s, .int i => if s.length ≤ LIM then match L2.ixN s.cps.toList.length i with
    | some j => match s.cps.toList[j]? with
      | some c => some (false, .str ⟨#[c]⟩)
      | none => none
    | none => none else none
  | .dic (p :: r), x => (tkeyOf x).bind fun k => (getDK (p :: r) k).bind fun o => o.map fun d => (false, d)
  | _, _ => none
def cutD (xs : List D) (lo hi : Option Int) : List D := (xs.drop (HT.sIx xs.length 0 lo)).take (HT.sIx xs.length xs.length hi - HT.sIx xs.length 0 lo)
def dCut (x : D) (lo hi : Option Int) : Option (Bool × D) := match x with
  | .lst l => some (true, .lst (cutD l lo hi))
  | .tup l => some (false, .tup (cutD l lo hi))
  | .str s => if s.length ≤ LIM then some (false, .str (L2.cutS s lo hi)) else none
  | _ => none
/-- a slice's part -/
abbrev OD := Call → SE → R (Option Int)
def oNone : OD := fun _ _ => .ok none
def dPart : D → Option (Option Int)
  | .int i => some (some i)
  | _ => none
def oSome (e : LD) : OD := fun c s => (e c s).bind fun d => ofO (dPart d)
def eCut (a : LD) (lo hi : OD) : ED := fun c s => (a c s).bind fun x => (lo c s).bind fun l => (hi c s).bind fun h => ofO (dCut x l h)
def eChain (f f' : D → D → Option (Bool × D)) (a b c : LD) : ED := fun k s => (a k s).bind fun x => (b k s).bind fun y => (ofO ((f x y).bind fun r => isBl r.2)).bind fun t =>
  if t = true then (c k s).bind fun z => ofO (f' y z) else .ok (false, .bl false)
/-! ### built-in functions on trees -/
def kLen : List D → Option (Bool × D)
  | [.ft l] => some (false, .int l.length)
  | [.lst l] => some (false, .int l.length)
  | [.tup l] => some (false, .int l.length)
  | [.scr l] => some (false, .int l.length)
  | [.str s] => if s.length ≤ LIM then some (false, .int s.length) else none
  | _ => none
def kInt : List D → Option (Bool × D)
  | [.int i] => some (false, .int i)
  | [.bl b] => some (false, .int (if b = true then 1 else 0))
  | _ => none
def kAbs : List D → Option (Bool × D)
  | [.int i] => some (false, .int (if i < 0 then -i else i))
  | _ => none
def kMax : List D → Option (Bool × D)
  | [.int i, .int j] => some (false, .int (if j > i then j else i))
  | _ => none
def kMin : List D → Option (Bool × D)
  | [.int i, .int j] => some (false, .int (if j < i then j else i))
  | _ => none
def kList : List D → Option (Bool × D)
  | [.lst l] => some (true, .lst l)
  | [.tup l] => some (true, .lst l)
  | [.ft l] => some (true, .lst l)
  | [.scr l] => some (true, .lst (l.map D.int))
  | [.rng j] => if -(2 ^ 62) ≤ j ∧ j ≤ 2 ^ 24 then some (true, .lst ((List.range j.toNat).map fun (i : Nat) => .int (i : Int))) else none
  | _ => none
def RgB (j : Int) : Prop := -(2 ^ 62) ≤ j ∧ j < 2 ^ 62
instance (j : Int) : Decidable (RgB j) := inferInstanceAs (Decidable (_ ∧ _))
def kRng : List D → Option (Bool × D)
  | [.int j] => if RgB j then some (false, .rng j) else none
  | _ => none
def kTuple : List D → Option (Bool × D)
  | [.lst l] => some (false, .tup l)
  | [.tup l] => some (false, .tup l)
  | [.ft l] => some (false, .ft l)
  | _ => none
def D.ints : List D → Option (List Int)
  | [] => some []
  | .int i :: r => match D.ints r with
    | some q => some (i :: q)
    | none => none
  | _ => none
def kSum : List D → Option (Bool × D)
  | [.lst l] => match D.ints l with
    | some ns => some (false, .int ns.sum)
    | none => none
  | [.tup l] => match D.ints l with
    | some ns => some (false, .int ns.sum)
    | none => none
  | _ => none
def sortB (ps : List PyData) : Bool := (ps.all fun d => match d with
  | .tuple (_ :: _) => true
  | _ => false) || ps.all fun d => match d with
  | .none => false
  | .tuple _ => false
  | _ => true
def okSort (ps : List PyData) : Bool := (ps.all fun d => ps.all fun e => PySem.W.alike d e) && sortB ps && ps.all fun d => decide (d.depth ≤ 60)
def srtD (l : List (D × PyData)) : List D := (l.mergeSort (PySem.W.dataLe false Prod.snd)).map Prod.fst
def kSorted : List D → Option (Bool × D)
  | [.lst l] => match D.pys l with
    | some ps => if okSort ps = true then some (true, .lst (srtD (l.zip ps))) else none
    | none => none
  | _ => none
def D.bls : List D → Option (List Bool)
  | [] => some []
  | .bl b :: r => match D.bls r with
    | some q => some (b :: q)
    | none => none
  | _ => none
def kAny : List D → Option (Bool × D)
  | [.lst l] => match D.bls l with
    | some bs => some (false, .bl (bs.any id))
    | none => none
  | _ => none
def kAll : List D → Option (Bool × D)
  | [.lst l] => match D.bls l with
    | some bs => some (false, .bl (bs.all id))
    | none => none
  | _ => none
def kMax1 : List D → Option (Bool × D)
  | [.lst l] => match D.ints l with
    | some (n :: ns) => some (false, .int (ns.foldl max n))
    | _ => none
  | _ => none
def kMin1 : List D → Option (Bool × D)
  | [.lst l] => match D.ints l with
    | some (n :: ns) => some (false, .int (ns.foldl min n))
    | _ => none
  | _ => none
def dFld (f : Str) (t : Str → Bool) : D → Option (Bool × D)
  | .obj k fs => if t k = true then match fs.lookup f with
    | some x => some (false, x)
    | none => none
    else none
  | _ => none
/-- x in y, y perhaps of an own class (tb) with a __contains__ of its own -/
def solid : D → Bool
  | .lst _ => false
  | .dic _ => false
  | .obj _ _ => false
  | _ => true
def ownIn (c : Call) (x : D) (k : Str) (fs : List (Str × D)) : Option Bool := match c (k, some "__contains__") [.obj k fs, x] with
  | .ok (_, .bl r) => some r
  | _ => none
def dInO (c : Call) (neg : Bool) (tb : Str → Bool) (x y : D) : Option (Bool × D) := match y with
  | .obj k fs => if tb k = true ∧ solid x = true then (ownIn c x k fs).map fun r => (false, .bl (if neg = true then !r else r)) else none
  | y => if neg = true then dNotIn x y else dIn x y
def eInO (neg : Bool) (tb : Str → Bool) (a b : LD) : ED := fun c s => e2 (dInO c neg tb) a b c s
def eFld (f : Str) (t : Str → Bool) (a : LD) : ED := e1 (dFld f t) a
/-- str(i), str(s) -/
def kStr : List D → Option (Bool × D)
  | [.int i] => if i.natAbs.log2 < 1920 then some (false, .str (toString i)) else none
  | _ => none
/-- x[::-1] -/
def dRevL : D → Option (Bool × D)
  | .lst l => some (true, .lst l.reverse)
  | _ => none
def D.strs : List D → Option (List Str)
  | [] => some []
  | .str s :: r => match D.strs r with
    | some q => some (s :: q)
    | none => none
  | _ => none
/-- s.join(x) -/
def dJoin : D → D → Option (Bool × D)
  | .str a, .lst l => match D.strs l with
    | some ys => if (ys.map (·.length)).sum + ys.length * a.length ≤ 16777216 then some (false, .str (Txt.join a ys)) else none
    | none => none
  | .str a, .tup l => match D.strs l with
    | some ys => if (ys.map (·.length)).sum + ys.length * a.length ≤ 16777216 then some (false, .str (Txt.join a ys)) else none
    | none => none
  | _, _ => none
/-! ### methods of texts -/
inductive BM where
  | count | join
deriving DecidableEq, Repr
def dCount : D → D → Option (Bool × D)
  | .str a, .str b => some (false, .int (Txt.count a b))
  | _, _ => none
def isStr : D → Bool
  | .str _ => true
  | _ => false
def eBM (f : D → D → Option (Bool × D)) (a b : LD) : ED := fun c s => (a c s).bind fun x => if isStr x = true then (b c s).bind fun y => ofO (f x y) else .bad
/-- l.index(x) -/
def isLst : D → Bool
  | .lst _ => true
  | _ => false
def ixD (p : PyData) : List PyData → Option Nat
  | [] => none
  | z :: r => if PyData.eqv z p = true then some 0 else (ixD p r).map fun i => i + 1
def dIndex : D → D → Option (Bool × D)
  | .lst l, x => match x.py with
    | some p => match D.pys l with
      | some q => if SeqAt.shaped p = true ∧ SeqAt.shaped (.list q) = true then (ixD p q).map fun j => (false, .int (j : Nat)) else none
      | none => none
    | none => none
  | _, _ => none
def eLix (a b : LD) : ED := fun c s => (a c s).bind fun x => if isLst x = true then (b c s).bind fun y => ofO (dIndex x y) else .bad
def BM.f : BM → D → D → Option (Bool × D)
  | .count => dCount
  | .join => dJoin
/-! ### isinstance of built-in types -/
inductive TyC where
  | int | bool | str | list | tuple
deriving DecidableEq, Repr
inductive TyK where
  | non | bool | int | str | tuple | list
def tyK : D → Option TyK
  | .non => some .non
  | .bl _ => some .bool
  | .int _ => some .int
  | .str _ => some .str
  | .tup _ => some .tuple
  | .lst _ => some .list
  | _ => none
def isK : TyK → TyC → Bool
  | .bool, .bool => true
  | .bool, .int => true
  | .int, .int => true
  | .str, .str => true
  | .tuple, .tuple => true
  | .list, .list => true
  | _, _ => false
def dIsi (t : TyC) (d : D) : Option (Bool × D) := match tyK d with
  | some a => some (false, .bl (isK a t))
  | none => none
/-! ### statements -/
def Sl.of (b : Bool) (d : D) : Sl := if b = true then .ow d else .fr d
/-- x = e -/
def sAsg (i : Nat) (e : ED) (fz : List Nat) : SD := fun c s => match e c s with
  | .ok (b, d) => .nx ((settle fz d s).set i (some (Sl.of b d)))
  | .ex k fs => .ex k fs s
  | .bad => .bad
/-- e -/
def sDrop (e : ED) : SD := fun c s => match e c s with
  | .ok _ => .nx s
  | .ex k fs => .ex k fs s
  | .bad => .bad
def sRet (e : ED) : SD := fun c s => match e c s with
  | .ok (b, d) => .rt b d
  | .ex k fs => .ex k fs s
  | .bad => .bad
/-- return x, a name of one's own: it is given away -/
def sRetV (i : Nat) : SD := fun _ s => match s[i]? with
  | some (some (.ow d)) => .rt true d
  | some (some (.fr d)) => .rt false d
  | _ => .bad
def sNx : SD := fun _ s => .nx s
def sSeq (a b : SD) : SD := fun c s => match a c s with
  | .nx s' => b c s'
  | o => o
def sIf (t : BD) (a b : SD) : SD := fun c s => match t c s with
  | .ok x => if x = true then a c s else b c s
  | .ex k fs => .ex k fs s
  | .bad => .bad
def sBk : SD := fun _ s => .bk s
def sCt : SD := fun _ s => .ct s
def sRaise (k : Str) : SD := fun _ s => .ex k [] s
/-! what a for stores in -/
mutual
inductive Tg where
  | nm (i : Nat) | tp (l : Tgs)
deriving Repr
inductive Tgs where
  | nil | cons (g : Tg) (r : Tgs)
deriving Repr
end
mutual
def Tg.put : Tg → D → SE → Option SE
  | .nm i, d, s => some (s.set i (some (.fr d)))
  | .tp l, d, s => match d with
    | .tup ds => Tgs.put l ds s
    | _ => none
def Tgs.put : Tgs → List D → SE → Option SE
  | .nil, ds, s => match ds with
    | [] => some s
    | _ => none
  | .cons g r, ds, s => match ds with
    | d :: t => (Tg.put g d s).bind fun s1 => Tgs.put r t s1
    | [] => none
end
mutual
def Tg.sl : Tg → List Nat
  | .nm i => [i]
  | .tp l => Tgs.sl l
def Tgs.sl : Tgs → List Nat
  | .nil => []
  | .cons g r => Tg.sl g ++ Tgs.sl r
end
def Tgs.len : Tgs → Nat
  | .nil => 0
  | .cons _ r => Tgs.len r + 1
/-- a, b = e -/
def sUnp (g : Tg) (e : LD) (fz : List Nat) : SD := fun c s => match e c s with
  | .ok d => match g.put d (settle fz d s) with
    | some s' => .nx s'
    | none => .bad
  | .ex k fs => .ex k fs s
  | .bad => .bad
/-- what is walked: the items -/
abbrev ID := Call → SE → R (List D)
def forD (c : Call) (g : Tg) (body : SD) : List D → SE → O
  | [], s => .nx s
  | d :: r, s => match g.put d s with
    | none => .bad
    | some s1 => match body c s1 with
      | .nx s2 => forD c g body r s2
      | .ct s2 => forD c g body r s2
      | .bk s2 => .nx s2
      | o => o
def sFor (g : Tg) (e : ID) (fz : List Nat) (body : SD) : SD := fun c s => match e c s with
  | .ok ds => forD c g body ds (demote fz s)
  | .ex k fs => .ex k fs s
  | .bad => .bad
def whileD (c : Call) (t : BD) (body : SD) : Nat → SE → O
  | 0, _ => .bad
  | n + 1, s => match t c s with
    | .ok true => match body c s with
      | .nx s2 => whileD c t body n s2
      | .ct s2 => whileD c t body n s2
      | .bk s2 => .nx s2
      | o => o
    | .ok false => .nx s
    | .ex k fs => .ex k fs s
    | .bad => .bad
def WLIM : Nat := 1000000000000
def sWhile (t : BD) (body : SD) : SD := fun c s => whileD c t body WLIM s
/-- x is a list of one's own -/
def ownL (s : SE) (i : Nat) : Option (List D) := match s[i]? with
  | some (some (.ow (.lst l))) => some l
  | _ => none
/-- x.append(e) -/
def sApp (i : Nat) (e : LD) (fz : List Nat) : SD := fun c s => match ownL s i with
  | none => .bad
  | some _ => match e c s with
    | .ok d => match ownL (settle fz d s) i with
      | some l => if l.length < LIM then .nx ((settle fz d s).set i (some (.ow (.lst (l ++ [d]))))) else .bad
      | none => .bad
    | .ex k fs => .ex k fs s
    | .bad => .bad
/-- x.reverse() -/
def sRev (i : Nat) : SD := fun c s => match ownL s i with
  | some l => .nx (s.set i (some (.ow (.lst l.reverse))))
  | none => .bad
/-- x[j] = e -/
def sPutIx (i : Nat) (j : OD) (e : LD) (fz : List Nat) : SD := fun c s => match e c s with
  | .ok d => match ownL (settle fz d s) i with
    | some l => match j c (settle fz d s) with
      | .ok (some k) => match L2.ixN l.length k with
        | some m => .nx ((settle fz d s).set i (some (.ow (.lst (l.set m d)))))
        | none => .bad
      | _ => .bad
    | none => .bad
  | .ex k fs => .ex k fs s
  | .bad => .bad
def putFD (f : Str) (d : D) : List (Str × D) → List (Str × D)
  | [] => [(f, d)]
  | (g, x) :: r => if g = f then (g, d) :: r else (g, x) :: putFD f d r
def ownO (s : SE) (i : Nat) : Option (Str × List (Str × D)) := match s[i]? with
  | some (some (.ow (.obj k fs))) => some (k, fs)
  | _ => none
/-- x.f = e, x a new object -/
def sPutF (i : Nat) (f : Str) (t : Str → Bool) (e : LD) (fz : List Nat) : SD := fun c s => match e c s with
  | .ok d => match ownO (settle fz d s) i with
    | some (k, fs) => if fs.length < 1000 ∧ t k = true then .nx ((settle fz d s).set i (some (.ow (.obj k (putFD f d fs))))) else .bad
    | none => .bad
  | .ex k fs => .ex k fs s
  | .bad => .bad
def Sl.isEr : Option Sl → Bool
  | some (.bw _) => true
  | _ => false
/-- the name of the error is gone; nobody else may hold it -/
def unset (i : Nat) : O → O
  | .nx s => if (s.set i none).any Sl.isEr = true then .bad else .nx (s.set i none)
  | .bk s => if (s.set i none).any Sl.isEr = true then .bad else .bk (s.set i none)
  | .ct s => if (s.set i none).any Sl.isEr = true then .bad else .ct (s.set i none)
  | .ex _ _ _ => .bad
  | o => o
/-- in an except suite nothing may be raised -/
def noX' (f : SD) : SD := fun c s => match f c s with
  | .ex _ _ _ => .bad
  | o => o
/-- try: .. except X as x: .. (x in slot i): m tells of an error's class whether it is an X -/
def sTryAs (body : SD) (i : Nat) (m : Str → Option Bool) (suite : SD) : SD := fun c s => match body c s with
  | .ex k fs s1 => match m k with
    | some true => if i < s1.length then unset i (suite c (s1.set i (some (.bw (.obj k fs))))) else .bad
    | some false => .ex k fs s1
    | none => .bad
  | o => o
/-- isinstance(e, X), e.f of the error in slot i -/
def eIsE (i : Nat) (m : Str → Option Bool) : ED := fun _ s => match s[i]? with
  | some (some (.bw (.obj k []))) => match m k with
    | some b => .ok (false, .bl b)
    | none => .bad
  | _ => .bad
def eFldE (i : Nat) (f : Str) : ED := fun _ s => match s[i]? with
  | some (some (.bw (.obj _ fs))) => match fs.lookup f with
    | some d => .ok (false, d)
    | none => .bad
  | _ => .bad
def sTryOnly (body : SD) (m : Str → Option Bool) (suite : SD) : SD := fun c s => match body c s with
  | .ex k fs s1 => match m k with
    | some true => noX' suite c s1
    | some false => .ex k fs s1
    | none => .bad
  | o => o
/-- try: .. except X: .. except Y: .. -/
def sHands : List ((Str → Option Bool) × SD) → Call → Str → List (Str × D) → SE → O
  | [], _, k, fs, s => .ex k fs s
  | (m, su) :: r, c, k, fs, s => match m k with
    | some true => noX' su c s
    | some false => sHands r c k fs s
    | none => .bad
def sTryMany (body : SD) (hs : List ((Str → Option Bool) × SD)) : SD := fun c s => match body c s with
  | .ex k fs s1 => sHands hs c k fs s1
  | o => o
/-! ### what is walked -/
def items0 : D → Option (List D)
  | .ft l => some l
  | .lst l => some l
  | .tup l => some l
  | .scr l => some (l.map D.int)
  | .str z => some (z.cps.toList.map fun c => .str ⟨#[c]⟩)
  | _ => none
def rangeD (lo : Int) (n : Nat) : List D := (List.range n).map fun (i : Nat) => .int (lo + (i : Int))
def items : D → Option (List D)
  | .ft l => some l
  | .lst l => some l
  | .tup l => some l
  | .scr l => some (l.map D.int)
  | .str z => some (z.cps.toList.map fun c => .str ⟨#[c]⟩)
  | .rng j => if RgB j then some (rangeD 0 j.toNat) else none
  | _ => none
def iOf (e : LD) : ID := fun c s => (e c s).bind fun d => ofO (items d)
def downD (lo : Int) (n : Nat) : List D := (List.range n).map fun (i : Nat) => .int (lo + (i : Int) * (-1))
def kRange : List D → Option (List D)
  | [.int j] => if -(2 ^ 62) ≤ j ∧ j < 2 ^ 62 then some (rangeD 0 j.toNat) else none
  | [.int i, .int j] => if -(2 ^ 62) ≤ i ∧ i < 2 ^ 62 ∧ -(2 ^ 62) ≤ j ∧ j < 2 ^ 62 then some (rangeD i (j - i).toNat) else none
  | [.int i, .int j, .int k] => if k = -1 ∧ -(2 ^ 62) ≤ i ∧ i < 2 ^ 62 ∧ -(2 ^ 62) ≤ j ∧ j < 2 ^ 62 then some (downD i (i - j).toNat) else none
  | _ => none
def iA (f : List D → Option (List D)) (a : AD) : ID := fun c s => (a c s).bind fun xs => ofO (f xs)
def kRev : D → Option (List D)
  | .lst l => some l.reverse
  | .tup l => some l.reverse
  | _ => none
def iRev (e : LD) : ID := fun c s => (e c s).bind fun d => ofO (kRev d)
def enumD : Nat → List D → List D
  | _, [] => []
  | i, d :: r => .tup [.int (i : Nat), d] :: enumD (i + 1) r
def kEnum : List D → Option (List D)
  | [d] => (items0 d).map (enumD 0)
  | _ => none
def kZip : List D → Option (List D)
  | [a, b] => (items0 a).bind fun x => (items0 b).map fun y => List.zipWith (fun x y => .tup [x, y]) x y
  | _ => none
/-! ### comprehensions -/
def noX {α : Type} : R α → R α
  | .ex _ _ => .bad
  | r => r
def wipeS : List Nat → SE → SE
  | [], s => s
  | i :: r, s => (wipeS r s).set i none
def lcD (c : Call) (g : Tg) (t : BD) (el : LD) (s : SE) : List D → R (List D)
  | [] => .ok []
  | d :: r => match g.put d s with
    | none => .bad
    | some s1 => (noX (t c s1)).bind fun b => if b = true then (noX (el c s1)).bind fun x => (lcD c g t el s r).bind fun l => .ok (x :: l) else lcD c g t el s r
def eLc (g : Tg) (it : ID) (t : BD) (el : LD) (own : List Nat) : ED := fun c s => (it c s).bind fun ds => if ds.length ≤ LIM then (lcD c g t el (wipeS own s) ds).bind fun l => .ok (true, .lst l) else .bad
/-- [.. for .. in .. if .. for .. in .. if ..] -/
def lc2D (c : Call) (g : Tg) (t : BD) (it1 : ID) (g1 : Tg) (t1 : BD) (el : LD) (vs1 : List Nat) (s : SE) : List D → R (List D)
  | [] => .ok []
  | d :: r => match g.put d s with
    | none => .bad
    | some s1 => (noX (t c s1)).bind fun b => if b = true then (noX (it1 c s1)).bind fun es => (lcD c g1 t1 el (wipeS vs1 s1) es).bind fun l1 => (lc2D c g t it1 g1 t1 el vs1 s r).bind fun l2 => .ok (l1 ++ l2)
      else lc2D c g t it1 g1 t1 el vs1 s r
def eLc2 (g : Tg) (it : ID) (t : BD) (g1 : Tg) (it1 : ID) (t1 : BD) (el : LD) (own vs1 : List Nat) : ED := fun c s => (it c s).bind fun ds => (lc2D c g t it1 g1 t1 el vs1 (wipeS own s) ds).bind fun l => if l.length ≤ LIM then .ok (true, .lst l) else .bad
/-- what is walked, an instance's list perhaps -/
def itemsO (tb : Str → Option Str) : D → Option (List D)
  | .obj k fs => (tb k).bind fun f => match fs.lookup f with
    | some (.lst l) => some l
    | _ => none
  | d => items d
def iOwn (tb : Str → Option Str) (e : LD) : ID := fun c s => (e c s).bind fun d => ofO (itemsO tb d)
/-! ### dicts with tuple keys -/
def dcD (c : Call) (g : Tg) (t : BD) (kx vx : LD) (s : SE) : List D → List (List L2.Key × D) → R (List (List L2.Key × D))
  | [], acc => .ok acc
  | d :: r, acc => match g.put d s with
    | none => .bad
    | some s1 => (noX (t c s1)).bind fun b => if b = true then (noX (kx c s1)).bind fun x => (noX (vx c s1)).bind fun y => match tkeyOf x with
      | some k => dcD c g t kx vx s r (putDK acc k y)
      | none => .bad
      else dcD c g t kx vx s r acc
/-- {(..): .. for .. in ..} -/
def eDc (g : Tg) (it : ID) (t : BD) (kx vx : LD) (own : List Nat) : ED := fun c s => (it c s).bind fun ds => if ds.length ≤ LIM then (dcD c g t kx vx (wipeS own s) ds []).bind fun l => .ok (true, dicT l) else .bad
end DN
/-! Den20: codes (first order) of the combinators, what they yield, and the text put into codes. -/
namespace DN
open PySem
/-- a constant of the text -/
inductive CK where
  | non | bl (b : Bool) | int (i : Int) | str (s : Str) | unit
deriving Repr
def CK.d : CK → D
  | .non => .non
  | .bl b => .bl b
  | .int i => .int i
  | .str s => .str s
  | .unit => .ft []
inductive O2 where
  | add | sub | mul | fdiv | mod | pow | lt | le | gt | ge | eq | ne | isn | notn | inn | notin | ix
deriving Repr
def O2.f : O2 → D → D → Option (Bool × D)
  | .add => dAdd
  | .sub => dSub
  | .mul => dMul
  | .fdiv => dFdiv
  | .mod => dMod
  | .pow => dPow
  | .lt => dInts fun i j => decide (i < j)
  | .le => dInts fun i j => decide (i ≤ j)
  | .gt => dInts fun i j => decide (j < i)
  | .ge => dInts fun i j => decide (j ≤ i)
  | .eq => dEq
  | .ne => dNe
  | .isn => dIsN
  | .notn => dNotN
  | .inn => dIn
  | .notin => dNotIn
  | .ix => dIx
inductive BI where
  | len | int | abs | max | min | list | tuple | sum | str | sorted | any | all | max1 | min1 | rng
deriving Repr
def BI.f : BI → List D → Option (Bool × D)
  | .len => kLen
  | .int => kInt
  | .abs => kAbs
  | .max => kMax
  | .min => kMin
  | .list => kList
  | .tuple => kTuple
  | .sum => kSum
  | .str => kStr
  | .sorted => kSorted
  | .any => kAny
  | .all => kAll
  | .max1 => kMax1
  | .min1 => kMin1
  | .rng => kRng
abbrev Er := Str × List (Str × D)
mutual
inductive EC where
  | k (c : CK) | v (i : Nat) | tup (a : AC) | lst (a : AC) | o2 (o : O2) (a b : LC) | neg (a : LC) | chain (o o' : O2) (a b c : LC) | t (b : BC) | ife (t : BC) (a b : EC) | cut (a : LC) (lo hi : OC) | bi (f : BI) (a : AC)
  | fn (f : Str) (a : AC) (dfs : List CK) | mt (m : Str) (o : LC) (a : AC) (tb : List (Str × List CK)) | mk (c : Str) (a : AC) (dfs : List CK) | pr (m : Str) (cs : List Str) (o : LC) | cn (m : Str) (tb : List (Str × CK)) (o : LC)
  | fl (f : Str) (cs : List Str) (o : LC) | lc (g : Tg) (it : IC) (t : BC) (el : LC) (own : List Nat) | isE (i : Nat) (tb : List (Str × Bool)) | isi (t : TyC) (a : LC) | inO (neg : Bool) (cs : List Str) (a b : LC) | bm (m : BM) (o a : LC) | lix (o a : LC) | fs (f : Str) (p : Nat) (a : AC) | lc2 (g : Tg) (it : IC) (t : BC) (g1 : Tg) (it1 : IC) (t1 : BC) (el : LC) (own vs1 : List Nat) | dc (g : Tg) (it : IC) (t : BC) (kx vx : LC) (own : List Nat) | rvl (a : LC)
deriving Repr
inductive LC where
  | v (i : Nat) | e (e : EC)
deriving Repr
inductive AC where
  | nil | cons (l : LC) (a : AC)
deriving Repr
inductive BC where
  | e (e : EC) | tr (l : LC) | yes | not (b : BC) | and (a b : BC) | or (a b : BC)
deriving Repr
inductive OC where
  | none | some (l : LC)
deriving Repr
inductive IC where
  | of (l : LC) | own (tb : List (Str × Str)) (l : LC) | range (a : AC) | rev (l : LC) | enum (a : AC) | zip (a : AC)
deriving Repr
end
mutual
def EC.ev : EC → ED
  | .k c => eC c.d
  | .v i => eVar i
  | .tup a => eTup a.ev
  | .lst a => eLst a.ev
  | .o2 o a b => e2 o.f a.ev b.ev
  | .neg a => e1 dNeg a.ev
  | .chain o o' a b c => eChain o.f o'.f a.ev b.ev c.ev
  | .t b => eB b.ev
  | .ife t a b => eIf t.ev a.ev b.ev
  | .cut a lo hi => eCut a.ev lo.ev hi.ev
  | .bi f a => eA f.f a.ev
  | .fn f a dfs => eCall (f, none) (aDef a.ev (dfs.map CK.d))
  | .mt m o a tb => eMeth m o.ev a.ev fun c => (tb.lookup c).map fun l => l.map CK.d
  | .mk c a dfs => eMake c (aDef a.ev (dfs.map CK.d))
  | .pr m cs o => eProp m (fun c => cs.contains c) o.ev
  | .cn m tb o => eCon o.ev m fun c => (tb.lookup c).map CK.d
  | .fl f cs o => eFld f (fun c => cs.contains c) o.ev
  | .lc g it t el own => eLc g it.ev t.ev el.ev own
  | .isE i tb => eIsE i fun c => tb.lookup c
  | .isi t a => e1 (dIsi t) a.ev
  | .inO neg cs a b => eInO neg (fun c => cs.contains c) a.ev b.ev
  | .bm m o a => eBM m.f o.ev a.ev
  | .lix o a => eLix o.ev a.ev
  | .fs f p a => eCallS f p a.ev
  | .lc2 g it t g1 it1 t1 el own vs1 => eLc2 g it.ev t.ev g1 it1.ev t1.ev el.ev own vs1
  | .rvl a => e1 dRevL a.ev
  | .dc g it t kx vx own => eDc g it.ev t.ev kx.ev vx.ev own
def LC.ev : LC → LD
  | .v i => lVar i
  | .e e => lOf e.ev
def AC.ev : AC → AD
  | .nil => aNil
  | .cons l a => aCons l.ev a.ev
def BC.ev : BC → BD
  | .e e => bE e.ev
  | .tr l => bTruth l.ev
  | .yes => bTrue
  | .not b => bNot b.ev
  | .and a b => bAnd a.ev b.ev
  | .or a b => bOr a.ev b.ev
def OC.ev : OC → OD
  | .none => oNone
  | .some l => oSome l.ev
def IC.ev : IC → ID
  | .of l => iOf l.ev
  | .own tb l => iOwn (fun c => tb.lookup c) l.ev
  | .range a => iA kRange a.ev
  | .rev l => iRev l.ev
  | .enum a => iA kEnum a.ev
  | .zip a => iA kZip a.ev
end
/-! statements -/
mutual
inductive SC where
  | asg (i : Nat) (e : EC) (fz : List Nat) | unp (g : Tg) (e : LC) (fz : List Nat) | drop (e : EC) | ret (e : EC) | retv (i : Nat) | nx | seq (a b : SC) | ife (t : BC) (a b : SC) | bk | ct | raise (c : Str)
  | forr (g : Tg) (e : IC) (fz : List Nat) (b : SC) | whil (t : BC) (b : SC) | app (i : Nat) (l : LC) (fz : List Nat) | rev (i : Nat) | putIx (i : Nat) (j : LC) (e : LC) (fz : List Nat)
  | putF (i : Nat) (f : Str) (cs : List Str) (e : LC) (fz : List Nat) | tryOnly (b : SC) (m : List (Str × Bool)) (s : SC) | tryAs (b : SC) (i : Nat) (m : List (Str × Bool)) (s : SC) | bad | tryMany (b : SC) (h : HC)
deriving Repr
inductive HC where
  | nil | cons (m : List (Str × Bool)) (s : SC) (r : HC)
deriving Repr
end
mutual
def SC.ev : SC → SD
  | .asg i e fz => sAsg i e.ev fz
  | .unp g e fz => sUnp g e.ev fz
  | .drop e => sDrop e.ev
  | .ret e => sRet e.ev
  | .retv i => sRetV i
  | .nx => sNx
  | .seq a b => sSeq a.ev b.ev
  | .ife t a b => sIf t.ev a.ev b.ev
  | .bk => sBk
  | .ct => sCt
  | .raise c => sRaise c
  | .forr g e fz b => sFor g e.ev fz b.ev
  | .whil t b => sWhile t.ev b.ev
  | .app i l fz => sApp i l.ev fz
  | .rev i => sRev i
  | .putIx i j e fz => sPutIx i (oSome j.ev) e.ev fz
  | .putF i f cs e fz => sPutF i f (fun c => cs.contains c) e.ev fz
  | .tryOnly b m s => sTryOnly b.ev (fun c => m.lookup c) s.ev
  | .tryAs b i m s => sTryAs b.ev i (fun c => m.lookup c) s.ev
  | .bad => fun _ _ => .bad
  | .tryMany b h => sTryMany b.ev h.ev
def HC.ev : HC → List ((Str → Option Bool) × SD)
  | .nil => []
  | .cons m s r => (fun c => m.lookup c, s.ev) :: r.ev
end
end DN
/-! Den20b: defs, the run by levels. -/
namespace DN
open PySem
/-- a def: where it stands, its slots (the parameters first), their number, its code -/
structure Def where
  key : Fn
  N : List Str
  np : Nat
  code : SC
  ini : Bool := false
def fin (ini : Bool) : O → R (Bool × D)
  | .nx s => if ini = true then match (s[0]? : Option (Option Sl)) with
    | some (some (.ow d)) => .ok (true, d)
    | _ => .bad
    else .ok (false, .non)
  | .rt b d => if ini = true then .bad else .ok (b, d)
  | .ex c fs _ => .ex c fs
  | _ => .bad
def frs0 (ds : List D) : SE := ds.map fun d => some (.fr d)
def runD (d : Def) (C : Call) (ds : List D) : R (Bool × D) :=
  if d.ini = true then (if ds.length + 1 = d.np then fin true (d.code.ev C (some (.ow (.obj d.key.1 [])) :: (frs0 ds ++ List.replicate (d.N.length - d.np) none))) else .bad)
  else if ds.length = d.np then fin false (d.code.ev C (frs0 ds ++ List.replicate (d.N.length - d.np) none)) else .bad
def run (L : List Def) : Nat → Call
  | 0 => fun _ _ => .bad
  | n + 1 => fun key ds => match L.find? fun d => decide (d.key = key) with
    | some d => runD d (run L n) ds
    | none => .bad
end DN
/-! Den1: how a tree stands in the abstract heap; the readings of expressions by what they yield on trees. -/
namespace DN
open PySem PySem.Spec PyProof.Rows L2
def kD : Key → D
  | .inl i => .int i
  | .inr s => .str s
/-- K holds a tuple at a -/
def SqK (K : PySem.W.Frag) (a : Addr) (xs : List V) : Prop := ∃ (o : Obj) (its : Array Value) (n : Nat), K.lookup a = some o ∧ o.cls = .type "tuple" ∧ o.data = .seq its n ∧ its.size ≤ sizeLine ∧ Vals xs its.toList
theorem SqK.sq {K : PySem.W.Frag} {H : Hp} {a : Addr} {xs : List V} (h : SqK K a xs) : SqT K H a xs := .inr h
section
variable (K : PySem.W.Frag) (mg : Str → Option Value)
mutual
/-- v is the tree d, all of it laid in F -/
def Rp (F : Hp) (v : V) : D → Prop
  | .non => v = .non
  | .bl b => v = .bl b
  | .int i => v = .int i
  | .str s => v = .str s
  | .cls c => ∃ C, mg c = some (.ref C) ∧ v = .ref C
  | .tup l => ∃ a vs, v = .ref a ∧ F a = some (.tup vs) ∧ RpL F vs l
  | .ft l => ∃ a vs, v = .ref a ∧ SqK K a vs ∧ RpL F vs l
  | .rng j => ∃ a, v = .ref a ∧ F a = some (.rng 0 j)
  | .lst l => ∃ a vs, v = .ref a ∧ F a = some (.lst vs) ∧ RpL F vs l
  | .scr l => ∃ a, v = .ref a ∧ SqL K F a (l.map V.int)
  | .dic l => ∃ a, v = .ref a ∧ ((∃ kvs, F a = some (.dK kvs) ∧ RpK F kvs l) ∨ ∃ kvs, F a = some (.dT kvs) ∧ RpT F kvs l)
  | .obj c fs => ∃ a C dx vfs, v = .ref a ∧ mg c = some (.ref C) ∧ F a = some (.ins C dx vfs) ∧ RpF F vfs fs
def RpL (F : Hp) (vs : List V) : List D → Prop
  | [] => vs = []
  | d :: ds => ∃ v r, vs = v :: r ∧ Rp F v d ∧ RpL F r ds
def RpK (F : Hp) (kvs : List (Key × V)) : List (D × D) → Prop
  | [] => kvs = []
  | (kd, d) :: ds => ∃ k v r, kvs = (k, v) :: r ∧ kd = kD k ∧ Rp F v d ∧ RpK F r ds
def RpT (F : Hp) (kvs : List (List Key × V)) : List (D × D) → Prop
  | [] => kvs = []
  | (kd, d) :: ds => ∃ k v r, kvs = (k, v) :: r ∧ kd = .tup (k.map kD) ∧ Rp F v d ∧ RpT F r ds
def RpF (F : Hp) (vfs : List (Str × V)) : List (Str × D) → Prop
  | [] => vfs = []
  | (n, d) :: ds => ∃ v r, vfs = (n, v) :: r ∧ Rp F v d ∧ RpF F r ds
end
end
section
variable {K : PySem.W.Frag} {mg : Str → Option Value} {F F' : Hp}
theorem same_t (e : Same F F') {a : Addr} {xs : List V} (h : SqT K F a xs) : SqT K F' a xs := by
  rcases h with (h | ⟨o, h⟩) | h
  · exact .inl (.inl (e _ _ h))
  · exact .inl (.inr ⟨o, e _ _ h⟩)
  · exact .inr h
mutual
theorem Rp.mono (e : Same F F') {v : V} : ∀ {d : D}, Rp K mg F v d → Rp K mg F' v d
  | .non, h => h
  | .bl _, h => h
  | .int _, h => h
  | .str _, h => h
  | .cls _, h => h
  | .tup l, h => by
    obtain ⟨a, vs, e1, h1, h2⟩ := h
    exact ⟨a, vs, e1, e _ _ h1, RpL.mono e h2⟩
  | .ft l, h => by
    obtain ⟨a, vs, e1, h1, h2⟩ := h
    exact ⟨a, vs, e1, h1, RpL.mono e h2⟩
  | .rng _, h => by
    obtain ⟨a, e1, h1⟩ := h
    exact ⟨a, e1, e _ _ h1⟩
  | .lst l, h => by
    obtain ⟨a, vs, e1, h1, h2⟩ := h
    exact ⟨a, vs, e1, e _ _ h1, RpL.mono e h2⟩
  | .scr l, h => by
    obtain ⟨a, e1, h1⟩ := h
    exact ⟨a, e1, e.seq h1⟩
  | .dic l, h => by
    obtain ⟨a, e1, h1⟩ := h
    refine ⟨a, e1, ?_⟩
    rcases h1 with ⟨kvs, h1, h2⟩ | ⟨kvs, h1, h2⟩
    · exact .inl ⟨kvs, e _ _ h1, RpK.mono e h2⟩
    · exact .inr ⟨kvs, e _ _ h1, RpT.mono e h2⟩
  | .obj c fs, h => by
    obtain ⟨a, C, dx, vfs, e1, h1, h2, h3⟩ := h
    exact ⟨a, C, dx, vfs, e1, h1, e _ _ h2, RpF.mono e h3⟩
theorem RpL.mono (e : Same F F') {vs : List V} : ∀ {ds : List D}, RpL K mg F vs ds → RpL K mg F' vs ds
  | [], h => h
  | _ :: _, h => by
    obtain ⟨v, r, e1, h1, h2⟩ := h
    exact ⟨v, r, e1, Rp.mono e h1, RpL.mono e h2⟩
theorem RpK.mono (e : Same F F') {kvs : List (Key × V)} : ∀ {ds : List (D × D)}, RpK K mg F kvs ds → RpK K mg F' kvs ds
  | [], h => h
  | (_, _) :: _, h => by
    obtain ⟨k, v, r, e1, e2, h1, h2⟩ := h
    exact ⟨k, v, r, e1, e2, Rp.mono e h1, RpK.mono e h2⟩
theorem RpT.mono (e : Same F F') {kvs : List (List Key × V)} : ∀ {ds : List (D × D)}, RpT K mg F kvs ds → RpT K mg F' kvs ds
  | [], h => h
  | (_, _) :: _, h => by
    obtain ⟨k, v, r, e1, e2, h1, h2⟩ := h
    exact ⟨k, v, r, e1, e2, Rp.mono e h1, RpT.mono e h2⟩
theorem RpF.mono (e : Same F F') {vfs : List (Str × V)} : ∀ {ds : List (Str × D)}, RpF K mg F vfs ds → RpF K mg F' vfs ds
  | [], h => h
  | (_, _) :: _, h => by
    obtain ⟨v, r, e1, h1, h2⟩ := h
    exact ⟨v, r, e1, Rp.mono e h1, RpF.mono e h2⟩
end
theorem RpL.len : ∀ {ds : List D} {vs : List V}, RpL K mg F vs ds → vs.length = ds.length
  | [], _, h => by rw [show _ = [] from h]; rfl
  | _ :: _, _, h => by
    obtain ⟨v, r, e1, _, h2⟩ := h
    rw [e1, List.length_cons, List.length_cons, RpL.len h2]
theorem RpL.get : ∀ {ds : List D} {vs : List V} {i : Nat} {d : D}, RpL K mg F vs ds → ds[i]? = some d → ∃ v, vs[i]? = some v ∧ Rp K mg F v d
  | [], _, _, _, _, e => by simp at e
  | _ :: _, _, 0, _, h, e => by
    obtain ⟨v, r, e1, h1, _⟩ := h
    simp at e
    subst e e1
    exact ⟨v, rfl, h1⟩
  | _ :: _, _, i + 1, d, h, e => by
    obtain ⟨v, r, e1, _, h2⟩ := h
    subst e1
    exact RpL.get (i := i) h2 (by simpa using e)
theorem RpL.cons {v : V} {vs : List V} {d : D} {ds : List D} (h : Rp K mg F v d) (t : RpL K mg F vs ds) : RpL K mg F (v :: vs) (d :: ds) := ⟨v, vs, rfl, h, t⟩
theorem RpL.append : ∀ {ds es : List D} {vs ws : List V}, RpL K mg F vs ds → RpL K mg F ws es → RpL K mg F (vs ++ ws) (ds ++ es)
  | [], _, _, _, h, t => by
    have e : _ = [] := h
    rw [e]
    exact t
  | _ :: _, _, _, _, h, t => by
    obtain ⟨v, r, e1, h1, h2⟩ := h
    subst e1
    exact RpL.cons h1 (RpL.append h2 t)
theorem RpL.drop : ∀ (n : Nat) {ds : List D} {vs : List V}, RpL K mg F vs ds → RpL K mg F (vs.drop n) (ds.drop n)
  | 0, _, _, h => h
  | _ + 1, [], _, h => by
    have e : _ = [] := h
    rw [e]
    exact rfl
  | n + 1, _ :: _, _, h => by
    obtain ⟨v, r, e1, _, h2⟩ := h
    subst e1
    exact RpL.drop n h2
theorem RpL.take : ∀ (n : Nat) {ds : List D} {vs : List V}, RpL K mg F vs ds → RpL K mg F (vs.take n) (ds.take n)
  | 0, _, _, _ => rfl
  | _ + 1, [], _, h => by
    have e : _ = [] := h
    rw [e]
    exact rfl
  | n + 1, _ :: _, _, h => by
    obtain ⟨v, r, e1, h1, h2⟩ := h
    subst e1
    exact RpL.cons h1 (RpL.take n h2)
theorem RpL.set {v : V} {d : D} (hv : Rp K mg F v d) : ∀ (n : Nat) {ds : List D} {vs : List V}, RpL K mg F vs ds → RpL K mg F (vs.set n v) (ds.set n d)
  | _, [], _, h => by
    have e : _ = [] := h
    rw [e]
    exact rfl
  | 0, _ :: _, _, h => by
    obtain ⟨w, r, e1, h1, h2⟩ := h
    subst e1
    exact RpL.cons hv h2
  | n + 1, _ :: _, _, h => by
    obtain ⟨w, r, e1, h1, h2⟩ := h
    subst e1
    exact RpL.cons h1 (RpL.set hv n h2)
theorem RpL.reverse : ∀ {ds : List D} {vs : List V}, RpL K mg F vs ds → RpL K mg F vs.reverse ds.reverse
  | [], _, h => by
    have e : _ = [] := h
    rw [e]
    exact rfl
  | _ :: _, _, h => by
    obtain ⟨w, r, e1, h1, h2⟩ := h
    subst e1
    rw [List.reverse_cons, List.reverse_cons]
    exact RpL.append (RpL.reverse h2) (RpL.cons h1 rfl)
theorem RpF.look : ∀ {ds : List (Str × D)} {vfs : List (Str × V)} {f : Str} {d : D}, RpF K mg F vfs ds → ds.lookup f = some d → ∃ v, vfs.lookup f = some v ∧ Rp K mg F v d
  | [], _, _, _, _, e => by simp at e
  | (n, x) :: r, _, f, d, h, e => by
    obtain ⟨v, r', e1, h1, h2⟩ := h
    subst e1
    rw [List.lookup_cons] at e ⊢
    cases q : f == n with
    | true =>
      rw [q] at e
      simp at e
      subst e
      exact ⟨v, rfl, h1⟩
    | false =>
      rw [q] at e
      exact RpF.look h2 e
theorem RpF.none : ∀ {ds : List (Str × D)} {vfs : List (Str × V)} {f : Str}, RpF K mg F vfs ds → ds.lookup f = none → vfs.lookup f = none
  | [], _, _, h, _ => by
    have e : _ = [] := h
    rw [e]
    rfl
  | (n, x) :: r, _, f, h, e => by
    obtain ⟨v, r', e1, h1, h2⟩ := h
    subst e1
    rw [List.lookup_cons] at e ⊢
    cases q : f == n with
    | true =>
      rw [q] at e
      simp at e
    | false =>
      rw [q] at e
      exact RpF.none h2 e
theorem RpF.len : ∀ {ds : List (Str × D)} {vfs : List (Str × V)}, RpF K mg F vfs ds → vfs.length = ds.length
  | [], _, h => by rw [show _ = [] from h]; rfl
  | (_, _) :: _, _, h => by
    obtain ⟨v, r, e1, _, h2⟩ := h
    rw [e1, List.length_cons, List.length_cons, RpF.len h2]
/-- a flat value stands in no heap -/
theorem Rp.flat {v : V} {d : D} (h : Rp K mg F v d) (e : d.flat = true) (G : Hp) : Rp K mg G v d := by
  cases d with
  | non => exact h
  | bl b => exact h
  | int i => exact h
  | str s => exact h
  | cls c => exact h
  | tup l => cases e
  | ft l => cases e
  | rng j => cases e
  | lst l => cases e
  | scr l => cases e
  | dic l => cases e
  | obj c fs => cases e
end
/-! ### a value whose own object may still change -/
section
variable (K : PySem.W.Frag) (mg : Str → Option Value)
/-- the object at a, in H, is the tree d; what it holds is laid in F -/
def Own (F H : Hp) (a : Addr) : D → Prop
  | .lst l => ∃ vs, H a = some (.lst vs) ∧ RpL K mg F vs l
  | .dic l => (∃ kvs, H a = some (.dK kvs) ∧ RpK K mg F kvs l) ∨ ∃ kvs, H a = some (.dT kvs) ∧ RpT K mg F kvs l
  | .obj c fs => ∃ C dx vfs, mg c = some (.ref C) ∧ H a = some (.ins C dx vfs) ∧ RpF K mg F vfs fs
  | _ => False
/-- what a consumer sees of a value: its own object in H, what it holds in F -/
def Top (F H : Hp) (v : V) (d : D) : Prop := Rp K mg F v d ∨ ∃ a, v = .ref a ∧ Own K mg F H a d
end
section
variable {K : PySem.W.Frag} {mg : Str → Option Value} {F F' H H' : Hp} {a : Addr} {d : D}
theorem Own.mono (e : Same F F') (k : ∀ o, H a = some o → H' a = some o) (h : Own K mg F H a d) : Own K mg F' H' a d := by
  cases d with
  | lst l =>
    obtain ⟨vs, h1, h2⟩ := h
    exact ⟨vs, k _ h1, h2.mono e⟩
  | dic l =>
    rcases h with ⟨kvs, h1, h2⟩ | ⟨kvs, h1, h2⟩
    · exact .inl ⟨kvs, k _ h1, h2.mono e⟩
    · exact .inr ⟨kvs, k _ h1, h2.mono e⟩
  | obj c fs =>
    obtain ⟨C, dx, vfs, h1, h2, h3⟩ := h
    exact ⟨C, dx, vfs, h1, k _ h2, h3.mono e⟩
  | _ => exact h.elim
theorem Own.there (h : Own K mg F H a d) : ∃ o, H a = some o := by
  cases d with
  | lst l => obtain ⟨vs, h1, _⟩ := h; exact ⟨_, h1⟩
  | dic l => rcases h with ⟨kvs, h1, _⟩ | ⟨kvs, h1, _⟩ <;> exact ⟨_, h1⟩
  | obj c fs => obtain ⟨C, dx, vfs, _, h2, _⟩ := h; exact ⟨_, h2⟩
  | _ => exact h.elim
/-- held for good: laid in F too -/
theorem Own.froze {o : HO} (h : Own K mg F H a d) (e : H a = some o) (n : F a = none) : Rp K mg (upd F a o) (.ref a) d := by
  have s : Same F (upd F a o) := fun b x q => by rw [upd_ne (ne_of_none q n)]; exact q
  cases d with
  | lst l =>
    obtain ⟨vs, h1, h2⟩ := h
    rw [e] at h1; cases h1
    exact ⟨a, vs, rfl, upd_same, h2.mono s⟩
  | dic l =>
    rcases h with ⟨kvs, h1, h2⟩ | ⟨kvs, h1, h2⟩
    · rw [e] at h1; cases h1
      exact ⟨a, rfl, .inl ⟨kvs, upd_same, h2.mono s⟩⟩
    · rw [e] at h1; cases h1
      exact ⟨a, rfl, .inr ⟨kvs, upd_same, h2.mono s⟩⟩
  | obj c fs =>
    obtain ⟨C, dx, vfs, h1, h2, h3⟩ := h
    rw [e] at h2; cases h2
    exact ⟨a, C, dx, vfs, rfl, h1, upd_same, h3.mono s⟩
  | _ => exact h.elim
theorem Own.notflat (h : Own K mg F H a d) : d.flat = false := by
  cases d <;> first | rfl | exact h.elim
theorem same_new {H : Hp} {p : Addr} {o : HO} (h : H p = none) : Same H (upd H p o) := fun b x e => by rw [upd_ne (ne_of_none e h)]; exact e
theorem same_both {F H : Hp} {p : Addr} {o : HO} (e : Same F H) : Same (upd F p o) (upd H p o) := fun b x q => by
  by_cases hb : b = p
  · subst hb; rw [upd_same] at q ⊢; exact q
  · rw [upd_ne hb] at q ⊢; exact e _ _ q
theorem Top.mono (e : Same F F') (k : Same H H') {v : V} (h : Top K mg F H v d) : Top K mg F' H' v d := by
  rcases h with h | ⟨a, e1, h⟩
  · exact .inl (h.mono e)
  · exact .inr ⟨a, e1, h.mono e fun o q => k _ _ q⟩
/-- a list that is consumed -/
theorem Top.lst (s : Same F H) {v : V} {l : List D} (h : Top K mg F H v (.lst l)) : ∃ a vs, v = .ref a ∧ H a = some (.lst vs) ∧ RpL K mg F vs l := by
  rcases h with ⟨a, vs, e, h1, h2⟩ | ⟨a, e, vs, h1, h2⟩
  · exact ⟨a, vs, e, s _ _ h1, h2⟩
  · exact ⟨a, vs, e, h1, h2⟩
theorem Top.scr (s : Same F H) {v : V} {l : List Int} (h : Top K mg F H v (.scr l)) : ∃ a, v = .ref a ∧ SqL K H a (l.map V.int) := by
  rcases h with ⟨a, e, h1⟩ | ⟨a, e, h⟩
  · exact ⟨a, e, s.seq h1⟩
  · exact h.elim
theorem Top.tup (s : Same F H) {v : V} {l : List D} (h : Top K mg F H v (.tup l)) : ∃ a vs, v = .ref a ∧ SqT K H a vs ∧ RpL K mg F vs l := by
  rcases h with ⟨a, vs, e, h1, h2⟩ | ⟨a, e, h⟩
  · exact ⟨a, vs, e, SqT.of (s _ _ h1), h2⟩
  · exact h.elim
theorem Top.ft (s : Same F H) {v : V} {l : List D} (h : Top K mg F H v (.ft l)) : ∃ a vs, v = .ref a ∧ SqT K H a vs ∧ RpL K mg F vs l := by
  rcases h with ⟨a, vs, e, h1, h2⟩ | ⟨a, e, h⟩
  · exact ⟨a, vs, e, h1.sq, h2⟩
  · exact h.elim
theorem Top.rng (s : Same F H) {v : V} {j : Int} (h : Top K mg F H v (.rng j)) : ∃ a, v = .ref a ∧ H a = some (.rng 0 j) := by
  rcases h with ⟨a, e, h1⟩ | ⟨a, e, h⟩
  · exact ⟨a, e, s _ _ h1⟩
  · exact h.elim
theorem Top.obj (s : Same F H) {v : V} {c : Str} {fs : List (Str × D)} (h : Top K mg F H v (.obj c fs)) : ∃ a C dx vfs, v = .ref a ∧ mg c = some (.ref C) ∧ H a = some (.ins C dx vfs) ∧ RpF K mg F vfs fs := by
  rcases h with ⟨a, C, dx, vfs, e, h1, h2, h3⟩ | ⟨a, e, C, dx, vfs, h1, h2, h3⟩
  · exact ⟨a, C, dx, vfs, e, h1, s _ _ h2, h3⟩
  · exact ⟨a, C, dx, vfs, e, h1, h2, h3⟩
theorem Top.flat {v : V} (h : Top K mg F H v d) (e : d.flat = true) (G : Hp) : Rp K mg G v d := by
  rcases h with h | ⟨a, _, h⟩
  · exact h.flat e G
  · rw [h.notflat] at e; cases e
end
end DN
/-! Den1b: dicts with tuple keys. -/
namespace DN
open PySem PySem.Spec PyProof.Rows L2
theorem dKey_kD : ∀ k : Key, dKey k = kD k
  | .inl _ => rfl
  | .inr _ => rfl
theorem key_rp {K : PySem.W.Frag} {mg : Str → Option Value} {F : Hp} : ∀ {d : D} {k : Key} {v : V}, keyOf d = some k → Rp K mg F v d → v = kV k := fun {d k v} h r => by
  cases d <;> first
    | (cases h; done)
    | (cases h; exact r)
theorem keys_rp {K : PySem.W.Frag} {mg : Str → Option Value} {F : Hp} : ∀ {l : List D} {ks : List Key} {vs : List V}, keysOf l = some ks → RpL K mg F vs l → vs = ks.map kV
  | [], ks, vs, h, r => by
    have h : some ([] : List Key) = some ks := h
    cases h
    have r : vs = [] := r
    rw [r]
    rfl
  | d :: l, ks, vs, h, ⟨v, w, e, r1, r2⟩ => by
    subst e
    unfold keysOf at h
    cases q : keyOf d with
    | none => rw [q] at h; cases h
    | some k =>
      rw [q] at h
      cases q2 : keysOf l with
      | none => simp only [q2] at h; cases h
      | some r =>
        simp only [q2] at h
        cases h
        rw [key_rp q r1, keys_rp q2 r2]
        rfl
section
variable {K : PySem.W.Frag} {mg : Str → Option Value} {F F' : Hp}
/-- how the entries stand -/
def RpDK (K : PySem.W.Frag) (mg : Str → Option Value) (F : Hp) (kvs : List (List Key × V)) (l : List (List Key × D)) : Prop := RpT K mg F kvs (l.map fun p => (D.tup (p.1.map dKey), p.2))
theorem rpt_cons {k : List Key} {v : V} {d : D} {kvs : List (List Key × V)} {l : List (List Key × D)} (h : Rp K mg F v d) (r : RpDK K mg F kvs l) : RpDK K mg F ((k, v) :: kvs) ((k, d) :: l) := by
  refine ⟨k, v, kvs, rfl, ?_, h, r⟩
  have e : (fun k => dKey k) = kD := funext dKey_kD
  show D.tup (k.map dKey) = D.tup (k.map kD)
  rw [show k.map dKey = k.map kD from by rw [← e]]
theorem rpt_inv {p : List Key × D} {kvs : List (List Key × V)} {l : List (List Key × D)} (r : RpDK K mg F kvs (p :: l)) : ∃ v kvs', kvs = (p.1, v) :: kvs' ∧ Rp K mg F v p.2 ∧ RpDK K mg F kvs' l := by
  obtain ⟨k, v, kvs', e1, e2, h, r⟩ := r
  have inj : ∀ {a b : List Key}, a.map dKey = b.map kD → a = b := by
    intro a
    induction a with
    | nil => intro b e; cases b with
      | nil => rfl
      | cons _ _ => cases e
    | cons x a ih =>
      intro b e
      cases b with
      | nil => cases e
      | cons y b =>
        rw [List.map_cons, List.map_cons, List.cons.injEq] at e
        obtain ⟨e1, e2⟩ := e
        have : x = y := by
          cases x <;> cases y <;> first
            | (cases e1; rfl)
            | cases e1
        rw [this, ih e2]
  have e3 : p.1 = k := inj (D.tup.inj e2)
  rw [e3]
  exact ⟨v, kvs', e1, h, r⟩
theorem rpt_any {k : List Key} : ∀ {l : List (List Key × D)} {kvs : List (List Key × V)}, RpDK K mg F kvs l → (kvs.any fun kv => decide (kv.1 = k)) = l.any fun p => decide (p.1 = k)
  | [], kvs, r => by
    have r : kvs = [] := r
    rw [r]
    rfl
  | p :: l, kvs, r => by
    obtain ⟨v, kvs', rfl, h, r⟩ := rpt_inv r
    rw [List.any_cons, List.any_cons, rpt_any r]
theorem rpt_map {k : List Key} {v : V} {d : D} (hv : Rp K mg F v d) : ∀ {l : List (List Key × D)} {kvs : List (List Key × V)}, RpDK K mg F kvs l → RpDK K mg F (kvs.map fun kv => if kv.1 = k then (kv.1, v) else kv) (l.map fun p => if p.1 = k then (p.1, d) else p)
  | [], kvs, r => by
    have r : kvs = [] := r
    rw [r]
    rfl
  | p :: l, kvs, r => by
    obtain ⟨w, kvs', rfl, h, r⟩ := rpt_inv r
    rw [List.map_cons, List.map_cons]
    by_cases c : p.1 = k
    · rw [if_pos c, if_pos c]
      exact rpt_cons hv (rpt_map hv r)
    · rw [if_neg c, if_neg c]
      exact rpt_cons h (rpt_map hv r)
theorem rpt_snoc {k : List Key} {v : V} {d : D} (hv : Rp K mg F v d) : ∀ {l : List (List Key × D)} {kvs : List (List Key × V)}, RpDK K mg F kvs l → RpDK K mg F (kvs ++ [(k, v)]) (l ++ [(k, d)])
  | [], kvs, r => by
    have r : kvs = [] := r
    rw [r]
    exact rpt_cons hv rfl
  | p :: l, kvs, r => by
    obtain ⟨w, kvs', rfl, h, r⟩ := rpt_inv r
    exact rpt_cons h (rpt_snoc hv r)
theorem rpt_put {k : List Key} {v : V} {d : D} {l : List (List Key × D)} {kvs : List (List Key × V)} (hv : Rp K mg F v d) (r : RpDK K mg F kvs l) : RpDK K mg F (putK kvs k v) (putDK l k d) := by
  unfold putK putDK
  rw [rpt_any r]
  by_cases c : (l.any fun p => decide (p.1 = k)) = true
  · rw [if_pos c, if_pos c]
    exact rpt_map hv r
  · rw [if_neg c, if_neg c]
    exact rpt_snoc hv r
theorem rpt_len : ∀ {l : List (List Key × D)} {kvs : List (List Key × V)}, RpDK K mg F kvs l → kvs.length = l.length
  | [], kvs, r => by
    have r : kvs = [] := r
    rw [r]
    rfl
  | p :: l, kvs, r => by
    obtain ⟨w, kvs', rfl, h, r⟩ := rpt_inv r
    rw [List.length_cons, List.length_cons, rpt_len r]
theorem rpt_mono (e : Same F F') : ∀ {l : List (List Key × D)} {kvs : List (List Key × V)}, RpDK K mg F kvs l → RpDK K mg F' kvs l
  | [], kvs, r => r
  | p :: l, kvs, r => by
    obtain ⟨w, kvs', rfl, h, r⟩ := rpt_inv r
    exact rpt_cons (Rp.mono e h) (rpt_mono e r)
theorem putDK_len {l : List (List Key × D)} {k : List Key} {d : D} : (putDK l k d).length ≤ l.length + 1 := by
  unfold putDK
  split
  · rw [List.length_map]; omega
  · rw [List.length_append, List.length_singleton]; omega
theorem tkey_kD : ∀ {l : List L2.Key} {k : List L2.Key}, keysOf (l.map kD) = some k → l = k
  | [], k, h => by
    have h : some ([] : List L2.Key) = some k := h
    cases h
    rfl
  | x :: l, k, h => by
    rw [List.map_cons] at h
    unfold keysOf at h
    have e : keyOf (kD x) = some x := by cases x <;> rfl
    rw [e] at h
    cases q : keysOf (l.map kD) with
    | none => simp only [q] at h; cases h
    | some r =>
      simp only [q] at h
      cases h
      rw [tkey_kD q]
theorem rpt_get {k : List L2.Key} : ∀ {l : List (D × D)} {kvs : List (List Key × V)} {o : Option D}, RpT K mg F kvs l → getDK l k = some o → match o with
    | none => valV kvs k = none
    | some d => ∃ v, valV kvs k = some v ∧ Rp K mg F v d
  | [], kvs, o, r, h => by
    have r : kvs = [] := r
    subst r
    have h : some (none : Option D) = some o := h
    cases h
    rfl
  | (x, d) :: l, kvs, o, r, h => by
    obtain ⟨k2, v, kvs', rfl, rfl, hv, r⟩ := r
    unfold getDK at h
    cases q : tkeyOf (.tup (k2.map kD)) with
    | none => rw [q] at h; cases h
    | some k3 =>
      have e : k2 = k3 := tkey_kD q
      subst e
      simp only [q] at h
      by_cases c : k2 = k
      · rw [if_pos c] at h
        cases h
        refine ⟨v, ?_, hv⟩
        simp [valV, c]
      · rw [if_neg c] at h
        have z := rpt_get r h
        have e : valV ((k2, v) :: kvs') k = valV kvs' k := by simp [valV, c]
        rw [e]
        exact z
end
end DN
/-! Den2: the state of a body by trees (RelW, RelS), the readings tD, tP, tF, tA, tB, tS. -/
namespace DN
open PySem PySem.Spec PyProof.Rows L2
/-- the entry: the heap there -/
structure Bas where
  H0 : Hp
  /-- the error that an except suite has caught: its object, its class, its dict -/
  er : Option (Addr × Value × Option Addr) := none
  /-- the new instance whose __init__ runs: the first slot -/
  me : Option Addr := none
/-- the first slot is not stored in an __init__ -/
def Ok0 (B : Bas) (i : Nat) : Prop := B.me = none ∨ i ≠ 0
theorem Ok0.set {B : Bas} {i : Nat} {σ : L2.St} {o : Option V} (h : Ok0 B i) {a : Addr} (e : B.me = some a) (k : σ[0]? = some (some (.ref a))) : (σ.set i o)[0]? = some (some (.ref a)) := by
  rcases h with h | h
  · rw [e] at h; cases h
  · rw [List.getElem?_set_ne h]; exact k
/-- an error: its class, its fields -/
def ExAtK (K : PySem.W.Frag) (mg : Str → Option Value) (c : Str) (fs : List (Str × D)) (cls : Value) (dd : Option Addr) (H' : Hp) : Prop :=
  ∃ Ca, mg c = some (.ref Ca) ∧ cls = .ref Ca ∧ ((fs = [] ∧ dd = none) ∨ ∃ d vfs, dd = some d ∧ fs ≠ [] ∧ H' d = some (.xd vfs) ∧ RpF K mg H' vfs fs ∧ (fs.all fun p => p.2.flat) = true)
section
variable (K : PySem.W.Frag) (mg : Str → Option Value) (B : Bas)
def SlOk (F H : Hp) (v : V) : Sl → Prop
  | .fr d => Rp K mg F v d
  | .ow d => ∃ a, v = .ref a ∧ B.H0 a = none ∧ Own K mg F H a d
  | .bw (.obj c fs) => ∃ a cls dd, B.er = some (a, cls, dd) ∧ v = .ref a ∧ ExAtK K mg c fs cls dd H
  | .bw _ => False
structure RelW (F H : Hp) (σ : L2.St) (s : SE) : Prop where
  len : s.length = σ.length
  h0 : Same B.H0 H
  fh : Same F H
  slot : ∀ (i : Nat) (x : Sl), s[i]? = some (some x) → ∃ v, σ[i]? = some (some v) ∧ SlOk K mg B F H v x
  dist : ∀ (i j : Nat) (d e : D) (a : Addr), i ≠ j → s[i]? = some (some (.ow d)) → s[j]? = some (some (.ow e)) → σ[i]? = some (some (.ref a)) → σ[j]? ≠ some (some (.ref a))
  me : ∀ a, B.me = some a → σ[0]? = some (some (.ref a))
/-- .. between statements; F0: what was held for good at the start -/
structure RelS (F0 F H : Hp) (σ : L2.St) (s : SE) : Prop extends RelW K mg B F H σ s where
  f0 : Same F0 F
  fresh : ∀ a o, F a = some o → F0 a = some o ∨ B.H0 a = none
  own : ∀ (i : Nat) (d : D) (a : Addr), s[i]? = some (some (.ow d)) → σ[i]? = some (some (.ref a)) → F a = none
end
/-- the addresses of the own values of the slots fz -/
def Zof (fz : List Nat) (σ : L2.St) (s : SE) (a : Addr) : Prop := ∃ (i : Nat) (d : D), i ∈ fz ∧ s[i]? = some (some (.ow d)) ∧ σ[i]? = some (some (.ref a))
def Z0 (a : Addr) : Prop := False
/-- a step: objects are laid, none is changed -/
structure Stp (Z : Addr → Prop) (F H F' H' : Hp) : Prop where
  ff : Same F F'
  hh : Same H H'
  fh : Same F' H'
  fr : ∀ a o, F' a = some o → F a = some o ∨ H a = none ∨ Z a
section
variable {Z Z' : Addr → Prop} {F F' F'' H H' H'' : Hp}
theorem Stp.refl (e : Same F H) : Stp Z F H F H := ⟨.refl _, .refl _, e, fun _ _ h => .inl h⟩
theorem Stp.trans (a : Stp Z F H F' H') (b : Stp Z F' H' F'' H'') : Stp Z F H F'' H'' := by
  refine ⟨a.ff.trans b.ff, a.hh.trans b.hh, b.fh, fun x o h => ?_⟩
  rcases b.fr x o h with h | h | h
  · exact a.fr x o h
  · exact .inr (.inl (a.hh.free h))
  · exact .inr (.inr h)
theorem Stp.wk (a : Stp Z F H F' H') (z : ∀ x, Z x → Z' x) : Stp Z' F H F' H' := ⟨a.ff, a.hh, a.fh, fun x o h => (a.fr x o h).imp id (Or.imp id (z x))⟩
theorem Stp.of0 (a : Stp Z0 F H F' H') : Stp Z F H F' H' := a.wk fun _ z => z.elim
/-- a new object, held for good -/
theorem Stp.new {p : Addr} {o : HO} (e : Same F H) (h : H p = none) : Stp Z F H (upd F p o) (upd H p o) := by
  refine ⟨same_new (e.free h), same_new h, same_both e, fun a u q => ?_⟩
  by_cases ha : a = p
  · subst ha; exact .inr (.inl h)
  · rw [upd_ne ha] at q; exact .inl q
/-- a new object of one's own -/
theorem Stp.newOwn {p : Addr} {o : HO} (e : Same F H) (h : H p = none) : Stp Z F H F (upd H p o) := ⟨.refl _, same_new h, e.trans (same_new h), fun _ _ q => .inl q⟩
end
section
variable {K : PySem.W.Frag} {mg : Str → Option Value} {B : Bas} {F F' H H' : Hp} {σ : L2.St} {s : SE} {fz : List Nat}
theorem RpF.flatM {K : PySem.W.Frag} {mg : Str → Option Value} {H H' : Hp} : ∀ {vfs : List (Str × V)} {fs : List (Str × D)}, (fs.all fun p => p.2.flat) = true → RpF K mg H vfs fs → RpF K mg H' vfs fs
  | _, [], _, h => h
  | _, (f, d) :: r, e, ⟨w, vr, e1, h1, h2⟩ => by
    rw [List.all_cons, Bool.and_eq_true] at e
    exact ⟨w, vr, e1, h1.flat e.1 _, RpF.flatM e.2 h2⟩
theorem ExAtK.mono {K : PySem.W.Frag} {mg : Str → Option Value} {H H' : Hp} {c : Str} {fs : List (Str × D)} {cls : Value} {dd : Option Addr} (h : ExAtK K mg c fs cls dd H) (k : ∀ d vfs, H d = some (.xd vfs) → H' d = some (.xd vfs)) : ExAtK K mg c fs cls dd H' := by
  obtain ⟨Ca, e1, e2, e3⟩ := h
  refine ⟨Ca, e1, e2, ?_⟩
  rcases e3 with e3 | ⟨d, vfs, e3, e4, e5, e6, e7⟩
  · exact .inl e3
  · exact .inr ⟨d, vfs, e3, e4, k d vfs e5, e6.flatM e7, e7⟩
theorem SlOk.mono (ff : Same F F') (hh : Same H H') {v : V} : ∀ {x : Sl}, SlOk K mg B F H v x → SlOk K mg B F' H' v x
  | .fr d, h => Rp.mono ff h
  | .ow d, h => by
    obtain ⟨a, e, n, h⟩ := h
    exact ⟨a, e, n, h.mono ff fun o q => hh _ _ q⟩
  | .bw d, h => by
    cases d <;> first
      | exact (show False from h).elim
      | skip
    obtain ⟨a, cls, dd, e1, e2, e3⟩ := h
    exact ⟨a, cls, dd, e1, e2, e3.mono fun _ _ z => hh _ _ z⟩
theorem RelW.step (r : RelW K mg B F H σ s) (t : Stp (Zof fz σ s) F H F' H') : RelW K mg B F' H' σ s := by
  refine ⟨r.len, r.h0.trans t.hh, t.fh, fun i x e => ?_, r.dist, r.me⟩
  obtain ⟨v, e1, h⟩ := r.slot i x e
  exact ⟨v, e1, h.mono t.ff t.hh⟩
theorem RelW.same (r : RelW K mg B F H σ s) (t : Same H H') : RelW K mg B F H' σ s :=
  r.step (fz := []) ⟨.refl _, t, r.fh.trans t, fun _ _ h => .inl h⟩
theorem RelS.same {F0 : Hp} (r : RelS K mg B F0 F H σ s) (t : Same H H') : RelS K mg B F0 F H' σ s := ⟨r.toRelW.same t, r.f0, r.fresh, r.own⟩
end
section
variable (K : PySem.W.Frag) (mg : Str → Option Value)
/-- a value that came: held for good; or new and one's own -/
def VresK (H F' H' : Hp) (b : Bool) (v : V) (d : D) : Prop := match b with
  | false => Rp K mg F' v d
  | true => ∃ a, v = .ref a ∧ H a = none ∧ F' a = none ∧ Own K mg F' H' a d
end
section
variable (X : Cx) (B : Bas) (C : Call)
abbrev Vres (H F' H' : Hp) (b : Bool) (v : V) (d : D) : Prop := VresK X.K X.mg H F' H' b v d
abbrev ExAt (mg : Str → Option Value) (c : Str) (fs : List (Str × D)) (cls : Value) (dd : Option Addr) (H' : Hp) : Prop := ExAtK X.K mg c fs cls dd H'
def tD (e : ED) (fz : List Nat) (W : WX) : TE := fun σ H Q => ∃ F s, RelW X.K X.mg B F H σ s ∧ match e C s with
  | .ok (b, d) => ∀ v F' H', Stp (Zof fz σ s) F H F' H' → Vres X H F' H' b v d → Q v H'
  | .ex c fs => ∀ cls dd H', Same H H' → ExAt X X.mg c fs cls dd H' → W cls dd σ H'
  | .bad => False
def tP (e : LD) (fz : List Nat) (W : WX) : TE := fun σ H Q => ∃ F s, RelW X.K X.mg B F H σ s ∧ match e C s with
  | .ok d => ∀ v F' H', Stp (Zof fz σ s) F H F' H' → Top X.K X.mg F' H' v d → Q v H'
  | .ex c fs => ∀ cls dd H', Same H H' → ExAt X X.mg c fs cls dd H' → W cls dd σ H'
  | .bad => False
def tF (e : LD) (fz : List Nat) (W : WX) : TE := fun σ H Q => ∃ F s, RelW X.K X.mg B F H σ s ∧ match e C s with
  | .ok d => ∀ v F' H', Stp (Zof fz σ s) F H F' H' → Rp X.K X.mg F' v d → Q v H'
  | .ex c fs => ∀ cls dd H', Same H H' → ExAt X X.mg c fs cls dd H' → W cls dd σ H'
  | .bad => False
def tA (e : AD) (fz : List Nat) (W : WX) : TA := fun σ H Q => ∃ F s, RelW X.K X.mg B F H σ s ∧ match e C s with
  | .ok ds => ∀ vs F' H', Stp (Zof fz σ s) F H F' H' → RpL X.K X.mg F' vs ds → Q vs H'
  | .ex c fs => ∀ cls dd H', Same H H' → ExAt X X.mg c fs cls dd H' → W cls dd σ H'
  | .bad => False
def tB (e : BD) (W : WX) : TT := fun σ H Q => ∃ F s, RelW X.K X.mg B F H σ s ∧ match e C s with
  | .ok b => ∀ H', Same H H' → Q b H'
  | .ex c fs => ∀ cls dd H', Same H H' → ExAt X X.mg c fs cls dd H' → W cls dd σ H'
  | .bad => False
/-- what a body's end leaves -/
structure RelR (F0 F H : Hp) : Prop where
  h0 : Same B.H0 H
  f0 : Same F0 F
  fh : Same F H
  fresh : ∀ a o, F a = some o → F0 a = some o ∨ B.H0 a = none
def Post (F0 : Hp) (Dn : Ends) (W : WX) : O → Prop
  | .nx s' => ∀ σ' F' H', RelS X.K X.mg B F0 F' H' σ' s' → Dn.nx σ' H'
  | .bk s' => ∀ σ' F' H', RelS X.K X.mg B F0 F' H' σ' s' → Dn.bk σ' H'
  | .ct s' => ∀ σ' F' H', RelS X.K X.mg B F0 F' H' σ' s' → Dn.ct σ' H'
  | .rt b d => ∀ v F' H', RelR B F0 F' H' → Vres X B.H0 F' H' b v d → Dn.rt v H'
  | .ex c fs s' => ∀ cls dd σ' F' H', RelS X.K X.mg B F0 F' H' σ' s' → ExAt X X.mg c fs cls dd H' → W cls dd σ' H'
  | .bad => False
def tS (st : SD) (W : WX) : TS := fun Dn σ H => ∃ F0 F s, RelS X.K X.mg B F0 F H σ s ∧ Post X B F0 Dn W (st C s)
end
theorem _root_.L2.PE.wk {X : Cx} {e : Expr} {t t' : TE} (h : PE X e t) (w : ∀ σ H Q, t' σ H Q → t σ H Q) : PE X e t' := ⟨fun pins s σ H Q I q => h.run pins s σ H Q I (w σ H Q q)⟩
theorem _root_.L2.PT.wk {X : Cx} {e : Expr} {t t' : TT} (h : PT X e t) (w : ∀ σ H Q, t' σ H Q → t σ H Q) : PT X e t' := ⟨fun pins s σ H Q I q => h.run pins s σ H Q I (w σ H Q q)⟩
theorem _root_.L2.PW.wk {X : Cx} {e : Expr} {t t' : TT} (h : PW X e t) (w : ∀ σ H Q, t' σ H Q → t σ H Q) : PW X e t' := ⟨fun wh pins s σ H Q I q => h.run wh pins s σ H Q I (w σ H Q q)⟩
theorem _root_.L2.PA.wk {X : Cx} {e : List Expr} {t t' : TA} (h : PA X e t) (w : ∀ σ H Q, t' σ H Q → t σ H Q) : PA X e t' := ⟨fun pos pins s σ H Q I q => h.run pos pins s σ H Q I (w σ H Q q)⟩
theorem _root_.L2.PS.wk {X : Cx} {e : Stmt} {t t' : TS} (h : PS X e t) (w : ∀ Dn σ H, t' Dn σ H → t Dn σ H) : PS X e t' := ⟨fun pins s σ H Dn I q => h.run pins s σ H Dn I (w Dn σ H q)⟩
theorem _root_.L2.PSs.wk {X : Cx} {e : List Stmt} {t t' : TS} (h : PSs X e t) (w : ∀ Dn σ H, t' Dn σ H → t Dn σ H) : PSs X e t' := ⟨fun pins s σ H Dn I q => h.run pins s σ H Dn I (w Dn σ H q)⟩
section
variable {X : Cx} {B : Bas} {C : Call} {W : WX} {e : Expr} {fz fy : List Nat}
theorem zof_l {σ : L2.St} {s : SE} : ∀ x, Zof fz σ s x → Zof (fz ++ fy) σ s x := fun _ ⟨i, d, h, r⟩ => ⟨i, d, List.mem_append_left _ h, r⟩
theorem zof_r {σ : L2.St} {s : SE} : ∀ x, Zof fy σ s x → Zof (fz ++ fy) σ s x := fun _ ⟨i, d, h, r⟩ => ⟨i, d, List.mem_append_right _ h, r⟩
theorem Vres.top {H F' H' : Hp} {b : Bool} {v : V} {d : D} (h : Vres X H F' H' b v d) : Top X.K X.mg F' H' v d := by
  cases b with
  | false => exact .inl h
  | true =>
    obtain ⟨a, e, _, _, h⟩ := h
    exact .inr ⟨a, e, h⟩
/-- held for good from now on -/
theorem Vres.hold {Z : Addr → Prop} {F H F' H' : Hp} {b : Bool} {v : V} {d : D} (h : Vres X H F' H' b v d) (t : Stp Z F H F' H') : ∃ F'', Stp Z F H F'' H' ∧ Same F' F'' ∧ Rp X.K X.mg F'' v d := by
  cases b with
  | false => exact ⟨F', t, .refl _, h⟩
  | true =>
    obtain ⟨a, e, n, n', h⟩ := h
    obtain ⟨o, ho⟩ := h.there
    subst e
    refine ⟨upd F' a o, ⟨t.ff.trans (same_new n'), t.hh, fun x u q => ?_, fun x u q => ?_⟩, same_new n', h.froze ho n'⟩
    · by_cases hx : x = a
      · subst hx; rw [upd_same] at q; cases q; exact ho
      · rw [upd_ne hx] at q; exact t.fh _ _ q
    · by_cases hx : x = a
      · subst hx; exact .inr (.inl n)
      · rw [upd_ne hx] at q; exact t.fr _ _ q
theorem pe_P {den : ED} (h : PE X e (tD X B C den fz W)) : PE X e (tP X B C (lOf den) fz W) := h.wk fun σ H Q ⟨F, s, r, q⟩ => by
  refine ⟨F, s, r, ?_⟩
  unfold lOf at q
  cases k : den C s with
  | ok x =>
    rw [k] at q
    exact fun v F' H' t hv => q v F' H' t hv.top
  | ex c fs => rw [k] at q; exact q
  | bad => rw [k] at q; exact q
theorem pe_F {den : ED} (h : PE X e (tD X B C den fz W)) : PE X e (tF X B C (lOf den) fz W) := h.wk fun σ H Q ⟨F, s, r, q⟩ => by
  refine ⟨F, s, r, ?_⟩
  unfold lOf at q
  cases k : den C s with
  | ok x =>
    rw [k] at q
    refine fun v F' H' t hv => ?_
    obtain ⟨F'', t', _, hr⟩ := hv.hold t
    exact q v F'' H' t' hr
  | ex c fs => rw [k] at q; exact q
  | bad => rw [k] at q; exact q
end
end DN
/-! Den3: the rules of expressions, by trees. -/
namespace DN
open PySem PySem.Spec PyProof.Rows L2
theorem lim_size {n : Nat} (h : n ≤ LIM) : n ≤ sizeLine := Nat.le_trans h (by decide)
theorem lim_lt {n : Nat} (h : n ≤ LIM) : n < sizeLine := Nat.lt_of_le_of_lt h (by decide)
/-! ### what an operator by values must do -/
section
variable (X : Cx)
/-- the end of an operator: its answer laid -/
def Ans (F H : Hp) (Q : VK) : Option (Bool × D) → Prop
  | some (b, d) => ∀ v F' H', Stp Z0 F H F' H' → Vres X H F' H' b v d → Q v H'
  | none => False
def Op1 (r : V → Hp → VK → Prop) (f : D → Option (Bool × D)) : Prop := ∀ (x : D) (v : V) (F H : Hp) (Q : VK), Same F H → Top X.K X.mg F H v x → Ans X F H Q (f x) → r v H Q
def Op2 (r : R2) (f : D → D → Option (Bool × D)) : Prop := ∀ (x y : D) (v u : V) (F H : Hp) (Q : VK), Same F H → Top X.K X.mg F H v x → Top X.K X.mg F H u y → Ans X F H Q (f x y) → r v u H Q
def TopL (F H : Hp) : List V → List D → Prop
  | [], [] => True
  | v :: vs, d :: ds => Top X.K X.mg F H v d ∧ TopL F H vs ds
  | _, _ => False
def OpA (r : List V → Hp → VK → Prop) (f : List D → Option (Bool × D)) : Prop := ∀ (xs : List D) (vs : List V) (F H : Hp) (Q : VK), Same F H → TopL X F H vs xs → Ans X F H Q (f xs) → r vs H Q
end
section
variable {X : Cx} {B : Bas} {C : Call} {W : WX} {F F' H H' : Hp}
theorem TopL.mono (e : Same F F') (k : Same H H') : ∀ {vs : List V} {ds : List D}, TopL X F H vs ds → TopL X F' H' vs ds
  | [], [], _ => trivial
  | _ :: _, _ :: _, h => ⟨h.1.mono e k, TopL.mono e k h.2⟩
theorem Vres.back (k : Same H H') {F2 H2 : Hp} {b : Bool} {v : V} {d : D} (h : Vres X H' F2 H2 b v d) : Vres X H F2 H2 b v d := by
  cases b with
  | false => exact h
  | true =>
    obtain ⟨a, e, n, r⟩ := h
    exact ⟨a, e, k.free n, r⟩
theorem Ans.flat {Q : VK} {d : D} {v : V} (s : Same F H) (h : Ans X F H Q (some (false, d))) (r : Rp X.K X.mg F v d) : Q v H := h v F H (.refl s) r
/-- a new object held for good -/
theorem Ans.new {Q : VK} {d : D} {o : HO} (s : Same F H) (h : Ans X F H Q (some (false, d))) (r : ∀ p, H p = none → Rp X.K X.mg (upd F p o) (.ref p) d) : ∀ p, H p = none → Q (.ref p) (upd H p o) :=
  fun p hp => h _ _ _ (.new s hp) (r p hp)
theorem Ans.own {Q : VK} {d : D} {o : HO} (s : Same F H) (h : Ans X F H Q (some (true, d))) (r : ∀ p, H p = none → Own X.K X.mg F (upd H p o) p d) : ∀ p, H p = none → Q (.ref p) (upd H p o) :=
  fun p hp => h _ _ _ (.newOwn s hp) ⟨p, rfl, hp, s.free hp, r p hp⟩
theorem Ans.tup {Q : VK} {l : List D} {vs : List V} (s : Same F H) (h : Ans X F H Q (some (false, .tup l))) (r : RpL X.K X.mg F vs l) : ∀ p, H p = none → Q (.ref p) (upd H p (.tup vs)) :=
  h.new s fun p hp => ⟨p, vs, rfl, upd_same, r.mono (same_new (s.free hp))⟩
theorem Ans.lst {Q : VK} {l : List D} {vs : List V} (s : Same F H) (h : Ans X F H Q (some (true, .lst l))) (r : RpL X.K X.mg F vs l) : ∀ p, H p = none → Q (.ref p) (upd H p (.lst vs)) :=
  h.own s fun p hp => ⟨vs, upd_same, r⟩
/-! ### one after another -/
variable {e a b : Expr} {es : List Expr} {fz fy : List Nat} {pos : Pos}
/-- a reading's ending by an operator's answer -/
theorem ans_of {σ : L2.St} {s : SE} {H0 F0 : Hp} {Q : VK} {o : Option (Bool × D)} (t : Stp (Zof fz σ s) F0 H0 F H)
    (h : match ofO o with
      | .ok (b, d) => ∀ v F' H', Stp (Zof fz σ s) F0 H0 F' H' → Vres X H0 F' H' b v d → Q v H'
      | .ex c fs => ∀ cls dd H', Same H0 H' → ExAt X X.mg c fs cls dd H' → W cls dd σ H'
      | .bad => False) : Ans X F H Q o := by
  cases o with
  | none => exact h
  | some p =>
    obtain ⟨b, d⟩ := p
    exact fun v F' H' t' hv => h v F' H' (t.trans t'.of0) (hv.back t.hh)
theorem read1 {da : LD} {r : V → Hp → VK → Prop} {f : D → Option (Bool × D)} (hf : Op1 X r f) {σ : L2.St} {Q : VK} (h : tD X B C (e1 f da) fz W σ H Q) : tP X B C da fz W σ H fun x H1 => r x H1 Q := by
  obtain ⟨F, s, rel, h⟩ := h
  refine ⟨F, s, rel, ?_⟩
  unfold e1 at h
  cases k : da C s with
  | ok x =>
    rw [k] at h
    exact fun v F1 H1 t hv => hf x v F1 H1 Q t.fh hv (ans_of t h)
  | ex c fs => rw [k] at h; exact h
  | bad => rw [k] at h; exact h
theorem read2 {da db : LD} {r : R2} {f : D → D → Option (Bool × D)} (hf : Op2 X r f) {σ : L2.St} {Q : VK} (h : tD X B C (e2 f da db) (fz ++ fy) W σ H Q) :
    tP X B C da fz W σ H fun x H1 => tP X B C db fy W σ H1 fun y H2 => r x y H2 Q := by
  obtain ⟨F, s, rel, h⟩ := h
  refine ⟨F, s, rel, ?_⟩
  unfold e2 at h
  cases k : da C s with
  | ok x =>
    rw [k] at h
    refine fun v F1 H1 t hv => ⟨F1, s, rel.step t, ?_⟩
    cases k2 : db C s with
    | ok y =>
      have h : match ofO (f x y) with
        | .ok (b, d) => ∀ v F' H', Stp (Zof (fz ++ fy) σ s) F H F' H' → Vres X H F' H' b v d → Q v H'
        | .ex c fs => ∀ cls dd H', Same H H' → ExAt X X.mg c fs cls dd H' → W cls dd σ H'
        | .bad => False := by
        have q := h
        unfold R.bind at q
        simp only [k2] at q
        exact q
      exact fun u F2 H2 t2 hu => hf x y v u F2 H2 Q t2.fh (hv.mono t2.ff t2.hh) hu (ans_of ((t.wk zof_l).trans (t2.wk zof_r)) h)
    | ex c fs =>
      have q := h
      unfold R.bind at q
      simp only [k2] at q
      exact fun cls dd H' e => q cls dd H' (t.hh.trans e)
    | bad =>
      have q := h
      unfold R.bind at q
      simp only [k2] at q
  | ex c fs => rw [k] at h; exact h
  | bad => rw [k] at h; exact h
/-! ### names, constants -/
theorem r_int {i : Int} {j : Nat} : PE X (.Constant (.int i) j pos) (tD X B C (eC (.int i)) fz W) := pe_int.wk fun σ H Q ⟨F, s, rel, h⟩ => h _ F H (.refl rel.fh) rfl
theorem r_bl {i : Bool} {j : Nat} : PE X (.Constant (.bool i) j pos) (tD X B C (eC (.bl i)) fz W) := pe_bl.wk fun σ H Q ⟨F, s, rel, h⟩ => h _ F H (.refl rel.fh) rfl
theorem r_non {j : Nat} : PE X (.Constant .none j pos) (tD X B C (eC .non) fz W) := pe_non.wk fun σ H Q ⟨F, s, rel, h⟩ => h _ F H (.refl rel.fh) rfl
theorem r_str {i : Str} {j : Nat} : PE X (.Constant (.str i) j pos) (tD X B C (eC (.str i)) fz W) := pe_str.wk fun σ H Q ⟨F, s, rel, h⟩ => h _ F H (.refl rel.fh) rfl
theorem RelW.frozen {K : PySem.W.Frag} {mg : Str → Option Value} {σ : L2.St} {s : SE} (rel : RelW K mg B F H σ s) {i : Nat} {d : D} (e : s[i]? = some (some (.ow d))) :
    ∃ a F', σ[i]? = some (some (.ref a)) ∧ Stp (Zof [i] σ s) F H F' H ∧ Rp K mg F' (.ref a) d := by
  obtain ⟨v, e1, a, ea, n, h⟩ := rel.slot i _ e
  subst ea
  obtain ⟨o, ho⟩ := h.there
  refine ⟨a, ?_⟩
  cases q : F a with
  | none =>
    refine ⟨upd F a o, e1, ⟨same_new q, .refl _, fun x u hx => ?_, fun x u hx => ?_⟩, h.froze ho q⟩
    · by_cases z : x = a
      · subst z; rw [upd_same] at hx; cases hx; exact ho
      · rw [upd_ne z] at hx; exact rel.fh _ _ hx
    · by_cases z : x = a
      · subst z; exact .inr (.inr ⟨i, d, List.mem_singleton.mpr rfl, e, e1⟩)
      · rw [upd_ne z] at hx; exact .inl hx
  | some u =>
    have eu : u = o := by
      have := rel.fh _ _ q
      rw [ho] at this
      exact (Option.some.inj this).symm
    subst eu
    have e2 : upd F a u = F := by
      funext x
      by_cases z : x = a
      · subst z; rw [upd_same, q]
      · rw [upd_ne z]
    refine ⟨F, e1, .refl rel.fh, ?_⟩
    cases d with
    | lst l =>
      obtain ⟨vs, h1, h2⟩ := h
      rw [ho] at h1; cases h1
      exact ⟨a, vs, rfl, q, h2⟩
    | dic l =>
      rcases h with ⟨kvs, h1, h2⟩ | ⟨kvs, h1, h2⟩
      · rw [ho] at h1; cases h1
        exact ⟨a, rfl, .inl ⟨kvs, q, h2⟩⟩
      · rw [ho] at h1; cases h1
        exact ⟨a, rfl, .inr ⟨kvs, q, h2⟩⟩
    | obj c fs =>
      obtain ⟨C, dx, vfs, h1, h2, h3⟩ := h
      rw [ho] at h2; cases h2
      exact ⟨a, C, dx, vfs, rfl, h1, q, h3⟩
    | _ => exact h.elim
theorem r_var {i : Nat} {x : Str} (hN : X.N[i]? = some x) (hv : Vis X.env.scope x) (hd : (x == ("__debug__" : Str)) = false) (hcd : (x == ("__classdict__" : Str)) = false) :
    PE X (.Name x pos) (tD X B C (eVar i) [i] W) := (pe_var hN hv hd hcd).wk fun σ H Q ⟨F, s, rel, h⟩ => by
  unfold eVar slotF at h
  cases k : s[i]? with
  | none => rw [k] at h; exact h.elim
  | some o =>
    cases o with
    | none => rw [k] at h; exact h.elim
    | some sl =>
      cases sl with
      | fr d =>
        rw [k] at h
        obtain ⟨v, e1, e2⟩ := rel.slot i _ k
        exact ⟨v, e1, h v F H (.refl rel.fh) e2⟩
      | ow d =>
        rw [k] at h
        obtain ⟨a, F', e1, t, hr⟩ := rel.frozen k
        exact ⟨_, e1, h _ F' H t hr⟩
      | bw d => rw [k] at h; exact h.elim
/-- a name whose value is consumed -/
theorem r_peek {i : Nat} {x : Str} (hN : X.N[i]? = some x) (hv : Vis X.env.scope x) (hd : (x == ("__debug__" : Str)) = false) (hcd : (x == ("__classdict__" : Str)) = false) :
    PE X (.Name x pos) (tP X B C (lVar i) fz W) := (pe_var hN hv hd hcd).wk fun σ H Q ⟨F, s, rel, h⟩ => by
  unfold lVar slotF at h
  cases k : s[i]? with
  | none => rw [k] at h; exact h.elim
  | some o =>
    cases o with
    | none => rw [k] at h; exact h.elim
    | some sl =>
      rw [k] at h
      obtain ⟨v, e1, e2⟩ := rel.slot i _ k
      cases sl with
      | fr d => exact ⟨v, e1, h v F H (.refl rel.fh) (.inl e2)⟩
      | ow d =>
        obtain ⟨a, ea, _, h2⟩ := e2
        exact ⟨v, e1, h v F H (.refl rel.fh) (.inr ⟨a, ea, h2⟩)⟩
      | bw d => exact h.elim
/-! ### lists of parts -/
def notStar : Expr → Bool
  | .Starred _ _ => false
  | _ => true
theorem star_cons {env : Env} (h : notStar e = true) : starEach (e :: es) env = (false, eval e env) :: starEach es env := by
  cases e <;> first | rfl | cases h
theorem star_none {env : Env} {pos : Pos} : ∀ {es : List Expr}, es.all notStar = true → (backTo pos (starEach es env)).any (·.1) = false
  | [], _ => rfl
  | e :: es, h => by
    rw [List.all_cons, Bool.and_eq_true] at h
    rw [star_cons h.1]
    show (false || (backTo pos (starEach es env)).any (·.1)) = false
    rw [star_none h.2]
    rfl
theorem r_nil : PA X [] (tA X B C aNil fz W) := pa_nil.wk fun σ H Q ⟨F, s, rel, h⟩ => h [] F H (.refl rel.fh) rfl
theorem r_cons {de : LD} {dr : AD} (h1 : PE X e (tF X B C de fz W)) (h2 : PA X es (tA X B C dr fy W)) (hs : notStar e = true) : PA X (e :: es) (tA X B C (aCons de dr) (fz ++ fy) W) :=
  (pa_cons h1 h2 (star_cons hs)).wk fun σ H Q ⟨F, s, rel, h⟩ => by
  refine ⟨F, s, rel, ?_⟩
  unfold aCons at h
  cases k : de C s with
  | ok x =>
    rw [k] at h
    refine fun v F1 H1 t hv => ⟨F1, s, rel.step t, ?_⟩
    cases k2 : dr C s with
    | ok ys =>
      have q := h
      unfold R.bind at q
      simp only [k2] at q
      exact fun us F2 H2 t2 hu => q _ F2 H2 ((t.wk zof_l).trans (t2.wk zof_r)) (RpL.cons (hv.mono t2.ff) hu)
    | ex c fs =>
      have q := h
      unfold R.bind at q
      simp only [k2] at q
      exact fun cls dd H' e => q cls dd H' (t.hh.trans e)
    | bad =>
      have q := h
      unfold R.bind at q
      simp only [k2] at q
  | ex c fs => rw [k] at h; exact h
  | bad => rw [k] at h; exact h
/-- arguments that are consumed -/
def tQ (X : Cx) (B : Bas) (C : Call) (e : AD) (fz : List Nat) (W : WX) : TA := fun σ H Q => ∃ F s, RelW X.K X.mg B F H σ s ∧ match e C s with
  | .ok ds => ∀ vs F' H', Stp (Zof fz σ s) F H F' H' → TopL X F' H' vs ds → Q vs H'
  | .ex c fs => ∀ cls dd H', Same H H' → ExAt X X.mg c fs cls dd H' → W cls dd σ H'
  | .bad => False
theorem q_nil : PA X [] (tQ X B C aNil fz W) := pa_nil.wk fun σ H Q ⟨F, s, rel, h⟩ => h [] F H (.refl rel.fh) trivial
theorem q_cons {de : LD} {dr : AD} (h1 : PE X e (tP X B C de fz W)) (h2 : PA X es (tQ X B C dr fy W)) (hs : notStar e = true) : PA X (e :: es) (tQ X B C (aCons de dr) (fz ++ fy) W) :=
  (pa_cons h1 h2 (star_cons hs)).wk fun σ H Q ⟨F, s, rel, h⟩ => by
  refine ⟨F, s, rel, ?_⟩
  unfold aCons at h
  cases k : de C s with
  | ok x =>
    rw [k] at h
    refine fun v F1 H1 t hv => ⟨F1, s, rel.step t, ?_⟩
    cases k2 : dr C s with
    | ok ys =>
      have q := h
      unfold R.bind at q
      simp only [k2] at q
      exact fun us F2 H2 t2 hu => q _ F2 H2 ((t.wk zof_l).trans (t2.wk zof_r)) ⟨hv.mono t2.ff t2.hh, hu⟩
    | ex c fs =>
      have q := h
      unfold R.bind at q
      simp only [k2] at q
      exact fun cls dd H' e => q cls dd H' (t.hh.trans e)
    | bad =>
      have q := h
      unfold R.bind at q
      simp only [k2] at q
  | ex c fs => rw [k] at h; exact h
  | bad => rw [k] at h; exact h
theorem readA {da : AD} {r : List V → Hp → VK → Prop} {f : List D → Option (Bool × D)} (hf : OpA X r f) {σ : L2.St} {Q : VK} (h : tD X B C (eA f da) fz W σ H Q) : tQ X B C da fz W σ H fun x H1 => r x H1 Q := by
  obtain ⟨F, s, rel, h⟩ := h
  refine ⟨F, s, rel, ?_⟩
  unfold eA at h
  cases k : da C s with
  | ok x =>
    rw [k] at h
    exact fun v F1 H1 t hv => hf x v F1 H1 Q t.fh hv (ans_of t h)
  | ex c fs => rw [k] at h; exact h
  | bad => rw [k] at h; exact h
/-! ### displays -/
theorem r_tup {k : Nat} {da : AD} (h : PA X es (tA X B C da fz W)) (hl : es.length ≤ 1000) (hd : ∀ s ds, da C s = .ok ds → ds.length ≤ 1000) : PE X (.Tuple es k pos) (tD X B C (eTup da) fz W) := (pe_tup h).wk fun σ H Q ⟨F, s, rel, h⟩ => by
  refine ⟨F, s, rel, ?_⟩
  unfold eTup at h
  cases k : da C s with
  | ok ds =>
    rw [k] at h
    refine fun vs F1 H1 t hv => ⟨?_, fun p hp => h _ _ _ (t.trans (.new t.fh hp)) ⟨p, vs, rfl, upd_same, hv.mono (same_new (t.fh.free hp))⟩⟩
    rw [hv.len]
    exact Nat.le_trans (hd s ds k) (by decide)
  | ex c fs => rw [k] at h; exact h
  | bad => rw [k] at h; exact h
theorem r_lst {da : AD} (h : PA X es (tA X B C da fz W)) (hd : ∀ s ds, da C s = .ok ds → ds.length ≤ 1000) : PE X (.List es pos) (tD X B C (eLst da) fz W) := (pe_lst h).wk fun σ H Q ⟨F, s, rel, h⟩ => by
  refine ⟨F, s, rel, ?_⟩
  unfold eLst at h
  cases k : da C s with
  | ok ds =>
    rw [k] at h
    refine fun vs F1 H1 t hv => ⟨?_, fun p hp => h _ _ _ (t.trans (.newOwn t.fh hp)) ⟨p, rfl, t.hh.free hp, t.fh.free hp, vs, upd_same, hv⟩⟩
    rw [hv.len]
    exact Nat.le_trans (hd s ds k) (by decide)
  | ex c fs => rw [k] at h; exact h
  | bad => rw [k] at h; exact h
/-! ### operators -/
theorem r_bin {op : Operator} {r : R2} {f : D → D → Option (Bool × D)} {da db : LD} (ho : OpR X (binaryOp op) r) (hf : Op2 X r f) (h1 : PE X a (tP X B C da fz W)) (h2 : PE X b (tP X B C db fy W)) :
    PE X (.BinOp a op b pos) (tD X B C (e2 f da db) (fz ++ fy) W) := (pe_op ho h1 h2).wk fun σ H Q h => read2 hf h
theorem r_un {op : UnaryOp} {r : V → Hp → VK → Prop} {f : D → Option (Bool × D)} {da : LD} (ho : UnR X (unaryOp op) r) (hf : Op1 X r f) (h1 : PE X a (tP X B C da fz W)) :
    PE X (.UnaryOp op a pos) (tD X B C (e1 f da) fz W) := (pe_un ho h1).wk fun σ H Q h => read1 hf h
theorem r_cmp {op : CmpOp} {r : R2} {f : D → D → Option (Bool × D)} {da db : LD} (ho : OpR X (compareOp op) r) (hf : Op2 X r f) (h1 : PE X a (tP X B C da fz W)) (h2 : PE X b (tP X B C db fy W)) (hm : behindInMarks op b = false) :
    PE X (.Compare a [op] [b] pos) (tD X B C (e2 f da db) (fz ++ fy) W) := (pe_cmpR ho h1 h2 hm).wk fun σ H Q h => read2 hf h
end
end DN
/-! Den4: the operators on trees. -/
namespace DN
open PySem PySem.Spec PyProof.Rows L2
section
variable {X : Cx} {F H : Hp} {v u : V}
theorem Top.int {i : Int} (h : Top X.K X.mg F H v (.int i)) : v = .int i := by
  rcases h with h | ⟨a, _, h⟩
  · exact h
  · exact h.elim
theorem Top.bl {i : Bool} (h : Top X.K X.mg F H v (.bl i)) : v = .bl i := by
  rcases h with h | ⟨a, _, h⟩
  · exact h
  · exact h.elim
theorem Top.str {i : Str} (h : Top X.K X.mg F H v (.str i)) : v = .str i := by
  rcases h with h | ⟨a, _, h⟩
  · exact h
  · exact h.elim
theorem Top.non (h : Top X.K X.mg F H v .non) : v = .non := by
  rcases h with h | ⟨a, _, h⟩
  · exact h
  · exact h.elim
theorem ans_ite {Q : VK} {c : Prop} [Decidable c] {o : Option (Bool × D)} (h : Ans X F H Q (if c then o else none)) : c ∧ Ans X F H Q o := by
  by_cases hc : c
  · rw [if_pos hc] at h
    exact ⟨hc, h⟩
  · rw [if_neg hc] at h
    exact h.elim
/-! ### + - * // % ** -/
def rAddD (K : PySem.W.Frag) : R2 := fun x y H Q => ((((rI0 fun i j => .int (i + j)) x y H Q ∨ (fun x y H Q => ∃ i j, x = .str i ∧ y = .str j ∧ i.length + j.length ≤ sizeLine ∧ Q (.str (i ++ j)) H : R2) x y H Q) ∨ rCat x y H Q) ∨ rCatA K x y H Q)
theorem op_addD : OpR X (binaryOp .Add) (rAddD X.K) := ((op_add.or op_add_str).or op_cat).or op_catA
theorem ok_add : Op2 X (rAddD X.K) dAdd := fun x y v u F H Q s hx hy h => by
  cases x <;> cases y <;> first
    | exact (show False from h).elim
    | skip
  · exact .inl (.inl (.inl ⟨_, _, hx.int, hy.int, h.flat s rfl⟩))
  · obtain ⟨hl, h⟩ := ans_ite h
    exact .inl (.inl (.inr ⟨_, _, hx.str, hy.str, lim_size hl, h.flat s rfl⟩))
  · obtain ⟨hl, h⟩ := ans_ite h
    obtain ⟨a, vs, e1, h1, r1⟩ := hx.tup s
    obtain ⟨b, ws, e2, h2, r2⟩ := hy.tup s
    refine .inr ⟨a, b, vs, ws, e1, e2, h1, h2, lim_size (by rw [r1.len, r2.len]; exact hl), fun z => ?_, fun _ z => ?_, fun _ _ => h.tup s (r1.append r2)⟩
    · subst z e2
      have z1 : _ = [] := List.eq_nil_of_length_eq_zero r1.len.symm
      subst z1
      rcases hy with hy | ⟨_, _, hy⟩
      · exact h.flat s hy
      · exact hy.elim
    · subst z e1
      have z1 : _ = [] := List.eq_nil_of_length_eq_zero r2.len.symm
      subst z1
      rw [List.append_nil] at h
      rcases hx with hx | ⟨_, _, hx⟩
      · exact h.flat s hx
      · exact hx.elim
  · obtain ⟨⟨hl, hne⟩, h⟩ := ans_ite h
    obtain ⟨a, vs, e1, h1, r1⟩ := hx.tup s
    obtain ⟨b, ws, e2, h2, r2⟩ := hy.ft s
    refine .inr ⟨a, b, vs, ws, e1, e2, h1, h2, lim_size (by rw [r1.len, r2.len]; exact hl), fun z => ?_, fun _ z => ?_, fun _ _ => h.tup s (r1.append r2)⟩
    · subst z
      have z1 : _ = [] := List.eq_nil_of_length_eq_zero r1.len.symm
      subst z1
      cases hne
    · subst z e1
      have z1 : _ = [] := List.eq_nil_of_length_eq_zero r2.len.symm
      subst z1
      rw [List.append_nil] at h
      rcases hx with hx | ⟨_, _, hx⟩
      · exact h.flat s hx
      · exact hx.elim
  · obtain ⟨hl, h⟩ := ans_ite h
    obtain ⟨a, vs, e1, h1, r1⟩ := hx.lst s
    obtain ⟨b, ws, e2, h2, r2⟩ := hy.lst s
    exact .inl (.inr ⟨a, b, vs, ws, e1, e2, h1, h2, lim_size (by rw [r1.len, r2.len]; exact hl), h.lst s (r1.append r2)⟩)
theorem ok_sub : Op2 X (rI0 fun i j => .int (i - j)) dSub := fun x y v u F H Q s hx hy h => by
  cases x <;> cases y <;> first
    | exact (show False from h).elim
    | exact ⟨_, _, hx.int, hy.int, h.flat s rfl⟩
theorem ok_fdiv : Op2 X (rI CDiv fun i j => .int (i / j)) dFdiv := fun x y v u F H Q s hx hy h => by
  cases x <;> cases y <;> first
    | exact (show False from h).elim
    | (obtain ⟨hl, h⟩ := ans_ite h; exact ⟨_, _, hx.int, hy.int, hl, h.flat s rfl⟩)
theorem ok_mod : Op2 X (rI (fun _ j => 0 < j) fun i j => .int (i % j)) dMod := fun x y v u F H Q s hx hy h => by
  cases x <;> cases y <;> first
    | exact (show False from h).elim
    | (obtain ⟨hl, h⟩ := ans_ite h; exact ⟨_, _, hx.int, hy.int, hl, h.flat s rfl⟩)
theorem ok_pow : Op2 X (rI CPow fun i j => .int (i ^ j.toNat)) dPow := fun x y v u F H Q s hx hy h => by
  cases x <;> cases y <;> first
    | exact (show False from h).elim
    | (obtain ⟨hl, h⟩ := ans_ite h; exact ⟨_, _, hx.int, hy.int, hl, h.flat s rfl⟩)
theorem ok_neg : Op1 X (rU fun i => .int (-i)) dNeg := fun x v F H Q s hx h => by
  cases x <;> first
    | exact (show False from h).elim
    | exact ⟨_, hx.int, h.flat s rfl⟩
/-! ### comparisons -/
theorem ok_ints {g : Int → Int → Bool} : Op2 X (rI0 fun i j => .bl (g i j)) (dInts g) := fun x y v u F H Q s hx hy h => by
  cases x <;> cases y <;> first
    | exact (show False from h).elim
    | exact ⟨_, _, hx.int, hy.int, h.flat s rfl⟩
theorem top_non {x : D} (hx : Top X.K X.mg F H v x) : decide (v = V.non) = x.isNon := by
  cases x with
  | non =>
    rw [hx.non]
    rfl
  | _ =>
    refine decide_eq_false fun z => ?_
    subst z
    rcases hx with hx | ⟨_, z, _⟩
    · first
        | (obtain ⟨_, _, z, _⟩ := hx; cases z; done)
        | (obtain ⟨_, z, _⟩ := hx; cases z; done)
        | (obtain ⟨_, _, z⟩ := hx; cases z; done)
        | (obtain ⟨_, _, _, _, z, _⟩ := hx; cases z; done)
        | (cases hx; done)
    · cases z
theorem ok_isN : Op2 X (fun x y H Q => y = .non ∧ Q (.bl (decide (x = .non))) H) dIsN := fun x y v u F H Q s hx hy h => by
  cases y with
  | non =>
    refine ⟨hy.non, ?_⟩
    rw [top_non hx]
    exact h.flat s rfl
  | _ => exact (show False from h).elim
theorem ok_notN : Op2 X (fun x y H Q => y = .non ∧ Q (.bl (!decide (x = .non))) H) dNotN := fun x y v u F H Q s hx hy h => by
  cases y with
  | non =>
    refine ⟨hy.non, ?_⟩
    rw [top_non hx]
    exact h.flat s rfl
  | _ => exact (show False from h).elim
/-! ### deep == -/
mutual
theorem py_dp (s : Same F H) : ∀ {d : D} {p : PyData} {v : V}, d.py = some p → Rp X.K X.mg F v d → Dp X.K H v p
  | .non, _, _, e, h => by cases e; rw [show _ = V.non from h]; exact .non
  | .bl b, _, _, e, h => by cases e; rw [show _ = V.bl b from h]; exact .bl b
  | .int i, _, _, e, h => by cases e; rw [show _ = V.int i from h]; exact .int i
  | .str i, _, _, e, h => by cases e; rw [show _ = V.str i from h]; exact .str i
  | .cls _, _, _, e, _ => by cases e
  | .ft _, _, _, e, _ => by cases e
  | .rng _, _, _, e, _ => by cases e
  | .scr _, _, _, e, _ => by cases e
  | .dic _, _, _, e, _ => by cases e
  | .obj _ _, _, _, e, _ => by cases e
  | .tup l, p, v, e, h => by
    obtain ⟨a, vs, e1, h1, h2⟩ := h
    subst e1
    cases k : D.pys l with
    | none => simp [D.py, k] at e
    | some ps =>
      simp [D.py, k] at e
      subst e
      exact .tup (SqT.of (s _ _ h1)) (py_dps s k h2)
  | .lst l, p, v, e, h => by
    obtain ⟨a, vs, e1, h1, h2⟩ := h
    subst e1
    cases k : D.pys l with
    | none => simp [D.py, k] at e
    | some ps =>
      simp [D.py, k] at e
      subst e
      exact .lst (SqL.of (s _ _ h1)) (py_dps s k h2)
theorem py_dps (s : Same F H) : ∀ {l : List D} {ps : List PyData} {vs : List V}, D.pys l = some ps → RpL X.K X.mg F vs l → DpAll X.K H vs ps
  | [], ps, vs, e, h => by
    have e1 : [] = ps := by simpa [D.pys] using e
    subst e1
    rw [show vs = [] from h]
    exact .nil
  | d :: r, ps, vs, e, h => by
    obtain ⟨v, vr, e1, h1, h2⟩ := h
    subst e1
    cases k : D.py d with
    | none => simp [D.pys, k] at e
    | some p =>
      cases k2 : D.pys r with
      | none => simp [D.pys, k, k2] at e
      | some q =>
        simp [D.pys, k, k2] at e
        subst e
        exact .cons (py_dp s k h1) (py_dps s k2 h2)
end
theorem top_dp (s : Same F H) {d : D} {p : PyData} (e : d.py = some p) (h : Top X.K X.mg F H v d) : Dp X.K H v p := by
  rcases h with h | ⟨a, ea, h⟩
  · exact py_dp s e h
  · cases d with
    | lst l =>
      obtain ⟨vs, h1, h2⟩ := h
      subst ea
      cases k : D.pys l with
      | none => simp [D.py, k] at e
      | some ps =>
        simp [D.py, k] at e
        subst e
        exact .lst (SqL.of h1) (py_dps s k h2)
    | dic l => cases e
    | obj c fs => cases e
    | _ => exact h.elim
theorem ok_eq : Op2 X (rEqD X.K) dEq := fun x y v u F H Q s hx hy h => by
  unfold dEq at h
  cases k : x.py with
  | none => rw [k] at h; exact h.elim
  | some p =>
    cases k2 : y.py with
    | none => rw [k, k2] at h; exact h.elim
    | some q =>
      rw [k, k2] at h
      obtain ⟨hs, h⟩ := ans_ite h
      exact ⟨p, q, top_dp s k hx, top_dp s k2 hy, hs.1, hs.2, h.flat s rfl⟩
theorem ok_ne : Op2 X (rNeD X.K) dNe := fun x y v u F H Q s hx hy h => by
  unfold dNe at h
  cases k : x.py with
  | none => rw [k] at h; exact h.elim
  | some p =>
    cases k2 : y.py with
    | none => rw [k, k2] at h; exact h.elim
    | some q =>
      rw [k, k2] at h
      obtain ⟨hs, h⟩ := ans_ite h
      exact ⟨p, q, top_dp s k hx, top_dp s k2 hy, hs.1, hs.2, h.flat s rfl⟩
/-! ### in -/
/-- y in d, d a dict with tuple keys -/
def rInDT (neg : Bool) : R2 := fun x y H Q => ∃ a o, y = .ref a ∧ DGet H a x o ∧ Q (.bl (if neg = true then !o.isSome else o.isSome)) H
theorem op_inDT (hu : X.A.units + 65 < cLine) : OpR X (compareOp .In) (rInDT false) := by
  intro pins s σ H x y v u Q I rx ry h
  obtain ⟨a, o, rfl, g, q⟩ := h
  cases (show u = Value.ref a from ry)
  exact d_in (by omega) I g rx fun s3 I3 => ⟨.bl o.isSome, H, I3, rfl, q⟩
theorem op_notInDT (hu : X.A.units + 65 < cLine) : OpR X (compareOp .NotIn) (rInDT true) := by
  intro pins s σ H x y v u Q I rx ry h
  obtain ⟨a, o, rfl, g, q⟩ := h
  cases (show u = Value.ref a from ry)
  exact d_notIn (by omega) I g rx fun s3 I3 => ⟨.bl (!o.isSome), H, I3, rfl, q⟩
def rInTup (K : PySem.W.Frag) (neg : Bool) : R2 := fun x y H Q => ∃ d ds, Dp K H x d ∧ Dp K H y (.tuple ds) ∧ SeqAt.shaped d = true ∧ SeqAt.shaped (.tuple ds) = true ∧ Q (.bl (if neg = true then !ds.any fun z => PyData.eqv z d else ds.any fun z => PyData.eqv z d)) H
theorem op_inTup (hu : X.A.units + 65 < cLine) : OpR X (compareOp .In) (rInTup X.K false) := by
  intro pins s σ H x y v u Q I rx ry h
  obtain ⟨d, ds, hd, he, sd, se, q⟩ := h
  obtain ⟨as, r1⟩ := Dp.reads I d x v hd rx
  obtain ⟨bs, r2⟩ := Dp.reads I (.tuple ds) y u he ry
  exact SeqAt.in_tuple_reads r2 r1 (SeqAt.canLay_of_shaped se) (SeqAt.canLay_of_shaped sd) (room_in_shaped sd hu) ⟨.bl _, H, I, rfl, q⟩
theorem op_notInTup (hu : X.A.units + 65 < cLine) : OpR X (compareOp .NotIn) (rInTup X.K true) := by
  intro pins s σ H x y v u Q I rx ry h
  obtain ⟨d, ds, hd, he, sd, se, q⟩ := h
  obtain ⟨as, r1⟩ := Dp.reads I d x v hd rx
  obtain ⟨bs, r2⟩ := Dp.reads I (.tuple ds) y u he ry
  exact SeqAt.notIn_tuple_reads r2 r1 (SeqAt.canLay_of_shaped se) (SeqAt.canLay_of_shaped sd) (room_in_shaped sd hu) ⟨.bl _, H, I, rfl, q⟩
def rInDD (K : PySem.W.Frag) : R2 := fun x y H Q => rInD K x y H Q ∨ (fun x y H Q => ∃ i j, x = .str i ∧ y = .str j ∧ Q (.bl (!(Builtin.Str.occurrences j i 0 j.length 1).isEmpty)) H : R2) x y H Q ∨ rInDT false x y H Q ∨ rInTup K false x y H Q
def rNotInDD (K : PySem.W.Frag) : R2 := fun x y H Q => rNotInD K x y H Q ∨ (fun x y H Q => ∃ i j, x = .str i ∧ y = .str j ∧ Q (.bl (!(!(Builtin.Str.occurrences j i 0 j.length 1).isEmpty))) H : R2) x y H Q ∨ rInDT true x y H Q ∨ rInTup K true x y H Q
theorem op_inDD (hu : X.A.units + 65 < cLine) : OpR X (compareOp .In) (rInDD X.K) := (op_inD hu).or (op_in_str.or ((op_inDT hu).or (op_inTup hu)))
theorem op_notInDD (hu : X.A.units + 65 < cLine) : OpR X (compareOp .NotIn) (rNotInDD X.K) := (op_notInD hu).or (op_notin_str.or ((op_notInDT hu).or (op_notInTup hu)))
/-- a dict's entry by a tuple -/
theorem top_get {x : D} {p : D × D} {r : List (D × D)} {v u : V} {k : List L2.Key} {o : Option D} (s : Same F H) (hx : Top X.K X.mg F H v x) (hy : Top X.K X.mg F H u (.dic (p :: r))) (e1 : tkeyOf x = some k) (e2 : getDK (p :: r) k = some o) :
    ∃ a ov, u = .ref a ∧ DGet H a v ov ∧ (match o with | none => ov = none | some d => ∃ w, ov = some w ∧ Rp X.K X.mg F w d) := by
  have hk : ∃ b, v = .ref b ∧ H b = some (.tup (k.map kV)) := by
    cases x <;> first
      | (cases e1; done)
      | skip
    rcases hx with hx | ⟨_, _, hx⟩
    · obtain ⟨a, vs, rfl, h1, h2⟩ := hx
      rw [keys_rp e1 h2] at h1
      exact ⟨a, rfl, s _ _ h1⟩
    · exact hx.elim
  obtain ⟨b, rfl, hb⟩ := hk
  have key : ∀ {kvs : List (List L2.Key × V)} {a : Addr}, u = .ref a → H a = some (.dT kvs) → RpT X.K X.mg F kvs (p :: r) → ∃ a ov, u = .ref a ∧ DGet H a (.ref b) ov ∧ (match o with | none => ov = none | some d => ∃ w, ov = some w ∧ Rp X.K X.mg F w d) := fun {kvs a} eu ha hr => ⟨a, valV kvs k, eu, .t ha hb, by
    have z := rpt_get hr e2
    cases o with
    | none => exact z
    | some d => exact z⟩
  have no : ∀ {kvs : List (Key × V)}, RpK X.K X.mg F kvs (p :: r) → False := fun {kvs} hr => by
    obtain ⟨kd, d⟩ := p
    obtain ⟨k2, w, kvs', rfl, rfl, hv, hr⟩ := hr
    cases k2 <;> (unfold getDK at e2; cases e2)
  rcases hy with ⟨a, rfl, ⟨kvs, h1, h2⟩ | ⟨kvs, h1, h2⟩⟩ | ⟨a, rfl, ⟨kvs, h1, h2⟩ | ⟨kvs, h1, h2⟩⟩
  · exact (no h2).elim
  · exact key rfl (s _ _ h1) h2
  · exact (no h2).elim
  · exact key rfl h1 h2
theorem ok_in : Op2 X (rInDD X.K) dIn := fun x y v u F H Q s hx hy h => by
  unfold dIn at h
  cases y <;> first
    | exact (show False from h).elim
    | skip
  · cases x <;> first
      | exact (show False from h).elim
      | exact .inr (.inl ⟨_, _, hx.str, hy.str, h.flat s rfl⟩)
  · rename_i l
    cases k : x.py with
    | none => simp only [k] at h; exact h.elim
    | some p =>
      cases k2 : D.pys l with
      | none => simp only [k, k2] at h; exact h.elim
      | some q =>
        simp only [k, k2] at h
        obtain ⟨hs, h⟩ := ans_ite h
        exact .inr (.inr (.inr ⟨p, q, top_dp s k hx, top_dp s (by simp [D.py, k2]) hy, hs.1, hs.2, h.flat s rfl⟩))
  · rename_i l
    cases k : x.py with
    | none => simp only [k] at h; exact h.elim
    | some p =>
      cases k2 : D.pys l with
      | none => simp only [k, k2] at h; exact h.elim
      | some q =>
        simp only [k, k2] at h
        obtain ⟨hs, h⟩ := ans_ite h
        exact .inl ⟨p, q, top_dp s k hx, top_dp s (by simp [D.py, k2]) hy, hs.1, hs.2, h.flat s rfl⟩
  · rename_i l
    cases l with
    | nil => exact (show False from h).elim
    | cons p r =>
      cases k : tkeyOf x with
      | none => simp only [k, Option.bind] at h; exact h.elim
      | some kk =>
        cases k2 : getDK (p :: r) kk with
        | none => simp only [k, k2, Option.bind, Option.map] at h; exact h.elim
        | some o =>
          simp only [k, k2, Option.bind, Option.map] at h
          obtain ⟨a, ov, e, g, z⟩ := top_get s hx hy k k2
          have eo : ov.isSome = o.isSome := by
            cases o with
            | none => rw [z]; rfl
            | some d => obtain ⟨w, z, _⟩ := z; rw [z]; rfl
          refine .inr (.inr (.inl ⟨a, ov, e, g, ?_⟩))
          rw [eo]
          exact h.flat s rfl
theorem ok_notIn : Op2 X (rNotInDD X.K) dNotIn := fun x y v u F H Q s hx hy h => by
  unfold dNotIn at h
  cases y <;> first
    | exact (show False from h).elim
    | skip
  · cases x <;> first
      | exact (show False from h).elim
      | exact .inr (.inl ⟨_, _, hx.str, hy.str, h.flat s rfl⟩)
  · rename_i l
    cases k : x.py with
    | none => simp only [k] at h; exact h.elim
    | some p =>
      cases k2 : D.pys l with
      | none => simp only [k, k2] at h; exact h.elim
      | some q =>
        simp only [k, k2] at h
        obtain ⟨hs, h⟩ := ans_ite h
        exact .inr (.inr (.inr ⟨p, q, top_dp s k hx, top_dp s (by simp [D.py, k2]) hy, hs.1, hs.2, h.flat s rfl⟩))
  · rename_i l
    cases k : x.py with
    | none => simp only [k] at h; exact h.elim
    | some p =>
      cases k2 : D.pys l with
      | none => simp only [k, k2] at h; exact h.elim
      | some q =>
        simp only [k, k2] at h
        obtain ⟨hs, h⟩ := ans_ite h
        exact .inl ⟨p, q, top_dp s k hx, top_dp s (by simp [D.py, k2]) hy, hs.1, hs.2, h.flat s rfl⟩
  · rename_i l
    cases l with
    | nil => exact (show False from h).elim
    | cons p r =>
      cases k : tkeyOf x with
      | none => simp only [k, Option.bind] at h; exact h.elim
      | some kk =>
        cases k2 : getDK (p :: r) kk with
        | none => simp only [k, k2, Option.bind, Option.map] at h; exact h.elim
        | some o =>
          simp only [k, k2, Option.bind, Option.map] at h
          obtain ⟨a, ov, e, g, z⟩ := top_get s hx hy k k2
          have eo : ov.isSome = o.isSome := by
            cases o with
            | none => rw [z]; rfl
            | some d => obtain ⟨w, z, _⟩ := z; rw [z]; rfl
          refine .inr (.inr (.inl ⟨a, ov, e, g, ?_⟩))
          rw [eo]
          exact h.flat s rfl
end
end DN
/-! Den5: tests, chains, places, slices, built-in functions, fields. -/
namespace DN
open PySem PySem.Spec PyProof.Rows L2
section
variable {X : Cx} {B : Bas} {C : Call} {W : WX} {F H : Hp} {e a b c : Expr} {es rest : List Expr} {fz fy fx : List Nat} {pos : Pos}
/-! ### tests -/
theorem isBl_top {d : D} {v : V} (h : Top X.K X.mg F H v d) {k : Bool} (e : isBl d = some k) : v = .bl k := by
  cases d <;> first
    | (cases e; done)
    | (cases e; exact h.bl)
/-- a value that is True or False -/
def tV (X : Cx) (B : Bas) (C : Call) (e : BD) (W : WX) : TE := fun σ H Q => DN.tB X B C e W σ H fun k H' => Q (.bl k) H'
theorem v_of {den : ED} (h : PE X e (tD X B C den fz W)) : PE X e (tV X B C (bE den) W) := h.wk fun σ H Q ⟨F, s, rel, q⟩ => by
  refine ⟨F, s, rel, ?_⟩
  unfold bE at q
  cases k : den C s with
  | ok x =>
    obtain ⟨b, d⟩ := x
    rw [k] at q
    refine fun v F' H' t hv => ?_
    have q : match ofO (isBl d) with
      | .ok b => ∀ H', Same H H' → Q (.bl b) H'
      | .ex c fs => ∀ cls dd H', Same H H' → ExAt X X.mg c fs cls dd H' → W cls dd σ H'
      | .bad => False := q
    cases k2 : isBl d with
    | none => rw [k2] at q; exact q.elim
    | some kb =>
      rw [k2] at q
      rw [isBl_top hv.top k2]
      exact q H' t.hh
  | ex c fs => rw [k] at q; exact q
  | bad => rw [k] at q; exact q
theorem d_of {den : BD} (h : PE X e (tV X B C den W)) : PE X e (tD X B C (eB den) fz W) := h.wk fun σ H Q ⟨F, s, rel, q⟩ => by
  refine ⟨F, s, rel, ?_⟩
  unfold eB at q
  cases k : den C s with
  | ok x =>
    rw [k] at q
    exact fun H' t => q _ F H' ⟨.refl _, t, rel.fh.trans t, fun _ _ h => .inl h⟩ rfl
  | ex c fs => rw [k] at q; exact q
  | bad => rw [k] at q; exact q
/-- expressions whose test is their value's truth -/
def plainT : Expr → Bool
  | .UnaryOp .Not _ _ => false
  | .BoolOp _ _ _ => false
  | .IfExp _ _ _ _ => false
  | .Compare _ _ _ _ => false
  | _ => true
theorem plainT_ok {env : Env} (h : plainT e = true) (whole : Sem Value) : isTrue e env whole = (do let v ← whole; standAt e.pos; holding [v] (truthy v)) := by
  cases e with
  | UnaryOp op x p => cases op <;> first | rfl | cases h
  | BoolOp op x p => cases h
  | IfExp a b c p => cases h
  | Compare a b c p => cases h
  | _ => rfl
theorem t_of {den : BD} (h : PE X e (tV X B C den W)) (hp : plainT e = true) : PT X e (DN.tB X B C den W) := (pt_val h (plainT_ok hp)).wk fun σ H Q ⟨F, s, rel, q⟩ => by
  refine ⟨F, s, rel, ?_⟩
  cases k : den C s with
  | ok x =>
    rw [k] at q
    exact fun H' t => ⟨x, rfl, q H' t⟩
  | ex c fs => rw [k] at q; exact q
  | bad => rw [k] at q; exact q
theorem t_not {den : BD} (h : PT X a (DN.tB X B C den W)) : PT X (.UnaryOp .Not a pos) (DN.tB X B C (bNot den) W) := (pt_not h).wk fun σ H Q ⟨F, s, rel, q⟩ => by
  refine ⟨F, s, rel, ?_⟩
  unfold bNot at q
  cases k : den C s with
  | ok x => rw [k] at q; exact q
  | ex c fs => rw [k] at q; exact q
  | bad => rw [k] at q; exact q
theorem v_not {den : BD} (h : PE X a (tV X B C den W)) : PE X (.UnaryOp .Not a pos) (tV X B C (bNot den) W) := (pe_not h).wk fun σ H Q ⟨F, s, rel, q⟩ => by
  refine ⟨F, s, rel, ?_⟩
  unfold bNot at q
  cases k : den C s with
  | ok x => rw [k] at q; exact fun H' t => ⟨x, rfl, q H' t⟩
  | ex c fs => rw [k] at q; exact q
  | bad => rw [k] at q; exact q
theorem and_read {da db : BD} {σ : L2.St} {Q : Bool → Hp → Prop} (h : DN.tB X B C (bAnd da db) W σ H Q) : DN.tB X B C da W σ H fun c H1 => if c = true then DN.tB X B C db W σ H1 Q else Q false H1 := by
  obtain ⟨F, s, rel, h⟩ := h
  refine ⟨F, s, rel, ?_⟩
  unfold bAnd at h
  cases k : da C s with
  | ok x =>
    rw [k] at h
    cases x with
    | true =>
      refine fun H' t => ?_
      refine iteT ?_
      refine ⟨F, s, rel.same t, ?_⟩
      have q : match db C s with
        | .ok b => ∀ H', Same H H' → Q b H'
        | .ex c fs => ∀ cls dd H', Same H H' → ExAt X X.mg c fs cls dd H' → W cls dd σ H'
        | .bad => False := h
      cases k2 : db C s with
      | ok y => rw [k2] at q; exact fun H2 t2 => q H2 (t.trans t2)
      | ex c fs => rw [k2] at q; exact fun cls dd H2 t2 => q cls dd H2 (t.trans t2)
      | bad => rw [k2] at q; exact q
    | false =>
      refine fun H' t => ?_
      refine iteF ?_
      exact h H' t
  | ex c fs => rw [k] at h; exact h
  | bad => rw [k] at h; exact h
theorem or_read {da db : BD} {σ : L2.St} {Q : Bool → Hp → Prop} (h : DN.tB X B C (bOr da db) W σ H Q) : DN.tB X B C da W σ H fun c H1 => if c = true then Q true H1 else DN.tB X B C db W σ H1 Q := by
  obtain ⟨F, s, rel, h⟩ := h
  refine ⟨F, s, rel, ?_⟩
  unfold bOr at h
  cases k : da C s with
  | ok x =>
    rw [k] at h
    cases x with
    | false =>
      refine fun H' t => ?_
      refine iteF ?_
      refine ⟨F, s, rel.same t, ?_⟩
      have q : match db C s with
        | .ok b => ∀ H', Same H H' → Q b H'
        | .ex c fs => ∀ cls dd H', Same H H' → ExAt X X.mg c fs cls dd H' → W cls dd σ H'
        | .bad => False := h
      cases k2 : db C s with
      | ok y => rw [k2] at q; exact fun H2 t2 => q H2 (t.trans t2)
      | ex c fs => rw [k2] at q; exact fun cls dd H2 t2 => q cls dd H2 (t.trans t2)
      | bad => rw [k2] at q; exact q
    | true =>
      refine fun H' t => ?_
      refine iteT ?_
      exact h H' t
  | ex c fs => rw [k] at h; exact h
  | bad => rw [k] at h; exact h
theorem w_and {da db : BD} (h1 : PT X a (DN.tB X B C da W)) (h2 : PW X (.BoolOp .And (b :: rest) pos) (DN.tB X B C db W)) : PW X (.BoolOp .And (a :: b :: rest) pos) (DN.tB X B C (bAnd da db) W) :=
  (pw_and h1 h2).wk fun σ H Q h => and_read h
theorem w_or {da db : BD} (h1 : PT X a (DN.tB X B C da W)) (h2 : PW X (.BoolOp .Or (b :: rest) pos) (DN.tB X B C db W)) : PW X (.BoolOp .Or (a :: b :: rest) pos) (DN.tB X B C (bOr da db) W) :=
  (pw_or h1 h2).wk fun σ H Q h => or_read h
theorem bi_conv {den : BD} {σ : L2.St} {Q : VK} {Q' : Bool → Hp → Prop} (h : DN.tB X B C den W σ H Q') (k : ∀ b H', Q' b H' → ∃ c, V.bl b = .bl c ∧ Q' c H') : DN.tB X B C den W σ H fun x H1 => ∃ c, V.bl x = .bl c ∧ Q' c H1 := by
  obtain ⟨F, s, rel, h⟩ := h
  refine ⟨F, s, rel, ?_⟩
  cases q : den C s with
  | ok x => rw [q] at h; exact fun H' t => k _ _ (h H' t)
  | ex c fs => rw [q] at h; exact h
  | bad => rw [q] at h; exact h
theorem v_and {da db : BD} (h1 : PE X a (tV X B C da W)) (h2 : PE X (.BoolOp .And (b :: rest) pos) (tV X B C db W)) : PE X (.BoolOp .And (a :: b :: rest) pos) (tV X B C (bAnd da db) W) :=
  (pe_and h1 h2).wk fun σ H Q h => bi_conv (Q := Q) (and_read h) fun b H' q => ⟨b, rfl, q⟩
theorem v_or {da db : BD} (h1 : PE X a (tV X B C da W)) (h2 : PE X (.BoolOp .Or (b :: rest) pos) (tV X B C db W)) : PE X (.BoolOp .Or (a :: b :: rest) pos) (tV X B C (bOr da db) W) :=
  (pe_or h1 h2).wk fun σ H Q h => bi_conv (Q := Q) (or_read h) fun b H' q => ⟨b, rfl, q⟩
theorem r_if {dt : BD} {da db : ED} (h0 : PT X c (DN.tB X B C dt W)) (h1 : PE X a (tD X B C da fz W)) (h2 : PE X b (tD X B C db fy W)) : PE X (.IfExp c a b pos) (tD X B C (eIf dt da db) (fz ++ fy) W) :=
  (pe_ifExp h0 h1 h2).wk fun σ H Q ⟨F, s, rel, h⟩ => by
  refine ⟨F, s, rel, ?_⟩
  unfold eIf at h
  cases k : dt C s with
  | ok x =>
    rw [k] at h
    refine fun H' t => ?_
    have t0 : ∀ {Z : Addr → Prop}, Stp Z F H F H' := ⟨.refl _, t, rel.fh.trans t, fun _ _ h => .inl h⟩
    cases x with
    | true =>
      refine iteT ?_
      refine ⟨F, s, rel.same t, ?_⟩
      have q : match da C s with
        | .ok (b, d) => ∀ v F' H', Stp (Zof (fz ++ fy) σ s) F H F' H' → Vres X H F' H' b v d → Q v H'
        | .ex c fs => ∀ cls dd H', Same H H' → ExAt X X.mg c fs cls dd H' → W cls dd σ H'
        | .bad => False := h
      cases k2 : da C s with
      | ok y =>
        rw [k2] at q
        exact fun v F2 H2 t2 hv => q v F2 H2 (t0.trans (t2.wk zof_l)) (hv.back t)
      | ex c fs => rw [k2] at q; exact fun cls dd H2 t2 => q cls dd H2 (t.trans t2)
      | bad => rw [k2] at q; exact q
    | false =>
      refine iteF ?_
      refine ⟨F, s, rel.same t, ?_⟩
      have q : match db C s with
        | .ok (b, d) => ∀ v F' H', Stp (Zof (fz ++ fy) σ s) F H F' H' → Vres X H F' H' b v d → Q v H'
        | .ex c fs => ∀ cls dd H', Same H H' → ExAt X X.mg c fs cls dd H' → W cls dd σ H'
        | .bad => False := h
      cases k2 : db C s with
      | ok y =>
        rw [k2] at q
        exact fun v F2 H2 t2 hv => q v F2 H2 (t0.trans (t2.wk zof_r)) (hv.back t)
      | ex c fs => rw [k2] at q; exact fun cls dd H2 t2 => q cls dd H2 (t.trans t2)
      | bad => rw [k2] at q; exact q
  | ex c fs => rw [k] at h; exact h
  | bad => rw [k] at h; exact h
/-- a comparison as a test -/
theorem test_read {den : ED} {σ : L2.St} {Q : Bool → Hp → Prop} (h : DN.tB X B C (bE den) W σ H Q) : tD X B C den fz W σ H fun x H' => ∃ k, x = .bl k ∧ Q k H' := by
  obtain ⟨F, s, rel, h⟩ := h
  refine ⟨F, s, rel, ?_⟩
  unfold bE at h
  cases k : den C s with
  | ok x =>
    obtain ⟨b, d⟩ := x
    rw [k] at h
    refine fun v F' H' t hv => ?_
    have q : match ofO (isBl d) with
      | .ok b => ∀ H', Same H H' → Q b H'
      | .ex c fs => ∀ cls dd H', Same H H' → ExAt X X.mg c fs cls dd H' → W cls dd σ H'
      | .bad => False := h
    cases k2 : isBl d with
    | none => rw [k2] at q; exact q.elim
    | some kb =>
      rw [k2] at q
      exact ⟨kb, isBl_top hv.top k2, q H' t.hh⟩
  | ex c fs => rw [k] at h; exact h
  | bad => rw [k] at h; exact h
theorem t_cmp {op : CmpOp} {r : R2} {f : D → D → Option (Bool × D)} {da db : LD} (ho : OpR X (compareOp op) r) (hf : Op2 X r f) (h1 : PE X a (tP X B C da fz W)) (h2 : PE X b (tP X B C db fy W)) (hm : behindInMarks op b = false) :
    PT X (.Compare a [op] [b] pos) (DN.tB X B C (bE (e2 f da db)) W) := (pt_cmpR ho h1 h2 hm).wk fun σ H Q h => read2 hf (test_read (fz := fz ++ fy) h)
/-! ### a < b < c -/
theorem chain_read {da db dc : LD} {r r' : R2} {f f' : D → D → Option (Bool × D)} (hf : Op2 X r f) (hf' : Op2 X r' f') {σ : L2.St} {Q : VK} (h : tD X B C (eChain f f' da db dc) (fz ++ (fy ++ fx)) W σ H Q) :
    tChain r r' (tP X B C da fz W) (tP X B C db fy W) (tP X B C dc fx W) σ H Q := by
  obtain ⟨F, s, rel, h⟩ := h
  refine ⟨F, s, rel, ?_⟩
  unfold eChain at h
  cases k : da C s with
  | bad => rw [k] at h; exact h
  | ex c fs => rw [k] at h; exact h
  | ok x =>
    refine fun v F1 H1 t1 hv => ⟨F1, s, rel.step t1, ?_⟩
    simp only [k, R.bind] at h
    cases k2 : db C s with
    | bad => simp only [k2] at h
    | ex c fs => simp only [k2] at h; exact fun cls dd H' t => h cls dd H' (t1.hh.trans t)
    | ok y =>
      refine fun u F2 H2 t2 hu => ?_
      simp only [k2] at h
      have t12 : Stp (Zof (fz ++ (fy ++ fx)) σ s) F H F2 H2 := (t1.wk zof_l).trans (t2.wk fun x z => zof_r x (zof_l x z))
      refine hf x y v u F2 H2 _ t2.fh (hv.mono t2.ff t2.hh) hu ?_
      cases k3 : f x y with
      | none => simp only [k3, Option.bind, ofO] at h
      | some p =>
        obtain ⟨b0, d0⟩ := p
        simp only [k3, Option.bind] at h
        refine fun z F3 H3 t3 hz => ?_
        cases k4 : isBl d0 with
        | none => simp only [k4, ofO] at h
        | some kb =>
          simp only [k4, ofO] at h
          refine ⟨kb, isBl_top hz.top k4, ?_⟩
          have t13 : Stp (Zof (fz ++ (fy ++ fx)) σ s) F H F3 H3 := t12.trans t3.of0
          cases kb with
          | false =>
            rw [if_neg Bool.false_ne_true] at h ⊢
            exact h _ F3 H3 t13 rfl
          | true =>
            rw [if_pos rfl] at h ⊢
            refine ⟨F3, s, (rel.step t1).step (fz := fy ++ fx) ((t2.wk zof_l).trans t3.of0), ?_⟩
            cases k5 : dc C s with
            | bad => simp only [k5] at h
            | ex c fs => simp only [k5] at h; exact fun cls dd H' t => h cls dd H' (t13.hh.trans t)
            | ok w =>
              simp only [k5] at h
              have h : match ofO (f' y w) with
                | .ok (b, d) => ∀ v F' H', Stp (Zof (fz ++ (fy ++ fx)) σ s) F H F' H' → Vres X H F' H' b v d → Q v H'
                | .ex c fs => ∀ cls dd H', Same H H' → ExAt X X.mg c fs cls dd H' → W cls dd σ H'
                | .bad => False := h
              refine fun w' F4 H4 t4 hw => hf' y w u w' F4 H4 Q t4.fh ((hu.mono t3.ff t3.hh).mono t4.ff t4.hh) hw ?_
              exact ans_of (t13.trans (t4.wk fun x z => zof_r x (zof_r x z))) h
theorem r_chain {op op' : CmpOp} {r r' : R2} {f f' : D → D → Option (Bool × D)} {da db dc : LD} (ho : OpR X (compareOp op) r) (ho' : OpR X (compareOp op') r') (hf : Op2 X r f) (hf' : Op2 X r' f')
    (h1 : PE X a (tP X B C da fz W)) (h2 : PE X b (tP X B C db fy W)) (h3 : PE X c (tP X B C dc fx W)) (hm : lastMarks [op, op'] [b, c] = false) :
    PE X (.Compare a [op, op'] [b, c] pos) (tD X B C (eChain f f' da db dc) (fz ++ (fy ++ fx)) W) := (pe_chain ho ho' h1 h2 h3 hm).wk fun σ H Q h => chain_read hf hf' h
theorem t_chain {op op' : CmpOp} {r r' : R2} {f f' : D → D → Option (Bool × D)} {da db dc : LD} (ho : OpR X (compareOp op) r) (ho' : OpR X (compareOp op') r') (hf : Op2 X r f) (hf' : Op2 X r' f')
    (h1 : PE X a (tP X B C da fz W)) (h2 : PE X b (tP X B C db fy W)) (h3 : PE X c (tP X B C dc fx W)) (hm : lastMarks [op, op'] [b, c] = false) :
    PT X (.Compare a [op, op'] [b, c] pos) (DN.tB X B C (bE (eChain f f' da db dc)) W) := (pt_chain ho ho' h1 h2 h3 hm).wk fun σ H Q h => chain_read hf hf' (test_read (fz := fz ++ (fy ++ fx)) h)
end
end DN
/-! Den6: places, slices, built-in functions, fields, calls. -/
namespace DN
open PySem PySem.Spec PyProof.Rows L2
section
variable {X : Cx} {B : Bas} {C : Call} {W : WX} {F H : Hp} {e a b c : Expr} {es rest : List Expr} {fz fy fx : List Nat} {pos p2 : Pos}
/-! ### places -/
theorem ixN_at {α : Type} {xs : List α} {i : Int} {j : Nat} {x : α} (h1 : ixN xs.length i = some j) (h2 : xs[j]? = some x) : atI xs i = some x := by
  unfold atI
  rw [h1]
  exact h2
theorem ixTail {prog : Program} {w : World} {A : Around} {E : Value → Shared → Prop} {s : Shared} {value slice : Expr} {o i : Value} {T id : String} {Q : Value → Shared → Prop} (hT : s.TypeIs o T)
    (hl : typeLookup (.type T) "__getitem__" = pure (some (.builtin id))) (h : wpAny (model prog w) A (getItem o i) Q E s) (hs : subscripted slice false o i = operate [o, i] (getItem o i)) :
    wpAny (model prog w) A (subscriptTail value slice o i) Q E s := by
  unfold subscriptTail
  refine wpAny_bind ?_
  rw [getitemInPython_of_ne hT.not_modules]
  refine wpAny_bind (wpAny_specialOf hT hl ?_)
  have fin : wpAny (model prog w) A (subscripted slice false o i) (fun r s₃ => wpAny (model prog w) A (letTemporaryGo value o r >>= fun _ => pure r) Q E s₃) E s := by
    rw [hs]
    exact wpAny_operating (wpAny_mono h (fun r s₃ h₃ => wpAny_bind (wpAny_letTemporaryGo (wpAny_pure h₃))) fun _ _ x => x)
  first
    | exact wpAny_pure (wpAny_bind fin)
    | exact wpAny_bind (wpAny_pure (wpAny_bind fin))
    | exact wpAny_bind fin
def rIxDT : R2 := fun x y H Q => ∃ a v, x = .ref a ∧ DGet H a y (some v) ∧ Q v H
theorem ix_dt (hu : X.A.units + 1 < cLine) : IxR X rIxDT := by
  intro value slice pins s σ H x y v u Q I rx ry h hs
  obtain ⟨a, z, rfl, g, q⟩ := h
  obtain rfl : v = Value.ref a := rx
  exact ixTail (dict_typeIs I g) PySem.F.slot_dict_getitem.lookup (d_getItem hu I g ry fun w' s3 I3 rw' => ⟨z, H, I3, rw', q⟩) hs
def rIxA (K : PySem.W.Frag) : R2 := fun x y H Q => rIx K x y H Q ∨ rIxDT x y H Q
theorem ok_ix : Op2 X (rIxA X.K) dIx := fun x y v u F H Q s hx hy h => by
  by_cases hdic : ∃ l, x = .dic l
  · obtain ⟨l, rfl⟩ := hdic
    cases l with
    | nil => cases y <;> exact (show False from h).elim
    | cons p r =>
      have h : Ans X F H Q ((tkeyOf y).bind fun k => (getDK (p :: r) k).bind fun o => o.map fun d => (false, d)) := by cases y <;> exact h
      cases k : tkeyOf y with
      | none => simp only [k, Option.bind] at h; exact h.elim
      | some kk =>
        cases k2 : getDK (p :: r) kk with
        | none => simp only [k, k2, Option.bind] at h; exact h.elim
        | some o =>
          cases o with
          | none => simp only [k, k2, Option.bind, Option.map] at h; exact h.elim
          | some d =>
            simp only [k, k2, Option.bind, Option.map] at h
            obtain ⟨a, ov, e, g, z⟩ := top_get s hy hx k k2
            obtain ⟨w, z, hw⟩ := z
            subst z
            exact .inr ⟨a, w, e, g, h.flat s hw⟩
  refine .inl ?_
  cases x <;> cases y <;> first
    | exact (show False from h).elim
    | exact absurd ⟨_, rfl⟩ hdic
    | skip
  · rename_i z i
    have h : Ans X F H Q (if z.length ≤ LIM then match ixN z.cps.toList.length i with
      | some j => match z.cps.toList[j]? with
        | some c => some (false, .str ⟨#[c]⟩)
        | none => none
      | none => none else none) := h
    obtain ⟨hl, h⟩ := ans_ite h
    cases k : ixN z.cps.toList.length i with
    | none => rw [k] at h; exact h.elim
    | some j =>
      cases k2 : z.cps.toList[j]? with
      | none => simp only [k, k2] at h; exact h.elim
      | some c =>
        simp only [k, k2] at h
        exact .inr (.inr ⟨z, i, c, hx.str, hy.int, lim_size hl, ixN_at k k2, h.flat s rfl⟩)
  · rename_i l i
    have h : Ans X F H Q (match ixN l.length i with
      | some j => match l[j]? with
        | some d => some (false, d)
        | none => none
      | none => none) := h
    cases k : ixN l.length i with
    | none => rw [k] at h; exact h.elim
    | some j =>
      cases k2 : l[j]? with
      | none => simp only [k, k2] at h; exact h.elim
      | some d =>
        simp only [k, k2] at h
        obtain ⟨a, vs, e1, h1, r1⟩ := hx.tup s
        obtain ⟨w, e2, r2⟩ := r1.get k2
        exact .inr (.inl ⟨a, vs, i, w, e1, hy.int, h1, ixN_at (by rw [r1.len]; exact k) e2, h.flat s r2⟩)
  · rename_i l i
    have h : Ans X F H Q (match ixN l.length i with
      | some j => match l[j]? with
        | some d => some (false, d)
        | none => none
      | none => none) := h
    cases k : ixN l.length i with
    | none => rw [k] at h; exact h.elim
    | some j =>
      cases k2 : l[j]? with
      | none => simp only [k, k2] at h; exact h.elim
      | some d =>
        simp only [k, k2] at h
        obtain ⟨a, vs, e1, h1, r1⟩ := hx.lst s
        obtain ⟨w, e2, r2⟩ := r1.get k2
        exact .inl ⟨a, vs, i, w, e1, hy.int, SqL.of h1, ixN_at (by rw [r1.len]; exact k) e2, h.flat s r2⟩
  · rename_i l i
    have h : Ans X F H Q (match ixN l.length i with
      | some j => match l[j]? with
        | some d => some (false, .int d)
        | none => none
      | none => none) := h
    cases k : ixN l.length i with
    | none => rw [k] at h; exact h.elim
    | some j =>
      cases k2 : l[j]? with
      | none => simp only [k, k2] at h; exact h.elim
      | some d =>
        simp only [k, k2] at h
        obtain ⟨a, e1, h1⟩ := hx.scr s
        exact .inl ⟨a, l.map V.int, i, .int d, e1, hy.int, h1, ixN_at (by rw [List.length_map]; exact k) (by rw [List.getElem?_map, k2]; rfl), h.flat s rfl⟩
def plainIx : Expr → Bool
  | .Slice _ _ _ _ => false
  | _ => true
theorem plainIx_ok (h : plainIx b = true) : PlainIx b := fun o i => by
  cases b <;> first | rfl | cases h
theorem r_ix {da db : LD} (hu : X.A.units + 65 < cLine) (h1 : PE X a (tP X B C da fz W)) (h2 : PE X b (tP X B C db fy W)) (hp : plainIx b = true) : PE X (.Subscript a b pos) (tD X B C (e2 dIx da db) (fz ++ fy) W) :=
  (pe_ix (ix_seq.or (ix_dt (by omega))) h1 h2 (plainIx_ok hp)).wk fun σ H Q h => read2 ok_ix h
/-! ### slices -/
def tO' (X : Cx) (B : Bas) (C : Call) (e : OD) (W : WX) : TO := fun σ H Q => ∃ F s, RelW X.K X.mg B F H σ s ∧ match e C s with
  | .ok o => ∀ H', Same H H' → Q o H'
  | .ex c fs => ∀ cls dd H', Same H H' → ExAt X X.mg c fs cls dd H' → W cls dd σ H'
  | .bad => False
theorem o_none : PO X none (tO' X B C oNone W) := ⟨fun pins s σ H Q I ⟨F, t, rel, h⟩ => po_none.run pins s σ H Q I (h H (.refl _))⟩
theorem o_some {da : LD} (h1 : PE X a (tP X B C da fz W)) : PO X (some a) (tO' X B C (oSome da) W) := ⟨fun pins s σ H Q I ⟨F, t, rel, h⟩ => (po_some h1).run pins s σ H Q I (by
  refine ⟨F, t, rel, ?_⟩
  unfold oSome at h
  cases k : da C t with
  | ok x =>
    simp only [k, R.bind] at h
    refine fun v F' H' tt hv => ?_
    cases x <;> first
      | exact (show False from h).elim
      | exact ⟨_, hv.int, h H' tt.hh⟩
  | ex c fs => simp only [k, R.bind] at h; exact h
  | bad => simp only [k, R.bind] at h)⟩
theorem RpL.cut {vs : List V} {l : List D} {lo hi : Option Int} {mg : Str → Option Value} {K : PySem.W.Frag} (r : RpL K mg F vs l) : RpL K mg F (cutV vs lo hi) (cutD l lo hi) := by
  unfold cutV cutD
  rw [r.len]
  exact RpL.take _ (RpL.drop _ r)
def rCutD (K : PySem.W.Frag) : V → Option Int → Option Int → Hp → VK → Prop := fun x lo hi H Q => (rSlL K x lo hi H Q ∨ rSlA K x lo hi H Q) ∨ rSlS x lo hi H Q
theorem sl_D : SlR X (rCutD X.K) := (sl_list.or sl_tupA).or sl_str
theorem cutV_all {α : Type} {xs : List α} {i j : Nat} (h1 : i = 0) (h2 : j = xs.length) : (xs.drop i).take (j - i) = xs := by
  subst h1 h2
  simp
theorem ok_cut {x : D} {v : V} {lo hi : Option Int} {Q : VK} (s : Same F H) (hx : Top X.K X.mg F H v x) (h : Ans X F H Q (dCut x lo hi)) : rCutD X.K v lo hi H Q := by
  cases x <;> first
    | exact (show False from h).elim
    | skip
  · obtain ⟨hl, h⟩ := ans_ite (show Ans X F H Q (if _ then _ else _) from h)
    exact .inr ⟨_, hx.str, lim_size hl, h.flat s rfl⟩
  · rename_i l
    have hx0 := hx
    obtain ⟨a, vs, e1, h1, r1⟩ := hx.tup s
    refine .inl (.inr ⟨a, vs, e1, h1, fun z => ?_, fun _ => Ans.tup s h r1.cut⟩)
    have e2 : cutD l lo hi = l := by
      unfold cutD
      rw [← r1.len] 
      exact cutV_all z.1 (by rw [z.2, r1.len])
    have h : Ans X F H Q (some (false, .tup (cutD l lo hi))) := h
    rw [e2] at h
    subst e1
    rcases hx0 with hx | ⟨_, _, hx⟩
    · exact h.flat s hx
    · exact hx.elim
  · obtain ⟨a, vs, e1, h1, r1⟩ := hx.lst s
    exact .inl (.inl ⟨a, vs, e1, SqL.of h1, Ans.lst s h r1.cut⟩)
theorem r_cut {da : LD} {dl dh : OD} {lo hi : Option Expr} (h1 : PE X a (tP X B C da fz W)) (h2 : PO X lo (tO' X B C dl W)) (h3 : PO X hi (tO' X B C dh W)) :
    PE X (.Subscript a (.Slice lo hi none p2) pos) (tD X B C (eCut da dl dh) fz W) := (pe_slice sl_D h1 h2 h3).wk fun σ H Q ⟨F, s, rel, h⟩ => by
  refine ⟨F, s, rel, ?_⟩
  unfold eCut at h
  cases k : da C s with
  | bad => simp only [k, R.bind] at h
  | ex c fs => simp only [k, R.bind] at h; exact h
  | ok x =>
    simp only [k, R.bind] at h
    refine fun v F1 H1 t1 hv => ⟨F1, s, rel.step t1, ?_⟩
    cases k2 : dl C s with
    | bad => simp only [k2] at h
    | ex c fs => simp only [k2] at h; exact fun cls dd H' t => h cls dd H' (t1.hh.trans t)
    | ok l =>
      simp only [k2] at h
      refine fun H2 s2 => ⟨F1, s, (rel.step t1).same s2, ?_⟩
      cases k3 : dh C s with
      | bad => simp only [k3] at h
      | ex c fs => simp only [k3] at h; exact fun cls dd H' t => h cls dd H' ((t1.hh.trans s2).trans t)
      | ok u =>
        simp only [k3] at h
        refine fun H3 s3 => ?_
        have t3 : Stp (Zof fz σ s) F1 H1 F1 H3 := ⟨.refl _, s2.trans s3, (t1.fh.trans s2).trans s3, fun _ _ h => .inl h⟩
        exact ok_cut t3.fh (hv.mono (.refl _) (s2.trans s3)) (ans_of (t1.trans t3) h)
/-- a[::-1] -/
theorem r_revL {da : LD} {k0 : Nat} {q1 q2 q3 : Pos} (h1 : PE X a (tP X B C da fz W)) : PE X (.Subscript a (.Slice none none (some (.UnaryOp .USub (.Constant (.int 1) k0 q1) q2)) q3) pos) (tD X B C (e1 dRevL da) fz W) := (pe_revL h1).wk fun σ H Q ⟨F, s, rel, h⟩ => by
  refine ⟨F, s, rel, ?_⟩
  unfold e1 at h
  cases k : da C s with
  | bad => simp only [k, R.bind] at h
  | ex c fs => simp only [k, R.bind] at h; exact h
  | ok x =>
    simp only [k, R.bind] at h
    refine fun v F1 H1 t1 hv => ?_
    have h := ans_of t1 h
    cases x <;> first
      | exact (show False from h).elim
      | skip
    obtain ⟨b, vs, rfl, g1, r1⟩ := hv.lst t1.fh
    exact ⟨b, vs, rfl, SqL.of g1, Ans.lst t1.fh h r1.reverse⟩
/-! ### built-in functions -/
theorem r_builtin {id : String} {x : Str} {r : List V → Hp → VK → Prop} {f : List D → Option (Bool × D)} {da : AD} {p : Pos} (hc : CallR X (.builtin id) r) (hf : OpA X r f) (hg : Gl X x) (hm : X.mg x = none) (hv : bootBuiltins x = some (.builtin id))
    (ha : PA X (e :: es) (tQ X B C da fz W)) (hn : x ≠ "__name__") (hdb : (x == ("__debug__" : Str)) = false) (hs : (e :: es).all notStar = true) : PE X (.Call (.Name x p) (e :: es) [] pos) (tD X B C (eA f da) fz W) := by
  rw [List.all_cons, Bool.and_eq_true] at hs
  exact (pe_callB hc hg hm hv ha hn hdb (star_cons hs.1) (star_none hs.2)).wk fun σ H Q h => readA hf h
theorem r_type {id : String} {x : Str} {r : List V → Hp → VK → Prop} {f : List D → Option (Bool × D)} {da : AD} {p : Pos} (hc : CallR X (.type id) r) (hf : OpA X r f) (hg : Gl X x) (hm : X.mg x = none) (hv : bootBuiltins x = some (.type id))
    (ha : PA X (e :: es) (tQ X B C da fz W)) (hn : x ≠ "__name__") (hdb : (x == ("__debug__" : Str)) = false) (hs : (e :: es).all notStar = true) : PE X (.Call (.Name x p) (e :: es) [] pos) (tD X B C (eA f da) fz W) := by
  rw [List.all_cons, Bool.and_eq_true] at hs
  exact (pe_callTy hc hg hm hv ha hn hdb (star_cons hs.1) (star_none hs.2)).wk fun σ H Q h => readA hf h
theorem topL1 {vs : List V} {d : D} (h : TopL X F H vs [d]) : ∃ v, vs = [v] ∧ Top X.K X.mg F H v d := by
  match vs, h with
  | [v], h => exact ⟨v, rfl, h.1⟩
theorem topL2 {vs : List V} {d d' : D} (h : TopL X F H vs [d, d']) : ∃ v u, vs = [v, u] ∧ Top X.K X.mg F H v d ∧ Top X.K X.mg F H u d' := by
  match vs, h with
  | [v, u], h => exact ⟨v, u, rfl, h.1, h.2.1⟩
def rLenD (K : PySem.W.Frag) : List V → Hp → VK → Prop := fun xs H Q => (fun xs H Q => ∃ p ys, xs = [.ref p] ∧ (SqL K H p ys ∨ SqT K H p ys) ∧ Q (.int ys.length) H : List V → Hp → VK → Prop) xs H Q ∨
  (fun xs H Q => ∃ z, xs = [.str z] ∧ z.length ≤ sizeLine ∧ Q (.int z.length) H : List V → Hp → VK → Prop) xs H Q
theorem call_lenD : CallR X (.builtin "len") (rLenD X.K) := call_len_seq.or call_len_str
theorem ok_len : OpA X (rLenD X.K) kLen := fun xs vs F H Q s hx h => by
  match xs, h with
  | [.lst l], h =>
    obtain ⟨v, rfl, hv⟩ := topL1 hx
    obtain ⟨a, ws, rfl, h1, r1⟩ := hv.lst s
    exact .inl ⟨a, ws, rfl, .inl (SqL.of h1), by rw [r1.len]; exact Ans.flat s h rfl⟩
  | [.tup l], h =>
    obtain ⟨v, rfl, hv⟩ := topL1 hx
    obtain ⟨a, ws, rfl, h1, r1⟩ := hv.tup s
    exact .inl ⟨a, ws, rfl, .inr h1, by rw [r1.len]; exact Ans.flat s h rfl⟩
  | [.ft l], h =>
    obtain ⟨v, rfl, hv⟩ := topL1 hx
    obtain ⟨a, ws, rfl, h1, r1⟩ := hv.ft s
    exact .inl ⟨a, ws, rfl, .inr h1, by rw [r1.len]; exact Ans.flat s h rfl⟩
  | [.scr l], h =>
    obtain ⟨v, rfl, hv⟩ := topL1 hx
    obtain ⟨a, rfl, h1⟩ := hv.scr s
    exact .inl ⟨a, _, rfl, .inl h1, by rw [List.length_map]; exact Ans.flat s h rfl⟩
  | [.str z], h =>
    obtain ⟨v, rfl, hv⟩ := topL1 hx
    obtain ⟨hl, h⟩ := ans_ite (show Ans X F H Q (if _ then _ else _) from h)
    exact .inr ⟨z, by rw [hv.str], lim_size hl, Ans.flat s h rfl⟩
theorem ok_int : OpA X (fun xs H Q => (∃ i, xs = [.int i] ∧ Q (.int i) H) ∨ ∃ k, xs = [.bl k] ∧ Q (.int (if k then 1 else 0)) H) kInt := fun xs vs F H Q s hx h => by
  match xs, h with
  | [.int i], h =>
    obtain ⟨v, rfl, hv⟩ := topL1 hx
    exact .inl ⟨i, by rw [hv.int], Ans.flat s h rfl⟩
  | [.bl k], h =>
    obtain ⟨v, rfl, hv⟩ := topL1 hx
    exact .inr ⟨k, by rw [hv.bl], Ans.flat s h rfl⟩
theorem ok_abs : OpA X (fun xs H Q => ∃ i, xs = [.int i] ∧ Q (.int (if i < 0 then -i else i)) H) kAbs := fun xs vs F H Q s hx h => by
  match xs, h with
  | [.int i], h =>
    obtain ⟨v, rfl, hv⟩ := topL1 hx
    exact ⟨i, by rw [hv.int], Ans.flat s h rfl⟩
theorem ok_max : OpA X (fun xs H Q => ∃ i j, xs = [.int i, .int j] ∧ Q (.int (if j > i then j else i)) H) kMax := fun xs vs F H Q s hx h => by
  match xs, h with
  | [.int i, .int j], h =>
    obtain ⟨v, u, rfl, hv, hu⟩ := topL2 hx
    exact ⟨i, j, by rw [hv.int, hu.int], Ans.flat s h rfl⟩
theorem ok_min : OpA X (fun xs H Q => ∃ i j, xs = [.int i, .int j] ∧ Q (.int (if j < i then j else i)) H) kMin := fun xs vs F H Q s hx h => by
  match xs, h with
  | [.int i, .int j], h =>
    obtain ⟨v, u, rfl, hv, hu⟩ := topL2 hx
    exact ⟨i, j, by rw [hv.int, hu.int], Ans.flat s h rfl⟩
theorem rp_ints : ∀ {l : List Int}, RpL X.K X.mg F (l.map V.int) (l.map D.int)
  | [] => rfl
  | i :: r => RpL.cons (show V.int i = V.int i from rfl) rp_ints
theorem cr_range1 : CallR X (.type "range") (fun vs H Q => ∃ j, vs = [V.int j] ∧ ∀ p, H p = none → Q (.ref p) (upd H p (.rng 0 j))) := by
  intro pins s σ H vs us Q I r h
  obtain ⟨j, rfl, q⟩ := h
  obtain ⟨u, rfl, rx⟩ := vals1 r
  obtain ⟨t, rfl⟩ := rx
  refine call_range_1 ⟨.ref s.heap.objs.size, upd H s.heap.objs.size (.rng 0 j), I.laid (t' := s.toks + 1 + 1) (fun b o e => Heap.get?_push_of_some _ e) (Nat.le_refl _) ?_, rfl, q _ (I.hok.fresh (Nat.le_refl _))⟩
  exact ⟨s.toks, t, s.toks + 1, Heap.get?_push_size _ rfl⟩
theorem ok_rng : OpA X (fun vs H Q => ∃ j, vs = [V.int j] ∧ ∀ p, H p = none → Q (.ref p) (upd H p (.rng 0 j))) kRng := fun xs vs F H Q s hx h => by
  match xs, h with
  | [.int j], h =>
    obtain ⟨v, rfl, hv⟩ := topL1 hx
    obtain ⟨hl, h⟩ := ans_ite (show Ans X F H Q (if _ then _ else _) from h)
    exact ⟨j, by rw [hv.int], h.new s fun p hp => ⟨p, rfl, upd_same⟩⟩
theorem cr_listR (hc : X.calm = true) : CallR X (.type "list") (fun xs H Q => ∃ p j, xs = [.ref p] ∧ H p = some (.rng 0 j) ∧ RgOk 0 j ∧ ∀ l, H l = none → Q (.ref l) (upd H l (.lst (rgV 0 j)))) := by
  intro pins s σ H xs us Q I r h
  obtain ⟨p, j, rfl, hp, ⟨b1, b2, b3, b4, b5⟩, q⟩ := h
  obtain ⟨u, rfl, rx⟩ := vals1 r
  cases rx
  obtain ⟨t, u, v, hr⟩ := (show ObjOk X.prog X.w H s.heap p (.rng 0 j) from I.hok p _ hp)
  refine call_list_range (n := (j - 0).toNat) (I.ok.hd hc) hr (small_one b1 b2 b3 b4) (rangeSize_nat 0 j) b5 fun h' tk acc c' hk e' hi => ?_
  refine ⟨.ref s.heap.objs.size, upd H s.heap.objs.size (.lst (rgV 0 j)), I.laid hk (Nat.le_refl _) (show ObjOk X.prog X.w _ _ _ (.lst (rgV 0 j)) from ⟨?_, acc.toList, c', vals_rg hi, ?_⟩), rfl, q _ (I.hok.fresh (Nat.le_refl _))⟩
  · rw [rgV_length, sizeLine_eq]; omega
  · rw [Array.toArray_toList]; exact e'
theorem rgV_rp {j : Int} : RpL X.K X.mg F (rgV 0 j) ((List.range j.toNat).map fun (i : Nat) => D.int (i : Int)) := by
  have e : (j - 0).toNat = j.toNat := by omega
  unfold rgV
  rw [e]
  generalize List.range j.toNat = l
  induction l with
  | nil => exact rfl
  | cons a r ih =>
    refine RpL.cons ?_ ih
    show V.int (0 + (a : Int)) = V.int (a : Int)
    rw [Int.zero_add]
theorem ok_list : OpA X (fun xs H Q => (fun xs H Q => ∃ p ys, xs = [.ref p] ∧ (SqL X.K H p ys ∨ SqT X.K H p ys) ∧ ∀ l, H l = none → Q (.ref l) (upd H l (.lst ys)) : List V → Hp → VK → Prop) xs H Q ∨
    (fun xs H Q => ∃ p j, xs = [.ref p] ∧ H p = some (.rng 0 j) ∧ RgOk 0 j ∧ ∀ l, H l = none → Q (.ref l) (upd H l (.lst (rgV 0 j))) : List V → Hp → VK → Prop) xs H Q) kList := fun xs vs F H Q s hx h => by
  match xs, h with
  | [.lst l], h =>
    obtain ⟨v, rfl, hv⟩ := topL1 hx
    obtain ⟨a, ws, rfl, h1, r1⟩ := hv.lst s
    exact .inl ⟨a, ws, rfl, .inl (SqL.of h1), Ans.lst s h r1⟩
  | [.tup l], h =>
    obtain ⟨v, rfl, hv⟩ := topL1 hx
    obtain ⟨a, ws, rfl, h1, r1⟩ := hv.tup s
    exact .inl ⟨a, ws, rfl, .inr h1, Ans.lst s h r1⟩
  | [.ft l], h =>
    obtain ⟨v, rfl, hv⟩ := topL1 hx
    obtain ⟨a, ws, rfl, h1, r1⟩ := hv.ft s
    exact .inl ⟨a, ws, rfl, .inr h1, Ans.lst s h r1⟩
  | [.scr l], h =>
    obtain ⟨v, rfl, hv⟩ := topL1 hx
    obtain ⟨a, rfl, h1⟩ := hv.scr s
    exact .inl ⟨a, _, rfl, .inl h1, Ans.lst s h rp_ints⟩
  | [.rng j], h =>
    obtain ⟨v, rfl, hv⟩ := topL1 hx
    obtain ⟨a, rfl, h1⟩ := hv.rng s
    obtain ⟨hl, h⟩ := ans_ite (show Ans X F H Q (if _ then _ else _) from h)
    exact .inr ⟨a, j, rfl, h1, ⟨by omega, by omega, by omega, by omega, by omega⟩, Ans.lst s h rgV_rp⟩
theorem ok_tuple : OpA X (fun xs H Q => ∃ p ys, xs = [.ref p] ∧ ((SqL X.K H p ys ∧ ∀ l, H l = none → Q (.ref l) (upd H l (.tup ys))) ∨ (SqT X.K H p ys ∧ Q (.ref p) H))) kTuple := fun xs vs F H Q s hx h => by
  match xs, h with
  | [.lst l], h =>
    obtain ⟨v, rfl, hv⟩ := topL1 hx
    obtain ⟨a, ws, rfl, h1, r1⟩ := hv.lst s
    exact ⟨a, ws, rfl, .inl ⟨SqL.of h1, Ans.tup s h r1⟩⟩
  | [.tup l], h =>
    obtain ⟨v, rfl, hv⟩ := topL1 hx
    have hv0 := hv
    obtain ⟨a, ws, rfl, h1, r1⟩ := hv.tup s
    rcases hv0 with hv | ⟨_, _, hv⟩
    · exact ⟨a, ws, rfl, .inr ⟨h1, Ans.flat s h hv⟩⟩
    · exact hv.elim
  | [.ft l], h =>
    obtain ⟨v, rfl, hv⟩ := topL1 hx
    have hv0 := hv
    obtain ⟨a, ws, rfl, h1, r1⟩ := hv.ft s
    rcases hv0 with hv | ⟨_, _, hv⟩
    · exact ⟨a, ws, rfl, .inr ⟨h1, Ans.flat s h hv⟩⟩
    · exact hv.elim
theorem ints_map : ∀ {l : List D} {ns : List Int}, D.ints l = some ns → l = ns.map D.int
  | [], ns, e => by cases e; rfl
  | .int i :: r, ns, e => by
    unfold D.ints at e
    cases k : D.ints r with
    | none => rw [k] at e; cases e
    | some q => rw [k] at e; cases e; rw [ints_map k]; rfl
  | .non :: _, _, e => by simp [D.ints] at e
  | .bl _ :: _, _, e => by simp [D.ints] at e
  | .str _ :: _, _, e => by simp [D.ints] at e
  | .tup _ :: _, _, e => by simp [D.ints] at e
  | .lst _ :: _, _, e => by simp [D.ints] at e
  | .scr _ :: _, _, e => by simp [D.ints] at e
  | .dic _ :: _, _, e => by simp [D.ints] at e
  | .obj _ _ :: _, _, e => by simp [D.ints] at e
  | .cls _ :: _, _, e => by simp [D.ints] at e
  | .ft _ :: _, _, e => by simp [D.ints] at e
  | .rng _ :: _, _, e => by simp [D.ints] at e
theorem rp_ints_eq : ∀ {l : List Int} {vs : List V}, RpL X.K X.mg F vs (l.map D.int) → vs = l.map V.int
  | [], _, h => h
  | i :: r, _, h => by
    obtain ⟨v, t, rfl, e1, e2⟩ := h
    rw [show v = V.int i from e1, rp_ints_eq e2]
    rfl
/-! ### fields -/
/-- the expression super() -/
def notSuper : Expr → Bool
  | .Call (.Name _ _) [] [] _ => false
  | _ => true
theorem super_ok {f : Str} {env : Env} (h : notSuper e = true) : attributeBase e f env (eval e env) = eval e env := by
  cases e <;> first
    | rfl
    | (rename_i g es kws p
       cases g <;> first
         | rfl
         | (cases es <;> first
             | rfl
             | (cases kws <;> first
                 | rfl
                 | cases h)))
/-- class c is plain, and f is none of its names -/
structure FldOk (X : Cx) (c f : Str) : Prop where
  ok : ∀ Ca, X.mg c = some (.ref Ca) → Cls X.K Ca ∧ NoAttr X.K Ca f
theorem r_fld {f : Str} {t : Str → Bool} {da : LD} (h1 : PE X a (tP X B C da fz W)) (hs : notSuper a = true) (hf : ∀ c, t c = true → FldOk X c f) : PE X (.Attribute a f pos) (tD X B C (eFld f t da) fz W) :=
  (pe_fld h1 (super_ok hs)).wk fun σ H Q ⟨F, s, rel, h⟩ => by
  refine ⟨F, s, rel, ?_⟩
  unfold eFld e1 at h
  cases k : da C s with
  | bad => simp only [k, R.bind] at h
  | ex c fs => simp only [k, R.bind] at h; exact h
  | ok x =>
    simp only [k, R.bind] at h
    refine fun v F1 H1 t1 hv => ?_
    cases x <;> first
      | exact (show False from h).elim
      | skip
    rename_i c fs
    by_cases hc0 : t c = true
    · cases k2 : fs.lookup f with
      | none => simp only [dFld, hc0, if_true, k2, ofO] at h
      | some d =>
        simp only [dFld, hc0, if_true, k2, ofO] at h
        obtain ⟨Ca, C', dx, vfs, e1, hc, hH, r⟩ := hv.obj t1.fh
        obtain ⟨w, e2, r2⟩ := r.look k2
        obtain ⟨c1, c2⟩ := (hf c hc0).ok C' hc
        exact ⟨Ca, C', dx, vfs, w, e1, hH, c1, c2, e2, h w F1 H1 t1 r2⟩
    · simp only [dFld, hc0, Bool.false_eq_true, if_false, ofO] at h
end
end DN
/-! Den7: calls. -/
namespace DN
open PySem PySem.Spec PyProof.Rows L2
/-- what a def promises: at the trees ds what F says of them -/
def spD (K : PySem.W.Frag) (mg : Str → Option Value) (n : Nat) (F : List D → R (Bool × D)) : Sp := fun vs H Q E => vs.length = n ∧ ∃ Fz ds, Same Fz H ∧ RpL K mg Fz vs ds ∧ match F ds with
  | .ok (b, d) => ∀ v F' H', Stp Z0 Fz H F' H' → VresK K mg H F' H' b v d → Q v H'
  | .ex c fs => ∀ cls dd H', Same H H' → ExAtK K mg c fs cls dd H' → E cls dd H'
  | .bad => False
/-- __init__ of class c: the first argument is the new instance, at a -/
def spI (K : PySem.W.Frag) (mg : Str → Option Value) (c : Str) (n : Nat) (F : List D → R (Bool × D)) : Sp := fun vs H Q E => vs.length = n + 1 ∧ ∃ a Ca dx ws H0 Fz ds, vs = .ref a :: ws ∧ mg c = some (.ref Ca) ∧
  H a = some (.ins Ca dx []) ∧ H0 a = none ∧ Same H0 H ∧ Same Fz H0 ∧ RpL K mg Fz ws ds ∧ match F ds with
  | .ok (true, d) => ∀ F' H', Stp Z0 Fz H0 F' H' → F' a = none → Own K mg F' H' a d → Q .non H'
  | .ok (false, d) => False
  | .ex c fs => ∀ cls dd H', Same H0 H' → ExAtK K mg c fs cls dd H' → E cls dd H'
  | .bad => False
section
variable (X : Cx) (C : Call) (k : Nat)
/-- a def, called with n arguments, the defaults dfs behind them -/
structure FnAt (key : Fn) (f : Addr) (n : Nat) (dfs : List D) : Prop where
  kp : PySem.W.keepIn X.K (.ref f) = true
  ok : ∃ fd ps, FnOk X.prog X.w X.K X.mg X.base (L2.CX X.prog X.w) k f fd ps (spD X.K X.mg ps.length (C key)) ∧ n + dfs.length = ps.length ∧ ∃ dvs ds, Vals dvs ds ∧ Binds X.K fd ps ds ∧ ds.length = dfs.length ∧ ∀ F, RpL X.K X.mg F dvs dfs
structure MethAt (c m : Str) (n : Nat) (dfs : List D) : Prop where
  ok : ∀ Ca, X.mg c = some (.ref Ca) → ∃ f, Cls X.K Ca ∧ Meth X.K Ca m f ∧ FnAt X C k (c, some m) f (n + 1) dfs
structure MakeAt (c : Str) (n : Nat) (dfs : List D) : Prop where
  ok : ∀ Ca, X.mg c = some (.ref Ca) → ∃ f, Mk X.K Ca f ∧ ∃ fd ps, FnOk X.prog X.w X.K X.mg X.base (L2.CX X.prog X.w) k f fd ps (spI X.K X.mg c (n + dfs.length) (C (c, some "__init__"))) ∧ n + dfs.length + 1 = ps.length ∧
    ∃ dvs ds, Vals dvs ds ∧ Binds X.K fd ps ds ∧ ds.length = dfs.length ∧ ∀ F, RpL X.K X.mg F dvs dfs
structure PropAt (c m : Str) : Prop where
  ok : ∀ Ca, X.mg c = some (.ref Ca) → ∃ p f, Cls X.K Ca ∧ PropOf X.K Ca m p f ∧ ∃ fd ps, FnOk X.prog X.w X.K X.mg X.base (L2.CX X.prog X.w) k f fd ps (spD X.K X.mg ps.length (C (c, some m))) ∧ 1 = ps.length ∧ Binds X.K fd ps []
end
section
variable {X : Cx} {B : Bas} {C : Call} {W : WX} {e o : Expr} {es : List Expr} {fz fy : List Nat} {pos p apos : Pos} {k : Nat} {f : Addr} {x m : Str} {n : Nat} {dfs : List D}
theorem run_at {fd : FuncData} {ps : List Str} {sp : Sp} {dvs vs : List V} {ds us : List Value} {E : XK} {pins : List (Addr × Obj)} {σ : L2.St} {H : Hp} {s : Shared} {Q : VK} (F : FnOk X.prog X.w X.K X.mg X.base (L2.CX X.prog X.w) k f fd ps sp) (hr : Room k X.A)
    (hb : Binds X.K fd ps ds) (hd : Vals dvs ds) (hx : PassesAt (L2.CX X.prog X.w) X σ E) (I : Inv X pins σ H s) (r : Vals vs us) (h : sp (vs ++ dvs) H Q E) : wpAny (model X.prog X.w) X.A (call (.ref f) us) (EP X pins σ Q) X.xe s := by
  have rr : Vals (vs ++ dvs) (us ++ ds) := r.append hd
  have hl : (us ++ ds).length = ps.length := rr.length.symm.trans (F.len _ _ _ _ h)
  refine wpAny_call (codeAny_mono (F.run X.A X.stack s H ⟨us, []⟩ _ _ Q E hr I.env0 (hb s us I.kIn hl) rr h) fun res s' hq => ?_)
  match res, hq with
  | .error e, hq => exact hx pins H s e s' I hq
  | .ok (.ret u), hq => exact I.after hq
  | .ok .next, hq => exact hq.elim
  | .ok .brk, hq => exact hq.elim
  | .ok .cont, hq => exact hq.elim
/-- from what an expression is to yield to what the def is asked -/
theorem ask_fn {key : Fn} {σ : L2.St} {s : SE} {F H F1 H1 : Hp} {Q : VK} {vs dvs : List V} {ds : List D} {N : Nat} (hn : n + dfs.length = N) (hl : ds.length = n) (t : Stp (Zof fz σ s) F H F1 H1) (hv : RpL X.K X.mg F1 vs ds) (hd : ∀ F, RpL X.K X.mg F dvs dfs)
    (h : match C key (ds ++ dfs) with
      | .ok (b, d) => ∀ v F' H', Stp (Zof fz σ s) F H F' H' → Vres X H F' H' b v d → Q v H'
      | .ex c fs => ∀ cls dd H', Same H H' → ExAt X X.mg c fs cls dd H' → W cls dd σ H'
      | .bad => False) : spD X.K X.mg N (C key) (vs ++ dvs) H1 Q (WE W σ) := by
  refine ⟨by rw [List.length_append, hv.len, (hd F1).len, hl]; exact hn, F1, ds ++ dfs, t.fh, hv.append (hd F1), ?_⟩
  cases q : C key (ds ++ dfs) with
  | ok r =>
    obtain ⟨b, d⟩ := r
    rw [q] at h
    exact fun v F' H' t' hv => h v F' H' (t.trans t'.of0) (Vres.back (X := X) t.hh hv)
  | ex c fs =>
    rw [q] at h
    exact fun cls dd H' t' hx => h cls dd H' (t.hh.trans t') hx
  | bad => rw [q] at h; exact h
theorem call_read {key : Fn} {da : AD} {dvs : List V} {N : Nat} (hn : n + dfs.length = N) (hl : ∀ s ds, da C s = .ok ds → ds.length = n) (hd : ∀ F, RpL X.K X.mg F dvs dfs) {σ : L2.St} {H : Hp} {Q : VK} (h : tD X B C (eCall key (aDef da dfs)) fz W σ H Q) :
    tA X B C da fz W σ H fun vs H1 => spD X.K X.mg N (C key) (vs ++ dvs) H1 Q (WE W σ) := by
  obtain ⟨F, s, rel, h⟩ := h
  refine ⟨F, s, rel, ?_⟩
  unfold eCall aDef at h
  cases q : da C s with
  | bad => simp only [q, R.map, R.bind] at h
  | ex c fs => simp only [q, R.map, R.bind] at h; exact h
  | ok ds =>
    simp only [q, R.map, R.bind] at h
    exact fun vs F1 H1 t hv => ask_fn hn (hl s ds q) t hv hd h
theorem r_call {da : AD} (Fa : FnAt X C k (x, none) f n dfs) (hr : Room k X.A) (tk : Takes X W) (hg : Gl X x) (hm : X.mg x = some (.ref f)) (ha : PA X (e :: es) (tA X B C da fz W)) (hl : ∀ s ds, da C s = .ok ds → ds.length = n)
    (hs : (e :: es).all notStar = true) (hdb : (x == ("__debug__" : Str)) = false) : PE X (.Call (.Name x p) (e :: es) [] pos) (tD X B C (eCall (x, none) (aDef da dfs)) fz W) := by
  obtain ⟨kp, fd, ps, F, hn, dvs, ds, hd, hb, hdl, hD⟩ := Fa
  rw [List.all_cons, Bool.and_eq_true] at hs
  refine ⟨fun pins s σ H Q I h => ?_⟩
  refine wpAny_Call_Name_kw (ld_glob I hg hm ?_ hdb)
  refine PySem.W.callWith_K (h₀ := X.base) I.ok.mod.kin kp (thn (ha.run pos pins s σ H _ I (call_read hn hl hD h)) fun us s1 ⟨vs, H1, I1, r, q⟩ => ⟨I1.kIn, ?_⟩) (star_cons hs.1) (star_none hs.2)
  exact run_at F hr hb hd (passAt tk σ) I1 r q
theorem r_call0 (Fa : FnAt X C k (x, none) f 0 dfs) (hr : Room k X.A) (tk : Takes X W) (hg : Gl X x) (hm : X.mg x = some (.ref f)) (hdb : (x == ("__debug__" : Str)) = false) :
    PE X (.Call (.Name x p) [] [] pos) (tD X B C (eCall (x, none) (aDef aNil dfs)) fz W) := by
  obtain ⟨kp, fd, ps, F, hn, dvs, ds, hd, hb, hdl, hD⟩ := Fa
  refine ⟨fun pins s σ H Q I ⟨F', t, rel, h⟩ => ?_⟩
  refine wpAny_Call_Name_kw (ld_glob I hg hm ?_ hdb)
  refine PySem.W.callWith_K0 I.kIn kp (run_at (us := []) (vs := []) F hr hb hd (passAt tk σ) I .nil ?_)
  exact ask_fn (ds := []) hn rfl (Stp.refl (Z := Zof fz σ t) rel.fh) rfl hD h
/-! ### methods -/
theorem meth_form {env : Env} (hs : notSuper o = true) (hst : es.all notStar = true) (hn : es.length < 30) (hp : apos.endLine = pos.line) : eval (.Call (.Attribute o m apos) es [] pos) env = (do
      let ov ← eval o env
      standAt apos.atName
      let (f, first) ← holding [ov] (getMethod ov m (do return (← importBound o env).getD true))
      callWith pos f first (backTo pos (starEach es env)) (backToKw pos (keywordEach [] env))) := by
  have e1 : eval (.Call (.Attribute o m apos) es [] pos) env = (do
      let ov ← attributeBase o m env (eval o env)
      standAt apos.atName
      methodCall o m apos pos env ov (es.length + 0) (backTo pos (starEach es env)) (backToKw pos (keywordEach [] env))) := by rfl
  rw [e1, super_ok hs]
  have hall : ∀ {l : List Expr}, l.all notStar = true → (backTo pos (starEach l env)).all (!·.1) = true := by
    intro l
    induction l with
    | nil => intro _; rfl
    | cons a r ih =>
      intro h
      rw [List.all_cons, Bool.and_eq_true] at h
      rw [star_cons h.1]
      show (!false && (backTo pos (starEach r env)).all (!·.1)) = true
      rw [ih h.2]
      rfl
  have hf : methodCallForm (es.length + 0) (backTo pos (starEach es env)) (backToKw pos (keywordEach [] env)) = true := by
    unfold methodCallForm
    rw [hall hst]
    show (true && true && decide (es.length + 0 + 0 < 30)) = true
    rw [decide_eq_true (by omega)]
    rfl
  have hm : ∀ ov, methodCall o m apos pos env ov (es.length + 0) (backTo pos (starEach es env)) (backToKw pos (keywordEach [] env)) = (do
      let (f, first) ← holding [ov] (getMethod ov m (do return (← importBound o env).getD true))
      callWith pos f first (backTo pos (starEach es env)) (backToKw pos (keywordEach [] env))) := fun ov => by
    unfold methodCall methodCallPos calleeOf
    rw [hf]
    have hb : (apos.endLine == pos.line) = true := beq_iff_eq.mpr hp
    rw [hb]
    rfl
  simp only [hm]
theorem meth_read {da : AD} {dO : LD} {dfs : Str → Option (List D)} (hM : ∀ c dd, dfs c = some dd → MethAt X C k c m n dd) (hl : ∀ s ds, da C s = .ok ds → ds.length = n) {σ : L2.St} {H : Hp} {Q : VK}
    (h : tD X B C (eMeth m dO da dfs) (fz ++ fy) W σ H Q) : tF X B C dO fz W σ H fun x H1 => ∃ a Ca dx fs f kk fd ps dvs ds, x = .ref a ∧ H1 a = some (.ins Ca dx fs) ∧ fs.lookup m = none ∧ Cls X.K Ca ∧ Meth X.K Ca m f ∧
      FnOk X.prog X.w X.K X.mg X.base (L2.CX X.prog X.w) k f fd ps (spD X.K X.mg ps.length kk) ∧ Vals dvs ds ∧ Binds X.K fd ps ds ∧ tA X B C da fy W σ H1 fun vs H2 => spD X.K X.mg ps.length kk (.ref a :: vs ++ dvs) H2 Q (WE W σ) := by
  obtain ⟨F, s, rel, h⟩ := h
  refine ⟨F, s, rel, ?_⟩
  unfold eMeth at h
  cases q : dO C s with
  | bad => simp only [q, R.bind] at h
  | ex c fs => simp only [q, R.bind] at h; exact h
  | ok x =>
    simp only [q, R.bind] at h
    refine fun v F1 H1 t hv => ?_
    cases x <;> first
      | exact (show False from h).elim
      | skip
    rename_i c fs
    have hv0 := hv
    obtain ⟨a, Ca, dx, vfs, rfl, hc, hF, r⟩ := hv
    cases q2 : fs.lookup m with
    | some z => simp [q2] at h
    | none =>
      simp only [q2, Option.isSome_none, Bool.false_eq_true, if_false] at h
      cases q9 : dfs c with
      | none => simp only [q9] at h
      | some dd =>
      simp only [q9] at h
      obtain ⟨f, c1, c2, kp, fd, ps, Fo, hn, dvs, ds, hd, hb, hdl, hD⟩ := (hM c dd q9).ok Ca hc
      refine ⟨a, Ca, dx, vfs, f, _, fd, ps, dvs, ds, rfl, t.fh _ _ hF, r.none q2, c1, c2, Fo, hd, hb, F1, s, rel.step t, ?_⟩
      cases q3 : da C s with
      | bad => simp only [q3] at h
      | ex c' fs' => simp only [q3] at h; exact fun cls dd H' t' hx => h cls dd H' (t.hh.trans t') hx
      | ok ys =>
        simp only [q3] at h
        refine fun vs F2 H2 t2 hvs => ?_
        refine ask_fn (W := W) (fz := fz ++ fy) (σ := σ) (s := s) (F := F) (H := H) (ds := .obj c fs :: ys) hn (by rw [List.length_cons, hl s ys q3]) ((t.wk zof_l).trans (t2.wk zof_r)) (RpL.cons (hv0.mono t2.ff) hvs) hD ?_
        exact h
theorem r_meth {da : AD} {dO : LD} {dfs : Str → Option (List D)} (hM : ∀ c dd, dfs c = some dd → MethAt X C k c m n dd) (hr : Room k X.A) (tk : Takes X W) (ho : PE X o (tF X B C dO fz W)) (ha : PA X (e :: es) (tA X B C da fy W))
    (hl : ∀ s ds, da C s = .ok ds → ds.length = n) (hso : notSuper o = true) (hs : (e :: es).all notStar = true) (hn : (e :: es).length < 30) (hp : apos.endLine = pos.line) :
    PE X (.Call (.Attribute o m apos) (e :: es) [] pos) (tD X B C (eMeth m dO da dfs) (fz ++ fy) W) := by
  have hs2 := hs
  rw [List.all_cons, Bool.and_eq_true] at hs2
  refine ⟨fun pins s σ H Q I h => ?_⟩
  refine PySem.W.methodCall_KW (thn (ho.run pins s σ H _ I (meth_read hM hl h)) fun u s1 ⟨v, H1, I1, rv, a, Ca, dx, fs, f, kk, fd, ps, dvs, ds, ev, ea, l, c1, c2, Fo, hd, hb, q⟩ => ?_) (meth_form hso hs hn hp)
  subst ev
  obtain rfl : u = Value.ref a := rv
  refine getmeth_ok I1 ea c1 c2 l ?_
  refine PySem.W.callWith_K (first := [.ref a]) (h₀ := X.base) I.ok.mod.kin c2.kp (thn (ha.run pos pins s1 σ H1 _ I1 q) fun us s2 ⟨vs, H2, I2, r, q2⟩ => ⟨I2.kIn, ?_⟩) (star_cons hs2.1) (star_none hs2.2)
  exact run_at (us := .ref a :: us) (vs := .ref a :: vs) Fo hr hb hd (passAt tk σ) I2 (.cons rfl r) q2
theorem r_meth0 {dO : LD} {dfs : Str → Option (List D)} (hM : ∀ c dd, dfs c = some dd → MethAt X C k c m 0 dd) (hr : Room k X.A) (tk : Takes X W) (ho : PE X o (tF X B C dO fz W))
    (hso : notSuper o = true) (hp : apos.endLine = pos.line) : PE X (.Call (.Attribute o m apos) [] [] pos) (tD X B C (eMeth m dO aNil dfs) (fz ++ fy) W) := by
  refine ⟨fun pins s σ H Q I h => ?_⟩
  refine PySem.W.methodCall_KW (thn (ho.run pins s σ H _ I (meth_read (n := 0) hM (fun _ _ e => by cases e; rfl) h)) fun u s1 ⟨v, H1, I1, rv, a, Ca, dx, fs, f, kk, fd, ps, dvs, ds, ev, ea, l, c1, c2, Fo, hd, hb, q⟩ => ?_) (meth_form hso rfl (by decide) hp)
  subst ev
  obtain rfl : u = Value.ref a := rv
  refine getmeth_ok I1 ea c1 c2 l ?_
  refine PySem.W.callWith_K0 (first := [.ref a]) I1.kIn c2.kp ?_
  obtain ⟨F, t, rel, q⟩ := q
  exact run_at (us := [.ref a]) (vs := [.ref a]) Fo hr hb hd (passAt tk σ) I1 (.cons rfl .nil) (q [] F H1 (.refl rel.fh) rfl)
/-! ### C(..) -/
theorem run_mk {Ca : Addr} {fd : FuncData} {ps : List Str} {sp : Sp} {dvs vs : List V} {ds us : List Value} {E : XK} {pins : List (Addr × Obj)} {σ : L2.St} {H : Hp} {s : Shared} {Q : VK} (M : Mk X.K Ca f) (F : FnOk X.prog X.w X.K X.mg X.base (L2.CX X.prog X.w) k f fd ps sp)
    (hr : Room (k + 1) X.A) (hb : Binds X.K fd ps ds) (hd : Vals dvs ds) (hx : PassesAt (L2.CX X.prog X.w) X σ E) (I : Inv X pins σ H s) (r : Vals vs us)
    (h : ∀ x dx, H x = none → H dx = none → dx ≠ x → sp (.ref x :: (vs ++ dvs)) (upd (upd H dx (.own x)) x (.ins Ca dx [])) (fun v H2 => v = .non ∧ Q (.ref x) H2) (fun cls dd H2 => E cls dd H2)) :
    wpAny (model X.prog X.w) X.A (call (.ref Ca) us) (EP X pins σ Q) X.xe s := by
  have h1 : H (s.heap.objs.size + 1) = none := I.hok.fresh (Nat.le_succ _)
  have h2 : H s.heap.objs.size = none := I.hok.fresh (Nat.le_refl _)
  have hq := h _ _ h1 h2 (Nat.ne_of_lt (Nat.lt_succ_self _))
  have J := Inv.made (C := Ca) I
  have rr : Vals (V.ref (s.heap.objs.size + 1) :: (vs ++ dvs)) (Value.ref (s.heap.objs.size + 1) :: (us ++ ds)) := .cons rfl (r.append hd)
  have hl : (Value.ref (s.heap.objs.size + 1) :: us ++ ds).length = ps.length := rr.length.symm.trans (F.len _ _ _ _ hq)
  refine wpAny_call (make_map (f := f) I.kIn M.makes M.init (beq_iff_eq.mp M.fn) (codeAny_mono (F.run _ X.stack _ _ ⟨Value.ref (s.heap.objs.size + 1) :: us, []⟩ _ _ _ _ (hr.make Ca us []) (J.env0.make Ca us []) (hb _ (_ :: us) J.kIn hl) rr hq) fun res s' hq' => ?_))
  match res, hq' with
  | .error e, hq' => exact hx pins _ _ e s' J hq'
  | .ok (.ret u), hq' =>
    obtain ⟨v, H', I3, rv, ev, q3⟩ := J.after hq'
    subst ev
    exact ⟨rv, ⟨.ref (s.heap.objs.size + 1), H', I3, rfl, q3⟩⟩
  | .ok .next, hq' => exact hq'.elim
  | .ok .brk, hq' => exact hq'.elim
  | .ok .cont, hq' => exact hq'.elim
theorem make_read {da : AD} {dvs : List V} {Ca : Addr} (hc : X.mg x = some (.ref Ca)) (hl : ∀ s ds, da C s = .ok ds → ds.length = n) (hd : ∀ F, RpL X.K X.mg F dvs dfs) {σ : L2.St} {H : Hp} {Q : VK} (h : tD X B C (eMake x (aDef da dfs)) fz W σ H Q) :
    tA X B C da fz W σ H fun vs H1 => ∀ a dx, H1 a = none → H1 dx = none → dx ≠ a → spI X.K X.mg x (n + dfs.length) (C (x, some "__init__")) (.ref a :: (vs ++ dvs)) (upd (upd H1 dx (.own a)) a (.ins Ca dx [])) (fun v H2 => v = .non ∧ Q (.ref a) H2) (WE W σ) := by
  obtain ⟨F, s, rel, h⟩ := h
  refine ⟨F, s, rel, ?_⟩
  unfold eMake aDef at h
  cases q : da C s with
  | bad => simp only [q, R.map, R.bind] at h
  | ex c fs => simp only [q, R.map, R.bind] at h; exact h
  | ok ds =>
    simp only [q, R.map, R.bind] at h
    refine fun vs F1 H1 t hv a dx ha hdx hne => ?_
    have hs0 : Same H1 (upd (upd H1 dx (.own a)) a (.ins Ca dx [])) := fun b o hb => by
      rw [upd_ne (ne_of_none hb ha), upd_ne (ne_of_none hb hdx)]
      exact hb
    refine ⟨by rw [List.length_cons, List.length_append, hv.len, (hd F1).len, hl s ds q], a, Ca, dx, vs ++ dvs, H1, F1, ds ++ dfs, rfl, hc, upd_same, ha, hs0, t.fh, hv.append (hd F1), ?_⟩
    cases q2 : C (x, some "__init__") (ds ++ dfs) with
    | ok r =>
      obtain ⟨b, d⟩ := r
      simp only [q2] at h
      cases b with
      | false => exact h
      | true =>
        have h : ∀ v F' H', Stp (Zof fz σ s) F H F' H' → Vres X H F' H' true v d → Q v H' := h
        exact fun F' H' t' n' hO => ⟨rfl, h (.ref a) F' H' (t.trans t'.of0) ⟨a, rfl, t.hh.free ha, n', hO⟩⟩
    | ex c fs =>
      simp only [q2] at h
      exact fun cls dd H' t' hx => h cls dd H' (t.hh.trans t') hx
    | bad => simp only [q2] at h
theorem r_make {da : AD} (Ma : MakeAt X C k x n dfs) {Ca : Addr} (hr : Room (k + 1) X.A) (tk : Takes X W) (hg : Gl X x) (hm : X.mg x = some (.ref Ca)) (ha : PA X (e :: es) (tA X B C da fz W)) (hl : ∀ s ds, da C s = .ok ds → ds.length = n)
    (hs : (e :: es).all notStar = true) (hdb : (x == ("__debug__" : Str)) = false) : PE X (.Call (.Name x p) (e :: es) [] pos) (tD X B C (eMake x (aDef da dfs)) fz W) := by
  obtain ⟨f, M, fd, ps, F, hn, dvs, ds, hd, hb, hdl, hD⟩ := Ma.ok Ca hm
  rw [List.all_cons, Bool.and_eq_true] at hs
  refine ⟨fun pins s σ H Q I h => ?_⟩
  refine wpAny_Call_Name_kw (ld_glob I hg hm ?_ hdb)
  refine PySem.W.callWith_K (h₀ := X.base) I.ok.mod.kin M.kp (thn (ha.run pos pins s σ H _ I (make_read hm hl hD h)) fun us s1 ⟨vs, H1, I1, r, q⟩ => ⟨I1.kIn, ?_⟩) (star_cons hs.1) (star_none hs.2)
  exact run_mk M F hr hb hd (passAt tk σ) I1 r q
theorem r_make0 (Ma : MakeAt X C k x 0 dfs) {Ca : Addr} (hr : Room (k + 1) X.A) (tk : Takes X W) (hg : Gl X x) (hm : X.mg x = some (.ref Ca)) (hdb : (x == ("__debug__" : Str)) = false) :
    PE X (.Call (.Name x p) [] [] pos) (tD X B C (eMake x (aDef aNil dfs)) fz W) := by
  obtain ⟨f, M, fd, ps, F, hn, dvs, ds, hd, hb, hdl, hD⟩ := Ma.ok Ca hm
  refine ⟨fun pins s σ H Q I h => ?_⟩
  obtain ⟨F', t, rel, q⟩ := make_read (n := 0) (da := aNil) hm (fun _ _ e => by cases e; rfl) hD h
  refine wpAny_Call_Name_kw (ld_glob I hg hm ?_ hdb)
  exact PySem.W.callWith_K0 I.kIn M.kp (run_mk (us := []) (vs := []) M F hr hb hd (passAt tk σ) I .nil (q [] F' H (.refl rel.fh) rfl))
/-! ### properties, constants of a class -/
theorem r_prop {dO : LD} {tt : Str → Bool} (hP : ∀ c, tt c = true → PropAt X C k c m) (hr : Room (k + 1) X.A) (ho : PE X o (tF X B C dO fz W)) (hso : notSuper o = true) :
    PE X (.Attribute o m pos) (tD X B C (eProp m tt dO) fz W) := by
  refine ⟨fun pins s σ H Q I ⟨F, t, rel, h⟩ => ?_⟩
  unfold eProp at h
  cases q : dO C t with
  | bad => simp only [q, R.bind] at h
  | ex c fs =>
    refine (pe_fld (ho.wk (t' := fun σ' H' Q' => tF X B C dO fz W σ' H' Q') fun _ _ _ z => z) (super_ok hso)).run pins s σ H Q I ⟨F, t, rel, ?_⟩
    simp only [q, R.bind] at h ⊢
    exact h
  | ok x =>
    simp only [q, R.bind] at h
    cases x <;> first
      | exact (show False from h).elim
      | skip
    rename_i c fs
    cases q2 : fs.lookup m with
    | some z => simp [q2] at h
    | none =>
      simp only [q2, Option.isSome_none, Bool.false_eq_true, if_false] at h
      by_cases htt : tt c = true
      case neg => simp only [htt, Bool.false_eq_true, if_false] at h
      simp only [htt, if_true] at h
      cases hc : X.mg c with
      | none =>
        refine (pe_fld ho (super_ok hso)).run pins s σ H Q I ⟨F, t, rel, ?_⟩
        simp only [q]
        exact fun v F1 H1 t1 hv => by
          obtain ⟨a, Ca, dx, vfs, rfl, hc2, _⟩ := hv
          rw [hc] at hc2; cases hc2
      | some u =>
        by_cases hu : ∃ Ca, u = Value.ref Ca
        · obtain ⟨Ca, rfl⟩ := hu
          obtain ⟨p, f, c1, c2, fd, ps, Fo, hn, hb⟩ := (hP c htt).ok Ca hc
          refine (pe_prop (dvs := []) (ds := []) (E := E0) ho c1 c2 Fo hr hb .nil passL (super_ok hso)).run pins s σ H Q I ⟨F, t, rel, ?_⟩
          simp only [q]
          refine fun v F1 H1 t1 hv => ?_
          have hv0 := hv
          obtain ⟨a, Cb, dx, vfs, rfl, hc2, hF, r⟩ := hv
          rw [hc] at hc2
          cases hc2
          refine ⟨a, dx, vfs, rfl, t1.fh _ _ hF, hn, F1, [.obj c fs], t1.fh, RpL.cons hv0 rfl, ?_⟩
          cases q3 : C (c, some m) [.obj c fs] with
          | ok r3 =>
            obtain ⟨b, d⟩ := r3
            simp only [q3, noEx] at h
            exact fun w F2 H2 t2 hw => h w F2 H2 (t1.trans t2.of0) (Vres.back (X := X) t1.hh hw)
          | ex c' fs' => simp only [q3, noEx] at h
          | bad => simp only [q3, noEx] at h
        · refine (pe_fld ho (super_ok hso)).run pins s σ H Q I ⟨F, t, rel, ?_⟩
          simp only [q]
          exact fun v F1 H1 t1 hv => by
            obtain ⟨a, Ca, dx, vfs, rfl, hc2, _⟩ := hv
            rw [hc] at hc2
            cases hc2
            exact absurd ⟨Ca, rfl⟩ hu
structure ConAt (X : Cx) (c m : Str) (d : D) : Prop where
  ok : ∀ Ca, X.mg c = some (.ref Ca) → Cls X.K Ca ∧ ∃ v u, Con X.K Ca m v u ∧ ∀ F, Rp X.K X.mg F v d
theorem r_con {dO : LD} {t : Str → Option D} (hP : ∀ c d, t c = some d → ConAt X c m d) (ho : PE X o (tP X B C dO fz W)) (hso : notSuper o = true) :
    PE X (.Attribute o m pos) (tD X B C (eCon dO m t) fz W) := (pe_con ho (super_ok hso)).wk fun σ H Q ⟨F, s, rel, h⟩ => by
  refine ⟨F, s, rel, ?_⟩
  unfold eCon at h
  cases q : dO C s with
  | bad => simp only [q, R.bind] at h
  | ex c fs => simp only [q, R.bind] at h; exact h
  | ok x =>
    simp only [q, R.bind] at h
    cases x <;> first
      | exact (show False from h).elim
      | skip
    rename_i c fs
    cases q2 : fs.lookup m with
    | some z => simp [q2] at h
    | none =>
      simp only [q2, Option.isSome_none, Bool.false_eq_true, if_false] at h
      cases q3 : t c with
      | none => simp [q3, ofO] at h
      | some d =>
        simp only [q3, Option.map, ofO] at h
        refine fun v F1 H1 t1 hv => ?_
        obtain ⟨a, Ca, dx, vfs, rfl, hc, hH, r⟩ := hv.obj t1.fh
        obtain ⟨c1, w, u, c2, hr⟩ := (hP c d q3).ok Ca hc
        exact ⟨a, Ca, dx, vfs, w, u, rfl, hH, c1, c2, r.none q2, h w F1 H1 t1 (hr F1)⟩
/-- C.f, a constant of the class C by its name -/
structure CcAt (X : Cx) (x f : Str) (d : D) : Prop where
  ex : ∃ Ca mc v u, X.mg x = some (.ref Ca) ∧ ClX.CRead X.K Ca mc ∧ ClX.CVal X.K Ca mc f v u ∧ ∀ F, Rp X.K X.mg F v d
theorem r_cc {x f : Str} {d : D} {p : Pos} (h : CcAt X x f d) (hg : Gl X x) (hd : (x == ("__debug__" : Str)) = false) : PE X (.Attribute (.Name x p) f pos) (tD X B C (eC d) fz W) := by
  obtain ⟨Ca, mc, v, u, hm, r, k, hr⟩ := h.ex
  refine (ClX.pe_cval (pe_glob hg hm (v := .ref Ca) rfl hd) (super_ok rfl)).wk fun σ H Q ⟨F, s, rel, h⟩ => ?_
  exact ⟨Ca, mc, v, u, rfl, r, k, h v F H (.refl rel.fh) (hr F)⟩
end
end DN
/-! Den8: statements. -/
namespace DN
open PySem PySem.Spec PyProof.Rows L2
section
variable {K : PySem.W.Frag} {mg : Str → Option Value} {B : Bas} {F F' H H' F0 F1 : Hp} {σ : L2.St} {s : SE} {fz : List Nat}
theorem keep_other {o : Option Sl} (h : ∀ d, o ≠ some (.ow d)) : keepSl o = o := by
  cases o with
  | none => rfl
  | some x =>
    cases x with
    | ow d => exact absurd rfl (h d)
    | fr d => rfl
    | bw d => rfl
theorem set_same {α : Type} {l : List α} {i : Nat} {d : α} : l.set i (l.getD i d) = l := by
  apply List.ext_getElem?
  intro j
  by_cases h : i = j
  · subst h
    by_cases hi : i < l.length
    · rw [List.getElem?_set_self hi, List.getD_eq_getElem?_getD, List.getElem?_eq_getElem hi]
      rfl
    · rw [List.getElem?_eq_none (by simpa using hi), List.getElem?_eq_none (by simpa using hi)]
  · rw [List.getElem?_set_ne h]
theorem demote_len : ∀ (fz : List Nat) (s : SE), (demote fz s).length = s.length
  | [], _ => rfl
  | i :: r, s => by
    unfold demote
    rw [demote_len r, List.length_set]
/-- the slots at fz are held for good: their objects are laid in F -/
theorem demote_ok : ∀ (fz : List Nat) (F : Hp) (s : SE), RelW K mg B F H σ s → (∀ (i : Nat) (d : D) (a : Addr), s[i]? = some (some (.ow d)) → σ[i]? = some (some (.ref a)) → F a ≠ none → i ∈ fz) →
    ∃ F', Same F F' ∧ RelW K mg B F' H σ (demote fz s) ∧ (∀ (i : Nat) (d : D) (a : Addr), (demote fz s)[i]? = some (some (.ow d)) → σ[i]? = some (some (.ref a)) → F' a = none) ∧
      ∀ a o, F' a = some o → F a = some o ∨ ∃ (i : Nat) (d : D), s[i]? = some (some (.ow d)) ∧ σ[i]? = some (some (.ref a))
  | [], F, s, rel, h => ⟨F, .refl _, rel, fun i d a e1 e2 => by
      cases q : F a with
      | none => rfl
      | some o => exact absurd (h i d a e1 e2 (by rw [q]; exact fun z => nomatch z)) (List.not_mem_nil), fun _ _ h => .inl h⟩
  | i :: r, F, s, rel, h => by
    by_cases hi : ∃ d, s[i]? = some (some (.ow d))
    · obtain ⟨d, hi⟩ := hi
      obtain ⟨a, F1, e1, t, hr⟩ := rel.frozen hi
      have hg : s.getD i none = some (.ow d) := by rw [List.getD_eq_getElem?_getD, hi]; rfl
      have hil : i < s.length := (List.getElem?_eq_some_iff.mp hi).1
      have rel1 : RelW K mg B F1 H σ (s.set i (some (.fr d))) := by
        refine ⟨by rw [List.length_set]; exact rel.len, rel.h0, t.fh, fun j x e => ?_, fun j k x y b hjk ej ek => ?_, rel.me⟩
        · by_cases hj : i = j
          · subst hj
            rw [List.getElem?_set_self hil] at e
            cases e
            exact ⟨_, e1, hr⟩
          · rw [List.getElem?_set_ne hj] at e
            obtain ⟨v, ev, hv⟩ := rel.slot j x e
            exact ⟨v, ev, hv.mono t.ff (.refl _)⟩
        · have e2 : ∀ (m : Nat) (z : D), (s.set i (some (.fr d)))[m]? = some (some (.ow z)) → s[m]? = some (some (.ow z)) := fun m z e => by
            by_cases hm : i = m
            · subst hm
              rw [List.getElem?_set_self hil] at e
              cases e
            · rwa [List.getElem?_set_ne hm] at e
          exact rel.dist j k x y b hjk (e2 j x ej) (e2 k y ek)
      have hs : s.set i (keepSl (s.getD i none)) = s.set i (some (.fr d)) := by rw [hg]; rfl
      obtain ⟨F', f1, f2, f3, f4⟩ := demote_ok r F1 (s.set i (some (.fr d))) rel1 fun j x b ej eb hb => by
        by_cases hj : i = j
        · subst hj
          rw [List.getElem?_set_self hil] at ej
          cases ej
        · rw [List.getElem?_set_ne hj] at ej
          obtain ⟨v, ev, b', ebv, _, hO⟩ := rel.slot j _ ej
          rw [eb] at ev
          cases ev
          cases ebv
          cases q : F1 b with
          | none => exact absurd q hb
          | some o =>
            rcases t.fr b o q with q | q | ⟨k, z, hk, ek, ez⟩
            · rcases List.mem_cons.mp (h j x b ej eb (by rw [q]; exact fun z => nomatch z)) with z | z
              · exact absurd z.symm hj
              · exact z
            · obtain ⟨o', ho'⟩ := hO.there
              rw [q] at ho'; cases ho'
            · have : k = i := List.mem_singleton.mp hk
              subst this
              exact absurd eb (rel.dist k j z x b hj ek ej ez)
      refine ⟨F', t.ff.trans f1, ?_, ?_, fun a' o' h' => ?_⟩
      · show RelW K mg B F' H σ (demote r (s.set i (keepSl (s.getD i none))))
        rw [hs]; exact f2
      · show ∀ (j : Nat) (d : D) (a : Addr), (demote r (s.set i (keepSl (s.getD i none))))[j]? = _ → _
        rw [hs]; exact f3
      · rcases f4 a' o' h' with h' | ⟨j, z, ej, ez⟩
        · rcases t.fr a' o' h' with q | q | ⟨k, z, hk, ek, ez⟩
          · exact .inl q
          · have : H a' = some o' := t.fh _ _ h'
            rw [q] at this; cases this
          · exact .inr ⟨k, z, ek, ez⟩
        · by_cases hj : i = j
          · subst hj
            rw [List.getElem?_set_self hil] at ej
            cases ej
          · rw [List.getElem?_set_ne hj] at ej
            exact .inr ⟨j, z, ej, ez⟩
    · have hs : s.set i (keepSl (s.getD i none)) = s := by
        rw [keep_other fun d z => ?_, set_same]
        rw [List.getD_eq_getElem?_getD] at z
        cases q : s[i]? with
        | none => rw [q] at z; cases z
        | some x => rw [q] at z; exact hi ⟨d, by rw [q]; exact congrArg some z⟩
      obtain ⟨F', f1, f2, f3, f4⟩ := demote_ok r F s rel fun j d a e1 e2 hb => by
        rcases List.mem_cons.mp (h j d a e1 e2 hb) with z | z
        · subst z
          exact absurd ⟨d, e1⟩ hi
        · exact z
      refine ⟨F', f1, ?_, ?_, f4⟩
      · show RelW K mg B F' H σ (demote r (s.set i (keepSl (s.getD i none))))
        rw [hs]; exact f2
      · show ∀ (j : Nat) (d : D) (a : Addr), (demote r (s.set i (keepSl (s.getD i none))))[j]? = _ → _
        rw [hs]; exact f3
/-- behind an expression whose value holds on to what it saw -/
theorem RelS.demote (rel : RelS K mg B F0 F H σ s) (t : Stp (Zof fz σ s) F H F' H') : ∃ F'', Same F' F'' ∧ RelS K mg B F0 F'' H' σ (demote fz s) ∧ ∀ a, H a = none → F' a = none → F'' a = none := by
  obtain ⟨F'', f1, f2, f3, f4⟩ := demote_ok fz F' s (rel.toRelW.step t) fun i d a e1 e2 hb => by
    obtain ⟨v, ev, b, eb, _, hO⟩ := rel.slot i _ e1
    rw [e2] at ev
    cases ev
    cases eb
    cases q : F' a with
    | none => exact absurd q hb
    | some o =>
      rcases t.fr a o q with q | q | ⟨k, z, hk, ek, ez⟩
      · rw [rel.own i d a e1 e2] at q; cases q
      · obtain ⟨o', ho'⟩ := hO.there
        rw [q] at ho'; cases ho'
      · by_cases hj : k = i
        · subst hj; exact hk
        · exact absurd e2 (rel.dist k i z d a hj ek e1 ez)
  have own : ∀ (i : Nat) (d : D) (a : Addr), s[i]? = some (some (.ow d)) → σ[i]? = some (some (.ref a)) → B.H0 a = none ∧ ∃ o, H a = some o := fun i d a e1 e2 => by
    obtain ⟨v, ev, b, eb, n, hO⟩ := rel.slot i _ e1
    rw [e2] at ev
    cases ev
    cases eb
    exact ⟨n, hO.there⟩
  refine ⟨F'', f1, ⟨f2, (rel.f0.trans t.ff).trans f1, fun a o h => ?_, f3⟩, fun a ha hf => ?_⟩
  · rcases f4 a o h with h | ⟨i, d, e1, e2⟩
    · rcases t.fr a o h with h | h | ⟨i, d, _, e1, e2⟩
      · exact rel.fresh a o h
      · exact .inr (rel.h0.free h)
      · exact .inr (own i d a e1 e2).1
    · exact .inr (own i d a e1 e2).1
  · cases q : F'' a with
    | none => rfl
    | some o =>
      rcases f4 a o q with h | ⟨i, d, e1, e2⟩
      · rw [hf] at h; cases h
      · obtain ⟨_, o', ho'⟩ := own i d a e1 e2
        rw [ha] at ho'; cases ho'
theorem RelS.settle {d : D} {v : V} (rel : RelS K mg B F0 F H σ s) (t : Stp (Zof fz σ s) F H F' H') (hv : Rp K mg F' v d) : ∃ F'', RelS K mg B F0 F'' H' σ (settle fz d s) ∧ Rp K mg F'' v d ∧ Same F F'' := by
  unfold DN.settle
  by_cases hd : d.flat = true
  · rw [if_pos hd]
    exact ⟨F, rel.same t.hh, hv.flat hd F, .refl _⟩
  · rw [if_neg hd]
    obtain ⟨F'', f1, f2, _⟩ := rel.demote t
    exact ⟨F'', f2, hv.mono f1, t.ff.trans f1⟩
/-- a slot is stored -/
theorem RelS.put {v : V} {d : D} (rel : RelS K mg B F0 F H σ s) (hv : Rp K mg F v d) (i : Nat) (h0' : Ok0 B i) : RelS K mg B F0 F H (σ.set i (some v)) (s.set i (some (.fr d))) := by
  have e2 : ∀ (m : Nat) (z : D), (s.set i (some (.fr d)))[m]? = some (some (.ow z)) → i ≠ m ∧ s[m]? = some (some (.ow z)) := fun m z e => by
    by_cases hm : i = m
    · subst hm
      by_cases hil : i < s.length
      · rw [List.getElem?_set_self hil] at e; cases e
      · rw [List.getElem?_eq_none (by simpa using hil)] at e; cases e
    · rw [List.getElem?_set_ne hm] at e
      exact ⟨hm, e⟩
  refine ⟨⟨by rw [List.length_set, List.length_set]; exact rel.len, rel.h0, rel.fh, fun j x e => ?_, fun j k x y b hjk ej ek => ?_, fun a e => h0'.set e (rel.me a e)⟩, rel.f0, rel.fresh, fun j x a ej ea => ?_⟩
  · by_cases hj : i = j
    · subst hj
      have hil : i < s.length := by
        have := (List.getElem?_eq_some_iff.mp e).1
        simpa using this
      rw [List.getElem?_set_self hil] at e
      cases e
      exact ⟨v, List.getElem?_set_self (by rw [← rel.len]; exact hil), hv⟩
    · rw [List.getElem?_set_ne hj] at e ⊢
      exact rel.slot j x e
  · obtain ⟨n1, e1⟩ := e2 j x ej
    obtain ⟨n2, e3⟩ := e2 k y ek
    rw [List.getElem?_set_ne n1, List.getElem?_set_ne n2]
    exact rel.dist j k x y b hjk e1 e3
  · obtain ⟨n1, e1⟩ := e2 j x ej
    rw [List.getElem?_set_ne n1] at ea
    exact rel.own j x a e1 ea
/-- .. by an own value: a new object that nobody has, or the slot's own object, changed -/
theorem RelS.putOw {a : Addr} {d : D} (rel : RelS K mg B F0 F H σ s) (h0 : B.H0 a = none) (hf : F a = none) (hO : Own K mg F H a d) (i : Nat) (h0' : Ok0 B i) (hn : ∀ (j : Nat) (e : D), i ≠ j → s[j]? = some (some (.ow e)) → σ[j]? ≠ some (some (.ref a))) :
    RelS K mg B F0 F H (σ.set i (some (.ref a))) (s.set i (some (.ow d))) := by
  have e2 : ∀ (m : Nat) (z : D), i ≠ m → (s.set i (some (.ow d)))[m]? = some (some (.ow z)) → s[m]? = some (some (.ow z)) := fun m z hm e => by rwa [List.getElem?_set_ne hm] at e
  have il : ∀ {m : Nat} {z : Sl}, (s.set i (some (.ow d)))[m]? = some (some z) → m < σ.length := fun {m z} e => by
    have := (List.getElem?_eq_some_iff.mp e).1
    rw [← rel.len]
    simpa using this
  refine ⟨⟨by rw [List.length_set, List.length_set]; exact rel.len, rel.h0, rel.fh, fun j x e => ?_, fun j k x y b hjk ej ek eb ec => ?_, fun a e => h0'.set e (rel.me a e)⟩, rel.f0, rel.fresh, fun j x b ej eb => ?_⟩
  · by_cases hj : i = j
    · subst hj
      have hl := il e
      rw [List.getElem?_set_self (by rw [rel.len]; exact hl)] at e
      cases e
      exact ⟨_, List.getElem?_set_self hl, a, rfl, h0, hO⟩
    · rw [List.getElem?_set_ne hj] at e ⊢
      exact rel.slot j x e
  · by_cases hj : i = j
    · subst hj
      have hk : i ≠ k := hjk
      rw [List.getElem?_set_self (il ej)] at eb
      cases eb
      rw [List.getElem?_set_ne hk] at ec
      exact hn k y hk (e2 k y hk ek) ec
    · by_cases hk : i = k
      · subst hk
        rw [List.getElem?_set_self (il ek)] at ec
        cases ec
        rw [List.getElem?_set_ne hj] at eb
        exact hn j x hj (e2 j x hj ej) eb
      · rw [List.getElem?_set_ne hj] at eb
        rw [List.getElem?_set_ne hk] at ec
        exact rel.dist j k x y b hjk (e2 j x hj ej) (e2 k y hk ek) eb ec
  · by_cases hj : i = j
    · subst hj
      rw [List.getElem?_set_self (il ej)] at eb
      cases eb
      exact hf
    · rw [List.getElem?_set_ne hj] at eb
      exact rel.own j x b (e2 j x hj ej) eb
theorem RelS.rebase (rel : RelS K mg B F1 F H σ s) (e : Same F0 F1) (f : ∀ a o, F1 a = some o → F0 a = some o ∨ B.H0 a = none) : RelS K mg B F0 F H σ s :=
  ⟨rel.toRelW, e.trans rel.f0, fun a o h => (rel.fresh a o h).elim (f a o) .inr, rel.own⟩
theorem RelR.rebase (rel : RelR B F1 F H) (e : Same F0 F1) (f : ∀ a o, F1 a = some o → F0 a = some o ∨ B.H0 a = none) : RelR B F0 F H :=
  ⟨rel.h0, e.trans rel.f0, rel.fh, fun a o h => (rel.fresh a o h).elim (f a o) .inr⟩
end
section
variable {X : Cx} {B : Bas} {C : Call} {W : WX} {F F' H H' F0 F1 : Hp} {σ : L2.St} {s : SE} {fz fy : List Nat} {e : Expr} {pos p2 : Pos} {Dn : Ends}
theorem Post.rebase {o : O} (h : Post X B F0 Dn W o) (e : Same F0 F1) (f : ∀ a o, F1 a = some o → F0 a = some o ∨ B.H0 a = none) : Post X B F1 Dn W o := by
  cases o with
  | nx s' => exact fun σ' F' H' r => h σ' F' H' (r.rebase e f)
  | bk s' => exact fun σ' F' H' r => h σ' F' H' (r.rebase e f)
  | ct s' => exact fun σ' F' H' r => h σ' F' H' (r.rebase e f)
  | rt b d => exact fun v F' H' r => h v F' H' (r.rebase e f)
  | ex c fs s' => exact fun cls dd σ' F' H' r => h cls dd σ' F' H' (r.rebase e f)
  | bad => exact h
/-- an expression's end in a statement -/
theorem asg_ok {b : Bool} {v : V} {d : D} (rel : RelS X.K X.mg B F0 F H σ s) (t : Stp (Zof fz σ s) F H F' H') (hv : Vres X H F' H' b v d) (i : Nat) (h0' : Ok0 B i) :
    ∃ F'', RelS X.K X.mg B F0 F'' H' (σ.set i (some v)) ((settle fz d s).set i (some (Sl.of b d))) := by
  cases b with
  | false =>
    obtain ⟨F'', f1, f2, _⟩ := rel.settle t hv
    exact ⟨F'', f1.put f2 i h0'⟩
  | true =>
    obtain ⟨a, rfl, n, n', hO⟩ := hv
    have hfl : ¬ d.flat = true := by rw [hO.notflat]; exact Bool.false_ne_true
    unfold settle
    rw [if_neg hfl]
    obtain ⟨F'', f1, f2, f3⟩ := rel.demote t
    refine ⟨F'', f2.putOw (rel.h0.free n) (f3 a n n') (hO.mono f1 fun _ z => z) i h0' fun j x hj ej ea => ?_⟩
    obtain ⟨w, ew, b', eb, _, hO'⟩ := f2.slot j _ ej
    rw [ea] at ew
    cases ew
    cases eb
    have hs : s[j]? = some (some (.ow x)) := by
      have key : ∀ (l : List Nat) (s : SE), (demote l s)[j]? = some (some (.ow x)) → s[j]? = some (some (.ow x)) := by
        intro l
        induction l with
        | nil => exact fun s h => h
        | cons m r ih =>
          intro s h
          have h2 := ih _ h
          by_cases hm : m = j
          · subst hm
            by_cases hl : m < s.length
            · rw [List.getElem?_set_self hl] at h2
              have h3 : keepSl (s.getD m none) = some (.ow x) := Option.some.inj h2
              cases q : s.getD m none with
              | none => rw [q] at h3; cases h3
              | some z => rw [q] at h3; cases z <;> cases h3
            · rw [List.getElem?_eq_none (by simpa using hl)] at h2; cases h2
          · rwa [List.getElem?_set_ne hm] at h2
      exact key fz s ej
    obtain ⟨w2, ew2, b2, eb2, _, hO2⟩ := rel.slot j _ hs
    rw [ea] at ew2
    cases ew2
    cases eb2
    obtain ⟨o, ho⟩ := hO2.there
    rw [n] at ho; cases ho
/-! ### the small ones -/
theorem s_asg {i : Nat} {x : Str} {den : ED} (h0' : Ok0 B i) (hN : X.N.Nodup) (hi : X.N[i]? = some x) (hx : Loc X.env.scope x) (he : PE X e (tD X B C den fz W)) (hs : swapsWith e (some (.Name x p2)) pos.line X.env = pure false)
    (hf : X.fn x = true ∨ X.env.scope.names.lookup x = some .local) : PS X (.Assign [.Name x p2] e pos) (tS X B C (sAsg i den fz) W) := (ps_set hN hi hx he hs hf).wk fun Dn σ H ⟨F0, F, s, rel, h⟩ => by
  unfold sAsg at h
  refine ⟨F, s, rel.toRelW, ?_⟩
  cases k : den C s with
  | ok r =>
    obtain ⟨b, d⟩ := r
    simp only [k] at h
    refine fun v F' H' t hv => ?_
    obtain ⟨F'', f⟩ := asg_ok rel t hv i h0'
    exact h _ F'' H' f
  | ex c fs =>
    simp only [k] at h
    exact fun cls dd H' t hx => h cls dd σ F H' (rel.same t) hx
  | bad => simp only [k] at h; exact h
theorem s_drop {den : ED} (he : PE X e (tD X B C den fz W)) (hs : swapsWith e none pos.line X.env = pure false) : PS X (.Expr e pos) (tS X B C (sDrop den) W) := (ps_expr he hs).wk fun Dn σ H ⟨F0, F, s, rel, h⟩ => by
  unfold sDrop at h
  refine ⟨F, s, rel.toRelW, ?_⟩
  cases k : den C s with
  | ok r =>
    simp only [k] at h
    exact fun v F' H' t hv => h σ F H' (rel.same t.hh)
  | ex c fs =>
    simp only [k] at h
    exact fun cls dd H' t hx => h cls dd σ F H' (rel.same t) hx
  | bad => simp only [k] at h; exact h
theorem rel_ret (rel : RelS X.K X.mg B F0 F H σ s) (t : Stp (Zof fz σ s) F H F' H') : RelR B F0 F' H' := by
  refine ⟨rel.h0.trans t.hh, rel.f0.trans t.ff, t.fh, fun a o h => ?_⟩
  rcases t.fr a o h with h | h | ⟨i, d, _, e1, e2⟩
  · exact rel.fresh a o h
  · exact .inr (rel.h0.free h)
  · obtain ⟨v, ev, b, eb, n, _⟩ := rel.slot i _ e1
    rw [e2] at ev
    cases ev
    cases eb
    exact .inr n
theorem s_ret {den : ED} (he : PE X e (tD X B C den fz W)) : PS X (.Return (some e) pos) (tS X B C (sRet den) W) := (ps_ret he).wk fun Dn σ H ⟨F0, F, s, rel, h⟩ => by
  unfold sRet at h
  refine ⟨F, s, rel.toRelW, ?_⟩
  cases k : den C s with
  | ok r =>
    obtain ⟨b, d⟩ := r
    simp only [k] at h
    exact fun v F' H' t hv => h v F' H' (rel_ret rel t) (hv.back rel.h0)
  | ex c fs =>
    simp only [k] at h
    exact fun cls dd H' t hx => h cls dd σ F H' (rel.same t) hx
  | bad => simp only [k] at h; exact h
theorem s_retV {i : Nat} {x : Str} (hN : X.N[i]? = some x) (hv : Vis X.env.scope x) (hd : (x == ("__debug__" : Str)) = false) (hcd : (x == ("__classdict__" : Str)) = false) :
    PS X (.Return (some (.Name x p2)) pos) (tS X B C (sRetV i) W) := (ps_ret (pe_var hN hv hd hcd)).wk fun Dn σ H ⟨F0, F, s, rel, h⟩ => by
  unfold sRetV at h
  cases k : s[i]? with
  | none => simp only [k] at h; exact h.elim
  | some o =>
    cases o with
    | none => simp only [k] at h; exact h.elim
    | some sl =>
      obtain ⟨v, e1, e2⟩ := rel.slot i _ k
      have rr : RelR B F0 F H := ⟨rel.h0, rel.f0, rel.fh, rel.fresh⟩
      cases sl with
      | fr d =>
        simp only [k] at h
        exact ⟨v, e1, h v F H rr e2⟩
      | ow d =>
        simp only [k] at h
        obtain ⟨a, rfl, n, hO⟩ := e2
        exact ⟨_, e1, h _ F H rr ⟨a, rfl, n, rel.own i d a k e1, hO⟩⟩
      | bw d => simp only [k] at h; exact h.elim
theorem s_retN : PS X (.Return none pos) (tS X B C (sRet (eC .non)) W) := ps_retN.wk fun Dn σ H ⟨F0, F, s, rel, h⟩ => h _ F H ⟨rel.h0, rel.f0, rel.fh, rel.fresh⟩ rfl
theorem s_pass : PS X (.Pass pos) (tS X B C sNx W) := ps_pass.wk fun Dn σ H ⟨F0, F, s, rel, h⟩ => h σ F H rel
theorem s_break : PS X (.Break pos) (tS X B C sBk W) := ps_break.wk fun Dn σ H ⟨F0, F, s, rel, h⟩ => h σ F H rel
theorem s_cont : PS X (.Continue pos) (tS X B C sCt W) := ps_continue.wk fun Dn σ H ⟨F0, F, s, rel, h⟩ => h σ F H rel
theorem ss_nil : PSs X [] (tS X B C sNx W) := pss_nil.wk fun Dn σ H ⟨F0, F, s, rel, h⟩ => h σ F H rel
theorem ss_cons {st : Stmt} {rest : List Stmt} {a b : SD} (h1 : PS X st (tS X B C a W)) (h2 : PSs X rest (tS X B C b W)) : PSs X (st :: rest) (tS X B C (sSeq a b) W) := (pss_cons h1 h2).wk fun Dn σ H ⟨F0, F, s, rel, h⟩ => by
  refine ⟨F0, F, s, rel, ?_⟩
  unfold sSeq at h
  cases k : a C s with
  | nx s' =>
    simp only [k] at h
    exact fun σ' F' H' r => ⟨F0, F', s', r, h⟩
  | bk s' => simp only [k] at h; exact h
  | ct s' => simp only [k] at h; exact h
  | rt b d => simp only [k] at h; exact h
  | ex c fs s' => simp only [k] at h; exact h
  | bad => simp only [k] at h; exact h
theorem s_if {t : Expr} {x y : List Stmt} {dt : BD} {a b : SD} (h0 : PT X t (DN.tB X B C dt W)) (h1 : PSs X x (tS X B C a W)) (h2 : PSs X y (tS X B C b W)) : PS X (.If t x y pos) (tS X B C (sIf dt a b) W) :=
  (ps_if h0 h1 h2).wk fun Dn σ H ⟨F0, F, s, rel, h⟩ => by
  refine ⟨F, s, rel.toRelW, ?_⟩
  unfold sIf at h
  cases k : dt C s with
  | ok r =>
    simp only [k] at h
    refine fun H' t => ?_
    cases r with
    | true => exact iteT ⟨F0, F, s, rel.same t, h⟩
    | false => exact iteF ⟨F0, F, s, rel.same t, h⟩
  | ex c fs =>
    simp only [k] at h
    exact fun cls dd H' t hx => h cls dd σ F H' (rel.same t) hx
  | bad => simp only [k] at h; exact h
/-- an error of an own class without an __init__ of its own -/
structure ErrAt (X : Cx) (c : Str) : Prop where
  ok : ∃ Ca, X.mg c = some (.ref Ca) ∧ PySem.W.excIn X.K Ca He.veBase "ValueError.__new__" = true ∧ PySem.W.keepIn X.K (.ref Ca) = true ∧ PySem.W.subIn X.K (.ref Ca) (.type "BaseException") = some true ∧ PySem.W.typeIn X.K (.ref Ca) = some (.type "type")
end
end DN
/-! Den9: raise, try, loops, changes of own values. -/
namespace DN
open PySem PySem.Spec PyProof.Rows L2
section
variable {X : Cx} {B : Bas} {C : Call} {W : WX} {F F' H H' F0 F1 : Hp} {σ : L2.St} {s : SE} {fz fy : List Nat} {e : Expr} {pos p2 p3 : Pos} {Dn : Ends}
/-! ### raise X('..') -/
theorem s_raise {x m : Str} {j : Nat} {q : Pos} (hc : X.calm = true) (tk : Takes X W) (hE : ErrAt X x) (hg : Gl X x) (hdb : (x == ("__debug__" : Str)) = false) : PS X (.Raise (some (.Call (.Name x p2) [.Constant (.str m) j p3] [] pos)) none q) (tS X B C (sRaise x) W) := by
  obtain ⟨Ca, gC, xC, kC, bC, tC⟩ := hE
  exact (ps_raise hc tk (pmk_own PySem.F.excBase_ValueError xC gC kC (raises_own bC tC) hg hdb)).wk fun Dn σ H ⟨F0, F, s, rel, h⟩ => h _ none σ F H rel ⟨Ca, gC, rfl, .inl ⟨rfl, rfl⟩⟩
/-! ### try -/
theorem RelS.forget (rel : RelS X.K X.mg B F0 F H σ s) (i : Nat) (o : Option V) (h0' : Ok0 B i) : RelS X.K X.mg B F0 F H (σ.set i o) (s.set i none) := by
  have e2 : ∀ (m : Nat) (z : Sl), (s.set i none)[m]? = some (some z) → i ≠ m ∧ s[m]? = some (some z) := fun m z e => by
    by_cases hm : i = m
    · subst hm
      by_cases hil : i < s.length
      · rw [List.getElem?_set_self hil] at e; cases e
      · rw [List.getElem?_eq_none (by simpa using hil)] at e; cases e
    · rw [List.getElem?_set_ne hm] at e
      exact ⟨hm, e⟩
  refine ⟨⟨by rw [List.length_set, List.length_set]; exact rel.len, rel.h0, rel.fh, fun j x e => ?_, fun j k x y b hjk ej ek => ?_, fun a e => h0'.set e (rel.me a e)⟩, rel.f0, rel.fresh, fun j x a ej ea => ?_⟩
  · obtain ⟨n, e1⟩ := e2 j x e
    rw [List.getElem?_set_ne n]
    exact rel.slot j x e1
  · obtain ⟨n1, e1⟩ := e2 j _ ej
    obtain ⟨n2, e3⟩ := e2 k _ ek
    rw [List.getElem?_set_ne n1, List.getElem?_set_ne n2]
    exact rel.dist j k x y b hjk e1 e3
  · obtain ⟨n1, e1⟩ := e2 j _ ej
    rw [List.getElem?_set_ne n1] at ea
    exact rel.own j x a e1 ea
/-- m is right of the class at cv -/
def MatchOk (X : Cx) (m : Str → Option Bool) (cv : Value) : Prop := ∀ k b, m k = some b → ∀ Ca, X.mg k = some (.ref Ca) → PySem.W.exmOne X.K (.ref Ca) cv = some b
/-- within an except suite the error is held by the base -/
abbrev Bas.su (B : Bas) (a : Addr) (cls : Value) (dd : Option Addr) : Bas := ⟨B.H0, some (a, cls, dd), B.me⟩
theorem RelS.er {i : Nat} {a : Addr} {cls : Value} {dd : Option Addr} {c : Str} {fs : List (Str × D)} (rel : RelS X.K X.mg B F0 F H σ s) (hB : B.er = none) (h0' : Ok0 B i) (hx : ExAt X X.mg c fs cls dd H) : RelS X.K X.mg (B.su a cls dd) F0 F H (σ.set i (some (.ref a))) (s.set i (some (.bw (.obj c fs)))) := by
  have e2 : ∀ (m : Nat) (z : D), (s.set i (some (.bw (.obj c fs))))[m]? = some (some (.ow z)) → i ≠ m ∧ s[m]? = some (some (.ow z)) := fun m z e => by
    by_cases hm : i = m
    · subst hm
      by_cases hil : i < s.length
      · rw [List.getElem?_set_self hil] at e; cases e
      · rw [List.getElem?_eq_none (by simpa using hil)] at e; cases e
    · rw [List.getElem?_set_ne hm] at e
      exact ⟨hm, e⟩
  refine ⟨⟨by rw [List.length_set, List.length_set]; exact rel.len, rel.h0, rel.fh, fun j x e => ?_, fun j k x y b hjk ej ek => ?_, fun a e => h0'.set e (rel.me a e)⟩, rel.f0, rel.fresh, fun j x a ej ea => ?_⟩
  · by_cases hj : i = j
    · subst hj
      have hil : i < s.length := by
        have := (List.getElem?_eq_some_iff.mp e).1
        simpa using this
      rw [List.getElem?_set_self hil] at e
      cases e
      exact ⟨_, List.getElem?_set_self (by rw [← rel.len]; exact hil), a, cls, dd, rfl, rfl, hx⟩
    · rw [List.getElem?_set_ne hj] at e ⊢
      obtain ⟨v, ev, hv⟩ := rel.slot j x e
      refine ⟨v, ev, ?_⟩
      cases x with
      | fr d => exact hv
      | ow d => exact hv
      | bw d =>
        cases d <;> first
          | exact hv
          | skip
        obtain ⟨_, _, _, e1, _⟩ := hv
        rw [hB] at e1
        cases e1
  · obtain ⟨n1, e1⟩ := e2 j _ ej
    obtain ⟨n2, e3⟩ := e2 k _ ek
    rw [List.getElem?_set_ne n1, List.getElem?_set_ne n2]
    exact rel.dist j k x y b hjk e1 e3
  · obtain ⟨n1, e1⟩ := e2 j _ ej
    rw [List.getElem?_set_ne n1] at ea
    exact rel.own j x a e1 ea
theorem RelS.unEr {a : Addr} {cls : Value} {dd : Option Addr} (rel : RelS X.K X.mg (B.su a cls dd) F0 F H σ s) (h : ¬ s.any Sl.isEr = true) : RelS X.K X.mg B F0 F H σ s := by
  refine ⟨⟨rel.len, rel.h0, rel.fh, fun j x e => ?_, rel.dist, rel.me⟩, rel.f0, rel.fresh, rel.own⟩
  obtain ⟨v, ev, hv⟩ := rel.slot j x e
  refine ⟨v, ev, ?_⟩
  cases x with
  | fr d => exact hv
  | ow d => exact hv
  | bw d => exact absurd (List.any_eq_true.mpr ⟨_, List.mem_of_getElem? e, rfl⟩) h
theorem post_unset {o : O} {i : Nat} {a : Addr} {cls : Value} {dd : Option Addr} (h0' : Ok0 B i) (h : Post X B F0 Dn W (unset i o)) :
    Post X (B.su a cls dd) F0 { nx := fun σ' H' => Dn.nx (σ'.set i none) H', rt := Dn.rt, bk := fun σ' H' => Dn.bk (σ'.set i none) H', ct := fun σ' H' => Dn.ct (σ'.set i none) H' } (fun _ _ _ _ => False) o := by
  cases o with
  | nx s' =>
    unfold unset at h
    intro σ' F' H' r
    by_cases c : (s'.set i none).any Sl.isEr = true
    · simp only [if_pos c] at h; exact h.elim
    · simp only [if_neg c] at h
      exact h _ F' H' ((r.forget i none h0').unEr c)
  | bk s' =>
    unfold unset at h
    intro σ' F' H' r
    by_cases c : (s'.set i none).any Sl.isEr = true
    · simp only [if_pos c] at h; exact h.elim
    · simp only [if_neg c] at h
      exact h _ F' H' ((r.forget i none h0').unEr c)
  | ct s' =>
    unfold unset at h
    intro σ' F' H' r
    by_cases c : (s'.set i none).any Sl.isEr = true
    · simp only [if_pos c] at h; exact h.elim
    · simp only [if_neg c] at h
      exact h _ F' H' ((r.forget i none h0').unEr c)
  | rt b d => exact fun v F' H' r hv => h v F' H' ⟨r.h0, r.f0, r.fh, r.fresh⟩ hv
  | ex c fs s' => exact h.elim
  | bad => exact h
theorem post_noX {X' : Cx} {sd : SD} (h : Post X B F0 Dn W (noX' sd C s)) : Post X B F0 Dn (fun _ _ _ _ => False) (sd C s) := by
  unfold noX' at h
  cases k : sd C s <;> rw [k] at h <;> first
    | exact (show False from h).elim
    | exact h
theorem s_try_as {x n : Str} {cv : Value} {i : Nat} {body suite : List Stmt} {b₀ : Stmt} {np pos' : Pos} {bd sd : SD} {m : Str → Option Bool} (h0' : Ok0 B i) (hB : B.er = none) (hs : X.stack = X.env :: X.outer) (hf : X.env.frame = some X.env.locals) (hN : X.N.Nodup) (hi : X.N[i]? = some n)
    (hln : X.env.kindOf n = some .local) (hc : Names X x cv) (hm : MatchOk X m cv) (tk : Takes X W)
    (hb : ∀ (W : WX) (pn : List (Addr × Obj)) (xe : Value → Shared → Prop), Takes (X.tr pn xe) W → PassesOwn (model X.prog X.w) X.A X.env xe → PSs (X.tr pn xe) body (tS X B C bd W))
    (hsu : ∀ (a : Addr) (oe : Obj) (cls : Value) (d : Option Addr) (pn : List (Addr × Obj)), Zc cls d oe → (∃ vs, oe.data = .fields vs) → PSs (X.suite a ((a, oe) :: pn)) (b₀ :: suite) (tS X (B.su a cls d) C sd fun _ _ _ _ => False)) :
    PS X (.Try body [.ExceptHandler (some (.Name x np)) (some n) (b₀ :: suite) pos'] [] [] pos) (tS X B C (sTryAs bd i m sd) W) := (ps_try_as hs hf hN hi hln hc tk hb hsu).wk fun Dn σ H ⟨F0, F, s, rel, h⟩ => by
  refine ⟨F0, F, s, rel, ?_⟩
  unfold sTryAs at h
  cases k : bd C s with
  | ex c fs s1 =>
    simp only [k] at h
    refine fun cls dd σ1 F1 H1 r1 hx => ?_
    obtain ⟨Ca, hC, e1, hf1⟩ := id hx
    cases k2 : m c with
    | none => simp only [k2] at h; exact h.elim
    | some b =>
      simp only [k2] at h
      refine ⟨b, by rw [e1]; exact hm c b k2 Ca hC, fun hb a ha => ?_, fun hb => ?_⟩
      · subst hb
        by_cases hil : i < s1.length
        · simp only [if_pos hil] at h
          exact ⟨F0, F1, _, r1.er hB h0' hx, post_unset h0' h⟩
        · simp only [if_neg hil] at h
          exact h.elim
      · subst hb
        exact h cls dd σ1 F1 H1 r1 hx
  | nx s' => simp only [k] at h; exact h
  | bk s' => simp only [k] at h; exact h
  | ct s' => simp only [k] at h; exact h
  | rt b d => simp only [k] at h; exact h
  | bad => simp only [k] at h; exact h
theorem s_try_only {x : Str} {cv : Value} {body suite : List Stmt} {b₀ : Stmt} {np pos' : Pos} {bd sd : SD} {m : Str → Option Bool} (hs : X.stack = X.env :: X.outer) (hf : X.env.frame = some X.env.locals) (hc : Names X x cv) (hm : MatchOk X m cv) (tk : Takes X W)
    (hb : ∀ (W : WX) (pn : List (Addr × Obj)) (xe : Value → Shared → Prop), Takes (X.tr pn xe) W → PassesOwn (model X.prog X.w) X.A X.env xe → PSs (X.tr pn xe) body (tS X B C bd W))
    (hsu : ∀ (a : Addr) (oe : Obj) (cls : Value) (d : Option Addr) (pn : List (Addr × Obj)), Zc cls d oe → (∃ vs, oe.data = .fields vs) → PSs (X.suite a ((a, oe) :: pn)) (b₀ :: suite) (tS X B C sd fun _ _ _ _ => False)) :
    PS X (.Try body [.ExceptHandler (some (.Name x np)) none (b₀ :: suite) pos'] [] [] pos) (tS X B C (sTryOnly bd m sd) W) := (ps_try_only (ts := fun _ _ _ => tS X B C sd fun _ _ _ _ => False) hs hf hc tk hb hsu).wk fun Dn σ H ⟨F0, F, s, rel, h⟩ => by
  refine ⟨F0, F, s, rel, ?_⟩
  unfold sTryOnly at h
  cases k : bd C s with
  | ex c fs s1 =>
    simp only [k] at h
    refine fun cls dd σ1 F1 H1 r1 hx => ?_
    obtain ⟨Ca, hC, e1, hf1⟩ := id hx
    cases k2 : m c with
    | none => simp only [k2] at h; exact h.elim
    | some b =>
      simp only [k2] at h
      refine ⟨b, by rw [e1]; exact hm c b k2 Ca hC, fun hb a ha => ?_, fun hb => ?_⟩
      · subst hb
        exact ⟨F0, F1, _, r1, post_noX (X' := X) h⟩
      · subst hb
        exact h cls dd σ1 F1 H1 r1 hx
  | nx s' => simp only [k] at h; exact h
  | bk s' => simp only [k] at h; exact h
  | ct s' => simp only [k] at h; exact h
  | rt b d => simp only [k] at h; exact h
  | bad => simp only [k] at h; exact h
/-- several clauses -/
def HcOk (X : Cx) (B : Bas) (C : Call) : List ((Str → Option Bool) × SD) → List (Value × (Addr → Value → Option Addr → TS)) → Prop
  | [], [] => True
  | (m, su) :: r, (c, ts) :: l => (ts = fun _ _ _ => tS X B C su fun _ _ _ _ => False) ∧ MatchOk X m c ∧ HcOk X B C r l
  | _, _ => False
theorem many_ok : ∀ {hs : List ((Str → Option Bool) × SD)} {l : List (Value × (Addr → Value → Option Addr → TS))} {c : Str} {fs : List (Str × D)} {s1 : SE} {cls : Value} {dd : Option Addr} {σ1 : L2.St} {F1 H1 : Hp}, HcOk X B C hs l → RelS X.K X.mg B F0 F1 H1 σ1 s1 → ExAt X X.mg c fs cls dd H1 →
    Post X B F0 Dn W (sHands hs C c fs s1) → wMany X.K W Dn l cls dd σ1 H1
  | [], [], c, fs, s1, cls, dd, σ1, F1, H1, _, r1, hx, h => h cls dd σ1 F1 H1 r1 hx
  | [], _ :: _, _, _, _, _, _, _, _, _, ho, _, _, _ => ho.elim
  | _ :: _, [], _, _, _, _, _, _, _, _, ho, _, _, _ => ho.elim
  | (m, su) :: r, (cv, ts) :: l, c, fs, s1, cls, dd, σ1, F1, H1, ho, r1, hx, h => by
    obtain ⟨e0, hm, ho⟩ := ho
    obtain ⟨Ca, hC, e1, hf1⟩ := id hx
    unfold sHands at h
    cases k2 : m c with
    | none => simp only [k2] at h; exact h.elim
    | some b =>
      simp only [k2] at h
      refine ⟨b, by rw [e1]; exact hm c b k2 Ca hC, fun hb a ha => ?_, fun hb => ?_⟩
      · subst hb e0
        exact ⟨F0, F1, _, r1, post_noX (X' := X) h⟩
      · subst hb
        exact many_ok ho r1 hx h
theorem s_try_many {body : List Stmt} {h0 : ExceptHandler} {hds : List ExceptHandler} {l : List (Value × (Addr → Value → Option Addr → TS))} {bd : SD} {hs' : List ((Str → Option Bool) × SD)} (hs : X.stack = X.env :: X.outer) (hf : X.env.frame = some X.env.locals) (tk : Takes X W)
    (hb : ∀ (W : WX) (pn : List (Addr × Obj)) (xe : Value → Shared → Prop), Takes (X.tr pn xe) W → PassesOwn (model X.prog X.w) X.A X.env xe → PSs (X.tr pn xe) body (tS X B C bd W)) (hh : HdsOk X (h0 :: hds) l) (ho : HcOk X B C hs' l) :
    PS X (.Try body (h0 :: hds) [] [] pos) (tS X B C (sTryMany bd hs') W) := (ps_try_many (tb := fun W => tS X B C bd W) hs hf tk hb hh).wk fun Dn σ H ⟨F0, F, s, rel, h⟩ => by
  refine ⟨F0, F, s, rel, ?_⟩
  unfold sTryMany at h
  cases k : bd C s with
  | ex c fs s1 =>
    simp only [k] at h
    exact fun cls dd σ1 F1 H1 r1 hx => many_ok ho r1 hx h
  | nx s' => simp only [k] at h; exact h
  | bk s' => simp only [k] at h; exact h
  | ct s' => simp only [k] at h; exact h
  | rt b d => simp only [k] at h; exact h
  | bad => simp only [k] at h; exact h
/-! ### for -/
/-- what is walked, as items that stand in F, as long as G stands -/
structure Wk (X : Cx) (J : It) (G F : Hp) (ds : List D) : Prop where
  go : ∀ (i : Nat) (H : Hp), i < ds.length → Same G H → J.go i H
  stop : ∀ (H : Hp), Same G H → J.stop ds.length H
  yld : ∀ (i : Nat) (d : D) (H : Hp) (x : V) (H' F2 : Hp), ds[i]? = some d → Same G H → Same F F2 → Same F2 H → J.yld i H x H' → ∃ F3, Stp Z0 F2 H F3 H' ∧ Rp X.K X.mg F3 x d
theorem Wk.mono {J : It} {G G' F : Hp} {ds : List D} (h : Wk X J G F ds) (k : Same G G') : Wk X J G' F ds := ⟨fun i H hi s => h.go i H hi (k.trans s), fun H s => h.stop H (k.trans s), fun i d H x H' F2 e s => h.yld i d H x H' F2 e (k.trans s)⟩
def tI (X : Cx) (B : Bas) (C : Call) (e : ID) (fz : List Nat) (W : WX) : TI := fun σ H R => ∃ F s, RelW X.K X.mg B F H σ s ∧ match e C s with
  | .ok ds => ∀ J F' H', Stp (Zof fz σ s) F H F' H' → Wk X J F' F' ds → R J H'
  | .ex c fs => ∀ cls dd H', Same H H' → ExAt X X.mg c fs cls dd H' → W cls dd σ H'
  | .bad => False
/-- what is walked within one expression -/
def tJ (X : Cx) (B : Bas) (C : Call) (e : ID) (fz : List Nat) (W : WX) : TI := fun σ H R => ∃ F s, RelW X.K X.mg B F H σ s ∧ match e C s with
  | .ok ds => ∀ J F' H', Stp (Zof fz σ s) F H F' H' → Wk X J H' F' ds → R J H'
  | .ex c fs => ∀ cls dd H', Same H H' → ExAt X X.mg c fs cls dd H' → W cls dd σ H'
  | .bad => False
def TgOk (X : Cx) (B : Bas) (tg : TG) (g : Tg) : Prop := ∀ (F0 F H : Hp) (σ : L2.St) (s s1 : SE) (v : V) (d : D) (Q : L2.St → Hp → Prop), RelS X.K X.mg B F0 F H σ s → Rp X.K X.mg F v d → g.put d s = some s1 → (∀ σ', RelS X.K X.mg B F0 F H σ' s1 → Q σ' H) → tg v σ H Q
theorem puts_cons {g : Tg} {r : Tgs} {ds : List D} {s s1 : SE} (h : (Tgs.cons g r).put ds s = some s1) : ∃ d t s', ds = d :: t ∧ g.put d s = some s' ∧ r.put t s' = some s1 := by
  cases ds with
  | nil => cases h
  | cons d t =>
    have h : (g.put d s).bind (fun s1 => r.put t s1) = some s1 := h
    cases q : g.put d s with
    | none => rw [q] at h; cases h
    | some s' => rw [q] at h; exact ⟨d, t, s', rfl, q, h⟩
theorem puts_nil {ds : List D} {s s1 : SE} (h : Tgs.put .nil ds s = some s1) : ds = [] ∧ s = s1 := by
  cases ds with
  | nil => exact ⟨rfl, Option.some.inj h⟩
  | cons d t => cases h
theorem puts_len : ∀ {l : Tgs} {ds : List D} {s s1 : SE}, l.put ds s = some s1 → ds.length = l.len
  | .nil, ds, s, s1, h => by rw [(puts_nil h).1]; rfl
  | .cons g r, ds, s, s1, h => by
    obtain ⟨d, t, s', rfl, _, h2⟩ := puts_cons h
    rw [List.length_cons, puts_len h2]
    rfl
/-! how a target is stored -/
mutual
def ggOf (K : PySem.W.Frag) : Tg → TG
  | .nm i => gName i
  | .tp l => gTup K l.len (gAll K l)
def gAll (K : PySem.W.Frag) : Tgs → TGs
  | .nil => gNil
  | .cons g r => gCons (ggOf K g) (gAll K r)
end
theorem put_tup {l : Tgs} {d : D} {s s1 : SE} (h : Tg.put (.tp l) d s = some s1) : ∃ ds, d = .tup ds ∧ l.put ds s = some s1 := by
  cases d <;> first
    | (cases h; done)
    | skip
  exact ⟨_, rfl, h⟩
mutual
theorem tg_ok : ∀ (g : Tg), (∀ i ∈ g.sl, Ok0 B i) → TgOk X B (ggOf X.K g) g
  | .nm i, h0, F0, F, H, σ, s, s1, v, d, Q, rel, hv, e, h => by
    cases e
    exact h _ (rel.put hv i (h0 i List.mem_cons_self))
  | .tp l, h0, F0, F, H, σ, s, s1, v, d, Q, rel, hv, e, h => by
    obtain ⟨ds, rfl, e⟩ := put_tup e
    obtain ⟨a, vs, e1, h1, h2⟩ := hv
    exact ⟨a, vs, e1, SqT.of (rel.fh _ _ h1), by rw [h2.len, puts_len e], gAll_ok l h0 F0 F H σ s s1 ds vs Q rel h2 e h⟩
theorem gAll_ok : ∀ (l : Tgs), (∀ i ∈ l.sl, Ok0 B i) → ∀ (F0 F H : Hp) (σ : L2.St) (s s1 : SE) (ds : List D) (vs : List V) (Q : L2.St → Hp → Prop), RelS X.K X.mg B F0 F H σ s → RpL X.K X.mg F vs ds → l.put ds s = some s1 → (∀ σ', RelS X.K X.mg B F0 F H σ' s1 → Q σ' H) → gAll X.K l vs σ H Q
  | .nil, h0, F0, F, H, σ, s, s1, ds, vs, Q, rel, hv, e, h => by
    obtain ⟨rfl, rfl⟩ := puts_nil e
    exact ⟨hv, h _ rel⟩
  | .cons g r, h0, F0, F, H, σ, s, s1, ds, vs, Q, rel, hv, e, h => by
    obtain ⟨d, t, s', rfl, e1, e2⟩ := puts_cons e
    obtain ⟨v, vr, e3, h1, h2⟩ := hv
    exact ⟨v, vr, e3, tg_ok g (fun i hi => h0 i (List.mem_append_left _ hi)) F0 F H σ s s' v d _ rel h1 e1 fun σ' rel' => gAll_ok r (fun i hi => h0 i (List.mem_append_right _ hi)) F0 F H σ' s' s1 t vr Q rel' h2 e2 h⟩
end
theorem RelS.step0 (rel : RelS X.K X.mg B F0 F H σ s) (t : Stp Z0 F H F' H') : RelS X.K X.mg B F0 F' H' σ s := by
  refine ⟨rel.toRelW.step (fz := []) t.of0, rel.f0.trans t.ff, fun a o h => ?_, fun i d a e1 e2 => ?_⟩
  · rcases t.fr a o h with h | h | h
    · exact rel.fresh a o h
    · exact .inr (rel.h0.free h)
    · exact h.elim
  · obtain ⟨v, ev, b, eb, n, hO⟩ := rel.slot i _ e1
    rw [e2] at ev
    cases ev
    cases eb
    cases q : F' a with
    | none => rfl
    | some o =>
      rcases t.fr a o q with h | h | h
      · rw [rel.own i d a e1 e2] at h; cases h
      · obtain ⟨o', ho'⟩ := hO.there
        rw [h] at ho'; cases ho'
      · exact h.elim
theorem s_for {iter tgt : Expr} {body : List Stmt} {di : ID} {g : Tg} {tg : TG} {bd : SD} (hp : PassesOwn (model X.prog X.w) X.A X.env X.xe) (hc : X.calm = true) (hi : PI X tgt iter (tI X B C di fz W)) (hg : PG X tgt tg) (hT : TgOk X B tg g) (hb : PSs X body (tS X B C bd W))
    (hs : ∀ x, foldedSetIterable iter X.env x = pure x) : PS X (.For tgt iter body [] pos) (tS X B C (sFor g di fz bd) W) := (ps_for hp hc hi hg hb hs).wk fun Dn σ H ⟨F0, F, s, rel, h⟩ => by
  refine ⟨F, s, rel.toRelW, ?_⟩
  unfold sFor at h
  cases k : di C s with
  | ex c fs =>
    simp only [k] at h
    exact fun cls dd H' t hx => h cls dd σ F H' (rel.same t) hx
  | bad => simp only [k] at h; exact h
  | ok ds =>
    simp only [k] at h
    refine fun J F' H1 t hJ => ?_
    obtain ⟨F2, f1, rel2, _⟩ := rel.demote t
    refine ⟨fun i m σ' H' => m = ds.length - i ∧ i ≤ ds.length ∧ ∃ F3 s', Same F' F3 ∧ RelS X.K X.mg B F0 F3 H' σ' s' ∧ Post X B F0 Dn W (forD C g bd (ds.drop i) s'), ⟨ds.length, by simp, Nat.zero_le _, F2, _, f1, rel2, h⟩, ?_⟩
    rintro i m σ' H' ⟨rfl, hi, F3, s', f3, r3, p3⟩
    by_cases hlt : i < ds.length
    · refine .inr ⟨hJ.go i H' hlt (f3.trans r3.fh), ?_⟩
      rw [List.drop_eq_getElem_cons hlt] at p3
      unfold forD at p3
      cases q : g.put ds[i] s' with
      | none => simp only [q] at p3; exact p3.elim
      | some s1 =>
        simp only [q] at p3
        refine ⟨fun σ' H' => ∃ F3 s', Same F' F3 ∧ RelS X.K X.mg B F0 F3 H' σ' s' ∧ Post X B F0 Dn W (forD C g bd (ds.drop (i + 1)) s'), fun σ4 H4 ⟨F4, s4, f4, r4, p4⟩ => ⟨_, by omega, rfl, by omega, F4, s4, f4, r4, p4⟩, fun x H5 hy => ?_⟩
        obtain ⟨F5, t5, hx⟩ := hJ.yld i ds[i] H' x H5 F3 (List.getElem?_eq_getElem hlt) (f3.trans r3.fh) f3 r3.fh hy
        refine hT F0 F5 H5 σ' s' s1 x ds[i] _ (r3.step0 t5) hx q fun σ6 r6 => ?_
        have fb : ∀ a o, F5 a = some o → F0 a = some o ∨ B.H0 a = none := r6.fresh
        refine ⟨F5, F5, s1, ⟨r6.toRelW, .refl _, fun a o h => .inl h, r6.own⟩, ?_⟩
        cases q2 : bd C s1 with
        | nx s2 =>
          simp only [q2] at p3
          exact fun σ7 F7 H7 r7 => ⟨F7, s2, (f3.trans t5.ff).trans r7.f0, r7.rebase r6.f0 fb, p3⟩
        | ct s2 =>
          simp only [q2] at p3
          exact fun σ7 F7 H7 r7 => ⟨F7, s2, (f3.trans t5.ff).trans r7.f0, r7.rebase r6.f0 fb, p3⟩
        | bk s2 =>
          simp only [q2] at p3
          exact fun σ7 F7 H7 r7 => p3 σ7 F7 H7 (r7.rebase r6.f0 fb)
        | rt b d =>
          simp only [q2] at p3
          exact fun v F7 H7 r7 => p3 v F7 H7 (r7.rebase r6.f0 fb)
        | ex c fs s2 =>
          simp only [q2] at p3
          exact fun cls dd σ7 F7 H7 r7 => p3 cls dd σ7 F7 H7 (r7.rebase r6.f0 fb)
        | bad => simp only [q2] at p3; exact p3
    · have ei : i = ds.length := by omega
      subst ei
      rw [List.drop_length] at p3
      exact .inl ⟨hJ.stop H' (f3.trans r3.fh), p3 σ' F3 H' r3⟩
theorem s_while {t : Expr} {body : List Stmt} {dt : BD} {bd : SD} (hp : PassesOwn (model X.prog X.w) X.A X.env X.xe) (hc : PT X t (DN.tB X B C dt W)) (hb : PSs X body (tS X B C bd W)) : PS X (.While t body [] pos) (tS X B C (sWhile dt bd) W) :=
  (ps_while hp hc hb).wk fun Dn σ H ⟨F0, F, s, rel, h⟩ => by
  refine ⟨fun m σ' H' => ∃ F s, RelS X.K X.mg B F0 F H' σ' s ∧ Post X B F0 Dn W (whileD C dt bd m s), ⟨WLIM, F, s, rel, h⟩, ?_⟩
  rintro m σ' H' ⟨F1, s1, r1, p1⟩
  refine ⟨F1, s1, r1.toRelW, ?_⟩
  cases m with
  | zero => exact (show False from p1).elim
  | succ m =>
    unfold whileD at p1
    cases q : dt C s1 with
    | ex c fs =>
      simp only [q] at p1
      exact fun cls dd H2 t2 hx => p1 cls dd σ' F1 H2 (r1.same t2) hx
    | bad => simp only [q] at p1; exact p1
    | ok b =>
      cases b with
      | false =>
        simp only [q] at p1
        exact fun H2 t2 => iteF (p1 σ' F1 H2 (r1.same t2))
      | true =>
        simp only [q] at p1
        refine fun H2 t2 => iteT ⟨fun σ3 H3 => ∃ F s, RelS X.K X.mg B F0 F H3 σ3 s ∧ Post X B F0 Dn W (whileD C dt bd m s), fun σ3 H3 z => ⟨m, Nat.lt_succ_self m, z⟩, F0, F1, s1, r1.same t2, ?_⟩
        cases q2 : bd C s1 with
        | nx s2 =>
          simp only [q2] at p1
          exact fun σ7 F7 H7 r7 => ⟨F7, s2, r7, p1⟩
        | ct s2 =>
          simp only [q2] at p1
          exact fun σ7 F7 H7 r7 => ⟨F7, s2, r7, p1⟩
        | bk s2 => simp only [q2] at p1; exact p1
        | rt b d => simp only [q2] at p1; exact p1
        | ex c fs s2 => simp only [q2] at p1; exact p1
        | bad => simp only [q2] at p1; exact p1
end
end DN
/-! Den10: changes of own values; what is walked. -/
namespace DN
open PySem PySem.Spec PyProof.Rows L2
section
variable {X : Cx} {B : Bas} {C : Call} {W : WX} {F F' H H' F0 F1 : Hp} {σ : L2.St} {s : SE} {fz fy : List Nat} {e : Expr} {pos p2 p3 cpos apos : Pos} {Dn : Ends}
theorem own_xd {K : PySem.W.Frag} {mg : Str → Option Value} {F H : Hp} {a : Addr} {vfs : List (Str × V)} : ∀ {d : D}, Own K mg F H a d → H a = some (.xd vfs) → False
  | .lst l, ⟨vs, h1, _⟩, e => by rw [h1] at e; cases e
  | .dic l, h, e => by rcases h with ⟨kvs, h1, _⟩ | ⟨kvs, h1, _⟩ <;> (rw [h1] at e; cases e)
  | .obj c fs, ⟨_, _, _, _, h1, _⟩, e => by rw [h1] at e; cases e
  | .non, h, _ => h.elim
  | .bl _, h, _ => h.elim
  | .int _, h, _ => h.elim
  | .str _, h, _ => h.elim
  | .tup _, h, _ => h.elim
  | .scr _, h, _ => h.elim
  | .cls _, h, _ => h.elim
  | .ft _, h, _ => h.elim
  | .rng _, h, _ => h.elim
theorem RelS.change {i : Nat} {a : Addr} {d d' : D} {o : HO} (rel : RelS X.K X.mg B F0 F H σ s) (e1 : s[i]? = some (some (.ow d))) (ea : σ[i]? = some (some (.ref a))) (hO : Own X.K X.mg F (upd H a o) a d') :
    RelS X.K X.mg B F0 F (upd H a o) σ (s.set i (some (.ow d'))) := by
  obtain ⟨v, ev, b, eb, n0, hO1⟩ := rel.slot i _ e1
  rw [ea] at ev
  cases ev
  cases eb
  have nf := rel.own i d a e1 ea
  have hil : i < s.length := (List.getElem?_eq_some_iff.mp e1).1
  have e2 : ∀ (m : Nat) (z : D), i ≠ m → (s.set i (some (.ow d')))[m]? = some (some (.ow z)) → s[m]? = some (some (.ow z)) := fun m z hm e => by rwa [List.getElem?_set_ne hm] at e
  have ow : ∀ (m : Nat) (z : D), (s.set i (some (.ow d')))[m]? = some (some (.ow z)) → ∃ y, s[m]? = some (some (.ow y)) := fun m z e => by
    by_cases hm : i = m
    · subst hm; exact ⟨d, e1⟩
    · exact ⟨z, e2 m z hm e⟩
  refine ⟨⟨by rw [List.length_set]; exact rel.len, fun b u h => ?_, fun b u h => ?_, fun j x e => ?_, fun j k x y b hjk ej ek => ?_, rel.me⟩, rel.f0, rel.fresh, fun j x b ej eb => ?_⟩
  · rw [upd_ne (ne_of_none h n0)]; exact rel.h0 _ _ h
  · rw [upd_ne (ne_of_none h nf)]; exact rel.fh _ _ h
  · by_cases hj : i = j
    · subst hj
      rw [List.getElem?_set_self hil] at e
      cases e
      exact ⟨_, ea, a, rfl, n0, hO⟩
    · rw [List.getElem?_set_ne hj] at e
      obtain ⟨w, ew, hw⟩ := rel.slot j x e
      refine ⟨w, ew, ?_⟩
      cases x with
      | fr z => exact hw
      | ow z =>
        obtain ⟨c, ec, nc, hc⟩ := hw
        refine ⟨c, ec, nc, hc.mono (.refl _) fun u q => ?_⟩
        subst ec
        rw [upd_ne fun z => by subst z; exact rel.dist i j _ _ _ hj e1 e ea ew]
        exact q
      | bw z =>
        cases z <;> first
          | exact (show False from hw).elim
          | skip
        obtain ⟨b, cls, dd, e1, e2, e3⟩ := hw
        refine ⟨b, cls, dd, e1, e2, e3.mono fun d vfs q => ?_⟩
        rw [upd_ne fun z => by subst z; exact own_xd hO1 q]
        exact q
  · obtain ⟨x', hx⟩ := ow j x ej
    obtain ⟨y', hy⟩ := ow k y ek
    exact rel.dist j k x' y' b hjk hx hy
  · obtain ⟨x', hx⟩ := ow j x ej
    exact rel.own j x' b hx eb
theorem settle_ow {d : D} {i : Nat} {x : D} (h : (settle fz d s)[i]? = some (some (.ow x))) : s[i]? = some (some (.ow x)) := by
  unfold settle at h
  by_cases hd : d.flat = true
  · rw [if_pos hd] at h; exact h
  · rw [if_neg hd] at h
    have key : ∀ (l : List Nat) (s : SE), (demote l s)[i]? = some (some (.ow x)) → s[i]? = some (some (.ow x)) := by
      intro l
      induction l with
      | nil => exact fun s h => h
      | cons m r ih =>
        intro s h
        have h2 := ih _ h
        by_cases hm : m = i
        · subst hm
          by_cases hl : m < s.length
          · rw [List.getElem?_set_self hl] at h2
            have h3 : keepSl (s.getD m none) = some (.ow x) := Option.some.inj h2
            cases q : s.getD m none with
            | none => rw [q] at h3; cases h3
            | some z => rw [q] at h3; cases z <;> cases h3
          · rw [List.getElem?_eq_none (by simpa using hl)] at h2; cases h2
        · rwa [List.getElem?_set_ne hm] at h2
    exact key fz s h
theorem few_ok {es : List Expr} (h : es.all notStar = true) (hn : es.length < 30) : ((backTo cpos (starEach es X.env)).all (fun x => !x.1) && (backToKw cpos (keywordEach [] X.env)).all (fun x => x.1.isSome)
      && decide (es.length + ([] : List Keyword).length + (if ([] : List Keyword).isEmpty then 0 else 1) < 30)) = true := by
  have hall : ∀ {l : List Expr}, l.all notStar = true → (backTo cpos (starEach l X.env)).all (fun x => !x.1) = true := by
    intro l
    induction l with
    | nil => intro _; rfl
    | cons a r ih =>
      intro h
      rw [List.all_cons, Bool.and_eq_true] at h
      rw [star_cons h.1]
      show (!false && (backTo cpos (starEach r X.env)).all (fun x => !x.1)) = true
      rw [ih h.2]
      rfl
  rw [hall h]
  show (true && true && decide (es.length + 0 + 0 < 30)) = true
  rw [decide_eq_true (by omega)]
  rfl
theorem ownL_at {i : Nat} {l : List D} (h : ownL s i = some l) : s[i]? = some (some (.ow (.lst l))) := by
  unfold ownL at h
  split at h
  · rename_i l' e
    cases h
    exact e
  · cases h
theorem ownO_at {i : Nat} {c : Str} {fs : List (Str × D)} (h : ownO s i = some (c, fs)) : s[i]? = some (some (.ow (.obj c fs))) := by
  unfold ownO at h
  split at h
  · rename_i k l' e
    cases h
    exact e
  · cases h
theorem s_app {i : Nat} {x : Str} {de : LD} (hN : X.N[i]? = some x) (hv : Vis X.env.scope x) (hd : (x == ("__debug__" : Str)) = false) (hcd : (x == ("__classdict__" : Str)) = false) (he : PE X e (tF X B C de fz W)) (hns : notStar e = true) (hl : (apos.endLine == cpos.line) = true) :
    PS X (.Expr (.Call (.Attribute (.Name x p2) "append" apos) [e] [] cpos) pos) (tS X B C (sApp i de fz) W) :=
  (ps_expr (pe_bm PySem.F.plainAttrs_list PySem.F.slot_list_append PySem.F.type_list_append mt_append (pe_var hN hv hd hcd) (pa_cons he pa_nil (star_cons hns)) rfl (few_ok (by rw [List.all_cons, hns]; rfl) (show (1 : Nat) < 30 by decide)) hl (star_cons hns) rfl) rfl).wk fun Dn σ H ⟨F0, F, s, rel, h⟩ => by
  unfold sApp at h
  cases k0 : ownL s i with
  | none => simp only [k0] at h; exact h.elim
  | some l0 =>
    simp only [k0] at h
    obtain ⟨v, ev, a, rfl, n0, vs, h1, r1⟩ := rel.slot i _ (ownL_at k0)
    refine ⟨_, ev, .inl ⟨rfl, vs, SqL.of h1⟩, F, s, rel.toRelW, ?_⟩
    cases k : de C s with
    | ok d =>
      simp only [k] at h
      cases k2 : ownL (settle fz d s) i with
      | none => simp only [k2] at h; exact h.elim
      | some l =>
        simp only [k2] at h
        by_cases hlen : l.length < LIM
        · rw [if_pos hlen] at h
          refine fun w F1 H1 t hw => ?_
          obtain ⟨F2, rel2, hw2, ff⟩ := rel.settle t hw
          obtain ⟨v2, ev2, a2, ea2, _, vs2, h2, r2⟩ := rel2.slot i _ (ownL_at k2)
          rw [ev] at ev2
          cases ev2
          cases ea2
          refine ⟨a, vs2, w, rfl, rfl, h2, lim_lt (by rw [r2.len]; exact Nat.le_of_lt hlen), ?_⟩
          exact h σ F2 _ (rel2.change (ownL_at k2) ev ⟨_, upd_same, r2.append (RpL.cons hw2 rfl)⟩)
        · rw [if_neg hlen] at h
          exact h.elim
    | ex c fs =>
      simp only [k] at h
      exact fun cls dd H' t hx => h cls dd σ F H' (rel.same t) hx
    | bad => simp only [k] at h; exact h.elim
theorem s_rev {i : Nat} {x : Str} (hN : X.N[i]? = some x) (hv : Vis X.env.scope x) (hd : (x == ("__debug__" : Str)) = false) (hcd : (x == ("__classdict__" : Str)) = false) (hl : (apos.endLine == cpos.line) = true) :
    PS X (.Expr (.Call (.Attribute (.Name x p2) "reverse" apos) [] [] cpos) pos) (tS X B C (sRev i) W) :=
  (ps_expr (pe_bm0 PySem.F.plainAttrs_list PySem.F.slot_list_reverse PySem.F.type_list_reverse mt_reverse (pe_var hN hv hd hcd) rfl hl) rfl).wk fun Dn σ H ⟨F0, F, s, rel, h⟩ => by
  unfold sRev at h
  cases k0 : ownL s i with
  | none => simp only [k0] at h; exact h.elim
  | some l =>
    simp only [k0] at h
    obtain ⟨v, ev, a, rfl, n0, vs, h1, r1⟩ := rel.slot i _ (ownL_at k0)
    exact ⟨_, ev, .inl ⟨rfl, vs, SqL.of h1⟩, a, vs, rfl, rfl, h1, h σ F _ (rel.change (ownL_at k0) ev ⟨_, upd_same, r1.reverse⟩)⟩
/-- a number by a slice's part -/
theorem ix_read {dj : OD} {σ : L2.St} {H : Hp} {Q : VK} {da : LD} (hj : dj = oSome da) (rel : RelS X.K X.mg B F0 F H σ s) {k : Int} (e : dj C s = .ok (some k)) (h : ∀ H', Same H H' → Q (.int k) H') : tP X B C da fz W σ H Q := by
  subst hj
  refine ⟨F, s, rel.toRelW, ?_⟩
  unfold oSome at e
  cases q : da C s with
  | ok x =>
    simp only [q, R.bind] at e
    refine fun v F' H' t hv => ?_
    cases x with
    | int i =>
      have e : i = k := by
        have z : (R.ok (some i) : R (Option Int)) = .ok (some k) := e
        cases z
        rfl
      subst e
      rw [hv.int]
      exact h H' t.hh
    | _ => cases (show (R.bad : R (Option Int)) = .ok (some k) from e)
  | ex c fs => simp only [q, R.bind] at e; cases e
  | bad => simp only [q, R.bind] at e; cases e
theorem s_putIx {i : Nat} {x : Str} {j : Expr} {dj de : LD} (hN : X.N[i]? = some x) (hv : Vis X.env.scope x) (hd : (x == ("__debug__" : Str)) = false) (hcd : (x == ("__classdict__" : Str)) = false) (he : PE X e (tF X B C de fz W)) (hj : PE X j (tP X B C dj fy W)) (hp : plainIx j = true)
    (hs : swapsWithSole [.Subscript (.Name x p2) j p3] e pos.line X.env = pure false) (hw : swappedStores [.Subscript (.Name x p2) j p3] e X.env = pure none) :
    PS X (.Assign [.Subscript (.Name x p2) j p3] e pos) (tS X B C (sPutIx i (oSome dj) de fz) W) :=
  (ps_asg he (pg_sub (pe_var hN hv hd hcd) hj set_list (by
    intro v
    cases j <;> first | rfl | cases hp)) hs hw rfl).wk fun Dn σ H ⟨F0, F, s, rel, h⟩ => by
  unfold sPutIx at h
  refine ⟨F, s, rel.toRelW, ?_⟩
  cases k : de C s with
  | ok d =>
    simp only [k] at h
    cases k2 : ownL (settle fz d s) i with
    | none => simp only [k2] at h; exact h.elim
    | some l =>
      simp only [k2] at h
      refine fun w F1 H1 t hw => ?_
      obtain ⟨F2, rel2, hw2, ff⟩ := rel.settle t hw
      obtain ⟨v, ev, a, rfl, n0, vs, h1, r1⟩ := rel2.slot i _ (ownL_at k2)
      refine ⟨_, ev, ?_⟩
      cases k3 : oSome dj C (settle fz d s) with
      | ok o =>
        cases o with
        | none => simp only [k3] at h; exact h.elim
        | some kk =>
          simp only [k3] at h
          cases k4 : ixN l.length kk with
          | none => simp only [k4] at h; exact h.elim
          | some m =>
            simp only [k4] at h
            refine ix_read rfl rel2 k3 fun H2 t2 => ?_
            refine ⟨a, vs, kk, m, rfl, rfl, t2 _ _ h1, by rw [r1.len]; exact k4, ?_⟩
            exact h σ F2 _ ((rel2.same t2).change (ownL_at k2) ev ⟨_, upd_same, r1.set hw2 m⟩)
      | ex c fs => simp only [k3] at h; exact h.elim
      | bad => simp only [k3] at h; exact h.elim
  | ex c fs =>
    simp only [k] at h
    exact fun cls dd H' t hx => h cls dd σ F H' (rel.same t) hx
  | bad => simp only [k] at h; exact h.elim
theorem RpF.put {K : PySem.W.Frag} {mg : Str → Option Value} {f : Str} {v : V} {d : D} (hv : Rp K mg F v d) : ∀ {fs : List (Str × D)} {vfs : List (Str × V)}, RpF K mg F vfs fs → RpF K mg F (putF f v vfs) (putFD f d fs)
  | [], _, h => by
    rw [show _ = [] from h]
    exact ⟨v, [], rfl, hv, rfl⟩
  | (g, x) :: r, _, h => by
    obtain ⟨w, vr, e1, h1, h2⟩ := h
    subst e1
    unfold putF putFD
    by_cases hg : g = f
    · rw [if_pos hg, if_pos hg]
      exact ⟨v, vr, rfl, hv, h2⟩
    · rw [if_neg hg, if_neg hg]
      exact ⟨w, _, rfl, h1, RpF.put hv h2⟩
theorem s_putF {i : Nat} {x f : Str} {tt : Str → Bool} {de : LD} (hN : X.N[i]? = some x) (hv : Vis X.env.scope x) (hd : (x == ("__debug__" : Str)) = false) (hcd : (x == ("__classdict__" : Str)) = false) (he : PE X e (tF X B C de fz W))
    (hf : ∀ c, tt c = true → FldOk X c f) (hs : swapsWith e (some (.Attribute (.Name x p2) f p3)) pos.line X.env = pure false) :
    PS X (.Assign [.Attribute (.Name x p2) f p3] e pos) (tS X B C (sPutF i f tt de fz) W) := (ps_fld (pe_var hN hv hd hcd) he hs).wk fun Dn σ H ⟨F0, F, s, rel, h⟩ => by
  unfold sPutF at h
  refine ⟨F, s, rel.toRelW, ?_⟩
  cases k : de C s with
  | ok d =>
    simp only [k] at h
    cases k2 : ownO (settle fz d s) i with
    | none => simp only [k2] at h; exact h.elim
    | some p =>
      obtain ⟨c, fs⟩ := p
      simp only [k2] at h
      by_cases hlen' : fs.length < 1000 ∧ tt c = true
      · rw [if_pos hlen'] at h
        obtain ⟨hlen, htt⟩ := hlen'
        refine fun w F1 H1 t hw => ?_
        obtain ⟨F2, rel2, hw2, ff⟩ := rel.settle t hw
        obtain ⟨v, ev, a, rfl, n0, Ca, dx, vfs, hc, h1, r1⟩ := rel2.slot i _ (ownO_at k2)
        obtain ⟨c1, c2⟩ := (hf c htt).ok Ca hc
        refine ⟨_, ev, a, Ca, dx, vfs, rfl, h1, c1, c2, by rw [r1.len]; exact hlen, ?_⟩
        exact h σ F2 _ (rel2.change (ownO_at k2) ev ⟨Ca, dx, _, hc, upd_same, RpF.put hw2 r1⟩)
      · rw [if_neg hlen'] at h
        exact h.elim
  | ex c fs =>
    simp only [k] at h
    exact fun cls dd H' t hx => h cls dd σ F H' (rel.same t) hx
  | bad => simp only [k] at h; exact h.elim
end
end DN
/-! Den10b: enumerate over a tuple. -/
namespace DN
open PySem PySem.Spec PyProof.Rows L2
set_option maxHeartbeats 1000000 in
theorem enum_new1 {v : Value} {o : Obj} {Z : Heap → Prop} (B : Begins v o Z) :
    Meets (Builtin.«enumerate.__new__» ⟨[.type "enumerate", v], []⟩) (fun _ R s => Z s.heap ∧
      R (.ok (.ret (.ref (s.heap.push o).objs.size))) { s with heap := (s.heap.push o).push { cls := .type "enumerate", data := .fields #[.none, .bool false, .ref s.heap.objs.size, rawInt 0, .none, .none] } }) :=
  .of_wp fun prog w A R s z => by
    obtain ⟨hp, g, d, tk, os⟩ := s
    obtain ⟨z1, z⟩ := z
    have q0 := sub_enumerate
    have q1 : ∀ {A' : Around} {E : Value → Shared → Prop} {Q : Value → Shared → Prop}, Q (.ref hp.objs.size) ⟨hp.push o, g, d, tk, os⟩ → wpAny (model prog w) A' (pyIter v) Q E ⟨hp, g, d, tk, os⟩ :=
      fun q => B.iter prog w _ _ ⟨hp, g, d, tk, os⟩ _ z1 q
    wp_walk using q1
    refine wpAny_stack_any fun st0 => wpAny_pure ?_
    split
    · rename_i c _ _ _ _ _
      cases (c == Value.type "enumerate") <;> (wp_walk using q1; exact ⟨_, rfl, z⟩)
    · wp_walk using q1
      exact ⟨_, rfl, z⟩
theorem enum_call1 {prog : Program} {w : World} {A : Around} {E : Value → Shared → Prop} {s : Shared} {v : Value} {o : Obj} {Z : Heap → Prop} {Q : Value → Shared → Prop} (B : Begins v o Z) (z1 : Z s.heap)
    (z : ∀ h', IsEnum h' (s.heap.objs.size + 1) s.heap.objs.size 0 .none → h'.get? s.heap.objs.size = some o → (∀ b u, s.heap.get? b = some u → h'.get? b = some u) → Q (.ref (s.heap.objs.size + 1)) { s with heap := h' }) :
    wpAny (model prog w) A (call (.type "enumerate") [v]) Q E s := by
  refine callType_new F.called_enumerate (by decide) (F.typeCall_enumerate_1 _) (F.newCall_enumerate_1 _) (fun obj => F.args_object_init_2 obj _) F.entry_enumerate_new (enum_new1 B) ⟨z1, ?_⟩
  have e1 : (s.heap.push o).objs.size = s.heap.objs.size + 1 := Heap.size_push ..
  show _ ∧ _
  rw [e1]
  have e2 : IsEnum ((s.heap.push o).push { cls := .type "enumerate", data := .fields #[.none, .bool false, .ref s.heap.objs.size, rawInt 0, .none, .none] }) (s.heap.objs.size + 1) s.heap.objs.size 0 .none := by
    have z := Heap.get?_push_size (s.heap.push o) (o := { cls := .type "enumerate", data := .fields #[.none, .bool false, .ref s.heap.objs.size, rawInt 0, .none, .none] }) rfl
    rw [e1] at z
    exact z
  exact ⟨⟨_, e2, rfl⟩, z _ e2 (Heap.get?_push_of_some _ (Heap.get?_push_size _ B.free)) fun b u x => Heap.get?_push_of_some _ (Heap.get?_push_of_some _ x)⟩
/-- the tuple at a, each item in a new pair -/
def IteT (K : PySem.W.Frag) (a : Addr) : It :=
  ⟨fun i H => ∃ (xs : List V) (x : V), SqT K H a xs ∧ xs[i]? = some x, fun i H v H' => ∃ T x, v = .ref T ∧ H T = none ∧ H' = upd H T (.tup [.int (i : Nat), x]) ∧ ∀ xs, SqT K H a xs → xs[i]? = some x, fun i H => ∃ xs : List V, SqT K H a xs ∧ xs.length ≤ i⟩
theorem enum_ne {K : PySem.W.Frag} {X : Cx} {pins : List (Addr × Obj)} {σ : L2.St} {H : Hp} {s : Shared} {a it : Addr} {xs : List V} (I : Inv X pins σ H s) (sq : SqT X.K H a xs) (hi : s.heap.IsTupleIter it a 0 ∨ ∃ i, s.heap.IsTupleIter it a i) : a ≠ it := by
  intro e
  obtain ⟨zs, vr, p, lz⟩ := I.tuple sq
  have hi : ∃ i, s.heap.IsTupleIter it a i := by
    rcases hi with h | h
    · exact ⟨0, h⟩
    · exact h
  obtain ⟨i, o, e1, e2, _⟩ := hi
  obtain ⟨o', e3, e4, _⟩ := p
  subst e
  rw [e1] at e3
  cases e3
  have z := e2.symm.trans e4
  injection z with z
  exact absurd z (by decide)
theorem turn_enumT {P : Program} {w : World} {K : PySem.W.Frag} {elts : List Expr} {kk : Nat} {tpos : Pos} (a e it : Addr) :
    Turn P w K (.Tuple elts kk tpos) (IteT K a) [e, it] e (fun i h => (∃ prev, IsEnum h e it ((i : Nat) : Int) prev) ∧ h.IsTupleIter it a i ∧ e ≠ it) where
  mem := by simp
  obj := fun i h st0 b mb => by
    obtain ⟨⟨prev, ge⟩, ⟨o, go1, hd0, dt0⟩, _⟩ := st0
    have dis : b = e ∨ b = it := by simpa using mb
    rcases dis with z | z
    · rw [z]; exact ⟨_, ge, fun v q => nomatch q⟩
    · rw [z]; exact ⟨o, go1, fun v q => by rw [dt0] at q; cases q⟩
  keep := fun i h h' st0 k => let ⟨⟨prev, ge⟩, hi, ne0⟩ := st0; ⟨⟨prev, k e (by simp) _ ge⟩, hi.at fun o q => k it (by simp) o q, ne0⟩
  item := by
    intro X hP hw hK hd0 i pins s σ H E I fr0 st0 go0
    subst hP hw hK
    obtain ⟨⟨prev, ge⟩, gi, ne0⟩ := st0
    obtain ⟨xs, x, sq, gx⟩ := go0
    obtain ⟨zs, vr, p, lz⟩ := I.tuple sq
    obtain ⟨u, gu, ru0⟩ := vr.get gx
    have el0 : e < s.heap.objs.size := Heap.lt_size ge
    have il0 : it < s.heap.objs.size := by obtain ⟨_, q, _⟩ := gi; exact Heap.lt_size q
    have hai : a ≠ it := enum_ne (K := X.K) I sq (.inr ⟨_, gi⟩)
    have hae : e ≠ a := fun z => by
      subst z
      obtain ⟨o', e3, e4, _⟩ := p
      rw [ge] at e3
      cases e3
      injection e4 with z
      exact absurd z (by decide)
    have hp : s.heap.IsTuple a zs.toArray := p
    have hlt : i < zs.toArray.size := by
      have := (List.getElem?_eq_some_iff.mp gu).1
      simpa using this
    refine wpAny_pyNext_enum_itemD (Draws.tuple (A := X.A.in1) (I.ok.hd hd0) it a hai zs.toArray) ge ⟨gi, hp⟩ hlt ne0 (by simp [ne0, hae]) fun x' h' tk hx' go1 hst' gT size0 kp => ?_
    have ex : x' = u := by
      have z : zs.toArray[i]? = some u := by simpa using gu
      rw [z] at hx'
      exact (Option.some.inj hx').symm
    subst ex
    refine ⟨_, rfl, wpAny_letOwnedTupleGo_enum (s := { s with heap := h', toks := tk + 1 }) go1 fun h'' ge' same0 => ?_⟩
    have gT2 : h''.get? s.heap.objs.size = some { cls := .type "tuple", data := .seq #[.int i tk, x'] } := (same0.2 _ (Nat.ne_of_gt el0)).trans gT
    have nw : ObjOk X.prog X.w (upd H s.heap.objs.size (.tup [.int (i : Nat), x])) h'' s.heap.objs.size (.tup [.int (i : Nat), x]) :=
      ⟨by show 2 ≤ sizeLine; decide, [.int i tk, x'], .cons ⟨_, rfl⟩ (.cons ru0 .nil), ⟨_, gT2, rfl, _, rfl⟩⟩
    have I1 : Inv X pins σ (upd H s.heap.objs.size (.tup [.int (i : Nat), x])) { s with heap := h'', toks := tk + 1 } :=
      I.turnedNew (ch := [e, it]) (fun b ob mb q => (same0.2 b (fun z => mb (by simp [z]))).trans (kp b ob (fun z => mb (by simp [z])) (fun z => mb (by simp [z])) q)) fr0 (Nat.le_refl _) nw
    refine ⟨.ref s.heap.objs.size, _, I1, rfl, ⟨_, x, rfl, I.hok.fresh (Nat.le_refl _), rfl, fun ys hy => by rw [I.tuple_inj hy sq]; exact gx⟩, ⟨⟨x', ?_⟩, hst'.1.at fun o q => (same0.2 it (Ne.symm ne0)).trans q, ne0⟩, fun b mb => ?_⟩
    · have e1 : ((i + 1 : Nat) : Int) = (i : Int) + 1 := by omega
      rw [e1]; exact ge'
    · have hb' : b < s.heap.objs.size := by
        have dis : b = e ∨ b = it := by simpa using mb
        rcases dis with z | z
        · rw [z]; exact el0
        · rw [z]; exact il0
      rw [upd_ne (Nat.ne_of_lt hb')]
      exact (fr0 b mb).1
  done := by
    intro X hP hw hK hd0 i pins s σ H E I fr0 st0 go0
    subst hP hw hK
    obtain ⟨⟨prev, ge⟩, gi, ne0⟩ := st0
    obtain ⟨xs, sq, gx⟩ := go0
    obtain ⟨zs, vr, p, lz⟩ := I.tuple sq
    obtain ⟨f0, f1, f2, f3, f4, f5⟩ := fr0 it (by simp)
    have hl := vr.length
    have hai : a ≠ it := enum_ne (K := X.K) I sq (.inr ⟨_, gi⟩)
    have hp : s.heap.IsTuple a zs.toArray := p
    have gT : s.TypeIs (.ref e) "enumerate" := ⟨_, ge, rfl⟩
    unfold pyNext
    refine wpAny_bind (wpAny_attempt (wpAny_callSpecial?_slot (name := Str.ofString "__next__") gT F.slot_enumerate_next
      (wpAny_call_entry F.slot_enumerate_next gT F.entry_enumerate_next ?_ (F.args_enumerate_next_1 _))))
    show wpAny _ _ (field (.ref e) 2 >>= _) _ _ _
    refine wpAny_bind (wpAny_field ge rfl (x := .ref it) rfl ?_)
    refine wpAny_bind (wpAny_nextOf_tuple_end (A := X.A.in1) (I.ok.hd hd0) gi hp (by simp; omega) fun h' x eb hx' => ?_)
    obtain ⟨o, go1, hoc⟩ := hx'
    refine wpAny_bind (wpAny_isInstance (T := "StopIteration") (b := true) ⟨o, go1, hoc⟩ isSubtype_stop ?_)
    exact wpAny_pure ⟨rfl, I.turned (t' := s.toks) (fun b o mb q => eb b o mb q) f0 f1 f3 f4 f5⟩
  self := fun A i s Q E st0 h => let ⟨⟨_, ge⟩, _⟩ := st0; wpAny_pyIter_enum ge h
def iEnumT (K : PySem.W.Frag) (ta : TA) : TI := fun σ H R => ta σ H fun vs H1 => ∃ a xs, vs = [.ref a] ∧ ((SqL K H1 a xs ∧ R (Ite K a) H1) ∨ (SqT K H1 a xs ∧ R (IteT K a) H1))
theorem pi_enumT {X : Cx} {e : Expr} {ta : TA} {p pos tpos : Pos} {elts : List Expr} {kk : Nat} (go0 : Gl X "enumerate") (hm : X.mg "enumerate" = none) (ha : PA X [e] ta) (hs : starEach [e] X.env = [(false, eval e X.env)] := by rfl) :
    PI X (.Tuple elts kk tpos) (.Call (.Name "enumerate" p) [e] [] pos) (iEnumT X.K ta) := by
  refine ⟨fun pins s σ H R I h => ?_⟩
  refine Call_ (ld_blt I go0 hm boot_enumerate (PyProof.Rows.callWith_type1 (thn (ha.run pos pins s σ H _ I h) fun us s1 ⟨vs, H1, I1, r1, q1⟩ => ?_) hs rfl))
  obtain ⟨a, xs, ex, q⟩ := q1
  subst ex
  cases r1 with
  | cons r rr =>
    cases rr
    cases r
    have fp : ∀ b ∈ [s1.heap.objs.size + 1, s1.heap.objs.size], FpOk X pins H1 b := fun b mb => by
      have dis : b = s1.heap.objs.size + 1 ∨ b = s1.heap.objs.size := by simpa using mb
      have hle : s1.heap.objs.size ≤ b := by
        rcases dis with z | z
        · rw [z]; exact Nat.le_add_right _ _
        · rw [z]; exact Nat.le_refl _
      exact I1.fpOk hle (I1.hok.fresh hle)
    rcases q with ⟨sq, q⟩ | ⟨sq, q⟩
    · obtain ⟨zs, vr, p', lz⟩ := I1.list sq
      refine call_enumerate_list p'.isList fun h' ge gi size0 kp => wpAny_pyIter_enum ge ?_
      have I2 : Inv X pins σ H1 { s1 with heap := h' } := I1.kept (t' := s1.toks) kp
      exact ⟨s1.heap.objs.size + 1, [s1.heap.objs.size + 1, s1.heap.objs.size], _, _, H1, rfl, I2, turn_enum a (s1.heap.objs.size + 1) s1.heap.objs.size, ⟨⟨.none, ge⟩, gi, Nat.succ_ne_self _⟩, fp, q⟩
    · obtain ⟨zs, vr, p', lz⟩ := I1.tuple sq
      have hp : s1.heap.IsTuple a zs.toArray := p'
      refine enum_call1 (begins_tuple a zs.toArray) hp fun h' ge gi kp => wpAny_pyIter_enum ge ?_
      have I2 : Inv X pins σ H1 { s1 with heap := h' } := I1.kept (t' := s1.toks) kp
      exact ⟨s1.heap.objs.size + 1, [s1.heap.objs.size + 1, s1.heap.objs.size], _, _, H1, rfl, I2, turn_enumT a (s1.heap.objs.size + 1) s1.heap.objs.size, ⟨⟨.none, ge⟩, ⟨_, gi, rfl, rfl⟩, Nat.succ_ne_self _⟩, fp, q⟩
end DN
/-! Den10c: zip over lists, tuples and texts, mixed; enumerate over a text. -/
namespace DN
open PySem PySem.Spec PyProof.Rows L2
/-- what is drawn from -/
inductive SK where
  | l (a : Addr) | t (a : Addr) | s (z : Str)
def SK.V : SK → V
  | .l a => .ref a
  | .t a => .ref a
  | .s z => .str z
def chV (z : Str) : List V := z.cps.toList.map fun c => .str ⟨#[c]⟩
def HoldK (K : PySem.W.Frag) (H : Hp) : SK → List V → Prop
  | .l a, xs => SqL K H a xs
  | .t a, xs => SqT K H a xs
  | .s z, xs => xs = chV z
def SK.off (c : Addr) : SK → Prop
  | .l a => a ≠ c
  | .t a => a ≠ c
  | .s _ => True
def SK.val (tk : Tok) : SK → Value
  | .l a => .ref a
  | .t a => .ref a
  | .s z => .str z tk
def SK.obj (tk : Tok) : SK → Obj
  | .l a => { cls := .type "list_iterator", data := .fields #[.ref a, .int 0 0] }
  | .t a => { cls := .type "tuple_iterator", data := .fields #[.ref a, .int 0 0] }
  | .s z => { cls := .type (strIterType z), data := .fields #[.str z tk, .int 0 0] }
def SK.St (tk : Tok) (it : Addr) (i : Nat) (h : Heap) : SK → Prop
  | .l a => h.IsListIter it a i
  | .t a => h.IsTupleIter it a i
  | .s z => h.IsStrIter it (strIterType z) z tk i
section
variable {X : Cx} {pins : List (Addr × Obj)} {σ : L2.St} {H : Hp} {s : Shared} {k : SK} {xs ys : List V} {tk : Tok} {it : Addr} {i : Nat}
theorem hold_inj (I : Inv X pins σ H s) (h : HoldK X.K H k xs) (h' : HoldK X.K H k ys) : xs = ys := by
  cases k with
  | l a => exact I.list_inj h h'
  | t a => exact I.tuple_inj h h'
  | s z => exact Eq.trans h (Eq.symm h')
theorem SK.obj_live (tk : Tok) (k : SK) : (k.obj tk).isFreed = false := by cases k <;> rfl
theorem SK.St_obj {h : Heap} (e : h.get? it = some (k.obj tk)) : k.St tk it 0 h := by
  cases k with
  | l a => exact ⟨_, e, rfl, rfl⟩
  | t a => exact ⟨_, e, rfl, rfl⟩
  | s z => exact ⟨_, e, rfl, rfl⟩
theorem SK.St_at {h h' : Heap} (st : k.St tk it i h) (e : ∀ o, h.get? it = some o → h'.get? it = some o) : k.St tk it i h' := by
  cases k with
  | l a => obtain ⟨o, h1, h2⟩ := st; exact ⟨o, e _ h1, h2⟩
  | t a => obtain ⟨o, h1, h2⟩ := st; exact ⟨o, e _ h1, h2⟩
  | s z => obtain ⟨o, h1, h2⟩ := st; exact ⟨o, e _ h1, h2⟩
theorem SK.St_here {h : Heap} (st : k.St tk it i h) : ∃ o, h.get? it = some o ∧ ∀ v, o.data ≠ .cell v := by
  cases k with
  | l a => obtain ⟨o, h1, h2, h3⟩ := st; exact ⟨o, h1, fun v q => by rw [h3] at q; cases q⟩
  | t a => obtain ⟨o, h1, h2, h3⟩ := st; exact ⟨o, h1, fun v q => by rw [h3] at q; cases q⟩
  | s z => obtain ⟨o, h1, h2, h3⟩ := st; exact ⟨o, h1, fun v q => by rw [h3] at q; cases q⟩
/-- the draws, at a turn -/
theorem drawsK (I : Inv X pins σ H s) (hh : X.A.in1.handled = none) (h : HoldK X.K H k xs) (ho : k.off it) : ∃ fp n P St, Draws X.prog X.w X.A.in1 it fp n P St ∧ n = xs.length ∧ (∀ i u, P i u → ∃ v, xs[i]? = some v ∧ RelV v u) ∧
    (∀ i, k.St tk it i s.heap → St i s.heap) ∧ (∀ i h', St i h' → k.St tk it i h') ∧ it ∈ fp ∧ ∀ c, c ≠ it → k.off c → c ∉ fp := by
  cases k with
  | l a =>
    obtain ⟨its, rv, p, _⟩ := I.list h
    refine ⟨_, _, _, _, Draws.list hh it a ho its.toArray, ?_, fun i u e => ?_, fun i st => ⟨st, p.isList⟩, fun i h' st => st.1, by simp, fun c hc ho z => ?_⟩
    · rw [List.size_toArray, ← rv.length]
    · have e : its[i]? = some u := by simpa using e
      have hi := (List.getElem?_eq_some_iff.mp e).1
      obtain ⟨u', e', r⟩ := rv.get (List.getElem?_eq_getElem (by rw [rv.length]; exact hi))
      rw [e] at e'
      cases e'
      exact ⟨_, List.getElem?_eq_getElem _, r⟩
    · rcases List.mem_cons.mp z with z | z
      · exact hc z
      · exact ho (List.mem_singleton.mp z).symm
  | t a =>
    obtain ⟨its, rv, p, _⟩ := I.tuple h
    have p' : s.heap.IsTuple a its.toArray := p
    refine ⟨_, _, _, _, Draws.tuple hh it a ho its.toArray, ?_, fun i u e => ?_, fun i st => ⟨st, p'⟩, fun i h' st => st.1, by simp, fun c hc ho z => ?_⟩
    · rw [List.size_toArray, ← rv.length]
    · have e : its[i]? = some u := by simpa using e
      have hi := (List.getElem?_eq_some_iff.mp e).1
      obtain ⟨u', e', r⟩ := rv.get (List.getElem?_eq_getElem (by rw [rv.length]; exact hi))
      rw [e] at e'
      cases e'
      exact ⟨_, List.getElem?_eq_getElem _, r⟩
    · rcases List.mem_cons.mp z with z | z
      · exact hc z
      · exact ho (List.mem_singleton.mp z).symm
  | s z =>
    have h : xs = chV z := h
    subst h
    refine ⟨_, _, _, _, Draws.text hh it z tk, by simp [chV], fun i u e => ?_, fun i st => st, fun i h' st => st, by simp, fun c hc ho z => hc (List.mem_singleton.mp z)⟩
    obtain ⟨c, t, e1, rfl⟩ := e
    refine ⟨.str ⟨#[c]⟩, ?_, ⟨_, rfl⟩⟩
    unfold chV
    rw [List.getElem?_map, Array.getElem?_toList, e1]
    rfl
theorem beginsK (I : Inv X pins σ H s) (h : HoldK X.K H k xs) : ∃ Z : Heap → Prop, Begins (k.val tk) (k.obj tk) Z ∧ Z s.heap := by
  cases k with
  | l a =>
    obtain ⟨its, rv, p, _⟩ := I.list h
    exact ⟨_, begins_list a its.toArray, p.isList⟩
  | t a =>
    obtain ⟨its, rv, p, _⟩ := I.tuple h
    exact ⟨_, begins_tuple a its.toArray, p⟩
  | s z => exact ⟨_, begins_text z tk, trivial⟩
/-- a source lies ahead of what is new -/
theorem off_new (I : Inv X pins σ H s) (h : HoldK X.K H k xs) {c : Addr} (hc : s.heap.objs.size ≤ c) : k.off c := by
  cases k with
  | l a =>
    obtain ⟨its, rv, p, _⟩ := I.list h
    exact Nat.ne_of_lt (Nat.lt_of_lt_of_le p.lt hc)
  | t a =>
    obtain ⟨its, rv, p, _⟩ := I.tuple h
    obtain ⟨o, ho, _⟩ := id p
    exact Nat.ne_of_lt (Nat.lt_of_lt_of_le (Heap.lt_size ho) hc)
  | s z => trivial
end
/-- pairs of what is drawn from two -/
def ItzK (K : PySem.W.Frag) (j k : SK) : It :=
  ⟨fun i H => ∃ (xs ys : List V) (x y : V), HoldK K H j xs ∧ HoldK K H k ys ∧ xs[i]? = some x ∧ ys[i]? = some y,
    fun i H v H' => ∃ T x y, v = .ref T ∧ H T = none ∧ H' = upd H T (.tup [x, y]) ∧ (∀ xs, HoldK K H j xs → xs[i]? = some x) ∧ ∀ ys, HoldK K H k ys → ys[i]? = some y,
    fun i H => ∃ xs ys : List V, HoldK K H j xs ∧ HoldK K H k ys ∧ i ≤ xs.length ∧ i ≤ ys.length ∧ (i = xs.length ∨ i = ys.length)⟩
structure ZAp (z TI TO i1 i2 : Addr) (j k : SK) : Prop where
  TIz : TI ≠ z
  TOz : TO ≠ z
  TITO : TI ≠ TO
  TIi1 : TI ≠ i1
  TIi2 : TI ≠ i2
  i1z : i1 ≠ z
  i2z : i2 ≠ z
  TOi1 : TO ≠ i1
  TOi2 : TO ≠ i2
  i12 : i1 ≠ i2
  j0 : j.off z ∧ j.off TO ∧ j.off i1 ∧ j.off i2
  k0 : k.off z ∧ k.off TO ∧ k.off i1 ∧ k.off i2
theorem turn_zipK {P : Program} {w : World} {K : PySem.W.Frag} {elts : List Expr} {kk : Nat} {tpos : Pos} {z TI TO i1 i2 : Addr} {j k : SK} {t1 t2 : Tok} (D : ZAp z TI TO i1 i2 j k) :
    Turn P w K (.Tuple elts kk tpos) (ItzK K j k) [z, TI, TO, i1, i2] z (fun i h => IsZip h z TI TO .none ∧ IsPair h TI (.ref i1) (.ref i2) ∧ (∃ x y, IsPair h TO x y) ∧ j.St t1 i1 i h ∧ k.St t2 i2 i h) where
  mem := by simp
  obj := fun i h st c hc => by
    obtain ⟨hz, hTI, ⟨x, y, hTO⟩, h1, h2⟩ := st
    have e' : c = z ∨ c = TI ∨ c = TO ∨ c = i1 ∨ c = i2 := by simpa using hc
    rcases e' with q | q | q | q | q
    · rw [q]; exact ⟨_, hz, fun v q => nomatch q⟩
    · rw [q]; exact ⟨_, hTI, fun v q => nomatch q⟩
    · rw [q]; exact ⟨_, hTO, fun v q => nomatch q⟩
    · rw [q]; exact SK.St_here h1
    · rw [q]; exact SK.St_here h2
  keep := fun i h h' st q => by
    obtain ⟨hz, hTI, ⟨x, y, hTO⟩, h1, h2⟩ := st
    exact ⟨q z (by simp) _ hz, q TI (by simp) _ hTI, ⟨x, y, q TO (by simp) _ hTO⟩, SK.St_at h1 fun o e => q i1 (by simp) o e, SK.St_at h2 fun o e => q i2 (by simp) o e⟩
  item := by
    intro X hP hw hK hc i pins s σ H E I hf st hg
    subst hP hw hK
    obtain ⟨hz, hTI, ⟨x0, y0, hTO⟩, h1, h2⟩ := st
    obtain ⟨xs, ys, x, y, hqx, hqy, hx, hy⟩ := hg
    obtain ⟨fp1, n1, P1, S1, D1, en1, p1, a1, b1, m1, o1⟩ := drawsK (tk := t1) I (I.ok.hd hc) hqx D.j0.2.2.1
    obtain ⟨fp2, n2, P2, S2, D2, en2, p2, a2, b2, m2, o2⟩ := drawsK (tk := t2) I (I.ok.hd hc) hqy D.k0.2.2.2
    have SP : ZipSep2 z TI TO i1 i2 fp1 fp2 := ⟨D.TIz, D.TOz, D.TITO, D.TIi1, m1, o1 _ (Ne.symm D.i1z) D.j0.1, o1 _ D.TOi1 D.j0.2.1, D.TIi2, m2, o2 _ (Ne.symm D.i2z) D.k0.1, o2 _ D.TOi2 D.k0.2.1, o2 _ D.i12 D.k0.2.2.1, o1 _ (Ne.symm D.i12) D.j0.2.2.2⟩
    have l1 := (List.getElem?_eq_some_iff.mp hx).1
    have l2 := (List.getElem?_eq_some_iff.mp hy).1
    have hzl : z < s.heap.objs.size := Heap.lt_size hz
    refine wpAny_pyNext_zipD2_item SP D1 D2 hz hTI hTO (a1 _ h1) (a2 _ h2) (by rw [en1]; exact l1) (by rw [en2]; exact l2) fun u u2 h' tk hu hu2 z' TO' h1' h2' hT hsz hk => ?_
    obtain ⟨x', ex, ru⟩ := p1 _ _ hu
    obtain ⟨y', ey, ru2⟩ := p2 _ _ hu2
    rw [hx] at ex
    rw [hy] at ey
    cases ex
    cases ey
    refine ⟨_, rfl, wpAny_letOwnedTupleGo_zip (s := { s with heap := h', toks := tk }) z' fun h'' z'' sb => ?_⟩
    have hT2 : h''.get? s.heap.objs.size = some { cls := .type "tuple", data := .seq #[u, u2] } := (sb.2 _ (Nat.ne_of_gt hzl)).trans hT
    have new : ObjOk X.prog X.w (upd H s.heap.objs.size (.tup [x, y])) h'' s.heap.objs.size (.tup [x, y]) :=
      ⟨by show 2 ≤ sizeLine; decide, [u, u2], .cons ru (.cons ru2 .nil), ⟨_, hT2, rfl, _, rfl⟩⟩
    have I1 : Inv X pins σ (upd H s.heap.objs.size (.tup [x, y])) { s with heap := h'', toks := tk } :=
      I.turnedNew (t' := tk) (ch := [z, TI, TO, i1, i2]) (fun c o hb q => (sb.2 c (fun q' => hb (by simp [q']))).trans (hk c o (fun q' => hb (by simp [q'])) (fun q' => hb (by simp [q'])) (fun q' => hb (by simp [q'])) (fun q' => hb (by simp [q'])) q)) hf (Nat.le_refl _) new
    refine ⟨.ref s.heap.objs.size, _, I1, rfl, ⟨_, x, y, rfl, I.hok.fresh (Nat.le_refl _), rfl, fun l hl => by rw [hold_inj I hl hqx]; exact hx, fun l hl => by rw [hold_inj I hl hqy]; exact hy⟩, ⟨z'', ?_, ⟨u, u2, ?_⟩, ?_, ?_⟩, fun c hcm => ?_⟩
    · exact (sb.2 _ D.TIz).trans (hk _ _ D.TIz D.TITO D.TIi1 D.TIi2 hTI)
    · exact (sb.2 _ D.TOz).trans TO'
    · exact SK.St_at (b1 _ _ h1') fun o q => (sb.2 _ D.i1z).trans q
    · exact SK.St_at (b2 _ _ h2') fun o q => (sb.2 _ D.i2z).trans q
    · have hlt : c < s.heap.objs.size := by
        have e' : c = z ∨ c = TI ∨ c = TO ∨ c = i1 ∨ c = i2 := by simpa using hcm
        rcases e' with q | q | q | q | q
        · rw [q]; exact hzl
        · rw [q]; exact Heap.lt_size hTI
        · rw [q]; exact Heap.lt_size hTO
        · rw [q]; obtain ⟨_, e1, _⟩ := SK.St_here h1; exact Heap.lt_size e1
        · rw [q]; obtain ⟨_, e1, _⟩ := SK.St_here h2; exact Heap.lt_size e1
      rw [upd_ne (Nat.ne_of_lt hlt)]
      exact (hf c hcm).1
  done := by
    intro X hP hw hK hc i pins s σ H E I hf st hg
    subst hP hw hK
    obtain ⟨hz, hTI, ⟨x0, y0, hTO⟩, h1, h2⟩ := st
    obtain ⟨xs, ys, hqx, hqy, l1, l2, hend⟩ := hg
    obtain ⟨fp1, n1, P1, S1, D1, en1, p1, a1, b1, m1, o1⟩ := drawsK (tk := t1) I (I.ok.hd hc) hqx D.j0.2.2.1
    obtain ⟨fp2, n2, P2, S2, D2, en2, p2, a2, b2, m2, o2⟩ := drawsK (tk := t2) I (I.ok.hd hc) hqy D.k0.2.2.2
    have SP : ZipSep2 z TI TO i1 i2 fp1 fp2 := ⟨D.TIz, D.TOz, D.TITO, D.TIi1, m1, o1 _ (Ne.symm D.i1z) D.j0.1, o1 _ D.TOi1 D.j0.2.1, D.TIi2, m2, o2 _ (Ne.symm D.i2z) D.k0.1, o2 _ D.TOi2 D.k0.2.1, o2 _ D.i12 D.k0.2.2.1, o1 _ (Ne.symm D.i12) D.j0.2.2.2⟩
    exact wpAny_pyNext_zipD2_end SP D1 D2 hz hTI hTO (a1 _ h1) (a2 _ h2) (by rw [en1]; exact l1) (by rw [en2]; exact l2) (by rw [en1, en2]; exact hend) fun h' tk hk => ⟨rfl, I.turnedL (t' := tk) (ch := [z, TI, TO, i1, i2]) (fun c o hb q =>
      hk c o (fun q' => hb (by simp [q'])) (fun q' => hb (by simp [q'])) (fun q' => hb (by simp [q'])) (fun q' => hb (by simp [q'])) q) hf⟩
  self := fun A i s Q E st h => wpAny_pyIter_zip st.1 h
def iZipK (K : PySem.W.Frag) (ta : TA) : TI := fun σ H R => ta σ H fun vs H1 => ∃ j k xs ys, vs = [SK.V j, SK.V k] ∧ HoldK K H1 j xs ∧ HoldK K H1 k ys ∧ R (ItzK K j k) H1
theorem relK {k : SK} {u : Value} (r : RelV k.V u) : ∃ tk, u = k.val tk := by
  cases k with
  | l a => cases r; exact ⟨0, rfl⟩
  | t a => cases r; exact ⟨0, rfl⟩
  | s z => obtain ⟨t, rfl⟩ := r; exact ⟨t, rfl⟩
theorem pi_zipK {X : Cx} {e e2 : Expr} {ta : TA} {p pos tpos : Pos} {elts : List Expr} {kk : Nat} (hg : Gl X "zip") (hm : X.mg "zip" = none) (ha : PA X [e, e2] ta)
    (hs : starEach [e, e2] X.env = (false, eval e X.env) :: starEach [e2] X.env := by rfl) (hpl : (backTo pos (starEach [e2] X.env)).any (·.1) = false := by rfl) :
    PI X (.Tuple elts kk tpos) (.Call (.Name "zip" p) [e, e2] [] pos) (iZipK X.K ta) := by
  refine ⟨fun pins s σ H R I h => ?_⟩
  refine Call_ (ld_blt I hg hm PyProof.Rows.boot_zip (PyProof.Rows.callWith_type1 (thn (ha.run pos pins s σ H _ I h) fun us s1 ⟨vs, H1, I1, r1, q1⟩ => ?_) hs hpl))
  obtain ⟨j, k, xs, ys, ex, hqx, hqy, q⟩ := q1
  subst ex
  cases r1 with
  | cons r rr =>
    cases rr with
    | cons r' rr =>
      cases rr
      obtain ⟨t1, rfl⟩ := relK r
      obtain ⟨t2, rfl⟩ := relK r'
      obtain ⟨Z1, B1, z1⟩ := beginsK (tk := t1) I1 hqx
      obtain ⟨Z2, B2, z2⟩ := beginsK (tk := t2) I1 hqy
      have fresh5 : ∀ c, c ∈ [s1.heap.objs.size + 4, s1.heap.objs.size + 2, s1.heap.objs.size + 3, s1.heap.objs.size, s1.heap.objs.size + 1] → FpOk X pins H1 c := fun c hcm => by
        have e' : c = s1.heap.objs.size + 4 ∨ c = s1.heap.objs.size + 2 ∨ c = s1.heap.objs.size + 3 ∨ c = s1.heap.objs.size ∨ c = s1.heap.objs.size + 1 := by simpa using hcm
        have hle : s1.heap.objs.size ≤ c := by
          rcases e' with z | z | z | z | z
          · rw [z]; exact Nat.le_add_right _ _
          · rw [z]; exact Nat.le_add_right _ _
          · rw [z]; exact Nat.le_add_right _ _
          · rw [z]; exact Nat.le_refl _
          · rw [z]; exact Nat.le_add_right _ _
        exact I1.fpOk hle (I1.hok.fresh hle)
      refine zip_begins2 B1 B2 z1 z2 fun h' hz hTI hTO h1 h2 hsz hk => wpAny_pyIter_zip hz ?_
      have I2 : Inv X pins σ H1 { s1 with heap := h' } := I1.kept (t' := s1.toks) hk
      have offs : ∀ {k : SK} {xs : List V}, HoldK X.K H1 k xs → ∀ m, k.off (s1.heap.objs.size + m) := fun h m => off_new I1 h (Nat.le_add_right _ _)
      have ap : ZAp (s1.heap.objs.size + 4) (s1.heap.objs.size + 2) (s1.heap.objs.size + 3) s1.heap.objs.size (s1.heap.objs.size + 1) j k := by
        generalize s1.heap.objs.size = N at offs
        refine ⟨?_, ?_, ?_, ?_, ?_, ?_, ?_, ?_, ?_, ?_, ⟨offs hqx 4, offs hqx 3, offs hqx 0, offs hqx 1⟩, ⟨offs hqy 4, offs hqy 3, offs hqy 0, offs hqy 1⟩⟩
        · show (N + 2 : Nat) ≠ N + 4; omega
        · show (N + 3 : Nat) ≠ N + 4; omega
        · show (N + 2 : Nat) ≠ N + 3; omega
        · show (N + 2 : Nat) ≠ N; omega
        · show (N + 2 : Nat) ≠ N + 1; omega
        · show (N : Nat) ≠ N + 4; omega
        · show (N + 1 : Nat) ≠ N + 4; omega
        · show (N + 3 : Nat) ≠ N; omega
        · show (N + 3 : Nat) ≠ N + 1; omega
        · show (N : Nat) ≠ N + 1; omega
      exact ⟨s1.heap.objs.size + 4, [s1.heap.objs.size + 4, s1.heap.objs.size + 2, s1.heap.objs.size + 3, s1.heap.objs.size, s1.heap.objs.size + 1], _, _, H1, rfl, I2, turn_zipK (t1 := t1) (t2 := t2) ap, ⟨hz, hTI, ⟨_, _, hTO⟩, SK.St_obj h1, SK.St_obj h2⟩, fresh5, q⟩
/-- each of what is drawn, with its number -/
def IteK (K : PySem.W.Frag) (k : SK) : It :=
  ⟨fun i H => ∃ (xs : List V) (x : V), HoldK K H k xs ∧ xs[i]? = some x, fun i H v H' => ∃ T x, v = .ref T ∧ H T = none ∧ H' = upd H T (.tup [.int (i : Nat), x]) ∧ ∀ xs, HoldK K H k xs → xs[i]? = some x, fun i H => ∃ xs : List V, HoldK K H k xs ∧ xs.length = i⟩
theorem turn_enumK {P : Program} {w : World} {K : PySem.W.Frag} {elts : List Expr} {kk : Nat} {tpos : Pos} {k : SK} {tk0 : Tok} {e it : Addr} (ne0 : e ≠ it) (o1 : k.off e) (o2 : k.off it) :
    Turn P w K (.Tuple elts kk tpos) (IteK K k) [e, it] e (fun i h => (∃ prev, IsEnum h e it ((i : Nat) : Int) prev) ∧ k.St tk0 it i h) where
  mem := by simp
  obj := fun i h st0 b mb => by
    obtain ⟨⟨prev, ge⟩, st⟩ := st0
    have dis : b = e ∨ b = it := by simpa using mb
    rcases dis with z | z
    · rw [z]; exact ⟨_, ge, fun v q => nomatch q⟩
    · rw [z]; exact SK.St_here st
  keep := fun i h h' st0 q => let ⟨⟨prev, ge⟩, hi⟩ := st0; ⟨⟨prev, q e (by simp) _ ge⟩, SK.St_at hi fun o z => q it (by simp) o z⟩
  item := by
    intro X hP hw hK hd0 i pins s σ H E I fr0 st0 go0
    subst hP hw hK
    obtain ⟨⟨prev, ge⟩, gi⟩ := st0
    obtain ⟨xs, x, sq, gx⟩ := go0
    obtain ⟨fp, n, P0, St, Dr, en, p0, a0, b0, m0, of0⟩ := drawsK (tk := tk0) I (I.ok.hd hd0) sq o2
    have el0 : e < s.heap.objs.size := Heap.lt_size ge
    have il0 : it < s.heap.objs.size := by obtain ⟨_, q, _⟩ := SK.St_here gi; exact Heap.lt_size q
    have hlt : i < n := by rw [en]; exact (List.getElem?_eq_some_iff.mp gx).1
    refine wpAny_pyNext_enum_itemD Dr ge (a0 _ gi) hlt ne0 (of0 _ ne0 o1) fun x' h' tk hx' go1 hst' gT size0 kp => ?_
    obtain ⟨x2, ex, ru0⟩ := p0 _ _ hx'
    rw [gx] at ex
    cases ex
    refine ⟨_, rfl, wpAny_letOwnedTupleGo_enum (s := { s with heap := h', toks := tk + 1 }) go1 fun h'' ge' same0 => ?_⟩
    have gT2 : h''.get? s.heap.objs.size = some { cls := .type "tuple", data := .seq #[.int i tk, x'] } := (same0.2 _ (Nat.ne_of_gt el0)).trans gT
    have nw : ObjOk X.prog X.w (upd H s.heap.objs.size (.tup [.int (i : Nat), x])) h'' s.heap.objs.size (.tup [.int (i : Nat), x]) :=
      ⟨by show 2 ≤ sizeLine; decide, [.int i tk, x'], .cons ⟨_, rfl⟩ (.cons ru0 .nil), ⟨_, gT2, rfl, _, rfl⟩⟩
    have I1 : Inv X pins σ (upd H s.heap.objs.size (.tup [.int (i : Nat), x])) { s with heap := h'', toks := tk + 1 } :=
      I.turnedNew (ch := [e, it]) (fun b ob mb q => (same0.2 b (fun z => mb (by simp [z]))).trans (kp b ob (fun z => mb (by simp [z])) (fun z => mb (by simp [z])) q)) fr0 (Nat.le_refl _) nw
    refine ⟨.ref s.heap.objs.size, _, I1, rfl, ⟨_, x, rfl, I.hok.fresh (Nat.le_refl _), rfl, fun ys hy => by rw [hold_inj I hy sq]; exact gx⟩, ⟨⟨x', ?_⟩, SK.St_at (b0 _ _ hst') fun o q => (same0.2 it (Ne.symm ne0)).trans q⟩, fun b mb => ?_⟩
    · have e1 : ((i + 1 : Nat) : Int) = (i : Int) + 1 := by omega
      rw [e1]; exact ge'
    · have hb' : b < s.heap.objs.size := by
        have dis : b = e ∨ b = it := by simpa using mb
        rcases dis with z | z
        · rw [z]; exact el0
        · rw [z]; exact il0
      rw [upd_ne (Nat.ne_of_lt hb')]
      exact (fr0 b mb).1
  done := by
    intro X hP hw hK hd0 i pins s σ H E I fr0 st0 go0
    subst hP hw hK
    obtain ⟨⟨prev, ge⟩, gi⟩ := st0
    obtain ⟨xs, sq, gx⟩ := go0
    obtain ⟨fp, n, P0, St, Dr, en, p0, a0, b0, m0, of0⟩ := drawsK (tk := tk0) I (I.ok.hd hd0) sq o2
    obtain ⟨f0, f1, f2, f3, f4, f5⟩ := fr0 it (by simp)
    have hn : n = i := by rw [en]; exact gx
    subst hn
    exact wpAny_pyNext_enum_endD Dr ge (a0 _ gi) fun h' eb => ⟨rfl, I.turned (t' := s.toks) (fun b o mb q => eb b o mb q) f0 f1 f3 f4 f5⟩
  self := fun A i s Q E st0 h => let ⟨⟨_, ge⟩, _⟩ := st0; wpAny_pyIter_enum ge h
def iEnumK (K : PySem.W.Frag) (ta : TA) : TI := fun σ H R => ta σ H fun vs H1 => ∃ k xs, vs = [SK.V k] ∧ HoldK K H1 k xs ∧ R (IteK K k) H1
theorem pi_enumK {X : Cx} {e : Expr} {ta : TA} {p pos tpos : Pos} {elts : List Expr} {kk : Nat} (go0 : Gl X "enumerate") (hm : X.mg "enumerate" = none) (ha : PA X [e] ta) (hs : starEach [e] X.env = [(false, eval e X.env)] := by rfl) :
    PI X (.Tuple elts kk tpos) (.Call (.Name "enumerate" p) [e] [] pos) (iEnumK X.K ta) := by
  refine ⟨fun pins s σ H R I h => ?_⟩
  refine Call_ (ld_blt I go0 hm boot_enumerate (PyProof.Rows.callWith_type1 (thn (ha.run pos pins s σ H _ I h) fun us s1 ⟨vs, H1, I1, r1, q1⟩ => ?_) hs rfl))
  obtain ⟨k, xs, ex, hq, q⟩ := q1
  subst ex
  cases r1 with
  | cons r rr =>
    cases rr
    obtain ⟨tk0, rfl⟩ := relK r
    obtain ⟨Z1, B1, z1⟩ := beginsK (tk := tk0) I1 hq
    have fp : ∀ b ∈ [s1.heap.objs.size + 1, s1.heap.objs.size], FpOk X pins H1 b := fun b mb => by
      have dis : b = s1.heap.objs.size + 1 ∨ b = s1.heap.objs.size := by simpa using mb
      have hle : s1.heap.objs.size ≤ b := by
        rcases dis with z | z
        · rw [z]; exact Nat.le_add_right _ _
        · rw [z]; exact Nat.le_refl _
      exact I1.fpOk hle (I1.hok.fresh hle)
    refine enum_call1 B1 z1 fun h' ge gi kp => wpAny_pyIter_enum ge ?_
    have I2 : Inv X pins σ H1 { s1 with heap := h' } := I1.kept (t' := s1.toks) kp
    exact ⟨s1.heap.objs.size + 1, [s1.heap.objs.size + 1, s1.heap.objs.size], _, _, H1, rfl, I2, turn_enumK (tk0 := tk0) (Nat.succ_ne_self _) (off_new I1 hq (Nat.le_succ _)) (off_new I1 hq (Nat.le_refl _)), ⟨⟨.none, ge⟩, SK.St_obj gi⟩, fp, q⟩
end DN
/-! Den11: what is walked. -/
namespace DN
open PySem PySem.Spec PyProof.Rows L2
section
variable {X : Cx} {B : Bas} {C : Call} {W : WX} {F F' H H' F0 F1 G : Hp} {σ : L2.St} {s : SE} {fz fy : List Nat} {e e2 tg : Expr} {pos p tpos : Pos}
theorem tI_J {di : ID} (h : PI X tg e (tI X B C di fz W)) : PI X tg e (tJ X B C di fz W) := ⟨fun pins s σ H Rr I ⟨F, t, rel, q⟩ => h.run pins s σ H Rr I (by
  refine ⟨F, t, rel, ?_⟩
  cases k : di C t with
  | ok ds =>
    simp only [k] at q
    exact fun J F' H' st hJ => q J F' H' st (hJ.mono st.fh)
  | ex c fs => simp only [k] at q; exact q
  | bad => simp only [k] at q)⟩
/-! ### the walks -/
theorem wk_lst {a : Addr} {vs : List V} {l : List D} (h : G a = some (.lst vs)) (r : RpL X.K X.mg F vs l) : Wk X (Itl X.K a) G F l := by
  refine ⟨fun i H hi s => ?_, fun H s => ⟨vs, SqL.of (s _ _ h), by rw [r.len]; exact Nat.le_refl _⟩, fun i d H x H' F2 e s1 s2 s3 y => ?_⟩
  · obtain ⟨v, hv, _⟩ := r.get (List.getElem?_eq_getElem hi)
    exact ⟨vs, v, SqL.of (s _ _ h), hv⟩
  · obtain ⟨rfl, y⟩ := y
    obtain ⟨v, hv, hr⟩ := r.get e
    have := (y vs (SqL.of (s1 _ _ h))).symm.trans hv
    cases this
    exact ⟨F2, .refl s3, hr.mono s2⟩
theorem wk_scr {a : Addr} {l : List Int} (h : SqL X.K G a (l.map V.int)) : Wk X (Itl X.K a) G F (l.map D.int) := by
  have r : RpL X.K X.mg F (l.map V.int) (l.map D.int) := rp_ints
  refine ⟨fun i H hi s => ?_, fun H s => ⟨_, s.seq h, by rw [r.len]; exact Nat.le_refl _⟩, fun i d H x H' F2 e s1 s2 s3 y => ?_⟩
  · obtain ⟨v, hv, _⟩ := r.get (List.getElem?_eq_getElem hi)
    exact ⟨_, v, s.seq h, hv⟩
  · obtain ⟨rfl, y⟩ := y
    obtain ⟨v, hv, hr⟩ := r.get e
    have := (y _ (s1.seq h)).symm.trans hv
    cases this
    exact ⟨F2, .refl s3, hr.mono s2⟩
theorem wk_tup {a : Addr} {vs : List V} {l : List D} (h : SqT X.K G a vs) (r : RpL X.K X.mg F vs l) : Wk X (Itt X.K a) G F l := by
  refine ⟨fun i H hi s => ?_, fun H s => ⟨vs, same_t s h, by rw [r.len]; exact Nat.le_refl _⟩, fun i d H x H' F2 e s1 s2 s3 y => ?_⟩
  · obtain ⟨v, hv, _⟩ := r.get (List.getElem?_eq_getElem hi)
    exact ⟨vs, v, same_t s h, hv⟩
  · obtain ⟨rfl, y⟩ := y
    obtain ⟨v, hv, hr⟩ := r.get e
    have := (y vs (same_t s1 h)).symm.trans hv
    cases this
    exact ⟨F2, .refl s3, hr.mono s2⟩
theorem wk_str {z : Str} : Wk X (Its z) G F (z.cps.toList.map fun c => .str ⟨#[c]⟩) := by
  refine ⟨fun i H hi s => ?_, fun H s => ?_, fun i d H x H' F2 e s1 s2 s3 y => ?_⟩
  · have hi : i < z.cps.size := by simpa using hi
    exact hi
  · show z.cps.size ≤ _
    simp
  · obtain ⟨rfl, c, hc, rfl⟩ := y
    rw [List.getElem?_map, Array.getElem?_toList, hc] at e
    cases e
    exact ⟨F2, .refl s3, rfl⟩
theorem rangeD_len (lo : Int) (n : Nat) : (rangeD lo n).length = n := by unfold rangeD; rw [List.length_map, List.length_range]
theorem wk_range {lo : Int} {n : Nat} : Wk X (Itr lo n) G F (rangeD lo n) := by
  refine ⟨fun i H hi s => by rw [rangeD_len] at hi; exact hi, fun H s => by show n ≤ (rangeD lo n).length; rw [rangeD_len]; exact Nat.le_refl _, fun i d H x H' F2 e s1 s2 s3 y => ?_⟩
  obtain ⟨rfl, rfl⟩ := y
  have hi : i < n := by
    have := (List.getElem?_eq_some_iff.mp e).1
    rwa [rangeD_len] at this
  unfold rangeD at e
  rw [List.getElem?_map, List.getElem?_range hi] at e
  cases e
  exact ⟨F2, .refl s3, rfl⟩
theorem wk_rangeV {a : Addr} {j : Int} (h : G a = some (.rng 0 j)) : Wk X (Itr 0 j.toNat) G F (rangeD 0 j.toNat) := wk_range
theorem downD_len (lo : Int) (n : Nat) : (downD lo n).length = n := by unfold downD; rw [List.length_map, List.length_range]
theorem wk_down {lo : Int} {n : Nat} : Wk X (Itc lo (-1) n) G F (downD lo n) := by
  refine ⟨fun i H hi s => by rw [downD_len] at hi; exact hi, fun H s => by show n ≤ (downD lo n).length; rw [downD_len]; exact Nat.le_refl _, fun i d H x H' F2 e s1 s2 s3 y => ?_⟩
  obtain ⟨rfl, rfl⟩ := y
  have hi : i < n := by
    have := (List.getElem?_eq_some_iff.mp e).1
    rwa [downD_len] at this
  unfold downD at e
  rw [List.getElem?_map, List.getElem?_range hi] at e
  cases e
  exact ⟨F2, .refl s3, rfl⟩
/-- a range object that stands, walked -/
theorem pi_rngV {tl : TE} (hl : PE X e tl) : PI X tg e (fun σ H R => tl σ H fun x H1 => ∃ a j, x = .ref a ∧ H1 a = some (.rng 0 j) ∧ RgB j ∧ R (Itr 0 j.toNat) H1) := by
  refine ⟨fun pins s σ H R I h => ?_⟩
  refine thn (hl.run pins s σ H _ I h) fun v s1 ⟨x, H1, I1, r1, q1⟩ => ?_
  obtain ⟨a, j, rfl, hp, ⟨b1, b2⟩, q⟩ := q1
  cases r1
  obtain ⟨t, u, v, hr⟩ := (show ObjOk X.prog X.w H1 s1.heap a (.rng 0 j) from I1.hok a _ hp)
  refine wpAny_pyIter_range hr (small_one (by omega) (by omega) b1 b2) ?_
  refine pi_one (tk := s1.toks) I1 _ (turn_range _ 0 j.toNat) ?_ q
  have e1 : (0 : Int) + ((0 : Nat) : Int) * 1 = 0 := by simp
  have e2 : ((j.toNat : Nat) : Int) - ((0 : Nat) : Int) = Builtin.Range.rangeSize 0 j 1 := by rw [rangeSize_one]; split <;> omega
  show IsRangeIter _ _ ((0 : Int) + ((0 : Nat) : Int) * 1) (((j.toNat : Nat) : Int) - ((0 : Nat) : Int)) 1
  rw [e1, e2]
  exact Heap.get?_push_size _ rfl
theorem rev_get {α : Type} {l : List α} {i : Nat} (h : i < l.length) : l.reverse[i]? = l[l.length - 1 - i]? := by
  rw [List.getElem?_reverse h]
theorem wk_rev {a : Addr} {vs : List V} {l : List D} (h : G a = some (.lst vs)) (r : RpL X.K X.mg F vs l) : Wk X (Itv X.K a vs.length) G F l.reverse := by
  refine ⟨fun i H hi s => ?_, fun H s => ?_, fun i d H x H' F2 e s1 s2 s3 y => ?_⟩
  · rw [List.length_reverse, ← r.len] at hi
    exact ⟨hi, vs, vs[vs.length - 1 - i]'(by omega), SqL.of (s _ _ h), List.getElem?_eq_getElem _⟩
  · show vs.length ≤ _
    rw [List.length_reverse, r.len]
    exact Nat.le_refl _
  · obtain ⟨rfl, y⟩ := y
    have hi : i < l.length := by
      have := (List.getElem?_eq_some_iff.mp e).1
      rwa [List.length_reverse] at this
    rw [rev_get hi, ← r.len] at e
    obtain ⟨v, hv, hr⟩ := r.get e
    have := (y vs (SqL.of (s1 _ _ h))).symm.trans hv
    cases this
    exact ⟨F2, .refl s3, hr.mono s2⟩
theorem wk_revT {a : Addr} {vs : List V} {l : List D} (h : SqT X.K G a vs) (r : RpL X.K X.mg F vs l) : Wk X (RT.ItvT X.K a vs.length) G F l.reverse := by
  refine ⟨fun i H hi s => ?_, fun H s => ?_, fun i d H x H' F2 e s1 s2 s3 y => ?_⟩
  · rw [List.length_reverse, ← r.len] at hi
    exact ⟨hi, vs, vs[vs.length - 1 - i]'(by omega), same_t s h, List.getElem?_eq_getElem _⟩
  · show vs.length ≤ _
    rw [List.length_reverse, r.len]
    exact Nat.le_refl _
  · obtain ⟨rfl, y⟩ := y
    have hi : i < l.length := by
      have := (List.getElem?_eq_some_iff.mp e).1
      rwa [List.length_reverse] at this
    rw [rev_get hi, ← r.len] at e
    obtain ⟨v, hv, hr⟩ := r.get e
    have := (y vs (same_t s1 h)).symm.trans hv
    cases this
    exact ⟨F2, .refl s3, hr.mono s2⟩
theorem enumD_len : ∀ (k : Nat) (l : List D), (enumD k l).length = l.length
  | _, [] => rfl
  | k, _ :: r => by unfold enumD; rw [List.length_cons, List.length_cons, enumD_len]
theorem enumD_get : ∀ (k : Nat) (l : List D) (i : Nat), (enumD k l)[i]? = l[i]?.map fun d => .tup [.int ((k + i : Nat) : Int), d]
  | _, [], _ => rfl
  | k, d :: r, 0 => rfl
  | k, d :: r, i + 1 => by
    unfold enumD
    rw [List.getElem?_cons_succ, List.getElem?_cons_succ, enumD_get (k + 1) r i]
    have e : k + 1 + i = k + (i + 1) := by omega
    rw [e]
/-- a pair that was just made -/
theorem pair_ok {T : Addr} {x y : V} {d d' : D} {F2 : Hp} (s3 : Same F2 H) (hT : H T = none) (h1 : Rp X.K X.mg F2 x d) (h2 : Rp X.K X.mg F2 y d') : ∃ F3, Stp Z0 F2 H F3 (upd H T (.tup [x, y])) ∧ Rp X.K X.mg F3 (.ref T) (.tup [d, d']) :=
  ⟨_, .new s3 hT, T, [x, y], rfl, upd_same, RpL.cons (h1.mono (same_new (s3.free hT))) (RpL.cons (h2.mono (same_new (s3.free hT))) rfl)⟩
theorem wk_enum {a : Addr} {vs : List V} {l : List D} (h : G a = some (.lst vs)) (r : RpL X.K X.mg F vs l) : Wk X (Ite X.K a) G F (enumD 0 l) := by
  refine ⟨fun i H hi s => ?_, fun H s => ⟨vs, SqL.of (s _ _ h), by rw [enumD_len, r.len]; exact Nat.le_refl _⟩, fun i d H x H' F2 e s1 s2 s3 y => ?_⟩
  · rw [enumD_len] at hi
    obtain ⟨v, hv, _⟩ := r.get (List.getElem?_eq_getElem hi)
    exact ⟨vs, v, SqL.of (s _ _ h), hv⟩
  · obtain ⟨T, z, rfl, hT, rfl, y⟩ := y
    rw [enumD_get, Nat.zero_add] at e
    cases q : l[i]? with
    | none => rw [q] at e; cases e
    | some d0 =>
      rw [q] at e
      cases e
      obtain ⟨v, hv, hr⟩ := r.get q
      have := (y vs (SqL.of (s1 _ _ h))).symm.trans hv
      cases this
      exact pair_ok s3 hT rfl (hr.mono s2)
theorem wk_enumT {a : Addr} {vs : List V} {l : List D} (h : SqT X.K G a vs) (r : RpL X.K X.mg F vs l) : Wk X (IteT X.K a) G F (enumD 0 l) := by
  refine ⟨fun i H hi s => ?_, fun H s => ⟨vs, same_t s h, by rw [enumD_len, r.len]; exact Nat.le_refl _⟩, fun i d H x H' F2 e s1 s2 s3 y => ?_⟩
  · rw [enumD_len] at hi
    obtain ⟨v, hv, _⟩ := r.get (List.getElem?_eq_getElem hi)
    exact ⟨vs, v, same_t s h, hv⟩
  · obtain ⟨T, z, rfl, hT, rfl, y⟩ := y
    rw [enumD_get, Nat.zero_add] at e
    cases q : l[i]? with
    | none => rw [q] at e; cases e
    | some d0 =>
      rw [q] at e
      cases e
      obtain ⟨v, hv, hr⟩ := r.get q
      have := (y vs (same_t s1 h)).symm.trans hv
      cases this
      exact pair_ok s3 hT rfl (hr.mono s2)
theorem zip_get {a b : List D} {i : Nat} {d : D} (e : (List.zipWith (fun x y => D.tup [x, y]) a b)[i]? = some d) : ∃ x y, a[i]? = some x ∧ b[i]? = some y ∧ d = .tup [x, y] := by
  rw [List.getElem?_zipWith] at e
  cases q : a[i]? with
  | none => rw [q] at e; cases e
  | some x =>
    cases q2 : b[i]? with
    | none => rw [q, q2] at e; cases e
    | some y =>
      rw [q, q2] at e
      cases e
      exact ⟨x, y, rfl, rfl, rfl⟩
theorem wk_zip {a b : Addr} {vs us : List V} {l m : List D} (h : G a = some (.lst vs)) (r : RpL X.K X.mg F vs l) (h' : G b = some (.lst us)) (r' : RpL X.K X.mg F us m) : Wk X (Itz X.K a b) G F (List.zipWith (fun x y => .tup [x, y]) l m) := by
  refine ⟨fun i H hi s => ?_, fun H s => ⟨vs, us, SqL.of (s _ _ h), SqL.of (s _ _ h'), ?_⟩, fun i d H x H' F2 e s1 s2 s3 y => ?_⟩
  · obtain ⟨x, y, e1, e2, _⟩ := zip_get (List.getElem?_eq_getElem hi)
    obtain ⟨v, hv, _⟩ := r.get e1
    obtain ⟨u, hu, _⟩ := r'.get e2
    exact ⟨vs, us, v, u, SqL.of (s _ _ h), SqL.of (s _ _ h'), hv, hu⟩
  · rw [List.length_zipWith, r.len, r'.len]
    omega
  · obtain ⟨T, z, w, rfl, hT, rfl, y1, y2⟩ := y
    obtain ⟨x, y, e1, e2, rfl⟩ := zip_get e
    obtain ⟨v, hv, hr⟩ := r.get e1
    obtain ⟨u, hu, hr'⟩ := r'.get e2
    have q1 := (y1 vs (SqL.of (s1 _ _ h))).symm.trans hv
    have q2 := (y2 us (SqL.of (s1 _ _ h'))).symm.trans hu
    cases q1
    cases q2
    exact pair_ok s3 hT (hr.mono s2) (hr'.mono s2)
theorem wk_zipT {a b : Addr} {vs us : List V} {l m : List D} (h : SqT X.K G a vs) (r : RpL X.K X.mg F vs l) (h' : SqT X.K G b us) (r' : RpL X.K X.mg F us m) : Wk X (RZ.ItzT X.K a b) G F (List.zipWith (fun x y => .tup [x, y]) l m) := by
  refine ⟨fun i H hi s => ?_, fun H s => ⟨vs, us, same_t s h, same_t s h', ?_⟩, fun i d H x H' F2 e s1 s2 s3 y => ?_⟩
  · obtain ⟨x, y, e1, e2, _⟩ := zip_get (List.getElem?_eq_getElem hi)
    obtain ⟨v, hv, _⟩ := r.get e1
    obtain ⟨u, hu, _⟩ := r'.get e2
    exact ⟨vs, us, v, u, same_t s h, same_t s h', hv, hu⟩
  · rw [List.length_zipWith, r.len, r'.len]
    omega
  · obtain ⟨T, z, w, rfl, hT, rfl, y1, y2⟩ := y
    obtain ⟨x, y, e1, e2, rfl⟩ := zip_get e
    obtain ⟨v, hv, hr⟩ := r.get e1
    obtain ⟨u, hu, hr'⟩ := r'.get e2
    have q1 := (y1 vs (same_t s1 h)).symm.trans hv
    have q2 := (y2 us (same_t s1 h')).symm.trans hu
    cases q1
    cases q2
    exact pair_ok s3 hT (hr.mono s2) (hr'.mono s2)
/-! ### over an expression's value -/
theorem i_of {de : LD} (h : PE X e (tF X B C de fz W)) : PI X tg e (tI X B C (iOf de) fz W) := ⟨fun pins s σ H Rr I ⟨F, t, rel, q⟩ => by
  unfold iOf at q
  cases k : de C t with
  | ex c fs =>
    simp only [k, R.bind] at q
    refine (pi_list h).run pins s σ H Rr I ⟨F, t, rel, ?_⟩
    simp only [k]
    exact q
  | bad => simp only [k, R.bind] at q
  | ok d =>
    simp only [k, R.bind] at q
    cases d <;> first
      | exact (show False from q).elim
      | skip
    · refine (pi_str h).run pins s σ H Rr I ⟨F, t, rel, ?_⟩
      simp only [k]
      exact fun v F' H' st hv => ⟨_, hv, q _ F' H' st wk_str⟩
    · refine (pi_tup h).run pins s σ H Rr I ⟨F, t, rel, ?_⟩
      simp only [k]
      refine fun v F' H' st hv => ?_
      obtain ⟨a, vs, rfl, h1, h2⟩ := hv
      exact ⟨a, rfl, ⟨vs, SqT.of (st.fh _ _ h1)⟩, q _ F' H' st (wk_tup (SqT.of h1) h2)⟩
    · refine (pi_list h).run pins s σ H Rr I ⟨F, t, rel, ?_⟩
      simp only [k]
      refine fun v F' H' st hv => ?_
      obtain ⟨a, vs, rfl, h1, h2⟩ := hv
      exact ⟨a, rfl, ⟨vs, SqL.of (st.fh _ _ h1)⟩, q _ F' H' st (wk_lst h1 h2)⟩
    · refine (pi_list h).run pins s σ H Rr I ⟨F, t, rel, ?_⟩
      simp only [k]
      refine fun v F' H' st hv => ?_
      obtain ⟨a, rfl, h1⟩ := hv
      exact ⟨a, rfl, ⟨_, st.fh.seq h1⟩, q _ F' H' st (wk_scr h1)⟩
    · refine (pi_tup h).run pins s σ H Rr I ⟨F, t, rel, ?_⟩
      simp only [k]
      refine fun v F' H' st hv => ?_
      obtain ⟨a, vs, rfl, h1, h2⟩ := hv
      exact ⟨a, rfl, ⟨vs, h1.sq⟩, q _ F' H' st (wk_tup h1.sq h2)⟩
    · rename_i j
      by_cases hj : RgB j
      · have q : ∀ J F' H', Stp (Zof fz σ t) F H F' H' → Wk X J F' F' (rangeD 0 j.toNat) → Rr J H' := by
          simp only [items, if_pos hj] at q
          exact q
        refine (pi_rngV h).run pins s σ H Rr I ⟨F, t, rel, ?_⟩
        simp only [k]
        refine fun v F' H' st hv => ?_
        obtain ⟨a, rfl, h1⟩ := hv
        exact ⟨a, j, rfl, st.fh _ _ h1, hj, q _ F' H' st wk_range⟩
      · simp only [items, if_neg hj] at q
        exact (show False from q).elim⟩
/-- .. within one expression -/
theorem j_of {de : LD} (h : PE X e (tP X B C de fz W)) : PI X tg e (tJ X B C (iOf de) fz W) := ⟨fun pins s σ H Rr I ⟨F, t, rel, q⟩ => by
  unfold iOf at q
  cases k : de C t with
  | ex c fs =>
    simp only [k, R.bind] at q
    refine (pi_list h).run pins s σ H Rr I ⟨F, t, rel, ?_⟩
    simp only [k]
    exact q
  | bad => simp only [k, R.bind] at q
  | ok d =>
    simp only [k, R.bind] at q
    cases d <;> first
      | exact (show False from q).elim
      | skip
    · refine (pi_str h).run pins s σ H Rr I ⟨F, t, rel, ?_⟩
      simp only [k]
      exact fun v F' H' st hv => ⟨_, hv.str, q _ F' H' st wk_str⟩
    · refine (pi_tup h).run pins s σ H Rr I ⟨F, t, rel, ?_⟩
      simp only [k]
      refine fun v F' H' st hv => ?_
      obtain ⟨a, vs, rfl, h1, h2⟩ := hv.tup st.fh
      exact ⟨a, rfl, ⟨vs, h1⟩, q _ F' H' st (wk_tup h1 h2)⟩
    · refine (pi_list h).run pins s σ H Rr I ⟨F, t, rel, ?_⟩
      simp only [k]
      refine fun v F' H' st hv => ?_
      obtain ⟨a, vs, rfl, h1, h2⟩ := hv.lst st.fh
      exact ⟨a, rfl, ⟨vs, SqL.of h1⟩, q _ F' H' st (wk_lst h1 h2)⟩
    · refine (pi_list h).run pins s σ H Rr I ⟨F, t, rel, ?_⟩
      simp only [k]
      refine fun v F' H' st hv => ?_
      obtain ⟨a, rfl, h1⟩ := hv.scr st.fh
      exact ⟨a, rfl, ⟨_, h1⟩, q _ F' H' st (wk_scr h1)⟩
    · refine (pi_tup h).run pins s σ H Rr I ⟨F, t, rel, ?_⟩
      simp only [k]
      refine fun v F' H' st hv => ?_
      obtain ⟨a, vs, rfl, h1, h2⟩ := hv.ft st.fh
      exact ⟨a, rfl, ⟨vs, h1⟩, q _ F' H' st (wk_tup h1 h2)⟩
    · rename_i j
      by_cases hj : RgB j
      · have q : ∀ J F' H', Stp (Zof fz σ t) F H F' H' → Wk X J H' F' (rangeD 0 j.toNat) → Rr J H' := by
          simp only [items, if_pos hj] at q
          exact q
        refine (pi_rngV h).run pins s σ H Rr I ⟨F, t, rel, ?_⟩
        simp only [k]
        refine fun v F' H' st hv => ?_
        obtain ⟨a, rfl, h1⟩ := hv.rng st.fh
        exact ⟨a, j, rfl, h1, hj, q _ F' H' st wk_range⟩
      · simp only [items, if_neg hj] at q
        exact (show False from q).elim⟩
theorem i_range1 {da : AD} (hg : Gl X "range") (hm : X.mg "range" = none) (ha : PA X [e] (tQ X B C da fz W)) (hl : ∀ s ds, da C s = .ok ds → ds.length = 1) (hs : notStar e = true) : PI X tg (.Call (.Name "range" p) [e] [] pos) (tI X B C (iA kRange da) fz W) :=
  ⟨fun pins s σ H Rr I ⟨F, t, rel, q⟩ => (pi_range1 hg hm ha (star_cons hs)).run pins s σ H Rr I (by
    refine ⟨F, t, rel, ?_⟩
    unfold iA at q
    cases k : da C t with
    | ex c fs => simp only [k, R.bind] at q; exact q
    | bad => simp only [k, R.bind] at q
    | ok ds =>
      simp only [k, R.bind] at q
      have h1 := hl t ds k
      refine fun vs F' H' st hv => ?_
      match ds, h1, q, hv with
      | [.int j], _, q, hv =>
        obtain ⟨v, rfl, hv1⟩ := topL1 hv
        have q : match ofO (if -(2 ^ 62) ≤ j ∧ j < 2 ^ 62 then some (rangeD 0 j.toNat) else none) with
          | .ok ds => ∀ J F' H', Stp (Zof fz σ t) F H F' H' → Wk X J F' F' ds → Rr J H'
          | .ex c fs => ∀ cls dd H', Same H H' → ExAt X X.mg c fs cls dd H' → W cls dd σ H'
          | .bad => False := q
        by_cases hj : -(2 ^ 62) ≤ j ∧ j < 2 ^ 62
        · rw [if_pos hj] at q
          exact ⟨j, by rw [hv1.int], hj.1, hj.2, q _ F' H' st wk_range⟩
        · rw [if_neg hj] at q
          exact q.elim)⟩
theorem i_range2 {da : AD} (hg : Gl X "range") (hm : X.mg "range" = none) (ha : PA X [e, e2] (tQ X B C da fz W)) (hl : ∀ s ds, da C s = .ok ds → ds.length = 2) (hs : notStar e = true) (hs2 : notStar e2 = true) :
    PI X tg (.Call (.Name "range" p) [e, e2] [] pos) (tI X B C (iA kRange da) fz W) :=
  ⟨fun pins s σ H Rr I ⟨F, t, rel, q⟩ => (pi_range2 hg hm ha (by rw [star_cons hs, star_cons hs2]; rfl) (star_cons hs2)).run pins s σ H Rr I (by
    refine ⟨F, t, rel, ?_⟩
    unfold iA at q
    cases k : da C t with
    | ex c fs => simp only [k, R.bind] at q; exact q
    | bad => simp only [k, R.bind] at q
    | ok ds =>
      simp only [k, R.bind] at q
      have h1 := hl t ds k
      refine fun vs F' H' st hv => ?_
      match ds, h1, q, hv with
      | [.int i, .int j], _, q, hv =>
        obtain ⟨v, u, rfl, hv1, hu1⟩ := topL2 hv
        have q : match ofO (if -(2 ^ 62) ≤ i ∧ i < 2 ^ 62 ∧ -(2 ^ 62) ≤ j ∧ j < 2 ^ 62 then some (rangeD i (j - i).toNat) else none) with
          | .ok ds => ∀ J F' H', Stp (Zof fz σ t) F H F' H' → Wk X J F' F' ds → Rr J H'
          | .ex c fs => ∀ cls dd H', Same H H' → ExAt X X.mg c fs cls dd H' → W cls dd σ H'
          | .bad => False := q
        by_cases hj : -(2 ^ 62) ≤ i ∧ i < 2 ^ 62 ∧ -(2 ^ 62) ≤ j ∧ j < 2 ^ 62
        · rw [if_pos hj] at q
          exact ⟨i, j, by rw [hv1.int, hu1.int], hj, q _ F' H' st wk_range⟩
        · rw [if_neg hj] at q
          exact q.elim)⟩
theorem topL3 {X : Cx} {F H : Hp} {vs : List V} {a b c : D} (h : TopL X F H vs [a, b, c]) : ∃ v u z, vs = [v, u, z] ∧ Top X.K X.mg F H v a ∧ Top X.K X.mg F H u b ∧ Top X.K X.mg F H z c := by
  match vs, h with
  | [v, u, z], h => exact ⟨v, u, z, rfl, h.1, h.2.1, h.2.2.1⟩
theorem i_range3 {e3 : Expr} {da : AD} (hg : Gl X "range") (hm : X.mg "range" = none) (ha : PA X [e, e2, e3] (tQ X B C da fz W)) (hl : ∀ s ds, da C s = .ok ds → ds.length = 3) (hs : notStar e = true) (hs2 : notStar e2 = true) (hs3 : notStar e3 = true) :
    PI X tg (.Call (.Name "range" p) [e, e2, e3] [] pos) (tI X B C (iA kRange da) fz W) :=
  ⟨fun pins s σ H Rr I ⟨F, t, rel, q⟩ => (pi_range3 hg hm ha (star_cons hs) (by rw [star_cons hs2, star_cons hs3]; rfl)).run pins s σ H Rr I (by
    refine ⟨F, t, rel, ?_⟩
    unfold iA at q
    cases k : da C t with
    | ex c fs => simp only [k, R.bind] at q; exact q
    | bad => simp only [k, R.bind] at q
    | ok ds =>
      simp only [k, R.bind] at q
      have h1 := hl t ds k
      refine fun vs F' H' st hv => ?_
      match ds, h1, q, hv with
      | [.int i, .int j, .int c], _, q, hv =>
        obtain ⟨v, u, z, rfl, hv1, hu1, hz1⟩ := topL3 hv
        have q : match ofO (if c = -1 ∧ -(2 ^ 62) ≤ i ∧ i < 2 ^ 62 ∧ -(2 ^ 62) ≤ j ∧ j < 2 ^ 62 then some (downD i (i - j).toNat) else none) with
          | .ok ds => ∀ J F' H', Stp (Zof fz σ t) F H F' H' → Wk X J F' F' ds → Rr J H'
          | .ex c fs => ∀ cls dd H', Same H H' → ExAt X X.mg c fs cls dd H' → W cls dd σ H'
          | .bad => False := q
        by_cases hj : c = -1 ∧ -(2 ^ 62) ≤ i ∧ i < 2 ^ 62 ∧ -(2 ^ 62) ≤ j ∧ j < 2 ^ 62
        · rw [if_pos hj] at q
          exact ⟨i, j, c, (i - j).toNat, by rw [hv1.int, hu1.int, hz1.int], by rw [hj.1]; exact .neg hj.2.1 hj.2.2.1 hj.2.2.2.1 hj.2.2.2.2, by rw [hj.1]; exact q _ F' H' st wk_down⟩
        · rw [if_neg hj] at q
          exact q.elim)⟩
theorem i_rev {de : LD} (hg : Gl X "reversed") (hm : X.mg "reversed" = none) (h : PE X e (tF X B C de fz W)) (hs : notStar e = true) : PI X tg (.Call (.Name "reversed" p) [e] [] pos) (tI X B C (iRev de) fz W) :=
  ⟨fun pins s σ H Rr I ⟨F, t, rel, q⟩ => (RT.pi_revA hg hm h (star_cons hs)).run pins s σ H Rr I (by
    refine ⟨F, t, rel, ?_⟩
    unfold iRev at q
    cases k : de C t with
    | ex c fs => simp only [k, R.bind] at q; exact q
    | bad => simp only [k, R.bind] at q
    | ok d =>
      simp only [k, R.bind] at q
      refine fun v F' H' st hv => ?_
      cases d <;> first
        | exact (show False from q).elim
        | skip
      · obtain ⟨a, vs, rfl, h1, h2⟩ := hv
        exact ⟨a, vs, rfl, .inr ⟨SqT.of (st.fh _ _ h1), q _ F' H' st (wk_revT (SqT.of h1) h2)⟩⟩
      · obtain ⟨a, vs, rfl, h1, h2⟩ := hv
        exact ⟨a, vs, rfl, .inl ⟨SqL.of (st.fh _ _ h1), q _ F' H' st (wk_rev h1 h2)⟩⟩)⟩
theorem j_rev {de : LD} (hg : Gl X "reversed") (hm : X.mg "reversed" = none) (h : PE X e (tP X B C de fz W)) (hs : notStar e = true) : PI X tg (.Call (.Name "reversed" p) [e] [] pos) (tJ X B C (iRev de) fz W) :=
  ⟨fun pins s σ H Rr I ⟨F, t, rel, q⟩ => (RT.pi_revA hg hm h (star_cons hs)).run pins s σ H Rr I (by
    refine ⟨F, t, rel, ?_⟩
    unfold iRev at q
    cases k : de C t with
    | ex c fs => simp only [k, R.bind] at q; exact q
    | bad => simp only [k, R.bind] at q
    | ok d =>
      simp only [k, R.bind] at q
      refine fun v F' H' st hv => ?_
      cases d <;> first
        | exact (show False from q).elim
        | skip
      · obtain ⟨a, vs, rfl, h1, h2⟩ := hv.tup st.fh
        exact ⟨a, vs, rfl, .inr ⟨h1, q _ F' H' st (wk_revT h1 h2)⟩⟩
      · obtain ⟨a, vs, rfl, h1, h2⟩ := hv.lst st.fh
        exact ⟨a, vs, rfl, .inl ⟨SqL.of h1, q _ F' H' st (wk_rev h1 h2)⟩⟩)⟩
variable {elts : List Expr} {kk : Nat}
/-- what is drawn from a tree -/
theorem items_hold {v : V} {d : D} {l : List D} (h : Rp X.K X.mg F v d) (e : items0 d = some l) : ∃ k vs, v = SK.V k ∧ (∀ H', Same F H' → HoldK X.K H' k vs) ∧ RpL X.K X.mg F vs l := by
  cases d <;> first
    | (cases e; done)
    | skip
  · rename_i z
    cases e
    have h : v = .str z := h
    subst h
    refine ⟨.s z, chV z, rfl, fun H' _ => rfl, ?_⟩
    unfold chV
    generalize z.cps.toList = cs
    induction cs with
    | nil => exact rfl
    | cons c r ih => exact RpL.cons rfl ih
  · cases e
    obtain ⟨a, vs, rfl, h1, h2⟩ := h
    exact ⟨.t a, vs, rfl, fun H' s => SqT.of (s _ _ h1), h2⟩
  · cases e
    obtain ⟨a, vs, rfl, h1, h2⟩ := h
    exact ⟨.l a, vs, rfl, fun H' s => SqL.of (s _ _ h1), h2⟩
  · cases e
    obtain ⟨a, rfl, h1⟩ := h
    exact ⟨.l a, _, rfl, fun H' s => s.seq h1, rp_ints⟩
  · cases e
    obtain ⟨a, vs, rfl, h1, h2⟩ := h
    exact ⟨.t a, vs, rfl, fun H' s => h1.sq, h2⟩
theorem wk_zipK {j k : SK} {vs us : List V} {l m : List D} (h : ∀ H', Same G H' → HoldK X.K H' j vs) (r : RpL X.K X.mg F vs l) (h' : ∀ H', Same G H' → HoldK X.K H' k us) (r' : RpL X.K X.mg F us m) : Wk X (ItzK X.K j k) G F (List.zipWith (fun x y => .tup [x, y]) l m) := by
  refine ⟨fun i H hi s => ?_, fun H s => ⟨vs, us, h H s, h' H s, ?_, ?_, ?_⟩, fun i d H x H' F2 e s1 s2 s3 y => ?_⟩
  · obtain ⟨x, y, e1, e2, _⟩ := zip_get (List.getElem?_eq_getElem hi)
    obtain ⟨v, hv, _⟩ := r.get e1
    obtain ⟨u, hu, _⟩ := r'.get e2
    exact ⟨vs, us, v, u, h H s, h' H s, hv, hu⟩
  · have := r.len; have := r'.len; rw [List.length_zipWith]; omega
  · have := r.len; have := r'.len; rw [List.length_zipWith]; omega
  · have := r.len; have := r'.len; rw [List.length_zipWith]; omega
  · obtain ⟨T, z, w, rfl, hT, rfl, y1, y2⟩ := y
    obtain ⟨x, y, e1, e2, rfl⟩ := zip_get e
    obtain ⟨v, hv, hr⟩ := r.get e1
    obtain ⟨u, hu, hr'⟩ := r'.get e2
    have q1 := (y1 vs (h H s1)).symm.trans hv
    have q2 := (y2 us (h' H s1)).symm.trans hu
    cases q1
    cases q2
    exact pair_ok s3 hT (hr.mono s2) (hr'.mono s2)
theorem wk_enumK {k : SK} {vs : List V} {l : List D} (h : ∀ H', Same G H' → HoldK X.K H' k vs) (r : RpL X.K X.mg F vs l) : Wk X (IteK X.K k) G F (enumD 0 l) := by
  refine ⟨fun i H hi s => ?_, fun H s => ⟨vs, h H s, by rw [enumD_len, r.len]⟩, fun i d H x H' F2 e s1 s2 s3 y => ?_⟩
  · rw [enumD_len] at hi
    obtain ⟨v, hv, _⟩ := r.get (List.getElem?_eq_getElem hi)
    exact ⟨vs, v, h H s, hv⟩
  · obtain ⟨T, z, rfl, hT, rfl, y⟩ := y
    rw [enumD_get, Nat.zero_add] at e
    cases q : l[i]? with
    | none => rw [q] at e; cases e
    | some d0 =>
      rw [q] at e
      cases e
      obtain ⟨v, hv, hr⟩ := r.get q
      have := (y vs (h H s1)).symm.trans hv
      cases this
      exact pair_ok s3 hT rfl (hr.mono s2)
theorem i_zip {da : AD} (hg : Gl X "zip") (hm : X.mg "zip" = none) (ha : PA X [e, e2] (tA X B C da fz W)) (hl : ∀ s ds, da C s = .ok ds → ds.length = 2) (hs : notStar e = true) (hs2 : notStar e2 = true) :
    PI X (.Tuple elts kk tpos) (.Call (.Name "zip" p) [e, e2] [] pos) (tI X B C (iA kZip da) fz W) :=
  ⟨fun pins s σ H Rr I ⟨F, t, rel, q⟩ => (pi_zipK hg hm ha (star_cons hs) (by rw [star_cons hs2]; rfl)).run pins s σ H Rr I (by
    refine ⟨F, t, rel, ?_⟩
    unfold iA at q
    cases k : da C t with
    | ex c fs => simp only [k, R.bind] at q; exact q
    | bad => simp only [k, R.bind] at q
    | ok ds =>
      simp only [k, R.bind] at q
      have h1 := hl t ds k
      refine fun vs F' H' st hv => ?_
      match ds, h1, q, hv with
      | [d1, d2], _, q, hv =>
        obtain ⟨v, r1, ev1, hv1, hr⟩ := hv
        obtain ⟨u, r2, ev2, hu, hr2⟩ := hr
        have ev3 : r2 = [] := hr2
        subst ev3 ev2 ev1
        cases k1 : items0 d1 with
        | none => simp only [kZip, k1, Option.bind, ofO] at q
        | some l1 =>
          cases k2 : items0 d2 with
          | none => simp only [kZip, k1, k2, Option.bind, Option.map, ofO] at q
          | some l2 =>
            simp only [kZip, k1, k2, Option.bind, Option.map, ofO] at q
            obtain ⟨j1, vs1, rfl, a1, b1⟩ := items_hold (X := X) (F := F') (v := v) (d := d1) hv1 k1
            obtain ⟨j2, vs2, rfl, a2, b2⟩ := items_hold (X := X) (F := F') (v := u) (d := d2) hu k2
            exact ⟨j1, j2, vs1, vs2, rfl, a1 _ st.fh, a2 _ st.fh, q _ F' H' st (wk_zipK a1 b1 a2 b2)⟩)⟩
theorem i_enumL {da : AD} (hg : Gl X "enumerate") (hm : X.mg "enumerate" = none) (ha : PA X [e] (tA X B C da fz W)) (hl : ∀ s ds, da C s = .ok ds → ds.length = 1) (hs : notStar e = true) :
    PI X (.Tuple elts kk tpos) (.Call (.Name "enumerate" p) [e] [] pos) (tI X B C (iA kEnum da) fz W) :=
  ⟨fun pins s σ H Rr I ⟨F, t, rel, q⟩ => (pi_enumK hg hm ha (by rw [star_cons hs]; rfl)).run pins s σ H Rr I (by
    refine ⟨F, t, rel, ?_⟩
    unfold iA at q
    cases k : da C t with
    | ex c fs => simp only [k, R.bind] at q; exact q
    | bad => simp only [k, R.bind] at q
    | ok ds =>
      simp only [k, R.bind] at q
      have h1 := hl t ds k
      refine fun vs F' H' st hv => ?_
      match ds, h1, q, hv with
      | [d1], _, q, hv =>
        obtain ⟨v, r1, ev1, hv1, hr⟩ := hv
        have ev3 : r1 = [] := hr
        subst ev3 ev1
        cases k1 : items0 d1 with
        | none => simp only [kEnum, k1, Option.map, ofO] at q
        | some l1 =>
          simp only [kEnum, k1, Option.map, ofO] at q
          obtain ⟨j1, vs1, rfl, a1, b1⟩ := items_hold (X := X) (F := F') (v := v) (d := d1) hv1 k1
          exact ⟨j1, vs1, rfl, a1 _ st.fh, q _ F' H' st (wk_enumK a1 b1)⟩)⟩
end
end DN
/-! Den12: list comprehensions. -/
namespace DN
open PySem PySem.Spec PyProof.Rows L2
/-- within a block nothing is asked of the entry -/
def Bas.bk (B : Bas) : Bas := ⟨fun _ => none, B.er, none⟩
/-- and nothing may be raised -/
def WN : WX := fun _ _ _ _ => False
section
variable {X : Cx} {B : Bas} {C : Call} {W : WX} {F F' H H' F0 F1 G : Hp} {σ : L2.St} {s : SE} {fz fy : List Nat} {pos p tpos : Pos}
theorem wipeS_len : ∀ (vs : List Nat) (s : SE), (wipeS vs s).length = s.length
  | [], _ => rfl
  | i :: r, s => by unfold wipeS; rw [List.length_set, wipeS_len r s]
theorem wipeS_some : ∀ {vs : List Nat} {s : SE} {j : Nat} {x : Sl}, (wipeS vs s)[j]? = some (some x) → s[j]? = some (some x) ∧ j ∉ vs
  | [], _, _, _, h => ⟨h, List.not_mem_nil⟩
  | i :: r, s, j, x, h => by
    unfold wipeS at h
    by_cases hj : i = j
    · subst hj
      by_cases hl : i < (wipeS r s).length
      · rw [List.getElem?_set_self hl] at h; cases h
      · rw [List.getElem?_eq_none (by simpa using hl)] at h; cases h
    · rw [List.getElem?_set_ne hj] at h
      obtain ⟨h1, h2⟩ := wipeS_some h
      exact ⟨h1, fun z => (List.mem_cons.mp z).elim (fun e => hj e.symm) h2⟩
theorem wipe_out {σ : L2.St} : ∀ {vs : List Nat} {j : Nat}, j ∉ vs → (wipe σ vs)[j]? = σ[j]?
  | [], _, _ => rfl
  | i :: r, j, h => by
    unfold wipe
    rw [List.getElem?_set_ne fun e => h (by rw [e]; exact List.mem_cons_self)]
    exact wipe_out fun z => h (List.mem_cons_of_mem _ z)
theorem wipe_in {σ : L2.St} : ∀ {vs : List Nat} {j : Nat}, j ∈ vs → j < σ.length → (wipe σ vs)[j]? = some none
  | [], _, h, _ => absurd h List.not_mem_nil
  | i :: r, j, h, hl => by
    unfold wipe
    by_cases hj : i = j
    · subst hj
      exact List.getElem?_set_self (by rw [wipe_length]; exact hl)
    · rw [List.getElem?_set_ne hj]
      exact wipe_in ((List.mem_cons.mp h).resolve_left fun e => hj e.symm) hl
theorem wipe_ext {σ σ' : L2.St} {vs : List Nat} (hl : σ.length = σ'.length) (h : ∀ j, j ∉ vs → σ[j]? = σ'[j]?) : wipe σ vs = wipe σ' vs := by
  apply List.ext_getElem?
  intro j
  by_cases hj : j ∈ vs
  · by_cases hb : j < σ.length
    · rw [wipe_in hj hb, wipe_in hj (hl ▸ hb)]
    · rw [List.getElem?_eq_none (by rw [wipe_length]; omega), List.getElem?_eq_none (by rw [wipe_length]; omega)]
  · rw [wipe_out hj, wipe_out hj, h j hj]
/-- into a block -/
theorem RelW.block {vs : List Nat} (rel : RelW X.K X.mg B F H σ s) : RelW X.K X.mg B.bk F H (wipe σ vs) (wipeS vs s) := by
  refine ⟨by rw [wipeS_len, wipe_length]; exact rel.len, fun a o h => (nomatch h), rel.fh, fun i x e => ?_, fun i j x y a hij e1 e2 e3 => ?_, fun a e => (nomatch e)⟩
  · obtain ⟨e1, hn⟩ := wipeS_some e
    obtain ⟨v, ev, hv⟩ := rel.slot i x e1
    refine ⟨v, by rw [wipe_out hn]; exact ev, ?_⟩
    cases x with
    | fr d => exact hv
    | ow d =>
      obtain ⟨a, ea, _, h⟩ := hv
      exact ⟨a, ea, rfl, h⟩
    | bw d => cases d <;> exact hv
  · obtain ⟨f1, n1⟩ := wipeS_some e1
    obtain ⟨f2, n2⟩ := wipeS_some e2
    rw [wipe_out n1] at e3
    rw [wipe_out n2]
    exact rel.dist i j x y a hij f1 f2 e3
theorem RelW.putB {i : Nat} {v : V} {d : D} (rel : RelW X.K X.mg B.bk F H σ s) (hv : Rp X.K X.mg F v d) : RelW X.K X.mg B.bk F H (σ.set i (some v)) (s.set i (some (.fr d))) := by
  have e2 : ∀ (m : Nat) (z : D), (s.set i (some (.fr d)))[m]? = some (some (.ow z)) → i ≠ m ∧ s[m]? = some (some (.ow z)) := fun m z e => by
    by_cases hm : i = m
    · subst hm
      by_cases hil : i < s.length
      · rw [List.getElem?_set_self hil] at e; cases e
      · rw [List.getElem?_eq_none (by simpa using hil)] at e; cases e
    · rw [List.getElem?_set_ne hm] at e
      exact ⟨hm, e⟩
  refine ⟨by rw [List.length_set, List.length_set]; exact rel.len, rel.h0, rel.fh, fun j x e => ?_, fun j k x y b hjk ej ek => ?_, fun a e => (nomatch e)⟩
  · by_cases hj : i = j
    · subst hj
      have hil : i < s.length := by
        have := (List.getElem?_eq_some_iff.mp e).1
        simpa using this
      rw [List.getElem?_set_self hil] at e
      cases e
      exact ⟨v, List.getElem?_set_self (by rw [← rel.len]; exact hil), hv⟩
    · rw [List.getElem?_set_ne hj] at e ⊢
      exact rel.slot j x e
  · obtain ⟨n1, e1⟩ := e2 j x ej
    obtain ⟨n2, e3⟩ := e2 k y ek
    rw [List.getElem?_set_ne n1, List.getElem?_set_ne n2]
    exact rel.dist j k x y b hjk e1 e3
/-- a target within a block: its slots are among the block's own, vs -/
def TgB (X : Cx) (vs : List Nat) (tg : TG) (g : Tg) : Prop := ∀ (B : Bas) (F H : Hp) (σ : L2.St) (s s1 : SE) (v : V) (d : D) (Q : L2.St → Hp → Prop), RelW X.K X.mg B.bk F H σ s → Rp X.K X.mg F v d → g.put d s = some s1 →
  (∀ σ', RelW X.K X.mg B.bk F H σ' s1 → (∀ j, j ∉ vs → σ'[j]? = σ[j]?) → (∀ (j : Nat) (x : D), s1[j]? = some (some (.ow x)) → s[j]? = some (some (.ow x))) → Q σ' H) → tg v σ H Q
theorem put_fr {i : Nat} {d x : D} {j : Nat} (h : (s.set i (some (.fr d)))[j]? = some (some (.ow x))) : s[j]? = some (some (.ow x)) := by
  by_cases hm : i = j
  · subst hm
    by_cases hil : i < s.length
    · rw [List.getElem?_set_self hil] at h; cases h
    · rw [List.getElem?_eq_none (by simpa using hil)] at h; cases h
  · rwa [List.getElem?_set_ne hm] at h
mutual
theorem tgb_ok : ∀ (g : Tg) {vs : List Nat}, (∀ i ∈ g.sl, i ∈ vs) → TgB X vs (ggOf X.K g) g
  | .nm i, vs, hi, B, F, H, σ, s, s1, v, d, Q, rel, hv, e, h => by
    cases e
    exact h _ (rel.putB hv) (fun j hj => List.getElem?_set_ne fun z => hj (by rw [← z]; exact hi i List.mem_cons_self)) fun j x hx => put_fr hx
  | .tp l, vs, hi, B, F, H, σ, s, s1, v, d, Q, rel, hv, e, h => by
    obtain ⟨ds, rfl, e⟩ := put_tup e
    obtain ⟨a, ws, e1, h1, h2⟩ := hv
    exact ⟨a, ws, e1, SqT.of (rel.fh _ _ h1), by rw [h2.len, puts_len e], gAllB l hi B F H σ s s1 ds ws Q rel h2 e h⟩
theorem gAllB : ∀ (l : Tgs) {vs : List Nat}, (∀ i ∈ l.sl, i ∈ vs) → ∀ (B : Bas) (F H : Hp) (σ : L2.St) (s s1 : SE) (ds : List D) (ws : List V) (Q : L2.St → Hp → Prop), RelW X.K X.mg B.bk F H σ s → RpL X.K X.mg F ws ds → l.put ds s = some s1 →
    (∀ σ', RelW X.K X.mg B.bk F H σ' s1 → (∀ j, j ∉ vs → σ'[j]? = σ[j]?) → (∀ (j : Nat) (x : D), s1[j]? = some (some (.ow x)) → s[j]? = some (some (.ow x))) → Q σ' H) → gAll X.K l ws σ H Q
  | .nil, vs, hi, B, F, H, σ, s, s1, ds, ws, Q, rel, hv, e, h => by
    obtain ⟨rfl, rfl⟩ := puts_nil e
    exact ⟨hv, h _ rel (fun _ _ => rfl) fun _ _ hx => hx⟩
  | .cons g r, vs, hi, B, F, H, σ, s, s1, ds, ws, Q, rel, hv, e, h => by
    obtain ⟨d, t, s', rfl, e1, e2⟩ := puts_cons e
    obtain ⟨v, vr, e3, h1, h2⟩ := hv
    refine ⟨v, vr, e3, tgb_ok g (fun i hm => hi i (List.mem_append_left _ hm)) B F H σ s s' v d _ rel h1 e1 fun σ' rel' r2 r3 => gAllB r (fun i hm => hi i (List.mem_append_right _ hm)) B F H σ' s' s1 t vr Q rel' h2 e2 fun σ2 u1 u2 u3 => h σ2 u1 (fun j hj => ?_) fun j x hx => r3 j x (u3 j x hx)⟩
    rw [u2 j hj, r2 j hj]
end
/-- an own slot of the block's start is one of the frame's -/
theorem zof_back {vs : List Nat} {σ2 : L2.St} {s1 : SE} {a : Addr} (h1 : ∀ j, j ∉ vs → σ2[j]? = (wipe σ vs)[j]?) (h2 : ∀ (j : Nat) (x : D), s1[j]? = some (some (.ow x)) → (wipeS vs s)[j]? = some (some (.ow x))) (z : Zof fy σ2 s1 a) : Zof fy σ s a := by
  obtain ⟨i, d, hi, e1, e2⟩ := z
  obtain ⟨f1, n1⟩ := wipeS_some (h2 i d e1)
  rw [h1 i n1, wipe_out n1] at e2
  exact ⟨i, d, hi, f1, e2⟩
/-- an own object of the frame stands in its heap -/
theorem zof_there (rel : RelW X.K X.mg B F H σ s) {a : Addr} (z : Zof fy σ s a) : ∃ o, H a = some o := by
  obtain ⟨i, d, hi, e1, e2⟩ := z
  obtain ⟨v, ev, b, eb, _, hO⟩ := rel.slot i _ e1
  rw [e2] at ev
  cases ev
  cases eb
  exact hO.there
mutual
theorem put_len : ∀ {g : Tg} {d : D} {s s1 : SE}, g.put d s = some s1 → s1.length = s.length
  | .nm i, d, s, s1, h => by
    have e : s.set i (some (.fr d)) = s1 := Option.some.inj h
    rw [← e, List.length_set]
  | .tp l, d, s, s1, h => by
    obtain ⟨ds, rfl, e⟩ := put_tup h
    exact puts_slen e
theorem puts_slen : ∀ {l : Tgs} {ds : List D} {s s1 : SE}, l.put ds s = some s1 → s1.length = s.length
  | .nil, ds, s, s1, h => by rw [(puts_nil h).2]
  | .cons g r, ds, s, s1, h => by
    obtain ⟨d, t, s', rfl, e1, e2⟩ := puts_cons h
    rw [puts_slen e2, put_len e1]
end
theorem lcD_noex {g : Tg} {t : BD} {el : LD} {c : Str} {fs : List (Str × D)} : ∀ (ds : List D) (s : SE), lcD C g t el s ds ≠ .ex c fs
  | [], s => fun z => by unfold lcD at z; cases z
  | d :: r, s => fun z => by
    unfold lcD at z
    cases q : g.put d s with
    | none => simp only [q] at z; cases z
    | some s1 =>
      simp only [q] at z
      cases k : t C s1 with
      | ex c fs => simp only [k, noX, R.bind] at z; cases z
      | bad => simp only [k, noX, R.bind] at z; cases z
      | ok b =>
        simp only [k, noX, R.bind] at z
        cases b with
        | false =>
          rw [if_neg Bool.false_ne_true] at z
          exact lcD_noex r s z
        | true =>
          rw [if_pos rfl] at z
          cases k2 : el C s1 with
          | ex c fs => simp only [k2] at z; cases z
          | bad => simp only [k2] at z; cases z
          | ok x =>
            simp only [k2] at z
            cases k3 : lcD C g t el s r with
            | ex c fs => exact lcD_noex r s k3
            | bad => simp only [k3] at z; cases z
            | ok l => simp only [k3] at z; cases z
theorem lc_read {vs : List Nat} {it : ID} {g : Tg} {gg : TG} {t : BD} {el : LD} (hT : TgB X vs gg g) {Q : VK} (h : tD X B C (eLc g it t el vs) (fz ++ fy) W σ H Q) :
    tLc (tJ X B C it fz W) gg (DN.tB X B.bk C t WN) (tF X B.bk C el fy WN) vs σ H Q := by
  obtain ⟨F, s, rel, h⟩ := h
  refine ⟨F, s, rel, ?_⟩
  unfold eLc at h
  cases k : it C s with
  | ex c fs => simp only [k, R.bind] at h; exact h
  | bad => simp only [k, R.bind] at h
  | ok ds =>
    simp only [k, R.bind] at h
    refine fun J F1 H1 t1 hJ D hD => ?_
    by_cases hz : ds.length ≤ LIM
    · rw [if_pos hz] at h
      cases k2 : lcD C g t el (wipeS vs s) ds with
      | ex c fs => exact (lcD_noex ds _ k2).elim
      | bad => simp only [k2] at h
      | ok total =>
        simp only [k2] at h
        refine ⟨fun i m H => m = ds.length - i ∧ i ≤ ds.length ∧ ∃ F2 us ls rest, Stp (Zof (fz ++ fy) σ s) F1 H1 F2 H ∧ F2 D = none ∧ H D = some (.lst us) ∧ RpL X.K X.mg F2 us ls ∧ ls.length ≤ i ∧ lcD C g t el (wipeS vs s) (ds.drop i) = .ok rest ∧ total = ls ++ rest,
          ⟨ds.length, by simp, Nat.zero_le _, F1, [], [], total, .newOwn t1.fh hD, t1.fh.free hD, upd_same, rfl, Nat.le_refl _, k2, rfl⟩, ?_⟩
        rintro i m H2 ⟨rfl, hi, F2, us, ls, rest, t2, nD, hU, hr, hls, hrest, htot⟩
        by_cases hlt : i < ds.length
        · refine .inr ⟨hJ.go i H2 hlt t2.hh, ?_⟩
          rw [List.drop_eq_getElem_cons hlt] at hrest
          unfold lcD at hrest
          cases q : g.put ds[i] (wipeS vs s) with
          | none => simp only [q] at hrest; cases hrest
          | some s1 =>
            simp only [q] at hrest
            refine ⟨fun H' => ∃ F2 us ls rest, Stp (Zof (fz ++ fy) σ s) F1 H1 F2 H' ∧ F2 D = none ∧ H' D = some (.lst us) ∧ RpL X.K X.mg F2 us ls ∧ ls.length ≤ i + 1 ∧ lcD C g t el (wipeS vs s) (ds.drop (i + 1)) = .ok rest ∧ total = ls ++ rest,
              fun H' z => ⟨_, by omega, rfl, by omega, z⟩, fun x H3 hy => ?_⟩
            obtain ⟨F3, t3, hx⟩ := hJ.yld i ds[i] H2 x H3 F2 (List.getElem?_eq_getElem hlt) t2.hh t2.ff t2.fh hy
            have t03 : Stp (Zof (fz ++ fy) σ s) F1 H1 F3 H3 := t2.trans t3.of0
            have relb : RelW X.K X.mg B.bk F3 H3 (wipe σ vs) (wipeS vs s) := ((rel.step t1).step t03).block
            have nD3 : F3 D = none := by
              cases z : F3 D with
              | none => rfl
              | some o =>
                rcases t3.fr D o z with z | z | z
                · rw [nD] at z; cases z
                · rw [hU] at z; cases z
                · exact z.elim
            have hD3 : ∀ {H' : Hp}, Same H3 H' → H' D = some (.lst us) := fun e => e _ _ (t3.hh _ _ hU)
            refine hT B F3 H3 _ _ s1 x ds[i] _ relb hx q fun σ2 r1 r2 r3 => ⟨?_, F3, s1, r1, ?_⟩
            · refine wipe_ext ?_ fun j hj => ?_
              · rw [← r1.len, put_len q, wipeS_len, rel.len]
              · rw [r2 j hj, wipe_out hj]
            · cases k4 : t C s1 with
              | ex c fs => simp only [k4, noX, R.bind] at hrest; cases hrest
              | bad => simp only [k4, noX, R.bind] at hrest; cases hrest
              | ok b =>
                simp only [k4, noX, R.bind] at hrest
                refine fun H4 t4 => ?_
                have t04 : Stp (Zof (fz ++ fy) σ s) F1 H1 F3 H4 := t03.trans ⟨.refl _, t4, t03.fh.trans t4, fun _ _ h => .inl h⟩
                cases b with
                | false =>
                  rw [if_neg Bool.false_ne_true] at hrest
                  exact iteF ⟨F3, us, ls, rest, t04, nD3, hD3 t4, hr.mono t3.ff, Nat.le_succ_of_le hls, hrest, htot⟩
                | true =>
                  rw [if_pos rfl] at hrest
                  refine iteT ⟨F3, s1, r1.same t4, ?_⟩
                  cases k5 : el C s1 with
                  | ex c fs => simp only [k5] at hrest; cases hrest
                  | bad => simp only [k5] at hrest; cases hrest
                  | ok y =>
                    simp only [k5] at hrest
                    refine fun w F5 H5 t5 hw => ?_
                    cases k6 : lcD C g t el (wipeS vs s) (ds.drop (i + 1)) with
                    | ex c fs => simp only [k6] at hrest; cases hrest
                    | bad => simp only [k6] at hrest; cases hrest
                    | ok l2 =>
                      simp only [k6] at hrest
                      cases hrest
                      have zb : ∀ a, Zof fy σ2 s1 a → Zof fy σ s a := fun a z => zof_back r2 r3 z
                      have t05 : Stp (Zof (fz ++ fy) σ s) F1 H1 F5 H5 := t04.trans (t5.wk fun a z => zof_r a (zb a z))
                      have nD5 : F5 D = none := by
                        cases z : F5 D with
                        | none => rfl
                        | some o =>
                          rcases t5.fr D o z with z | z | z
                          · rw [nD3] at z; cases z
                          · rw [hD3 t4] at z; cases z
                          · obtain ⟨o', ho'⟩ := zof_there rel (zb D z)
                            have := t1.hh _ _ ho'
                            rw [hD] at this; cases this
                      have hU5 : H5 D = some (.lst us) := t5.hh _ _ (hD3 t4)
                      refine ⟨us, hU5, lim_lt (by rw [hr.len]; exact Nat.le_trans hls (Nat.le_trans (Nat.le_of_lt hlt) hz)), F5, us ++ [w], ls ++ [y], l2, ⟨t05.ff, fun a o ha => ?_, fun a o ha => ?_, t05.fr⟩, nD5, upd_same, (hr.mono (t3.ff.trans t5.ff)).append (RpL.cons hw rfl), ?_, rfl, ?_⟩
                      · rw [upd_ne (ne_of_none ha hD)]
                        exact t05.hh _ _ ha
                      · rw [upd_ne (ne_of_none ha nD5)]
                        exact t05.fh _ _ ha
                      · rw [List.length_append, List.length_singleton]
                        omega
                      · rw [htot, List.append_assoc]
                        rfl
        · have ei : i = ds.length := by omega
          subst ei
          rw [List.drop_length] at hrest
          cases hrest
          rw [List.append_nil] at htot
          subst htot
          exact .inl ⟨hJ.stop H2 t2.hh, h _ F2 H2 ((t1.wk zof_l).trans t2) ⟨D, rfl, t1.hh.free hD, nD, us, hU, hr⟩⟩
    · rw [if_neg hz] at h
      exact h.elim
theorem ts_nil {X' : Cx} : PTs X' [] (DN.tB X' B.bk C bTrue WN) := ⟨fun pins s σ H Q I ⟨F, t, rel, h⟩ => pts_nil.run pins s σ H Q I (h H (.refl _))⟩
theorem ts_one {X' : Cx} {c : Expr} {t : BD} (h : PT X' c (DN.tB X' B.bk C t WN)) : PTs X' [c] (DN.tB X' B.bk C t WN) := pts_one h
/-- a comprehension's parts, within its block -/
structure LcOk (X : Cx) (B : Bas) (C : Call) (scope : Scope) (own : List (Str × Nat)) (tg elt : Expr) (ifs : List Expr) (g : Tg) (gg : TG) (t : BD) (el : LD) (fy : List Nat) : Prop where
  blk : BlkOk X.N X.env.scope scope own
  hT : TgB X (own.map (·.2)) gg g
  hg : ∀ (s : Shared) (H : Hp) (L : Addr) (cl : List (Str × Addr)) (fp : List Addr), PG (X.blk s H scope (compEnvC scope cl L X.env) fp) tg gg
  ht : ∀ (s : Shared) (H : Hp) (L : Addr) (cl : List (Str × Addr)) (fp : List Addr), PTs (X.blk s H scope (compEnvC scope cl L X.env) fp) ifs (DN.tB X B.bk C t WN)
  he : ∀ (s : Shared) (H : Hp) (L : Addr) (cl : List (Str × Addr)) (fp : List Addr), PE (X.blk s H scope (compEnvC scope cl L X.env) fp) elt (tF X B.bk C el fy WN)
theorem r_lc {elt tg iter : Expr} {ifs : List Expr} {scope : Scope} {own : List (Str × Nat)} {it : ID} {g : Tg} {gg : TG} {t : BD} {el : LD} (hc : X.calm = true) (hN : X.N.Nodup) (hi : PI X tg iter (tJ X B C it fz W)) (L : LcOk X B C scope own tg elt ifs g gg t el fy)
    (hs : ∀ x, foldedSetIterable iter X.env x = pure x) : PE X (.ListComp elt [⟨tg, iter, ifs, 0⟩] scope pos) (tD X B C (eLc g it t el (own.map (·.2))) (fz ++ fy) W) :=
  (pe_lc hc hN hi L.blk L.hg L.ht L.he hs).wk fun σ H Q h => lc_read L.hT h
theorem s_setLc {i : Nat} {y : Str} (h0' : Ok0 B i) {py spos : Pos} {elt tg iter : Expr} {ifs : List Expr} {scope : Scope} {own : List (Str × Nat)} {it : ID} {g : Tg} {gg : TG} {t : BD} {el : LD} (hc : X.calm = true) (hN : X.N.Nodup) (hy : X.N[i]? = some y) (hyl : X.env.scope.names.lookup y = some .local)
    (hsw : swapsWith (.ListComp elt [⟨tg, iter, ifs, 0⟩] scope pos) (some (.Name y py)) spos.line X.env = pure true) (hi : PI X tg iter (tJ X B C it fz W)) (L : LcOk X B C scope own tg elt ifs g gg t el fy)
    (hs : ∀ x, foldedSetIterable iter X.env x = pure x) : PS X (.Assign [.Name y py] (.ListComp elt [⟨tg, iter, ifs, 0⟩] scope pos) spos) (tS X B C (sAsg i (eLc g it t el (own.map (·.2))) (fz ++ fy)) W) :=
  (ps_setLc hc hN hy hyl hsw hi L.blk L.hg L.ht L.he hs).wk fun Dn σ H ⟨F0, F, s, rel, h⟩ => by
  unfold sAsg at h
  refine lc_read L.hT (Q := fun x H1 => gName i x σ H1 Dn.nx) ⟨F, s, rel.toRelW, ?_⟩
  cases k : eLc g it t el (own.map (·.2)) C s with
  | ok r =>
    obtain ⟨b, d⟩ := r
    simp only [k] at h
    refine fun v F' H' t hv => ?_
    obtain ⟨F'', f⟩ := asg_ok rel t hv i h0'
    exact h _ F'' H' f
  | ex c fs =>
    simp only [k] at h
    exact fun cls dd H' t hx => h cls dd σ F H' (rel.same t) hx
  | bad => simp only [k] at h; exact h
end
end DN
/-! Den13: truth, *, sum. -/
namespace DN
open PySem PySem.Spec PyProof.Rows L2
section
variable {X : Cx} {B : Bas} {C : Call} {W : WX} {F H : Hp} {e a b c : Expr} {es rest : List Expr} {fz fy fx : List Nat} {pos : Pos}
/-! ### truth -/
theorem isEmpty_len {α β : Type} {a : List α} {b : List β} (h : a.length = b.length) : (!a.isEmpty) = !b.isEmpty := by
  cases a <;> cases b <;> first
    | rfl
    | cases h
theorem top_truth {d : D} {v : V} {k : Bool} (s : Same F H) (h : Top X.K X.mg F H v d) (e : truth d = some k) : TruV X.K v H k := by
  cases d <;> first
    | (cases e; done)
    | skip
  · cases e
    rw [h.non]
    rfl
  · cases e
    rw [h.bl]
    rfl
  · cases e
    rw [h.int]
    rfl
  · rename_i z
    have e : (if z.length ≤ LIM then some (z.length != 0) else none) = some k := e
    by_cases hz : z.length ≤ LIM
    · rw [if_pos hz] at e
      cases e
      rw [h.str]
      refine ⟨lim_size hz, ?_⟩
      show (z.length != 0) = ((z.length : Int) != 0)
      rw [Bool.eq_iff_iff]
      simp only [bne_iff_ne, ne_eq]
      omega
    · rw [if_neg hz] at e
      cases e
  · rename_i l
    have e : some (!l.isEmpty) = some k := e
    cases e
    rcases h with h | ⟨_, _, h⟩
    · obtain ⟨p, vs, rfl, h1, h2⟩ := h
      exact .inr (.inl ⟨vs, SqT.of (s _ _ h1), (isEmpty_len h2.len).symm⟩)
    · exact h.elim
  · rename_i l
    have e : some (!l.isEmpty) = some k := e
    cases e
    obtain ⟨p, vs, rfl, h1, h2⟩ := h.lst s
    exact .inl ⟨vs, SqL.of h1, (isEmpty_len h2.len).symm⟩
  · rename_i l
    have e : some (!l.isEmpty) = some k := e
    cases e
    obtain ⟨p, rfl, h1⟩ := h.scr s
    exact .inl ⟨_, h1, (isEmpty_len (List.length_map ..)).symm⟩
  · rename_i l
    have e : some (!l.isEmpty) = some k := e
    cases e
    obtain ⟨p, vs, rfl, h1, h2⟩ := h.ft s
    exact .inr (.inl ⟨vs, h1, (isEmpty_len h2.len).symm⟩)
theorem t_truth {da : LD} (h : PE X e (tP X B C da fz W)) (hp : plainT e = true) : PT X e (DN.tB X B C (bTruth da) W) := (pt_truth h (plainT_ok hp)).wk fun σ H Q ⟨F, s, rel, q⟩ => by
  refine ⟨F, s, rel, ?_⟩
  unfold bTruth at q
  cases k : da C s with
  | ok x =>
    simp only [k, R.bind] at q
    refine fun v F' H' t hv => ?_
    cases k2 : truth x with
    | none => simp only [k2, ofO] at q
    | some b =>
      simp only [k2, ofO] at q
      exact ⟨b, top_truth t.fh hv k2, q H' t.hh⟩
  | ex c fs => simp only [k, R.bind] at q; exact q
  | bad => simp only [k, R.bind] at q
/-! ### tuple * int, at the small counts -/
theorem rep_zero {α : Type} {k : Int} {xs : List α} (h : k ≤ 0) : (List.replicate k.toNat xs).flatten = [] := by
  rw [Int.toNat_of_nonpos h]
  rfl
theorem rep_one {α : Type} {xs : List α} : (List.replicate (1 : Int).toNat xs).flatten = xs := by
  show [xs].flatten = xs
  simp
theorem rep_nil {α : Type} : ∀ n : Nat, (List.replicate n ([] : List α)).flatten = []
  | 0 => rfl
  | n + 1 => by
    rw [List.replicate_succ, List.flatten_cons, rep_nil n]
    rfl
theorem tupleMul_same (l : Addr) (items : Array Value) (n : Nat) (dd : Option Addr) (sl : Array (Option Value)) (x : Int) (u : Tok) (c0 : (decide (x < -(2 ^ 63)) || decide (x ≥ 2 ^ 63)) = false) (c1 : (items.isEmpty || x == 1) = true) :
    Meets (Builtin.«tuple.__mul__» ⟨[.ref l, .int x u], []⟩) (fun _ R s => s.heap.get? l = some { cls := .type "tuple", dict := dd, data := .seq items n, slots := sl } ∧ R (.ok (.ret (.ref l))) s) :=
  .of_wp fun prog w A R s h => by
    obtain ⟨hp, g, d, tk, os⟩ := s
    obtain ⟨hl, h⟩ := h
    have f1 := AutoSeq1.idx_int
    wp_walk using wpAny_loadPart' hl
    repeat (first
      | (refine wpAny_ite_false (decide_eq_false (by rw [c0]; exact Bool.false_ne_true)) ?_; wp_walk using wpAny_loadPart' hl)
      | (refine wpAny_ite_true (decide_eq_true c1) ?_; wp_walk using wpAny_loadPart' hl))
    exact ⟨_, rfl, h⟩
theorem tupleMul_none (l : Addr) (items : Array Value) (n : Nat) (dd : Option Addr) (sl : Array (Option Value)) (x : Int) (u : Tok) (c0 : (decide (x < -(2 ^ 63)) || decide (x ≥ 2 ^ 63)) = false) (c1 : (items.isEmpty || x == 1) = false) (c2 : (decide (x ≤ 0) || items.isEmpty) = true) :
    Meets (Builtin.«tuple.__mul__» ⟨[.ref l, .int x u], []⟩) (fun _ R s => s.heap.get? l = some { cls := .type "tuple", dict := dd, data := .seq items n, slots := sl } ∧
      R (.ok (.ret (.ref s.heap.objs.size))) { s with heap := s.heap.push { cls := .type "tuple", data := .seq #[] } }) :=
  .of_wp fun prog w A R s h => by
    obtain ⟨hp, g, d, tk, os⟩ := s
    obtain ⟨hl, h⟩ := h
    have f1 := AutoSeq1.idx_int
    wp_walk using wpAny_loadPart' hl
    repeat (first
      | (refine wpAny_ite_false (decide_eq_false (by rw [c0]; exact Bool.false_ne_true)) ?_; wp_walk using wpAny_loadPart' hl)
      | (refine wpAny_ite_false (decide_eq_false (by rw [c1]; exact Bool.false_ne_true)) ?_; wp_walk using wpAny_loadPart' hl)
      | (refine wpAny_ite_true (decide_eq_true c2) ?_; wp_walk using wpAny_loadPart' hl))
    exact ⟨_, rfl, h⟩
/-- an empty tuple, or one times 1: the thing itself; one times 0 or less: an empty one -/
def rRep0 (K : PySem.W.Frag) : R2 := fun x y H Q => ∃ l k xs, x = .ref l ∧ y = .int k ∧ SqT K H l xs ∧ -1000 ≤ k ∧ k ≤ 1000 ∧ (((xs = [] ∨ k = 1) ∧ Q (.ref l) H) ∨ (xs ≠ [] ∧ k ≤ 0 ∧ ∀ p, H p = none → Q (.ref p) (upd H p (.tup []))))
theorem op_rep0 : OpR X (binaryOp .Mult) (rRep0 X.K) := by
  intro pins s σ H x y v u Q I rx ry h
  obtain ⟨l, k, xs, rfl, rfl, hT, k1, k2, q⟩ := h
  cases rx
  obtain ⟨t, rfl⟩ := ry
  obtain ⟨its, r, ⟨⟨cls, dd, data, sl⟩, ho, hc, n, hd⟩, hs⟩ := I.tuple hT
  simp only at hc hd
  subst hc hd
  have c0 : (decide (k < -(2 ^ 63)) || decide (k ≥ 2 ^ 63)) = false := by
    rw [decide_eq_false (by omega), decide_eq_false (by omega)]
    rfl
  have he : its.toArray.isEmpty = xs.isEmpty := by
    cases r <;> rfl
  rcases q with ⟨h1, q⟩ | ⟨hne, hk, q⟩
  · have c1 : (its.toArray.isEmpty || k == 1) = true := by
      rcases h1 with h1 | h1
      · rw [he, h1]
        rfl
      · rw [h1]
        exact Bool.or_true _
    exact wpAny_binaryOp_repeat_ref (T := "tuple") (U := "int") (by decide) ⟨_, ho, rfl⟩ (fun s' => typeIs_int s' k t) noFill_tuple_mul F.fills_int_mul F.slot_int_rmul repeat_tuple F.slot_int_index.lookup
      (call_meets F.slot_int_rmul (typeIs_int s k t) F.entry_int_rmul (F.args_int_rmul_2 _ _) (int_rmul_tuple k t l its.toArray n dd sl)
        ⟨ho, rfl, ⟨_, ho, rfl⟩, call_meets F.slot_tuple_mul ⟨_, ho, rfl⟩ F.entry_tuple_mul (F.args_tuple_mul_2 _ _) (tupleMul_same l its.toArray n dd sl k t c0 c1) ⟨ho, ⟨.ref l, H, I, rfl, q⟩⟩⟩)
  · have c1 : (its.toArray.isEmpty || k == 1) = false := by
      rw [he]
      cases xs with
      | nil => exact absurd rfl hne
      | cons a b =>
        show (k == 1) = false
        exact beq_eq_false_iff_ne.mpr (by omega)
    have c2 : (decide (k ≤ 0) || its.toArray.isEmpty) = true := by
      rw [decide_eq_true hk]
      rfl
    refine wpAny_binaryOp_repeat_ref (T := "tuple") (U := "int") (by decide) ⟨_, ho, rfl⟩ (fun s' => typeIs_int s' k t) noFill_tuple_mul F.fills_int_mul F.slot_int_rmul repeat_tuple F.slot_int_index.lookup
      (call_meets F.slot_int_rmul (typeIs_int s k t) F.entry_int_rmul (F.args_int_rmul_2 _ _) (int_rmul_tuple k t l its.toArray n dd sl)
        ⟨ho, rfl, ⟨_, ho, rfl⟩, call_meets F.slot_tuple_mul ⟨_, ho, rfl⟩ F.entry_tuple_mul (F.args_tuple_mul_2 _ _) (tupleMul_none l its.toArray n dd sl k t c0 c1 c2) ⟨ho, ?_⟩⟩)
    refine ⟨.ref s.heap.objs.size, _, I.laid (t' := s.toks) (o := .tup []) (fun b ob z => Heap.get?_push_of_some _ z) (Nat.le_refl _) ?_, rfl, q _ (I.hok.fresh (Nat.le_refl _))⟩
    exact ⟨Nat.zero_le _, [], .nil, IsTup.new _ _⟩
def rMulD (K : PySem.W.Frag) : R2 := fun x y H Q => ((rI CMul (fun i j => .int (i * j)) x y H Q ∨ rRep x y H Q) ∨ rRepT K x y H Q) ∨ rRep0 K x y H Q
theorem op_mulD : OpR X (binaryOp .Mult) (rMulD X.K) := ((op_mul.or op_rep).or op_repT).or op_rep0
theorem rep_all {F : Hp} {vs : List V} {l : List D} (r : RpL X.K X.mg F vs l) : ∀ n : Nat, RpL X.K X.mg F (List.replicate n vs).flatten (List.replicate n l).flatten
  | 0 => rfl
  | n + 1 => by
    rw [List.replicate_succ, List.replicate_succ, List.flatten_cons, List.flatten_cons]
    exact r.append (rep_all r n)
theorem ok_mul : Op2 X (rMulD X.K) dMul := fun x y v u F H Q s hx hy h => by
  cases x <;> cases y <;> first
    | exact (show False from h).elim
    | skip
  · rename_i i j
    have h : Ans X F H Q (if (-(2 ^ 64) < i ∧ i < 2 ^ 64) ∨ (-(2 ^ 64) < j ∧ j < 2 ^ 64) then some (false, .int (i * j)) else none) := h
    obtain ⟨hc, h⟩ := ans_ite h
    exact .inl (.inl (.inl ⟨i, j, hx.int, hy.int, hc, h.flat s rfl⟩))
  · rename_i l k
    have h : Ans X F H Q (if k ≤ 1000 ∧ -1000 ≤ k ∧ l.length ≤ 1000 then some (false, .tup (List.replicate k.toNat l).flatten) else none) := h
    obtain ⟨⟨h1, h2, h3⟩, h⟩ := ans_ite h
    rcases hx with hx | ⟨_, _, hx⟩
    · obtain ⟨a, vs, rfl, e1, r1⟩ := hx
      have hT : SqT X.K H a vs := SqT.of (s _ _ e1)
      by_cases c1 : vs = [] ∨ k = 1
      · refine .inr ⟨a, k, vs, rfl, hy.int, hT, h2, h1, .inl ⟨c1, h.flat s ?_⟩⟩
        have el : (List.replicate k.toNat l).flatten = l := by
          rcases c1 with c1 | c1
          · have : l = [] := List.eq_nil_of_length_eq_zero (by rw [← r1.len, c1]; rfl)
            rw [this, rep_nil]
          · rw [c1, rep_one]
        rw [el]
        exact ⟨a, vs, rfl, e1, r1⟩
      · have c2 : vs ≠ [] := fun z => c1 (.inl z)
        have c3 : k ≠ 1 := fun z => c1 (.inr z)
        by_cases c4 : k ≤ 0
        · rw [rep_zero c4] at h
          exact .inr ⟨a, k, vs, rfl, hy.int, hT, h2, h1, .inr ⟨c2, c4, Ans.tup s h (vs := []) rfl⟩⟩
        · exact .inl (.inr ⟨a, k, vs, rfl, hy.int, hT, c2, by omega, h1, by rw [r1.len]; exact h3, Ans.tup s h (rep_all r1 _)⟩)
    · exact hx.elim
  · rename_i l k
    have h : Ans X F H Q (if k ≤ 1000 ∧ -1000 ≤ k ∧ l.length ≤ 1000 then some (true, .lst (List.replicate k.toNat l).flatten) else none) := h
    obtain ⟨⟨h1, h2, h3⟩, h⟩ := ans_ite h
    obtain ⟨a, vs, rfl, e1, r1⟩ := hx.lst s
    refine .inl (.inl (.inr ⟨a, k, vs, rfl, hy.int, e1, by omega, by omega, ?_, Ans.lst s h (rep_all r1 _)⟩))
    have hs := sizeLine_eq
    have a1 : vs.length * k.toNat ≤ 1000 * 1000 := Nat.mul_le_mul (by rw [r1.len]; exact h3) (by omega)
    omega
/-! ### sum -/
section
variable {prog : Program} {w : World} {A : Around} {E : Value → Shared → Prop} {s : Shared} {l : Addr} {its : List Value} {ns : List Int} {Q : Value → Shared → Prop}
theorem sum_tup (hh : A.handled = none) (hl : s.heap.IsTuple l its.toArray) (hi : IntsAre its ns)
    (h : ∀ h' tk t', (∀ b o, s.heap.get? b = some o → h'.get? b = some o) → Q (.int ns.sum t') { s with heap := h', toks := tk }) : wpAny (model prog w) A (call (.builtin "sum") [.ref l]) Q E s := by
  obtain ⟨xs, e⟩ := hi.allInts.items
  have hn : numsOf (intItems xs).toList = ns := by rw [← e]; exact hi.numsOf
  rw [nums_intItems] at hn
  rw [e] at hl
  have hlt : l < s.heap.objs.size := by obtain ⟨_, e, _⟩ := hl; exact Heap.lt_size e
  refine call_sum_walkG (wpAny_pyIter_tuple hl ?_)
  refine ⟨_, _, _, _, _, _, numAt xs, rfl, Walks.tuple (A := A.in1) hh s.heap.objs.size l (Nat.ne_of_lt hlt) (intItems xs), ⟨⟨_, Heap.get?_push_size _ rfl, rfl, rfl⟩, ?_⟩, fun b hb => ?_, fun _ _ => intItems_at, fun h' tk t' hk => ?_⟩
  · obtain ⟨o, e1, e2⟩ := hl
    exact ⟨o, Heap.get?_push_of_some _ e1, e2⟩
  · show b < (s.heap.push _).objs.size
    rw [Heap.size_push]
    rcases List.mem_cons.mp hb with z | z
    · rw [z]; exact Nat.lt_succ_self _
    · rw [List.mem_singleton.mp z]; exact Nat.lt_succ_of_lt hlt
  · have kp : ∀ b o, s.heap.get? b = some o → h'.get? b = some o := fun b o z => hk b o (fun hm => by
      rw [List.mem_singleton.mp hm] at z
      exact absurd (Heap.lt_size z) (Nat.lt_irrefl _)) (Heap.get?_push_of_some _ z)
    have z := h h' tk t' kp
    have e3 : preSum (numAt xs) (intItems xs).size = ns.sum := by
      rw [preSum_eq, List.take_of_length_le (by simp [intItems]), hn]
    rw [e3]
    exact z
end
def rSumD (K : PySem.W.Frag) : List V → Hp → VK → Prop := fun vs H Q => rSum K vs H Q ∨ ∃ (a : Addr) (ns : List Int), vs = [V.ref a] ∧ SqT K H a (ns.map V.int) ∧ Q (.int ns.sum) H
theorem call_sumD (hc : X.calm = true) : CallR X (.builtin "sum") (rSumD X.K) := by
  intro pins s σ H vs us Q I r h
  rcases h with h | h
  · exact cr_sum hc pins s σ H vs us Q I r h
  · obtain ⟨a, ns, rfl, hs, q⟩ := h
    obtain ⟨its, rv, hl, _⟩ := I.tuple hs
    rw [Vals.ref1 r]
    exact sum_tup (I.ok.hd hc) hl rv.ints fun h' tk t' hk => ⟨.int _, H, I.kept hk, ⟨_, rfl⟩, q⟩
theorem ok_sum : OpA X (rSumD X.K) kSum := fun xs vs F H Q s hx h => by
  match xs, h with
  | [.lst l], h =>
    obtain ⟨v, rfl, hv⟩ := topL1 hx
    obtain ⟨a, ws, rfl, h1, r1⟩ := hv.lst s
    have h2 : Ans X F H Q (match D.ints l with
      | some ns => some (false, .int ns.sum)
      | none => none) := h
    cases k : D.ints l with
    | none => rw [k] at h2; exact h2.elim
    | some ns =>
      rw [k] at h2
      clear h
      have e := ints_map k
      subst e
      rw [rp_ints_eq r1] at h1
      exact .inl ⟨a, ns, rfl, SqL.of h1, h2.flat s rfl⟩
  | [.tup l], h =>
    obtain ⟨v, rfl, hv⟩ := topL1 hx
    have h2 : Ans X F H Q (match D.ints l with
      | some ns => some (false, .int ns.sum)
      | none => none) := h
    cases k : D.ints l with
    | none => rw [k] at h2; exact h2.elim
    | some ns =>
      rw [k] at h2
      clear h
      have e := ints_map k
      subst e
      rcases hv with hv | ⟨_, _, hv⟩
      · obtain ⟨a, ws, rfl, h1, r1⟩ := hv
        rw [rp_ints_eq r1] at h1
        exact .inr ⟨a, ns, rfl, SqT.of (s _ _ h1), h2.flat s rfl⟩
      · exact hv.elim
/-! ### isinstance of built-in types -/
def TyC.nm : TyC → String
  | .int => "int"
  | .bool => "bool"
  | .str => "str"
  | .list => "list"
  | .tuple => "tuple"
def TyK.nm : TyK → String
  | .non => "NoneType"
  | .bool => "bool"
  | .int => "int"
  | .str => "str"
  | .tuple => "tuple"
  | .list => "list"
theorem kit_all : ∀ (a : TyK) (b : TyC), kitB a.nm b.nm = some (isK a b) := by
  intro a b
  cases a <;> cases b <;> decide +kernel
theorem top_ty {d : D} {v : V} {k : TyK} (s : Same F H) (h : Top X.K X.mg F H v d) (e : tyK d = some k) : TyX X.K H v (.type k.nm) := by
  cases d <;> first
    | (cases e; done)
    | skip
  · cases e; rw [h.non]; exact .base .non
  · cases e; rw [h.bl]; exact .base (.bl _)
  · cases e; rw [h.int]; exact .base (.int _)
  · cases e; rw [h.str]; exact .base (.str _)
  · cases e
    rcases h with h | ⟨_, _, h⟩
    · obtain ⟨p, vs, rfl, h1, h2⟩ := h
      exact .base (.tup (s _ _ h1))
    · exact h.elim
  · cases e
    obtain ⟨p, vs, rfl, h1, h2⟩ := h.lst s
    exact .base (.lst h1)
theorem boot_ty : ∀ t : TyC, bootBuiltins (Str.ofString t.nm) = some (.type t.nm)
  | .int => boot_int
  | .bool => by decide +kernel
  | .str => by decide +kernel
  | .list => boot_list
  | .tuple => boot_tuple
theorem boot_isi : bootBuiltins "isinstance" = some (.builtin "isinstance") := by decide +kernel
theorem ty_n : ∀ t : TyC, Str.ofString t.nm ≠ "__name__"
  | .int => by decide
  | .bool => by decide
  | .str => by decide
  | .list => by decide
  | .tuple => by decide
theorem r_isi {t : TyC} {da : LD} {p q : Pos} {x : Str} (hx : x = Str.ofString t.nm) (hg : Gl X "isinstance") (hm : X.mg "isinstance" = none) (hgt : Gl X x) (hmt : X.mg x = none) (hdb : (x == ("__debug__" : Str)) = false) (h : PE X e (tP X B C da fz W)) (hs : notStar e = true) :
    PE X (.Call (.Name "isinstance" p) [e, .Name x q] [] pos) (tD X B C (e1 (dIsi t) da) fz W) := by
  subst hx
  refine (pe_callB call_isi hg hm boot_isi (pa_cons h (pa_cons (pe_bltn hgt hmt (boot_ty t) (v := .ty t.nm) rfl (ty_n t) hdb) pa_nil rfl) (star_cons hs)) (by decide) (by decide) (star_cons hs) (star_none rfl)).wk fun σ H Q ⟨F, s, rel, h⟩ => ?_
  refine ⟨F, s, rel, ?_⟩
  unfold e1 at h
  cases k : da C s with
  | ok x =>
    simp only [k, R.bind] at h
    refine fun v F' H' t' hv => ?_
    unfold dIsi at h
    cases k2 : tyK x with
    | none => simp only [k2, ofO] at h
    | some a =>
      simp only [k2, ofO] at h
      exact ⟨v, .ty t.nm, _, _, _, rfl, .ty _, top_ty t'.fh hv k2, kit_ty (kit_all a t), h _ F' H' t' rfl⟩
  | ex c fs => simp only [k, R.bind] at h; exact h
  | bad => simp only [k, R.bind] at h
end
end DN
/-! Den14: x in o of an own class. -/
namespace DN
open PySem PySem.Spec PyProof.Rows L2
/-! ### the machine's step -/
section
open PySem.W
variable {K : PySem.W.Frag} {prog : Program} {w : World} {A : Around} {E : Value → Shared → Prop} {s : Shared} {x f C : Addr} {ox : Obj} {od : Option Obj} {v : Value}
theorem own_contains {Q : Bool → Shared → Prop} (X : K.In s.heap) (I : InstAt s.heap x ox C od) (hs : findIn K (.ref C) "__contains__" = some (some (.ref f))) (hf : isFn K (.ref f) = true)
    (h : wpAny (model prog w) A (call (.ref f) [.ref x, v]) (fun u s' => ∃ b, u = .bool b ∧ Q b s') E s) : wpAny (model prog w) A (contains (.ref x) v) Q E s := by
  unfold contains
  refine wpAny_holding ?_
  show wpAny _ A (specialOf (.ref x) "__contains__" >>= _) _ _ _
  refine wpAny_bind (wpAny_bind (I.type.here ((looks_findIn X hs).here ?_)))
  show wpAny _ A (callSpecialUnlessNone? (.ref x) "__contains__" [v] _ >>= _) _ _ _
  unfold callSpecialUnlessNone?
  refine wpAny_bind (wpAny_bind (wpAny_bind (I.type.here ((looks_findIn X hs).here ?_))))
  show wpAny _ A (holding [.ref x, v] _) _ _ _
  refine wpAny_holding (wpAny_bind ((bind_fn X _ (beq_iff_eq.mp hf)).here ?_))
  show wpAny _ A (call (.ref f) ([.ref x] ++ [v]) >>= _) _ _ _
  refine wpAny_bind (wpAny_mono h (fun u s' hu => ?_) fun _ _ z => z)
  obtain ⟨b, rfl, hq⟩ := hu
  exact wpAny_pure (wpAny_truthy_bool hq)
theorem own_in {Q : Value → Shared → Prop} (X : K.In s.heap) (I : InstAt s.heap x ox C od) (hs : findIn K (.ref C) "__contains__" = some (some (.ref f))) (hf : isFn K (.ref f) = true)
    (h : wpAny (model prog w) A (call (.ref f) [.ref x, v]) (fun u s' => ∃ b, u = .bool b ∧ Q (.bool b) s') E s) : wpAny (model prog w) A (compareOp .In v (.ref x)) Q E s := by
  unfold compareOp
  exact wpAny_bind (wpAny_mono (own_contains (Q := fun b s' => Q (.bool b) s') X I hs hf h) (fun b s' hb => wpAny_pure hb) fun _ _ z => z)
theorem own_notIn {Q : Value → Shared → Prop} (X : K.In s.heap) (I : InstAt s.heap x ox C od) (hs : findIn K (.ref C) "__contains__" = some (some (.ref f))) (hf : isFn K (.ref f) = true)
    (h : wpAny (model prog w) A (call (.ref f) [.ref x, v]) (fun u s' => ∃ b, u = .bool b ∧ Q (.bool (!b)) s') E s) : wpAny (model prog w) A (compareOp .NotIn v (.ref x)) Q E s := by
  unfold compareOp
  exact wpAny_bind (wpAny_mono (own_contains (Q := fun b s' => Q (.bool (!b)) s') X I hs hf h) (fun b s' hb => wpAny_pure hb) fun _ _ z => z)
end
section
variable {X : Cx} {B : Bas} {C : Call} {W : WX} {F H : Hp} {a b : Expr} {fz fy : List Nat} {pos : Pos}
def Op2F (X : Cx) (r : R2) (f : D → D → Option (Bool × D)) : Prop := ∀ (x y : D) (v u : V) (F H : Hp) (Q : VK), Same F H → Top X.K X.mg F H v x → Rp X.K X.mg F u y → Ans X F H Q (f x y) → r v u H Q
theorem read2F {da db : LD} {r : R2} {f : D → D → Option (Bool × D)} (hf : Op2F X r f) {σ : L2.St} {Q : VK} (h : tD X B C (e2 f da db) (fz ++ fy) W σ H Q) :
    tP X B C da fz W σ H fun x H1 => tF X B C db fy W σ H1 fun y H2 => r x y H2 Q := by
  obtain ⟨F, s, rel, h⟩ := h
  refine ⟨F, s, rel, ?_⟩
  unfold e2 at h
  cases k : da C s with
  | bad => simp only [k, R.bind] at h
  | ex c fs => simp only [k, R.bind] at h; exact h
  | ok x =>
    simp only [k, R.bind] at h
    refine fun v F1 H1 t hv => ⟨F1, s, rel.step t, ?_⟩
    cases k2 : db C s with
    | bad => simp only [k2] at h
    | ex c fs => simp only [k2] at h; exact fun cls dd H' e => h cls dd H' (t.hh.trans e)
    | ok y =>
      simp only [k2] at h
      have h : match ofO (f x y) with
        | .ok (b, d) => ∀ v F' H', Stp (Zof (fz ++ fy) σ s) F H F' H' → Vres X H F' H' b v d → Q v H'
        | .ex c fs => ∀ cls dd H', Same H H' → ExAt X X.mg c fs cls dd H' → W cls dd σ H'
        | .bad => False := h
      exact fun u F2 H2 t2 hu => hf x y v u F2 H2 Q t2.fh (hv.mono t2.ff t2.hh) hu (ans_of ((t.wk zof_l).trans (t2.wk zof_r)) h)
def rOwnIn (X : Cx) (k : Nat) (neg : Bool) : R2 := fun x y H Q => ∃ a Ca dx vfs f fd ps dvs ds G, y = .ref a ∧ H a = some (.ins Ca dx vfs) ∧ Meth X.K Ca "__contains__" f ∧ FnOk X.prog X.w X.K X.mg X.base (L2.CX X.prog X.w) k f fd ps (spD X.K X.mg ps.length G) ∧ Vals dvs ds ∧ Binds X.K fd ps ds ∧
  spD X.K X.mg ps.length G ([.ref a, x] ++ dvs) H (fun v H' => ∃ b, v = .bl b ∧ Q (.bl (if neg = true then !b else b)) H') (fun _ _ _ => False)
theorem pass_false {σ : L2.St} : PassesAt (L2.CX X.prog X.w) X σ (fun _ _ _ => False) := fun _ _ _ _ _ _ c => by
  obtain ⟨_, _, _, _, _, _, _, _, _, _, _, _, z⟩ := c
  exact z.elim
theorem op_ownIn {k : Nat} (hr : Room k X.A) (neg : Bool) : OpR X (compareOp (if neg = true then .NotIn else .In)) (rOwnIn X k neg) := by
  intro pins s σ H x y v u Q I rx ry h
  obtain ⟨a, Ca, dx, vfs, f, fd, ps, dvs, ds, G, rfl, ha, hM, Fo, hd, hb, hsp⟩ := h
  cases ry
  obtain ⟨mA, J, _⟩ := ins_get I.hok ha
  obtain ⟨od, J, _⟩ := J.look
  have q := run_at (us := [.ref a, v]) (vs := [.ref a, x]) Fo hr hb hd pass_false I (.cons rfl (.cons rx .nil)) hsp
  cases neg with
  | false =>
    refine own_in I.kIn J hM.at_ hM.fn (wpAny_mono q (fun u s' hu => ?_) fun _ _ z => z)
    obtain ⟨w, H', I', rw', b, rfl, hq⟩ := hu
    cases rw'
    exact ⟨b, rfl, .bl b, H', I', rfl, hq⟩
  | true =>
    refine own_notIn I.kIn J hM.at_ hM.fn (wpAny_mono q (fun u s' hu => ?_) fun _ _ z => z)
    obtain ⟨w, H', I', rw', b, rfl, hq⟩ := hu
    cases rw'
    exact ⟨b, rfl, .bl (!b), H', I', rfl, hq⟩
theorem op_inO (hu : X.A.units + 65 < cLine) (neg : Bool) : OpR X (compareOp (if neg = true then .NotIn else .In)) (if neg = true then rNotInDD X.K else rInDD X.K) := by
  cases neg with
  | false => exact op_inDD hu
  | true => exact op_notInDD hu
theorem solid_rp {d : D} {v : V} (h : Top X.K X.mg F H v d) (e : solid d = true) : Rp X.K X.mg F v d := by
  rcases h with h | ⟨_, _, h⟩
  · exact h
  · cases d <;> first
      | exact h.elim
      | cases e
theorem ok_inO {k : Nat} {neg : Bool} {tb : Str → Bool} (hM : ∀ c, tb c = true → MethAt X C k c "__contains__" 1 []) : Op2F X (fun x y H Q => (if neg = true then rNotInDD X.K else rInDD X.K) x y H Q ∨ rOwnIn X k neg x y H Q) (dInO C neg tb) := fun x y v u F H Q s hx hy h => by
  have plain : Ans X F H Q (if neg = true then dNotIn x y else dIn x y) → (if neg = true then rNotInDD X.K else rInDD X.K) v u H Q := fun h => by
    cases neg with
    | false => exact ok_in x y v u F H Q s hx (.inl hy) h
    | true => exact ok_notIn x y v u F H Q s hx (.inl hy) h
  cases y <;> first
    | exact .inl (plain h)
    | skip
  rename_i c fs
  have h : Ans X F H Q (if tb c = true ∧ solid x = true then (ownIn C x c fs).map fun r => (false, D.bl (if neg = true then !r else r)) else none) := h
  obtain ⟨⟨h1, h2⟩, h⟩ := ans_ite h
  unfold ownIn at h
  have hy0 := hy
  obtain ⟨p, Ca, dx, vfs, rfl, hc, hF, hv⟩ := hy
  obtain ⟨f, c1, c2, kp, fd, ps, Fo, hn, dvs, ds, hd, hb, hdl, hD⟩ := (hM c h1).ok Ca hc
  refine .inr ⟨p, Ca, dx, vfs, f, fd, ps, dvs, ds, _, rfl, s _ _ hF, c2, Fo, hd, hb, ?_, F, [.obj c fs, x] ++ [], s, (RpL.cons hy0 (RpL.cons (solid_rp hx h2) (show RpL X.K X.mg F [] [] from rfl))).append (hD F), ?_⟩
  · rw [List.length_append, (hD F).len]
    exact hn
  · rw [List.append_nil]
    cases q : C (c, some "__contains__") [.obj c fs, x] with
    | bad => simp only [q, Option.map_none] at h; exact h.elim
    | ex c' fs' => simp only [q, Option.map_none] at h; exact h.elim
    | ok r =>
      obtain ⟨b, d⟩ := r
      simp only [q] at h
      cases d <;> first
        | (simp only [Option.map_none] at h; exact h.elim)
        | skip
      rename_i r
      simp only [Option.map_some] at h
      cases b with
      | false =>
        intro w F' H' t hw
        have hw : w = .bl r := hw
        exact ⟨r, hw, h _ F' H' t rfl⟩
      | true =>
        intro w F' H' t hw
        obtain ⟨_, _, _, _, hO⟩ := hw
        exact hO.elim
theorem r_inO {da db : LD} {k : Nat} {neg : Bool} {tb : Str → Bool} (hu : X.A.units + 65 < cLine) (hr : Room k X.A) (hM : ∀ c, tb c = true → MethAt X C k c "__contains__" 1 []) (h1 : PE X a (tP X B C da fz W)) (h2 : PE X b (tF X B C db fy W)) (hm : behindInMarks (if neg = true then .NotIn else .In) b = false) :
    PE X (.Compare a [if neg = true then .NotIn else .In] [b] pos) (tD X B C (eInO neg tb da db) (fz ++ fy) W) :=
  (pe_cmpR ((op_inO hu neg).or (op_ownIn hr neg)) h1 h2 hm).wk fun σ H Q h => read2F (ok_inO hM) h
theorem t_inO {da db : LD} {k : Nat} {neg : Bool} {tb : Str → Bool} (hu : X.A.units + 65 < cLine) (hr : Room k X.A) (hM : ∀ c, tb c = true → MethAt X C k c "__contains__" 1 []) (h1 : PE X a (tP X B C da fz W)) (h2 : PE X b (tF X B C db fy W)) (hm : behindInMarks (if neg = true then .NotIn else .In) b = false) :
    PT X (.Compare a [if neg = true then .NotIn else .In] [b] pos) (DN.tB X B C (bE (eInO neg tb da db)) W) :=
  (pt_cmpR ((op_inO hu neg).or (op_ownIn hr neg)) h1 h2 hm).wk fun σ H Q h => read2F (ok_inO hM) (test_read (fz := fz ++ fy) h)
end
end DN
/-! Den15: calls of defs with *args. -/
namespace DN
open PySem PySem.Spec PyProof.Rows L2
/-- what a def of p parameters and *rest promises -/
def spS (K : PySem.W.Frag) (mg : Str → Option Value) (p : Nat) (F : List D → R (Bool × D)) : Sp := fun vs H Q E => p ≤ vs.length ∧ ∃ Fz ds, Same Fz H ∧ RpL K mg Fz vs ds ∧ ds.length ≤ LIM ∧ match F (ds.take p ++ [.tup (ds.drop p)]) with
  | .ok (b, d) => ∀ v F' H', Stp Z0 Fz H F' H' → VresK K mg H F' H' b v d → Q v H'
  | .ex c fs => ∀ cls dd H', Same H H' → ExAtK K mg c fs cls dd H' → E cls dd H'
  | .bad => False
structure StarAt (X : Cx) (C : Call) (k : Nat) (x : Str) (f : Addr) (p : Nat) : Prop where
  kp : PySem.W.keepIn X.K (.ref f) = true
  ok : FnR X.prog X.w X.K X.mg X.base (L2.CX X.prog X.w) k f (spS X.K X.mg p (C (x, none)))
section
variable {X : Cx} {B : Bas} {C : Call} {W : WX} {e : Expr} {es : List Expr} {fz : List Nat} {pos q : Pos} {k p : Nat} {f : Addr} {x : Str}
theorem r_callS {da : AD} (Fa : StarAt X C k x f p) (hr : Room k X.A) (tk : Takes X W) (hg : Gl X x) (hm : X.mg x = some (.ref f)) (ha : PA X (e :: es) (tA X B C da fz W)) (hl : ∀ s ds, da C s = .ok ds → p ≤ ds.length)
    (hs : (e :: es).all notStar = true) (hdb : (x == ("__debug__" : Str)) = false) : PE X (.Call (.Name x q) (e :: es) [] pos) (tD X B C (eCallS x p da) fz W) := by
  rw [List.all_cons, Bool.and_eq_true] at hs
  refine ⟨fun pins s σ H Q I h => ?_⟩
  have h2 : tA X B C da fz W σ H fun vs H1 => spS X.K X.mg p (C (x, none)) vs H1 Q (WE W σ) := by
    obtain ⟨F, t, rel, h⟩ := h
    refine ⟨F, t, rel, ?_⟩
    unfold eCallS at h
    cases k1 : da C t with
    | bad => simp only [k1, R.bind] at h
    | ex c fs => simp only [k1, R.bind] at h; exact h
    | ok ds =>
      simp only [k1, R.bind] at h
      by_cases hz : ds.length ≤ LIM
      · rw [if_pos hz] at h
        intro vs F1 H1 t1 hv
        refine ⟨by rw [hv.len]; exact hl t ds k1, F1, ds, t1.fh, hv, hz, ?_⟩
        cases k2 : C (x, none) (ds.take p ++ [.tup (ds.drop p)]) with
        | ok r =>
          obtain ⟨b, d⟩ := r
          rw [k2] at h
          exact fun v F' H' t' hv => h v F' H' (t1.trans t'.of0) (Vres.back (X := X) t1.hh hv)
        | ex c fs =>
          rw [k2] at h
          exact fun cls dd H' t' hx => h cls dd H' (t1.hh.trans t') hx
        | bad => rw [k2] at h; exact h
      · rw [if_neg hz] at h
        exact h.elim
  refine wpAny_Call_Name_kw (ld_glob I hg hm ?_ hdb)
  refine PySem.W.callWith_K (h₀ := X.base) I.ok.mod.kin Fa.kp (thn (ha.run pos pins s σ H _ I h2) fun us s1 ⟨vs, H1, I1, r, q1⟩ => ⟨I1.kIn, ?_⟩) (star_cons hs.1) (star_none hs.2)
  refine wpAny_call (codeAny_mono (Fa.ok X.A X.stack s1 H1 us vs Q (WE W σ) hr I1.env0 r q1) fun res s' hq => ?_)
  match res, hq with
  | .error e, hq => exact passAt tk σ pins H1 s1 e s' I1 hq
  | .ok (.ret u), hq => exact I1.after hq
  | .ok .next, hq => exact hq.elim
  | .ok .brk, hq => exact hq.elim
  | .ok .cont, hq => exact hq.elim
end
end DN
/-! Den16: comprehensions of two clauses. -/
namespace DN
open PySem PySem.Spec PyProof.Rows L2
section
variable {X : Cx} {B : Bas} {C : Call} {W : WX} {F F' H H' F0 F1 G : Hp} {σ : L2.St} {s : SE} {fz fz1 fy : List Nat} {pos p tpos : Pos}
theorem lc2D_noex {g g1 : Tg} {t t1 : BD} {it1 : ID} {el : LD} {vs1 : List Nat} {c : Str} {fs : List (Str × D)} : ∀ (ds : List D) (s : SE), lc2D C g t it1 g1 t1 el vs1 s ds ≠ .ex c fs
  | [], s => fun z => by unfold lc2D at z; cases z
  | d :: r, s => fun z => by
    unfold lc2D at z
    cases q : g.put d s with
    | none => simp only [q] at z; cases z
    | some s1 =>
      simp only [q] at z
      cases k : t C s1 with
      | ex c fs => simp only [k, noX, R.bind] at z; cases z
      | bad => simp only [k, noX, R.bind] at z; cases z
      | ok b =>
        simp only [k, noX, R.bind] at z
        cases b with
        | false =>
          rw [if_neg Bool.false_ne_true] at z
          exact lc2D_noex r s z
        | true =>
          rw [if_pos rfl] at z
          cases k2 : it1 C s1 with
          | ex c fs => simp only [k2] at z; cases z
          | bad => simp only [k2] at z; cases z
          | ok es =>
            simp only [k2] at z
            cases k3 : lcD C g1 t1 el (wipeS vs1 s1) es with
            | ex c fs => exact lcD_noex _ _ k3
            | bad => simp only [k3] at z; cases z
            | ok l1 =>
              simp only [k3] at z
              cases k4 : lc2D C g t it1 g1 t1 el vs1 s r with
              | ex c fs => exact lc2D_noex r s k4
              | bad => simp only [k4] at z; cases z
              | ok l => simp only [k4] at z; cases z
/-- a block's slots behind a change of what is not theirs -/
theorem RelW.move {vs : List Nat} {σ2 : L2.St} {s1 : SE} (r1 : RelW X.K X.mg B.bk F H σ2 s1) (rb : RelW X.K X.mg B.bk F' H' (wipe σ vs) (wipeS vs s)) (ff : Same F F') (hx : ∀ d vfs, H d = some (.xd vfs) → H' d = some (.xd vfs)) (r2 : ∀ j, j ∉ vs → σ2[j]? = (wipe σ vs)[j]?)
    (r3 : ∀ (j : Nat) (x : D), s1[j]? = some (some (.ow x)) → (wipeS vs s)[j]? = some (some (.ow x))) : RelW X.K X.mg B.bk F' H' σ2 s1 := by
  refine ⟨r1.len, fun a o h => (nomatch h), rb.fh, fun i x e => ?_, r1.dist, fun a e => (nomatch e)⟩
  cases x with
  | fr d =>
    obtain ⟨v, ev, hv⟩ := r1.slot i _ e
    exact ⟨v, ev, Rp.mono ff hv⟩
  | ow d =>
    have e2 := r3 i d e
    obtain ⟨v, ev, hv⟩ := rb.slot i _ e2
    exact ⟨v, by rw [r2 i (wipeS_some e2).2]; exact ev, hv⟩
  | bw d =>
    obtain ⟨v, ev, hv⟩ := r1.slot i _ e
    refine ⟨v, ev, ?_⟩
    cases d <;> first
      | exact hv
      | skip
    obtain ⟨a, cls, dd, e1, e2, e3⟩ := hv
    exact ⟨a, cls, dd, e1, e2, e3.mono hx⟩
/-- the list that grows at D -/
structure Grow (X : Cx) (Z : Addr → Prop) (F1 H1 : Hp) (L : Addr) (ls : List D) (H : Hp) : Prop where
  ex : ∃ F us, Stp Z F1 H1 F H ∧ F L = none ∧ H L = some (.lst us) ∧ RpL X.K X.mg F us ls
theorem lc_read2 {vs vs1 : List Nat} {it it1 : ID} {g g1 : Tg} {gg gg1 : TG} {t t1 : BD} {el : LD} (hT : TgB X vs gg g) (hT1 : TgB X vs1 gg1 g1) {Q : VK} (h : tD X B C (eLc2 g it t g1 it1 t1 el vs vs1) (fz ++ (fz1 ++ fy)) W σ H Q) :
    tLc2 (tJ X B C it fz W) gg (DN.tB X B.bk C t WN) (tI X B.bk C it1 fz1 WN) gg1 (DN.tB X B.bk C t1 WN) (tF X B.bk C el fy WN) vs vs1 σ H Q := by
  obtain ⟨F, s, rel, h⟩ := h
  refine ⟨F, s, rel, ?_⟩
  unfold eLc2 at h
  cases k : it C s with
  | ex c fs => simp only [k, R.bind] at h; exact h
  | bad => simp only [k, R.bind] at h
  | ok ds =>
    simp only [k, R.bind] at h
    refine fun J F1 H1 t1' hJ D hD => ?_
    cases k2 : lc2D C g t it1 g1 t1 el vs1 (wipeS vs s) ds with
    | ex c fs => exact (lc2D_noex ds _ k2).elim
    | bad => simp only [k2] at h
    | ok total =>
      simp only [k2] at h
      by_cases hz : total.length ≤ LIM
      case neg => rw [if_neg hz] at h; exact h.elim
      rw [if_pos hz] at h
      generalize hZZ : Zof (fz ++ (fz1 ++ fy)) σ s = ZZ at h
      have zl : ∀ a, Zof fz σ s a → ZZ a := fun a z => by rw [← hZZ]; exact zof_l a z
      have z1 : ∀ a, Zof fz1 σ s a → ZZ a := fun a z => by rw [← hZZ]; exact zof_r a (zof_l a z)
      have zy : ∀ a, Zof fy σ s a → ZZ a := fun a z => by rw [← hZZ]; exact zof_r a (zof_r a z)
      have ndD : ∀ {fq : List Nat}, Zof fq σ s D → False := fun z => by
        obtain ⟨o', ho'⟩ := zof_there rel z
        have := t1'.hh _ _ ho'
        rw [hD] at this; cases this
      refine ⟨fun i m H => m = ds.length - i ∧ i ≤ ds.length ∧ ∃ ls rest, Grow X ZZ F1 H1 D ls H ∧ lc2D C g t it1 g1 t1 el vs1 (wipeS vs s) (ds.drop i) = .ok rest ∧ total = ls ++ rest,
        ⟨ds.length, by simp, Nat.zero_le _, [], total, ⟨F1, [], .newOwn t1'.fh hD, t1'.fh.free hD, upd_same, rfl⟩, k2, rfl⟩, ?_⟩
      rintro i m H2 ⟨rfl, hi, ls, rest, ⟨F2, us, t2, nD, hU, hr⟩, hrest, htot⟩
      by_cases hlt : i < ds.length
      · refine .inr ⟨hJ.go i H2 hlt t2.hh, ?_⟩
        rw [List.drop_eq_getElem_cons hlt] at hrest
        unfold lc2D at hrest
        cases q : g.put ds[i] (wipeS vs s) with
        | none => simp only [q] at hrest; cases hrest
        | some s1 =>
          simp only [q] at hrest
          refine ⟨fun H' => ∃ ls rest, Grow X ZZ F1 H1 D ls H' ∧ lc2D C g t it1 g1 t1 el vs1 (wipeS vs s) (ds.drop (i + 1)) = .ok rest ∧ total = ls ++ rest,
            fun H' z => ⟨_, by omega, rfl, by omega, z⟩, fun x H3 hy => ?_⟩
          obtain ⟨F3, t3, hx⟩ := hJ.yld i ds[i] H2 x H3 F2 (List.getElem?_eq_getElem hlt) t2.hh t2.ff t2.fh hy
          have t03 : Stp ZZ F1 H1 F3 H3 := t2.trans t3.of0
          have relb : RelW X.K X.mg B.bk F3 H3 (wipe σ vs) (wipeS vs s) := by
            refine ((rel.step t1').step (fz := fz ++ (fz1 ++ fy)) ?_).block
            rw [hZZ]; exact t03
          have nD3 : F3 D = none := by
            cases z : F3 D with
            | none => rfl
            | some o =>
              rcases t3.fr D o z with z | z | z
              · rw [nD] at z; cases z
              · rw [hU] at z; cases z
              · exact z.elim
          have hD3 : ∀ {H' : Hp}, Same H3 H' → H' D = some (.lst us) := fun e => e _ _ (t3.hh _ _ hU)
          refine hT B F3 H3 _ _ s1 x ds[i] _ relb hx q fun σ2 r1 r2 r3 => ⟨?_, F3, s1, r1, ?_⟩
          · refine wipe_ext ?_ fun j hj => ?_
            · rw [← r1.len, put_len q, wipeS_len, rel.len]
            · rw [r2 j hj, wipe_out hj]
          · cases k4 : t C s1 with
            | ex c fs => simp only [k4, noX, R.bind] at hrest; cases hrest
            | bad => simp only [k4, noX, R.bind] at hrest; cases hrest
            | ok b =>
              simp only [k4, noX, R.bind] at hrest
              refine fun H4 t4 => ?_
              have t04 : Stp ZZ F1 H1 F3 H4 := t03.trans ⟨.refl _, t4, t03.fh.trans t4, fun _ _ h => .inl h⟩
              cases b with
              | false =>
                rw [if_neg Bool.false_ne_true] at hrest
                exact iteF ⟨ls, rest, ⟨F3, us, t04, nD3, hD3 t4, hr.mono t3.ff⟩, hrest, htot⟩
              | true =>
                rw [if_pos rfl] at hrest
                refine iteT ⟨F3, s1, r1.same t4, ?_⟩
                cases k5 : it1 C s1 with
                | ex c fs => simp only [k5] at hrest; cases hrest
                | bad => simp only [k5] at hrest; cases hrest
                | ok es =>
                  simp only [k5] at hrest
                  cases k6 : lcD C g1 t1 el (wipeS vs1 s1) es with
                  | ex c fs => exact (lcD_noex _ _ k6).elim
                  | bad => simp only [k6] at hrest; cases hrest
                  | ok l1 =>
                    simp only [k6] at hrest
                    cases k7 : lc2D C g t it1 g1 t1 el vs1 (wipeS vs s) (ds.drop (i + 1)) with
                    | ex c fs => exact (lc2D_noex _ _ k7).elim
                    | bad => simp only [k7] at hrest; cases hrest
                    | ok l2 =>
                      simp only [k7] at hrest
                      cases hrest
                      refine fun J1 F5 H5 t5 hJ1 => ?_
                      have zb : ∀ {fq : List Nat} (a : Addr), Zof fq σ2 s1 a → Zof fq σ s a := fun a z => zof_back r2 r3 z
                      have nD5 : F5 D = none := by
                        cases z : F5 D with
                        | none => rfl
                        | some o =>
                          rcases t5.fr D o z with z | z | z
                          · rw [nD3] at z; cases z
                          · rw [hD3 t4] at z; cases z
                          · exact (ndD (zb D z)).elim
                      have t05 : Stp ZZ F1 H1 F5 H5 := t04.trans (t5.wk fun a z => z1 a (zb a z))
                      have kpt : ∀ b o, b ≠ D → H3 b = some o → H5 b = some o := fun b o _ z => t5.hh _ _ (t4 _ _ z)
                      refine ⟨fun j m H => m = es.length - j ∧ j ≤ es.length ∧ ∃ F6 us ls rest, Stp ZZ F1 H1 F6 H ∧ Same F5 F6 ∧ (∀ b o, b ≠ D → H3 b = some o → H b = some o) ∧ F6 D = none ∧ H D = some (.lst us) ∧ RpL X.K X.mg F6 us ls ∧ lcD C g1 t1 el (wipeS vs1 s1) (es.drop j) = .ok rest ∧ total = ls ++ (rest ++ l2),
                        ⟨es.length, by simp, Nat.zero_le _, F5, us, ls, l1, t05, .refl _, kpt, nD5, t5.hh _ _ (hD3 t4), hr.mono (t3.ff.trans t5.ff), k6, htot⟩, ?_⟩
                      rintro j m H6 ⟨rfl, hj, F6, us6, ls6, rest6, t6, f56, kp6, nD6, hU6, hr6, hrest6, htot6⟩
                      by_cases hltj : j < es.length
                      · refine .inr ⟨hJ1.go j H6 hltj (f56.trans t6.fh), ?_⟩
                        rw [List.drop_eq_getElem_cons hltj] at hrest6
                        unfold lcD at hrest6
                        cases q7 : g1.put es[j] (wipeS vs1 s1) with
                        | none => simp only [q7] at hrest6; cases hrest6
                        | some s3 =>
                          simp only [q7] at hrest6
                          refine ⟨fun H' => ∃ F6 us ls rest, Stp ZZ F1 H1 F6 H' ∧ Same F5 F6 ∧ (∀ b o, b ≠ D → H3 b = some o → H' b = some o) ∧ F6 D = none ∧ H' D = some (.lst us) ∧ RpL X.K X.mg F6 us ls ∧ lcD C g1 t1 el (wipeS vs1 s1) (es.drop (j + 1)) = .ok rest ∧ total = ls ++ (rest ++ l2),
                            fun H' z => ⟨_, by omega, rfl, by omega, z⟩, fun x7 H7 hy7 => ?_⟩
                          obtain ⟨F7, t7, hx7⟩ := hJ1.yld j es[j] H6 x7 H7 F6 (List.getElem?_eq_getElem hltj) (f56.trans t6.fh) f56 t6.fh hy7
                          have t07 : Stp ZZ F1 H1 F7 H7 := t6.trans t7.of0
                          have nD7 : F7 D = none := by
                            cases z : F7 D with
                            | none => rfl
                            | some o =>
                              rcases t7.fr D o z with z | z | z
                              · rw [nD6] at z; cases z
                              · rw [hU6] at z; cases z
                              · exact z.elim
                          have hU7 : ∀ {H' : Hp}, Same H7 H' → H' D = some (.lst us6) := fun e => e _ _ (t7.hh _ _ hU6)
                          have kp7 : ∀ b o, b ≠ D → H3 b = some o → H7 b = some o := fun b o nb z => t7.hh _ _ (kp6 b o nb z)
                          have f37 : Same F3 F7 := t5.ff.trans (f56.trans t7.ff)
                          have rb7 : RelW X.K X.mg B.bk F7 H7 (wipe σ vs) (wipeS vs s) := by
                            refine ((rel.step t1').step (fz := fz ++ (fz1 ++ fy)) ?_).block
                            rw [hZZ]; exact t07
                          have hx3 : ∀ d vfs, H3 d = some (.xd vfs) → H7 d = some (.xd vfs) := fun d vfs z => kp7 d _ (fun e => by
                            rw [e, hD3 (.refl _)] at z
                            cases z) z
                          have r7 : RelW X.K X.mg B.bk F7 H7 σ2 s1 := r1.move rb7 f37 hx3 r2 r3
                          have rbb : RelW X.K X.mg B.bk F7 H7 (wipe σ2 vs1) (wipeS vs1 s1) := r7.block
                          refine hT1 B F7 H7 _ _ s3 x7 es[j] _ rbb hx7 q7 fun σ3 u1 u2 u3 => ⟨?_, F7, s3, u1, ?_⟩
                          · refine wipe_ext ?_ fun j hj => ?_
                            · rw [← u1.len, put_len q7, wipeS_len, r7.len]
                            · rw [u2 j hj, wipe_out hj]
                          · cases k8 : t1 C s3 with
                            | ex c fs => simp only [k8, noX, R.bind] at hrest6; cases hrest6
                            | bad => simp only [k8, noX, R.bind] at hrest6; cases hrest6
                            | ok b =>
                              simp only [k8, noX, R.bind] at hrest6
                              refine fun H8 t8 => ?_
                              have t08 : Stp ZZ F1 H1 F7 H8 := t07.trans ⟨.refl _, t8, t07.fh.trans t8, fun _ _ h => .inl h⟩
                              have kp8 : ∀ b o, b ≠ D → H3 b = some o → H8 b = some o := fun b o nb z => t8 _ _ (kp7 b o nb z)
                              cases b with
                              | false =>
                                rw [if_neg Bool.false_ne_true] at hrest6
                                exact iteF ⟨F7, us6, ls6, rest6, t08, f56.trans t7.ff, kp8, nD7, hU7 t8, hr6.mono t7.ff, hrest6, htot6⟩
                              | true =>
                                rw [if_pos rfl] at hrest6
                                refine iteT ⟨F7, s3, u1.same t8, ?_⟩
                                cases k9 : el C s3 with
                                | ex c fs => simp only [k9] at hrest6; cases hrest6
                                | bad => simp only [k9] at hrest6; cases hrest6
                                | ok y =>
                                  simp only [k9] at hrest6
                                  refine fun w9 F9 H9 t9 hw9 => ?_
                                  cases k10 : lcD C g1 t1 el (wipeS vs1 s1) (es.drop (j + 1)) with
                                  | ex c fs => simp only [k10] at hrest6; cases hrest6
                                  | bad => simp only [k10] at hrest6; cases hrest6
                                  | ok l9 =>
                                    simp only [k10] at hrest6
                                    cases hrest6
                                    have zb9 : ∀ a, Zof fy σ3 s3 a → Zof fy σ s a := fun a z => zb a (zof_back u2 u3 z)
                                    have t09 : Stp ZZ F1 H1 F9 H9 := t08.trans (t9.wk fun a z => zy a (zb9 a z))
                                    have nD9 : F9 D = none := by
                                      cases z : F9 D with
                                      | none => rfl
                                      | some o =>
                                        rcases t9.fr D o z with z | z | z
                                        · rw [nD7] at z; cases z
                                        · rw [hU7 t8] at z; cases z
                                        · exact (ndD (zb9 D z)).elim
                                    have hU9 : H9 D = some (.lst us6) := t9.hh _ _ (hU7 t8)
                                    have hlen : us6.length < sizeLine := by
                                      rw [hr6.len]
                                      refine lim_lt (Nat.le_trans ?_ hz)
                                      rw [htot6, List.length_append]
                                      exact Nat.le_add_right _ _
                                    refine ⟨us6, hU9, hlen, F9, us6 ++ [w9], ls6 ++ [y], l9, ⟨t09.ff, fun a o ha => ?_, fun a o ha => ?_, t09.fr⟩, (f56.trans t7.ff).trans t9.ff, fun b o nb z => ?_, nD9, upd_same, (hr6.mono (t7.ff.trans t9.ff)).append (RpL.cons hw9 rfl), rfl, ?_⟩
                                    · rw [upd_ne (ne_of_none ha hD)]
                                      exact t09.hh _ _ ha
                                    · rw [upd_ne (ne_of_none ha nD9)]
                                      exact t09.fh _ _ ha
                                    · rw [upd_ne nb]
                                      exact t9.hh _ _ (kp8 b o nb z)
                                    · rw [htot6, List.append_assoc]
                                      rfl
                      · have ej : j = es.length := by omega
                        subst ej
                        rw [List.drop_length] at hrest6
                        cases hrest6
                        exact .inl ⟨hJ1.stop H6 (f56.trans t6.fh), ls6, l2, ⟨F6, us6, t6, nD6, hU6, hr6⟩, rfl, htot6⟩
      · have ei : i = ds.length := by omega
        subst ei
        rw [List.drop_length] at hrest
        cases hrest
        rw [List.append_nil] at htot
        subst htot
        refine .inl ⟨hJ.stop H2 t2.hh, h _ F2 H2 ?_ ⟨D, rfl, t1'.hh.free hD, nD, us, hU, hr⟩⟩
        exact (t1'.wk zl).trans t2
/-- such a comprehension's parts, within its block -/
structure Lc2Ok (X : Cx) (B : Bas) (C : Call) (scope : Scope) (own : List (Str × Nat)) (vs1 : List Nat) (tg tg1 elt iter1 : Expr) (ifs ifs1 : List Expr) (g g1 : Tg) (gg gg1 : TG) (t t1 : BD) (it1 : ID) (el : LD) (fz1 fy : List Nat) : Prop where
  blk : BlkOk X.N X.env.scope scope own
  hv : ∀ i ∈ vs1, i ∈ own.map (·.2)
  hT : TgB X (own.map (·.2)) gg g
  hT1 : TgB X vs1 gg1 g1
  hg : ∀ (s : Shared) (H : Hp) (L : Addr) (cl : List (Str × Addr)) (fp : List Addr), PG (X.blk s H scope (compEnvC scope cl L X.env) fp) tg gg
  hg1 : ∀ (s : Shared) (H : Hp) (L : Addr) (cl : List (Str × Addr)) (fp : List Addr), PG (X.blk s H scope (compEnvC scope cl L X.env) fp) tg1 gg1
  ht : ∀ (s : Shared) (H : Hp) (L : Addr) (cl : List (Str × Addr)) (fp : List Addr), PTs (X.blk s H scope (compEnvC scope cl L X.env) fp) ifs (DN.tB X B.bk C t WN)
  ht1 : ∀ (s : Shared) (H : Hp) (L : Addr) (cl : List (Str × Addr)) (fp : List Addr), PTs (X.blk s H scope (compEnvC scope cl L X.env) fp) ifs1 (DN.tB X B.bk C t1 WN)
  hi1 : ∀ (s : Shared) (H : Hp) (L : Addr) (cl : List (Str × Addr)) (fp : List Addr), PI (X.blk s H scope (compEnvC scope cl L X.env) fp) tg1 iter1 (tI X B.bk C it1 fz1 WN)
  he : ∀ (s : Shared) (H : Hp) (L : Addr) (cl : List (Str × Addr)) (fp : List Addr), PE (X.blk s H scope (compEnvC scope cl L X.env) fp) elt (tF X B.bk C el fy WN)
theorem r_lc2 {elt tg iter tg1 iter1 : Expr} {ifs ifs1 : List Expr} {scope : Scope} {own : List (Str × Nat)} {vs1 : List Nat} {it it1 : ID} {g g1 : Tg} {gg gg1 : TG} {t t1 : BD} {el : LD} (hc : X.calm = true) (hN : X.N.Nodup) (hi : PI X tg iter (tJ X B C it fz W))
    (L : Lc2Ok X B C scope own vs1 tg tg1 elt iter1 ifs ifs1 g g1 gg gg1 t t1 it1 el fz1 fy) (hs : ∀ x, foldedSetIterable iter X.env x = pure x) (hs1 : ∀ env x, foldedSetIterable iter1 env x = pure x) :
    PE X (.ListComp elt [⟨tg, iter, ifs, 0⟩, ⟨tg1, iter1, ifs1, 0⟩] scope pos) (tD X B C (eLc2 g it t g1 it1 t1 el (own.map (·.2)) vs1) (fz ++ (fz1 ++ fy)) W) :=
  (pe_lc2 hc hN hi L.blk L.hv L.hg L.ht L.hi1 L.hg1 L.ht1 L.he hs hs1).wk fun σ H Q h => lc_read2 L.hT L.hT1 h
theorem s_setLc2 {i : Nat} {y : Str} {py spos : Pos} {elt tg iter tg1 iter1 : Expr} {ifs ifs1 : List Expr} {scope : Scope} {own : List (Str × Nat)} {vs1 : List Nat} {it it1 : ID} {g g1 : Tg} {gg gg1 : TG} {t t1 : BD} {el : LD} (h0' : Ok0 B i) (hc : X.calm = true) (hN : X.N.Nodup)
    (hy : X.N[i]? = some y) (hyl : X.env.scope.names.lookup y = some .local) (hsw : swapsWith (.ListComp elt [⟨tg, iter, ifs, 0⟩, ⟨tg1, iter1, ifs1, 0⟩] scope pos) (some (.Name y py)) spos.line X.env = pure true) (hi : PI X tg iter (tJ X B C it fz W))
    (L : Lc2Ok X B C scope own vs1 tg tg1 elt iter1 ifs ifs1 g g1 gg gg1 t t1 it1 el fz1 fy) (hs : ∀ x, foldedSetIterable iter X.env x = pure x) (hs1 : ∀ env x, foldedSetIterable iter1 env x = pure x) :
    PS X (.Assign [.Name y py] (.ListComp elt [⟨tg, iter, ifs, 0⟩, ⟨tg1, iter1, ifs1, 0⟩] scope pos) spos) (tS X B C (sAsg i (eLc2 g it t g1 it1 t1 el (own.map (·.2)) vs1) (fz ++ (fz1 ++ fy))) W) :=
  (ps_setLc2 hc hN hy hyl hsw hi L.blk L.hv L.hg L.ht L.hi1 L.hg1 L.ht1 L.he hs hs1).wk fun Dn σ H ⟨F0, F, s, rel, h⟩ => by
  unfold sAsg at h
  refine lc_read2 (fz1 := fz1) (fy := fy) L.hT L.hT1 (Q := fun x H1 => gName i x σ H1 Dn.nx) ⟨F, s, rel.toRelW, ?_⟩
  cases k : eLc2 g it t g1 it1 t1 el (own.map (·.2)) vs1 C s with
  | ok r =>
    obtain ⟨b, d⟩ := r
    simp only [k] at h
    refine fun v F' H' t hv => ?_
    obtain ⟨F'', f⟩ := asg_ok rel t hv i h0'
    exact h _ F'' H' f
  | ex c fs =>
    simp only [k] at h
    exact fun cls dd H' t hx => h cls dd σ F H' (rel.same t) hx
  | bad => simp only [k] at h; exact h
end
end DN
/-! Den17: walks over instances of an own class whose __iter__ returns iter(self.f). -/
namespace DN
open PySem PySem.Spec PyProof.Rows L2
/-- a def called at one state: its body's reading may look at the state -/
theorem call_fix {CX : CXT} {P : Program} {w : World} {K : PySem.W.Frag} {mg : Str → Option Value} {base : Heap} {k : Nat} {f : Addr} {nm qual : Str} {prm : Arguments} {body : List Stmt} {sc : Scope} {dV kV doc pm cdv ct oc : Value} {an od : Option Addr} {osl : Array (Option Value)} {N ps : List Str}
    {A : Around} {outer : List Env} {s : Shared} {H : Hp} {args : Args} {us : List Value} {vs : List V} {Q : VK} {E : XK} {t : TS} (at_ : K.lookup f = some ⟨oc, od, .func (PySem.W.fnOf nm qual prm body sc dV kV doc pm an cdv ct), osl⟩) (cdK : PySem.W.codeIn K cdv qual = true) (S : FnScope N ps sc) (rm : Room (k + 1) A)
    (en : Env0 P w K mg base A outer s H) (bd : BindsTo s (PySem.W.fnOf nm qual prm body sc dV kV doc pm an cdv ct) args (ps.zip us)) (rv : Vals vs us) (len : vs.length = ps.length) (pb : PSs (cxOf CX P w K mg base N qual sc f cdv A outer s H E) body t) (tq : t { nx := fun _ H' => Q .non H', rt := Q } (L2.start N vs) H) :
    codeAny (model P w) A (.call (.ref f) args) (CR CX outer P w H s Q E) s := by
  have kin : K.In s.heap := en.mod.kin.keeps fun a o z => (en.bs a o z).1
  have nol : s.heap.NoLimit := en.mod.nolimit.keeps fun a o z => (en.bs a o z).1
  have kinds : ∀ z ∈ ps.zip us, sc.names.lookup z.1 = some .local ∨ (sc.names.lookup z.1 = some .cell ∧ ((cellsFrom (s.heap.objs.size + 1) sc.names []).lookup z.1).isSome = true) := fun ⟨x, v⟩ hz =>
    (S.par x (List.of_mem_zip hz).1).elim .inl fun q => .inr ⟨q, PySem.W.cellsFrom_some _ _ _ (.inl q)⟩
  refine codeAny_call_function rm.depth (kin _ _ at_) rfl S.co S.gen rfl (PySem.W.codeRec_of kin cdK) (bd _ _ _ _ ?_)
  refine wpAny_newFunctionEnv_cells S.kind kinds fun env e1 s1 xc => ?_
  subst e1
  refine ⟨nol.keeps xc.toInCall.keep, codeAny_func ?_⟩
  have J : Inv (cxOf CX P w K mg base N qual sc f cdv A outer s H E) [] (L2.start N vs) H s1 := inv_start S rm.hd en len rv xc
  have out : ∀ {σ' : L2.St} {H' : Hp} {v : V} {u : Value} {s' : Shared}, Inv (cxOf CX P w K mg base N qual sc f cdv A outer s H E) [] σ' H' s' → RelV v u → Q v H' → CE outer P w H s Q u s' := fun {σ' H' v u s'} J' r q => ⟨v, H', J'.os, J'.bare, J'.base, J'.hok, r, q⟩
  refine wpAny_mono (pb.run [] s1 (L2.start N vs) H _ J tq) (fun fl s' z => ?_) fun e s' z => z
  cases fl with
  | ret u =>
    obtain ⟨v, σ', H', J', r, q⟩ := z
    exact out J' r q
  | next =>
    obtain ⟨σ', H', J', q⟩ := z
    exact out (v := V.non) (u := Value.none) J' rfl q
  | brk =>
    obtain ⟨_, _, _, q⟩ := z
    exact q.elim
  | cont =>
    obtain ⟨_, _, _, q⟩ := z
    exact q.elim
/-- the text `return iter(self.F)` -/
def iterBody (F : Str) (b : List Stmt) : Bool := match b with
  | [.Return (some (.Call (.Name i _) [.Attribute (.Name s _) f _] [] _)) _] => decide (i = "iter") && decide (s = "self") && decide (f = F)
  | _ => false
theorem iterBody_ok {F : Str} {b : List Stmt} (h : iterBody F b = true) : ∃ p1 p2 p3 p4 p5, b = [.Return (some (.Call (.Name "iter" p1) [.Attribute (.Name "self" p2) F p3] [] p4)) p5] := by
  unfold iterBody at h
  split at h
  · rw [Bool.and_eq_true, Bool.and_eq_true] at h
    obtain ⟨⟨h1, h2⟩, h3⟩ := h
    rw [of_decide_eq_true h1, of_decide_eq_true h2, of_decide_eq_true h3]
    exact ⟨_, _, _, _, _, rfl⟩
  · cases h
/-- class c: __iter__ returns iter(self.F) -/
structure IterAt (X : Cx) (c F : Str) : Prop where
  it0 : X.mg "iter" = none
  ok : ∀ Ca, X.mg c = some (.ref Ca) → Cls X.K Ca ∧ NoAttr X.K Ca F ∧ ∃ f fd x qual params body scope N, PySem.W.findIn X.K (.ref Ca) "__iter__" = some (some (.ref f)) ∧ PySem.W.isFn X.K (.ref f) = true ∧ FunD X.K x qual params body scope [] [] f fd ∧ FnScope N ["self"] scope ∧
    iterBody F body = true ∧ Binds X.K fd ["self"] [] ∧ scope.names.lookup ("iter" : Str) = some .globalImplicit ∧ scope.names.lookup ("self" : Str) = some .local ∧ N[0]? = some ("self" : Str)
section
variable {X : Cx} {B : Bas} {C : Call} {W : WX} {e tg : Expr} {fz : List Nat} {k : Nat}
theorem spec_next {M : Model} {A : Around} {E : Value → Shared → Prop} {s : Shared} {it l : Addr} {i : Nat} {Q : Option Value → Shared → Prop} (hx : s.heap.get? it = some (GNX.itObj l i)) (h : ∀ v, Q (some v) s) : wpAny M A (specialOf (.ref it) "__next__") Q E s := by
  have hT : s.TypeIs (.ref it) "list_iterator" := ⟨_, hx, rfl⟩
  exact wpAny_specialOf hT slot_listiter_next.lookup (h _)
theorem own_iter {c F : Str} {Ca a dx : Addr} {vfs : List (Str × V)} {l : Addr} {zs : List V} {pins : List (Addr × Obj)} {s : Shared} {σ : L2.St} {H : Hp} {R : It → Hp → Prop} (IA : IterAt X c F) (hr : Room (k + 1) X.A) (tk : Takes X W) (I : Inv X pins σ H s) (hc : X.mg c = some (.ref Ca)) (ha : H a = some (.ins Ca dx vfs))
    (hl : vfs.lookup F = some (.ref l)) (hz : SqL X.K H l zs) (q : R (Itl X.K l) H) : wpAny (model X.prog X.w) X.A (pyIter (.ref a)) (PIE X pins σ tg R) X.xe s := by
  obtain ⟨c1, c2, f, fd, x, qual, params, body, scope, N, hf, hfn, FD, S, hb, bnd, kg, ks, kn⟩ := IA.ok Ca hc
  obtain ⟨mA, J, _⟩ := ins_get I.hok ha
  obtain ⟨od, J, _⟩ := J.look
  obtain ⟨m, hF⟩ := I.fr
  obtain ⟨p1, p2, p3, p4, p5, rfl⟩ := iterBody_ok hb
  obtain ⟨oc, od', dV, kV, doc, pm, an, cdv, ct, osl, rfl, lk, hcd, _, _⟩ := FD.ex
  refine PySem.W.owit_iter hF I.ok.mod.kin J hf hfn ?_
  refine wpAny_call (codeAny_mono (call_fix (CX := L2.CX X.prog X.w) (E := fun _ _ _ => False) (vs := [.ref a]) (us := [.ref a]) (Q := fun v H' => ∃ it, v = .ref it ∧ H it = none ∧ s.heap.objs.size ≤ it ∧ H' = upd H it (L2.ItO l it 0)) lk hcd S hr I.env0 (bnd s [.ref a] I.kIn rfl) (.cons rfl .nil) rfl
    (pss_one (ps_ret (pe_callB ItX.call_iterN (show scope.names.lookup ("iter" : Str) = some .globalImplicit from kg) IA.it0 boot_iter (pa_cons (pe_fld (pe_var kn (.inl ks) (by decide) (by decide)) rfl) pa_nil rfl) (by decide) (by decide) rfl rfl))) ?_) fun res s' hq => ?_)
  · refine ⟨.ref a, rfl, a, Ca, dx, vfs, .ref l, rfl, ha, c1, c2, hl, l, zs, rfl, hz, fun it h1 h2 => ⟨it, rfl, h1, h2, rfl⟩⟩
  · match res, hq with
    | .error e, hq =>
      obtain ⟨_, _, _, _, _, _, _, _, _, _, _, _, z⟩ := hq
      exact z.elim
    | .ok .next, hq => exact hq.elim
    | .ok .brk, hq => exact hq.elim
    | .ok .cont, hq => exact hq.elim
    | .ok (.ret u), hq =>
      obtain ⟨v, H', I2, rv, it, rfl, n0, hge, rfl⟩ := I.after hq
      cases rv
      have hi : upd H it (L2.ItO l it 0) it = some (L2.ItO l it 0) := upd_same
      have eo := L2.itO_get I2 hi
      refine spec_next eo fun v => ?_
      have st : s'.heap.IsListIter it l 0 := ⟨_, eo, rfl, rfl⟩
      have hi' := hi
      unfold L2.ItO at hi'
      have I3 := ItX.inv_drop I2 hi'
      have fp := ItX.inv_fp I2 hi (Nat.le_trans I.sz hge)
      have ed : ItX.dropH (upd H it (L2.ItO l it 0)) it = H := ItX.dropH_upd n0
      rw [ed] at I3 fp
      refine ⟨it, [it], _, Itl X.K l, H, rfl, I3, turn_list l it, st, fun b hb => ?_, q⟩
      have e : b = it := by simpa using hb
      rw [e]
      exact fp
/-- .. in a for statement -/
theorem i_own {de : LD} {tb : Str → Option Str} (hI : ∀ c F, tb c = some F → IterAt X c F) (hr : Room (k + 1) X.A) (tk : Takes X W) (h : PE X e (tF X B C de fz W)) : PI X tg e (tI X B C (iOwn tb de) fz W) := ⟨fun pins s σ H Rr I ⟨F, t, rel, q⟩ => by
  unfold iOwn at q
  cases k1 : de C t with
  | bad => simp only [k1, R.bind] at q
  | ex c fs =>
    simp only [k1, R.bind] at q
    exact (i_of h).run pins s σ H Rr I ⟨F, t, rel, by unfold iOf; simp only [k1, R.bind]; exact q⟩
  | ok d =>
    simp only [k1, R.bind] at q
    by_cases ho : ∃ c fs, d = .obj c fs
    · obtain ⟨c, fs, rfl⟩ := ho
      cases k2 : tb c with
      | none => simp only [itemsO, k2, Option.bind, ofO] at q
      | some f =>
        simp only [itemsO, k2, Option.bind] at q
        cases k3 : fs.lookup f with
        | none => simp only [k3, ofO] at q
        | some x =>
          cases x <;> first
            | (simp only [k3, ofO] at q; done)
            | skip
          rename_i l
          simp only [k3, ofO] at q
          refine thn (h.run pins s σ H (fun v H' => ∃ a Ca dx vfs p, v = .ref a ∧ X.mg c = some (.ref Ca) ∧ H' a = some (.ins Ca dx vfs) ∧ vfs.lookup f = some (.ref p) ∧ (∃ zs, SqL X.K H' p zs) ∧ Rr (Itl X.K p) H') I ⟨F, t, rel, by
            simp only [k1]
            intro v F' H' t' hv
            obtain ⟨a, Ca, dx, vfs, rfl, hc, hF, hv⟩ := hv
            obtain ⟨w, e2, r2⟩ := hv.look k3
            obtain ⟨p, vs, rfl, e3, r3⟩ := r2
            exact ⟨a, Ca, dx, vfs, p, rfl, hc, t'.fh _ _ hF, e2, ⟨vs, SqL.of (t'.fh _ _ e3)⟩, q _ F' H' t' (wk_lst e3 r3)⟩⟩) fun u s1 ⟨v, H1, I1, r1, a, Ca, dx, vfs, p, ev, hc, ha, hl, ⟨zs, hz⟩, hR⟩ => ?_
          subst ev
          cases r1
          exact own_iter (hI c f k2) hr tk I1 hc ha hl hz hR
    · have e : itemsO tb d = items d := by
        cases d <;> first
          | rfl
          | exact absurd ⟨_, _, rfl⟩ ho
      rw [e] at q
      exact (i_of h).run pins s σ H Rr I ⟨F, t, rel, by unfold iOf; simp only [k1, R.bind]; exact q⟩⟩
end
end DN
/-! Den18: methods of texts. -/
namespace DN
open PySem PySem.Spec PyProof.Rows L2
section
variable {X : Cx} {B : Bas} {C : Call} {W : WX} {o e : Expr} {fz fy : List Nat} {apos cpos : Pos}
theorem r_count {da db : LD} (ho : PE X o (tP X B C da fz W)) (he : PE X e (tP X B C db fy W)) (hs : notSuper o = true) (hns : notStar e = true) (hl : (apos.endLine == cpos.line) = true) :
    PE X (.Call (.Attribute o "count" apos) [e] [] cpos) (tD X B C (eBM dCount da db) (fz ++ fy) W) :=
  (pe_bm PySem.F.plainAttrs_str PySem.F.slot_str_count PySem.F.type_str_count mt_count ho (pa_cons he pa_nil (star_cons hns)) (super_ok hs) (few_ok (by rw [List.all_cons, hns]; rfl) (show (1 : Nat) < 30 by decide)) hl (star_cons hns) rfl).wk fun σ H Q ⟨F, s, rel, h⟩ => by
  refine ⟨F, s, rel, ?_⟩
  unfold eBM at h
  cases k : da C s with
  | bad => simp only [k, R.bind] at h
  | ex c fs => simp only [k, R.bind] at h; exact h
  | ok x =>
    simp only [k, R.bind] at h
    refine fun v F1 H1 t hv => ?_
    cases x <;> first
      | (simp only [isStr, Bool.false_eq_true, if_false] at h; done)
      | skip
    rename_i z
    simp only [isStr, if_true] at h
    have ev := hv.str
    subst ev
    refine ⟨rfl, F1, s, rel.step t, ?_⟩
    cases k2 : db C s with
    | bad => simp only [k2] at h
    | ex c fs => simp only [k2] at h; exact fun cls dd H' e => h cls dd H' (t.hh.trans e)
    | ok y =>
      simp only [k2] at h
      refine fun u F2 H2 t2 hu => ?_
      cases y <;> first
        | (simp only [dCount, ofO] at h; done)
        | skip
      have eu := hu.str
      subst eu
      simp only [dCount, ofO] at h
      exact ⟨_, _, rfl, rfl, h _ F2 H2 ((t.wk zof_l).trans (t2.wk zof_r)) rfl⟩
theorem rp_strs {F : Hp} : ∀ {l : List D} {ys : List Str} {vs : List V}, D.strs l = some ys → RpL X.K X.mg F vs l → vs = ys.map V.str
  | [], ys, vs, e, h => by
    cases e
    exact h
  | d :: r, ys, vs, e, h => by
    obtain ⟨v, vr, rfl, h1, h2⟩ := h
    cases d <;> first
      | (cases e; done)
      | skip
    rename_i z
    cases q : D.strs r with
    | none => simp only [D.strs, q] at e; cases e
    | some ws =>
      simp only [D.strs, q] at e
      cases e
      rw [show v = V.str z from h1, rp_strs q h2]
      rfl
theorem r_join {da db : LD} (ho : PE X o (tP X B C da fz W)) (he : PE X e (tP X B C db fy W)) (hs : notSuper o = true) (hns : notStar e = true) (hl : (apos.endLine == cpos.line) = true) :
    PE X (.Call (.Attribute o "join" apos) [e] [] cpos) (tD X B C (eBM dJoin da db) (fz ++ fy) W) :=
  (pe_bm PySem.F.plainAttrs_str PySem.F.slot_str_join PySem.F.type_str_join mt_join ho (pa_cons he pa_nil (star_cons hns)) (super_ok hs) (few_ok (by rw [List.all_cons, hns]; rfl) (show (1 : Nat) < 30 by decide)) hl (star_cons hns) rfl).wk fun σ H Q ⟨F, s, rel, h⟩ => by
  refine ⟨F, s, rel, ?_⟩
  unfold eBM at h
  cases k : da C s with
  | bad => simp only [k, R.bind] at h
  | ex c fs => simp only [k, R.bind] at h; exact h
  | ok x =>
    simp only [k, R.bind] at h
    refine fun v F1 H1 t hv => ?_
    cases x <;> first
      | (simp only [isStr, Bool.false_eq_true, if_false] at h; done)
      | skip
    rename_i z
    simp only [isStr, if_true] at h
    have ev := hv.str
    subst ev
    refine ⟨rfl, F1, s, rel.step t, ?_⟩
    cases k2 : db C s with
    | bad => simp only [k2] at h
    | ex c fs => simp only [k2] at h; exact fun cls dd H' e => h cls dd H' (t.hh.trans e)
    | ok y =>
      simp only [k2] at h
      refine fun u F2 H2 t2 hu => ?_
      cases y <;> first
        | (simp only [dJoin, ofO] at h; done)
        | skip
      all_goals
        rename_i l
        cases k3 : D.strs l with
        | none => simp only [dJoin, k3, ofO] at h
        | some ys =>
          simp only [dJoin, k3] at h
          by_cases hz : (ys.map (·.length)).sum + ys.length * z.length ≤ 16777216
          · rw [if_pos hz] at h
            simp only [ofO] at h
            first
              | (obtain ⟨a, ws, rfl, h1, r1⟩ := hu.tup t2.fh
                 rw [rp_strs k3 r1] at h1
                 exact ⟨z, a, ys, rfl, rfl, .inr h1, hz, h _ F2 H2 ((t.wk zof_l).trans (t2.wk zof_r)) rfl⟩)
              | (obtain ⟨a, ws, rfl, h1, r1⟩ := hu.lst t2.fh
                 rw [rp_strs k3 r1] at h1
                 exact ⟨z, a, ys, rfl, rfl, .inl (SqL.of h1), hz, h _ F2 H2 ((t.wk zof_l).trans (t2.wk zof_r)) rfl⟩)
          · rw [if_neg hz] at h
            simp only [ofO] at h
theorem ixD_ok {p : PyData} : ∀ {l : List PyData} {j : Nat}, ixD p l = some j → ∃ z, l[j]? = some z ∧ PyData.eqv z p = true ∧ ∀ (m : Nat) (z' : PyData), m < j → l[m]? = some z' → PyData.eqv z' p = false
  | [], _, h => by cases h
  | a :: r, j, h => by
    unfold ixD at h
    by_cases c : PyData.eqv a p = true
    · rw [if_pos c] at h
      cases h
      exact ⟨a, rfl, c, fun m z' hm => absurd hm (Nat.not_lt_zero m)⟩
    · rw [if_neg c] at h
      obtain ⟨i, hi, e⟩ := Option.map_eq_some_iff.mp h
      subst e
      obtain ⟨z, h1, h2, h3⟩ := ixD_ok hi
      refine ⟨z, h1, h2, fun m z' hm hz => ?_⟩
      cases m with
      | zero =>
        have hz : some a = some z' := hz
        cases hz
        exact Bool.eq_false_iff.mpr c
      | succ m => exact h3 m z' (by omega) hz
theorem r_index {da db : LD} (hu : X.A.units + 65 < cLine) (ho : PE X o (tP X B C da fz W)) (he : PE X e (tP X B C db fy W)) (hs : notSuper o = true) (hns : notStar e = true) (hl : (apos.endLine == cpos.line) = true) :
    PE X (.Call (.Attribute o "index" apos) [e] [] cpos) (tD X B C (eLix da db) (fz ++ fy) W) :=
  (pe_bm PySem.F.plainAttrs_list PySem.F.slot_list_index PySem.F.type_list_index (mt_indexD hu) ho (pa_cons he pa_nil (star_cons hns)) (super_ok hs) (few_ok (by rw [List.all_cons, hns]; rfl) (show (1 : Nat) < 30 by decide)) hl (star_cons hns) rfl).wk fun σ H Q ⟨F, s, rel, h⟩ => by
  refine ⟨F, s, rel, ?_⟩
  unfold eLix at h
  cases k : da C s with
  | bad => simp only [k, R.bind] at h
  | ex c fs => simp only [k, R.bind] at h; exact h
  | ok x =>
    simp only [k, R.bind] at h
    refine fun v F1 H1 t hv => ?_
    cases x <;> first
      | (simp only [isLst, Bool.false_eq_true, if_false] at h; done)
      | skip
    rename_i l
    simp only [isLst, if_true] at h
    have hv0 := hv
    obtain ⟨a, vs, rfl, h1, r1⟩ := hv.lst t.fh
    refine ⟨.inl ⟨rfl, vs, SqL.of h1⟩, F1, s, rel.step t, ?_⟩
    cases k2 : db C s with
    | bad => simp only [k2] at h
    | ex c fs => simp only [k2] at h; exact fun cls dd H' e => h cls dd H' (t.hh.trans e)
    | ok y =>
      simp only [k2] at h
      refine fun u F2 H2 t2 hu => ?_
      cases k3 : y.py with
      | none => simp only [dIndex, k3, ofO] at h
      | some p =>
        cases k4 : D.pys l with
        | none => simp only [dIndex, k3, k4, ofO] at h
        | some q =>
          simp only [dIndex, k3, k4] at h
          by_cases hsh : SeqAt.shaped p = true ∧ SeqAt.shaped (.list q) = true
          · rw [if_pos hsh] at h
            cases k5 : ixD p q with
            | none => simp only [k5, Option.map, ofO] at h
            | some j =>
              simp only [k5, Option.map, ofO] at h
              obtain ⟨z, z1, z2, z3⟩ := ixD_ok k5
              exact ⟨a, u, p, q, j, z, rfl, rfl, top_dp t2.fh (by simp [D.py, k4]) (hv0.mono t2.ff t2.hh), top_dp t2.fh k3 hu, hsh.2, hsh.1, z1, z2, z3, h _ F2 H2 ((t.wk zof_l).trans (t2.wk zof_r)) rfl⟩
          · rw [if_neg hsh] at h
            simp only [ofO] at h
end
end DN
/-! Den19: dict comprehensions with tuple keys. -/
namespace DN
open PySem PySem.Spec PyProof.Rows L2
/-- d[(..)] = v by a comprehension -/
theorem d_dictSetT {X : Cx} {pz : List (Addr × Obj)} {σ : L2.St} {H : Hp} {s : Shared} {E : Value → Shared → Prop} {D b : Addr} {kvs : List (List Key × V)} {k : List Key} {v : V} {u r : Value} {Q : Unit → Shared → Prop} (hu : X.A.units + 1 < cLine) (I : L2.Inv X pz σ H s) (eb : H b = some (.tup (k.map kV))) (hD : H D = some (.dT kvs)) (hz : kvs.length < sizeLine)
    (ry : RelV (.ref b) u) (rv : RelV v r) (h : ∀ s', L2.Inv X pz σ (upd H D (.dT (putK kvs k v))) s' → Q () s') : wpAny (model X.prog X.w) X.A (dictSet D u r) Q E s := by
  have eu : u = Value.ref b := ry
  subst eu
  obtain ⟨z1, hd, xs, rl, dd⟩ := dt_of I.hok hD
  have zs : xs.length ≤ sizeLine := by rw [← Paired.length rl]; exact z1
  have zl : (putK kvs k v).length ≤ sizeLine := by
    have := length_putK kvs k v
    omega
  refine wpAny_dictSet_heap (hsz := zs) (show (tupleKind (mixKind X.prog X.w)).room X.A from Nat.lt_of_succ_lt hu) (key_of I.hok eb) dd fun h' dd' sb => h _ ?_
  obtain ⟨q, es, ep, q1, q2, q3, q4, _, q5⟩ := dd'
  refine d_write I (by rw [hD]; exact True.intro) sb ⟨q, q1⟩ ⟨zl, hd, _, (rl.put k eb rv).keeps fun c ys ec => ?_, q, es, ep, q1, q2, q3, q4, q5⟩
  rw [upd_ne (ne_of ec hD (fun z => nomatch z))]
  exact ec
section
variable {X : Cx}
/-- {k: v for .. in ..}, keys tuples: D the new dict (after the library's rule for int and text keys) -/
def tDcT (wI : TI) (g : TG) (tT : TT) (tk tv : TE) (vs : List Nat) : TE := fun σ H Q => wI σ H fun J H1 => ∀ D, H1 D = none → ∃ W : Nat → Nat → Hp → Prop, (∃ m, W 0 m (upd H1 D (.dT []))) ∧ ∀ i m H, W i m H →
  (J.stop i H ∧ Q (.ref D) H) ∨ (J.go i H ∧ ∃ Nx : Hp → Prop, (∀ H', Nx H' → ∃ m', m' < m ∧ W (i + 1) m' H') ∧ ∀ x H', J.yld i H x H' → g x (wipe σ vs) H' fun σ2 G2 => wipe σ2 vs = wipe σ vs ∧ tT σ2 G2 fun b G3 =>
    if b = true then tk σ2 G3 fun y G4 => tv σ2 G4 fun z G5 => ∃ kvs k b, y = .ref b ∧ G5 b = some (.tup (k.map kV)) ∧ G5 D = some (.dT kvs) ∧ kvs.length < sizeLine ∧ Nx (upd G5 D (.dT (putK kvs k z))) else Nx G3)
theorem dcT_core {pz : List (Addr × Obj)} {s : Shared} {σ : L2.St} {H : Hp} {Q : VK} {kx vx tg iter : Expr} {ifs : List Expr} {scope : Scope} {own : List (Str × Nat)} {pos pQ : Pos} {wI : TI} {g : TG} {tT : TT} {tk tv : TE} {use : Option (Value → Sem Unit)} {Qf : Value → Shared → Prop}
    (hu : X.A.units + 1 < cLine) (hc : X.calm = true) (hN : X.N.Nodup) (I : Inv X pz σ H s) (hi : PI X tg iter wI) (bo : BlkOk X.N X.env.scope scope own)
    (gA : ∀ (s : Shared) (H : Hp) (C : Addr) (cl : List (Str × Addr)) (fp : List Addr), PG (X.blk s H scope (compEnvC scope cl C X.env) fp) tg g) (gB : ∀ (s : Shared) (H : Hp) (C : Addr) (cl : List (Str × Addr)) (fp : List Addr), PTs (X.blk s H scope (compEnvC scope cl C X.env) fp) ifs tT)
    (gC : ∀ (s : Shared) (H : Hp) (C : Addr) (cl : List (Str × Addr)) (fp : List Addr), PE (X.blk s H scope (compEnvC scope cl C X.env) fp) kx tk)
    (gD : ∀ (s : Shared) (H : Hp) (C : Addr) (cl : List (Str × Addr)) (fp : List Addr), PE (X.blk s H scope (compEnvC scope cl C X.env) fp) vx tv) (gE : ∀ x, foldedSetIterable iter X.env x = pure x)
    (h : tDcT wI g tT tk tv (own.map (·.2)) σ H Q)
    (hEnd : ∀ D C s' m H', Inv X pz σ H' s' → Q (.ref D) H' → s'.heap.Ns C m → FpOk X pz H' C → compPost (model X.prog X.w) X.A X.xe use Qf (.ref D) C (.ok .next) s') :
    wpAny (model X.prog X.w) X.A (comprehension (.DictComp kx vx [⟨tg, iter, ifs, 0⟩] scope pos) scope X.env pQ newDict false (eval iter X.env) use) Qf X.xe s := by
  have hfree' : ∀ y ∈ scope.names, y.2 = .free → ∃ c, X.env.cells.lookup y.1 = some c := fun y hy e => by
    rcases bo.free y hy e with k | k
    · exact I.ok.has _ (.inl k)
    · exact I.ok.has _ (.inr k)
  refine wpAny_comprehension_free (use := use) rfl gE (closure_ok hfree') bo.kind (fun y hy e => by rw [bo.uniq y hy, e])
    (thn (hi.run pz s σ H _ I h) fun xv s1 hx => thn hx fun itv z2 h2 => ?_)
  obtain ⟨it, fp, tn, J, G2, e, J2, T, tn2, fz2, q⟩ := h2
  subst e
  refine (wpAny_newObj_type (newEnv_comp ?_))
  generalize hDd : z2.heap.objs.size = D
  have hDn : G2 D = none := J2.hok.fresh (Nat.le_of_eq hDd)
  obtain ⟨W, ⟨mq, wq⟩, turn'⟩ := q D hDn
  -- the new list
  generalize hs3 : ({ z2 with heap := z2.heap.push { cls := .type "dict", data := .dict #[] } } : Shared) = z3
  have J3 : Inv X pz σ (upd G2 D (.dT [])) z3 := by
    rw [← hs3]
    refine J2.laid (t' := z2.toks) (fun b o e => Heap.get?_push_of_some _ e) (Nat.le_of_eq hDd) ?_
    rw [← hDd]
    exact dt_empty z2.heap J2.big
  have h3 : z3.heap = z2.heap.push { cls := .type "dict", data := .dict #[] } := by rw [← hs3]
  have sz : ∀ b ∈ fp, b < z2.heap.objs.size := fun b hb => by
    obtain ⟨o, e, _⟩ := T.obj _ _ tn2 b hb
    exact Heap.lt_size e
  have fq3 : ∀ b ∈ fp, FpOk X pz (upd G2 D (.dT [])) b ∧ b < z3.heap.objs.size := fun b hb => by
    have hLt := sz b hb
    refine ⟨⟨?_, (fz2 b hb).2⟩, by rw [h3, Heap.size_push]; exact Nat.lt_succ_of_lt hLt⟩
    rw [upd_ne (by rw [← hDd]; exact Nat.ne_of_lt hLt)]
    exact (fz2 b hb).1
  have tn3 : tn 0 z3.heap := T.keep _ _ _ tn2 fun b _ o e => by rw [h3]; exact Heap.get?_push_of_some _ e
  have J4 := block_start J3 bo hN fq3
  have pg := gA z3 (upd G2 D (.dT [])) z3.heap.objs.size (cellsFrom (z3.heap.objs.size + 1) scope.names (cloFrom X.env.cells scope.names [])) fp
  have pt := gB z3 (upd G2 D (.dT [])) z3.heap.objs.size (cellsFrom (z3.heap.objs.size + 1) scope.names (cloFrom X.env.cells scope.names [])) fp
  have pk := gC z3 (upd G2 D (.dT [])) z3.heap.objs.size (cellsFrom (z3.heap.objs.size + 1) scope.names (cloFrom X.env.cells scope.names [])) fp
  have pe := gD z3 (upd G2 D (.dT [])) z3.heap.objs.size (cellsFrom (z3.heap.objs.size + 1) scope.names (cloFrom X.env.cells scope.names [])) fp
  show codeAny _ _ (.compStart (.DictComp kx vx [⟨tg, iter, ifs, 0⟩] scope pos) 0 (.ref it) (.ref D) (compEnvC scope (cellsFrom (z3.heap.objs.size + 1) scope.names (cloFrom X.env.cells scope.names [])) z3.heap.objs.size X.env)) (compPost (model X.prog X.w) X.A X.xe use Qf (.ref D) z3.heap.objs.size) { z3 with heap := pushCells (z3.heap.push { cls := .type "dict", data := .dict #[] }) scope.names }
  have nfp' : ∀ b ∈ fp, (upd G2 D (.dT [])) b = none := fun b hb => (fq3 b hb).1.1
  generalize hce : compEnvC scope (cellsFrom (z3.heap.objs.size + 1) scope.names (cloFrom X.env.cells scope.names [])) z3.heap.objs.size X.env = ce at J4 pg pt pk pe ⊢
  have cL' : ce.locals = z3.heap.objs.size := by subst hce; rfl
  generalize hH3 : upd G2 D (.dT []) = G3 at J3 J4 pg pt pk pe wq nfp' fq3
  generalize hs4 : ({ z3 with heap := pushCells (z3.heap.push { cls := .type "dict", data := .dict #[] }) scope.names } : Shared) = z4 at J4 ⊢
  have tn4 : tn 0 z4.heap := T.keep _ _ _ tn3 fun b _ o e => by rw [← hs4]; exact pushCells_keeps _ _ _ _ (Heap.get?_push_of_some _ e)
  have stat' : ∀ {σ' : L2.St} {H' : Hp} {s' : Shared}, Inv (X.blk z3 G3 scope ce fp) [] σ' H' s' → (∀ b ∈ fp, H' b = none) → ∀ b ∈ fp, FpOk (X.blk z3 G3 scope ce fp) [] H' b := fun {σ' H' s'} I' hNs b hb =>
    ⟨hNs b hb, (I'.ok.exf b hb).1, I'.ok.exfs b hb, .inl hb, fun x c e => (I'.ok.exf b hb).2 x c e, fun p hp => absurd (show p ∈ ([] : List (Addr × Obj)) ++ [] from hp) (by simp)⟩
  have loop' : codeAny (model X.prog X.w) X.A (.compLoop (.DictComp kx vx [⟨tg, iter, ifs, 0⟩] scope pos) 0 (.ref it) (.ref D) ce) (compPost (model X.prog X.w) X.A X.xe use Qf (.ref D) z3.heap.objs.size) z4 := by
    refine compLoop_anyD (fun n s' => ∃ i H', Inv (X.blk z3 G3 scope ce fp) [] (wipe σ (own.map (·.2))) H' s' ∧ tn i s'.heap ∧ (∀ b ∈ fp, H' b = none) ∧ W i n H') ?_ mq ⟨0, G3, J4, tn4, nfp', wq⟩
    rintro n z5 ⟨i, G5, J5, tn5, n5, w5⟩
    rcases turn' i n G5 w5 with ⟨stop, qq⟩ | ⟨go, Nx, hNx, step⟩
    · have td := T.done (X.blk z3 G3 scope ce fp) rfl rfl rfl hc i [] z5 _ G5 (fun _ _ => False) J5 (stat' J5 n5) tn5 stop
      refine thnF td fun r z6 ⟨hr, J6⟩ => ?_
      subst hr
      -- back in the def's context
      have J7 : Inv X pz σ G5 z6 := J3.call' (ch := fp) J6.os J6.base J6.hok J6.bare fun b hb => ⟨(fq3 b hb).1.2.2.2.1, (fq3 b hb).1.2.1, (fq3 b hb).1.2.2.2.2.1, (fq3 b hb).1.2.2.2.2.2⟩
      have nC : G5 z3.heap.objs.size = none := by
        have z : G5 ce.locals = none := J6.free
        rw [cL'] at z
        exact z
      obtain ⟨m, hNs, _⟩ := J6.loc
      have hNs : z6.heap.Ns ce.locals m := hNs
      rw [cL'] at hNs
      exact hEnd D z3.heap.objs.size z6 m G5 J7 qq hNs (J3.fpOk (Nat.le_refl _) nC)
    · have ti := T.item (X.blk z3 G3 scope ce fp) rfl rfl rfl hc i [] z5 _ G5 (fun _ _ => False) J5 (stat' J5 n5) tn5 go
      refine thnF ti fun r z6 ⟨u, hr, h6⟩ => ?_
      subst hr
      refine thnF h6 fun _ z7 ⟨x, G7, J7, r7, y7, tn7, n7⟩ => ?_
      have J7' := J7.pinned (stat' J7 n7) (T.obj _ _ tn7)
      refine thnF (pg.run _ z7 _ G7 x u _ J7' r7 (step x G7 y7)) fun _ z8 ⟨σ8, G8, J8, hW8, q8⟩ => ?_
      refine thnF (pt.run _ z8 σ8 G8 _ J8 q8) fun b z9 ⟨G9, J9, q9⟩ => ?_
      -- the turn''s end
      have fin' : ∀ {s' : Shared} {H' : Hp}, Inv (X.blk z3 G3 scope ce fp) ([] ++ pinsAt fp z7.heap) σ8 H' s' → Nx H' → ∃ m, m < n ∧ ∃ i H', Inv (X.blk z3 G3 scope ce fp) [] (wipe σ (own.map (·.2))) H' s' ∧ tn i s'.heap ∧ (∀ b ∈ fp, H' b = none) ∧ W i m H' := fun {s' H'} I' nX => by
        obtain ⟨m', hM, w'⟩ := hNx H' nX
        have pin' : ∀ b ∈ fp, ∀ o, z7.heap.get? b = some o → s'.heap.get? b = some o ∧ H' b = none := fun b hb o e =>
          let zz := I'.pin (b, o) (List.mem_append_right _ (List.mem_append_right _ (mem_pinsAt hb e)))
          ⟨zz.1, zz.2.1⟩
        have hL : (wipe σ (own.map (·.2))).length = σ8.length := by rw [← hW8, wipe_length]
        refine ⟨m', hM, i + 1, H', (I'.unpinned (pins := [])).weak hL (fun j v e => ?_), T.keep _ _ _ tn7 fun b hb o e => (pin' b hb o e).1, fun b hb => ?_, w'⟩
        · rw [← hW8] at e
          exact (wipe_some e).1
        · obtain ⟨o, e, _⟩ := T.obj _ _ tn7 b hb
          exact (pin' b hb o e).2
      cases b with
      | false =>
        simp only [if_false, Bool.false_eq_true] at q9 ⊢
        exact fin' J9 q9
      | true =>
        simp only [if_true] at q9 ⊢
        refine thnF (pk.run _ z9 σ8 G9 _ J9 q9) fun z z10 ⟨yk, G10, J10, r10, q10⟩ => ?_
        refine thnF (pe.run _ z10 σ8 G10 _ J10 q10) fun z2 z11 ⟨yv, G11, J11, r11, kvs, k, bk, ek, hb11, hD11, hz11, nX⟩ => ?_
        subst ek
        exact d_dictSetT (X := X.blk z3 G3 scope ce fp) hu J11 hb11 hD11 hz11 r10 r11 fun z12 J12 => fin' J12 nX
  exact codeAny_compStart_dict loop' (T.self X.A 0 _ _ _ tn4 loop')
/-- as a value, tuple keys -/
theorem pe_dcT {kx vx tg iter : Expr} {ifs : List Expr} {scope : Scope} {own : List (Str × Nat)} {pos : Pos} {wI : TI} {g : TG} {tT : TT} {tk tv : TE} (hu : X.A.units + 1 < cLine) (hc : X.calm = true) (hN : X.N.Nodup) (hi : PI X tg iter wI) (bo : BlkOk X.N X.env.scope scope own)
    (gA : ∀ (s : Shared) (H : Hp) (C : Addr) (cl : List (Str × Addr)) (fp : List Addr), PG (X.blk s H scope (compEnvC scope cl C X.env) fp) tg g) (gB : ∀ (s : Shared) (H : Hp) (C : Addr) (cl : List (Str × Addr)) (fp : List Addr), PTs (X.blk s H scope (compEnvC scope cl C X.env) fp) ifs tT)
    (gC : ∀ (s : Shared) (H : Hp) (C : Addr) (cl : List (Str × Addr)) (fp : List Addr), PE (X.blk s H scope (compEnvC scope cl C X.env) fp) kx tk)
    (gD : ∀ (s : Shared) (H : Hp) (C : Addr) (cl : List (Str × Addr)) (fp : List Addr), PE (X.blk s H scope (compEnvC scope cl C X.env) fp) vx tv) (gE : ∀ x, foldedSetIterable iter X.env x = pure x := by intro _; rfl) :
    PE X (.DictComp kx vx [⟨tg, iter, ifs, 0⟩] scope pos) (tDcT wI g tT tk tv (own.map (·.2))) := by
  refine ⟨fun pz s σ H Q I h => ?_⟩
  rw [arm_eval_DictComp]
  refine dcT_core hu hc hN I hi bo gA gB gC gD gE h fun D C s' m H' I' q hNs f => ⟨m, hNs, fun h'' sb => ?_⟩
  obtain ⟨f0, f1, fz2, fq3, f4, f5⟩ := f
  exact ⟨.ref D, H', I'.turned (t' := s'.toks) (fun b o hb e => (sb.2 b hb).trans e) f0 f1 fq3 f4 f5, rfl, q⟩
end
end DN
/-! Den19c: dict comprehensions with tuple keys: the reading by trees. -/
namespace DN
open PySem PySem.Spec PyProof.Rows L2
theorem rpt_lim {n : Nat} (h : n < LIM) : n < sizeLine := Nat.lt_of_lt_of_le h (by decide)
section
variable {X : Cx} {B : Bas} {C : Call} {W : WX} {F F' H H' F0 F1 G : Hp} {σ : L2.St} {s : SE} {fz fk fv : List Nat} {pos p tpos : Pos}
theorem dcD_noex {g : Tg} {t : BD} {kx vx : LD} {c : Str} {fs : List (Str × D)} : ∀ (ds : List D) (acc : List (List L2.Key × D)) (s : SE), dcD C g t kx vx s ds acc = .ex c fs → False
  | [], _, _, z => by
    unfold dcD at z
    cases z
  | d :: r, acc, s, z => by
    unfold dcD at z
    cases q : g.put d s with
    | none => simp only [q] at z; cases z
    | some s1 =>
      simp only [q] at z
      cases k : t C s1 with
      | ex c fs => simp only [k, noX, R.bind] at z; cases z
      | bad => simp only [k, noX, R.bind] at z; cases z
      | ok b =>
        simp only [k, noX, R.bind] at z
        cases b with
        | false =>
          rw [if_neg Bool.false_ne_true] at z
          exact dcD_noex r acc s z
        | true =>
          rw [if_pos rfl] at z
          cases k2 : kx C s1 with
          | ex c fs => simp only [k2] at z; cases z
          | bad => simp only [k2] at z; cases z
          | ok x =>
            simp only [k2] at z
            cases k3 : vx C s1 with
            | ex c fs => simp only [k3] at z; cases z
            | bad => simp only [k3] at z; cases z
            | ok y =>
              simp only [k3] at z
              cases k4 : tkeyOf x with
              | none => simp only [k4] at z; cases z
              | some k =>
                simp only [k4] at z
                exact dcD_noex r _ s z
theorem tkey_rp {F : Hp} {d : D} {v : V} {k : List L2.Key} (h : tkeyOf d = some k) (r : Rp X.K X.mg F v d) : ∃ b, v = .ref b ∧ F b = some (.tup (k.map kV)) := by
  cases d <;> first
    | (cases h; done)
    | skip
  obtain ⟨a, vs, e, h1, h2⟩ := r
  rw [keys_rp h h2] at h1
  exact ⟨a, e, h1⟩
theorem dc_read {vs : List Nat} {it : ID} {g : Tg} {gg : TG} {t : BD} {kx vx : LD} (hT : TgB X vs gg g) {Q : VK} (h : tD X B C (eDc g it t kx vx vs) (fz ++ (fk ++ fv)) W σ H Q) :
    tDcT (tJ X B C it fz W) gg (DN.tB X B.bk C t WN) (tF X B.bk C kx fk WN) (tF X B.bk C vx fv WN) vs σ H Q := by
  obtain ⟨F, s, rel, h⟩ := h
  refine ⟨F, s, rel, ?_⟩
  unfold eDc at h
  cases k : it C s with
  | ex c fs => simp only [k, R.bind] at h; exact h
  | bad => simp only [k, R.bind] at h
  | ok ds =>
    simp only [k, R.bind] at h
    refine fun J F1 H1 t1 hJ D hD => ?_
    by_cases hz : ds.length ≤ LIM
    · rw [if_pos hz] at h
      cases k2 : dcD C g t kx vx (wipeS vs s) ds [] with
      | ex c fs => exact (dcD_noex ds _ _ k2).elim
      | bad => simp only [k2] at h
      | ok total =>
        simp only [k2] at h
        refine ⟨fun i m H => m = ds.length - i ∧ i ≤ ds.length ∧ ∃ F2 us ls, Stp (Zof (fz ++ (fk ++ fv)) σ s) F1 H1 F2 H ∧ F2 D = none ∧ H D = some (.dT us) ∧ RpDK X.K X.mg F2 us ls ∧ ls.length ≤ i ∧ dcD C g t kx vx (wipeS vs s) (ds.drop i) ls = .ok total,
          ⟨ds.length, by simp, Nat.zero_le _, F1, [], [], .newOwn t1.fh hD, t1.fh.free hD, upd_same, rfl, Nat.le_refl _, k2⟩, ?_⟩
        rintro i m H2 ⟨rfl, hi, F2, us, ls, t2, nD, hU, hr, hls, hrest⟩
        by_cases hlt : i < ds.length
        · refine .inr ⟨hJ.go i H2 hlt t2.hh, ?_⟩
          rw [List.drop_eq_getElem_cons hlt] at hrest
          unfold dcD at hrest
          cases q : g.put ds[i] (wipeS vs s) with
          | none => simp only [q] at hrest; cases hrest
          | some s1 =>
            simp only [q] at hrest
            refine ⟨fun H' => ∃ F2 us ls, Stp (Zof (fz ++ (fk ++ fv)) σ s) F1 H1 F2 H' ∧ F2 D = none ∧ H' D = some (.dT us) ∧ RpDK X.K X.mg F2 us ls ∧ ls.length ≤ i + 1 ∧ dcD C g t kx vx (wipeS vs s) (ds.drop (i + 1)) ls = .ok total,
              fun H' z => ⟨_, by omega, rfl, by omega, z⟩, fun x H3 hy => ?_⟩
            obtain ⟨F3, t3, hx⟩ := hJ.yld i ds[i] H2 x H3 F2 (List.getElem?_eq_getElem hlt) t2.hh t2.ff t2.fh hy
            have t03 : Stp (Zof (fz ++ (fk ++ fv)) σ s) F1 H1 F3 H3 := t2.trans t3.of0
            have relb : RelW X.K X.mg B.bk F3 H3 (wipe σ vs) (wipeS vs s) := ((rel.step t1).step t03).block
            have nD3 : F3 D = none := by
              cases z : F3 D with
              | none => rfl
              | some o =>
                rcases t3.fr D o z with z | z | z
                · rw [nD] at z; cases z
                · rw [hU] at z; cases z
                · exact z.elim
            have hD3 : ∀ {H' : Hp}, Same H3 H' → H' D = some (.dT us) := fun e => e _ _ (t3.hh _ _ hU)
            refine hT B F3 H3 _ _ s1 x ds[i] _ relb hx q fun σ2 r1 r2 r3 => ⟨?_, F3, s1, r1, ?_⟩
            · refine wipe_ext ?_ fun j hj => ?_
              · rw [← r1.len, put_len q, wipeS_len, rel.len]
              · rw [r2 j hj, wipe_out hj]
            · cases k4 : t C s1 with
              | ex c fs => simp only [k4, noX, R.bind] at hrest; cases hrest
              | bad => simp only [k4, noX, R.bind] at hrest; cases hrest
              | ok b =>
                simp only [k4, noX, R.bind] at hrest
                refine fun H4 t4 => ?_
                have t04 : Stp (Zof (fz ++ (fk ++ fv)) σ s) F1 H1 F3 H4 := t03.trans ⟨.refl _, t4, t03.fh.trans t4, fun _ _ h => .inl h⟩
                cases b with
                | false =>
                  rw [if_neg Bool.false_ne_true] at hrest
                  exact iteF ⟨F3, us, ls, t04, nD3, hD3 t4, rpt_mono t3.ff hr, Nat.le_succ_of_le hls, hrest⟩
                | true =>
                  rw [if_pos rfl] at hrest
                  refine iteT ⟨F3, s1, r1.same t4, ?_⟩
                  cases k5 : kx C s1 with
                  | ex c fs => simp only [k5] at hrest; cases hrest
                  | bad => simp only [k5] at hrest; cases hrest
                  | ok y =>
                    simp only [k5] at hrest
                    refine fun w F5 H5 t5 hw => ⟨F5, s1, (r1.same t4).step t5, ?_⟩
                    cases k7 : vx C s1 with
                    | ex c fs => simp only [k7] at hrest; cases hrest
                    | bad => simp only [k7] at hrest; cases hrest
                    | ok y2 =>
                      simp only [k7] at hrest
                      refine fun w2 F7 H7 t7 hw2 => ?_
                      cases k6 : tkeyOf y with
                      | none => simp only [k6] at hrest; cases hrest
                      | some kk =>
                        simp only [k6] at hrest
                        obtain ⟨b, rfl, hb⟩ := tkey_rp k6 hw
                        have zb : ∀ a, Zof (fk ++ fv) σ2 s1 a → Zof (fk ++ fv) σ s a := fun a z => zof_back r2 r3 z
                        have t57 : Stp (Zof (fk ++ fv) σ2 s1) F3 H4 F7 H7 := (t5.wk fun a z => zof_l a z).trans (t7.wk fun a z => zof_r a z)
                        have t05 : Stp (Zof (fz ++ (fk ++ fv)) σ s) F1 H1 F7 H7 := t04.trans (t57.wk fun a z => zof_r a (zb a z))
                        have nD5 : F7 D = none := by
                          cases z : F7 D with
                          | none => rfl
                          | some o =>
                            rcases t57.fr D o z with z | z | z
                            · rw [nD3] at z; cases z
                            · rw [hD3 t4] at z; cases z
                            · obtain ⟨o', ho'⟩ := zof_there rel (zb D z)
                              have := t1.hh _ _ ho'
                              rw [hD] at this; cases this
                        have hU5 : H7 D = some (.dT us) := t57.hh _ _ (hD3 t4)
                        refine ⟨us, kk, b, rfl, t7.fh _ _ (t7.ff _ _ hb), hU5, rpt_lim ?_, F7, putK us kk w2, putDK ls kk y2, ⟨t05.ff, fun a o ha => ?_, fun a o ha => ?_, t05.fr⟩, nD5, upd_same, rpt_put hw2 (rpt_mono (t3.ff.trans t57.ff) hr), ?_, hrest⟩
                        · rw [rpt_len hr]
                          exact Nat.lt_of_le_of_lt hls (Nat.lt_of_lt_of_le hlt hz)
                        · rw [upd_ne (ne_of_none ha hD)]
                          exact t05.hh _ _ ha
                        · rw [upd_ne (ne_of_none ha nD5)]
                          exact t05.fh _ _ ha
                        · exact Nat.le_trans putDK_len (Nat.succ_le_succ hls)
        · have ei : i = ds.length := by omega
          subst ei
          rw [List.drop_length] at hrest
          unfold dcD at hrest
          cases hrest
          exact .inl ⟨hJ.stop H2 t2.hh, h _ F2 H2 ((t1.wk zof_l).trans t2) ⟨D, rfl, t1.hh.free hD, nD, .inr ⟨us, hU, hr⟩⟩⟩
    · rw [if_neg hz] at h
      exact h.elim
/-- a dict comprehension's parts, within its block -/
structure DcOk (X : Cx) (B : Bas) (C : Call) (scope : Scope) (own : List (Str × Nat)) (tg kx vx : Expr) (ifs : List Expr) (g : Tg) (gg : TG) (t : BD) (ke ve : LD) (fk fv : List Nat) : Prop where
  blk : BlkOk X.N X.env.scope scope own
  hT : TgB X (own.map (·.2)) gg g
  hg : ∀ (s : Shared) (H : Hp) (L : Addr) (cl : List (Str × Addr)) (fp : List Addr), PG (X.blk s H scope (compEnvC scope cl L X.env) fp) tg gg
  ht : ∀ (s : Shared) (H : Hp) (L : Addr) (cl : List (Str × Addr)) (fp : List Addr), PTs (X.blk s H scope (compEnvC scope cl L X.env) fp) ifs (DN.tB X B.bk C t WN)
  hk : ∀ (s : Shared) (H : Hp) (L : Addr) (cl : List (Str × Addr)) (fp : List Addr), PE (X.blk s H scope (compEnvC scope cl L X.env) fp) kx (tF X B.bk C ke fk WN)
  hv : ∀ (s : Shared) (H : Hp) (L : Addr) (cl : List (Str × Addr)) (fp : List Addr), PE (X.blk s H scope (compEnvC scope cl L X.env) fp) vx (tF X B.bk C ve fv WN)
theorem r_dc {kx vx tg iter : Expr} {ifs : List Expr} {scope : Scope} {own : List (Str × Nat)} {it : ID} {g : Tg} {gg : TG} {t : BD} {ke ve : LD} (hu : X.A.units + 1 < cLine) (hc : X.calm = true) (hN : X.N.Nodup) (hi : PI X tg iter (tJ X B C it fz W)) (L : DcOk X B C scope own tg kx vx ifs g gg t ke ve fk fv)
    (hs : ∀ x, foldedSetIterable iter X.env x = pure x) : PE X (.DictComp kx vx [⟨tg, iter, ifs, 0⟩] scope pos) (tD X B C (eDc g it t ke ve (own.map (·.2))) (fz ++ (fk ++ fv)) W) :=
  (pe_dcT hu hc hN hi L.blk L.hg L.ht L.hk L.hv hs).wk fun σ H Q h => dc_read L.hT h
end
end DN
namespace DN
open PySem PySem.Spec L2 PyProof.Rows
/-! ### sorted(xs), xs a list of plain data that can be compared -/
theorem okSort_iff {ps : List PyData} (h : okSort ps = true) : PySem.W.AllAlike ps ∧ PySem.W.Sortable ps ∧ ∀ p ∈ ps, p.depth ≤ 60 := by
  unfold okSort at h
  simp only [Bool.and_eq_true] at h
  obtain ⟨⟨h1, h2⟩, h3⟩ := h
  refine ⟨fun d hd e he => List.all_eq_true.mp (List.all_eq_true.mp h1 d hd) e he, ?_, fun p hp => by simpa using List.all_eq_true.mp h3 p hp⟩
  unfold sortB at h2
  rcases Bool.or_eq_true_iff.mp h2 with h2 | h2
  · refine .inl fun d hd => ?_
    have := List.all_eq_true.mp h2 d hd
    match d, this with
    | .tuple (x :: r), _ => exact ⟨x, r, rfl⟩
  · refine .inr fun d hd => ?_
    have := List.all_eq_true.mp h2 d hd
    match d, this with
    | .bool _, _ => exact ⟨nofun, fun _ => nofun⟩
    | .int _, _ => exact ⟨nofun, fun _ => nofun⟩
    | .str _, _ => exact ⟨nofun, fun _ => nofun⟩
    | .list _, _ => exact ⟨nofun, fun _ => nofun⟩
    | .dict _, _ => exact ⟨nofun, fun _ => nofun⟩
section
variable {X : Cx}
theorem dpAll_mem {H : Hp} : ∀ {xs : List (V × PyData)}, DpAll X.K H (xs.map Prod.fst) (xs.map Prod.snd) → ∀ p ∈ xs, Dp X.K H p.1 p.2
  | [], _, p, hp => absurd hp (by simp)
  | q :: r, h, p, hp => by
    cases h with
    | cons h1 h2 =>
      rcases List.mem_cons.mp hp with e | hp
      · rw [e]; exact h1
      · exact dpAll_mem h2 p hp
theorem each_of {R : Value → (V × PyData) → Prop} : ∀ {xs : List (V × PyData)} {us : List Value}, Vals (xs.map Prod.fst) us → (∀ p ∈ xs, ∀ u, RelV p.1 u → R u p) → PySem.W.EachIs R us xs
  | [], us, h, _ => by cases h; exact .nil
  | q :: r, us, h, k => by
    cases h with
    | cons h1 h2 => exact .cons (k q (by simp) _ h1) (each_of h2 fun p hp => k p (by simp [hp]))
theorem vals_each : ∀ {xs : List (V × PyData)} {us : List Value}, PySem.W.EachIs (fun u (p : V × PyData) => RelV p.1 u) us xs → Vals (xs.map Prod.fst) us
  | [], us, h => by cases h; exact .nil
  | q :: r, us, h => by
    cases h with
    | cons h1 h2 => exact .cons h1 (vals_each h2)
def rSortD (K : PySem.W.Frag) : List V → Hp → VK → Prop := fun vs H Q => ∃ (a : Addr) (xs : List (V × PyData)), vs = [V.ref a] ∧ SqL K H a (xs.map Prod.fst) ∧ DpAll K H (xs.map Prod.fst) (xs.map Prod.snd) ∧ okSort (xs.map Prod.snd) = true ∧
  ∀ p, H p = none → Q (.ref p) (upd H p (.lst ((xs.mergeSort (PySem.W.dataLe false Prod.snd)).map Prod.fst)))
theorem call_sortD (hu : X.A.units + 65 < cLine) : CallR X (.builtin "sorted") (rSortD X.K) := by
  intro pins s σ H vs us Q I r h
  obtain ⟨a, xs, rfl, hs, hd, hk, q⟩ := h
  obtain ⟨its, rv, hl, hz⟩ := I.list hs
  rw [Vals.ref1 r]
  obtain ⟨k1, k2, k3⟩ := okSort_iff hk
  have hm := dpAll_mem hd
  rw [List.length_map] at hz
  refine PySem.W.sorted_data (β := V × PyData) (enc := Prod.snd) (R := fun u (p : V × PyData) => RelV p.1 u) (bs := xs) (vs := its) hl.isList (each_of rv fun p _ u hr => hr) (each_of rv fun p hp u hr => Dp.reads I _ _ _ (hm p hp) hr) k1 k2 hz (fun p hp => by
    have := k3 p.2 (List.mem_map.mpr ⟨p, hp, rfl⟩)
    omega) fun out ho he => ?_
  obtain ⟨ep, he'⟩ := PyProof.Rows.sortedAll_at s.heap its out.toArray
  have hlen : ((xs.mergeSort (PySem.W.dataLe false Prod.snd)).map Prod.fst).length ≤ sizeLine := by
    rw [List.length_map, List.length_mergeSort]
    exact hz
  exact ⟨.ref _, upd H (s.heap.objs.size + 1) (.lst ((xs.mergeSort (PySem.W.dataLe false Prod.snd)).map Prod.fst)), I.laid (t' := s.toks) (fun _ _ => PyProof.Rows.sortedAll_old) (Nat.le_succ _) ⟨hlen, out, ep, vals_each he, he'⟩, rfl, q _ (I.hok.fresh (Nat.le_succ _))⟩
/-! the same sort, of values and of trees -/
theorem rpl_of {K : PySem.W.Frag} {mg : Str → Option Value} {F : Hp} : ∀ {T : List (V × D × PyData)}, (∀ t ∈ T, Rp K mg F t.1 t.2.1) → RpL K mg F (T.map fun t => t.1) (T.map fun t => t.2.1)
  | [], _ => rfl
  | t :: r, h => RpL.cons (h t (by simp)) (rpl_of fun x hx => h x (by simp [hx]))
theorem rpl_zip {K : PySem.W.Frag} {mg : Str → Option Value} {F : Hp} : ∀ {ws : List V} {l : List D} {ps : List PyData}, RpL K mg F ws l → ∀ t ∈ ws.zip (l.zip ps), Rp K mg F t.1 t.2.1
  | _, [], _, h, t, ht => by simp at ht
  | _, d :: l, [], h, t, ht => by simp at ht
  | _, d :: l, p :: ps, h, t, ht => by
    obtain ⟨v, r, rfl, h1, h2⟩ := h
    simp at ht
    rcases ht with rfl | ht
    · exact h1
    · exact rpl_zip h2 t (by simpa using ht)
theorem pys_len : ∀ {l : List D} {ps : List PyData}, D.pys l = some ps → ps.length = l.length
  | [], ps, h => by
    have e : [] = ps := by simpa [D.pys] using h
    rw [← e]; rfl
  | d :: r, ps, h => by
    cases k : D.py d with
    | none => simp [D.pys, k] at h
    | some p =>
      cases k2 : D.pys r with
      | none => simp [D.pys, k, k2] at h
      | some q =>
        simp [D.pys, k, k2] at h
        rw [← h, List.length_cons, List.length_cons, pys_len k2]
theorem ok_sorted : OpA X (rSortD X.K) kSorted := fun xs vs F H Q s hx h => by
  match xs, h with
  | [.lst l], h =>
    obtain ⟨v, rfl, hv⟩ := topL1 hx
    obtain ⟨a, ws, rfl, h1, r1⟩ := hv.lst s
    have h2 : Ans X F H Q (match D.pys l with
      | some ps => if okSort ps = true then some (true, .lst (srtD (l.zip ps))) else none
      | none => none) := h
    cases k : D.pys l with
    | none => rw [k] at h2; exact h2.elim
    | some ps =>
      rw [k] at h2
      obtain ⟨c, h3⟩ := ans_ite h2
      have hl1 := pys_len k
      have hl2 := r1.len
      have ea : (ws.zip ps).map Prod.fst = ws := List.map_fst_zip (by omega)
      have eb : (ws.zip ps).map Prod.snd = ps := List.map_snd_zip (by omega)
      have m1 : (ws.zip (l.zip ps)).map (fun t => (t.1, t.2.2)) = ws.zip ps := by
        refine List.ext_getElem (by simp; omega) fun i h1 h2 => ?_
        simp
      have m2 : (ws.zip (l.zip ps)).map (fun t => t.2) = l.zip ps := by
        rw [show (fun t : V × D × PyData => t.2) = Prod.snd from rfl]
        exact List.map_snd_zip (by simp; omega)
      have s1 : ((ws.zip (l.zip ps)).mergeSort (PySem.W.dataLe false fun t => t.2.2)).map (fun t => (t.1, t.2.2)) = (ws.zip ps).mergeSort (PySem.W.dataLe false Prod.snd) := by
        rw [← m1]
        exact List.map_mergeSort fun a _ b _ => rfl
      have s2 : ((ws.zip (l.zip ps)).mergeSort (PySem.W.dataLe false fun t => t.2.2)).map (fun t => t.2) = (l.zip ps).mergeSort (PySem.W.dataLe false Prod.snd) := by
        conv => rhs; rw [← m2]
        exact List.map_mergeSort fun a _ b _ => rfl
      refine ⟨a, ws.zip ps, rfl, by rw [ea]; exact SqL.of h1, by rw [ea, eb]; exact py_dps (fun _ _ z => z) k (r1.mono s), by rw [eb]; exact c, ?_⟩
      refine Ans.lst s h3 ?_
      unfold srtD
      rw [← s1, ← s2, List.map_map, List.map_map]
      refine rpl_of fun t ht => rpl_zip (ps := ps) r1 t ?_
      exact (List.mergeSort_perm _ _).mem_iff.mp ht
theorem bls_rp {F : Hp} : ∀ {l : List D} {bs : List Bool} {vs : List V}, D.bls l = some bs → RpL X.K X.mg F vs l → vs = bs.map V.bl
  | [], bs, vs, e, h => by
    cases e
    exact h
  | d :: r, bs, vs, e, h => by
    obtain ⟨v, vr, rfl, h1, h2⟩ := h
    cases d <;> first
      | (cases e; done)
      | skip
    rename_i z
    cases q : D.bls r with
    | none => simp only [D.bls, q] at e; cases e
    | some ws =>
      simp only [D.bls, q] at e
      cases e
      rw [show v = V.bl z from h1, bls_rp q h2]
      rfl
theorem ok_any : OpA X (rAny X.K) kAny := fun xs vs F H Q s hx h => by
  match xs, h with
  | [.lst l], h =>
    obtain ⟨v, rfl, hv⟩ := topL1 hx
    obtain ⟨a, ws, rfl, h1, r1⟩ := hv.lst s
    have h2 : Ans X F H Q (match D.bls l with
      | some bs => some (false, .bl (bs.any id))
      | none => none) := h
    cases k : D.bls l with
    | none => rw [k] at h2; exact h2.elim
    | some bs =>
      rw [k] at h2
      exact ⟨a, bs, rfl, by rw [← bls_rp k r1]; exact SqL.of h1, Ans.flat s h2 rfl⟩
theorem ok_all : OpA X (rAll X.K) kAll := fun xs vs F H Q s hx h => by
  match xs, h with
  | [.lst l], h =>
    obtain ⟨v, rfl, hv⟩ := topL1 hx
    obtain ⟨a, ws, rfl, h1, r1⟩ := hv.lst s
    have h2 : Ans X F H Q (match D.bls l with
      | some bs => some (false, .bl (bs.all id))
      | none => none) := h
    cases k : D.bls l with
    | none => rw [k] at h2; exact h2.elim
    | some bs =>
      rw [k] at h2
      exact ⟨a, bs, rfl, by rw [← bls_rp k r1]; exact SqL.of h1, Ans.flat s h2 rfl⟩
theorem fmax_ge : ∀ (ns : List Int) (n : Int), n ≤ ns.foldl max n ∧ ∀ y ∈ ns, y ≤ ns.foldl max n
  | [], n => ⟨Int.le_refl _, by simp⟩
  | a :: r, n => by
    obtain ⟨h1, h2⟩ := fmax_ge r (max n a)
    rw [List.foldl_cons]
    refine ⟨by omega, fun y hy => ?_⟩
    rcases List.mem_cons.mp hy with e | hy
    · omega
    · exact h2 y hy
theorem fmin_le : ∀ (ns : List Int) (n : Int), ns.foldl min n ≤ n ∧ ∀ y ∈ ns, ns.foldl min n ≤ y
  | [], n => ⟨Int.le_refl _, by simp⟩
  | a :: r, n => by
    obtain ⟨h1, h2⟩ := fmin_le r (min n a)
    rw [List.foldl_cons]
    refine ⟨by omega, fun y hy => ?_⟩
    rcases List.mem_cons.mp hy with e | hy
    · omega
    · exact h2 y hy
theorem fmax_mem : ∀ (ns : List Int) (n : Int), ns.foldl max n ∈ n :: ns
  | [], n => by simp
  | a :: r, n => by
    rw [List.foldl_cons]
    rcases List.mem_cons.mp (fmax_mem r (max n a)) with e | h
    · rw [e]
      by_cases c : n ≤ a
      · rw [show max n a = a by omega]; simp
      · rw [show max n a = n by omega]; simp
    · exact List.mem_cons_of_mem _ (List.mem_cons_of_mem _ h)
theorem fmin_mem : ∀ (ns : List Int) (n : Int), ns.foldl min n ∈ n :: ns
  | [], n => by simp
  | a :: r, n => by
    rw [List.foldl_cons]
    rcases List.mem_cons.mp (fmin_mem r (min n a)) with e | h
    · rw [e]
      by_cases c : n ≤ a
      · rw [show min n a = n by omega]; simp
      · rw [show min n a = a by omega]; simp
    · exact List.mem_cons_of_mem _ (List.mem_cons_of_mem _ h)
theorem ok_max1 : OpA X (rMax X.K) kMax1 := fun xs vs F H Q s hx h => by
  match xs, h with
  | [.lst l], h =>
    obtain ⟨v, rfl, hv⟩ := topL1 hx
    obtain ⟨a, ws, rfl, h1, r1⟩ := hv.lst s
    have h2 : Ans X F H Q (match D.ints l with
      | some (n :: ns) => some (false, .int (ns.foldl max n))
      | _ => none) := h
    cases k : D.ints l with
    | none => rw [k] at h2; exact h2.elim
    | some ns =>
      cases ns with
      | nil => rw [k] at h2; exact h2.elim
      | cons n ns =>
        rw [k] at h2
        clear h
        have e0 := ints_map k
        subst e0
        rw [rp_ints_eq r1] at h1
        refine ⟨a, n :: ns, rfl, SqL.of h1, Nat.succ_pos _, fun m hm hy => ?_⟩
        obtain ⟨g1, g2⟩ := fmax_ge ns n
        have e : m = ns.foldl max n := by
          have a1 : m ≤ ns.foldl max n := by
            rcases List.mem_cons.mp hm with e | hm
            · omega
            · exact g2 m hm
          have a2 : ns.foldl max n ∈ n :: ns := fmax_mem ns n
          have := hy _ a2
          omega
        rw [e]
        exact Ans.flat s h2 rfl
theorem ok_min1 : OpA X (rMin X.K) kMin1 := fun xs vs F H Q s hx h => by
  match xs, h with
  | [.lst l], h =>
    obtain ⟨v, rfl, hv⟩ := topL1 hx
    obtain ⟨a, ws, rfl, h1, r1⟩ := hv.lst s
    have h2 : Ans X F H Q (match D.ints l with
      | some (n :: ns) => some (false, .int (ns.foldl min n))
      | _ => none) := h
    cases k : D.ints l with
    | none => rw [k] at h2; exact h2.elim
    | some ns =>
      cases ns with
      | nil => rw [k] at h2; exact h2.elim
      | cons n ns =>
        rw [k] at h2
        clear h
        have e0 := ints_map k
        subst e0
        rw [rp_ints_eq r1] at h1
        refine ⟨a, n :: ns, rfl, SqL.of h1, Nat.succ_pos _, fun m hm hy => ?_⟩
        obtain ⟨g1, g2⟩ := fmin_le ns n
        have e : m = ns.foldl min n := by
          have a1 : ns.foldl min n ≤ m := by
            rcases List.mem_cons.mp hm with e | hm
            · omega
            · exact g2 m hm
          have a2 : ns.foldl min n ∈ n :: ns := fmin_mem ns n
          have := hy _ a2
          omega
        rw [e]
        exact Ans.flat s h2 rfl
end
end DN
/-! Den21: the text put into codes. -/
namespace DN
open PySem PySem.Spec PyProof.Rows L2
/-- what the module's names stand for -/
structure Glob where
  fns : List ((Str × Nat) × List CK) := []
  mks : List ((Str × Nat) × List CK) := []
  mts : List ((Str × Nat) × List (Str × List CK)) := []
  prs : List (Str × List Str) := []
  cns : List (Str × List (Str × CK)) := []
  fls : List (Str × List Str) := []
  vas : List (Str × CK) := []
  frs : List Str := []
  ers : List Str := []
  xms : List (Str × List (Str × Bool)) := []
  xis : List (Str × List (Str × Bool)) := []
  /-- defs with *args: how many parameters stand ahead -/
  sts : List (Str × Nat) := []
  /-- classes with a __contains__ of their own -/
  ctn : List Str := []
  /-- classes whose __iter__ returns iter(self.f) -/
  its : List (Str × Str) := []
  /-- names and fields that hold instances of these -/
  obn : List Str := []
  /-- constants of classes, by the class's name -/
  ccs : List ((Str × Str) × CK) := []
structure TC where
  N : List Str
  sc : Scope
  calm : Bool
  G : Glob
  er : Option Str := none
  /-- an __init__: the first slot is not stored in -/
  ini : Bool := false
  /-- a def's body (not a comprehension's block): cells of its own are stored in, too -/
  top : Bool := true
  /-- a comprehension's own cells -/
  oc : List Str := []
def chk {α : Type} (b : Bool) (o : Option α) : Option α := if b = true then o else none
theorem chk_ok {α : Type} {b : Bool} {o : Option α} {a : α} (h : chk b o = some a) : b = true ∧ o = some a := by
  unfold chk at h
  by_cases hb : b = true
  · rw [if_pos hb] at h; exact ⟨hb, h⟩
  · rw [if_neg hb] at h; cases h
theorem bnd_ok {α β : Type} {o : Option α} {f : α → Option β} {b : β} (h : o.bind f = some b) : ∃ a, o = some a ∧ f a = some b := by
  cases o with
  | none => cases h
  | some a => exact ⟨a, rfl, h⟩
def ixOf : List Str → Str → Option Nat
  | [], _ => none
  | y :: r, x => if (y == x) = true then some 0 else (ixOf r x).map fun i => i + 1
theorem ixOf_ok : ∀ {l : List Str} {x : Str} {i : Nat}, ixOf l x = some i → l[i]? = some x
  | [], _, _, h => by cases h
  | y :: r, x, i, h => by
    unfold ixOf at h
    by_cases hb : (y == x) = true
    · rw [if_pos hb] at h
      cases h
      rw [beq_iff_eq.mp hb]
      rfl
    · rw [if_neg hb] at h
      cases q : ixOf r x with
      | none => rw [q] at h; cases h
      | some j =>
        rw [q] at h
        have e : i = j + 1 := (Option.some.inj h).symm
        subst e
        exact ixOf_ok (l := r) q
theorem ixOf_none : ∀ {l : List Str} {x : Str}, ixOf l x = none → x ∉ l
  | [], _, _ => List.not_mem_nil
  | y :: r, x, h => by
    unfold ixOf at h
    by_cases hb : (y == x) = true
    · rw [if_pos hb] at h; cases h
    · rw [if_neg hb] at h
      cases q : ixOf r x with
      | some j => rw [q] at h; cases h
      | none =>
        intro z
        rcases List.mem_cons.mp z with z | z
        · exact hb (by rw [z]; exact beq_self_eq_true y)
        · exact ixOf_none q z
def kd (tc : TC) (x : Str) : Option NameKind := tc.sc.names.lookup x
def isLoc (tc : TC) (x : Str) : Bool := decide (kd tc x = some .local)
def dbg (x : Str) : Bool := !(x == ("__debug__" : Str)) && !(x == ("__classdict__" : Str))
def visB (tc : TC) (x : Str) : Bool := (decide (kd tc x = some .local) || decide (kd tc x = some .cell) || decide (kd tc x = some .free)) && dbg x
/-- a name that is seen: its slot -/
def slot (tc : TC) (x : Str) : Option Nat := chk (visB tc x) (ixOf tc.N x)
/-- a name of one's own -/
def slotL (tc : TC) (x : Str) : Option Nat := chk ((isLoc tc x || ((tc.top || tc.oc.contains x) && decide (kd tc x = some .cell))) && dbg x) ((ixOf tc.N x).bind fun i => chk (!(tc.ini && decide (i = 0))) (some i))
def globB (tc : TC) (x : Str) : Bool := decide (kd tc x = some .globalImplicit) && dbg x
def frB (tc : TC) (x : Str) : Bool := globB tc x && tc.G.frs.contains x
def ckOf : Const → Option CK
  | .none => some .non
  | .bool b => some (.bl b)
  | .int i => some (.int i)
  | .str s => some (.str s)
  | _ => none
def opOf : Operator → Option O2
  | .Add => some .add
  | .Sub => some .sub
  | .Mult => some .mul
  | .FloorDiv => some .fdiv
  | .Mod => some .mod
  | .Pow => some .pow
  | _ => none
def cmOf : CmpOp → Option O2
  | .Lt => some .lt
  | .LtE => some .le
  | .Gt => some .gt
  | .GtE => some .ge
  | .Eq => some .eq
  | .NotEq => some .ne
  | .Is => some .isn
  | .IsNot => some .notn
  | .In => some .inn
  | .NotIn => some .notin
def relT (tc : TC) (scope : Scope) : TC := { tc with sc := relS scope tc.sc, er := none, ini := false, top := false, oc := (scope.names.filter fun p => decide (scope.names.lookup p.1 = some .cell)).map (·.1) }
/-- a block's own names, with their slots -/
def ownOf (tc : TC) (scope : Scope) : List (Str × Nat) := scope.names.filterMap fun p => if (decide (p.2 = .local) || decide (p.2 = .cell)) = true then (ixOf tc.N p.1).map fun i => (p.1, i) else none
def blkB (tc : TC) (scope : Scope) : Bool := decide (scope.kind = .function) && (scope.names.all fun y => decide (scope.names.lookup y.1 = some y.2)) && (scope.names.all fun y => !decide (y.2 = .free) || decide (kd tc y.1 = some .cell) || decide (kd tc y.1 = some .free))
def notSet : Expr → Bool
  | .Set _ _ _ => false
  | _ => true
mutual
def tgtF : Nat → TC → Expr → Option Tg
  | 0, _, _ => none
  | n + 1, tc, e => match e with
    | .Name x _ => (slotL tc x).map .nm
    | .Tuple es _ _ => (tgsF n tc es).map .tp
    | _ => none
def tgsF : Nat → TC → List Expr → Option Tgs
  | 0, _, _ => none
  | n + 1, tc, es => match es with
    | [] => some .nil
    | e :: r => (tgtF n tc e).bind fun g => (tgsF n tc r).map fun l => .cons g l
end
def tgtOf (tc : TC) (e : Expr) : Option Tg := tgtF 40 tc e
def tgIn (l : List Nat) (g : Tg) : Bool := g.sl.all fun i => l.contains i
def tgSl (g : Tg) : List Nat := g.sl
def biOf (x : Str) (calm : Bool) (n : Nat) : Option BI :=
  if x = "len" ∧ n = 1 then some .len else if x = "int" ∧ n = 1 then some .int else if x = "abs" ∧ n = 1 then some .abs else if x = "max" ∧ n = 2 then chk calm (some .max) else if x = "min" ∧ n = 2 then chk calm (some .min)
  else if x = "list" ∧ n = 1 then chk calm (some .list) else if x = "tuple" ∧ n = 1 then some .tuple else if x = "sum" ∧ n = 1 then chk calm (some .sum) else none
def bi2 (x : Str) (calm : Bool) (n : Nat) : Option BI := if x = "str" ∧ n = 1 then some .str else if x = "sorted" ∧ n = 1 then some .sorted else if x = "any" ∧ n = 1 then chk calm (some .any) else if x = "all" ∧ n = 1 then chk calm (some .all) else if x = "max" ∧ n = 1 then chk calm (some .max1) else if x = "min" ∧ n = 1 then chk calm (some .min1) else if x = "range" ∧ n = 1 then some .rng else none
def biAll (x : Str) (calm : Bool) (n : Nat) : Option BI := match biOf x calm n with
  | some b => some b
  | none => bi2 x calm n
/-- [::-1] -/
def revIx : Expr → Bool
  | .Slice none none (some (.UnaryOp .USub (.Constant (.int i) _ _) _)) _ => decide (i = 1)
  | _ => false
/-- isinstance(e, X) of the error e that is held -/
def isEOf (tc : TC) (g : Expr) (es : List Expr) (kws : List Keyword) : Option (Nat × List (Str × Bool)) := match g, es, kws with
  | .Name f _, [.Name e _, .Name x _], [] => chk (decide (f = "isinstance") && decide (tc.er = some e) && frB tc f && globB tc x) ((slot tc e).bind fun i => (tc.G.xis.lookup x).map fun tb => (i, tb))
  | _, _, _ => none
def tyOf (x : Str) : Option TyC := if x = "int" then some .int else if x = "bool" then some .bool else if x = "str" then some .str else if x = "list" then some .list else if x = "tuple" then some .tuple else none
/-- isinstance(.., T), T a built-in type -/
def isiOf (tc : TC) (g : Expr) (es : List Expr) (kws : List Keyword) : Option (Expr × TyC) := match g, es, kws with
  | .Name f _, [e, .Name x _], [] => chk (decide (f = "isinstance") && notStar e && frB tc f && frB tc x) ((tyOf x).map fun t => (e, t))
  | _, _, _ => none
/-- a call -/
def bmOf (m : Str) (n : Nat) : Option BM := if m = "count" ∧ n = 1 then some .count else if m = "join" ∧ n = 1 then some .join else none
def callE (L : Expr → Option (LC × List Nat)) (A : List Expr → Option (AC × List Nat)) (Q : List Expr → Option (AC × List Nat)) (E : Expr → Option (EC × List Nat)) (tc : TC) (g : Expr) (es : List Expr) (kws : List Keyword) (pos : Pos) : Option (EC × List Nat) := chk (kws.isEmpty && es.all notStar && decide (es.length < 30)) (match g with
  | .Name x _ => chk (globB tc x) (match tc.G.sts.lookup x with
    | some p => chk (tc.calm && decide (p ≤ es.length) && !es.isEmpty) ((A es).map fun q => (.fs x p q.1, q.2))
    | none => match tc.G.fns.lookup (x, es.length) with
    | some dfs => chk tc.calm ((A es).map fun p => (.fn x p.1 dfs, p.2))
    | none => match tc.G.mks.lookup (x, es.length) with
      | some dfs => chk tc.calm ((A es).map fun p => (.mk x p.1 dfs, p.2))
      | none => chk (tc.G.frs.contains x) ((biAll x tc.calm es.length).bind fun b => (Q es).map fun p => (.bi b p.1, p.2)))
  | .Attribute o m apos => chk (notSuper o && decide (apos.endLine = pos.line)) (match tc.G.mts.lookup (m, es.length) with
    | some tb => chk tc.calm ((E o).bind fun p => (A es).map fun q => (.mt m (.e p.1) q.1 tb, p.2 ++ q.2))
    | none => match bmOf m es.length, es with
      | some b, [e] => (L o).bind fun p => (L e).map fun q => (.bm b p.1 q.1, p.2 ++ q.2)
      | none, [e] => if m = "index" then (L o).bind fun p => (L e).map fun q => (.lix p.1 q.1, p.2 ++ q.2) else none
      | _, _ => none)
  | _ => none)
def obB (tc : TC) : Expr → Bool
  | .Name x _ => tc.G.obn.contains x
  | .Attribute _ f _ => tc.G.obn.contains f
  | _ => false
/-- x in o, o of an own class -/
def inOf (tc : TC) (op : CmpOp) (b : Expr) : Option Bool := if (obB tc b && tc.calm) = true then (match op with
  | .In => some false
  | .NotIn => some true
  | _ => none) else none
/-- C.f -/
def ccOf (tc : TC) (o : Expr) (f : Str) : Option CK := match o with
  | .Name x _ => chk (globB tc x) (tc.G.ccs.lookup (x, f))
  | _ => none
mutual
def toE : Nat → TC → Expr → Option (EC × List Nat)
  | 0, _, _ => none
  | n + 1, tc, e => match e with
    | .Constant c _ _ => (ckOf c).map fun k => (.k k, [])
    | .Name x _ => match slot tc x with
      | some i => some (.v i, [i])
      | none => chk (globB tc x) ((tc.G.vas.lookup x).map fun k => (.k k, []))
    | .Tuple es _ _ => chk (decide (es.length ≤ 1000)) ((toA n tc es).map fun p => (.tup p.1, p.2))
    | .List es _ => chk (decide (es.length ≤ 1000)) ((toA n tc es).map fun p => (.lst p.1, p.2))
    | .BinOp a op b _ => (opOf op).bind fun o => (toL n tc a).bind fun p => (toL n tc b).map fun q => (.o2 o p.1 q.1, p.2 ++ q.2)
    | .UnaryOp op a _ => match op with
      | .USub => (toL n tc a).map fun p => (.neg p.1, p.2)
      | .Not => (toV n tc e).map fun b => (.t b, [])
      | _ => none
    | .BoolOp _ _ _ => (toV n tc e).map fun b => (.t b, [])
    | .Compare a ops bs _ => match ops, bs with
      | [op], [b] => match inOf tc op b with
        | some neg => chk (!behindInMarks op b) ((toL n tc a).bind fun p => (toE n tc b).map fun q => (.inO neg tc.G.ctn p.1 (.e q.1), p.2 ++ q.2))
        | none => (cmOf op).bind fun o => chk (!behindInMarks op b) ((toL n tc a).bind fun p => (toL n tc b).map fun q => (.o2 o p.1 q.1, p.2 ++ q.2))
      | [op, op'], [b, c] => (cmOf op).bind fun o => (cmOf op').bind fun o' => chk (!lastMarks [op, op'] [b, c]) ((toL n tc a).bind fun p => (toL n tc b).bind fun q => (toL n tc c).map fun r => (.chain o o' p.1 q.1 r.1, p.2 ++ (q.2 ++ r.2)))
      | _, _ => none
    | .IfExp t a b _ => (toB n tc t).bind fun t' => (toE n tc a).bind fun p => (toE n tc b).map fun q => (.ife t' p.1 q.1, p.2 ++ q.2)
    | .Subscript a j _ => if revIx j = true then (toL n tc a).map fun p => (.rvl p.1, p.2) else match j with
      | .Slice lo hi none _ => (toL n tc a).bind fun p => (toO n tc lo).bind fun l => (toO n tc hi).map fun h => (.cut p.1 l h, p.2)
      | _ => chk (plainIx j) ((toL n tc a).bind fun p => (toL n tc j).map fun q => (.o2 .ix p.1 q.1, p.2 ++ q.2))
    | .Attribute o f _ => match ccOf tc o f with
      | some k => some (.k k, [])
      | none => chk (notSuper o) (match tc.G.prs.lookup f with
        | some cs => chk tc.calm ((toE n tc o).map fun p => (.pr f cs (.e p.1), p.2))
        | none => match tc.G.cns.lookup f with
          | some tb => (toL n tc o).map fun p => (.cn f tb p.1, p.2)
          | none => (tc.G.fls.lookup f).bind fun cs => (toL n tc o).map fun p => (.fl f cs p.1, p.2))
    | .Call g es kws pos => match isEOf tc g es kws with
      | some p => some (.isE p.1 p.2, [])
      | none => match isiOf tc g es kws with
      | some p => (toL n tc p.1).map fun q => (.isi p.2 q.1, q.2)
      | none => callE (toL n tc) (toA n tc) (toQ n tc) (toE n tc) tc g es kws pos
    | .ListComp elt gens scope _ => match gens with
      | [⟨tg, iter, ifs, as⟩] => chk (tc.calm && blkB tc scope && notSet iter && decide (as = 0)) ((toJ n tc tg iter).bind fun it => (tgtOf (relT tc scope) tg).bind fun g => chk (tgIn ((ownOf tc scope).map (·.2)) g) ((toIfs n (relT tc scope) ifs).bind fun t => (toE n (relT tc scope) elt).map fun el =>
          (.lc g it.1 t (.e el.1) ((ownOf tc scope).map (·.2)), it.2 ++ el.2)))
      | [⟨tg, iter, ifs, as⟩, ⟨tg1, iter1, ifs1, as1⟩] => chk (tc.calm && blkB tc scope && notSet iter && notSet iter1 && decide (as = 0) && decide (as1 = 0)) ((toJ n tc tg iter).bind fun it => (tgtOf (relT tc scope) tg).bind fun g => (tgtOf (relT tc scope) tg1).bind fun g1 =>
          chk (tgIn ((ownOf tc scope).map (·.2)) g && tgIn (tgSl g1) g1 && (tgSl g1).all fun i => ((ownOf tc scope).map (·.2)).contains i) ((toIfs n (relT tc scope) ifs).bind fun t => (toK1 n (relT tc scope) tg1 iter1).bind fun it1 => (toIfs n (relT tc scope) ifs1).bind fun t1 => (toE n (relT tc scope) elt).map fun el =>
            (.lc2 g it.1 t g1 it1.1 t1 (.e el.1) ((ownOf tc scope).map (·.2)) (tgSl g1), it.2 ++ (it1.2 ++ el.2))))
      | _ => none
    | .DictComp kx vx gens scope _ => match gens with
      | [⟨tg, iter, ifs, as⟩] => chk (tc.calm && blkB tc scope && notSet iter && decide (as = 0)) ((toJ n tc tg iter).bind fun it => (tgtOf (relT tc scope) tg).bind fun g => chk (tgIn ((ownOf tc scope).map (·.2)) g) ((toIfs n (relT tc scope) ifs).bind fun t => (toE n (relT tc scope) kx).bind fun p => (toE n (relT tc scope) vx).map fun q =>
          (.dc g it.1 t (.e p.1) (.e q.1) ((ownOf tc scope).map (·.2)), it.2 ++ (p.2 ++ q.2))))
      | _ => none
    | _ => none
def toL : Nat → TC → Expr → Option (LC × List Nat)
  | 0, _, _ => none
  | n + 1, tc, e => match e with
    | .Name x _ => match slot tc x with
      | some i => some (.v i, [])
      | none => (toE n tc e).map fun p => (.e p.1, p.2)
    | _ => (toE n tc e).map fun p => (.e p.1, p.2)
def toA : Nat → TC → List Expr → Option (AC × List Nat)
  | 0, _, _ => none
  | n + 1, tc, es => match es with
    | [] => some (.nil, [])
    | e :: r => chk (notStar e) ((toE n tc e).bind fun p => (toA n tc r).map fun q => (.cons (.e p.1) q.1, p.2 ++ q.2))
def toQ : Nat → TC → List Expr → Option (AC × List Nat)
  | 0, _, _ => none
  | n + 1, tc, es => match es with
    | [] => some (.nil, [])
    | e :: r => chk (notStar e) ((toL n tc e).bind fun p => (toQ n tc r).map fun q => (.cons p.1 q.1, p.2 ++ q.2))
def toO : Nat → TC → Option Expr → Option OC
  | 0, _, _ => none
  | n + 1, tc, o => match o with
    | none => some .none
    | some e => (toL n tc e).map fun p => .some p.1
/-- as a bool's value -/
def toV : Nat → TC → Expr → Option BC
  | 0, _, _ => none
  | n + 1, tc, e => match e with
    | .BoolOp op es pos => match es with
      | [] => none
      | a :: r => match r with
        | [] => toV n tc a
        | b :: r => (toV n tc a).bind fun x => (toV n tc (.BoolOp op (b :: r) pos)).map fun y => match op with
          | .And => .and x y
          | .Or => .or x y
    | .UnaryOp .Not a _ => (toV n tc a).map .not
    | _ => (toE n tc e).map fun p => .e p.1
/-- as a test -/
def toB : Nat → TC → Expr → Option BC
  | 0, _, _ => none
  | n + 1, tc, e => match e with
    | .BoolOp _ _ _ => toW n tc e
    | .UnaryOp .Not a _ => (toB n tc a).map .not
    | .Compare a ops bs _ => match ops, bs with
      | [op], [b] => match inOf tc op b with
        | some neg => chk (!behindInMarks op b) ((toL n tc a).bind fun p => (toE n tc b).map fun q => .e (.inO neg tc.G.ctn p.1 (.e q.1)))
        | none => (cmOf op).bind fun o => chk (!behindInMarks op b) ((toL n tc a).bind fun p => (toL n tc b).map fun q => .e (.o2 o p.1 q.1))
      | [op, op'], [b, c] => (cmOf op).bind fun o => (cmOf op').bind fun o' => chk (!lastMarks [op, op'] [b, c]) ((toL n tc a).bind fun p => (toL n tc b).bind fun q => (toL n tc c).map fun r => .e (.chain o o' p.1 q.1 r.1))
      | _, _ => none
    | _ => chk (plainT e) ((toL n tc e).map fun p => .tr p.1)
def toW : Nat → TC → Expr → Option BC
  | 0, _, _ => none
  | n + 1, tc, e => match e with
    | .BoolOp op es pos => match es with
      | [] => none
      | a :: r => match r with
        | [] => toB n tc a
        | b :: r => (toB n tc a).bind fun x => (toW n tc (.BoolOp op (b :: r) pos)).map fun y => match op with
          | .And => .and x y
          | .Or => .or x y
    | _ => none
def toIfs : Nat → TC → List Expr → Option BC
  | 0, _, _ => none
  | n + 1, tc, es => match es with
    | [] => some .yes
    | [e] => toB n tc e
    | _ => none
/-- what a second clause walks -/
def toK1 : Nat → TC → Expr → Expr → Option (IC × List Nat)
  | 0, _, _, _ => none
  | n + 1, tc, tg, e => match toI n tc tg e with
    | some r => some r
    | none => (toE n tc e).map fun p => (.of (.e p.1), p.2)
/-- what a comprehension walks -/
def toJ : Nat → TC → Expr → Expr → Option (IC × List Nat)
  | 0, _, _, _ => none
  | n + 1, tc, tg, e => match e with
    | .Call g es kws _ => match toI n tc tg e with
      | some r => some r
      | none => (toL n tc e).map fun p => (.of p.1, p.2)
    | _ => if (obB tc e && tc.calm) = true then (toE n tc e).map fun p => (.own tc.G.its (.e p.1), p.2) else (toL n tc e).map fun p => (.of p.1, p.2)
/-- what a for walks: range, reversed, enumerate, zip -/
def toI : Nat → TC → Expr → Expr → Option (IC × List Nat)
  | 0, _, _, _ => none
  | n + 1, tc, tg, e => match e with
    | .Call g es kws _ => match g with
      | .Name x _ => chk (frB tc x && kws.isEmpty && es.all notStar) (
        if x = "range" then (match es with
          | [_] => (toQ n tc es).map fun p => (.range p.1, p.2)
          | [_, _] => (toQ n tc es).map fun p => (.range p.1, p.2)
          | [_, _, _] => (toQ n tc es).map fun p => (.range p.1, p.2)
          | _ => none)
        else if x = "reversed" then (match es with
          | [a] => (toE n tc a).map fun p => (.rev (.e p.1), p.2)
          | _ => none)
        else if x = "enumerate" then (match es, tg with
          | [_], .Tuple _ _ _ => (toA n tc es).map fun p => (.enum p.1, p.2)
          | _, _ => none)
        else if x = "zip" then (match es, tg with
          | [_, _], .Tuple _ _ _ => (toA n tc es).map fun p => (.zip p.1, p.2)
          | _, _ => none)
        else none)
      | _ => none
    | _ => none
end
def notComp : Expr → Bool
  | .ListComp _ _ _ _ => false
  | .SetComp _ _ _ _ => false
  | .DictComp _ _ _ _ _ => false
  | _ => true
def notDc : Expr → Bool
  | .DictComp _ _ _ _ _ => false
  | _ => true
def notTup : Expr → Bool
  | .Tuple _ _ _ => false
  | _ => true
/-- raise X('..') -/
def raiseOf : Option Expr → Option Expr → Option Str
  | some (.Call (.Name x _) [.Constant (.str _) _ _] [] _), none => some x
  | _, _ => none
/-- x.append(e), x.reverse() -/
def appOf : Expr → Option (Str × Expr)
  | .Call (.Attribute (.Name x _) m apos) [e] [] cpos => chk (decide (m = "append") && notStar e && (apos.endLine == cpos.line)) (some (x, e))
  | _ => none
def revOf : Expr → Option Str
  | .Call (.Attribute (.Name x _) m apos) [] [] cpos => chk (decide (m = "reverse") && (apos.endLine == cpos.line)) (some x)
  | _ => none
mutual
def toS : Nat → TC → Stmt → Option SC
  | 0, _, _ => none
  | n + 1, tc, st => match st with
    | .Pass _ => some .nx
    | .Break _ => some .bk
    | .Continue _ => some .ct
    | .Return o _ => match o with
      | none => some (.ret (.k .non))
      | some e => match e with
        | .Name x _ => match slot tc x with
          | some i => some (.retv i)
          | none => (toE n tc e).map fun p => .ret p.1
        | _ => (toE n tc e).map fun p => .ret p.1
    | .If t a b _ => (toB n tc t).bind fun t => (toSs n tc a).bind fun a => (toSs n tc b).map fun b => .ife t a b
    | .While t b els _ => chk els.isEmpty ((toB n tc t).bind fun t => (toSs n tc b).map fun b => .whil t b)
    | .For tg it b els _ => chk (els.isEmpty && tc.calm && notSet it) ((toK n tc tg it).bind fun it => (tgtOf tc tg).bind fun g => (toSs n tc b).map fun b => .forr g it.1 it.2 b)
    | .Raise e c _ => chk tc.calm ((raiseOf e c).bind fun x => chk (globB tc x && tc.G.ers.contains x) (some (.raise x)))
    | .Expr e _ => match appOf e with
      | some p => (slot tc p.1).bind fun i => (toE n tc p.2).map fun q => .app i (.e q.1) q.2
      | none => match revOf e with
        | some x => (slot tc x).map .rev
        | none => chk (notComp e) ((toE n tc e).map fun p => .drop p.1)
    | .Assign ts v _ => match ts with
      | [t] => match t with
        | .Name x _ => chk (notDc v) ((slotL tc x).bind fun i => (toE n tc v).map fun p => .asg i p.1 p.2)
        | .Tuple _ _ _ => chk (tc.calm && notTup v) ((tgtOf tc t).bind fun g => (toE n tc v).map fun p => .unp g (.e p.1) p.2)
        | .Attribute o f _ => match o with
          | .Name x _ => (slot tc x).bind fun i => (tc.G.fls.lookup f).bind fun cs => (toE n tc v).map fun p => .putF i f cs (.e p.1) p.2
          | _ => none
        | .Subscript o j _ => match o with
          | .Name x _ => chk (plainIx j) ((slot tc x).bind fun i => (toL n tc j).bind fun q => (toE n tc v).map fun p => .putIx i q.1 (.e p.1) p.2)
          | _ => none
        | _ => none
      | _ => none
    | .Try b hs els fin _ => chk (els.isEmpty && fin.isEmpty && tc.calm && tc.er.isNone) (match hs with
      | [.ExceptHandler (some (.Name x _)) nm (b0 :: r) _] => chk (globB tc x) ((tc.G.xms.lookup x).bind fun m => (toSs n tc b).bind fun b => match nm with
        | none => (toSs n { tc with calm := false } (b0 :: r)).map fun s => .tryOnly b m s
        | some y => chk (isLoc tc y) ((slotL tc y).bind fun i => (toSs n { tc with calm := false, er := some y } (b0 :: r)).map fun s => .tryAs b i m s))
      | _ => chk (!hs.isEmpty) ((toSs n tc b).bind fun b => (toHs n tc hs).map fun h => .tryMany b h))
    | _ => none
def toHs : Nat → TC → List ExceptHandler → Option HC
  | 0, _, _ => none
  | n + 1, tc, hs => match hs with
    | [] => some .nil
    | .ExceptHandler (some (.Name x _)) none (b0 :: r) _ :: t => chk (globB tc x) ((tc.G.xms.lookup x).bind fun m => (toSs n { tc with calm := false } (b0 :: r)).bind fun s => (toHs n tc t).map fun h => .cons m s h)
    | _ => none
def toSs : Nat → TC → List Stmt → Option SC
  | 0, _, _ => none
  | n + 1, tc, sts => match sts with
    | [] => some .nx
    | st :: r => (toSs n tc r).map fun b => .seq ((toS n tc st).getD .bad) b
/-- what a for statement walks -/
def toK : Nat → TC → Expr → Expr → Option (IC × List Nat)
  | 0, _, _, _ => none
  | n + 1, tc, tg, e => match toI n tc tg e with
    | some r => some r
    | none => if (obB tc e && tc.calm) = true then (toE n tc e).map fun p => (.own tc.G.its (.e p.1), p.2) else (toE n tc e).map fun p => (.of (.e p.1), p.2)
end
end DN
/-! Den22: the codes of expressions are right. -/
namespace DN
open PySem PySem.Spec PyProof.Rows L2
def At (P : Program) (w : World) (K : PySem.W.Frag) (mg : Str → Option Value) (base : Heap) (X : Cx) : Prop := X.prog = P ∧ X.w = w ∧ X.K = K ∧ X.mg = mg ∧ X.base = base
/-- the tables say what the module's names stand for -/
structure Tab (G : Glob) (P : Program) (w : World) (K : PySem.W.Frag) (mg : Str → Option Value) (base : Heap) (C : Call) (k : Nat) : Prop where
  fn : ∀ x n dfs X, At P w K mg base X → G.fns.lookup (x, n) = some dfs → ∃ f, X.mg x = some (.ref f) ∧ FnAt X C k (x, none) f n (dfs.map CK.d)
  mke : ∀ x n dfs X, At P w K mg base X → G.mks.lookup (x, n) = some dfs → (∃ Ca, X.mg x = some (.ref Ca)) ∧ MakeAt X C k x n (dfs.map CK.d)
  mt : ∀ m n tb c dfs X, At P w K mg base X → G.mts.lookup (m, n) = some tb → tb.lookup c = some dfs → MethAt X C k c m n (dfs.map CK.d)
  pr : ∀ m cs c X, At P w K mg base X → G.prs.lookup m = some cs → cs.contains c = true → PropAt X C k c m
  cn : ∀ m tb c q X, At P w K mg base X → G.cns.lookup m = some tb → tb.lookup c = some q → ConAt X c m q.d
  cc : ∀ x f q X, At P w K mg base X → G.ccs.lookup (x, f) = some q → CcAt X x f q.d
  fl : ∀ f cs c X, At P w K mg base X → G.fls.lookup f = some cs → cs.contains c = true → FldOk X c f
  va : ∀ x q X, At P w K mg base X → G.vas.lookup x = some q → ∃ v u, X.mg x = some u ∧ RelV v u ∧ ∀ F, Rp X.K X.mg F v q.d
  fr : ∀ x X, At P w K mg base X → G.frs.contains x = true → X.mg x = none
  er : ∀ c X, At P w K mg base X → G.ers.contains c = true → ErrAt X c
  xi : ∀ x m c b X, At P w K mg base X → G.xis.lookup x = some m → m.lookup c = some b → ∃ Cx', X.mg x = some (.ref Cx') ∧ ∀ D, X.mg c = some (.ref D) → ExcC X.K D ∧ PySem.W.kitOne X.K (.ref D) (.ref Cx') = some b
  st : ∀ x p X, At P w K mg base X → G.sts.lookup x = some p → ∃ f, X.mg x = some (.ref f) ∧ StarAt X C k x f p
  ctn : ∀ c X, At P w K mg base X → G.ctn.contains c = true → MethAt X C k c "__contains__" 1 []
  its : ∀ c F X, At P w K mg base X → G.its.lookup c = some F → IterAt X c F
  xq : ∀ x m X, At P w K mg base X → G.xis.lookup x = some m → ∃ Cx', X.mg x = some (.ref Cx')
  xm : ∀ x m X, At P w K mg base X → G.xms.lookup x = some m → ∃ Ca, X.mg x = some (.ref Ca) ∧ MatchOk X (fun c => m.lookup c) (.ref Ca)
/-- the context of an except suite: the error is what the base says -/
def ErCx (X : Cx) (B : Bas) : Prop := ∃ (X0 : Cx) (a : Addr) (oe : Obj) (cls : Value) (d : Option Addr) (pn : List (Addr × Obj)), X = X0.suite a ((a, oe) :: pn) ∧ B.er = some (a, cls, d) ∧ Zc cls d oe ∧ ∃ vs, oe.data = .fields vs
/-- a context that the translation knows -/
structure Gd (X : Cx) (tc : TC) (W : WX) (B : Bas) (C : Call) (k : Nat) : Prop where
  er : tc.er.isSome = true → ErCx X B
  me0 : tc.ini = false → B.me = none
  top : tc.top = true → ∀ x, X.fn x = true
  oc : ∀ x ∈ tc.oc, X.fn x = true
  hN : X.N = tc.N
  nd : X.N.Nodup
  sc : X.env.scope = tc.sc
  kind : X.env.scope.kind = .function
  calm : tc.calm = true → X.calm = true
  room : tc.calm = true → Room (k + 1) X.A
  un : X.A.units + 65 < cLine
  tk : Takes X W
  ps : PassesOwn (model X.prog X.w) X.A X.env X.xe
  tab : Tab tc.G X.prog X.w X.K X.mg X.base C k
theorem at_self {X : Cx} : At X.prog X.w X.K X.mg X.base X := ⟨rfl, rfl, rfl, rfl, rfl⟩
section
variable {X : Cx} {tc : TC} {W : WX} {C : Call} {k : Nat} {B : Bas} {x : Str} {i : Nat}
theorem and2 {a b : Bool} (h : (a && b) = true) : a = true ∧ b = true := Bool.and_eq_true_iff.mp h
theorem dbg_ok (h : dbg x = true) : (x == ("__debug__" : Str)) = false ∧ (x == ("__classdict__" : Str)) = false := by
  obtain ⟨h1, h2⟩ := and2 h
  exact ⟨by simpa using h1, by simpa using h2⟩
theorem Gd.slot (g : Gd X tc W B C k) (h : slot tc x = some i) : X.N[i]? = some x ∧ Vis X.env.scope x ∧ (x == ("__debug__" : Str)) = false ∧ (x == ("__classdict__" : Str)) = false := by
  obtain ⟨h1, h2⟩ := chk_ok h
  obtain ⟨h3, h4⟩ := and2 h1
  refine ⟨by rw [g.hN]; exact ixOf_ok h2, ?_, dbg_ok h4⟩
  unfold Vis
  rw [g.sc]
  rw [Bool.or_eq_true, Bool.or_eq_true] at h3
  rcases h3 with (h3 | h3) | h3
  · exact .inl (of_decide_eq_true h3)
  · exact .inr (.inl (of_decide_eq_true h3))
  · exact .inr (.inr (of_decide_eq_true h3))
theorem Gd.slotL (g : Gd X tc W B C k) (h : slotL tc x = some i) : X.N[i]? = some x ∧ (L2.Loc X.env.scope x ∧ (X.fn x = true ∨ X.env.scope.names.lookup x = some .local)) ∧ (x == ("__debug__" : Str)) = false ∧ (x == ("__classdict__" : Str)) = false := by
  obtain ⟨h1, h5⟩ := chk_ok h
  obtain ⟨h3, h4⟩ := and2 h1
  obtain ⟨j, h2, h6⟩ := bnd_ok h5
  obtain ⟨h7, h8⟩ := chk_ok h6
  cases h8
  refine ⟨by rw [g.hN]; exact ixOf_ok h2, ?_, dbg_ok h4⟩
  rw [Bool.or_eq_true] at h3
  unfold L2.Loc
  rw [g.sc]
  rcases h3 with h3 | h3
  · exact ⟨.inl (of_decide_eq_true h3), .inr (of_decide_eq_true h3)⟩
  · obtain ⟨h3, h9⟩ := and2 h3
    refine ⟨.inr (of_decide_eq_true h9), .inl ?_⟩
    rw [Bool.or_eq_true] at h3
    rcases h3 with h3 | h3
    · exact g.top h3 _
    · exact g.oc _ (List.contains_iff_mem.mp h3)
/-- a slot that is stored in -/
theorem Gd.ok0 (g : Gd X tc W B C k) (h : DN.slotL tc x = some i) : Ok0 B i := by
  obtain ⟨h1, h5⟩ := chk_ok h
  obtain ⟨j, h2, h6⟩ := bnd_ok h5
  obtain ⟨h7, h8⟩ := chk_ok h6
  cases h8
  cases q : tc.ini with
  | false => exact .inl (g.me0 q)
  | true =>
    rw [q] at h7
    refine .inr fun z => ?_
    rw [decide_eq_true z] at h7
    cases h7
theorem Gd.glob (g : Gd X tc W B C k) (h : globB tc x = true) : Gl X x ∧ (x == ("__debug__" : Str)) = false := by
  obtain ⟨h1, h2⟩ := and2 h
  refine ⟨?_, (dbg_ok h2).1⟩
  show X.env.scope.names.lookup x = some .globalImplicit
  rw [g.sc]
  exact of_decide_eq_true h1
theorem ck_ok {c : Const} {q : CK} {pos : Pos} {j : Nat} {fz : List Nat} (h : ckOf c = some q) : PE X (.Constant c j pos) (tD X B C (EC.k q).ev fz W) := by
  cases c <;> first
    | (cases h; done)
    | (cases h; exact r_non)
    | (cases h; exact r_bl)
    | (cases h; exact r_int)
    | (cases h; exact r_str)
theorem r_val {q : CK} {v : V} {u : Value} {pos : Pos} {fz : List Nat} (hg : Gl X x) (hd : (x == ("__debug__" : Str)) = false) (hm : X.mg x = some u) (r : RelV v u) (hr : ∀ F, Rp X.K X.mg F v q.d) : PE X (.Name x pos) (tD X B C (EC.k q).ev fz W) :=
  (pe_glob hg hm r hd).wk fun σ H Q ⟨F, s, rel, h⟩ => h v F H (.refl rel.fh) (hr F)
/-- an operator as it stands -/
theorem bin_ok : ∀ {op : Operator} {o : O2}, opOf op = some o → ∃ r, OpR X (binaryOp op) r ∧ Op2 X r o.f
  | .Add, _, h => by cases h; exact ⟨_, op_addD, ok_add⟩
  | .Sub, _, h => by cases h; exact ⟨_, op_sub, ok_sub⟩
  | .Mult, _, h => by cases h; exact ⟨_, op_mulD, ok_mul⟩
  | .FloorDiv, _, h => by cases h; exact ⟨_, op_fdiv, ok_fdiv⟩
  | .Mod, _, h => by cases h; exact ⟨_, op_mod, ok_mod⟩
  | .Pow, _, h => by cases h; exact ⟨_, op_pow, ok_pow⟩
  | .MatMult, _, h => by cases h
  | .Div, _, h => by cases h
  | .LShift, _, h => by cases h
  | .RShift, _, h => by cases h
  | .BitOr, _, h => by cases h
  | .BitXor, _, h => by cases h
  | .BitAnd, _, h => by cases h
theorem cmp_ok (hu : X.A.units + 65 < cLine) : ∀ {op : CmpOp} {o : O2}, cmOf op = some o → ∃ r, OpR X (compareOp op) r ∧ Op2 X r o.f
  | .Eq, _, h => by cases h; exact ⟨_, op_eqD (by omega), ok_eq⟩
  | .NotEq, _, h => by cases h; exact ⟨_, op_neD (by omega), ok_ne⟩
  | .Lt, _, h => by cases h; exact ⟨_, op_lt, ok_ints⟩
  | .LtE, _, h => by cases h; exact ⟨_, op_le, ok_ints⟩
  | .Gt, _, h => by cases h; exact ⟨_, op_gt, ok_ints⟩
  | .GtE, _, h => by cases h; exact ⟨_, op_ge, ok_ints⟩
  | .Is, _, h => by cases h; exact ⟨_, op_isN, ok_isN⟩
  | .IsNot, _, h => by cases h; exact ⟨_, op_notN, ok_notN⟩
  | .In, _, h => by cases h; exact ⟨_, op_inDD hu, ok_in⟩
  | .NotIn, _, h => by cases h; exact ⟨_, op_notInDD hu, ok_notIn⟩
end
/-! ### lengths -/
def AC.len : AC → Nat
  | .nil => 0
  | .cons _ a => a.len + 1
theorem AC.evlen : ∀ (a : AC) {C : Call} {s : SE} {ds : List D}, a.ev C s = .ok ds → ds.length = a.len
  | .nil, C, s, ds, h => by
    have h : R.ok (α := List D) [] = .ok ds := h
    cases h
    rfl
  | .cons l a, C, s, ds, h => by
    have h : (l.ev C s).bind (fun d => (a.ev C s).bind fun ds => R.ok (d :: ds)) = .ok ds := h
    cases k : l.ev C s with
    | ex c fs => simp only [k, R.bind] at h; cases h
    | bad => simp only [k, R.bind] at h; cases h
    | ok d =>
      simp only [k, R.bind] at h
      cases k2 : a.ev C s with
      | ex c fs => simp only [k2] at h; cases h
      | bad => simp only [k2] at h; cases h
      | ok es =>
        simp only [k2] at h
        cases h
        rw [List.length_cons, AC.evlen a k2]
        rfl
end DN
/-! Den23: the codes of expressions are right: the steps. -/
namespace DN
open PySem PySem.Spec PyProof.Rows L2
theorem not_ok {b : Bool} (h : (!b) = true) : b = false := by
  cases b <;> first | rfl | cases h
theorem in_ok {tc : TC} {op : CmpOp} {b : Expr} {neg : Bool} (h : inOf tc op b = some neg) : tc.calm = true ∧ op = if neg = true then .NotIn else .In := by
  unfold inOf at h
  by_cases c : (obB tc b && tc.calm) = true
  · rw [if_pos c] at h
    refine ⟨(and2 c).2, ?_⟩
    cases op <;> first
      | (cases h; done)
      | (cases h; rfl)
  · rw [if_neg c] at h
    cases h
structure Snd (n : Nat) : Prop where
  E : ∀ {X : Cx} {tc : TC} {W : WX} {C : Call} {k : Nat} {B : Bas} {e : Expr} {c : EC} {fz : List Nat}, Gd X tc W B C k → toE n tc e = some (c, fz) → PE X e (tD X B C c.ev fz W)
  L : ∀ {X : Cx} {tc : TC} {W : WX} {C : Call} {k : Nat} {B : Bas} {e : Expr} {c : LC} {fz : List Nat}, Gd X tc W B C k → toL n tc e = some (c, fz) → PE X e (tP X B C c.ev fz W)
  A : ∀ {X : Cx} {tc : TC} {W : WX} {C : Call} {k : Nat} {B : Bas} {es : List Expr} {c : AC} {fz : List Nat}, Gd X tc W B C k → toA n tc es = some (c, fz) → PA X es (tA X B C c.ev fz W)
  Q : ∀ {X : Cx} {tc : TC} {W : WX} {C : Call} {k : Nat} {B : Bas} {es : List Expr} {c : AC} {fz : List Nat}, Gd X tc W B C k → toQ n tc es = some (c, fz) → PA X es (tQ X B C c.ev fz W)
  O : ∀ {X : Cx} {tc : TC} {W : WX} {C : Call} {k : Nat} {B : Bas} {e : Option Expr} {c : OC}, Gd X tc W B C k → toO n tc e = some c → PO X e (tO' X B C c.ev W)
  V : ∀ {X : Cx} {tc : TC} {W : WX} {C : Call} {k : Nat} {B : Bas} {e : Expr} {c : BC}, Gd X tc W B C k → toV n tc e = some c → PE X e (tV X B C c.ev W)
  T : ∀ {X : Cx} {tc : TC} {W : WX} {C : Call} {k : Nat} {B : Bas} {e : Expr} {c : BC}, Gd X tc W B C k → toB n tc e = some c → PT X e (DN.tB X B C c.ev W)
  W' : ∀ {X : Cx} {tc : TC} {W : WX} {C : Call} {k : Nat} {B : Bas} {e : Expr} {c : BC}, Gd X tc W B C k → toW n tc e = some c → PW X e (DN.tB X B C c.ev W)
  F : ∀ {X : Cx} {tc : TC} {C : Call} {k : Nat} {B : Bas} {es : List Expr} {c : BC}, Gd X tc WN B.bk C k → toIfs n tc es = some c → PTs X es (DN.tB X B.bk C c.ev WN)
  J : ∀ {X : Cx} {tc : TC} {W : WX} {C : Call} {k : Nat} {B : Bas} {tg e : Expr} {c : IC} {fz : List Nat}, Gd X tc W B C k → toJ n tc tg e = some (c, fz) → PI X tg e (tJ X B C c.ev fz W)
  K1 : ∀ {X : Cx} {tc : TC} {W : WX} {C : Call} {k : Nat} {B : Bas} {tg e : Expr} {c : IC} {fz : List Nat}, Gd X tc W B C k → toK1 n tc tg e = some (c, fz) → PI X tg e (tI X B C c.ev fz W)
  I : ∀ {X : Cx} {tc : TC} {W : WX} {C : Call} {k : Nat} {B : Bas} {tg e : Expr} {c : IC} {fz : List Nat}, Gd X tc W B C k → toI n tc tg e = some (c, fz) → PI X tg e (tI X B C c.ev fz W)
theorem alen : ∀ {n : Nat} {tc : TC} {es : List Expr} {c : AC} {fz : List Nat}, toA n tc es = some (c, fz) → c.len = es.length
  | 0, _, _, _, _, h => by cases h
  | n + 1, tc, [], c, fz, h => by
    have h : some (AC.nil, ([] : List Nat)) = some (c, fz) := h
    cases h
    rfl
  | n + 1, tc, e :: r, c, fz, h => by
    obtain ⟨_, h⟩ := chk_ok h
    obtain ⟨p, _, h⟩ := bnd_ok h
    obtain ⟨q, hq, e1⟩ := Option.map_eq_some_iff.mp h
    cases e1
    show q.1.len + 1 = r.length + 1
    rw [alen hq]
theorem qlen : ∀ {n : Nat} {tc : TC} {es : List Expr} {c : AC} {fz : List Nat}, toQ n tc es = some (c, fz) → c.len = es.length
  | 0, _, _, _, _, h => by cases h
  | n + 1, tc, [], c, fz, h => by
    have h : some (AC.nil, ([] : List Nat)) = some (c, fz) := h
    cases h
    rfl
  | n + 1, tc, e :: r, c, fz, h => by
    obtain ⟨_, h⟩ := chk_ok h
    obtain ⟨p, _, h⟩ := bnd_ok h
    obtain ⟨q, hq, e1⟩ := Option.map_eq_some_iff.mp h
    cases e1
    show q.1.len + 1 = r.length + 1
    rw [qlen hq]
section
variable {n : Nat} (S : Snd n) {X : Cx} {tc : TC} {W : WX} {C : Call} {k : Nat} {B : Bas} {e : Expr} {es : List Expr} {fz : List Nat}
include S
theorem st_A {c : AC} (g : Gd X tc W B C k) (h : toA (n + 1) tc es = some (c, fz)) : PA X es (tA X B C c.ev fz W) := by
  cases es with
  | nil =>
    have h : some (AC.nil, ([] : List Nat)) = some (c, fz) := h
    cases h
    exact r_nil
  | cons e r =>
    obtain ⟨h1, h⟩ := chk_ok h
    obtain ⟨p, hp, h⟩ := bnd_ok h
    obtain ⟨q, hq, e1⟩ := Option.map_eq_some_iff.mp h
    cases e1
    exact r_cons (pe_F (S.E g hp)) (S.A g hq) h1
theorem st_Q {c : AC} (g : Gd X tc W B C k) (h : toQ (n + 1) tc es = some (c, fz)) : PA X es (tQ X B C c.ev fz W) := by
  cases es with
  | nil =>
    have h : some (AC.nil, ([] : List Nat)) = some (c, fz) := h
    cases h
    exact q_nil
  | cons e r =>
    obtain ⟨h1, h⟩ := chk_ok h
    obtain ⟨p, hp, h⟩ := bnd_ok h
    obtain ⟨q, hq, e1⟩ := Option.map_eq_some_iff.mp h
    cases e1
    exact q_cons (S.L g hp) (S.Q g hq) h1
theorem st_O {o : Option Expr} {c : OC} (g : Gd X tc W B C k) (h : toO (n + 1) tc o = some c) : PO X o (tO' X B C c.ev W) := by
  cases o with
  | none =>
    have h : some OC.none = some c := h
    cases h
    exact o_none
  | some e =>
    obtain ⟨p, hp, e1⟩ := Option.map_eq_some_iff.mp h
    cases e1
    exact o_some (S.L g hp)
theorem st_Le {c : LC} (g : Gd X tc W B C k) (h : ((toE n tc e).map fun p => (LC.e p.1, p.2)) = some (c, fz)) : PE X e (tP X B C c.ev fz W) := by
  obtain ⟨p, hp, e1⟩ := Option.map_eq_some_iff.mp h
  cases e1
  exact pe_P (S.E g hp)
theorem st_L {c : LC} (g : Gd X tc W B C k) (h : toL (n + 1) tc e = some (c, fz)) : PE X e (tP X B C c.ev fz W) := by
  cases e <;> first
    | exact st_Le S g h
    | skip
  rename_i x pos
  have h : (match slot tc x with
      | some i => some (LC.v i, [])
      | none => (toE n tc (.Name x pos)).map fun p => (LC.e p.1, p.2)) = some (c, fz) := h
  cases q : slot tc x with
  | none => rw [q] at h; exact st_Le S g h
  | some i =>
    rw [q] at h
    cases h
    obtain ⟨h1, h2, h3, h4⟩ := g.slot q
    exact r_peek h1 h2 h3 h4
theorem st_Ve {c : BC} (g : Gd X tc W B C k) (h : ((toE n tc e).map fun p => BC.e p.1) = some c) : PE X e (tV X B C c.ev W) := by
  obtain ⟨p, hp, e1⟩ := Option.map_eq_some_iff.mp h
  cases e1
  exact v_of (S.E g hp)
theorem st_V {c : BC} (g : Gd X tc W B C k) (h : toV (n + 1) tc e = some c) : PE X e (tV X B C c.ev W) := by
  cases e <;> first
    | exact st_Ve S g h
    | skip
  · rename_i op es pos
    cases es with
    | nil => cases h
    | cons a r =>
      cases r with
      | nil => exact pe_one (S.V g h)
      | cons b r =>
        obtain ⟨x, hx, h⟩ := bnd_ok h
        obtain ⟨y, hy, e1⟩ := Option.map_eq_some_iff.mp h
        cases op with
        | And => cases e1; exact v_and (S.V g hx) (S.V g hy)
        | Or => cases e1; exact v_or (S.V g hx) (S.V g hy)
  · rename_i op a pos
    cases op <;> first
      | exact st_Ve S g h
      | skip
    obtain ⟨x, hx, e1⟩ := Option.map_eq_some_iff.mp h
    cases e1
    exact v_not (S.V g hx)
theorem st_W {c : BC} (g : Gd X tc W B C k) (h : toW (n + 1) tc e = some c) : PW X e (DN.tB X B C c.ev W) := by
  cases e <;> first
    | (cases h; done)
    | skip
  rename_i op es pos
  cases es with
  | nil => cases h
  | cons a r =>
    cases r with
    | nil =>
      cases op with
      | And => exact pw_and1 (S.T g h)
      | Or => exact pw_or1 (S.T g h)
    | cons b r =>
      obtain ⟨x, hx, h⟩ := bnd_ok h
      obtain ⟨y, hy, e1⟩ := Option.map_eq_some_iff.mp h
      cases op with
      | And => cases e1; exact w_and (S.T g hx) (S.W' g hy)
      | Or => cases e1; exact w_or (S.T g hx) (S.W' g hy)
theorem st_Tl {c : BC} (g : Gd X tc W B C k) (h : chk (plainT e) ((toL n tc e).map fun p => BC.tr p.1) = some c) : PT X e (DN.tB X B C c.ev W) := by
  obtain ⟨h1, h⟩ := chk_ok h
  obtain ⟨p, hp, e1⟩ := Option.map_eq_some_iff.mp h
  cases e1
  exact t_truth (S.L g hp) h1
theorem st_T {c : BC} (g : Gd X tc W B C k) (h : toB (n + 1) tc e = some c) : PT X e (DN.tB X B C c.ev W) := by
  cases e <;> first
    | exact st_Tl S g h
    | skip
  · exact (S.W' g h).pt
  · rename_i op a pos
    cases op <;> first
      | exact st_Tl S g h
      | skip
    obtain ⟨x, hx, e1⟩ := Option.map_eq_some_iff.mp h
    cases e1
    exact t_not (S.T g hx)
  · rename_i a ops bs pos
    match ops, bs, h with
    | [op], [b], h =>
      have h0 : (match inOf tc op b with
        | some neg => chk (!behindInMarks op b) ((toL n tc a).bind fun p => (toE n tc b).map fun q => BC.e (.inO neg tc.G.ctn p.1 (.e q.1)))
        | none => (cmOf op).bind fun o => chk (!behindInMarks op b) ((toL n tc a).bind fun p => (toL n tc b).map fun q => BC.e (.o2 o p.1 q.1))) = some c := h
      clear h
      cases hin : inOf tc op b with
      | some neg =>
        rw [hin] at h0
        obtain ⟨hm, h⟩ := chk_ok h0
        obtain ⟨p, hp, h⟩ := bnd_ok h
        obtain ⟨q, hq, e1⟩ := Option.map_eq_some_iff.mp h
        cases e1
        obtain ⟨hcalm, rfl⟩ := in_ok hin
        exact t_inO g.un ((g.room hcalm).mono (Nat.le_succ k)) (fun c hc => g.tab.ctn c X at_self hc) (S.L g hp) (pe_F (S.E g hq)) (not_ok hm)
      | none =>
      rw [hin] at h0
      obtain ⟨o, ho, h⟩ := bnd_ok h0
      obtain ⟨hm, h⟩ := chk_ok h
      obtain ⟨p, hp, h⟩ := bnd_ok h
      obtain ⟨q, hq, e1⟩ := Option.map_eq_some_iff.mp h
      cases e1
      obtain ⟨r, h1, h2⟩ := cmp_ok g.un ho
      exact t_cmp h1 h2 (S.L g hp) (S.L g hq) (not_ok hm)
    | [op, op'], [b, c'], h =>
      obtain ⟨o, ho, h⟩ := bnd_ok h
      obtain ⟨o', ho', h⟩ := bnd_ok h
      obtain ⟨hm, h⟩ := chk_ok h
      obtain ⟨p, hp, h⟩ := bnd_ok h
      obtain ⟨q, hq, h⟩ := bnd_ok h
      obtain ⟨t, ht, e1⟩ := Option.map_eq_some_iff.mp h
      cases e1
      obtain ⟨r, h1, h2⟩ := cmp_ok g.un ho
      obtain ⟨r', h1', h2'⟩ := cmp_ok g.un ho'
      exact t_chain h1 h1' h2 h2' (S.L g hp) (S.L g hq) (S.L g ht) (not_ok hm)
    | [], _, h => cases h
    | _ :: _, [], h =>
      rename_i z
      cases z with
      | nil => cases h
      | cons y z => cases z <;> cases h
end
end DN
/-! Den24: the codes of expressions are right: blocks, walks, all. -/
namespace DN
open PySem PySem.Spec PyProof.Rows L2
theorem takes0 {X : Cx} : Takes X WN := fun _ _ ⟨_, _, _, _, _, _, _, _, _, _, _, _, _, _, _, _, w⟩ => w.elim
section
variable {X : Cx} {tc : TC} {W : WX} {C : Call} {k : Nat} {B : Bas}
theorem ixOf_some {N : List Str} {x : Str} (h : (ixOf N x).isSome = true) : ∃ i, ixOf N x = some i := Option.isSome_iff_exists.mp h
theorem blk_ok (g : Gd X tc W B C k) {scope : Scope} (h : blkB tc scope = true) : BlkOk X.N X.env.scope scope (ownOf tc scope) := by
  obtain ⟨h, h3⟩ := and2 h
  obtain ⟨h1, h2⟩ := and2 h
  refine ⟨of_decide_eq_true h1, fun y hy => of_decide_eq_true (List.all_eq_true.mp h2 y hy), fun p hp => ?_, fun y hy e => ?_, fun y hy e => ?_⟩
  · obtain ⟨q, hq, e⟩ := List.mem_filterMap.mp hp
    by_cases c : (decide (q.2 = .local) || decide (q.2 = .cell)) = true
    · rw [if_pos c] at e
      obtain ⟨i, hi, e2⟩ := Option.map_eq_some_iff.mp e
      cases e2
      rw [g.hN]
      exact ixOf_ok hi
    · rw [if_neg c] at e
      cases e
  · have := List.all_eq_true.mp h3 y hy
    rw [decide_eq_true e] at this
    rw [g.sc]
    rw [Bool.or_eq_true, Bool.or_eq_true] at this
    rcases this with (z | z) | z
    · cases z
    · exact .inl (of_decide_eq_true z)
    · exact .inr (of_decide_eq_true z)
  · have c : (decide (y.2 = .local) || decide (y.2 = .cell)) = true := by
      rcases e with e | e
      · rw [decide_eq_true e]; rfl
      · rw [decide_eq_true e, Bool.or_true]
    cases q : ixOf tc.N y.1 with
    | none =>
      refine .inr ?_
      rw [g.hN]
      exact ixOf_none q
    | some i =>
      refine .inl (List.mem_map.mpr ⟨(y.1, i), List.mem_filterMap.mpr ⟨y, hy, ?_⟩, rfl⟩)
      rw [if_pos c, q]
      rfl
theorem oc_blk {scope : Scope} {x : Str} (h : x ∈ (scope.names.filter fun p => decide (scope.names.lookup p.1 = some .cell)).map (·.1)) : (scope.names.lookup x == some .cell) = true := by
  obtain ⟨p, hp, e⟩ := List.mem_map.mp h
  subst e
  exact beq_iff_eq.mpr (of_decide_eq_true (List.mem_filter.mp hp).2)
theorem Gd.blk (g : Gd X tc W B C k) {scope : Scope} (h : blkB tc scope = true) (s : Shared) (H : Hp) (L : Addr) (cl : List (Str × Addr)) (fp : List Addr) : Gd (X.blk s H scope (compEnvC scope cl L X.env) fp) (relT tc scope) WN B.bk C k := by
  refine ⟨fun z => (nomatch z), fun _ => rfl, fun z => (nomatch z), fun _ z => oc_blk z, g.hN, g.nd, ?_, ?_, g.calm, g.room, g.un, takes0, PassesOwn.never, g.tab⟩
  · show relS scope X.env.scope = relS scope tc.sc
    rw [g.sc]
  · obtain ⟨h, _⟩ := and2 h
    obtain ⟨h, _⟩ := and2 h
    exact of_decide_eq_true h
theorem fold_ok {e : Expr} {env : Env} (h : notSet e = true) (x : Value) : foldedSetIterable e env x = pure x := by
  cases e <;> first
    | rfl
    | cases h
/-! ### targets -/
theorem tgF_ok (g : Gd X tc W B C k) (hc : X.calm = true) : ∀ n : Nat, (∀ {e : Expr} {t : Tg}, tgtF n tc e = some t → PG X e (ggOf X.K t) ∧ (∀ i ∈ t.sl, Ok0 B i) ∧ ∀ es, (assignEach (e :: es) X.env) = (false, assign e X.env) :: assignEach es X.env) ∧
    (∀ {es : List Expr} {l : Tgs}, tgsF n tc es = some l → PGs X es (gAll X.K l) ∧ (∀ i ∈ l.sl, Ok0 B i) ∧ (assignEach es X.env).length = l.len ∧ (assignEach es X.env).findIdx? (·.1) = none)
  | 0 => ⟨fun h => (nomatch h), fun h => (nomatch h)⟩
  | n + 1 => by
    obtain ⟨ih1, ih2⟩ := tgF_ok g hc n
    refine ⟨fun {e t} h => ?_, fun {es l} h => ?_⟩
    · cases e <;> first
        | (cases h; done)
        | skip
      · rename_i x pos
        obtain ⟨i, hi, e1⟩ := Option.map_eq_some_iff.mp h
        cases e1
        obtain ⟨h1, h2, h3, h4⟩ := g.slotL hi
        refine ⟨pg_name g.nd h1 h2.1 h2.2, fun j hj => ?_, fun _ => rfl⟩
        rw [List.mem_singleton.mp hj]
        exact g.ok0 hi
      · rename_i es j pos
        obtain ⟨l, hl, e1⟩ := Option.map_eq_some_iff.mp h
        cases e1
        obtain ⟨t1, t0, t2, t3⟩ := ih2 hl
        exact ⟨pg_tup hc t1 t2 t3, t0, fun _ => rfl⟩
    · cases es with
      | nil =>
        have h : some Tgs.nil = some l := h
        cases h
        exact ⟨pgs_nil, fun i hi => absurd hi List.not_mem_nil, rfl, rfl⟩
      | cons e r =>
        obtain ⟨t, ht, h2⟩ := bnd_ok h
        obtain ⟨m, hm, e1⟩ := Option.map_eq_some_iff.mp h2
        cases e1
        obtain ⟨a1, a2, a3⟩ := ih1 ht
        obtain ⟨t1, t0, t2, t3⟩ := ih2 hm
        refine ⟨pgs_cons a1 t1 (by rw [a3]; rfl), fun i hi => ?_, ?_, ?_⟩
        · rcases List.mem_append.mp hi with z | z
          · exact a2 i z
          · exact t0 i z
        · rw [a3, List.length_cons, t2]
          rfl
        · rw [a3, List.findIdx?_cons, t3]
          rfl
theorem tgt_pg (g : Gd X tc W B C k) (hc : X.calm = true) {e : Expr} {t : Tg} (h : tgtOf tc e = some t) : PG X e (ggOf X.K t) := ((tgF_ok g hc 40).1 h).1
theorem tgF_ok0 (g : Gd X tc W B C k) : ∀ n : Nat, (∀ {e : Expr} {t : Tg}, tgtF n tc e = some t → ∀ i ∈ t.sl, Ok0 B i) ∧ (∀ {es : List Expr} {l : Tgs}, tgsF n tc es = some l → ∀ i ∈ l.sl, Ok0 B i)
  | 0 => ⟨fun h => (nomatch h), fun h => (nomatch h)⟩
  | n + 1 => by
    obtain ⟨ih1, ih2⟩ := tgF_ok0 g n
    refine ⟨fun {e t} h => ?_, fun {es l} h => ?_⟩
    · cases e <;> first
        | (cases h; done)
        | skip
      · rename_i x pos
        obtain ⟨i, hi, e1⟩ := Option.map_eq_some_iff.mp h
        cases e1
        intro j hj
        rw [List.mem_singleton.mp hj]
        exact g.ok0 hi
      · rename_i es j pos
        obtain ⟨l, hl, e1⟩ := Option.map_eq_some_iff.mp h
        cases e1
        exact ih2 hl
    · cases es with
      | nil =>
        have h : some Tgs.nil = some l := h
        cases h
        exact fun i hi => absurd hi List.not_mem_nil
      | cons e r =>
        obtain ⟨t, ht, h2⟩ := bnd_ok h
        obtain ⟨m, hm, e1⟩ := Option.map_eq_some_iff.mp h2
        cases e1
        intro i hi
        rcases List.mem_append.mp hi with z | z
        · exact ih1 ht i z
        · exact ih2 hm i z
theorem tgt_tg (g : Gd X tc W B C k) {e : Expr} {t : Tg} (h : tgtOf tc e = some t) : TgOk X B (ggOf X.K t) t := tg_ok t ((tgF_ok0 g 40).1 h)
theorem tgt_tb {vs : List Nat} {t : Tg} (h : tgIn vs t = true) : TgB X vs (ggOf X.K t) t := tgb_ok t fun i hi => List.contains_iff_mem.mp (List.all_eq_true.mp h i hi)
end
section
variable {n : Nat} (S : Snd n) {X : Cx} {tc : TC} {W : WX} {C : Call} {k : Nat} {B : Bas} {e tg : Expr} {es : List Expr} {fz : List Nat}
include S
theorem st_F {c : BC} (g : Gd X tc WN B.bk C k) (h : toIfs (n + 1) tc es = some c) : PTs X es (DN.tB X B.bk C c.ev WN) := by
  match es, h with
  | [], h =>
    have h : some BC.yes = some c := h
    cases h
    exact ts_nil
  | [e], h => exact ts_one (S.T g h)
  | _ :: _ :: _, h => cases h
theorem frs_ok {x : Str} (g : Gd X tc W B C k) (h : frB tc x = true) : Gl X x ∧ X.mg x = none := by
  obtain ⟨h1, h2⟩ := and2 h
  exact ⟨(g.glob h1).1, g.tab.fr x X at_self h2⟩
theorem st_I {c : IC} (g : Gd X tc W B C k) (h : toI (n + 1) tc tg e = some (c, fz)) : PI X tg e (tI X B C c.ev fz W) := by
  cases e <;> first
    | (cases h; done)
    | skip
  rename_i f es kws pos
  cases f <;> first
    | (cases h; done)
    | skip
  rename_i x p
  obtain ⟨h1, h'⟩ := chk_ok h
  clear h
  revert h'
  intro h
  obtain ⟨h3, hst⟩ := and2 h1
  obtain ⟨hx, hk⟩ := and2 h3
  clear h1 h3
  have hk2 : kws = [] := List.isEmpty_iff.mp hk
  clear hk
  subst hk2
  by_cases e1 : x = "range"
  · subst e1
    rw [if_pos rfl] at h
    obtain ⟨a1, a2⟩ := frs_ok S g hx
    match es, h, hst with
    | [a], h, hst =>
      obtain ⟨p, hp, e2⟩ := Option.map_eq_some_iff.mp h
      cases e2
      exact i_range1 a1 a2 (S.Q g hp) (fun s ds z => by rw [AC.evlen _ z, qlen hp]; rfl) (List.all_eq_true.mp hst a List.mem_cons_self)
    | [a, b], h, hst =>
      obtain ⟨p, hp, e2⟩ := Option.map_eq_some_iff.mp h
      cases e2
      exact i_range2 a1 a2 (S.Q g hp) (fun s ds z => by rw [AC.evlen _ z, qlen hp]; rfl) (List.all_eq_true.mp hst a List.mem_cons_self) (List.all_eq_true.mp hst b (List.mem_cons_of_mem _ List.mem_cons_self))
    | [a, b, c], h, hst =>
      obtain ⟨p, hp, e2⟩ := Option.map_eq_some_iff.mp h
      cases e2
      exact i_range3 a1 a2 (S.Q g hp) (fun s ds z => by rw [AC.evlen _ z, qlen hp]; rfl) (List.all_eq_true.mp hst a List.mem_cons_self) (List.all_eq_true.mp hst b (List.mem_cons_of_mem _ List.mem_cons_self)) (List.all_eq_true.mp hst c (List.mem_cons_of_mem _ (List.mem_cons_of_mem _ List.mem_cons_self)))
    | [], h, hst => cases h
    | _ :: _ :: _ :: _ :: _, h, hst => cases h
  · rw [if_neg e1] at h
    by_cases e1 : x = "reversed"
    · subst e1
      rw [if_pos rfl] at h
      obtain ⟨a1, a2⟩ := frs_ok S g hx
      match es, h, hst with
      | [a], h, hst =>
        obtain ⟨p, hp, e2⟩ := Option.map_eq_some_iff.mp h
        cases e2
        exact i_rev a1 a2 (pe_F (S.E g hp)) (List.all_eq_true.mp hst a List.mem_cons_self)
      | [], h, hst => cases h
      | _ :: _ :: _, h, hst => cases h
    · rw [if_neg e1] at h
      by_cases e1 : x = "enumerate"
      · subst e1
        rw [if_pos rfl] at h
        obtain ⟨a1, a2⟩ := frs_ok S g hx
        match es, tg, h, hst with
        | [a], .Tuple _ _ _, h, hst =>
          obtain ⟨p, hp, e2⟩ := Option.map_eq_some_iff.mp h
          cases e2
          exact i_enumL a1 a2 (S.A g hp) (fun s ds z => by rw [AC.evlen _ z, alen hp]; rfl) (List.all_eq_true.mp hst a List.mem_cons_self)
      · rw [if_neg e1] at h
        by_cases e1 : x = "zip"
        · subst e1
          rw [if_pos rfl] at h
          obtain ⟨a1, a2⟩ := frs_ok S g hx
          match es, tg, h, hst with
          | [a, b], .Tuple _ _ _, h, hst =>
            obtain ⟨p, hp, e2⟩ := Option.map_eq_some_iff.mp h
            cases e2
            exact i_zip a1 a2 (S.A g hp) (fun s ds z => by rw [AC.evlen _ z, alen hp]; rfl) (List.all_eq_true.mp hst a List.mem_cons_self) (List.all_eq_true.mp hst b (List.mem_cons_of_mem _ List.mem_cons_self))
        · rw [if_neg e1] at h
          cases h
theorem st_Jl {c : IC} (g : Gd X tc W B C k) (h : ((toL n tc e).map fun p => (IC.of p.1, p.2)) = some (c, fz)) : PI X tg e (tJ X B C c.ev fz W) := by
  obtain ⟨p, hp, e2⟩ := Option.map_eq_some_iff.mp h
  cases e2
  exact j_of (S.L g hp)
theorem st_K1 {c : IC} (g : Gd X tc W B C k) (h : toK1 (n + 1) tc tg e = some (c, fz)) : PI X tg e (tI X B C c.ev fz W) := by
  have h2 : (match toI n tc tg e with
    | some r => some r
    | none => (toE n tc e).map fun p => (IC.of (.e p.1), p.2)) = some (c, fz) := h
  clear h
  cases q : toI n tc tg e with
  | some r =>
    rw [q] at h2
    cases h2
    exact S.I g q
  | none =>
    rw [q] at h2
    obtain ⟨p, hp, e1⟩ := Option.map_eq_some_iff.mp h2
    cases e1
    exact i_of (pe_F (S.E g hp))
theorem st_own {c : IC} (g : Gd X tc W B C k) (hc : tc.calm = true) (h : ((toE n tc e).map fun p => (IC.own tc.G.its (.e p.1), p.2)) = some (c, fz)) : PI X tg e (tI X B C c.ev fz W) := by
  obtain ⟨p, hp, e1⟩ := Option.map_eq_some_iff.mp h
  cases e1
  exact i_own (fun c F hF => g.tab.its c F X at_self hF) (g.room hc) g.tk (pe_F (S.E g hp))
theorem st_J2 {c : IC} (g : Gd X tc W B C k) (h : (if (obB tc e && tc.calm) = true then (toE n tc e).map fun p => (IC.own tc.G.its (.e p.1), p.2) else (toL n tc e).map fun p => (IC.of p.1, p.2)) = some (c, fz)) : PI X tg e (tJ X B C c.ev fz W) := by
  by_cases hc : (obB tc e && tc.calm) = true
  · rw [if_pos hc] at h
    exact tI_J (st_own S g (and2 hc).2 h)
  · rw [if_neg hc] at h
    exact st_Jl S g h
theorem st_J {c : IC} (g : Gd X tc W B C k) (h : toJ (n + 1) tc tg e = some (c, fz)) : PI X tg e (tJ X B C c.ev fz W) := by
  cases e <;> first
    | exact st_J2 S g h
    | skip
  rename_i f es kws pos
  have h : (match toI n tc tg (.Call f es kws pos) with
      | some r => some r
      | none => (toL n tc (.Call f es kws pos)).map fun p => (IC.of p.1, p.2)) = some (c, fz) := h
  cases q : toI n tc tg (.Call f es kws pos) with
  | none => rw [q] at h; exact st_Jl S g h
  | some r =>
    rw [q] at h
    cases h
    exact tI_J (S.I g q)
end
end DN
/-! Den25: the codes of expressions are right: the whole. -/
namespace DN
open PySem PySem.Spec PyProof.Rows L2
theorem bi_ok {x : Str} {calm : Bool} {m : Nat} {b : BI} (h : biOf x calm m = some b) : (x = "len" ∧ m = 1 ∧ b = .len) ∨ (x = "int" ∧ m = 1 ∧ b = .int) ∨ (x = "abs" ∧ m = 1 ∧ b = .abs) ∨ (x = "max" ∧ m = 2 ∧ b = .max ∧ calm = true) ∨ (x = "min" ∧ m = 2 ∧ b = .min ∧ calm = true) ∨
    (x = "list" ∧ m = 1 ∧ b = .list ∧ calm = true) ∨ (x = "tuple" ∧ m = 1 ∧ b = .tuple) ∨ (x = "sum" ∧ m = 1 ∧ b = .sum ∧ calm = true) := by
  unfold biOf at h
  by_cases c : x = "len" ∧ m = 1
  · rw [if_pos c] at h; cases h; exact .inl ⟨c.1, c.2, rfl⟩
  rw [if_neg c] at h
  by_cases c : x = "int" ∧ m = 1
  · rw [if_pos c] at h; cases h; exact .inr (.inl ⟨c.1, c.2, rfl⟩)
  rw [if_neg c] at h
  by_cases c : x = "abs" ∧ m = 1
  · rw [if_pos c] at h; cases h; exact .inr (.inr (.inl ⟨c.1, c.2, rfl⟩))
  rw [if_neg c] at h
  by_cases c : x = "max" ∧ m = 2
  · rw [if_pos c] at h; obtain ⟨h1, h2⟩ := chk_ok h; cases h2; exact .inr (.inr (.inr (.inl ⟨c.1, c.2, rfl, h1⟩)))
  rw [if_neg c] at h
  by_cases c : x = "min" ∧ m = 2
  · rw [if_pos c] at h; obtain ⟨h1, h2⟩ := chk_ok h; cases h2; exact .inr (.inr (.inr (.inr (.inl ⟨c.1, c.2, rfl, h1⟩))))
  rw [if_neg c] at h
  by_cases c : x = "list" ∧ m = 1
  · rw [if_pos c] at h; obtain ⟨h1, h2⟩ := chk_ok h; cases h2; exact .inr (.inr (.inr (.inr (.inr (.inl ⟨c.1, c.2, rfl, h1⟩)))))
  rw [if_neg c] at h
  by_cases c : x = "tuple" ∧ m = 1
  · rw [if_pos c] at h; cases h; exact .inr (.inr (.inr (.inr (.inr (.inr (.inl ⟨c.1, c.2, rfl⟩))))))
  rw [if_neg c] at h
  by_cases c : x = "sum" ∧ m = 1
  · rw [if_pos c] at h; obtain ⟨h1, h2⟩ := chk_ok h; cases h2; exact .inr (.inr (.inr (.inr (.inr (.inr (.inr ⟨c.1, c.2, rfl, h1⟩))))))
  rw [if_neg c] at h
  cases h
theorem boot_abs' : bootBuiltins "abs" = some (.builtin "abs") := by decide +kernel
section
variable {X : Cx} {B : Bas} {C : Call} {W : WX} {a : Expr} {r : List Expr} {fz : List Nat} {p pos : Pos}
theorem r_bi {x : Str} {b : BI} {da : AD} (hc : X.calm = true ∨ (b ≠ .max ∧ b ≠ .min ∧ b ≠ .sum ∧ b ≠ .list)) (hb : (x = "len" ∧ b = .len) ∨ (x = "int" ∧ b = .int) ∨ (x = "abs" ∧ b = .abs) ∨ (x = "max" ∧ b = .max) ∨ (x = "min" ∧ b = .min) ∨ (x = "list" ∧ b = .list) ∨ (x = "tuple" ∧ b = .tuple) ∨ (x = "sum" ∧ b = .sum))
    (hg : Gl X x) (hm : X.mg x = none) (hdb : (x == ("__debug__" : Str)) = false) (ha : PA X (a :: r) (tQ X B C da fz W)) (hs : (a :: r).all notStar = true) : PE X (.Call (.Name x p) (a :: r) [] pos) (tD X B C (eA b.f da) fz W) := by
  have hn : x ≠ "__name__" := by
    rcases hb with h | h | h | h | h | h | h | h <;> (rw [h.1]; decide)
  rcases hb with ⟨rfl, rfl⟩ | ⟨rfl, rfl⟩ | ⟨rfl, rfl⟩ | ⟨rfl, rfl⟩ | ⟨rfl, rfl⟩ | ⟨rfl, rfl⟩ | ⟨rfl, rfl⟩ | ⟨rfl, rfl⟩
  · exact r_builtin call_lenD ok_len hg hm boot_len ha hn hdb hs
  · exact r_type call_int1 ok_int hg hm boot_int ha hn hdb hs
  · exact r_builtin call_abs ok_abs hg hm boot_abs' ha hn hdb hs
  · exact r_builtin (call_max2 (hc.resolve_right fun z => z.1 rfl)) ok_max hg hm boot_max ha hn hdb hs
  · exact r_builtin (call_min2 (hc.resolve_right fun z => z.2.1 rfl)) ok_min hg hm boot_min ha hn hdb hs
  · exact r_type (call_list_of.or (cr_listR (hc.resolve_right fun z => z.2.2.2 rfl))) ok_list hg hm boot_list ha hn hdb hs
  · exact r_type call_tuple_of ok_tuple hg hm boot_tuple ha hn hdb hs
  · exact r_builtin (call_sumD (hc.resolve_right fun z => z.2.2.1 rfl)) ok_sum hg hm boot_sum ha hn hdb hs
theorem ok_str : OpA X (fun xs H Q => ∃ i, xs = [.int i] ∧ i.natAbs.log2 < 1920 ∧ Q (.str (toString i)) H) kStr := fun xs vs F H Q s hx h => by
  match xs, h with
  | [.int i], h =>
    obtain ⟨v, rfl, hv⟩ := topL1 hx
    obtain ⟨hl, h⟩ := ans_ite (show Ans X F H Q (if _ then _ else _) from h)
    exact ⟨i, by rw [hv.int], hl, Ans.flat s h rfl⟩
theorem r_bi2 (hu : X.A.units + 65 < cLine) {x : Str} {b : BI} {calm : Bool} {m : Nat} {da : AD} (hb : bi2 x calm m = some b) (hcl : calm = true → X.calm = true) (hm1 : m = (a :: r).length)
    (hg : Gl X x) (hm : X.mg x = none) (hdb : (x == ("__debug__" : Str)) = false) (ha : PA X (a :: r) (tQ X B C da fz W)) (hs : (a :: r).all notStar = true) : PE X (.Call (.Name x p) (a :: r) [] pos) (tD X B C (eA b.f da) fz W) := by
  unfold bi2 at hb
  by_cases c : x = "str" ∧ m = 1
  · rw [if_pos c] at hb
    cases hb
    obtain ⟨rfl, _⟩ := c
    exact r_type call_str_int ok_str hg hm PySem.Pv.boot_str ha (by decide) hdb hs
  rw [if_neg c] at hb
  by_cases c : x = "sorted" ∧ m = 1
  · rw [if_pos c] at hb
    cases hb
    obtain ⟨rfl, _⟩ := c
    exact r_builtin (call_sortD hu) ok_sorted hg hm PyProof.Rows.boot_sorted ha (by decide) hdb hs
  rw [if_neg c] at hb
  by_cases c : x = "any" ∧ m = 1
  · rw [if_pos c] at hb
    obtain ⟨hc, hb⟩ := chk_ok hb
    cases hb
    obtain ⟨rfl, _⟩ := c
    exact r_builtin (cr_any (hcl hc)) ok_any hg hm PyProof.Rows.boot_any ha (by decide) hdb hs
  rw [if_neg c] at hb
  by_cases c : x = "all" ∧ m = 1
  · rw [if_pos c] at hb
    obtain ⟨hc, hb⟩ := chk_ok hb
    cases hb
    obtain ⟨rfl, _⟩ := c
    exact r_builtin (cr_all (hcl hc)) ok_all hg hm PyProof.Rows.boot_all ha (by decide) hdb hs
  rw [if_neg c] at hb
  by_cases c : x = "max" ∧ m = 1
  · rw [if_pos c] at hb
    obtain ⟨hc, hb⟩ := chk_ok hb
    cases hb
    obtain ⟨rfl, _⟩ := c
    exact r_builtin (cr_max (hcl hc)) ok_max1 hg hm boot_max ha (by decide) hdb hs
  rw [if_neg c] at hb
  by_cases c : x = "min" ∧ m = 1
  · rw [if_pos c] at hb
    obtain ⟨hc, hb⟩ := chk_ok hb
    cases hb
    obtain ⟨rfl, _⟩ := c
    exact r_builtin (cr_min (hcl hc)) ok_min1 hg hm boot_min ha (by decide) hdb hs
  rw [if_neg c] at hb
  by_cases c : x = "range" ∧ m = 1
  · rw [if_pos c] at hb
    cases hb
    obtain ⟨rfl, _⟩ := c
    exact r_type cr_range1 ok_rng hg hm boot_range ha (by decide) hdb hs
  rw [if_neg c] at hb
  cases hb
theorem bi2_ne {x : Str} {calm : Bool} {m : Nat} {b : BI} (h : bi2 x calm m = some b) : m ≠ 0 := by
  unfold bi2 at h
  by_cases c : x = "str" ∧ m = 1
  · omega
  rw [if_neg c] at h
  intro hz
  subst hz
  simp at h
end
/-! ### isinstance(e, X) of the error in a suite -/
theorem r_isE {X : Cx} {B : Bas} {C : Call} {W : WX} {fz : List Nat} {p q q2 pos : Pos} {i : Nat} {nm x : Str} {m : Str → Option Bool} {Cv : Addr} (er : ErCx X B) (hN : X.N[i]? = some nm) (hv : Vis X.env.scope nm) (hd : (nm == ("__debug__" : Str)) = false) (hcd : (nm == ("__classdict__" : Str)) = false)
    (hg : Gl X "isinstance") (hm : X.mg "isinstance" = none) (hgx : Gl X x) (hdx : (x == ("__debug__" : Str)) = false) (hmx : X.mg x = some (.ref Cv)) (hk : ∀ c b, m c = some b → ∀ D, X.mg c = some (.ref D) → ExcC X.K D ∧ PySem.W.kitOne X.K (.ref D) (.ref Cv) = some b) :
    PE X (.Call (.Name "isinstance" p) [.Name nm q, .Name x q2] [] pos) (tD X B C (eIsE i m) fz W) := by
  obtain ⟨X0, a, oe, cls, d, pn, rfl, hB, hz, hf⟩ := er
  refine ⟨fun pins s σ H Q I ⟨F, t, rel, h⟩ => ?_⟩
  unfold eIsE at h
  cases k : t[i]? with
  | none => simp only [k] at h
  | some o =>
    cases o with
    | none => simp only [k] at h
    | some sl =>
      cases sl with
      | fr _ => simp only [k] at h
      | ow _ => simp only [k] at h
      | bw y =>
        cases y <;> first
          | (simp only [k] at h; done)
          | skip
        rename_i c fs
        cases fs with
        | cons _ _ => simp only [k] at h
        | nil =>
          simp only [k] at h
          cases k2 : m c with
          | none => simp only [k2] at h
          | some b =>
            simp only [k2] at h
            obtain ⟨v, ev, a', cls', dd', e1, e2, Ca, e3, e4, e5⟩ := rel.slot i _ k
            rw [hB] at e1
            cases e1
            subst e2 e4
            rcases e5 with ⟨_, e5⟩ | ⟨_, _, _, e6, _⟩
            · subst e5
              obtain ⟨hC, hK⟩ := hk c b k2 Ca e3
              refine (pe_callB (call_isE hC hz hf) hg hm boot_isi (pa_cons (pe_var hN hv hd hcd) (pa_cons (pe_glob hgx hmx (v := .ref Cv) rfl hdx) pa_nil rfl) rfl) (by decide) (by decide) rfl rfl).run pins s σ H Q I ?_
              exact ⟨.ref a, ev, .ref Cv, .ref Cv, b, rfl, fun u r => r, hK, h _ F H (.refl rel.fh) rfl⟩
            · exact absurd rfl e6
section
variable {n : Nat} (S : Snd n) {X : Cx} {tc : TC} {W : WX} {C : Call} {k : Nat} {B : Bas} {e : Expr} {fz : List Nat} {pos : Pos}
include S
theorem se_name {x : Str} {c : EC} (g : Gd X tc W B C k) (h : toE (n + 1) tc (.Name x pos) = some (c, fz)) : PE X (.Name x pos) (tD X B C c.ev fz W) := by
  have h2 : (match slot tc x with
      | some i => some (EC.v i, [i])
      | none => chk (globB tc x) ((tc.G.vas.lookup x).map fun k => (EC.k k, []))) = some (c, fz) := h
  clear h
  cases q : slot tc x with
  | some i =>
    rw [q] at h2
    cases h2
    obtain ⟨h1, h2, h3, h4⟩ := g.slot q
    exact r_var h1 h2 h3 h4
  | none =>
    rw [q] at h2
    obtain ⟨h3, h4⟩ := chk_ok h2
    obtain ⟨v, hv, e1⟩ := Option.map_eq_some_iff.mp h4
    cases e1
    obtain ⟨w, u, hm, hr, hR⟩ := g.tab.va x v X at_self hv
    exact r_val (g.glob h3).1 (g.glob h3).2 hm hr hR
theorem se_tup {es : List Expr} {j : Nat} {c : EC} (g : Gd X tc W B C k) (h : toE (n + 1) tc (.Tuple es j pos) = some (c, fz)) : PE X (.Tuple es j pos) (tD X B C c.ev fz W) := by
  obtain ⟨h1, h2⟩ := chk_ok h
  obtain ⟨v, hv, e1⟩ := Option.map_eq_some_iff.mp h2
  cases e1
  exact r_tup (S.A g hv) (of_decide_eq_true h1) fun s ds z => by
    rw [AC.evlen _ z, alen hv]
    exact of_decide_eq_true h1
theorem se_lst {es : List Expr} {c : EC} (g : Gd X tc W B C k) (h : toE (n + 1) tc (.List es pos) = some (c, fz)) : PE X (.List es pos) (tD X B C c.ev fz W) := by
  obtain ⟨h1, h2⟩ := chk_ok h
  obtain ⟨v, hv, e1⟩ := Option.map_eq_some_iff.mp h2
  cases e1
  exact r_lst (S.A g hv) fun s ds z => by
    rw [AC.evlen _ z, alen hv]
    exact of_decide_eq_true h1
theorem se_bin {a b : Expr} {op : Operator} {c : EC} (g : Gd X tc W B C k) (h : toE (n + 1) tc (.BinOp a op b pos) = some (c, fz)) : PE X (.BinOp a op b pos) (tD X B C c.ev fz W) := by
  obtain ⟨o, ho, h2⟩ := bnd_ok h
  obtain ⟨p, hp, h3⟩ := bnd_ok h2
  obtain ⟨q, hq, e1⟩ := Option.map_eq_some_iff.mp h3
  cases e1
  obtain ⟨r, h4, h5⟩ := bin_ok (X := X) ho
  exact r_bin h4 h5 (S.L g hp) (S.L g hq)
theorem se_un {a : Expr} {op : UnaryOp} {c : EC} (g : Gd X tc W B C k) (h : toE (n + 1) tc (.UnaryOp op a pos) = some (c, fz)) : PE X (.UnaryOp op a pos) (tD X B C c.ev fz W) := by
  cases op with
  | Invert => cases h
  | UAdd => cases h
  | USub =>
    obtain ⟨p, hp, e1⟩ := Option.map_eq_some_iff.mp h
    cases e1
    exact r_un un_neg ok_neg (S.L g hp)
  | Not =>
    obtain ⟨p, hp, e1⟩ := Option.map_eq_some_iff.mp h
    cases e1
    exact d_of (S.V g hp)
theorem se_cmp {a : Expr} {ops : List CmpOp} {bs : List Expr} {c : EC} (g : Gd X tc W B C k) (h : toE (n + 1) tc (.Compare a ops bs pos) = some (c, fz)) : PE X (.Compare a ops bs pos) (tD X B C c.ev fz W) := by
  match ops, bs, h with
  | [op], [b], h =>
    have h0 : (match inOf tc op b with
      | some neg => chk (!behindInMarks op b) ((toL n tc a).bind fun p => (toE n tc b).map fun q => (EC.inO neg tc.G.ctn p.1 (.e q.1), p.2 ++ q.2))
      | none => (cmOf op).bind fun o => chk (!behindInMarks op b) ((toL n tc a).bind fun p => (toL n tc b).map fun q => (EC.o2 o p.1 q.1, p.2 ++ q.2))) = some (c, fz) := h
    clear h
    cases hin : inOf tc op b with
    | some neg =>
      rw [hin] at h0
      obtain ⟨hm, h⟩ := chk_ok h0
      obtain ⟨p, hp, h⟩ := bnd_ok h
      obtain ⟨q, hq, e1⟩ := Option.map_eq_some_iff.mp h
      cases e1
      obtain ⟨hcalm, rfl⟩ := in_ok hin
      exact r_inO g.un ((g.room hcalm).mono (Nat.le_succ k)) (fun c hc => g.tab.ctn c X at_self hc) (S.L g hp) (pe_F (S.E g hq)) (not_ok hm)
    | none =>
    rw [hin] at h0
    obtain ⟨o, ho, h⟩ := bnd_ok h0
    obtain ⟨hm, h⟩ := chk_ok h
    obtain ⟨p, hp, h⟩ := bnd_ok h
    obtain ⟨q, hq, e1⟩ := Option.map_eq_some_iff.mp h
    cases e1
    obtain ⟨r, h1, h2⟩ := cmp_ok g.un ho
    exact r_cmp h1 h2 (S.L g hp) (S.L g hq) (not_ok hm)
  | [op, op'], [b, c'], h =>
    obtain ⟨o, ho, h⟩ := bnd_ok h
    obtain ⟨o', ho', h⟩ := bnd_ok h
    obtain ⟨hm, h⟩ := chk_ok h
    obtain ⟨p, hp, h⟩ := bnd_ok h
    obtain ⟨q, hq, h⟩ := bnd_ok h
    obtain ⟨t, ht, e1⟩ := Option.map_eq_some_iff.mp h
    cases e1
    obtain ⟨r, h1, h2⟩ := cmp_ok g.un ho
    obtain ⟨r', h1', h2'⟩ := cmp_ok g.un ho'
    exact r_chain h1 h1' h2 h2' (S.L g hp) (S.L g hq) (S.L g ht) (not_ok hm)
  | [], _, h => cases h
  | _ :: _, [], h =>
    rename_i z
    cases z with
    | nil => cases h
    | cons y z => cases z <;> cases h
theorem se_ife {t a b : Expr} {c : EC} (g : Gd X tc W B C k) (h : toE (n + 1) tc (.IfExp t a b pos) = some (c, fz)) : PE X (.IfExp t a b pos) (tD X B C c.ev fz W) := by
  obtain ⟨o, ho, h2⟩ := bnd_ok h
  obtain ⟨p, hp, h3⟩ := bnd_ok h2
  obtain ⟨q, hq, e1⟩ := Option.map_eq_some_iff.mp h3
  cases e1
  exact r_if (S.T g ho) (S.E g hp) (S.E g hq)
theorem se_ix {a j : Expr} {c : EC} (g : Gd X tc W B C k) (h : chk (plainIx j) ((toL n tc a).bind fun p => (toL n tc j).map fun q => (EC.o2 .ix p.1 q.1, p.2 ++ q.2)) = some (c, fz)) : PE X (.Subscript a j pos) (tD X B C c.ev fz W) := by
  obtain ⟨h1, h2⟩ := chk_ok h
  obtain ⟨p, hp, h3⟩ := bnd_ok h2
  obtain ⟨q, hq, e1⟩ := Option.map_eq_some_iff.mp h3
  cases e1
  exact r_ix g.un (S.L g hp) (S.L g hq) h1
theorem rev_ix {j : Expr} (h : revIx j = true) : ∃ k q1 q2 q3, j = .Slice none none (some (.UnaryOp .USub (.Constant (.int 1) k q1) q2)) q3 := by
  unfold revIx at h
  split at h
  · have e := of_decide_eq_true h
    subst e
    exact ⟨_, _, _, _, rfl⟩
  · cases h
theorem se_sub {a j : Expr} {c : EC} (g : Gd X tc W B C k) (h : toE (n + 1) tc (.Subscript a j pos) = some (c, fz)) : PE X (.Subscript a j pos) (tD X B C c.ev fz W) := by
  have h0 : (if revIx j = true then (toL n tc a).map fun p => (EC.rvl p.1, p.2) else match j with
      | .Slice lo hi none _ => (toL n tc a).bind fun p => (toO n tc lo).bind fun l => (toO n tc hi).map fun h => (EC.cut p.1 l h, p.2)
      | _ => chk (plainIx j) ((toL n tc a).bind fun p => (toL n tc j).map fun q => (EC.o2 .ix p.1 q.1, p.2 ++ q.2))) = some (c, fz) := h
  clear h
  by_cases hr : revIx j = true
  · rw [if_pos hr] at h0
    obtain ⟨p, hp, e1⟩ := Option.map_eq_some_iff.mp h0
    cases e1
    obtain ⟨k0, q1, q2, q3, rfl⟩ := rev_ix S hr
    exact r_revL (S.L g hp)
  rw [if_neg hr] at h0
  have h := h0
  clear h0
  cases j <;> first
    | exact se_ix S g h
    | skip
  rename_i lo hi st p2
  cases st with
  | some x => exact se_ix S g h
  | none =>
    obtain ⟨p, hp, h2⟩ := bnd_ok h
    obtain ⟨l, hl, h3⟩ := bnd_ok h2
    obtain ⟨q, hq, e1⟩ := Option.map_eq_some_iff.mp h3
    cases e1
    exact r_cut (S.L g hp) (S.O g hl) (S.O g hq)
theorem se_attr {o : Expr} {f : Str} {c : EC} (g : Gd X tc W B C k) (h : toE (n + 1) tc (.Attribute o f pos) = some (c, fz)) : PE X (.Attribute o f pos) (tD X B C c.ev fz W) := by
  have h : (match ccOf tc o f with
      | some k => some (EC.k k, [])
      | none => chk (notSuper o) (match tc.G.prs.lookup f with
        | some cs => chk tc.calm ((toE n tc o).map fun p => (EC.pr f cs (.e p.1), p.2))
        | none => match tc.G.cns.lookup f with
          | some tb => (toL n tc o).map fun p => (EC.cn f tb p.1, p.2)
          | none => (tc.G.fls.lookup f).bind fun cs => (toL n tc o).map fun p => (EC.fl f cs p.1, p.2))) = some (c, fz) := h
  cases q0 : ccOf tc o f with
  | some k =>
    rw [q0] at h
    cases h
    unfold ccOf at q0
    split at q0
    · obtain ⟨z1, z2⟩ := chk_ok q0
      exact r_cc (g.tab.cc _ f k X at_self z2) (g.glob z1).1 (g.glob z1).2
    · cases q0
  | none =>
  rw [q0] at h
  obtain ⟨h1, h2⟩ := chk_ok h
  clear h
  cases q : tc.G.prs.lookup f with
  | some cs =>
    rw [q] at h2
    obtain ⟨h3, h4⟩ := chk_ok h2
    obtain ⟨p, hp, e1⟩ := Option.map_eq_some_iff.mp h4
    cases e1
    exact r_prop (fun c hc => g.tab.pr f cs c X at_self q hc) (g.room h3) (pe_F (S.E g hp)) h1
  | none =>
    rw [q] at h2
    have h2 : (match tc.G.cns.lookup f with
      | some tb => (toL n tc o).map fun p => (EC.cn f tb p.1, p.2)
      | none => (tc.G.fls.lookup f).bind fun cs => (toL n tc o).map fun p => (EC.fl f cs p.1, p.2)) = some (c, fz) := h2
    cases q2 : tc.G.cns.lookup f with
    | some tb =>
      rw [q2] at h2
      obtain ⟨p, hp, e1⟩ := Option.map_eq_some_iff.mp h2
      cases e1
      refine r_con (fun c d hc => ?_) (S.L g hp) h1
      obtain ⟨v, hv, e1⟩ := Option.map_eq_some_iff.mp hc
      cases e1
      exact g.tab.cn f tb c v X at_self q2 hv
    | none =>
      rw [q2] at h2
      obtain ⟨cs, hcs, h3⟩ := bnd_ok h2
      obtain ⟨p, hp, e1⟩ := Option.map_eq_some_iff.mp h3
      cases e1
      exact r_fld (S.L g hp) h1 fun c hc => g.tab.fl f cs c X at_self hcs hc
theorem toA_nil {c : AC} {f : List Nat} (h : toA n tc [] = some (c, f)) : c = .nil ∧ f = [] := by
  cases n with
  | zero => cases h
  | succ n =>
    have h : some (AC.nil, ([] : List Nat)) = some (c, f) := h
    cases h
    exact ⟨rfl, rfl⟩
theorem se_isE {f : Expr} {es : List Expr} {kws : List Keyword} {p : Nat × List (Str × Bool)} (g : Gd X tc W B C k) (h : isEOf tc f es kws = some p) : PE X (.Call f es kws pos) (tD X B C (EC.isE p.1 p.2).ev fz W) := by
  unfold isEOf at h
  split at h
  · obtain ⟨h1, h2⟩ := chk_ok h
    obtain ⟨h3, hx⟩ := and2 h1
    obtain ⟨h4, hfr⟩ := and2 h3
    obtain ⟨hf, her⟩ := and2 h4
    have hf2 := of_decide_eq_true hf
    subst hf2
    obtain ⟨i, hi, h5⟩ := bnd_ok h2
    obtain ⟨tb, htb, e1⟩ := Option.map_eq_some_iff.mp h5
    cases e1
    obtain ⟨a1, a2⟩ := frs_ok S g hfr
    obtain ⟨b1, b2, b3, b4⟩ := g.slot hi
    obtain ⟨c1, c2⟩ := g.glob hx
    obtain ⟨Cv, hCv⟩ := g.tab.xq _ tb X at_self htb
    refine r_isE (g.er (by rw [of_decide_eq_true her]; rfl)) b1 b2 b3 b4 a1 a2 c1 c2 hCv fun c b hc D hD => ?_
    obtain ⟨Cv', hCv', q⟩ := g.tab.xi _ tb c b X at_self htb hc
    rw [hCv] at hCv'
    cases hCv'
    exact q D hD
  · cases h
theorem ty_ok {x : Str} {t : TyC} (h : tyOf x = some t) : x = Str.ofString t.nm := by
  unfold tyOf at h
  split at h
  · rename_i e; cases h; exact e
  split at h
  · rename_i e; cases h; exact e
  split at h
  · rename_i e; cases h; exact e
  split at h
  · rename_i e; cases h; exact e
  split at h
  · rename_i e; cases h; exact e
  cases h
theorem se_isi {f : Expr} {es : List Expr} {kws : List Keyword} {p : Expr × TyC} {q : LC × List Nat} (g : Gd X tc W B C k) (h : isiOf tc f es kws = some p) (hq : toL n tc p.1 = some q) : PE X (.Call f es kws pos) (tD X B C (EC.isi p.2 q.1).ev q.2 W) := by
  unfold isiOf at h
  split at h
  · obtain ⟨h1, h2⟩ := chk_ok h
    obtain ⟨h3, hx⟩ := and2 h1
    obtain ⟨h4, hfr⟩ := and2 h3
    obtain ⟨hf, hns⟩ := and2 h4
    have hf2 := of_decide_eq_true hf
    subst hf2
    obtain ⟨t, ht, e1⟩ := Option.map_eq_some_iff.mp h2
    cases e1
    obtain ⟨a1, a2⟩ := frs_ok S g hfr
    obtain ⟨c1, c2⟩ := frs_ok S g hx
    exact r_isi (ty_ok S ht) a1 a2 c1 c2 (g.glob (and2 hx).1).2 (S.L g hq) hns
  · cases h
theorem se_call {f : Expr} {es : List Expr} {kws : List Keyword} {c : EC} (g : Gd X tc W B C k) (h0 : toE (n + 1) tc (.Call f es kws pos) = some (c, fz)) : PE X (.Call f es kws pos) (tD X B C c.ev fz W) := by
  have h0' : (match isEOf tc f es kws with
      | some p => some (EC.isE p.1 p.2, [])
      | none => match isiOf tc f es kws with
        | some p => (toL n tc p.1).map fun q => (EC.isi p.2 q.1, q.2)
        | none => callE (toL n tc) (toA n tc) (toQ n tc) (toE n tc) tc f es kws pos) = some (c, fz) := h0
  clear h0
  cases q0 : isEOf tc f es kws with
  | some p =>
    rw [q0] at h0'
    cases h0'
    exact se_isE S g q0
  | none =>
  rw [q0] at h0'
  have h0 : (match isiOf tc f es kws with
        | some p => (toL n tc p.1).map fun q => (EC.isi p.2 q.1, q.2)
        | none => callE (toL n tc) (toA n tc) (toQ n tc) (toE n tc) tc f es kws pos) = some (c, fz) := h0'
  clear h0'
  cases q1 : isiOf tc f es kws with
  | some p =>
    rw [q1] at h0
    obtain ⟨q, hq, e1⟩ := Option.map_eq_some_iff.mp h0
    cases e1
    exact se_isi S g q1 hq
  | none =>
  rw [q1] at h0
  have h : callE (toL n tc) (toA n tc) (toQ n tc) (toE n tc) tc f es kws pos = some (c, fz) := h0
  clear h0
  obtain ⟨h1, h2⟩ := chk_ok h
  clear h
  obtain ⟨h3, hlt⟩ := and2 h1
  obtain ⟨hk, hst⟩ := and2 h3
  clear h1 h3
  have hk2 : kws = [] := List.isEmpty_iff.mp hk
  clear hk
  subst hk2
  have hlt2 := of_decide_eq_true hlt
  cases f <;> first
    | (cases h2; done)
    | skip
  · rename_i o m apos
    obtain ⟨h3, h4⟩ := chk_ok h2
    clear h2
    obtain ⟨hns, hp⟩ := and2 h3
    cases htb : tc.G.mts.lookup (m, es.length) with
    | none =>
      rw [htb] at h4
      cases q3 : bmOf m es.length with
      | none =>
        rw [q3] at h4
        cases es with
        | nil => cases h4
        | cons e r =>
          cases r with
          | cons _ _ => cases h4
          | nil =>
            have h4 : (if m = "index" then (toL n tc o).bind fun p => (toL n tc e).map fun q => (EC.lix p.1 q.1, p.2 ++ q.2) else none) = some (c, fz) := h4
            by_cases hm : m = "index"
            · rw [if_pos hm] at h4
              subst hm
              obtain ⟨p, hp1, h6⟩ := bnd_ok h4
              obtain ⟨q, hq, e1⟩ := Option.map_eq_some_iff.mp h6
              cases e1
              rw [List.all_cons, Bool.and_eq_true] at hst
              exact r_index g.un (S.L g hp1) (S.L g hq) hns hst.1 (beq_iff_eq.mpr (of_decide_eq_true hp))
            · rw [if_neg hm] at h4
              cases h4
      | some b =>
        rw [q3] at h4
        cases es with
        | nil => cases h4
        | cons e r =>
          cases r with
          | cons _ _ => cases h4
          | nil =>
            obtain ⟨p, hp1, h6⟩ := bnd_ok h4
            obtain ⟨q, hq, e1⟩ := Option.map_eq_some_iff.mp h6
            cases e1
            unfold bmOf at q3
            by_cases hcnt : m = "count" ∧ [e].length = 1
            · rw [if_pos hcnt] at q3
              cases q3
              obtain ⟨rfl, _⟩ := hcnt
              rw [List.all_cons, Bool.and_eq_true] at hst
              exact r_count (S.L g hp1) (S.L g hq) hns hst.1 (beq_iff_eq.mpr (of_decide_eq_true hp))
            · rw [if_neg hcnt] at q3
              by_cases hj : m = "join" ∧ [e].length = 1
              · rw [if_pos hj] at q3
                cases q3
                obtain ⟨rfl, _⟩ := hj
                rw [List.all_cons, Bool.and_eq_true] at hst
                exact r_join (S.L g hp1) (S.L g hq) hns hst.1 (beq_iff_eq.mpr (of_decide_eq_true hp))
              · rw [if_neg hj] at q3
                cases q3
    | some tb =>
    rw [htb] at h4
    obtain ⟨hcalm, h6⟩ := chk_ok h4
    clear h4
    obtain ⟨p, hp1, h7⟩ := bnd_ok h6
    obtain ⟨q, hq, e1⟩ := Option.map_eq_some_iff.mp h7
    cases e1
    have hM : ∀ c dd, (tb.lookup c).map (fun l => l.map CK.d) = some dd → MethAt X C k c m es.length dd := fun c dd hc => by
      obtain ⟨v, hv, e1⟩ := Option.map_eq_some_iff.mp hc
      cases e1
      exact g.tab.mt m es.length tb c v X at_self htb hv
    have hr : Room k X.A := (g.room hcalm).mono (Nat.le_succ k)
    cases es with
    | nil =>
      obtain ⟨q1, q2⟩ := q
      obtain ⟨e1, e2⟩ := toA_nil S hq
      subst e1 e2
      exact r_meth0 hM hr g.tk (pe_F (S.E g hp1)) hns (of_decide_eq_true hp)
    | cons a r => exact r_meth hM hr g.tk (pe_F (S.E g hp1)) (S.A g hq) (fun s ds z => by rw [AC.evlen _ z, alen hq]) hns hst hlt2 (of_decide_eq_true hp)
  · rename_i x p
    obtain ⟨h3, h4⟩ := chk_ok h2
    clear h2
    obtain ⟨hg, hdb⟩ := g.glob h3
    cases qs : tc.G.sts.lookup x with
    | some pn =>
      rw [qs] at h4
      obtain ⟨h5, h6⟩ := chk_ok h4
      obtain ⟨h7, hne⟩ := and2 h5
      obtain ⟨hcalm, hle⟩ := and2 h7
      obtain ⟨q, hq, e1⟩ := Option.map_eq_some_iff.mp h6
      cases e1
      obtain ⟨f, hm, Fa⟩ := g.tab.st x pn X at_self qs
      cases es with
      | nil => cases hne
      | cons a r => exact r_callS Fa ((g.room hcalm).mono (Nat.le_succ k)) g.tk hg hm (S.A g hq) (fun s ds z => by rw [AC.evlen _ z, alen hq]; exact of_decide_eq_true hle) hst hdb
    | none =>
    rw [qs] at h4
    have h4' : (match tc.G.fns.lookup (x, es.length) with
        | some dfs => chk tc.calm ((toA n tc es).map fun p => (EC.fn x p.1 dfs, p.2))
        | none => match tc.G.mks.lookup (x, es.length) with
          | some dfs => chk tc.calm ((toA n tc es).map fun p => (EC.mk x p.1 dfs, p.2))
          | none => chk (tc.G.frs.contains x) ((biAll x tc.calm es.length).bind fun b => (toQ n tc es).map fun p => (EC.bi b p.1, p.2))) = some (c, fz) := h4
    clear h4
    revert h4'
    intro h4
    cases q1 : tc.G.fns.lookup (x, es.length) with
    | some dfs =>
      rw [q1] at h4
      obtain ⟨hcalm, h5⟩ := chk_ok h4
      obtain ⟨q, hq, e1⟩ := Option.map_eq_some_iff.mp h5
      cases e1
      obtain ⟨f, hm, Fa⟩ := g.tab.fn x es.length dfs X at_self q1
      have hr : Room k X.A := (g.room hcalm).mono (Nat.le_succ k)
      cases es with
      | nil =>
        obtain ⟨q1, q2⟩ := q
        obtain ⟨e1, e2⟩ := toA_nil S hq
        subst e1 e2
        exact r_call0 Fa hr g.tk hg hm hdb
      | cons a r => exact r_call Fa hr g.tk hg hm (S.A g hq) (fun s ds z => by rw [AC.evlen _ z, alen hq]) hst hdb
    | none =>
      rw [q1] at h4
      have h5 : (match tc.G.mks.lookup (x, es.length) with
          | some dfs => chk tc.calm ((toA n tc es).map fun p => (EC.mk x p.1 dfs, p.2))
          | none => chk (tc.G.frs.contains x) ((biAll x tc.calm es.length).bind fun b => (toQ n tc es).map fun p => (EC.bi b p.1, p.2))) = some (c, fz) := h4
      clear h4
      cases q2 : tc.G.mks.lookup (x, es.length) with
      | some dfs =>
        rw [q2] at h5
        obtain ⟨hcalm, h6⟩ := chk_ok h5
        obtain ⟨q, hq, e1⟩ := Option.map_eq_some_iff.mp h6
        cases e1
        obtain ⟨⟨Ca, hm⟩, Ma⟩ := g.tab.mke x es.length dfs X at_self q2
        cases es with
        | nil =>
          obtain ⟨q1, q2⟩ := q
          obtain ⟨e1, e2⟩ := toA_nil S hq
          subst e1 e2
          exact r_make0 Ma (g.room hcalm) g.tk hg hm hdb
        | cons a r => exact r_make Ma (g.room hcalm) g.tk hg hm (S.A g hq) (fun s ds z => by rw [AC.evlen _ z, alen hq]) hst hdb
      | none =>
        rw [q2] at h5
        obtain ⟨h6, h7⟩ := chk_ok h5
        obtain ⟨b, hb, h8⟩ := bnd_ok h7
        obtain ⟨q, hq, e1⟩ := Option.map_eq_some_iff.mp h8
        cases e1
        have hm := g.tab.fr x X at_self h6
        have hb : (match biOf x tc.calm es.length with
          | some b => some b
          | none => bi2 x tc.calm es.length) = some b := hb
        cases hq0 : biOf x tc.calm es.length with
        | none =>
          rw [hq0] at hb
          cases es with
          | nil => exact absurd rfl (bi2_ne hb)
          | cons a r => exact r_bi2 g.un hb (fun z => g.calm z) rfl hg hm hdb (S.Q g hq) hst
        | some b' =>
        rw [hq0] at hb
        cases hb
        have hb2 := bi_ok hq0
        have key : (X.calm = true ∨ (b ≠ .max ∧ b ≠ .min ∧ b ≠ .sum ∧ b ≠ .list)) ∧ ((x = "len" ∧ b = .len) ∨ (x = "int" ∧ b = .int) ∨ (x = "abs" ∧ b = .abs) ∨ (x = "max" ∧ b = .max) ∨ (x = "min" ∧ b = .min) ∨ (x = "list" ∧ b = .list) ∨ (x = "tuple" ∧ b = .tuple) ∨ (x = "sum" ∧ b = .sum)) ∧ es ≠ [] := by
          have ne : ∀ {j : Nat}, es.length = j + 1 → es ≠ [] := fun e z => by rw [z] at e; cases e
          rcases hb2 with ⟨e1, e2, e3⟩ | ⟨e1, e2, e3⟩ | ⟨e1, e2, e3⟩ | ⟨e1, e2, e3, e4⟩ | ⟨e1, e2, e3, e4⟩ | ⟨e1, e2, e3, e4⟩ | ⟨e1, e2, e3⟩ | ⟨e1, e2, e3, e4⟩
          · exact ⟨.inr (by subst e3; exact ⟨fun z => (nomatch z), fun z => (nomatch z), fun z => (nomatch z), fun z => (nomatch z)⟩), .inl ⟨e1, e3⟩, ne e2⟩
          · exact ⟨.inr (by subst e3; exact ⟨fun z => (nomatch z), fun z => (nomatch z), fun z => (nomatch z), fun z => (nomatch z)⟩), .inr (.inl ⟨e1, e3⟩), ne e2⟩
          · exact ⟨.inr (by subst e3; exact ⟨fun z => (nomatch z), fun z => (nomatch z), fun z => (nomatch z), fun z => (nomatch z)⟩), .inr (.inr (.inl ⟨e1, e3⟩)), ne e2⟩
          · exact ⟨.inl (g.calm e4), .inr (.inr (.inr (.inl ⟨e1, e3⟩))), ne e2⟩
          · exact ⟨.inl (g.calm e4), .inr (.inr (.inr (.inr (.inl ⟨e1, e3⟩)))), ne e2⟩
          · exact ⟨.inl (g.calm e4), .inr (.inr (.inr (.inr (.inr (.inl ⟨e1, e3⟩))))), ne e2⟩
          · exact ⟨.inr (by subst e3; exact ⟨fun z => (nomatch z), fun z => (nomatch z), fun z => (nomatch z), fun z => (nomatch z)⟩), .inr (.inr (.inr (.inr (.inr (.inr (.inl ⟨e1, e3⟩)))))), ne e2⟩
          · exact ⟨.inl (g.calm e4), .inr (.inr (.inr (.inr (.inr (.inr (.inr ⟨e1, e3⟩)))))), ne e2⟩
        obtain ⟨k1, k2, k3⟩ := key
        cases es with
        | nil => exact absurd rfl k3
        | cons a r => exact r_bi k1 k2 hg hm hdb (S.Q g hq) hst
omit S in
/-- a walk's reading within a block -/
theorem tI_blk {s0 : Shared} {H0 : Hp} {scope : Scope} {ce : Env} {fp : List Addr} {tg e : Expr} {di : ID} (h : PI (X.blk s0 H0 scope ce fp) tg e (tI (X.blk s0 H0 scope ce fp) B C di fz W)) : PI (X.blk s0 H0 scope ce fp) tg e (tI X B C di fz W) := ⟨fun pins s σ H Rr I ⟨F, t, rel, q⟩ => by
  refine h.run pins s σ H Rr I ⟨F, t, rel, ?_⟩
  cases k : di C t with
  | bad => rw [k] at q; exact q
  | ex c fs => rw [k] at q; exact q
  | ok ds =>
    rw [k] at q
    exact fun J F' H' st wk => q J F' H' st ⟨wk.go, wk.stop, wk.yld⟩⟩
/-- the two forms of a list comprehension -/
inductive LcP (X : Cx) (W : WX) (B : Bas) (C : Call) (own : List (Str × Nat)) (elt : Expr) (gens : List Comprehension) (scope : Scope) (fz : List Nat) (ev : ED) : Prop where
  | one (tg iter : Expr) (ifs : List Expr) (it : ID) (fz1 : List Nat) (gt : Tg) (t : BD) (el : LD) (fy : List Nat) (e0 : gens = [⟨tg, iter, ifs, 0⟩]) (hi : PI X tg iter (tJ X B C it fz1 W)) (L : LcOk X B C scope own tg elt ifs gt (ggOf X.K gt) t el fy) (hs : ∀ x, foldedSetIterable iter X.env x = pure x)
    (e1 : ev = eLc gt it t el (own.map (·.2))) (e2 : fz = fz1 ++ fy)
  | two (tg iter tg1 iter1 : Expr) (ifs ifs1 : List Expr) (it it1 : ID) (fz1 fz2 : List Nat) (gt gt1 : Tg) (t t1 : BD) (el : LD) (fy : List Nat) (e0 : gens = [⟨tg, iter, ifs, 0⟩, ⟨tg1, iter1, ifs1, 0⟩]) (hi : PI X tg iter (tJ X B C it fz1 W))
    (L : Lc2Ok X B C scope own (tgSl gt1) tg tg1 elt iter1 ifs ifs1 gt gt1 (ggOf X.K gt) (ggOf X.K gt1) t t1 it1 el fz2 fy) (hs : ∀ x, foldedSetIterable iter X.env x = pure x) (hs1 : ∀ env x, foldedSetIterable iter1 env x = pure x)
    (e1 : ev = eLc2 gt it t gt1 it1 t1 el (own.map (·.2)) (tgSl gt1)) (e2 : fz = fz1 ++ (fz2 ++ fy))
theorem lc_parts {elt : Expr} {gens : List Comprehension} {scope : Scope} {c : EC} (g : Gd X tc W B C k) (h : toE (n + 1) tc (.ListComp elt gens scope pos) = some (c, fz)) : X.calm = true ∧ LcP X W B C (ownOf tc scope) elt gens scope fz c.ev := by
  cases gens with
  | nil => cases h
  | cons g0 rest =>
  obtain ⟨tg, iter, ifs, as⟩ := g0
  cases rest with
  | nil =>
    obtain ⟨h1, h2⟩ := chk_ok h
    clear h
    obtain ⟨h0, has⟩ := and2 h1
    obtain ⟨h3, hns⟩ := and2 h0
    have has2 := of_decide_eq_true has
    subst has2
    obtain ⟨hcalm, hb⟩ := and2 h3
    obtain ⟨it, hit, h4⟩ := bnd_ok h2
    obtain ⟨gg, hgg, h5⟩ := bnd_ok h4
    obtain ⟨hin, h6⟩ := chk_ok h5
    obtain ⟨t, ht, h7⟩ := bnd_ok h6
    obtain ⟨el, hel, e1⟩ := Option.map_eq_some_iff.mp h7
    cases e1
    have hc := g.calm hcalm
    exact ⟨hc, .one tg iter ifs it.1.ev it.2 gg t.ev (lOf el.1.ev) el.2 rfl (S.J g hit) ⟨blk_ok g hb, tgt_tb hin, fun s H L cl fp => tgt_pg (g.blk hb s H L cl fp) hc hgg, fun s H L cl fp => S.F (g.blk hb s H L cl fp) ht, fun s H L cl fp => pe_F (S.E (g.blk hb s H L cl fp) hel)⟩ (fold_ok hns) rfl rfl⟩
  | cons g1 rest =>
  obtain ⟨tg1, iter1, ifs1, as1⟩ := g1
  cases rest with
  | cons _ _ => cases h
  | nil =>
    obtain ⟨h1, h2⟩ := chk_ok h
    clear h
    obtain ⟨h0, has1⟩ := and2 h1
    obtain ⟨h0, has⟩ := and2 h0
    obtain ⟨h0, hns1⟩ := and2 h0
    obtain ⟨h3, hns⟩ := and2 h0
    have has2 := of_decide_eq_true has
    have has3 := of_decide_eq_true has1
    subst has2 has3
    obtain ⟨hcalm, hb⟩ := and2 h3
    obtain ⟨it, hit, h4⟩ := bnd_ok h2
    obtain ⟨gg, hgg, h5⟩ := bnd_ok h4
    obtain ⟨gg1, hgg1, h5⟩ := bnd_ok h5
    obtain ⟨hin, h6⟩ := chk_ok h5
    obtain ⟨hin, hin3⟩ := and2 hin
    obtain ⟨hin1, hin2⟩ := and2 hin
    obtain ⟨t, ht, h7⟩ := bnd_ok h6
    obtain ⟨it1, hit1, h8⟩ := bnd_ok h7
    obtain ⟨t1, ht1, h9⟩ := bnd_ok h8
    obtain ⟨el, hel, e1⟩ := Option.map_eq_some_iff.mp h9
    cases e1
    have hc := g.calm hcalm
    exact ⟨hc, .two tg iter tg1 iter1 ifs ifs1 it.1.ev it1.1.ev it.2 it1.2 gg gg1 t.ev t1.ev (lOf el.1.ev) el.2 rfl (S.J g hit)
      ⟨blk_ok g hb, fun i hi => List.contains_iff_mem.mp (List.all_eq_true.mp hin3 i hi), tgt_tb hin1, tgt_tb hin2, fun s H L cl fp => tgt_pg (g.blk hb s H L cl fp) hc hgg, fun s H L cl fp => tgt_pg (g.blk hb s H L cl fp) hc hgg1, fun s H L cl fp => S.F (g.blk hb s H L cl fp) ht, fun s H L cl fp => S.F (g.blk hb s H L cl fp) ht1,
        fun s H L cl fp => tI_blk (S.K1 (g.blk hb s H L cl fp) hit1), fun s H L cl fp => pe_F (S.E (g.blk hb s H L cl fp) hel)⟩ (fold_ok hns) (fun env => fold_ok hns1) rfl rfl⟩
theorem se_lc {elt : Expr} {gens : List Comprehension} {scope : Scope} {c : EC} (g : Gd X tc W B C k) (h : toE (n + 1) tc (.ListComp elt gens scope pos) = some (c, fz)) : PE X (.ListComp elt gens scope pos) (tD X B C c.ev fz W) := by
  obtain ⟨hc, P⟩ := lc_parts S g h
  cases P with
  | one tg iter ifs it fz1 gt t el fy e0 hi L hs e1 e2 =>
    subst e0 e2
    rw [e1]
    exact r_lc hc g.nd hi L hs
  | two tg iter tg1 iter1 ifs ifs1 it it1 fz1 fz2 gt gt1 t t1 el fy e0 hi L hs hs1 e1 e2 =>
    subst e0 e2
    rw [e1]
    exact r_lc2 hc g.nd hi L hs hs1
theorem se_dc {kx vx : Expr} {gens : List Comprehension} {scope : Scope} {c : EC} (g : Gd X tc W B C k) (h : toE (n + 1) tc (.DictComp kx vx gens scope pos) = some (c, fz)) : PE X (.DictComp kx vx gens scope pos) (tD X B C c.ev fz W) := by
  cases gens with
  | nil => cases h
  | cons g0 rest =>
  obtain ⟨tg, iter, ifs, as⟩ := g0
  cases rest with
  | cons _ _ => cases h
  | nil =>
    obtain ⟨h1, h2⟩ := chk_ok h
    clear h
    obtain ⟨h0, has⟩ := and2 h1
    obtain ⟨h3, hns⟩ := and2 h0
    have has2 := of_decide_eq_true has
    subst has2
    obtain ⟨hcalm, hb⟩ := and2 h3
    obtain ⟨it, hit, h4⟩ := bnd_ok h2
    obtain ⟨gg, hgg, h5⟩ := bnd_ok h4
    obtain ⟨hin, h6⟩ := chk_ok h5
    obtain ⟨t, ht, h7⟩ := bnd_ok h6
    obtain ⟨ke, hke, h8⟩ := bnd_ok h7
    obtain ⟨ve, hve, e1⟩ := Option.map_eq_some_iff.mp h8
    cases e1
    have hc := g.calm hcalm
    have hu : X.A.units + 1 < cLine := by have := g.un; omega
    exact r_dc hu hc g.nd (S.J g hit) ⟨blk_ok g hb, tgt_tb hin, fun s H L cl fp => tgt_pg (g.blk hb s H L cl fp) hc hgg, fun s H L cl fp => S.F (g.blk hb s H L cl fp) ht, fun s H L cl fp => pe_F (S.E (g.blk hb s H L cl fp) hke), fun s H L cl fp => pe_F (S.E (g.blk hb s H L cl fp) hve)⟩ (fold_ok hns)
theorem st_E {c : EC} (g : Gd X tc W B C k) (h : toE (n + 1) tc e = some (c, fz)) : PE X e (tD X B C c.ev fz W) := by
  cases e <;> first
    | (cases h; done)
    | skip
  · obtain ⟨b, hb, e1⟩ := Option.map_eq_some_iff.mp h
    cases e1
    exact d_of (S.V g hb)
  · exact se_bin S g h
  · exact se_un S g h
  · exact se_ife S g h
  · exact se_lc S g h
  · exact se_dc S g h
  · exact se_cmp S g h
  · exact se_call S g h
  · obtain ⟨q, hq, e1⟩ := Option.map_eq_some_iff.mp h
    cases e1
    exact ck_ok hq
  · exact se_attr S g h
  · exact se_sub S g h
  · exact se_name S g h
  · exact se_lst S g h
  · exact se_tup S g h
end
theorem snd : ∀ n : Nat, Snd n
  | 0 => ⟨fun _ h => (nomatch h), fun _ h => (nomatch h), fun _ h => (nomatch h), fun _ h => (nomatch h), fun _ h => (nomatch h), fun _ h => (nomatch h), fun _ h => (nomatch h), fun _ h => (nomatch h), fun _ h => (nomatch h), fun _ h => (nomatch h), fun _ h => (nomatch h), fun _ h => (nomatch h)⟩
  | n + 1 => ⟨st_E (snd n), st_L (snd n), st_A (snd n), st_Q (snd n), st_O (snd n), st_V (snd n), st_T (snd n), st_W (snd n), st_F (snd n), st_J (snd n), st_K1 (snd n), st_I (snd n)⟩
end DN
/-! Den26: the codes of statements are right. -/
namespace DN
open PySem PySem.Spec PyProof.Rows L2
section
variable {X : Cx} {B : Bas} {C : Call} {W : WX} {fz : List Nat} {e tgt : Expr} {pos : Pos}
theorem s_unp {de : LD} {g : Tg} {gg : TG} (he : PE X e (tF X B C de fz W)) (hg : PG X tgt gg) (hT : TgOk X B gg g) (hs : swapsWithSole [tgt] e pos.line X.env = pure false) (hw : swappedStores [tgt] e X.env = pure none) (h1 : (assignEach [tgt] X.env).map (·.2) = [assign tgt X.env]) :
    PS X (.Assign [tgt] e pos) (tS X B C (sUnp g de fz) W) := (ps_asg he hg hs hw h1).wk fun Dn σ H ⟨F0, F, s, rel, h⟩ => by
  unfold sUnp at h
  refine ⟨F, s, rel.toRelW, ?_⟩
  cases k : de C s with
  | ok d =>
    simp only [k] at h
    cases k2 : g.put d (settle fz d s) with
    | none => simp only [k2] at h; exact h.elim
    | some s' =>
      simp only [k2] at h
      refine fun v F1 H1 t hv => ?_
      obtain ⟨F2, rel2, hv2, ff⟩ := rel.settle t hv
      exact hT F0 F2 H1 σ _ s' v d _ rel2 hv2 k2 fun σ' r => h σ' F2 H1 r
  | ex c fs =>
    simp only [k] at h
    exact fun cls dd H' t hx => h cls dd σ F H' (rel.same t) hx
  | bad => simp only [k] at h; exact h.elim
end
/-- a statement that is not carried -/
theorem s_bad {X : Cx} {B : Bas} {C : Call} {W : WX} {st : Stmt} : PS X st (tS X B C (SC.ev .bad) W) := ⟨fun pins s σ H Dn I ⟨_, _, _, _, q⟩ => False.elim q⟩
/-- .. of a def's statements -/
structure Gs (X : Cx) (tc : TC) (W : WX) (B : Bas) (C : Call) (k : Nat) : Prop extends Gd X tc W B C k where
  st1 : X.stack = X.env :: X.outer
  st2 : X.env.frame = some X.env.locals
  er0 : tc.calm = true → B.er = none
section
variable {X : Cx} {tc : TC} {W : WX} {C : Call} {k : Nat} {B : Bas}
theorem Gs.tr (g : Gs X tc W B C k) (hc : tc.calm = true) (he : tc.er = none) {W' : WX} {pn : List (Addr × Obj)} {xe : Value → Shared → Prop} (tk : Takes (X.tr pn xe) W') (ps : PassesOwn (model X.prog X.w) X.A X.env xe) : Gs (X.tr pn xe) tc W' B C k :=
  ⟨⟨(fun z => by rw [he] at z; cases z), g.me0, g.top, g.oc, g.hN, g.nd, g.sc, g.kind, g.calm, g.room, g.un, tk, ps, g.tab⟩, g.st1, g.st2, g.er0⟩
theorem Gs.suite (g : Gs X tc W B C k) {a : Addr} {oe : Obj} {cls : Value} {d : Option Addr} {pn : List (Addr × Obj)} (hz : Zc cls d oe) (hf : ∃ vs, oe.data = .fields vs) (er : Option Str) :
    Gs (X.suite a ((a, oe) :: pn)) { tc with calm := false, er := er } (fun _ _ _ _ => False) (B.su a cls d) C k :=
  ⟨⟨fun _ => ⟨X, a, oe, cls, d, pn, rfl, rfl, hz, hf⟩, g.me0, g.top, g.oc, g.hN, g.nd, g.sc, g.kind, fun z => (nomatch z), fun z => (nomatch z), g.un, takes0, PassesOwn.never, g.tab⟩, g.st1, g.st2, fun z => (nomatch z)⟩
theorem Gs.suite0 (g : Gs X tc W B C k) {a : Addr} {oe : Obj} {pn : List (Addr × Obj)} (he : tc.er = none) :
    Gs (X.suite a ((a, oe) :: pn)) { tc with calm := false } (fun _ _ _ _ => False) B C k :=
  ⟨⟨(fun z => by rw [show ({ tc with calm := false } : TC).er = tc.er from rfl, he] at z; cases z), g.me0, g.top, g.oc, g.hN, g.nd, g.sc, g.kind, fun z => (nomatch z), fun z => (nomatch z), g.un, takes0, PassesOwn.never, g.tab⟩, g.st1, g.st2, fun z => (nomatch z)⟩
theorem swaps_no {e : Expr} {t : Option Expr} {l : Nat} {env : Env} (h : notComp e = true) : swapsWith e t l env = pure false := by
  cases e <;> first
    | rfl
    | cases h
theorem swaps_attr {e o : Expr} {f : Str} {p : Pos} {l : Nat} {env : Env} : swapsWith e (some (.Attribute o f p)) l env = pure false := by
  cases e <;> rfl
theorem swaps_sub {e o j : Expr} {p : Pos} {l : Nat} {env : Env} : swapsWith e (some (.Subscript o j p)) l env = pure false := by
  cases e <;> rfl
theorem swaps_tup {e : Expr} {es : List Expr} {j : Nat} {p : Pos} {l : Nat} {env : Env} : swapsWith e (some (.Tuple es j p)) l env = pure false := by
  cases e <;> rfl
/-- a list comprehension's value in a name -/
theorem swaps_lc {elt : Expr} {gs : List Comprehension} {scope : Scope} {pos py : Pos} {y : Str} {l : Nat} {env : Env} (hk : env.scope.kind = .function) :
    ∃ b, swapsWith (.ListComp elt gs scope pos) (some (.Name y py)) l env = pure b ∧ (b = true → env.scope.names.lookup y = some .local) := ⟨_, rfl, fun h => by
      obtain ⟨h, _⟩ := and2 h
      obtain ⟨h, _⟩ := and2 h
      obtain ⟨_, h⟩ := and2 h
      exact beq_iff_eq.mp h⟩
end
structure SndS (n : Nat) : Prop where
  S : ∀ {X : Cx} {tc : TC} {W : WX} {C : Call} {k : Nat} {B : Bas} {st : Stmt} {c : SC}, Gs X tc W B C k → toS n tc st = some c → PS X st (tS X B C c.ev W)
  Ss : ∀ {X : Cx} {tc : TC} {W : WX} {C : Call} {k : Nat} {B : Bas} {sts : List Stmt} {c : SC}, Gs X tc W B C k → toSs n tc sts = some c → PSs X sts (tS X B C c.ev W)
  K : ∀ {X : Cx} {tc : TC} {W : WX} {C : Call} {k : Nat} {B : Bas} {tg e : Expr} {c : IC} {fz : List Nat}, Gs X tc W B C k → toK n tc tg e = some (c, fz) → PI X tg e (tI X B C c.ev fz W)
  H : ∀ {X : Cx} {tc : TC} {W : WX} {C : Call} {k : Nat} {B : Bas} {hs : List ExceptHandler} {c : HC}, Gs X tc W B C k → tc.calm = true → tc.er = none → toHs n tc hs = some c → ∃ l, HdsOk X hs l ∧ HcOk X B C c.ev l
section
variable {n : Nat} (S : SndS n) {X : Cx} {tc : TC} {W : WX} {C : Call} {k : Nat} {B : Bas} {pos : Pos}
include S
theorem ss_Ss {sts : List Stmt} {c : SC} (g : Gs X tc W B C k) (h : toSs (n + 1) tc sts = some c) : PSs X sts (tS X B C c.ev W) := by
  cases sts with
  | nil =>
    have h : some SC.nx = some c := h
    cases h
    exact ss_nil
  | cons st r =>
    obtain ⟨b, hb, e1⟩ := Option.map_eq_some_iff.mp h
    cases e1
    refine ss_cons ?_ (S.Ss g hb)
    cases ha : toS n tc st with
    | none => exact s_bad
    | some a => exact S.S g ha
theorem ss_K {tg e : Expr} {c : IC} {fz : List Nat} (g : Gs X tc W B C k) (h : toK (n + 1) tc tg e = some (c, fz)) : PI X tg e (tI X B C c.ev fz W) := by
  have h2 : (match toI n tc tg e with
    | some r => some r
    | none => if (obB tc e && tc.calm) = true then (toE n tc e).map fun p => (IC.own tc.G.its (.e p.1), p.2) else (toE n tc e).map fun p => (IC.of (.e p.1), p.2)) = some (c, fz) := h
  clear h
  cases q : toI n tc tg e with
  | some r =>
    rw [q] at h2
    cases h2
    exact (snd n).I g.toGd q
  | none =>
    rw [q] at h2
    have h2 : (if (obB tc e && tc.calm) = true then (toE n tc e).map fun p => (IC.own tc.G.its (.e p.1), p.2) else (toE n tc e).map fun p => (IC.of (.e p.1), p.2)) = some (c, fz) := h2
    by_cases hc : (obB tc e && tc.calm) = true
    · rw [if_pos hc] at h2
      exact st_own (snd n) g.toGd (and2 hc).2 h2
    rw [if_neg hc] at h2
    obtain ⟨p, hp, e1⟩ := Option.map_eq_some_iff.mp h2
    cases e1
    exact i_of (pe_F ((snd n).E g.toGd hp))
theorem sa_name {x : Str} {p2 : Pos} {v : Expr} {c : SC} (g : Gs X tc W B C k) (h : chk (notDc v) ((slotL tc x).bind (fun i => (toE n tc v).map fun p => SC.asg i p.1 p.2)) = some c) : PS X (.Assign [.Name x p2] v pos) (tS X B C c.ev W) := by
  obtain ⟨hdc, h0⟩ := chk_ok h
  clear h
  have h := h0
  clear h0
  obtain ⟨i, hi, h2⟩ := bnd_ok h
  obtain ⟨p, hp, e1⟩ := Option.map_eq_some_iff.mp h2
  cases e1
  have h00 := g.ok0 hi
  obtain ⟨a1, a2, a3, a4⟩ := g.slotL hi
  by_cases hc : notComp v = true
  · exact s_asg (g.ok0 hi) g.nd a1 a2.1 ((snd n).E g.toGd hp) (swaps_no hc) a2.2
  · cases v <;> first
      | exact absurd rfl hc
      | (cases hdc; done)
      | (cases n <;> cases hp; done)
      | skip
    rename_i elt gens scope p3
    obtain ⟨b, hb, hbl⟩ := swaps_lc (elt := elt) (gs := gens) (scope := scope) (pos := p3) (py := p2) (y := x) (l := pos.line) g.kind
    cases n with
    | zero => cases hp
    | succ m =>
      cases b with
      | false => exact s_asg (g.ok0 hi) g.nd a1 a2.1 ((snd (m + 1)).E g.toGd hp) hb a2.2
      | true =>
        obtain ⟨c, fz⟩ := p
        obtain ⟨hcm, Pp⟩ := lc_parts (snd m) g.toGd hp
        show PS X _ (tS X B C (sAsg i c.ev fz) W)
        cases Pp with
        | one tg iter ifs it fz1 gt t el fy e0 hi L hs e1 e2 =>
          subst e0 e2
          rw [e1]
          exact s_setLc h00 hcm g.nd a1 (hbl rfl) hb hi L hs
        | two tg iter tg1 iter1 ifs ifs1 it it1 fz1 fz2 gt gt1 t t1 el fy e0 hi L hs hs1 e1 e2 =>
          subst e0 e2
          rw [e1]
          exact s_setLc2 h00 hcm g.nd a1 (hbl rfl) hb hi L hs hs1
theorem sa_tup {es : List Expr} {j : Nat} {p2 : Pos} {v : Expr} {c : SC} (g : Gs X tc W B C k) (h : chk (tc.calm && notTup v) ((tgtOf tc (.Tuple es j p2)).bind fun t => (toE n tc v).map fun p => SC.unp t (.e p.1) p.2) = some c) : PS X (.Assign [.Tuple es j p2] v pos) (tS X B C c.ev W) := by
  obtain ⟨h1, h2⟩ := chk_ok h
  obtain ⟨hcalm, hnt⟩ := and2 h1
  obtain ⟨t, ht, h3⟩ := bnd_ok h2
  obtain ⟨p, hp, e1⟩ := Option.map_eq_some_iff.mp h3
  cases e1
  refine s_unp (pe_F ((snd n).E g.toGd hp)) (tgt_pg g.toGd (g.calm hcalm) ht) (tgt_tg g.toGd ht) (show swapsWith v (some (.Tuple es j p2)) pos.line X.env = pure false from swaps_tup) ?_ rfl
  cases v <;> first
    | rfl
    | cases hnt
theorem sa_attr {o v : Expr} {f : Str} {p2 : Pos} {c : SC} (g : Gs X tc W B C k) (h : (match o with
          | .Name x _ => (slot tc x).bind fun i => (tc.G.fls.lookup f).bind fun cs => (toE n tc v).map fun p => SC.putF i f cs (.e p.1) p.2
          | _ => none) = some c) : PS X (.Assign [.Attribute o f p2] v pos) (tS X B C c.ev W) := by
  cases o <;> first
    | (cases h; done)
    | skip
  rename_i x p3
  obtain ⟨i, hi, h2⟩ := bnd_ok h
  obtain ⟨cs, hcs, h3⟩ := bnd_ok h2
  obtain ⟨p, hp, e1⟩ := Option.map_eq_some_iff.mp h3
  cases e1
  obtain ⟨a1, a2, a3, a4⟩ := g.slot hi
  exact s_putF a1 a2 a3 a4 (pe_F ((snd n).E g.toGd hp)) (fun c hc => g.tab.fl f cs c X at_self hcs hc) swaps_attr
theorem sa_sub {o j v : Expr} {p2 : Pos} {c : SC} (g : Gs X tc W B C k) (h : (match o with
          | .Name x _ => chk (plainIx j) ((slot tc x).bind fun i => (toL n tc j).bind fun q => (toE n tc v).map fun p => SC.putIx i q.1 (.e p.1) p.2)
          | _ => none) = some c) : PS X (.Assign [.Subscript o j p2] v pos) (tS X B C c.ev W) := by
  cases o <;> first
    | (cases h; done)
    | skip
  rename_i x p3
  obtain ⟨h1, h2⟩ := chk_ok h
  obtain ⟨i, hi, h3⟩ := bnd_ok h2
  obtain ⟨q, hq, h4⟩ := bnd_ok h3
  obtain ⟨p, hp, e1⟩ := Option.map_eq_some_iff.mp h4
  cases e1
  obtain ⟨a1, a2, a3, a4⟩ := g.slot hi
  exact s_putIx a1 a2 a3 a4 (pe_F ((snd n).E g.toGd hp)) ((snd n).L g.toGd hq) h1 (show swapsWith v (some (.Subscript (.Name x p3) j p2)) pos.line X.env = pure false from swaps_sub) (by cases v <;> rfl)
theorem ss_ret {o : Option Expr} {c : SC} (g : Gs X tc W B C k) (h : toS (n + 1) tc (.Return o pos) = some c) : PS X (.Return o pos) (tS X B C c.ev W) := by
  cases o with
  | none =>
    have h : some (SC.ret (.k .non)) = some c := h
    cases h
    exact s_retN
  | some e =>
    have plain : ∀ {e : Expr} {c : SC}, ((toE n tc e).map fun p => SC.ret p.1) = some c → PS X (.Return (some e) pos) (tS X B C c.ev W) := fun h => by
      obtain ⟨p, hp, e1⟩ := Option.map_eq_some_iff.mp h
      cases e1
      exact s_ret ((snd n).E g.toGd hp)
    cases e <;> first
      | exact plain h
      | skip
    rename_i x p2
    have h2 : (match slot tc x with
      | some i => some (SC.retv i)
      | none => (toE n tc (.Name x p2)).map fun p => SC.ret p.1) = some c := h
    clear h
    cases q : slot tc x with
    | none => rw [q] at h2; exact plain h2
    | some i =>
      rw [q] at h2
      cases h2
      obtain ⟨a1, a2, a3, a4⟩ := g.slot q
      exact s_retV a1 a2 a3 a4
theorem app_ok {e : Expr} {x : Str} {a : Expr} (h : appOf e = some (x, a)) : ∃ p2 apos cpos, e = .Call (.Attribute (.Name x p2) "append" apos) [a] [] cpos ∧ notStar a = true ∧ (apos.endLine == cpos.line) = true := by
  unfold appOf at h
  split at h
  · obtain ⟨h1, h2⟩ := chk_ok h
    cases h2
    obtain ⟨h3, h4⟩ := and2 h1
    obtain ⟨h5, h6⟩ := and2 h3
    rw [of_decide_eq_true h5]
    exact ⟨_, _, _, rfl, h6, h4⟩
  · cases h
theorem rev_ok {e : Expr} {x : Str} (h : revOf e = some x) : ∃ p2 apos cpos, e = .Call (.Attribute (.Name x p2) "reverse" apos) [] [] cpos ∧ (apos.endLine == cpos.line) = true := by
  unfold revOf at h
  split at h
  · obtain ⟨h1, h2⟩ := chk_ok h
    cases h2
    obtain ⟨h3, h4⟩ := and2 h1
    rw [of_decide_eq_true h3]
    exact ⟨_, _, _, rfl, h4⟩
  · cases h
theorem ss_expr {e : Expr} {c : SC} (g : Gs X tc W B C k) (h : toS (n + 1) tc (.Expr e pos) = some c) : PS X (.Expr e pos) (tS X B C c.ev W) := by
  have h2 : (match appOf e with
      | some p => (slot tc p.1).bind fun i => (toE n tc p.2).map fun q => SC.app i (.e q.1) q.2
      | none => match revOf e with
        | some x => (slot tc x).map SC.rev
        | none => chk (notComp e) ((toE n tc e).map fun p => SC.drop p.1)) = some c := h
  clear h
  cases q : appOf e with
  | some p =>
    rw [q] at h2
    obtain ⟨x, a⟩ := p
    obtain ⟨p2, apos, cpos, rfl, hns, hl⟩ := app_ok S q
    obtain ⟨i, hi, h3⟩ := bnd_ok h2
    obtain ⟨r, hr, e1⟩ := Option.map_eq_some_iff.mp h3
    cases e1
    obtain ⟨a1, a2, a3, a4⟩ := g.slot hi
    exact s_app a1 a2 a3 a4 (pe_F ((snd n).E g.toGd hr)) hns hl
  | none =>
    rw [q] at h2
    have h3 : (match revOf e with
        | some x => (slot tc x).map SC.rev
        | none => chk (notComp e) ((toE n tc e).map fun p => SC.drop p.1)) = some c := h2
    clear h2
    cases q2 : revOf e with
    | some x =>
      rw [q2] at h3
      obtain ⟨p2, apos, cpos, rfl, hl⟩ := rev_ok S q2
      obtain ⟨i, hi, e1⟩ := Option.map_eq_some_iff.mp h3
      cases e1
      obtain ⟨a1, a2, a3, a4⟩ := g.slot hi
      exact s_rev a1 a2 a3 a4 hl
    | none =>
      rw [q2] at h3
      obtain ⟨h4, h5⟩ := chk_ok h3
      obtain ⟨p, hp, e1⟩ := Option.map_eq_some_iff.mp h5
      cases e1
      exact s_drop ((snd n).E g.toGd hp) (swaps_no h4)
theorem raise_ok {e c : Option Expr} {x : Str} (h : raiseOf e c = some x) : ∃ p2 m j p3 p4, e = some (.Call (.Name x p2) [.Constant (.str m) j p3] [] p4) ∧ c = none := by
  unfold raiseOf at h
  split at h
  · cases h
    exact ⟨_, _, _, _, _, rfl, rfl⟩
  · cases h
theorem ss_H {hs : List ExceptHandler} {c : HC} (g : Gs X tc W B C k) (hcalm : tc.calm = true) (hne : tc.er = none) (h : toHs (n + 1) tc hs = some c) : ∃ l, HdsOk X hs l ∧ HcOk X B C c.ev l := by
  unfold toHs at h
  split at h
  · cases h
    exact ⟨[], .nil, trivial⟩
  · rename_i x np b0 r hp t
    obtain ⟨h1, h2⟩ := chk_ok h
    obtain ⟨m, hm, h3⟩ := bnd_ok h2
    obtain ⟨s, hs, h4⟩ := bnd_ok h3
    obtain ⟨hc, ht, e1⟩ := Option.map_eq_some_iff.mp h4
    cases e1
    obtain ⟨l, l1, l2⟩ := S.H g hcalm hne ht
    obtain ⟨gx, gd⟩ := g.glob h1
    obtain ⟨Ca, hCa, hM⟩ := g.tab.xm x m X at_self hm
    have hN : Names X x (.ref Ca) := ⟨gx, gd, .inl hCa⟩
    exact ⟨(.ref Ca, fun _ _ _ => tS X B C s.ev fun _ _ _ _ => False) :: l, .cons hN (fun a oe cls d pn hz hf => S.Ss (g.suite0 (oe := oe) hne) hs) l1, rfl, hM, l2⟩
  · cases h
theorem ss_try {b : List Stmt} {hs : List ExceptHandler} {c : SC} (g : Gs X tc W B C k) (hcalm : tc.calm = true) (hne : tc.er = none) (h : (match hs with
      | [.ExceptHandler (some (.Name x _)) nm (b0 :: r) _] => chk (globB tc x) ((tc.G.xms.lookup x).bind fun m => (toSs n tc b).bind fun b => match nm with
        | none => (toSs n { tc with calm := false } (b0 :: r)).map fun s => SC.tryOnly b m s
        | some y => chk (isLoc tc y) ((slotL tc y).bind fun i => (toSs n { tc with calm := false, er := some y } (b0 :: r)).map fun s => SC.tryAs b i m s))
      | _ => chk (!hs.isEmpty) ((toSs n tc b).bind fun b => (toHs n tc hs).map fun h => SC.tryMany b h)) = some c) : PS X (.Try b hs [] [] pos) (tS X B C c.ev W) := by
  split at h
  · rename_i x np nm b0 r hp
    obtain ⟨h1, h2⟩ := chk_ok h
    obtain ⟨m, hm, h3⟩ := bnd_ok h2
    obtain ⟨bc, hb, h4⟩ := bnd_ok h3
    obtain ⟨gx, gd⟩ := g.glob h1
    obtain ⟨Ca, hCa, hM⟩ := g.tab.xm x m X at_self hm
    have hN : Names X x (.ref Ca) := ⟨gx, gd, .inl hCa⟩
    cases nm with
    | none =>
      obtain ⟨s, hs, e1⟩ := Option.map_eq_some_iff.mp h4
      cases e1
      exact s_try_only g.st1 g.st2 hN hM g.tk (fun W' pn xe tk ps => S.Ss (g.tr hcalm hne tk ps) hb) fun a oe cls d pn hz hf => S.Ss (g.suite0 (oe := oe) hne) hs
    | some y =>
      obtain ⟨hloc, h6⟩ := chk_ok h4
      obtain ⟨i, hi, h5⟩ := bnd_ok h6
      obtain ⟨s, hs, e1⟩ := Option.map_eq_some_iff.mp h5
      cases e1
      obtain ⟨a1, a2, a3, a4⟩ := g.slotL hi
      have hln : X.env.kindOf y = some .local := by
        show X.env.scope.names.lookup y = some .local
        rw [g.sc]
        exact of_decide_eq_true hloc
      exact s_try_as (g.ok0 hi) (g.er0 hcalm) g.st1 g.st2 g.nd a1 hln hN hM g.tk (fun W' pn xe tk ps => S.Ss (g.tr hcalm hne tk ps) hb) fun a oe cls d pn hz hf => S.Ss (g.suite hz hf (some y)) hs
  · obtain ⟨h1, h2⟩ := chk_ok h
    obtain ⟨bc, hb, h3⟩ := bnd_ok h2
    obtain ⟨hc, hh, e1⟩ := Option.map_eq_some_iff.mp h3
    cases e1
    obtain ⟨l, l1, l2⟩ := S.H g hcalm hne hh
    cases hs with
    | nil => cases h1
    | cons h0 hds => exact s_try_many g.st1 g.st2 g.tk (fun W' pn xe tk ps => S.Ss (g.tr hcalm hne tk ps) hb) l1 l2
theorem ss_S {st : Stmt} {c : SC} (g : Gs X tc W B C k) (h : toS (n + 1) tc st = some c) : PS X st (tS X B C c.ev W) := by
  cases st <;> first
    | (cases h; done)
    | skip
  · exact ss_ret S g h
  · rename_i ts v pos
    cases ts with
    | nil => cases h
    | cons t r =>
      cases r with
      | cons _ _ => cases h
      | nil =>
        cases t <;> first
          | (cases h; done)
          | skip
        · exact sa_attr S g h
        · exact sa_sub S g h
        · exact sa_name S g h
        · exact sa_tup S g h
  · rename_i tg it b els pos
    obtain ⟨h1, h2⟩ := chk_ok h
    obtain ⟨h3, hns⟩ := and2 h1
    obtain ⟨hels, hcalm⟩ := and2 h3
    have he : els = [] := List.isEmpty_iff.mp hels
    subst he
    obtain ⟨i, hi, h4⟩ := bnd_ok h2
    obtain ⟨t, ht, h5⟩ := bnd_ok h4
    obtain ⟨bc, hb, e1⟩ := Option.map_eq_some_iff.mp h5
    cases e1
    exact s_for g.ps (g.calm hcalm) (S.K g hi) (tgt_pg g.toGd (g.calm hcalm) ht) (tgt_tg g.toGd ht) (S.Ss g hb) (fold_ok hns)
  · rename_i t b els pos
    obtain ⟨hels, h2⟩ := chk_ok h
    have he : els = [] := List.isEmpty_iff.mp hels
    subst he
    obtain ⟨tc', ht, h3⟩ := bnd_ok h2
    obtain ⟨bc, hb, e1⟩ := Option.map_eq_some_iff.mp h3
    cases e1
    exact s_while g.ps ((snd n).T g.toGd ht) (S.Ss g hb)
  · rename_i t a b pos
    obtain ⟨tc', ht, h3⟩ := bnd_ok h
    obtain ⟨ac, ha, h4⟩ := bnd_ok h3
    obtain ⟨bc, hb, e1⟩ := Option.map_eq_some_iff.mp h4
    cases e1
    exact s_if ((snd n).T g.toGd ht) (S.Ss g ha) (S.Ss g hb)
  · rename_i e c' pos
    obtain ⟨hcalm, h2⟩ := chk_ok h
    obtain ⟨x, hx, h3⟩ := bnd_ok h2
    obtain ⟨h4, h5⟩ := chk_ok h3
    cases h5
    obtain ⟨h6, h7⟩ := and2 h4
    obtain ⟨p2, m, j, p3, p4, rfl, rfl⟩ := raise_ok S hx
    obtain ⟨gx, gd⟩ := g.glob h6
    exact s_raise (g.calm hcalm) g.tk (g.tab.er x X at_self h7) gx gd
  · rename_i b hs els fin pos
    obtain ⟨h1, h2⟩ := chk_ok h
    obtain ⟨h3, hne⟩ := and2 h1
    obtain ⟨h4, hcalm⟩ := and2 h3
    obtain ⟨hels, hfin⟩ := and2 h4
    have he : els = [] := List.isEmpty_iff.mp hels
    have hf : fin = [] := List.isEmpty_iff.mp hfin
    subst he hf
    exact ss_try S g hcalm (Option.isNone_iff_eq_none.mp hne) h2
  · exact ss_expr S g h
  · cases h; exact s_pass
  · cases h; exact s_break
  · cases h; exact s_cont
end
theorem sndS : ∀ n : Nat, SndS n
  | 0 => ⟨fun _ h => (nomatch h), fun _ h => (nomatch h), fun _ h => (nomatch h), fun _ _ _ h => (nomatch h)⟩
  | n + 1 => ⟨ss_S (sndS n), ss_Ss (sndS n), ss_K (sndS n), ss_H (sndS n)⟩
end DN
/-! Den27: defs, the run by levels. -/
namespace DN
open PySem PySem.Spec PyProof.Rows L2
section
variable {K : PySem.W.Frag} {mg : Str → Option Value} {F H : Hp}
theorem frs_get : ∀ {ds : List D} {i : Nat} {x : Sl}, (frs0 ds)[i]? = some (some x) → ∃ d, ds[i]? = some d ∧ x = .fr d := fun {ds i x} h => by
  unfold frs0 at h
  rw [List.getElem?_map] at h
  cases q : ds[i]? with
  | none => rw [q] at h; cases h
  | some d =>
    rw [q] at h
    cases h
    exact ⟨d, rfl, rfl⟩
theorem RpL.getA : ∀ {ds : List D} {vs : List V} {i : Nat} {d : D}, RpL K mg F vs ds → ds[i]? = some d → ∃ v, vs[i]? = some v ∧ Rp K mg F v d
  | [], _, _, _, _, h => by simp at h
  | e :: ds, vs, i, d, ⟨v, r, e1, h1, h2⟩, h => by
    subst e1
    cases i with
    | zero =>
      simp only [List.getElem?_cons_zero, Option.some.injEq] at h
      subst h
      exact ⟨v, rfl, h1⟩
    | succ j =>
      simp only [List.getElem?_cons_succ] at h ⊢
      exact RpL.getA h2 h
theorem app_get {α : Type} {a b : List α} {i : Nat} {x : α} (h : (a ++ b)[i]? = some x) : (i < a.length ∧ a[i]? = some x) ∨ (a.length ≤ i ∧ b[i - a.length]? = some x) := by
  by_cases c : i < a.length
  · rw [List.getElem?_append_left c] at h
    exact .inl ⟨c, h⟩
  · rw [List.getElem?_append_right (by omega)] at h
    exact .inr ⟨by omega, h⟩
/-- the parameters' slots at the start -/
theorem slots_start {ds : List D} {vs : List V} {n : Nat} (r : RpL K mg F vs ds) {i : Nat} {x : Sl} (h : (frs0 ds ++ List.replicate n (none : Option Sl))[i]? = some (some x)) : ∃ d v, x = .fr d ∧ (vs.map some ++ List.replicate n (none : Option V))[i]? = some (some v) ∧ Rp K mg F v d := by
  have el : (frs0 ds).length = vs.length := by unfold frs0; rw [List.length_map, r.len]
  rcases app_get h with ⟨c, h⟩ | ⟨c, h⟩
  · obtain ⟨d, hd, e⟩ := frs_get h
    obtain ⟨v, hv, hr⟩ := r.getA hd
    refine ⟨d, v, e, ?_, hr⟩
    rw [List.getElem?_append_left (by rw [List.length_map, ← el]; exact c), List.getElem?_map, hv]
    rfl
  · rw [List.getElem?_replicate] at h
    split at h <;> cases h
end
section
variable {P : Program} {w : World} {K : PySem.W.Frag} {mg : Str → Option Value} {base : Heap} {G : Glob} {C : Call} {k m : Nat} {x qual : Str} {params : Arguments} {body : List Stmt} {scope : Scope} {dvs : List V} {kws : List (Str × V)} {f : Addr} {fd : FuncData} {N ps : List Str} {d : Def}
/-- the context of a def's body -/
theorem gs_def {cdv : Value} {A : Around} {outer : List Env} {s : Shared} {H H0 : Hp} {E : XK} {ini : Bool} {me : Option Addr} (tab : Tab G P w K mg base C k) (S : FnScope N ps scope) (hr : Room (k + 1) (A.deeper (envOfC qual scope s.heap.objs.size f cdv))) (hm : ini = false → me = none) :
    Gs (cxOf (L2.CX P w) P w K mg base N qual scope f cdv A outer s H E) ⟨N, scope, true, G, none, ini, true, []⟩ (fun cls d _ H => E cls d H) ⟨H0, none, me⟩ C k :=
  ⟨⟨fun z => (nomatch z), hm, fun _ _ => rfl, (fun _ z => absurd z List.not_mem_nil), rfl, S.nd, rfl, S.kind, fun _ => rfl, fun _ => hr, (by have := hr.un; show (A.deeper (envOfC qual scope s.heap.objs.size f cdv)).units + 65 < cLine; omega), takes_of rfl rfl rfl rfl, passes_of rfl, tab⟩, rfl, rfl, fun _ => rfl⟩
theorem body_ok (S : FnScope N ps scope) (tab : Tab G P w K mg base C k) (hi : d.ini = false) (hN : d.N = N) (hp : d.np = ps.length) (hc : toSs m ⟨N, scope, true, G, none, false, true, []⟩ body = some d.code) (cdv : Value) (A : Around) (outer : List Env) (s : Shared) (H : Hp) (vs : List V) (Q : VK) (E : XK)
    (hr : Room (k + 1) (A.deeper (envOfC qual scope s.heap.objs.size f cdv))) (hsp : spD K mg ps.length (runD d C) vs H Q E) :
    ∃ t, PSs (cxOf (L2.CX P w) P w K mg base N qual scope f cdv A outer s H E) body t ∧ t { nx := fun _ H' => Q .non H', rt := Q } (L2.start N vs) H := by
  have g := gs_def (ini := false) (me := none) (H0 := H) (outer := outer) (H := H) (E := E) tab S hr fun _ => rfl
  refine ⟨_, (sndS m).Ss g hc, ?_⟩
  obtain ⟨hl, Fz, ds, hs, hv, hq⟩ := hsp
  have hdl : ds.length = d.np := by rw [hp, ← hl]; exact hv.len.symm
  unfold runD at hq
  rw [if_neg (by rw [hi]; exact Bool.false_ne_true), if_pos hdl, hN, hp, ← hl] at hq
  refine ⟨Fz, Fz, frs0 ds ++ List.replicate (N.length - vs.length) none, ⟨⟨?_, .refl _, hs, fun i x e => ?_, fun i j y z a hij e1 => ?_, fun a e => (nomatch e)⟩, .refl _, fun a o h => .inl h, fun i y a e1 => ?_⟩, ?_⟩
  · unfold frs0 L2.start
    rw [List.length_append, List.length_append, List.length_map, List.length_map, List.length_replicate, List.length_replicate, hv.len]
  · obtain ⟨y, v, rfl, e1, e2⟩ := slots_start hv e
    exact ⟨v, e1, e2⟩
  · obtain ⟨y', v, e, _⟩ := slots_start hv e1
    cases e
  · obtain ⟨y', v, e, _⟩ := slots_start hv e1
    cases e
  · have stp : ∀ {F' H' : Hp} {σ' : L2.St} {s' : SE}, RelS K mg ⟨H, none, none⟩ Fz F' H' σ' s' → Stp Z0 Fz H F' H' := fun r => ⟨r.f0, r.h0, r.fh, fun a o z => (r.fresh a o z).elim .inl fun z => .inr (.inl z)⟩
    cases q : d.code.ev C (frs0 ds ++ List.replicate (N.length - vs.length) none) with
    | nx s' =>
      rw [q] at hq
      exact fun σ' F' H' r => hq _ F' H' (stp r) rfl
    | rt b y =>
      rw [q] at hq
      exact fun v F' H' r hv => hq v F' H' ⟨r.f0, r.h0, r.fh, fun a o z => (r.fresh a o z).elim .inl fun z => .inr (.inl z)⟩ hv
    | bk s' => rw [q] at hq; exact hq.elim
    | ct s' => rw [q] at hq; exact hq.elim
    | ex c fs s' =>
      rw [q] at hq
      exact fun cls dd σ' F' H' r hx => hq cls dd H' r.h0 hx
    | bad => rw [q] at hq; exact hq.elim
theorem def_ok (FD : FunD K x qual params body scope dvs kws f fd) (S : FnScope N ps scope) (tab : Tab G P w K mg base C k) (hi : d.ini = false) (hN : d.N = N) (hp : d.np = ps.length) (hc : toSs m ⟨N, scope, true, G, none, false, true, []⟩ body = some d.code) :
    FnOk P w K mg base (L2.CX P w) (k + 2) f fd ps (spD K mg ps.length (runD d C)) := by
  exact FD.ok S (fun vs H Q E h => h.1) fun cdv A outer s H vs Q E hr hsp => body_ok S tab hi hN hp hc cdv A outer s H vs Q E hr hsp
/-- an __init__ -/
theorem init_ok (FD : FunD K x qual params body scope dvs kws f fd) (S : FnScope N ps scope) (tab : Tab G P w K mg base C k) (hi : d.ini = true) (hN : d.N = N) (hp : d.np = ps.length) {n : Nat} (hn : n + 1 = ps.length) (hc : toSs m ⟨N, scope, true, G, none, true, true, []⟩ body = some d.code) :
    FnOk P w K mg base (L2.CX P w) (k + 2) f fd ps (spI K mg d.key.1 n (runD d C)) := by
  refine FD.ok S (fun vs H Q E h => h.1.trans hn) fun cdv A outer s H vs Q E hr hsp => ?_
  obtain ⟨hl, a, Ca, dx, ws, H0, Fz, ds, rfl, hmc, hHa, hH0, hs0, hs, hv, hq⟩ := hsp
  have g := gs_def (ini := true) (me := some a) (H0 := H0) (outer := outer) (H := H) (E := E) tab S hr fun z => (nomatch z)
  refine ⟨_, (sndS m).Ss g hc, ?_⟩
  have hwl : ws.length = n := by rw [List.length_cons] at hl; omega
  have hdl : ds.length + 1 = d.np := by rw [hp, ← hn, ← hwl, hv.len]
  unfold runD at hq
  rw [if_pos hi, if_pos hdl, hN, hp, ← hn] at hq
  refine ⟨Fz, Fz, some (.ow (.obj d.key.1 [])) :: (frs0 ds ++ List.replicate (N.length - (n + 1)) none), ⟨⟨?_, hs0, hs.trans hs0, fun i x e => ?_, fun i j y z b hij e1 e2 e3 => ?_, fun b e => ?_⟩, .refl _, fun a o h => .inl h, fun i y b e1 e2 => ?_⟩, ?_⟩
  · unfold frs0 L2.start
    rw [List.length_cons, List.length_append, List.length_append, List.length_map, List.length_map, List.length_replicate, List.length_replicate, List.length_cons, hv.len, ← hwl, hv.len]
    omega
  · cases i with
    | zero =>
      simp only [List.getElem?_cons_zero, Option.some.injEq] at e
      subst e
      exact ⟨.ref a, rfl, a, rfl, hH0, Ca, dx, [], hmc, hHa, rfl⟩
    | succ i =>
      simp only [List.getElem?_cons_succ] at e
      obtain ⟨y, v, rfl, e1, e2⟩ := slots_start hv e
      refine ⟨v, ?_, e2⟩
      show ((some (V.ref a) :: ws.map some) ++ List.replicate (N.length - (V.ref a :: ws).length) none)[i + 1]? = _
      rw [List.cons_append, List.getElem?_cons_succ, List.length_cons, hwl]
      exact e1
  · cases i with
    | succ i =>
      simp only [List.getElem?_cons_succ] at e1
      obtain ⟨y', v, e, _⟩ := slots_start hv e1
      cases e
    | zero =>
      cases j with
      | zero => exact absurd rfl hij
      | succ j =>
        simp only [List.getElem?_cons_succ] at e2
        obtain ⟨y', v, e, _⟩ := slots_start hv e2
        cases e
  · cases e
    rfl
  · cases i with
    | succ i =>
      simp only [List.getElem?_cons_succ] at e1
      obtain ⟨y', v, e, _⟩ := slots_start hv e1
      cases e
    | zero =>
      have e3 : some (some (V.ref a)) = some (some (V.ref b)) := e2
      cases e3
      exact hs.free hH0
  · have stp : ∀ {F' H' : Hp} {σ' : L2.St} {s' : SE}, RelS K mg ⟨H0, none, some a⟩ Fz F' H' σ' s' → Stp Z0 Fz H0 F' H' := fun r => ⟨r.f0, r.h0, r.fh, fun a o z => (r.fresh a o z).elim .inl fun z => .inr (.inl z)⟩
    cases q : d.code.ev C (some (.ow (.obj d.key.1 [])) :: (frs0 ds ++ List.replicate (N.length - (n + 1)) none)) with
    | nx s' =>
      rw [q] at hq
      intro σ' F' H' r
      simp only [fin, if_true] at hq
      split at hq
      · rename_i y hy
        split at hy
        · rename_i y' hy'
          cases hy
          obtain ⟨v, ev, b, eb, _, hO⟩ := r.slot 0 _ hy'
          have e4 := r.me a rfl
          rw [ev] at e4
          cases e4
          cases eb
          exact hq F' H' (stp r) (r.own 0 y a hy' ev) hO
        · cases hy
      · exact hq.elim
      · rename_i hy
        split at hy <;> cases hy
      · exact hq.elim
    | rt b y => rw [q] at hq; exact hq.elim
    | bk s' => rw [q] at hq; exact hq.elim
    | ct s' => rw [q] at hq; exact hq.elim
    | ex c fs s' =>
      rw [q] at hq
      exact fun cls dd σ' F' H' r hx => hq cls dd H' r.h0 hx
    | bad => rw [q] at hq; exact hq.elim
/-- a def with *args -/
theorem star_ok {ps0 : List Str} {pv : Str} (FD : FunD K x qual params body scope [] [] f fd) (S : FnScope N (ps0 ++ [pv]) scope) (tab : Tab G P w K mg base C k) (hi : d.ini = false) (hN : d.N = N) (hp : d.np = (ps0 ++ [pv]).length) (hc : toSs m ⟨N, scope, true, G, none, false, true, []⟩ body = some d.code)
    (hb : ∀ (kV doc pm : Value) (an : Option Addr) (cdv ct : Value) (us rest : List Value), us.length = ps0.length → bindArgs (PySem.W.fnOf x qual params body scope .none kV doc pm an cdv ct) ⟨us ++ rest, []⟩ = (newTuple rest >>= fun t => pure (ps0.zip us ++ [(pv, t)]))) :
    FnR P w K mg base (L2.CX P w) (k + 2) f (spS K mg ps0.length (runD d C)) := by
  obtain ⟨oc, od, dV, kV, doc, pm, an, cdv, ct, osl, rfl, lk, hcd, hD, _⟩ := FD.ex
  rcases hD with ⟨_, rfl⟩ | ⟨e, _⟩
  case inr => exact absurd rfl e
  have F0 := StX.fn_star (CX := L2.CX P w) (P := P) (w := w) (mg := mg) (base := base) (k := k + 1) (sp := spD K mg (ps0 ++ [pv]).length (runD d C)) lk hcd S StX.cxUp (fun us rest hl => hb kV doc pm an cdv ct us rest hl) fun A outer s H vs Q E hr hsp => body_ok S tab hi hN hp hc cdv A outer s H vs Q E hr hsp
  intro A outer s H us vs Q E hr e0 rv hsp
  refine F0 A outer s H us vs Q E hr e0 rv ?_
  obtain ⟨hle, Fz, ds, hs, hv, hz, hq⟩ := hsp
  have hdl := hv.len
  refine ⟨vs.take ps0.length, vs.drop ps0.length, (List.take_append_drop _ _).symm, by rw [List.length_take]; omega, ?_, fun q hq0 => ?_⟩
  · rw [List.length_drop]
    have := lim_size hz
    omega
  · have nq : Fz q = none := hs.free hq0
    refine ⟨by rw [List.length_append, List.length_append, List.length_take]; show min ps0.length vs.length + 1 = ps0.length + 1; omega, upd Fz q (.tup (vs.drop ps0.length)), ds.take ps0.length ++ [.tup (ds.drop ps0.length)], same_both hs, ?_, ?_⟩
    · refine ((RpL.take _ hv).mono (same_new nq)).append (RpL.cons ⟨q, _, rfl, upd_same, (RpL.drop _ hv).mono (same_new nq)⟩ rfl)
    · have st0 : Stp Z0 Fz H (upd Fz q (.tup (vs.drop ps0.length))) (upd H q (.tup (vs.drop ps0.length))) := .new hs hq0
      cases k1 : runD d C (ds.take ps0.length ++ [.tup (ds.drop ps0.length)]) with
      | ok r =>
        obtain ⟨b, y⟩ := r
        rw [k1] at hq
        refine fun v F' H' t hvr => hq v F' H' (st0.trans t) ?_
        cases b with
        | false => exact hvr
        | true =>
          obtain ⟨a, e, n, r⟩ := hvr
          exact ⟨a, e, (same_new hq0).free n, r⟩
      | ex c fs =>
        rw [k1] at hq
        exact fun cls dd H' t hx => hq cls dd H' ((same_new hq0).trans t) hx
      | bad => rw [k1] at hq; exact hq
end
end DN
/-! Den28: all levels. -/
namespace DN
open PySem PySem.Spec PyProof.Rows L2
theorem mem_look {α β : Type} [BEq α] [LawfulBEq α] : ∀ {l : List (α × β)} {a : α} {b : β}, l.lookup a = some b → (a, b) ∈ l
  | [], _, _, h => by cases h
  | (k, v) :: r, a, b, h => by
    rw [List.lookup_cons] at h
    cases q : a == k with
    | true =>
      rw [q] at h
      cases h
      rw [beq_iff_eq.mp q]
      exact List.mem_cons_self
    | false =>
      rw [q] at h
      exact List.mem_cons_of_mem _ (mem_look h)
/-- a def of the table: where it stands, what the translation makes of it -/
structure RecOk (K : PySem.W.Frag) (G : Glob) (m : Nat) (L : List Def) (key : Fn) (ini : Bool) (f : Addr) (fd : FuncData) (ps : List Str) : Prop where
  ex : ∃ x qual params body scope dvs kws N d, FunD K x qual params body scope dvs kws f fd ∧ FnScope N ps scope ∧ (L.find? fun d => decide (d.key = key)) = some d ∧ d.ini = ini ∧ d.N = N ∧ d.np = ps.length ∧ toSs m ⟨N, scope, true, G, none, ini, true, []⟩ body = some d.code
/-- .. one with *args behind p parameters -/
structure RecS (K : PySem.W.Frag) (G : Glob) (m : Nat) (L : List Def) (key : Fn) (f : Addr) (p : Nat) : Prop where
  ex : ∃ x qual params body scope N d fd ps pv, FunD K x qual params body scope [] [] f fd ∧ FnScope N (ps ++ [pv]) scope ∧ ps.length = p ∧ (L.find? fun d => decide (d.key = key)) = some d ∧ d.ini = false ∧ d.N = N ∧ d.np = (ps ++ [pv]).length ∧ toSs m ⟨N, scope, true, G, none, false, true, []⟩ body = some d.code ∧
    ∀ (kV doc pm : Value) (an : Option Addr) (cdv ct : Value) (us rest : List Value), us.length = ps.length → bindArgs (PySem.W.fnOf x qual params body scope .none kV doc pm an cdv ct) ⟨us ++ rest, []⟩ = (newTuple rest >>= fun t => pure (ps.zip us ++ [(pv, t)]))
/-- n arguments are written, the defaults dfs fill up -/
structure Bd (K : PySem.W.Frag) (mg : Str → Option Value) (fd : FuncData) (ps : List Str) (n : Nat) (dfs : List CK) : Prop where
  hn : n + dfs.length = ps.length
  ex : ∃ dvs ds, Vals dvs ds ∧ Binds K fd ps ds ∧ ds.length = dfs.length ∧ ∀ F, RpL K mg F dvs (dfs.map CK.d)
structure Fx (G : Glob) (P : Program) (w : World) (K : PySem.W.Frag) (mg : Str → Option Value) (base : Heap) (m : Nat) (L : List Def) : Prop where
  fn : ∀ x n dfs, G.fns.lookup (x, n) = some dfs → ∃ f fd ps, mg x = some (.ref f) ∧ PySem.W.keepIn K (.ref f) = true ∧ RecOk K G m L (x, none) false f fd ps ∧ Bd K mg fd ps n dfs
  mke : ∀ x n dfs, G.mks.lookup (x, n) = some dfs → ∃ Ca f fd ps, mg x = some (.ref Ca) ∧ Mk K Ca f ∧ RecOk K G m L (x, some "__init__") true f fd ps ∧ Bd K mg fd ps (n + 1) dfs
  mt : ∀ y n tb c dfs, G.mts.lookup (y, n) = some tb → tb.lookup c = some dfs → ∃ Ca f fd ps, mg c = some (.ref Ca) ∧ Cls K Ca ∧ Meth K Ca y f ∧ PySem.W.keepIn K (.ref f) = true ∧ RecOk K G m L (c, some y) false f fd ps ∧ Bd K mg fd ps (n + 1) dfs
  st : ∀ x p, G.sts.lookup x = some p → ∃ f, mg x = some (.ref f) ∧ PySem.W.keepIn K (.ref f) = true ∧ RecS K G m L (x, none) f p
  ctn : ∀ c, G.ctn.contains c = true → ∃ Ca f fd ps, mg c = some (.ref Ca) ∧ Cls K Ca ∧ Meth K Ca "__contains__" f ∧ PySem.W.keepIn K (.ref f) = true ∧ RecOk K G m L (c, some "__contains__") false f fd ps ∧ Bd K mg fd ps 2 []
  its : ∀ c F X, At P w K mg base X → G.its.lookup c = some F → IterAt X c F
  pr : ∀ y cs c, G.prs.lookup y = some cs → cs.contains c = true → ∃ Ca p f fd ps, mg c = some (.ref Ca) ∧ Cls K Ca ∧ PropOf K Ca y p f ∧ RecOk K G m L (c, some y) false f fd ps ∧ 1 = ps.length ∧ Binds K fd ps []
  cn : ∀ m tb c q X, At P w K mg base X → G.cns.lookup m = some tb → tb.lookup c = some q → ConAt X c m q.d
  cc : ∀ x f q X, At P w K mg base X → G.ccs.lookup (x, f) = some q → CcAt X x f q.d
  fl : ∀ f cs c X, At P w K mg base X → G.fls.lookup f = some cs → cs.contains c = true → FldOk X c f
  va : ∀ x q X, At P w K mg base X → G.vas.lookup x = some q → ∃ v u, X.mg x = some u ∧ RelV v u ∧ ∀ F, Rp X.K X.mg F v q.d
  fr : ∀ x X, At P w K mg base X → G.frs.contains x = true → X.mg x = none
  er : ∀ c X, At P w K mg base X → G.ers.contains c = true → ErrAt X c
  xi : ∀ x m c b X, At P w K mg base X → G.xis.lookup x = some m → m.lookup c = some b → ∃ Cx', X.mg x = some (.ref Cx') ∧ ∀ D, X.mg c = some (.ref D) → ExcC X.K D ∧ PySem.W.kitOne X.K (.ref D) (.ref Cx') = some b
  xq : ∀ x m X, At P w K mg base X → G.xis.lookup x = some m → ∃ Cx', X.mg x = some (.ref Cx')
  xm : ∀ x m X, At P w K mg base X → G.xms.lookup x = some m → ∃ Ca, X.mg x = some (.ref Ca) ∧ MatchOk X (fun c => m.lookup c) (.ref Ca)
section
variable {G : Glob} {P : Program} {w : World} {K : PySem.W.Frag} {mg : Str → Option Value} {base : Heap} {m : Nat} {L : List Def} {n : Nat}
theorem run_at_key {key : Fn} {d : Def} (h : (L.find? fun d => decide (d.key = key)) = some d) : run L (n + 1) key = runD d (run L n) := by
  show (fun ds => match L.find? fun d => decide (d.key = key) with
    | some d => runD d (run L n) ds
    | none => R.bad) = _
  rw [h]
/-- a def at its level -/
theorem rec_fn {key : Fn} {f : Addr} {fd : FuncData} {ps : List Str} (R : RecOk K G m L key false f fd ps) (t : ∀ j, j < n → Tab G P w K mg base (run L j) (2 * j)) : FnOk P w K mg base (L2.CX P w) (2 * n) f fd ps (spD K mg ps.length (run L n key)) := by
  obtain ⟨x, qual, params, body, scope, dvs, kws, N, d, FD, S, hf, hi, hN, hp, hc⟩ := R.ex
  cases n with
  | zero => exact ⟨fun vs H Q E h => h.1, fun A outer s H args us vs Q E _ _ _ _ h => by obtain ⟨_, _, _, _, _, z⟩ := h; exact z.elim⟩
  | succ n =>
    rw [run_at_key hf]
    exact def_ok FD S (t n (Nat.lt_succ_self n)) hi hN hp hc
theorem rec_star {key : Fn} {f : Addr} {p : Nat} (R : RecS K G m L key f p) (t : ∀ j, j < n → Tab G P w K mg base (run L j) (2 * j)) : FnR P w K mg base (L2.CX P w) (2 * n) f (spS K mg p (run L n key)) := by
  obtain ⟨x, qual, params, body, scope, N, d, fd, ps, pv, FD, S, hp0, hf, hi, hN, hp, hc, hb⟩ := R.ex
  cases n with
  | zero => exact fun A outer s H us vs Q E _ _ _ h => by obtain ⟨_, _, _, _, _, _, z⟩ := h; exact z.elim
  | succ n =>
    rw [run_at_key hf, ← hp0]
    exact star_ok FD S (t n (Nat.lt_succ_self n)) hi hN hp hc hb
theorem rec_init {c : Str} {f : Addr} {fd : FuncData} {ps : List Str} {q : Nat} (R : RecOk K G m L (c, some "__init__") true f fd ps) (hq : q + 1 = ps.length) (t : ∀ j, j < n → Tab G P w K mg base (run L j) (2 * j)) :
    FnOk P w K mg base (L2.CX P w) (2 * n) f fd ps (spI K mg c q (run L n (c, some "__init__"))) := by
  obtain ⟨x, qual, params, body, scope, dvs, kws, N, d, FD, S, hf, hi, hN, hp, hc⟩ := R.ex
  cases n with
  | zero => exact ⟨fun vs H Q E h => h.1.trans hq, fun A outer s H args us vs Q E _ _ _ _ h => by obtain ⟨_, _, _, _, _, _, _, _, _, _, _, _, _, _, _, z⟩ := h; exact z.elim⟩
  | succ n =>
    rw [run_at_key hf]
    have e : d.key.1 = c := by
      have z := List.find?_some hf
      have z2 : d.key = (c, some ("__init__" : Str)) := of_decide_eq_true z
      rw [z2]
    have r := init_ok FD S (t n (Nat.lt_succ_self n)) hi hN hp hq hc
    rw [e] at r
    exact r
theorem tab_step (F : Fx G P w K mg base m L) (t : ∀ j, j < n → Tab G P w K mg base (run L j) (2 * j)) : Tab G P w K mg base (run L n) (2 * n) where
  fn := fun x q dfs X hX h => by
    obtain ⟨f, fd, ps, h1, h2, h3, h4⟩ := F.fn x q dfs h
    obtain ⟨dvs, ds, b1, b2, b3, b4⟩ := h4.ex
    obtain ⟨e1, e2, e3, e4, e5⟩ := hX
    subst e1 e2 e3 e4 e5
    exact ⟨f, h1, h2, fd, ps, rec_fn h3 t, by rw [List.length_map]; exact h4.hn, dvs, ds, b1, b2, by rw [List.length_map]; exact b3, b4⟩
  mke := fun x q dfs X hX h => by
    obtain ⟨Ca, f, fd, ps, h1, h2, h3, h4⟩ := F.mke x q dfs h
    obtain ⟨dvs, ds, b1, b2, b3, b4⟩ := h4.ex
    obtain ⟨e1, e2, e3, e4, e5⟩ := hX
    subst e1 e2 e3 e4 e5
    have hn := h4.hn
    refine ⟨⟨Ca, h1⟩, ⟨fun Cb hb => ?_⟩⟩
    rw [h1] at hb
    cases hb
    exact ⟨f, h2, fd, ps, rec_init h3 (by rw [List.length_map]; omega) t, by rw [List.length_map]; omega, dvs, ds, b1, b2, by rw [List.length_map]; exact b3, b4⟩
  mt := fun y q tb c dfs X hX h h' => by
    obtain ⟨Ca, f, fd, ps, h1, h2, h5, h6, h3, h4⟩ := F.mt y q tb c dfs h h'
    obtain ⟨dvs, ds, b1, b2, b3, b4⟩ := h4.ex
    obtain ⟨e1, e2, e3, e4, e5⟩ := hX
    subst e1 e2 e3 e4 e5
    refine ⟨fun Cb hb => ?_⟩
    rw [h1] at hb
    cases hb
    exact ⟨f, h2, h5, h6, fd, ps, rec_fn h3 t, by rw [List.length_map]; exact h4.hn, dvs, ds, b1, b2, by rw [List.length_map]; exact b3, b4⟩
  st := fun x p X hX h => by
    obtain ⟨f, h1, h2, h3⟩ := F.st x p h
    obtain ⟨e1, e2, e3, e4, e5⟩ := hX
    subst e1 e2 e3 e4 e5
    exact ⟨f, h1, h2, rec_star h3 t⟩
  ctn := fun c X hX h => by
    obtain ⟨Ca, f, fd, ps, h1, h2, h5, h6, h3, h4⟩ := F.ctn c h
    obtain ⟨dvs, ds, b1, b2, b3, b4⟩ := h4.ex
    obtain ⟨e1, e2, e3, e4, e5⟩ := hX
    subst e1 e2 e3 e4 e5
    refine ⟨fun Cb hb => ?_⟩
    rw [h1] at hb
    cases hb
    exact ⟨f, h2, h5, h6, fd, ps, rec_fn h3 t, h4.hn, dvs, ds, b1, b2, b3, b4⟩
  its := F.its
  pr := fun y cs c X hX h h' => by
    obtain ⟨Ca, p, f, fd, ps, h1, h2, h5, h3, h4, h6⟩ := F.pr y cs c h h'
    obtain ⟨e1, e2, e3, e4, e5⟩ := hX
    subst e1 e2 e3 e4 e5
    refine ⟨fun Cb hb => ?_⟩
    rw [h1] at hb
    cases hb
    exact ⟨p, f, h2, h5, fd, ps, rec_fn h3 t, h4, h6⟩
  cn := F.cn
  cc := F.cc
  fl := F.fl
  va := F.va
  fr := F.fr
  er := F.er
  xi := F.xi
  xq := F.xq
  xm := F.xm
theorem tab_all (F : Fx G P w K mg base m L) (n : Nat) : Tab G P w K mg base (run L n) (2 * n) := by
  induction n using Nat.strongRecOn with
  | _ n ih => exact tab_step F ih
/-- a def of the table keeps what the run says -/
theorem fn_run (F : Fx G P w K mg base m L) {key : Fn} {f : Addr} {fd : FuncData} {ps : List Str} (R : RecOk K G m L key false f fd ps) (n : Nat) : FnOk P w K mg base (L2.CX P w) (2 * n) f fd ps (spD K mg ps.length (run L n key)) := rec_fn R fun j _ => tab_all F j
/-- from a law's answer to what the head asks -/
theorem law_sp {f : Addr} {fd : FuncData} {x : Str} {key : Fn} {n : Nat} (F : FnOk P w K mg base (L2.CX P w) (2 * n) f fd [x] (spD K mg 1 (run L n key))) (M : Nat) (h : ∀ ns : List Int, ns.length ≤ M → ∃ b, run L n key [.scr ns] = .ok (b, .bl true)) :
    FnOk P w K mg base (L2.CX P w) (2 * n) f fd [x] (fun vs H Q _ => ∃ (a : Addr) (ns : List Int), vs = [.ref a] ∧ ns.length ≤ M ∧ (∀ b u, H b = some u → True) ∧ SqL K H a (ns.map V.int) ∧ (∀ H', Q (.bl true) H')) :=
  F.imp fun vs H Q E ⟨a, ns, e, hl, _, hS, hQ⟩ => by
    subst e
    obtain ⟨b, hb⟩ := h ns hl
    refine ⟨rfl, H, [.scr ns], .refl _, ⟨.ref a, [], rfl, ⟨a, rfl, hS⟩, rfl⟩, ?_⟩
    rw [hb]
    cases b with
    | false =>
      intro v F' H' _ hv
      have hv : v = .bl true := hv
      rw [hv]
      exact hQ H'
    | true => exact fun v F' H' _ ⟨p, _, _, _, hO⟩ => hO.elim
end
end DN
/-! Den29: the facts about the module behind the top, by tables; a Hook for them. -/
namespace DN
open PySem PySem.Spec PyProof.Rows L2
/-- a def of the row: where it stands, what the row has of it, its slots, its code -/
structure DefR where
  key : Fn
  prop : Bool := false
  name : Str
  qual : Str
  params : Arguments
  body : List Stmt
  scope : Scope
  dfl : List He.Dv := []
  /-- which of the defaults are () -/
  em : List Bool := []
  N : List Str
  ps : List Str
  code : SC
  ini : Bool := false
  star : Bool := false
def DefR.toDef (r : DefR) : Def := ⟨r.key, r.N, r.ps.length, r.code, r.ini⟩
/-- a property's getter -/
def getAd (K : PySem.W.Frag) (p : Addr) : Addr := match PySem.W.recIn K p "property" with
  | some (.ref g :: _) => g
  | _ => 0
def adR (K : PySem.W.Frag) (r : DefR) : Addr := if r.prop = true then getAd K (He.fAd K r.key) else He.fAd K r.key
abbrev FnV : Type := Option (Str × Str × Arguments × FuncBody × Scope × Addr × List (Str × Addr) × Addr)
def fnV (K : PySem.W.Frag) (a : Addr) : FnV := match K.lookup a with
  | some ⟨_, _, .func fd, _⟩ => some (fd.name, fd.qualname, fd.params, fd.body, fd.scope, fd.globals, fd.closure, fd.builtins)
  | _ => none
def DefR.val (r : DefR) : FnV := some (r.name, r.qual, r.params, .stmts r.body, r.scope, mainGlobals, [], builtinsNs)
def DefR.dvs (K : PySem.W.Frag) (r : DefR) : List V := r.dfl.map (He.Dv.v K)
/-- K holds an empty tuple there -/
def nilB (K : PySem.W.Frag) : V → Bool
  | .ref a => match K.lookup a with
    | some ⟨.type n, _, .seq its _, _⟩ => n == "tuple" && its.toList.isEmpty
    | _ => false
  | _ => false
theorem nilB_ok {K : PySem.W.Frag} {v : V} (h : nilB K v = true) : ∃ a, v = .ref a ∧ SqK K a [] := by
  unfold nilB at h
  split at h
  · rename_i a
    split at h
    · rename_i n dd its m sl e
      obtain ⟨h1, h2⟩ := and2 h
      have h1 : n = "tuple" := beq_iff_eq.mp h1
      have h2 : its.toList = [] := List.isEmpty_iff.mp h2
      subst h1
      refine ⟨a, rfl, _, its, m, e, rfl, rfl, ?_, ?_⟩
      · rw [← Array.length_toList, h2]
        exact Nat.zero_le _
      · rw [h2]
        exact .nil
    · cases h
  · cases h
def emB (K : PySem.W.Frag) : List V → List Bool → Bool
  | v :: vs, b :: bs => (!b || nilB K v) && emB K vs bs
  | _, _ => true
theorem emB_drop {K : PySem.W.Frag} : ∀ {vs : List V} {bs : List Bool} (k : Nat), emB K vs bs = true → emB K (vs.drop k) (bs.drop k) = true
  | _, _, 0, h => h
  | [], bs, k + 1, _ => by
    rw [List.drop_nil]
    rfl
  | v :: vs, [], k + 1, _ => by
    rw [List.drop_nil]
    cases List.drop (k + 1) (v :: vs) <;> rfl
  | v :: vs, b :: bs, k + 1, h => emB_drop (vs := vs) (bs := bs) k (and2 h).2
def DefR.ok (K : PySem.W.Frag) (r : DefR) : Bool := emB K (r.dvs K) r.em && (PySem.W.keepIn K (.ref (adR K r)) && (match K.lookup (adR K r) with
  | some ⟨_, _, .func fd, _⟩ => PySem.W.codeIn K fd.code r.qual && He.dflB K fd.defaults (r.dvs K)
  | _ => false))
theorem DefR.funD {K : PySem.W.Frag} {r : DefR} (e : fnV K (adR K r) = r.val) (c : r.ok K = true) : ∃ fd, FunD K r.name r.qual r.params r.body r.scope (r.dvs K) [] (adR K r) fd := by
  obtain ⟨c1, c2⟩ := and2 (and2 c).2
  unfold fnV at e
  generalize adR K r = a at c1 c2 e
  cases q : K.lookup a with
  | none =>
    simp only [q] at c2
    cases c2
  | some o =>
    obtain ⟨oc, od, dt, osl⟩ := o
    simp only [q] at c2 e
    cases dt <;> first
      | (cases c2; done)
      | skip
    rename_i fd
    obtain ⟨f1, f2, f3, f4, f5, f6, f7, f8, f9, f10, f11, f12, f13, f14, f15⟩ := fd
    unfold DefR.val at e
    simp only [Option.some.injEq, Prod.mk.injEq] at e
    obtain ⟨g1, g2, g3, g4, g5, g6, g7, g8⟩ := e
    subst g1 g2 g3 g4 g5 g6 g7 g8
    obtain ⟨c3, c4⟩ := and2 c2
    exact ⟨_, ⟨oc, od, f8, f9, f10, f11, f12, f13, f14, osl, rfl, q, c3, He.dflB_ok c4, .inl rfl⟩, c1⟩
/-! ### what the tables say, looked up -/
section
variable (K : PySem.W.Frag)
def gloB' (x : Str) : Bool := (He.Fa.glo x).ok K
def ckB (q : CK) (u : Value) : Bool := match q, u with
  | .non, .none => true
  | .bl b, .bool c => b == c
  | .int i, .int j _ => decide (i = j)
  | .str x, .str y _ => decide (x = y)
  | _, _ => false
def conB (c m : Str) (q : CK) : Bool := match PySem.W.findIn K (.ref (He.ga K c)) m with
  | some (some u) => ckB q u && decide (PySem.W.specialIn K u "__get__" = some none) && !PySem.W.copiedNames.contains m
  | _ => false
def ccB (x f : Str) (q : CK) : Bool := PySem.W.readsIn K (He.ga K x) (.type "type") && (decide (PySem.W.specialIn K (.ref (He.ga K x)) "__getattribute__" = some (some (.builtin "type.__getattribute__"))) && (match PySem.W.findCls K (.ref (He.ga K x)) (.type "type") f with
  | some (.val u) => ckB q u
  | _ => false))
def valB (x : Str) (q : CK) : Bool := match PySem.W.nsIn K mainGlobals x with
  | some (some u) => ckB q u
  | _ => false
def propB (c m : Str) : Bool := decide (PySem.W.findIn K (.ref (He.ga K c)) m = some (some (.ref (He.ma K (He.ga K c) m)))) && decide (PySem.W.specialIn K (.ref (He.ma K (He.ga K c) m)) "__get__" = some (some (.builtin "property.__get__"))) &&
  decide (PySem.W.takesIn K (.ref (He.ma K (He.ga K c) m)) = some true) && (match PySem.W.recIn K (He.ma K (He.ga K c) m) "property" with
    | some (.ref _ :: _) => true
    | _ => false)
def excB (D : Addr) : Bool := decide (PySem.W.findIn K (.ref D) "__getattribute__" = some (some (.builtin "BaseException.__getattribute__"))) && decide (PySem.W.findIn K (.ref D) "__getattr__" = some none) && decide (PySem.W.subIn K (.ref D) (.type "BaseException") = some true) && PySem.W.hasDictIn K D &&
  decide (PySem.W.findIn K (.ref D) "__class__" = some (some (.builtin "object.__class__"))) && decide (PySem.W.specialIn K (.builtin "object.__class__") "__get__" = some (some (.builtin "getset_descriptor.__get__"))) && decide (PySem.W.takesIn K (.builtin "object.__class__") = some true) && decide (PySem.W.mroIn K D (.type "object") = some true)
/-- all of it -/
def gOk (G : Glob) : Bool :=
  (G.fns.all fun p => gloB' K p.1.1) &&
  (G.mks.all fun p => gloB' K p.1.1 && (He.Fa.mkr p.1.1).ok K) &&
  (G.mts.all fun p => p.2.all fun q => gloB' K q.1 && (He.Fa.cls q.1).ok K && (He.Fa.meth q.1 p.1.1).ok K) &&
  (G.prs.all fun p => p.2.all fun c => gloB' K c && (He.Fa.cls c).ok K && propB K c p.1) &&
  (G.cns.all fun p => p.2.all fun q => gloB' K q.1 && (He.Fa.cls q.1).ok K && conB K q.1 p.1 q.2) &&
  (G.ccs.all fun p => gloB' K p.1.1 && ccB K p.1.1 p.1.2 p.2) &&
  (G.fls.all fun p => p.2.all fun c => gloB' K c && (He.Fa.cls c).ok K && (He.Fa.noat c p.1).ok K) &&
  (G.vas.all fun p => valB K p.1 p.2) &&
  (G.frs.all fun x => (He.Fa.free x).ok K) &&
  (G.ers.all fun x => gloB' K x && (He.Fa.exc x).ok K) &&
  (G.xms.all fun p => gloB' K p.1 && p.2.all fun q => gloB' K q.1 && (He.Fa.exm q.1 p.1 q.2).ok K) &&
  (G.sts.all fun p => gloB' K p.1) &&
  (G.ctn.all fun c => gloB' K c && (He.Fa.cls c).ok K && (He.Fa.meth c "__contains__").ok K) &&
  (G.its.all fun p => gloB' K p.1 && (He.Fa.cls p.1).ok K && (He.Fa.noat p.1 p.2).ok K && (He.Fa.meth p.1 "__iter__").ok K && (He.Fa.free "iter").ok K) &&
  (G.xis.all fun p => gloB' K p.1 && p.2.all fun q => gloB' K q.1 && excB K (He.ga K q.1) && decide (PySem.W.kitOne K (.ref (He.ga K q.1)) (.ref (He.ga K p.1)) = some q.2))
end
/-! ### what the module's names reach -/
inductive TT where
  | nil | node (b : Bool) (l r : TT)
def TT.has : Nat → TT → Nat → Bool
  | 0, _, _ => false
  | _ + 1, .nil, _ => false
  | n + 1, .node b l r, i => match Nat.beq i 0 with
    | true => b
    | false => match Nat.beq (i % 2) 1 with
      | true => TT.has n l (i / 2)
      | false => TT.has n r (i / 2 - 1)
def TT.put : Nat → TT → Nat → TT
  | 0, t, _ => t
  | n + 1, .nil, i => match Nat.beq i 0 with
    | true => .node true .nil .nil
    | false => match Nat.beq (i % 2) 1 with
      | true => .node false (TT.put n .nil (i / 2)) .nil
      | false => .node false .nil (TT.put n .nil (i / 2 - 1))
  | n + 1, .node b l r, i => match Nat.beq i 0 with
    | true => .node true l r
    | false => match Nat.beq (i % 2) 1 with
      | true => .node b (TT.put n l (i / 2)) r
      | false => .node b l (TT.put n r (i / 2 - 1))
def cloR (g : Addr → Option Obj) : Nat → List Addr → TT → List Addr
  | 0, _, _ => []
  | _ + 1, [], _ => []
  | n + 1, a :: w, t => match TT.has 40 t a with
    | true => cloR g n w t
    | false => match g a with
      | some o => a :: cloR g n (He.refsD o ++ w) (TT.put 40 t a)
      | none => cloR g n w (TT.put 40 t a)
/-! ### the Hook -/
abbrev AlR : Type := Bool × List FnV
def obsR (G : Glob) (R : List DefR) (K : PySem.W.Frag) : AlR := (gOk K G && R.all fun r => r.ok K, R.map fun r => fnV K (adR K r))
def valR (R : List DefR) : AlR := (true, R.map DefR.val)
def SaysR (G : Glob) (R : List DefR) (K : PySem.W.Frag) : Prop := obsR G R K = valR R
def obsRG (n : Nat) (G : Glob) (R : List DefR) (g : Addr → Option Obj) : AlR := obsR G R (He.frG g (cloR g n [mainGlobals, cStatics] .nil))
def hookR (n : Nat) (G : Glob) (R : List DefR) : PySem.W.Hook where
  α := AlR
  obs := fun s => obsRG n G R s.heap.get?
  val := fun _ => valR R
  says := fun _ h => ∃ K : PySem.W.Frag, K.In h ∧ SaysR G R K
  of := fun _ _ e => ⟨_, He.frG_in, e⟩
  keeps := fun _ _ _ ⟨K, hK, c⟩ k => ⟨K, PySem.W.Frag.In.keeps hK k, c⟩
theorem obsRG_eq {n : Nat} {G : Glob} {R : List DefR} {g : Addr → Option Obj} {s : Shared} (h : ∀ a, g a = s.heap.get? a) : obsRG n G R g = (hookR n G R).obs s := by
  have e : g = s.heap.get? := funext h
  rw [e]
  rfl
section
variable {G : Glob} {R : List DefR} {K : PySem.W.Frag} {h : Heap} {mg : Str → Option Value}
theorem SaysR.g (c : SaysR G R K) : gOk K G = true := (and2 (congrArg (fun z : AlR => z.1) c)).1
theorem SaysR.em (c : SaysR G R K) {r : DefR} (hr : r ∈ R) : emB K (r.dvs K) r.em = true := (and2 (List.all_eq_true.mp (and2 (congrArg (fun z : AlR => z.1) c)).2 r hr)).1
theorem SaysR.def_ (c : SaysR G R K) {r : DefR} (hr : r ∈ R) : ∃ fd, FunD K r.name r.qual r.params r.body r.scope (r.dvs K) [] (adR K r) fd := by
  have c2 := (and2 (congrArg (fun z : AlR => z.1) c)).2
  have e : R.map (fun r => fnV K (adR K r)) = R.map DefR.val := congrArg (fun z : AlR => z.2) c
  exact DefR.funD (List.map_inj_left.mp e r hr) (List.all_eq_true.mp c2 r hr)
end
end DN
/-! Den30: from the head's facts and the tables to what the levels ask. -/
namespace DN
open PySem PySem.Spec PyProof.Rows L2
/-- what is known of a def from the row alone -/
structure StatR (G : Glob) (m : Nat) (r : DefR) : Prop where
  S : FnScope r.N r.ps r.scope
  hc : toSs m ⟨r.N, r.scope, true, G, none, r.ini, true, []⟩ r.body = some r.code
  b : r.star = false → ∀ (K : PySem.W.Frag) (f : Addr) (fd : FuncData) (dvs : List V), dvs.length = r.dfl.length → FunD K r.name r.qual r.params r.body r.scope dvs [] f fd → ∀ j, j ≤ dvs.length → ∃ ds, Vals (dvs.drop j) ds ∧ Binds K fd r.ps ds
/-- .. of one with *args -/
structure StarR (r : DefR) : Prop where
  ex : ∃ ps pv, r.ps = ps ++ [pv] ∧ r.dfl = [] ∧ ∀ (kV doc pm : Value) (an : Option Addr) (cdv ct : Value) (us rest : List Value), us.length = ps.length → bindArgs (PySem.W.fnOf r.name r.qual r.params r.body r.scope .none kV doc pm an cdv ct) ⟨us ++ rest, []⟩ = (newTuple rest >>= fun t => pure (ps.zip us ++ [(pv, t)]))
/-- .. of an __iter__ -/
structure IterR (r : DefR) (F : Str) : Prop where
  S : FnScope r.N ["self"] r.scope
  ib : iterBody F r.body = true
  hp : r.prop = false
  hd : r.dfl = []
  kg : r.scope.names.lookup ("iter" : Str) = some .globalImplicit
  ks : r.scope.names.lookup ("self" : Str) = some .local
  kn : r.N[0]? = some ("self" : Str)
  b : ∀ (kV doc pm : Value) (an : Option Addr) (cdv ct : Value) (us : List Value), us.length = 1 → bindArgs (PySem.W.fnOf r.name r.qual r.params r.body r.scope .none kV doc pm an cdv ct) ⟨us, []⟩ = pure (([("self" : Str)] : List Str).zip us)
/-- a def without defaults -/
theorem bind_none {name qual : Str} {params : Arguments} {body : List Stmt} {scope : Scope} {ps : List Str}
    (h : ∀ (kV doc pm : Value) (an : Option Addr) (cdv ct : Value) (us : List Value), us.length = ps.length → bindArgs (PySem.W.fnOf name qual params body scope .none kV doc pm an cdv ct) ⟨us, []⟩ = pure (ps.zip us)) :
    ∀ (K : PySem.W.Frag) (f : Addr) (fd : FuncData) (dvs : List V), dvs.length = 0 → FunD K name qual params body scope dvs [] f fd → ∀ j, j ≤ dvs.length → ∃ ds, Vals (dvs.drop j) ds ∧ Binds K fd ps ds := fun K f fd dvs hl F j hj => by
  have e : dvs = [] := List.eq_nil_of_length_eq_zero hl
  subst e
  rw [List.drop_nil]
  exact ⟨[], .nil, F.bindsN h⟩
/-- .. with q of them -/
theorem bind_some {name qual : Str} {params : Arguments} {body : List Stmt} {scope : Scope} {ps : List Str} {q : Nat} (hq : 0 < q) (hq2 : q ≤ ps.length)
    (h : ∀ (j : Nat), j ≤ q → ∀ (T : Addr) (kV doc pm : Value) (an : Option Addr) (cdv ct : Value) (us its : List Value), us.length = ps.length - q + j → its.length = q →
      ∃ k, bindArgs (PySem.W.fnOf name qual params body scope (.ref T) kV doc pm an cdv ct) ⟨us, []⟩ = seqItems? (.ref T) >>= k ∧ k (some its.toArray) = pure (ps.zip (us ++ its.drop j))) :
    ∀ (K : PySem.W.Frag) (f : Addr) (fd : FuncData) (dvs : List V), dvs.length = q → FunD K name qual params body scope dvs [] f fd → ∀ j, j ≤ dvs.length → ∃ ds, Vals (dvs.drop j) ds ∧ Binds K fd ps ds := fun K f fd dvs hl F j hj => by
  have hne : dvs ≠ [] := fun z => by rw [z] at hl; simp at hl; omega
  exact F.binds1 (ps.length - q + j) j hne (by omega) fun T kV doc pm an cdv ct us its h1 h2 => h j (by omega) T kV doc pm an cdv ct us its h1 (h2.trans hl)
def dvB : CK → He.Dv → Bool → Bool
  | .non, .non, _ => true
  | .bl b, .bl c, _ => b == c
  | .int i, .int j, _ => decide (i = j)
  | .str x, .str y, _ => decide (x = y)
  | .unit, .adr _, e => e
  | _, _, _ => false
def dvsB : List CK → List He.Dv → List Bool → Bool
  | [], [], _ => true
  | q :: r, d :: s, [] => dvB q d false && dvsB r s []
  | q :: r, d :: s, e :: es => dvB q d e && dvsB r s es
  | _, _, _ => false
def fndR (R : List DefR) (key : Fn) : Option DefR := R.find? fun r => decide (r.key = key)
def useB (r : DefR) (n : Nat) (dfs : List CK) : Bool := !r.star && decide (n + dfs.length = r.ps.length) && decide (dfs.length ≤ r.dfl.length) && dvsB dfs (r.dfl.drop (r.dfl.length - dfs.length)) (r.em.drop (r.dfl.length - dfs.length))
def okR (R : List DefR) (key : Fn) (ini prop : Bool) (n : Nat) (dfs : List CK) : Bool := match fndR R key with
  | some r => (r.ini == ini) && (r.prop == prop) && useB r n dfs
  | none => false
/-- the tables against the defs -/
def tabB (G : Glob) (R : List DefR) : Bool :=
  (G.fns.all fun p => okR R (p.1.1, none) false false p.1.2 p.2) &&
  (G.mks.all fun p => okR R (p.1.1, some "__init__") true false (p.1.2 + 1) p.2) &&
  (G.mts.all fun p => p.2.all fun q => okR R (q.1, some p.1.1) false false (p.1.2 + 1) q.2) &&
  (G.sts.all fun p => match fndR R (p.1, none) with
    | some r => r.star && !r.ini && !r.prop && decide (p.2 + 1 = r.ps.length)
    | none => false) &&
  (G.ctn.all fun c => okR R (c, some "__contains__") false false 2 []) &&
  (G.prs.all fun p => p.2.all fun c => okR R (c, some p.1) false true 1 [])
section
variable {G : Glob} {R RR : List DefR} {K : PySem.W.Frag} {h : Heap} {mg : Str → Option Value} {m : Nat}
theorem dv_rp1 {q : CK} {d : He.Dv} {e : Bool} (F : Hp) (h1 : dvB q d e = true) (he : (!e || nilB K (d.v K)) = true) : Rp K mg F (d.v K) q.d := by
  cases q <;> cases d <;> first
    | (cases h1; done)
    | skip
  · rfl
  · rename_i b c
    have e : b = c := beq_iff_eq.mp h1
    subst e
    rfl
  · rename_i b c
    have e : b = c := of_decide_eq_true h1
    subst e
    rfl
  · rename_i b c
    have e : b = c := of_decide_eq_true h1
    subst e
    rfl
  · have h1 : e = true := h1
    subst h1
    obtain ⟨a, e1, e2⟩ := nilB_ok (by rw [Bool.not_true, Bool.false_or] at he; exact he)
    exact ⟨a, [], e1, e2, rfl⟩
theorem dv_rp : ∀ {dfs : List CK} {dvs : List He.Dv} {es : List Bool} (F : Hp), dvsB dfs dvs es = true → emB K (dvs.map (He.Dv.v K)) es = true → RpL K mg F (dvs.map (He.Dv.v K)) (dfs.map CK.d)
  | [], [], _, F, _, _ => rfl
  | [], _ :: _, _, _, h, _ => by cases h
  | _ :: _, [], _, _, h, _ => by cases h
  | q :: r, d :: s, [], F, h, he => by
    obtain ⟨h1, h2⟩ := and2 h
    refine ⟨d.v K, s.map (He.Dv.v K), rfl, dv_rp1 F h1 rfl, dv_rp F h2 ?_⟩
    cases s.map (He.Dv.v K) <;> rfl
  | q :: r, d :: s, e :: es, F, h, he => by
    obtain ⟨h1, h2⟩ := and2 h
    obtain ⟨h3, h4⟩ := and2 he
    exact ⟨d.v K, s.map (He.Dv.v K), rfl, dv_rp1 F h1 h3, dv_rp F h2 h4⟩
theorem rec_use (c : SaysR G RR K) (sb : ∀ r ∈ R, r ∈ RR) (st : ∀ r ∈ R, StatR G m r) {key : Fn} {ini prop : Bool} {n : Nat} {dfs : List CK} (h : okR R key ini prop n dfs = true) :
    ∃ r fd, r.key = key ∧ r.prop = prop ∧ RecOk K G m (R.map DefR.toDef) key ini (adR K r) fd r.ps ∧ PySem.W.keepIn K (.ref (adR K r)) = true ∧ Bd K mg fd r.ps n dfs := by
  unfold okR at h
  cases q : fndR R key with
  | none => rw [q] at h; cases h
  | some r =>
    rw [q] at h
    have h : ((r.ini == ini) && (r.prop == prop) && useB r n dfs) = true := h
    obtain ⟨h1, h3⟩ := and2 h
    obtain ⟨h1, h2⟩ := and2 h1
    have hi : r.ini = ini := beq_iff_eq.mp h1
    have hp : r.prop = prop := beq_iff_eq.mp h2
    have hm : r ∈ R := List.mem_of_find?_eq_some q
    have hk0 : decide (r.key = key) = true := List.find?_some (p := fun r : DefR => decide (r.key = key)) q
    have hk : r.key = key := of_decide_eq_true hk0
    obtain ⟨fd, FD⟩ := c.def_ (sb r hm)
    have s := st r hm
    obtain ⟨u1, u3⟩ := and2 h3
    obtain ⟨u0, u2⟩ := and2 u1
    obtain ⟨uq, u1⟩ := and2 u0
    have u1 := of_decide_eq_true u1
    have u2 := of_decide_eq_true u2
    refine ⟨r, fd, hk, hp, ⟨r.name, r.qual, r.params, r.body, r.scope, r.dvs K, [], r.N, r.toDef, FD, s.S, ?_, hi, rfl, rfl, ?_⟩, FD.kp, u1, ?_⟩
    · rw [List.find?_map]
      have e : (R.find? ((fun d => decide (d.key = key)) ∘ DefR.toDef)) = some r := q
      rw [e]
      rfl
    · rw [← hi]
      exact s.hc
    · have hdl : (r.dvs K).length = r.dfl.length := by unfold DefR.dvs; rw [List.length_map]
      obtain ⟨ds, b1, b2⟩ := s.b (not_ok uq) K _ fd (r.dvs K) hdl FD (r.dfl.length - dfs.length) (by rw [hdl]; omega)
      refine ⟨(r.dvs K).drop (r.dfl.length - dfs.length), ds, b1, b2, ?_, fun F => ?_⟩
      · rw [← b1.length, List.length_drop, hdl]
        omega
      · unfold DefR.dvs
        rw [← List.map_drop]
        refine dv_rp F u3 ?_
        rw [List.map_drop]
        exact emB_drop _ (c.em (sb r hm))
theorem ck_rel {q : CK} {u : Value} (h : ckB q u = true) : ∃ v, RelV v u ∧ ∀ F, Rp K mg F v q.d := by
  cases q <;> cases u <;> first
    | (cases h; done)
    | skip
  · exact ⟨.non, rfl, fun _ => rfl⟩
  · rename_i b c
    have e : b = c := beq_iff_eq.mp h
    subst e
    exact ⟨.bl b, rfl, fun _ => rfl⟩
  · rename_i i j t
    have e : i = j := of_decide_eq_true h
    subst e
    exact ⟨.int i, ⟨t, rfl⟩, fun _ => rfl⟩
  · rename_i i j t
    have e : i = j := of_decide_eq_true h
    subst e
    exact ⟨.str i, ⟨t, rfl⟩, fun _ => rfl⟩
theorem fx_of {P : Program} {w : World} {base : Heap} (X : K.In h) (Ns : h.Ns mainGlobals mg) (c : SaysR G RR K) (sb : ∀ r ∈ R, r ∈ RR) (st : ∀ r ∈ R, StatR G m r) (sst : ∀ r ∈ R, r.star = true → StarR r) (sit : ∀ p ∈ G.its, ∃ r ∈ RR, r.key = (p.1, some ("__iter__" : Str)) ∧ IterR r p.2) (t : tabB G R = true) : Fx G P w K mg base m (R.map DefR.toDef) := by
  have g := c.g
  unfold gOk at g
  obtain ⟨g, g11⟩ := and2 g
  obtain ⟨g, g14⟩ := and2 g
  obtain ⟨g, g13⟩ := and2 g
  obtain ⟨g, g12⟩ := and2 g
  obtain ⟨g, g10⟩ := and2 g
  obtain ⟨g, g9⟩ := and2 g
  obtain ⟨g, g8⟩ := and2 g
  obtain ⟨g, g7⟩ := and2 g
  obtain ⟨g, g6⟩ := and2 g
  obtain ⟨g, g15⟩ := and2 g
  obtain ⟨g, g5⟩ := and2 g
  obtain ⟨g, g4⟩ := and2 g
  obtain ⟨g, g3⟩ := and2 g
  obtain ⟨g1, g2⟩ := and2 g
  unfold tabB at t
  obtain ⟨t, t4⟩ := and2 t
  obtain ⟨t, t6⟩ := and2 t
  obtain ⟨t, t5⟩ := and2 t
  obtain ⟨t, t3⟩ := and2 t
  obtain ⟨t1, t2⟩ := and2 t
  have glo : ∀ {x : Str}, gloB' K x = true → mg x = some (.ref (He.ga K x)) := fun z => He.glo_ok X Ns z
  refine ⟨?_, ?_, ?_, ?_, ?_, ?_, ?_, ?_, ?_, ?_, ?_, ?_, ?_, ?_, ?_, ?_⟩
  · intro x n dfs e
    have e := mem_look e
    obtain ⟨r, fd, a1, a2, a3, a4, a5⟩ := rec_use (mg := mg) c sb st (List.all_eq_true.mp t1 _ e)
    have ea : adR K r = He.ga K x := by
      unfold adR
      rw [if_neg (by rw [a2]; exact Bool.false_ne_true), a1]
      rfl
    rw [ea] at a3 a4
    exact ⟨_, fd, r.ps, glo (List.all_eq_true.mp g1 _ e), a4, a3, a5⟩
  · intro x n dfs e
    have e := mem_look e
    obtain ⟨r, fd, a1, a2, a3, a4, a5⟩ := rec_use (mg := mg) c sb st (List.all_eq_true.mp t2 _ e)
    obtain ⟨b1, b2⟩ := and2 (List.all_eq_true.mp g2 _ e)
    have ea : adR K r = He.ma K (He.ga K x) "__init__" := by
      unfold adR
      rw [if_neg (by rw [a2]; exact Bool.false_ne_true), a1]
      rfl
    rw [ea] at a3 a4
    exact ⟨_, _, fd, r.ps, glo b1, He.mkr_ok b2, a3, a5⟩
  · intro y n tb cc dfs e e'
    have e := mem_look e
    have e' := mem_look e'
    obtain ⟨r, fd, a1, a2, a3, a4, a5⟩ := rec_use (mg := mg) c sb st (List.all_eq_true.mp (List.all_eq_true.mp t3 _ e) _ e')
    obtain ⟨b1, b2⟩ := and2 (List.all_eq_true.mp (List.all_eq_true.mp g3 _ e) _ e')
    obtain ⟨b1, b3⟩ := and2 b1
    have ea : adR K r = He.ma K (He.ga K cc) y := by
      unfold adR
      rw [if_neg (by rw [a2]; exact Bool.false_ne_true), a1]
      rfl
    rw [ea] at a3 a4
    exact ⟨_, _, fd, r.ps, glo b1, He.cls_ok b3, He.meth_ok b2, a4, a3, a5⟩
  · intro x p e
    have e := mem_look e
    have z := List.all_eq_true.mp t5 _ e
    cases q : fndR R (x, none) with
    | none => simp only [q] at z; cases z
    | some r =>
      simp only [q] at z
      obtain ⟨z, z4⟩ := and2 z
      obtain ⟨z, z3⟩ := and2 z
      obtain ⟨z1, z2⟩ := and2 z
      have hm : r ∈ R := List.mem_of_find?_eq_some q
      have hk0 : decide (r.key = (x, (none : Option Str))) = true := List.find?_some (p := fun r : DefR => decide (r.key = (x, (none : Option Str)))) q
      have hk : r.key = (x, none) := of_decide_eq_true hk0
      obtain ⟨ps, pv, s1, s2, s3⟩ := (sst r hm z1).ex
      obtain ⟨fd, FD⟩ := c.def_ (sb r hm)
      have hdv : r.dvs K = [] := by
        unfold DefR.dvs
        rw [s2]
        rfl
      have ea : adR K r = He.ga K x := by
        unfold adR
        rw [if_neg (by rw [not_ok z3]; exact Bool.false_ne_true), hk]
        rfl
      rw [hdv, ea] at FD
      have hs := st r hm
      have hS := hs.S
      have hc := hs.hc
      rw [s1] at hS
      rw [not_ok z2] at hc
      have z4 := of_decide_eq_true z4
      refine ⟨_, glo (List.all_eq_true.mp g12 _ e), FD.kp, r.name, r.qual, r.params, r.body, r.scope, r.N, r.toDef, fd, ps, pv, FD, hS, ?_, ?_, not_ok z2, rfl, ?_, hc, s3⟩
      · rw [s1, List.length_append, List.length_singleton] at z4
        omega
      · rw [List.find?_map]
        have e : (R.find? ((fun d => decide (d.key = (x, (none : Option Str)))) ∘ DefR.toDef)) = some r := q
        rw [e]
        rfl
      · show r.ps.length = _
        rw [s1]
  · intro cc e
    have e := List.contains_iff_mem.mp e
    obtain ⟨r, fd, a1, a2, a3, a4, a5⟩ := rec_use (mg := mg) c sb st (List.all_eq_true.mp t6 _ e)
    obtain ⟨b1, b2⟩ := and2 (List.all_eq_true.mp g13 _ e)
    obtain ⟨b1, b3⟩ := and2 b1
    have ea : adR K r = He.ma K (He.ga K cc) "__contains__" := by
      unfold adR
      rw [if_neg (by rw [a2]; exact Bool.false_ne_true), a1]
      rfl
    rw [ea] at a3 a4
    exact ⟨_, _, fd, r.ps, glo b1, He.cls_ok b3, He.meth_ok b2, a4, a3, a5⟩
  · intro cc F X' hX e
    obtain ⟨e1, e2, e3, e4, e5⟩ := hX
    subst e1 e2 e3 e4 e5
    have e := mem_look e
    obtain ⟨b1, b5⟩ := and2 (List.all_eq_true.mp g14 _ e)
    obtain ⟨b1, b4⟩ := and2 b1
    obtain ⟨b1, b3⟩ := and2 b1
    obtain ⟨b1, b2⟩ := and2 b1
    obtain ⟨r, hr, hk, ir⟩ := sit _ e
    obtain ⟨fd, FD⟩ := c.def_ hr
    have hdv : r.dvs X'.K = [] := by
      unfold DefR.dvs
      rw [ir.hd]
      rfl
    have ea : adR X'.K r = He.ma X'.K (He.ga X'.K cc) "__iter__" := by
      unfold adR
      rw [if_neg (by rw [ir.hp]; exact Bool.false_ne_true), hk]
      rfl
    rw [hdv, ea] at FD
    refine ⟨He.free_ok X Ns b5, fun Ca hCa => ?_⟩
    rw [glo b1] at hCa
    cases hCa
    have M := He.meth_ok b4
    exact ⟨He.cls_ok b2, He.noat_ok b3, _, fd, r.name, r.qual, r.params, r.body, r.scope, r.N, M.at_, M.fn, FD, ir.S, ir.ib, FunD.bindsN FD fun kV doc pm an cdv ct us hl => ir.b kV doc pm an cdv ct us hl, ir.kg, ir.ks, ir.kn⟩
  · intro y cs cc e e'
    have e := mem_look e
    have e' := List.contains_iff_mem.mp e'
    obtain ⟨r, fd, a1, a2, a3, a4, a5⟩ := rec_use (mg := mg) c sb st (List.all_eq_true.mp (List.all_eq_true.mp t4 _ e) _ e')
    obtain ⟨b1, b2⟩ := and2 (List.all_eq_true.mp (List.all_eq_true.mp g4 _ e) _ e')
    obtain ⟨b1, b3⟩ := and2 b1
    unfold propB at b2
    obtain ⟨b2, p4⟩ := and2 b2
    obtain ⟨b2, p3⟩ := and2 b2
    obtain ⟨p1, p2⟩ := and2 b2
    have ea : adR K r = getAd K (He.ma K (He.ga K cc) y) := by
      unfold adR
      rw [if_pos a2, a1]
      rfl
    obtain ⟨dvs, ds, d1, d2, d3, d4⟩ := a5.ex
    have hds : ds = [] := List.eq_nil_of_length_eq_zero d3
    subst hds
    refine ⟨_, _, adR K r, fd, r.ps, glo b1, He.cls_ok b3, ⟨of_decide_eq_true p1, of_decide_eq_true p2, of_decide_eq_true p3, ?_⟩, a3, a5.hn, d2⟩
    rw [ea]
    unfold getAd
    cases q : PySem.W.recIn K (He.ma K (He.ga K cc) y) "property" with
    | none => rw [q] at p4; cases p4
    | some l =>
      rw [q] at p4
      cases l with
      | nil => cases p4
      | cons v r =>
        cases v <;> first
          | (cases p4; done)
          | exact ⟨r, rfl⟩
  · intro m tb cc q X' hX e e'
    obtain ⟨e1, e2, e3, e4, e5⟩ := hX
    subst e1 e2 e3 e4 e5
    have e := mem_look e
    have e' := mem_look e'
    obtain ⟨b1, b2⟩ := and2 (List.all_eq_true.mp (List.all_eq_true.mp g5 _ e) _ e')
    obtain ⟨b1, b3⟩ := and2 b1
    refine ⟨fun Ca hCa => ?_⟩
    rw [glo b1] at hCa
    cases hCa
    refine ⟨He.cls_ok b3, ?_⟩
    unfold conB at b2
    split at b2
    · rename_i u hu
      obtain ⟨b2, c3⟩ := and2 b2
      obtain ⟨c1, c2⟩ := and2 b2
      obtain ⟨v, r1, r2⟩ := ck_rel c1
      exact ⟨v, u, ⟨hu, r1, of_decide_eq_true c2, not_ok c3⟩, r2⟩
    · cases b2
  · intro x f q X' hX e
    obtain ⟨e1, e2, e3, e4, e5⟩ := hX
    subst e1 e2 e3 e4 e5
    obtain ⟨b1, b2⟩ := and2 (List.all_eq_true.mp g15 _ (mem_look e))
    unfold ccB at b2
    obtain ⟨c1, b2⟩ := and2 b2
    obtain ⟨c2, b2⟩ := and2 b2
    split at b2
    · rename_i u hu
      obtain ⟨v, r1, r2⟩ := ck_rel b2
      exact ⟨_, .type "type", v, u, glo b1, ⟨c1, of_decide_eq_true c2⟩, ⟨hu, r1⟩, r2⟩
    · cases b2
  · intro f cs cc X' hX e e'
    obtain ⟨e1, e2, e3, e4, e5⟩ := hX
    subst e1 e2 e3 e4 e5
    have e := mem_look e
    have e' := List.contains_iff_mem.mp e'
    obtain ⟨b1, b2⟩ := and2 (List.all_eq_true.mp (List.all_eq_true.mp g6 _ e) _ e')
    obtain ⟨b1, b3⟩ := and2 b1
    refine ⟨fun Ca hCa => ?_⟩
    rw [glo b1] at hCa
    cases hCa
    exact ⟨He.cls_ok b3, He.noat_ok b2⟩
  · intro x q X' hX e
    obtain ⟨e1, e2, e3, e4, e5⟩ := hX
    subst e1 e2 e3 e4 e5
    have b := List.all_eq_true.mp g7 _ (mem_look e)
    unfold valB at b
    split at b
    · rename_i u hu
      obtain ⟨v, r1, r2⟩ := ck_rel b
      exact ⟨v, u, PySem.W.mg_of X Ns hu, r1, r2⟩
    · cases b
  · intro x X' hX e
    obtain ⟨e1, e2, e3, e4, e5⟩ := hX
    subst e1 e2 e3 e4 e5
    exact He.free_ok X Ns (List.all_eq_true.mp g8 _ (List.contains_iff_mem.mp e))
  · intro x X' hX e
    obtain ⟨e1, e2, e3, e4, e5⟩ := hX
    subst e1 e2 e3 e4 e5
    obtain ⟨b1, b2⟩ := and2 (List.all_eq_true.mp g9 _ (List.contains_iff_mem.mp e))
    obtain ⟨c1, c2, c3, c4⟩ := He.exc_ok b2
    exact ⟨_, glo b1, c1, c2, c3, c4⟩
  · intro x m cc b X' hX e e'
    obtain ⟨e1, e2, e3, e4, e5⟩ := hX
    subst e1 e2 e3 e4 e5
    obtain ⟨b1, b2⟩ := and2 (List.all_eq_true.mp g11 _ (mem_look e))
    obtain ⟨b3, b4⟩ := and2 (List.all_eq_true.mp b2 _ (mem_look e'))
    obtain ⟨b5, b6⟩ := and2 b3
    refine ⟨_, glo b1, fun D hD => ?_⟩
    rw [glo b5] at hD
    cases hD
    unfold excB at b6
    obtain ⟨b6, x8⟩ := and2 b6
    obtain ⟨b6, x7⟩ := and2 b6
    obtain ⟨b6, x6⟩ := and2 b6
    obtain ⟨b6, x5⟩ := and2 b6
    obtain ⟨b6, x4⟩ := and2 b6
    obtain ⟨b6, x3⟩ := and2 b6
    obtain ⟨x1, x2⟩ := and2 b6
    exact ⟨⟨of_decide_eq_true x1, of_decide_eq_true x2, of_decide_eq_true x3, x4, of_decide_eq_true x5, of_decide_eq_true x6, of_decide_eq_true x7, of_decide_eq_true x8⟩, of_decide_eq_true b4⟩
  · intro x m X' hX e
    obtain ⟨e1, e2, e3, e4, e5⟩ := hX
    subst e1 e2 e3 e4 e5
    obtain ⟨b1, b2⟩ := and2 (List.all_eq_true.mp g11 _ (mem_look e))
    exact ⟨_, glo b1⟩
  · intro x m X' hX e
    obtain ⟨e1, e2, e3, e4, e5⟩ := hX
    subst e1 e2 e3 e4 e5
    obtain ⟨b1, b2⟩ := and2 (List.all_eq_true.mp g10 _ (mem_look e))
    refine ⟨_, glo b1, fun k b hk Ca hCa => ?_⟩
    obtain ⟨b3, b4⟩ := and2 (List.all_eq_true.mp b2 _ (mem_look hk))
    rw [glo b3] at hCa
    cases hCa
    exact He.exm_ok b4
end
end DN
/-! Den31: the law's end. -/
namespace DN
open PySem PySem.Spec PyProof.Rows L2
/-- a promise that does not look at the wish of exceptions lets none out -/
theorem fn_cx0 {P : Program} {w : World} {K : PySem.W.Frag} {mg : Str → Option Value} {base : Heap} {k : Nat} {f : Addr} {fd : FuncData} {ps : List Str} {sp : Sp} (F : FnOk P w K mg base (L2.CX P w) k f fd ps sp) (h : ∀ vs H Q E E', sp vs H Q E → sp vs H Q E') :
    FnOk P w K mg base L2.CX0 k f fd ps sp := by
  refine ⟨F.len, fun A outer s H args us vs Q E hr e0 hb rv hs => codeAny_mono (F.run A outer s H args us vs Q (fun _ _ _ => False) hr e0 hb rv (h _ _ _ _ _ hs)) fun r s' q => ?_⟩
  match r, q with
  | .ok (.ret u), q => exact q
  | .ok .next, q => exact q
  | .ok .brk, q => exact q
  | .ok .cont, q => exact q
  | .error e, q =>
    obtain ⟨_, _, _, _, _, _, _, _, _, _, _, _, z⟩ := q
    exact z.elim
theorem SaysR.law {G : Glob} {R : List DefR} {K : PySem.W.Frag} (c : SaysR G R K) (h : (G.fns.any fun p => decide (p.1.1 = ("law" : Str))) = true) : gloB' K "law" = true := by
  have g := c.g
  unfold gOk at g
  simp only [Bool.and_eq_true] at g
  have f : (G.fns.all fun p => gloB' K p.1.1) = true := by
    simp only [g]
  obtain ⟨p, hp, e⟩ := List.any_eq_true.mp h
  have z := List.all_eq_true.mp f p hp
  rw [of_decide_eq_true e] at z
  exact z
theorem law_fn {G : Glob} {R RR : List DefR} {m : Nat} {P : Program} {w : World} {K : PySem.W.Frag} {h : Heap} {mg : Str → Option Value} (KX : K.In h) (Ns : h.Ns mainGlobals mg) (c : SaysR G RR K) (sb : ∀ r ∈ R, r ∈ RR) (st : ∀ r ∈ R, StatR G m r) (sst : ∀ r ∈ R, r.star = true → StarR r) (sit : ∀ p ∈ G.its, ∃ r ∈ RR, r.key = (p.1, some ("__iter__" : Str)) ∧ IterR r p.2) (tb : tabB G R = true)
    {r : DefR} (hr : fndR R ("law", none) = some r) (hu : okR R ("law", none) false false 1 [] = true) (hps : r.ps = ([("script" : Str)] : List Str)) (hdf : r.dfl = [])
    (hb : ∀ (kV doc pm : Value) (an : Option Addr) (cdv ct : Value) (us : List Value), us.length = 1 → bindArgs (PySem.W.fnOf r.name r.qual r.params r.body r.scope .none kV doc pm an cdv ct) ⟨us, []⟩ = pure (([("script" : Str)] : List Str).zip us))
    (n : Nat) (hrun : ∀ ns : List Int, ns.length ≤ 63 → ∃ b, run (R.map DefR.toDef) n ("law", none) [.scr ns] = .ok (b, .bl true)) {fa : Addr} (hfa : mg ("law" : Str) = some (.ref fa)) (hg : gloB' K "law" = true) :
    ∃ (fd : FuncData) (sp : Sp), (∀ (s : Shared) (u : Value), BindsTo s fd ⟨[u], []⟩ [(("script" : Str), u)]) ∧ (∀ (H : Hp) (a : Addr) (ns : List Int), ns.length ≤ 63 → SqL K H a (ns.map V.int) → sp [.ref a] H (fun v _ => v = .bl true) fun _ _ _ => False) ∧
      ∀ base : Heap, FnOk P w K mg base L2.CX0 (2 * n) fa fd ["script"] sp := by
  obtain ⟨r', fd, a1, a2, a3, a4, a5⟩ := rec_use (mg := mg) c sb st hu
  have e0 : mg ("law" : Str) = some (.ref (He.ga K "law")) := He.glo_ok KX Ns hg
  have efa : fa = He.ga K "law" := by
    rw [hfa] at e0
    cases e0
    rfl
  have hr' : fndR R ("law", none) = some r' ∨ True := .inr trivial
  obtain ⟨fd2, FD⟩ := c.def_ (sb _ (List.mem_of_find?_eq_some hr))
  have hk : r.key = (("law" : Str), (none : Option Str)) := by
    have z : decide (r.key = (("law" : Str), (none : Option Str))) = true := List.find?_some (p := fun r : DefR => decide (r.key = (("law" : Str), (none : Option Str)))) hr
    exact of_decide_eq_true z
  have hu2 : okR R ("law", none) false false 1 [] = ((r.ini == false) && (r.prop == false) && useB r 1 []) := by
    unfold okR
    rw [hr]
  rw [hu] at hu2
  obtain ⟨hu3, _⟩ := and2 hu2.symm
  obtain ⟨hi, hp⟩ := and2 hu3
  have hi : r.ini = false := beq_iff_eq.mp hi
  have hp : r.prop = false := beq_iff_eq.mp hp
  have ea : adR K r = fa := by
    unfold adR
    rw [if_neg (by rw [hp]; exact Bool.false_ne_true), hk, efa]
    rfl
  have hdv : r.dvs K = [] := by
    unfold DefR.dvs
    rw [hdf]
    rfl
  rw [ea, hdv] at FD
  have s := st r (List.mem_of_find?_eq_some hr)
  have Rk : RecOk K G m (R.map DefR.toDef) ("law", none) false fa fd2 r.ps := by
    refine ⟨r.name, r.qual, r.params, r.body, r.scope, [], [], r.N, r.toDef, FD, s.S, ?_, hi, rfl, rfl, ?_⟩
    · rw [List.find?_map]
      have e : (R.find? ((fun d => decide (d.key = (("law" : Str), (none : Option Str)))) ∘ DefR.toDef)) = some r := hr
      rw [e]
      rfl
    · rw [← hi]
      exact s.hc
  refine ⟨fd2, (fun vs H Q _ => ∃ (a : Addr) (ns : List Int), vs = [.ref a] ∧ ns.length ≤ 63 ∧ (∀ b u, H b = some u → True) ∧ SqL K H a (ns.map V.int) ∧ (∀ H', Q (.bl true) H')), fun s u => ?_, fun H a ns hl hS => ?_, fun base => ?_⟩
  · exact FunD.bindsA (ps := ([("script" : Str)] : List Str)) FD hb s [u] rfl
  · exact ⟨a, ns, rfl, hl, fun _ _ _ => trivial, hS, fun _ => rfl⟩
  · have Fx0 : Fx G P w K mg base m (R.map DefR.toDef) := fx_of KX Ns c sb st sst sit tb
    have F1 := fn_run Fx0 Rk n
    rw [hps] at F1
    exact fn_cx0 (law_sp F1 63 hrun) fun vs H Q E E' z => z
end DN
namespace K34
open PySem PySem.Spec PyProof.Rows L2 DN
abbrev pw : Program := PySem.Challenge.pw_reasonsandlevels_k34_distinctions_and_ne
def pg (i : Nat) : Stmt := pw.main.body.getD i (.Pass ⟨0, 0, 0, 0⟩)
def clsB : Stmt → List Stmt
  | .ClassDef (body := b) .. => b
  | _ => []
def mb (i j : Nat) : Stmt := (clsB (pg i)).getD j (.Pass ⟨0, 0, 0, 0⟩)
def c_law : SC := .seq (.asg 1 (.fn "_law_draws" (.cons (.e (.v 0)) (.cons (.e (.k (.int 0))) (.cons (.e (.k (.int 28))) .nil))) []) [0]) (.seq (.asg 2 (.fn "_law_letters" (.cons (.e (.v 1)) (.cons (.e (.k (.int 0))) (.cons (.e (.k (.int 8))) .nil))) []) [1]) (.seq (.asg 3 (.fn "_law_holdings" (.cons (.e (.fn "_law_draws" (.cons (.e (.v 0)) (.cons (.e (.k (.int 1))) (.cons (.e (.k (.int 48))) .nil))) [])) (.cons (.e (.k (.int 0))) (.cons (.e (.v 2)) (.cons (.e (.o2 .mod (.e (.bi .int (.cons (.e (.o2 .ix (.v 1) (.e (.k (.int 10))))) .nil))) (.e (.k (.int 13))))) (.cons (.e (.k (.bl false))) .nil))))) []) [0, 2]) (.seq (.asg 4 (.mk "Casebook" (.cons (.e (.mk "Factors" (.cons (.e (.o2 .ix (.v 2) (.e (.k (.int 0))))) (.cons (.e (.o2 .ix (.v 2) (.e (.k (.int 1))))) .nil)) [])) (.cons (.e (.v 3)) .nil)) []) [3]) (.seq (.asg 5 (.lc (.nm 11) (.range (.cons (.e (.k (.int 3))) .nil)) .yes (.e (.fn "_law_matter" (.cons (.e (.v 1)) (.cons (.e (.o2 .add (.e (.k (.int 11))) (.e (.o2 .mul (.e (.k (.int 2))) (.v 11))))) (.cons (.e (.v 2)) .nil))) [])) [11]) [1, 2]) (.seq (.forr (.nm 6) (.of (.e (.cut (.v 3) .none (.some (.e (.k (.int 2))))))) [] (.seq (.app 5 (.e (.o2 .ix (.v 6) (.e (.k (.int 0))))) []) .nx)) (.seq (.forr (.nm 7) (.of (.e (.v 5))) [5] (.seq (.ife (.or (.not (.tr (.e (.fn "_law_asked" (.cons (.e (.v 2)) (.cons (.e (.v 4)) (.cons (.e (.v 3)) (.cons (.e (.v 7)) .nil)))) [])))) (.not (.tr (.e (.fn "_law_idle" (.cons (.e (.v 2)) (.cons (.e (.v 4)) (.cons (.e (.v 3)) (.cons (.e (.v 7)) .nil)))) []))))) (.seq (.ret (.k (.bl false))) .nx) .nx) .nx)) (.seq (.asg 8 (.fn "_law_bad_matter" (.cons (.e (.v 1)) (.cons (.e (.k (.int 25))) (.cons (.e (.v 2)) .nil))) []) [1, 2]) (.seq (.forr (.nm 9) (.range (.cons (.e (.k (.int 5))) .nil)) [] (.seq (.ife (.e (.o2 .ne (.e (.fn "_law_refused" (.cons (.e (.v 9)) (.cons (.e (.v 4)) (.cons (.e (.k (.int 99))) (.cons (.e (.v 8)) .nil)))) [])) (.e (.lst (.cons (.e (.k (.bl true))) (.cons (.e (.k (.bl false))) .nil)))))) (.seq (.ret (.k (.bl false))) .nx) .nx) (.seq (.forr (.nm 10) (.of (.e (.tup (.cons (.e (.neg (.e (.k (.int 1))))) (.cons (.e (.bi .len (.cons (.v 3) .nil))) .nil))))) [] (.seq (.ife (.and (.e (.o2 .lt (.v 9) (.e (.k (.int 4))))) (.e (.o2 .ne (.e (.fn "_law_refused" (.cons (.e (.v 9)) (.cons (.e (.v 4)) (.cons (.e (.v 10)) (.cons (.e (.o2 .ix (.v 5) (.e (.k (.int 0))))) .nil)))) [])) (.e (.lst (.cons (.e (.k (.bl false))) (.cons (.e (.k (.bl true))) .nil))))))) (.seq (.ret (.k (.bl false))) .nx) .nx) .nx)) .nx))) (.seq (.ret (.k (.bl true))) .nx)))))))))
def c__law_asked : SC := .seq (.asg 4 (.fn "deciding_holdings" (.cons (.e (.v 1)) (.cons (.e (.v 3)) .nil)) []) [1, 3]) (.seq (.forr (.nm 5) (.range (.cons (.e (.bi .len (.cons (.v 2) .nil))) .nil)) [] (.seq (.asg 6 (.o2 .ix (.v 2) (.v 5)) []) (.seq (.asg 7 (.bm .join (.e (.k (.str ""))) (.e (.lc (.nm 11) (.of (.e (.o2 .ix (.v 6) (.e (.k (.int 2)))))) (.e (.o2 .notin (.v 11) (.e (.o2 .ix (.v 3) (.e (.o2 .sub (.e (.k (.int 1))) (.e (.o2 .ix (.v 6) (.e (.k (.int 1))))))))))) (.e (.v 11)) [11]))) [11]) (.seq (.asg 8 (.bm .join (.e (.k (.str ""))) (.e (.lc (.nm 11) (.of (.e (.o2 .ix (.v 3) (.e (.o2 .ix (.v 6) (.e (.k (.int 1)))))))) (.e (.o2 .notin (.v 11) (.e (.o2 .ix (.e (.o2 .ix (.v 6) (.e (.k (.int 0))))) (.e (.o2 .ix (.v 6) (.e (.k (.int 1))))))))) (.e (.v 11)) [11]))) [11]) (.seq (.ife (.not (.tr (.e (.fn "_law_same" (.cons (.e (.fn "distinction" (.cons (.e (.v 1)) (.cons (.e (.v 5)) (.cons (.e (.v 3)) .nil))) [])) (.cons (.e (.tup (.cons (.e (.v 7)) (.cons (.e (.v 8)) .nil)))) .nil)) [])))) (.seq (.ret (.k (.bl false))) .nx) .nx) (.seq (.ife (.e (.o2 .ne (.e (.t (.and (.e (.o2 .eq (.v 7) (.e (.k (.str ""))))) (.e (.o2 .eq (.v 8) (.e (.k (.str "")))))))) (.e (.o2 .inn (.v 5) (.v 4))))) (.seq (.ret (.k (.bl false))) .nx) .nx) (.seq (.ife (.e (.o2 .notin (.v 5) (.e (.fn "deciding_holdings" (.cons (.e (.v 1)) (.cons (.e (.fn "_law_mended" (.cons (.e (.v 0)) (.cons (.e (.v 6)) (.cons (.e (.v 3)) .nil))) [])) .nil)) [])))) (.seq (.ret (.k (.bl false))) .nx) .nx) (.seq (.ife (.not (.tr (.e (.fn "_law_same" (.cons (.e (.fn "shared_factors" (.cons (.e (.v 1)) (.cons (.e (.v 5)) (.cons (.e (.v 3)) .nil))) [])) (.cons (.e (.fn "_law_shared" (.cons (.e (.v 6)) (.cons (.e (.v 3)) .nil)) [])) .nil)) [])))) (.seq (.ret (.k (.bl false))) .nx) .nx) (.seq (.forr (.nm 9) (.range (.cons (.e (.bi .len (.cons (.v 2) .nil))) .nil)) [] (.seq (.ife (.and (.e (.o2 .eq (.e (.o2 .mod (.e (.o2 .add (.v 5) (.v 9))) (.e (.k (.int 3))))) (.e (.k (.int 0))))) (.not (.tr (.e (.fn "_law_same" (.cons (.e (.fn "nearer" (.cons (.e (.v 1)) (.cons (.e (.v 5)) (.cons (.e (.v 9)) (.cons (.e (.v 3)) .nil)))) [])) (.cons (.e (.fn "_law_near" (.cons (.e (.v 6)) (.cons (.e (.o2 .ix (.v 2) (.v 9))) (.cons (.e (.v 3)) .nil))) [])) .nil)) []))))) (.seq (.ret (.k (.bl false))) .nx) .nx) .nx)) .nx))))))))) (.seq (.asg 10 (.lst .nil) []) (.seq (.forr (.nm 5) (.range (.cons (.e (.bi .len (.cons (.v 2) .nil))) .nil)) [] (.seq (.ife (.e (.o2 .eq (.e (.bi .len (.cons (.e (.lc (.nm 6) (.of (.v 2)) (.tr (.e (.fn "_law_near" (.cons (.e (.v 6)) (.cons (.e (.o2 .ix (.v 2) (.v 5))) (.cons (.e (.v 3)) .nil))) []))) (.e (.v 6)) [6])) .nil))) (.e (.k (.int 0))))) (.seq (.app 10 (.e (.v 5)) [5]) .nx) .nx) .nx)) (.seq (.ret (.fn "_law_same" (.cons (.e (.fn "nearest_holdings" (.cons (.e (.v 1)) (.cons (.e (.v 3)) .nil)) [])) (.cons (.e (.bi .tuple (.cons (.v 10) .nil))) .nil)) [])) .nx))))
def c__law_bad_matter : SC := .seq (.asg 3 (.fn "_law_matter" (.cons (.e (.v 0)) (.cons (.e (.v 1)) (.cons (.e (.v 2)) .nil))) []) [0, 1, 2]) (.seq (.asg 4 (.o2 .mod (.e (.bi .int (.cons (.e (.o2 .ix (.v 0) (.e (.o2 .add (.v 1) (.e (.k (.int 2))))))) .nil))) (.e (.k (.int 5)))) []) (.seq (.asg 5 (.k (.str "abcdefghijklmnopqrstuvwxyz")) []) (.seq (.asg 6 (.o2 .ix (.e (.lc (.nm 7) (.of (.v 5)) (.e (.o2 .notin (.v 7) (.e (.o2 .add (.e (.o2 .ix (.v 2) (.e (.k (.int 0))))) (.e (.o2 .ix (.v 2) (.e (.k (.int 1))))))))) (.e (.v 7)) [7])) (.e (.o2 .mod (.e (.bi .int (.cons (.e (.o2 .fdiv (.e (.o2 .ix (.v 0) (.e (.o2 .add (.v 1) (.e (.k (.int 2))))))) (.e (.k (.int 5))))) .nil))) (.e (.k (.int 18)))))) [7]) (.seq (.ife (.e (.o2 .eq (.v 4) (.e (.k (.int 0))))) (.seq (.ret (.tup (.cons (.e (.o2 .add (.e (.o2 .ix (.v 3) (.e (.k (.int 0))))) (.v 6))) (.cons (.e (.o2 .ix (.v 3) (.e (.k (.int 1))))) .nil)))) .nx) .nx) (.seq (.ife (.e (.o2 .eq (.v 4) (.e (.k (.int 1))))) (.seq (.ret (.tup (.cons (.e (.o2 .ix (.v 3) (.e (.k (.int 0))))) (.cons (.e (.o2 .add (.v 6) (.e (.o2 .ix (.v 3) (.e (.k (.int 1))))))) .nil)))) .nx) .nx) (.seq (.ife (.and (.e (.o2 .eq (.v 4) (.e (.k (.int 2))))) (.e (.o2 .gt (.e (.bi .len (.cons (.e (.o2 .ix (.v 2) (.e (.k (.int 0))))) .nil))) (.e (.k (.int 0)))))) (.seq (.ret (.tup (.cons (.e (.o2 .add (.e (.o2 .add (.e (.o2 .ix (.v 3) (.e (.k (.int 0))))) (.e (.o2 .ix (.e (.o2 .ix (.v 2) (.e (.k (.int 0))))) (.e (.k (.int 0))))))) (.e (.o2 .ix (.e (.o2 .ix (.v 2) (.e (.k (.int 0))))) (.e (.k (.int 0))))))) (.cons (.e (.o2 .ix (.v 3) (.e (.k (.int 1))))) .nil)))) .nx) .nx) (.seq (.ife (.and (.e (.o2 .eq (.v 4) (.e (.k (.int 3))))) (.e (.o2 .gt (.e (.bi .len (.cons (.e (.o2 .ix (.v 2) (.e (.k (.int 1))))) .nil))) (.e (.k (.int 0)))))) (.seq (.ret (.tup (.cons (.e (.o2 .ix (.v 3) (.e (.k (.int 0))))) (.cons (.e (.o2 .add (.e (.o2 .ix (.v 2) (.e (.k (.int 1))))) (.e (.o2 .ix (.e (.o2 .ix (.v 2) (.e (.k (.int 1))))) (.e (.k (.int 0))))))) .nil)))) .nx) .nx) (.seq (.ife (.and (.e (.o2 .eq (.v 4) (.e (.k (.int 4))))) (.e (.o2 .gt (.e (.bi .len (.cons (.e (.o2 .ix (.v 2) (.e (.k (.int 0))))) .nil))) (.e (.k (.int 0)))))) (.seq (.ret (.tup (.cons (.e (.o2 .ix (.v 3) (.e (.k (.int 0))))) (.cons (.e (.o2 .ix (.e (.o2 .ix (.v 2) (.e (.k (.int 0))))) (.e (.k (.int 0))))) .nil)))) .nx) .nx) (.seq (.ret (.tup (.cons (.e (.k (.str "-"))) (.cons (.e (.o2 .ix (.v 3) (.e (.k (.int 1))))) .nil)))) .nx)))))))))
def c__law_draws : SC := .seq (.asg 3 (.bi .abs (.cons (.e (.fn "_law_cell" (.cons (.e (.v 0)) (.cons (.e (.v 1)) .nil)) [])) .nil)) [0, 1]) (.seq (.asg 4 (.o2 .mod (.e (.bi .int (.cons (.e (.o2 .add (.e (.o2 .add (.v 3) (.e (.o2 .mul (.e (.k (.int 7919))) (.v 1))))) (.e (.k (.int 1))))) .nil))) (.e (.k (.int 2147483629)))) []) (.seq (.asg 5 (.lst .nil) []) (.seq (.ife (.e (.o2 .ge (.v 3) (.e (.o2 .pow (.e (.k (.int 10))) (.e (.k (.int 18))))))) (.seq (.forr (.nm 6) (.range (.cons (.v 2) .nil)) [] (.seq (.ife (.e (.o2 .gt (.v 3) (.e (.k (.int 0))))) (.seq (.app 5 (.e (.o2 .mod (.e (.bi .int (.cons (.v 3) .nil))) (.e (.k (.int 1000))))) []) (.seq (.asg 3 (.o2 .fdiv (.v 3) (.e (.k (.int 1000)))) []) .nx)) .nx) .nx)) .nx) .nx) (.seq (.forr (.nm 6) (.range (.cons (.e (.bi .len (.cons (.v 5) .nil))) (.cons (.v 2) .nil))) [] (.seq (.asg 7 (.o2 .mod (.e (.bi .int (.cons (.e (.o2 .add (.e (.o2 .add (.e (.o2 .mul (.v 4) (.e (.k (.int 48271))))) (.e (.o2 .mul (.v 6) (.e (.k (.int 69621))))))) (.e (.k (.int 17))))) .nil))) (.e (.k (.int 2147483629)))) []) (.seq (.asg 8 (.o2 .mod (.e (.bi .int (.cons (.e (.o2 .add (.e (.o2 .add (.e (.o2 .mul (.v 7) (.v 7))) (.v 4))) (.v 6))) .nil))) (.e (.k (.int 998244353)))) []) (.seq (.app 5 (.e (.o2 .mod (.e (.bi .int (.cons (.e (.o2 .fdiv (.v 8) (.e (.k (.int 11))))) .nil))) (.e (.k (.int 1000))))) []) .nx)))) (.seq (.retv 5) .nx)))))
def c__law_holdings : SC := .seq (.asg 5 (.lst .nil) []) (.seq (.forr (.nm 6) (.range (.cons (.v 3) .nil)) [] (.seq (.asg 7 (.fn "_law_holding" (.cons (.e (.v 0)) (.cons (.e (.o2 .add (.v 1) (.e (.o2 .mul (.e (.k (.int 4))) (.v 6))))) (.cons (.e (.v 2)) .nil))) []) [0, 2]) (.seq (.ife (.and (.tr (.v 4)) (.not (.tr (.e (.fn "_law_peaceful" (.cons (.e (.v 5)) (.cons (.e (.v 7)) .nil)) []))))) (.seq (.asg 7 (.tup (.cons (.e (.o2 .ix (.v 7) (.e (.k (.int 0))))) (.cons (.e (.o2 .ix (.v 7) (.e (.k (.int 1))))) (.cons (.e (.o2 .ix (.e (.o2 .ix (.v 7) (.e (.k (.int 0))))) (.e (.o2 .sub (.e (.k (.int 1))) (.e (.o2 .ix (.v 7) (.e (.k (.int 1))))))))) .nil)))) []) .nx) .nx) (.seq (.ife (.and (.tr (.v 4)) (.not (.tr (.e (.fn "_law_peaceful" (.cons (.e (.v 5)) (.cons (.e (.v 7)) .nil)) []))))) (.seq (.asg 7 (.tup (.cons (.e (.o2 .ix (.v 7) (.e (.k (.int 0))))) (.cons (.e (.o2 .sub (.e (.k (.int 1))) (.e (.o2 .ix (.v 7) (.e (.k (.int 1))))))) (.cons (.e (.o2 .ix (.e (.o2 .ix (.v 7) (.e (.k (.int 0))))) (.e (.o2 .ix (.v 7) (.e (.k (.int 1))))))) .nil)))) []) .nx) .nx) (.seq (.app 5 (.e (.v 7)) [7]) .nx))))) (.seq (.retv 5) .nx))
def c__law_idle : SC := .seq (.asg 4 (.k (.str "")) []) (.seq (.forr (.nm 5) (.of (.e (.o2 .add (.e (.o2 .ix (.v 0) (.e (.k (.int 0))))) (.e (.o2 .ix (.v 0) (.e (.k (.int 1)))))))) [] (.seq (.asg 6 (.lc (.nm 10) (.of (.v 2)) (.e (.o2 .inn (.v 5) (.e (.o2 .add (.e (.o2 .ix (.v 10) (.e (.k (.int 2))))) (.e (.o2 .ix (.e (.o2 .ix (.v 10) (.e (.k (.int 0))))) (.e (.o2 .ix (.v 10) (.e (.k (.int 1))))))))))) (.e (.v 10)) [10]) [10]) (.seq (.ife (.e (.o2 .eq (.e (.bi .len (.cons (.v 6) .nil))) (.e (.k (.int 0))))) (.seq (.asg 4 (.o2 .add (.v 4) (.v 5)) []) .nx) .nx) .nx))) (.seq (.ife (.not (.tr (.e (.fn "_law_same" (.cons (.e (.fn "idle_factors" (.cons (.e (.v 1)) .nil) [])) (.cons (.e (.v 4)) .nil)) [])))) (.seq (.ret (.k (.bl false))) .nx) .nx) (.seq (.forr (.nm 5) (.of (.e (.v 4))) [4] (.seq (.ife (.e (.o2 .inn (.v 5) (.e (.o2 .ix (.v 0) (.e (.k (.int 0))))))) (.seq (.asg 7 (.tup (.cons (.e (.bm .join (.e (.k (.str ""))) (.e (.lc (.nm 11) (.of (.e (.o2 .ix (.v 0) (.e (.k (.int 0)))))) (.e (.o2 .ne (.e (.o2 .inn (.v 11) (.e (.o2 .ix (.v 3) (.e (.k (.int 0))))))) (.e (.o2 .eq (.v 11) (.v 5))))) (.e (.v 11)) [11])))) (.cons (.e (.o2 .ix (.v 3) (.e (.k (.int 1))))) .nil))) [11]) (.seq (.asg 8 (.lc (.nm 12) (.of (.e (.fn "deciding_holdings" (.cons (.e (.v 1)) (.cons (.e (.v 3)) .nil)) []))) (.e (.o2 .eq (.e (.o2 .ix (.e (.o2 .ix (.v 2) (.v 12))) (.e (.k (.int 1))))) (.e (.k (.int 1))))) (.e (.v 12)) [12]) [1, 3, 12]) (.seq (.ife (.e (.o2 .ne (.e (.lc (.nm 12) (.of (.e (.fn "deciding_holdings" (.cons (.e (.v 1)) (.cons (.e (.v 7)) .nil)) []))) (.e (.o2 .eq (.e (.o2 .ix (.e (.o2 .ix (.v 2) (.v 12))) (.e (.k (.int 1))))) (.e (.k (.int 1))))) (.e (.v 12)) [12])) (.v 8))) (.seq (.ret (.k (.bl false))) .nx) .nx) .nx))) (.seq (.asg 7 (.tup (.cons (.e (.o2 .ix (.v 3) (.e (.k (.int 0))))) (.cons (.e (.bm .join (.e (.k (.str ""))) (.e (.lc (.nm 11) (.of (.e (.o2 .ix (.v 0) (.e (.k (.int 1)))))) (.e (.o2 .ne (.e (.o2 .inn (.v 11) (.e (.o2 .ix (.v 3) (.e (.k (.int 1))))))) (.e (.o2 .eq (.v 11) (.v 5))))) (.e (.v 11)) [11])))) .nil))) [11]) (.seq (.asg 9 (.lc (.nm 12) (.of (.e (.fn "deciding_holdings" (.cons (.e (.v 1)) (.cons (.e (.v 3)) .nil)) []))) (.e (.o2 .eq (.e (.o2 .ix (.e (.o2 .ix (.v 2) (.v 12))) (.e (.k (.int 1))))) (.e (.k (.int 0))))) (.e (.v 12)) [12]) [1, 3, 12]) (.seq (.ife (.e (.o2 .ne (.e (.lc (.nm 12) (.of (.e (.fn "deciding_holdings" (.cons (.e (.v 1)) (.cons (.e (.v 7)) .nil)) []))) (.e (.o2 .eq (.e (.o2 .ix (.e (.o2 .ix (.v 2) (.v 12))) (.e (.k (.int 1))))) (.e (.k (.int 0))))) (.e (.v 12)) [12])) (.v 9))) (.seq (.ret (.k (.bl false))) .nx) .nx) .nx)))) .nx)) (.seq (.ret (.k (.bl true))) .nx))))
def c__law_letters : SC := .seq (.asg 3 (.k (.str "abcdefghijklmnopqrstuvwxyz")) []) (.seq (.asg 4 (.k (.str "")) []) (.seq (.asg 5 (.k (.str "")) []) (.seq (.forr (.nm 6) (.range (.cons (.e (.o2 .add (.e (.k (.int 1))) (.e (.o2 .mod (.e (.bi .int (.cons (.e (.o2 .ix (.v 0) (.v 1))) .nil))) (.v 2))))) .nil)) [] (.seq (.asg 7 (.o2 .mod (.e (.bi .int (.cons (.e (.o2 .ix (.v 0) (.e (.o2 .add (.e (.o2 .add (.v 1) (.e (.k (.int 2))))) (.v 6))))) .nil))) (.e (.bi .len (.cons (.v 3) .nil)))) []) (.seq (.ife (.e (.o2 .eq (.e (.o2 .mod (.e (.bi .int (.cons (.e (.o2 .fdiv (.e (.o2 .ix (.v 0) (.e (.o2 .add (.v 1) (.e (.k (.int 1))))))) (.e (.o2 .ix (.e (.tup (.cons (.e (.k (.int 1))) (.cons (.e (.k (.int 2))) (.cons (.e (.k (.int 4))) (.cons (.e (.k (.int 8))) (.cons (.e (.k (.int 16))) (.cons (.e (.k (.int 32))) (.cons (.e (.k (.int 64))) (.cons (.e (.k (.int 128))) .nil)))))))))) (.v 6))))) .nil))) (.e (.k (.int 2))))) (.e (.k (.int 1))))) (.seq (.asg 4 (.o2 .add (.v 4) (.e (.o2 .ix (.v 3) (.v 7)))) []) .nx) (.seq (.asg 5 (.o2 .add (.v 5) (.e (.o2 .ix (.v 3) (.v 7)))) []) .nx)) (.seq (.asg 3 (.o2 .add (.e (.cut (.v 3) .none (.some (.v 7)))) (.e (.cut (.v 3) (.some (.e (.o2 .add (.v 7) (.e (.k (.int 1)))))) .none))) []) .nx)))) (.seq (.ret (.tup (.cons (.e (.v 4)) (.cons (.e (.v 5)) .nil)))) .nx))))
def c__law_matter : SC := .seq (.ret (.tup (.cons (.e (.fn "_law_lot" (.cons (.e (.o2 .ix (.v 0) (.v 1))) (.cons (.e (.o2 .ix (.v 2) (.e (.k (.int 0))))) .nil)) [])) (.cons (.e (.fn "_law_lot" (.cons (.e (.o2 .ix (.v 0) (.e (.o2 .add (.v 1) (.e (.k (.int 1))))))) (.cons (.e (.o2 .ix (.v 2) (.e (.k (.int 1))))) .nil)) [])) .nil)))) .nx
def c__law_refused : SC := .seq (.tryAs (.seq (.ife (.e (.o2 .eq (.v 0) (.e (.k (.int 0))))) (.seq (.drop (.fn "distinction" (.cons (.e (.v 1)) (.cons (.e (.v 2)) (.cons (.e (.v 3)) .nil))) [])) .nx) (.seq (.ife (.e (.o2 .eq (.v 0) (.e (.k (.int 1))))) (.seq (.drop (.fn "shared_factors" (.cons (.e (.v 1)) (.cons (.e (.v 2)) (.cons (.e (.v 3)) .nil))) [])) .nx) (.seq (.ife (.e (.o2 .eq (.v 0) (.e (.k (.int 2))))) (.seq (.drop (.fn "nearer" (.cons (.e (.v 1)) (.cons (.e (.v 2)) (.cons (.e (.k (.int 0))) (.cons (.e (.v 3)) .nil)))) [])) .nx) (.seq (.ife (.e (.o2 .eq (.v 0) (.e (.k (.int 3))))) (.seq (.drop (.fn "nearer" (.cons (.e (.v 1)) (.cons (.e (.k (.int 0))) (.cons (.e (.v 2)) (.cons (.e (.v 3)) .nil)))) [])) .nx) (.seq (.drop (.fn "nearest_holdings" (.cons (.e (.v 1)) (.cons (.e (.v 3)) .nil)) [])) .nx)) .nx)) .nx)) .nx)) .nx) 4 [("CourtError", true), ("NoForum", true), ("BadText", true), ("OtherForum", true), ("NoCase", true), ("NoGrade", true), ("NoRow", true), ("NoRule", true), ("TooLarge", true)] (.seq (.ret (.lst (.cons (.e (.isE 4 [("CourtError", false), ("NoForum", false), ("BadText", false), ("OtherForum", false), ("NoCase", true), ("NoGrade", false), ("NoRow", false), ("NoRule", false), ("TooLarge", false)])) (.cons (.e (.isE 4 [("CourtError", false), ("NoForum", false), ("BadText", false), ("OtherForum", false), ("NoCase", false), ("NoGrade", false), ("NoRow", true), ("NoRule", false), ("TooLarge", false)])) .nil)))) .nx)) (.seq (.ret (.k .non)) .nx)
def c_CasebookI_initI : SC := .seq (.asg 3 (.fn "checked_holdings" (.cons (.e (.v 1)) (.cons (.e (.v 2)) .nil)) []) [1, 2]) (.seq (.ife (.e (.o2 .gt (.e (.bi .len (.cons (.v 3) .nil))) (.e (.k (.int 12))))) (.seq (.raise "TooLarge") .nx) .nx) (.seq (.putF 0 "factors" ["Casebook"] (.e (.v 1)) [1]) (.seq (.putF 0 "rows" ["Casebook"] (.e (.v 3)) [3]) (.seq (.putF 0 "_cores" ["Casebook"] (.e (.bi .tuple (.cons (.e (.lc (.nm 4) (.of (.v 3)) .yes (.e (.fn "core" (.cons (.e (.v 4)) .nil) [])) [4])) .nil))) [4]) .nx))))
def c_FactorsI_initI : SC := .seq (.ife (.or (.not (.tr (.e (.fn "distinct_letters" (.cons (.e (.o2 .add (.v 1) (.v 2))) .nil) [])))) (.not (.e (.chain .le .le (.e (.k (.int 1))) (.e (.bi .len (.cons (.e (.o2 .add (.v 1) (.v 2))) .nil))) (.e (.k (.int 8))))))) (.seq (.raise "NoForum") .nx) .nx) (.seq (.putF 0 "pro" ["Factors"] (.e (.v 1)) [1]) (.seq (.putF 0 "con" ["Factors"] (.e (.v 2)) [2]) (.seq (.putF 0 "_matters" ["Factors"] (.e (.lc2 (.nm 3) (.of (.e (.fn "all_lots" (.cons (.e (.v 1)) .nil) []))) .yes (.nm 4) (.of (.e (.fn "all_lots" (.cons (.e (.v 2)) .nil) []))) .yes (.e (.tup (.cons (.e (.v 3)) (.cons (.e (.v 4)) .nil)))) [3, 4] [4])) [1, 2, 3, 4]) (.seq (.putF 0 "_numbers" ["Factors"] (.e (.dc (.tp (.cons (.nm 5) (.cons (.nm 6) .nil))) (.enum (.cons (.e (.fl "_matters" ["Factors"] (.v 0))) .nil)) .yes (.e (.v 6)) (.e (.v 5)) [5, 6])) [6, 5]) .nx))))
def c__law_cell : SC := .seq (.ife (.e (.o2 .lt (.v 1) (.e (.bi .len (.cons (.v 0) .nil))))) (.seq (.ret (.bi .int (.cons (.e (.o2 .ix (.v 0) (.v 1))) .nil))) .nx) .nx) (.seq (.ret (.k (.int 0))) .nx)
def c__law_holding : SC := .seq (.asg 3 (.fn "_law_matter" (.cons (.e (.v 0)) (.cons (.e (.v 1)) (.cons (.e (.v 2)) .nil))) []) [0, 1, 2]) (.seq (.asg 4 (.o2 .mod (.e (.bi .int (.cons (.e (.o2 .ix (.v 0) (.e (.o2 .add (.v 1) (.e (.k (.int 2))))))) .nil))) (.e (.k (.int 2)))) []) (.seq (.ret (.tup (.cons (.e (.v 3)) (.cons (.e (.v 4)) (.cons (.e (.fn "_law_lot" (.cons (.e (.o2 .ix (.v 0) (.e (.o2 .add (.v 1) (.e (.k (.int 3))))))) (.cons (.e (.o2 .ix (.v 3) (.e (.o2 .sub (.e (.k (.int 1))) (.v 4))))) .nil)) [])) .nil))))) .nx))
def c__law_lot : SC := .seq (.asg 2 (.k (.str "")) []) (.seq (.forr (.nm 3) (.range (.cons (.e (.bi .len (.cons (.v 1) .nil))) .nil)) [] (.seq (.ife (.e (.o2 .eq (.e (.o2 .mod (.e (.bi .int (.cons (.e (.o2 .fdiv (.v 0) (.e (.o2 .ix (.e (.tup (.cons (.e (.k (.int 1))) (.cons (.e (.k (.int 2))) (.cons (.e (.k (.int 4))) (.cons (.e (.k (.int 8))) (.cons (.e (.k (.int 16))) (.cons (.e (.k (.int 32))) (.cons (.e (.k (.int 64))) (.cons (.e (.k (.int 128))) .nil)))))))))) (.v 3))))) .nil))) (.e (.k (.int 2))))) (.e (.k (.int 1))))) (.seq (.asg 2 (.o2 .add (.v 2) (.e (.o2 .ix (.v 1) (.v 3)))) []) .nx) .nx) .nx)) (.seq (.retv 2) .nx))
def c__law_mended : SC := .seq (.asg 3 (.bm .join (.e (.k (.str ""))) (.e (.lc (.nm 5) (.of (.e (.o2 .ix (.v 0) (.e (.o2 .sub (.e (.k (.int 1))) (.e (.o2 .ix (.v 1) (.e (.k (.int 1)))))))))) (.e (.o2 .inn (.v 5) (.e (.o2 .add (.e (.o2 .ix (.v 2) (.e (.o2 .sub (.e (.k (.int 1))) (.e (.o2 .ix (.v 1) (.e (.k (.int 1))))))))) (.e (.o2 .ix (.v 1) (.e (.k (.int 2))))))))) (.e (.v 5)) [5]))) [5]) (.seq (.asg 4 (.bm .join (.e (.k (.str ""))) (.e (.lc (.nm 5) (.of (.e (.o2 .ix (.v 2) (.e (.o2 .ix (.v 1) (.e (.k (.int 1)))))))) (.e (.o2 .inn (.v 5) (.e (.o2 .ix (.e (.o2 .ix (.v 1) (.e (.k (.int 0))))) (.e (.o2 .ix (.v 1) (.e (.k (.int 1))))))))) (.e (.v 5)) [5]))) [5]) (.seq (.ife (.e (.o2 .eq (.e (.o2 .ix (.v 1) (.e (.k (.int 1))))) (.e (.k (.int 1))))) (.seq (.ret (.tup (.cons (.e (.v 3)) (.cons (.e (.v 4)) .nil)))) .nx) .nx) (.seq (.ret (.tup (.cons (.e (.v 4)) (.cons (.e (.v 3)) .nil)))) .nx)))
def c__law_near : SC := .seq (.asg 3 (.fn "_law_shared" (.cons (.e (.v 0)) (.cons (.e (.v 2)) .nil)) []) [0, 2]) (.seq (.asg 4 (.fn "_law_shared" (.cons (.e (.v 1)) (.cons (.e (.v 2)) .nil)) []) [1, 2]) (.seq (.ret (.t (.and (.e (.o2 .ne (.v 3) (.v 4))) (.and (.e (.fn "_law_within" (.cons (.e (.o2 .ix (.v 4) (.e (.k (.int 0))))) (.cons (.e (.o2 .ix (.v 3) (.e (.k (.int 0))))) .nil)) [])) (.e (.fn "_law_within" (.cons (.e (.o2 .ix (.v 4) (.e (.k (.int 1))))) (.cons (.e (.o2 .ix (.v 3) (.e (.k (.int 1))))) .nil)) [])))))) .nx))
def c__law_peaceful : SC := .seq (.forr (.nm 2) (.of (.e (.v 0))) [0] (.seq (.ife (.tr (.e (.fn "_law_fight" (.cons (.e (.v 1)) (.cons (.e (.v 2)) .nil)) []))) (.seq (.ret (.k (.bl false))) .nx) .nx) .nx)) (.seq (.ret (.k (.bl true))) .nx)
def c__law_same : SC := .seq (.ife (.or (.tr (.e (.isi .bool (.v 0)))) (.tr (.e (.isi .bool (.v 1))))) (.seq (.ret (.t (.and (.e (.isi .bool (.v 0))) (.and (.e (.isi .bool (.v 1))) (.e (.o2 .eq (.v 0) (.v 1))))))) .nx) .nx) (.seq (.ife (.tr (.e (.isi .int (.v 1)))) (.seq (.ret (.t (.and (.e (.isi .int (.v 0))) (.e (.o2 .eq (.v 0) (.v 1)))))) .nx) .nx) (.seq (.ife (.tr (.e (.isi .str (.v 1)))) (.seq (.ret (.t (.and (.e (.isi .str (.v 0))) (.e (.o2 .eq (.v 0) (.v 1)))))) .nx) .nx) (.seq (.ife (.e (.o2 .isn (.v 1) (.e (.k .non)))) (.seq (.ret (.o2 .isn (.v 0) (.e (.k .non)))) .nx) .nx) (.seq (.ife (.tr (.e (.isi .tuple (.v 1)))) (.seq (.ife (.or (.not (.tr (.e (.isi .tuple (.v 0))))) (.e (.o2 .ne (.e (.bi .len (.cons (.v 0) .nil))) (.e (.bi .len (.cons (.v 1) .nil)))))) (.seq (.ret (.k (.bl false))) .nx) .nx) .nx) (.seq (.ife (.or (.not (.tr (.e (.isi .list (.v 0))))) (.e (.o2 .ne (.e (.bi .len (.cons (.v 0) .nil))) (.e (.bi .len (.cons (.v 1) .nil)))))) (.seq (.ret (.k (.bl false))) .nx) .nx) .nx)) (.seq (.forr (.nm 2) (.range (.cons (.e (.bi .len (.cons (.v 1) .nil))) .nil)) [] (.seq (.ife (.not (.tr (.e (.fn "_law_same" (.cons (.e (.o2 .ix (.v 0) (.v 2))) (.cons (.e (.o2 .ix (.v 1) (.v 2))) .nil)) [])))) (.seq (.ret (.k (.bl false))) .nx) .nx) .nx)) (.seq (.ret (.k (.bl true))) .nx))))))
def c__law_shared : SC := .seq (.asg 2 (.bm .join (.e (.k (.str ""))) (.e (.lc (.nm 4) (.of (.e (.o2 .ix (.e (.o2 .ix (.v 0) (.e (.k (.int 0))))) (.e (.k (.int 0)))))) (.e (.o2 .inn (.v 4) (.e (.o2 .ix (.v 1) (.e (.k (.int 0))))))) (.e (.v 4)) [4]))) [4]) (.seq (.asg 3 (.bm .join (.e (.k (.str ""))) (.e (.lc (.nm 4) (.of (.e (.o2 .ix (.e (.o2 .ix (.v 0) (.e (.k (.int 0))))) (.e (.k (.int 1)))))) (.e (.o2 .inn (.v 4) (.e (.o2 .ix (.v 1) (.e (.k (.int 1))))))) (.e (.v 4)) [4]))) [4]) (.seq (.ret (.tup (.cons (.e (.v 2)) (.cons (.e (.v 3)) .nil)))) .nx))
def c_all_lots : SC := .seq (.asg 1 (.lst (.cons (.e (.k (.str ""))) .nil)) []) (.seq (.forr (.nm 2) (.of (.e (.v 0))) [0] (.seq (.asg 1 (.o2 .add (.v 1) (.e (.lc (.nm 3) (.of (.v 1)) .yes (.e (.o2 .add (.v 3) (.v 2))) [3]))) []) .nx)) (.seq (.ret (.bi .sorted (.cons (.v 1) .nil))) .nx))
def c_checked_holdings : SC := .seq (.forr (.tp (.cons (.nm 2) (.cons (.nm 3) (.cons (.nm 3) .nil)))) (.of (.e (.v 1))) [1] (.seq (.drop (.mt "require_matter" (.e (.v 0)) (.cons (.e (.v 2)) .nil) [("Factors", [])])) .nx)) (.seq (.forr (.tp (.cons (.nm 3) (.cons (.nm 4) (.cons (.nm 3) .nil)))) (.of (.e (.v 1))) [1] (.seq (.ife (.e (.o2 .notin (.v 4) (.e (.tup (.cons (.e (.k (.int 0))) (.cons (.e (.k (.int 1))) .nil)))))) (.seq (.raise "NoGrade") .nx) .nx) .nx)) (.seq (.forr (.tp (.cons (.nm 2) (.cons (.nm 4) (.cons (.nm 5) .nil)))) (.of (.e (.v 1))) [1] (.seq (.ife (.not (.tr (.e (.fn "is_reason" (.cons (.e (.v 0)) (.cons (.e (.v 2)) (.cons (.e (.v 4)) (.cons (.e (.v 5)) .nil)))) [])))) (.seq (.raise "NoRule") .nx) .nx) .nx)) (.seq (.ret (.bi .tuple (.cons (.e (.lc (.tp (.cons (.nm 2) (.cons (.nm 4) (.cons (.nm 5) .nil)))) (.of (.v 1)) .yes (.e (.tup (.cons (.e (.v 2)) (.cons (.e (.v 4)) (.cons (.e (.v 5)) .nil))))) [2, 4, 5])) .nil))) .nx)))
def c_core : SC := .seq (.unp (.tp (.cons (.nm 1) (.cons (.nm 2) (.cons (.nm 3) .nil)))) (.e (.v 0)) [0]) (.seq (.ife (.e (.o2 .eq (.v 2) (.e (.k (.int 1))))) (.seq (.ret (.tup (.cons (.e (.v 3)) (.cons (.e (.o2 .ix (.v 1) (.e (.k (.int 1))))) .nil)))) .nx) .nx) (.seq (.ret (.tup (.cons (.e (.o2 .ix (.v 1) (.e (.k (.int 0))))) (.cons (.e (.v 3)) .nil)))) .nx))
def c_deciding_holdings : SC := .seq (.drop (.mt "require_matter" (.e (.fl "factors" ["Casebook"] (.v 0))) (.cons (.e (.v 1)) .nil) [("Factors", [])])) (.seq (.asg 2 (.lst .nil) []) (.seq (.forr (.tp (.cons (.nm 3) (.cons (.nm 4) .nil))) (.enum (.cons (.e (.fl "rows" ["Casebook"] (.v 0))) .nil)) [] (.seq (.ife (.and (.e (.o2 .eq (.e (.o2 .ix (.v 4) (.e (.k (.int 1))))) (.e (.k (.int 1))))) (.tr (.e (.fn "matter_at_least" (.cons (.e (.v 1)) (.cons (.e (.fn "core" (.cons (.e (.v 4)) .nil) [])) .nil)) [])))) (.seq (.app 2 (.e (.v 3)) [3]) .nx) .nx) (.seq (.ife (.and (.e (.o2 .eq (.e (.o2 .ix (.v 4) (.e (.k (.int 1))))) (.e (.k (.int 0))))) (.tr (.e (.fn "matter_at_least" (.cons (.e (.fn "core" (.cons (.e (.v 4)) .nil) [])) (.cons (.e (.v 1)) .nil)) [])))) (.seq (.app 2 (.e (.v 3)) [3]) .nx) .nx) .nx))) (.seq (.ret (.bi .tuple (.cons (.v 2) .nil))) .nx)))
def c_distinct_letters : SC := .seq (.forr (.nm 1) (.of (.e (.v 0))) [0] (.seq (.ife (.or (.e (.o2 .notin (.v 1) (.e (.k (.str "abcdefghijklmnopqrstuvwxyz"))))) (.e (.o2 .gt (.e (.bm .count (.v 0) (.v 1))) (.e (.k (.int 1)))))) (.seq (.ret (.k (.bl false))) .nx) .nx) .nx)) (.seq (.ret (.k (.bl true))) .nx)
def c_distinction : SC := .seq (.drop (.mt "require_matter" (.e (.fl "factors" ["Casebook"] (.v 0))) (.cons (.e (.v 2)) .nil) [("Factors", [])])) (.seq (.drop (.fn "require_holding" (.cons (.e (.v 0)) (.cons (.e (.v 1)) .nil)) [])) (.seq (.unp (.tp (.cons (.nm 3) (.cons (.nm 4) (.cons (.nm 5) .nil)))) (.e (.o2 .ix (.e (.fl "rows" ["Casebook"] (.v 0))) (.v 1))) []) (.seq (.asg 6 (.fn "lot_without" (.cons (.e (.v 5)) (.cons (.e (.o2 .ix (.v 2) (.e (.o2 .sub (.e (.k (.int 1))) (.v 4))))) .nil)) []) [5]) (.seq (.asg 7 (.fn "lot_without" (.cons (.e (.o2 .ix (.v 2) (.v 4))) (.cons (.e (.o2 .ix (.v 3) (.v 4))) .nil)) []) []) (.seq (.ret (.tup (.cons (.e (.v 6)) (.cons (.e (.v 7)) .nil)))) .nx)))))
def c_idle_factors : SC := .seq (.asg 1 (.bm .join (.e (.k (.str ""))) (.e (.lc (.tp (.cons (.nm 2) (.cons (.nm 3) (.cons (.nm 4) .nil)))) (.of (.e (.fl "rows" ["Casebook"] (.v 0)))) .yes (.e (.o2 .add (.v 4) (.e (.o2 .ix (.v 2) (.v 3))))) [2, 3, 4]))) []) (.seq (.ret (.fn "lot_without" (.cons (.e (.o2 .add (.e (.fl "pro" ["Factors"] (.e (.fl "factors" ["Casebook"] (.v 0))))) (.e (.fl "con" ["Factors"] (.e (.fl "factors" ["Casebook"] (.v 0))))))) (.cons (.e (.v 1)) .nil)) [])) .nx)
def c_nearer : SC := .seq (.asg 4 (.fn "shared_factors" (.cons (.e (.v 0)) (.cons (.e (.v 1)) (.cons (.e (.v 3)) .nil))) []) [0, 1, 3]) (.seq (.asg 5 (.fn "shared_factors" (.cons (.e (.v 0)) (.cons (.e (.v 2)) (.cons (.e (.v 3)) .nil))) []) [0, 2, 3]) (.seq (.ret (.t (.and (.e (.o2 .ne (.v 4) (.v 5))) (.and (.e (.fn "lot_within" (.cons (.e (.o2 .ix (.v 5) (.e (.k (.int 0))))) (.cons (.e (.o2 .ix (.v 4) (.e (.k (.int 0))))) .nil)) [])) (.e (.fn "lot_within" (.cons (.e (.o2 .ix (.v 5) (.e (.k (.int 1))))) (.cons (.e (.o2 .ix (.v 4) (.e (.k (.int 1))))) .nil)) [])))))) .nx))
def c_nearest_holdings : SC := .seq (.drop (.mt "require_matter" (.e (.fl "factors" ["Casebook"] (.v 0))) (.cons (.e (.v 1)) .nil) [("Factors", [])])) (.seq (.asg 2 (.bi .rng (.cons (.e (.bi .len (.cons (.e (.fl "rows" ["Casebook"] (.v 0))) .nil))) .nil)) []) (.seq (.asg 3 (.lst .nil) []) (.seq (.forr (.nm 4) (.of (.e (.v 2))) [2] (.seq (.ife (.not (.tr (.e (.bi .any (.cons (.e (.lc (.nm 5) (.of (.v 2)) .yes (.e (.fn "nearer" (.cons (.e (.v 0)) (.cons (.e (.v 5)) (.cons (.e (.v 4)) (.cons (.e (.v 1)) .nil)))) [])) [5])) .nil))))) (.seq (.app 3 (.e (.v 4)) [4]) .nx) .nx) .nx)) (.seq (.ret (.bi .tuple (.cons (.v 3) .nil))) .nx))))
def c_shared_factors : SC := .seq (.drop (.mt "require_matter" (.e (.fl "factors" ["Casebook"] (.v 0))) (.cons (.e (.v 2)) .nil) [("Factors", [])])) (.seq (.drop (.fn "require_holding" (.cons (.e (.v 0)) (.cons (.e (.v 1)) .nil)) [])) (.seq (.asg 3 (.o2 .ix (.e (.o2 .ix (.e (.fl "rows" ["Casebook"] (.v 0))) (.v 1))) (.e (.k (.int 0)))) []) (.seq (.ret (.tup (.cons (.e (.fn "shared_lot" (.cons (.e (.o2 .ix (.v 3) (.e (.k (.int 0))))) (.cons (.e (.o2 .ix (.v 2) (.e (.k (.int 0))))) .nil)) [])) (.cons (.e (.fn "shared_lot" (.cons (.e (.o2 .ix (.v 3) (.e (.k (.int 1))))) (.cons (.e (.o2 .ix (.v 2) (.e (.k (.int 1))))) .nil)) [])) .nil)))) .nx)))
def c__law_fight : SC := .seq (.ife (.and (.e (.o2 .eq (.e (.o2 .ix (.v 0) (.e (.k (.int 1))))) (.e (.k (.int 1))))) (.e (.o2 .eq (.e (.o2 .ix (.v 1) (.e (.k (.int 1))))) (.e (.k (.int 0)))))) (.seq (.ret (.fn "_law_clash" (.cons (.e (.v 0)) (.cons (.e (.v 1)) .nil)) [])) .nx) .nx) (.seq (.ife (.and (.e (.o2 .eq (.e (.o2 .ix (.v 0) (.e (.k (.int 1))))) (.e (.k (.int 0))))) (.e (.o2 .eq (.e (.o2 .ix (.v 1) (.e (.k (.int 1))))) (.e (.k (.int 1)))))) (.seq (.ret (.fn "_law_clash" (.cons (.e (.v 1)) (.cons (.e (.v 0)) .nil)) [])) .nx) .nx) (.seq (.ret (.k (.bl false))) .nx))
def c__law_within : SC := .seq (.forr (.nm 2) (.of (.e (.v 0))) [0] (.seq (.ife (.e (.o2 .notin (.v 2) (.v 1))) (.seq (.ret (.k (.bl false))) .nx) .nx) .nx)) (.seq (.ret (.k (.bl true))) .nx)
def c_is_reason : SC := .seq (.asg 4 (.mt "letters_of" (.e (.v 0)) (.cons (.e (.v 2)) .nil) [("Factors", [])]) [0, 2]) (.seq (.ife (.e (.o2 .ne (.e (.bm .join (.e (.k (.str ""))) (.e (.lc (.nm 5) (.of (.v 4)) (.e (.o2 .inn (.v 5) (.v 3))) (.e (.v 5)) [5])))) (.v 3))) (.seq (.ret (.k (.bl false))) .nx) .nx) (.seq (.ret (.fn "lot_within" (.cons (.e (.v 3)) (.cons (.e (.o2 .ix (.v 1) (.e (.o2 .sub (.e (.k (.int 1))) (.v 2))))) .nil)) [])) .nx))
def c_lot_within : SC := .seq (.forr (.nm 2) (.of (.e (.v 0))) [0] (.seq (.ife (.e (.o2 .notin (.v 2) (.v 1))) (.seq (.ret (.k (.bl false))) .nx) .nx) .nx)) (.seq (.ret (.k (.bl true))) .nx)
def c_lot_without : SC := .seq (.ret (.bm .join (.e (.k (.str ""))) (.e (.lc (.nm 2) (.of (.v 0)) (.e (.o2 .notin (.v 2) (.v 1))) (.e (.v 2)) [2])))) .nx
def c_matter_at_least : SC := .seq (.ret (.t (.and (.e (.fn "lot_within" (.cons (.e (.o2 .ix (.v 1) (.e (.k (.int 0))))) (.cons (.e (.o2 .ix (.v 0) (.e (.k (.int 0))))) .nil)) [])) (.e (.fn "lot_within" (.cons (.e (.o2 .ix (.v 0) (.e (.k (.int 1))))) (.cons (.e (.o2 .ix (.v 1) (.e (.k (.int 1))))) .nil)) []))))) .nx
def c_require_holding : SC := .seq (.ife (.not (.e (.chain .le .lt (.e (.k (.int 0))) (.v 1) (.e (.bi .len (.cons (.e (.fl "rows" ["Casebook"] (.v 0))) .nil)))))) (.seq (.raise "NoRow") .nx) .nx) .nx
def c_shared_lot : SC := .seq (.ret (.bm .join (.e (.k (.str ""))) (.e (.lc (.nm 2) (.of (.v 0)) (.e (.o2 .inn (.v 2) (.v 1))) (.e (.v 2)) [2])))) .nx
def c_Factors_require_matter : SC := .seq (.ife (.e (.o2 .notin (.v 1) (.e (.fl "_numbers" ["Factors"] (.v 0))))) (.seq (.raise "NoCase") .nx) .nx) .nx
def c__law_clash : SC := .seq (.ret (.fn "_law_over" (.cons (.e (.fn "_law_core" (.cons (.e (.v 1)) .nil) [])) (.cons (.e (.fn "_law_core" (.cons (.e (.v 0)) .nil) [])) .nil)) [])) .nx
def c_Factors_letters_of : SC := .seq (.ife (.e (.o2 .notin (.v 1) (.e (.tup (.cons (.e (.k (.int 0))) (.cons (.e (.k (.int 1))) .nil)))))) (.seq (.raise "NoGrade") .nx) .nx) (.seq (.ret (.o2 .ix (.e (.tup (.cons (.e (.fl "con" ["Factors"] (.v 0))) (.cons (.e (.fl "pro" ["Factors"] (.v 0))) .nil)))) (.v 1))) .nx)
def c__law_core : SC := .seq (.ife (.e (.o2 .eq (.e (.o2 .ix (.v 0) (.e (.k (.int 1))))) (.e (.k (.int 1))))) (.seq (.ret (.tup (.cons (.e (.o2 .ix (.v 0) (.e (.k (.int 2))))) (.cons (.e (.o2 .ix (.e (.o2 .ix (.v 0) (.e (.k (.int 0))))) (.e (.k (.int 1))))) .nil)))) .nx) .nx) (.seq (.ret (.tup (.cons (.e (.o2 .ix (.e (.o2 .ix (.v 0) (.e (.k (.int 0))))) (.e (.k (.int 0))))) (.cons (.e (.o2 .ix (.v 0) (.e (.k (.int 2))))) .nil)))) .nx)
def c__law_over : SC := .seq (.ret (.t (.and (.e (.fn "_law_within" (.cons (.e (.o2 .ix (.v 1) (.e (.k (.int 0))))) (.cons (.e (.o2 .ix (.v 0) (.e (.k (.int 0))))) .nil)) [])) (.e (.fn "_law_within" (.cons (.e (.o2 .ix (.v 0) (.e (.k (.int 1))))) (.cons (.e (.o2 .ix (.v 1) (.e (.k (.int 1))))) .nil)) []))))) .nx
def gl : Glob := { sts := [], ctn := [], its := [], obn := ["forum", "factors"], fns := ((("_law_asked", 4), []) :: (("_law_bad_matter", 3), []) :: (("_law_cell", 2), []) :: (("_law_clash", 2), []) :: (("_law_core", 1), []) :: (("_law_draws", 3), []) :: (("_law_fight", 2), []) :: (("_law_holding", 3), []) :: (("_law_holdings", 5), []) :: (("_law_idle", 4), []) :: [(("_law_letters", 3), []), (("_law_lot", 2), []), (("_law_matter", 3), []), (("_law_mended", 3), []), (("_law_near", 3), []), (("_law_over", 2), []), (("_law_peaceful", 2), []), (("_law_refused", 4), []), (("_law_same", 2), []), (("_law_shared", 2), []), (("_law_within", 2), []), (("all_lots", 1), []), (("checked_holdings", 2), []), (("core", 1), []), (("deciding_holdings", 2), []), (("distinct_letters", 1), []), (("distinction", 3), []), (("idle_factors", 1), []), (("is_reason", 4), []), (("law", 1), []), (("lot_within", 2), []), (("lot_without", 2), []), (("matter_at_least", 2), []), (("nearer", 4), []), (("nearest_holdings", 2), []), (("require_holding", 2), []), (("shared_factors", 3), []), (("shared_lot", 2), [])]), mks := [(("Casebook", 2), []), (("Factors", 2), [])], mts := [(("letters_of", 1), [("Factors", [])]), (("require_matter", 1), [("Factors", [])])], prs := [], cns := [], ccs := [], fls := [("_cores", ["Casebook"]), ("_matters", ["Factors"]), ("_numbers", ["Factors"]), ("con", ["Factors"]), ("factors", ["Casebook"]), ("pro", ["Factors"]), ("rows", ["Casebook"])], vas := [("LETTERS", .str "abcdefghijklmnopqrstuvwxyz"), ("MOST_FACTORS", .int 8), ("MOST_HOLDINGS", .int 12)], frs := ["abs", "any", "bool", "enumerate", "int", "isinstance", "len", "list", "range", "sorted", "str", "tuple"], ers := ["NoCase", "NoForum", "NoGrade", "NoRow", "NoRule", "TooLarge"], xms := [("CourtError", [("CourtError", true), ("NoForum", true), ("BadText", true), ("OtherForum", true), ("NoCase", true), ("NoGrade", true), ("NoRow", true), ("NoRule", true), ("TooLarge", true)])], xis := [("NoCase", [("CourtError", false), ("NoForum", false), ("BadText", false), ("OtherForum", false), ("NoCase", true), ("NoGrade", false), ("NoRow", false), ("NoRule", false), ("TooLarge", false)]), ("NoRow", [("CourtError", false), ("NoForum", false), ("BadText", false), ("OtherForum", false), ("NoCase", false), ("NoGrade", false), ("NoRow", true), ("NoRule", false), ("TooLarge", false)])] }
def r_law : DefR := { key := ("law", none), prop := false, name := "law", qual := "law", params := defArgs (pg 60), body := defBody (pg 60), scope := defScope (pg 60), dfl := [], em := [], N := ["script", "draws", "sides", "rows", "book", "matters", "row", "matter", "bad", "call", "number", "n"], ps := ["script"], code := c_law, ini := false, star := false }
theorem s_law : StatR gl 400 r_law := ⟨⟨rfl, rfl, rfl, by decide +kernel, rfl, by decide +kernel, by decide +kernel⟩, by kernel_rfl, fun z => bind_none fun _ _ _ _ _ _ us hl => match us, hl with | [_], _ => rfl⟩
def r__law_asked : DefR := { key := ("_law_asked", none), prop := false, name := "_law_asked", qual := "_law_asked", params := defArgs (pg 58), body := defBody (pg 58), scope := defScope (pg 58), dfl := [], em := [], N := ["sides", "book", "rows", "matter", "deciding", "n", "row", "missing", "extra", "m", "due", "letter"], ps := ["sides", "book", "rows", "matter"], code := c__law_asked, ini := false, star := false }
theorem s__law_asked : StatR gl 400 r__law_asked := ⟨⟨rfl, rfl, rfl, by decide +kernel, rfl, by decide +kernel, by decide +kernel⟩, by kernel_rfl, fun z => bind_none fun _ _ _ _ _ _ us hl => match us, hl with | [_, _, _, _], _ => rfl⟩
def r__law_bad_matter : DefR := { key := ("_law_bad_matter", none), prop := false, name := "_law_bad_matter", qual := "_law_bad_matter", params := defArgs (pg 53), body := defBody (pg 53), scope := defScope (pg 53), dfl := [], em := [], N := ["draws", "at", "sides", "matter", "how", "letters", "strange", "letter"], ps := ["draws", "at", "sides"], code := c__law_bad_matter, ini := false, star := false }
theorem s__law_bad_matter : StatR gl 400 r__law_bad_matter := ⟨⟨rfl, rfl, rfl, by decide +kernel, rfl, by decide +kernel, by decide +kernel⟩, by kernel_rfl, fun z => bind_none fun _ _ _ _ _ _ us hl => match us, hl with | [_, _, _], _ => rfl⟩
def r__law_draws : DefR := { key := ("_law_draws", none), prop := false, name := "_law_draws", qual := "_law_draws", params := defArgs (pg 40), body := defBody (pg 40), scope := defScope (pg 40), dfl := [], em := [], N := ["script", "k", "many", "cell", "seed", "draws", "n", "one", "two"], ps := ["script", "k", "many"], code := c__law_draws, ini := false, star := false }
theorem s__law_draws : StatR gl 400 r__law_draws := ⟨⟨rfl, rfl, rfl, by decide +kernel, rfl, by decide +kernel, by decide +kernel⟩, by kernel_rfl, fun z => bind_none fun _ _ _ _ _ _ us hl => match us, hl with | [_, _, _], _ => rfl⟩
def r__law_holdings : DefR := { key := ("_law_holdings", none), prop := false, name := "_law_holdings", qual := "_law_holdings", params := defArgs (pg 52), body := defBody (pg 52), scope := defScope (pg 52), dfl := [], em := [], N := ["draws", "at", "sides", "many", "kept", "rows", "n", "row"], ps := ["draws", "at", "sides", "many", "kept"], code := c__law_holdings, ini := false, star := false }
theorem s__law_holdings : StatR gl 400 r__law_holdings := ⟨⟨rfl, rfl, rfl, by decide +kernel, rfl, by decide +kernel, by decide +kernel⟩, by kernel_rfl, fun z => bind_none fun _ _ _ _ _ _ us hl => match us, hl with | [_, _, _, _, _], _ => rfl⟩
def r__law_idle : DefR := { key := ("_law_idle", none), prop := false, name := "_law_idle", qual := "_law_idle", params := defArgs (pg 59), body := defBody (pg 59), scope := defScope (pg 59), dfl := [], em := [], N := ["sides", "book", "rows", "matter", "due", "letter", "used", "other", "won", "lost", "row", "one", "n"], ps := ["sides", "book", "rows", "matter"], code := c__law_idle, ini := false, star := false }
theorem s__law_idle : StatR gl 400 r__law_idle := ⟨⟨rfl, rfl, rfl, by decide +kernel, rfl, by decide +kernel, by decide +kernel⟩, by kernel_rfl, fun z => bind_none fun _ _ _ _ _ _ us hl => match us, hl with | [_, _, _, _], _ => rfl⟩
def r__law_letters : DefR := { key := ("_law_letters", none), prop := false, name := "_law_letters", qual := "_law_letters", params := defArgs (pg 42), body := defBody (pg 42), scope := defScope (pg 42), dfl := [], em := [], N := ["draws", "at", "most", "pool", "pro", "con", "n", "k"], ps := ["draws", "at", "most"], code := c__law_letters, ini := false, star := false }
theorem s__law_letters : StatR gl 400 r__law_letters := ⟨⟨rfl, rfl, rfl, by decide +kernel, rfl, by decide +kernel, by decide +kernel⟩, by kernel_rfl, fun z => bind_none fun _ _ _ _ _ _ us hl => match us, hl with | [_, _, _], _ => rfl⟩
def r__law_matter : DefR := { key := ("_law_matter", none), prop := false, name := "_law_matter", qual := "_law_matter", params := defArgs (pg 44), body := defBody (pg 44), scope := defScope (pg 44), dfl := [], em := [], N := ["draws", "at", "sides"], ps := ["draws", "at", "sides"], code := c__law_matter, ini := false, star := false }
theorem s__law_matter : StatR gl 400 r__law_matter := ⟨⟨rfl, rfl, rfl, by decide +kernel, rfl, by decide +kernel, by decide +kernel⟩, by kernel_rfl, fun z => bind_none fun _ _ _ _ _ _ us hl => match us, hl with | [_, _, _], _ => rfl⟩
def r__law_refused : DefR := { key := ("_law_refused", none), prop := false, name := "_law_refused", qual := "_law_refused", params := defArgs (pg 54), body := defBody (pg 54), scope := defScope (pg 54), dfl := [], em := [], N := ["call", "book", "number", "matter", "e"], ps := ["call", "book", "number", "matter"], code := c__law_refused, ini := false, star := false }
theorem s__law_refused : StatR gl 400 r__law_refused := ⟨⟨rfl, rfl, rfl, by decide +kernel, rfl, by decide +kernel, by decide +kernel⟩, by kernel_rfl, fun z => bind_none fun _ _ _ _ _ _ us hl => match us, hl with | [_, _, _, _], _ => rfl⟩
def r_CasebookI_initI : DefR := { key := ("Casebook", some "__init__"), prop := false, name := "__init__", qual := "Casebook.__init__", params := defArgs (mb 36 1), body := defBody (mb 36 1), scope := defScope (mb 36 1), dfl := [.adr (He.dflAt ("Casebook", some "__init__") 0)], em := [true], N := ["self", "factors", "rows", "good", "row"], ps := ["self", "factors", "rows"], code := c_CasebookI_initI, ini := true, star := false }
theorem s_CasebookI_initI : StatR gl 400 r_CasebookI_initI := ⟨⟨rfl, rfl, rfl, by decide +kernel, rfl, by decide +kernel, by decide +kernel⟩, by kernel_rfl, fun z => bind_some (q := 1) (by decide) (by decide) fun j hj => match j, hj with | 0, _ => (fun _ _ _ _ _ _ _ us its h1 h2 => match us, its, h1, h2 with | [_, _], [_], _, _ => ⟨_, rfl, rfl⟩) | 1, _ => (fun _ _ _ _ _ _ _ us its h1 h2 => match us, its, h1, h2 with | [_, _, _], [_], _, _ => ⟨_, rfl, rfl⟩)⟩
def r_FactorsI_initI : DefR := { key := ("Factors", some "__init__"), prop := false, name := "__init__", qual := "Factors.__init__", params := defArgs (mb 29 1), body := defBody (mb 29 1), scope := defScope (mb 29 1), dfl := [.str "", .str ""], em := [false, false], N := ["self", "pro", "con", "ours", "theirs", "number", "matter"], ps := ["self", "pro", "con"], code := c_FactorsI_initI, ini := true, star := false }
theorem s_FactorsI_initI : StatR gl 400 r_FactorsI_initI := ⟨⟨rfl, rfl, rfl, by decide +kernel, rfl, by decide +kernel, by decide +kernel⟩, by kernel_rfl, fun z => bind_some (q := 2) (by decide) (by decide) fun j hj => match j, hj with | 0, _ => (fun _ _ _ _ _ _ _ us its h1 h2 => match us, its, h1, h2 with | [_], [_, _], _, _ => ⟨_, rfl, rfl⟩) | 1, _ => (fun _ _ _ _ _ _ _ us its h1 h2 => match us, its, h1, h2 with | [_, _], [_, _], _, _ => ⟨_, rfl, rfl⟩) | 2, _ => (fun _ _ _ _ _ _ _ us its h1 h2 => match us, its, h1, h2 with | [_, _, _], [_, _], _, _ => ⟨_, rfl, rfl⟩)⟩
def r__law_cell : DefR := { key := ("_law_cell", none), prop := false, name := "_law_cell", qual := "_law_cell", params := defArgs (pg 39), body := defBody (pg 39), scope := defScope (pg 39), dfl := [], em := [], N := ["script", "k"], ps := ["script", "k"], code := c__law_cell, ini := false, star := false }
theorem s__law_cell : StatR gl 400 r__law_cell := ⟨⟨rfl, rfl, rfl, by decide +kernel, rfl, by decide +kernel, by decide +kernel⟩, by kernel_rfl, fun z => bind_none fun _ _ _ _ _ _ us hl => match us, hl with | [_, _], _ => rfl⟩
def r__law_holding : DefR := { key := ("_law_holding", none), prop := false, name := "_law_holding", qual := "_law_holding", params := defArgs (pg 51), body := defBody (pg 51), scope := defScope (pg 51), dfl := [], em := [], N := ["draws", "at", "sides", "matter", "side"], ps := ["draws", "at", "sides"], code := c__law_holding, ini := false, star := false }
theorem s__law_holding : StatR gl 400 r__law_holding := ⟨⟨rfl, rfl, rfl, by decide +kernel, rfl, by decide +kernel, by decide +kernel⟩, by kernel_rfl, fun z => bind_none fun _ _ _ _ _ _ us hl => match us, hl with | [_, _, _], _ => rfl⟩
def r__law_lot : DefR := { key := ("_law_lot", none), prop := false, name := "_law_lot", qual := "_law_lot", params := defArgs (pg 43), body := defBody (pg 43), scope := defScope (pg 43), dfl := [], em := [], N := ["bits", "letters", "lot", "n"], ps := ["bits", "letters"], code := c__law_lot, ini := false, star := false }
theorem s__law_lot : StatR gl 400 r__law_lot := ⟨⟨rfl, rfl, rfl, by decide +kernel, rfl, by decide +kernel, by decide +kernel⟩, by kernel_rfl, fun z => bind_none fun _ _ _ _ _ _ us hl => match us, hl with | [_, _], _ => rfl⟩
def r__law_mended : DefR := { key := ("_law_mended", none), prop := false, name := "_law_mended", qual := "_law_mended", params := defArgs (pg 57), body := defBody (pg 57), scope := defScope (pg 57), dfl := [], em := [], N := ["sides", "row", "matter", "letters", "less", "letter"], ps := ["sides", "row", "matter"], code := c__law_mended, ini := false, star := false }
theorem s__law_mended : StatR gl 400 r__law_mended := ⟨⟨rfl, rfl, rfl, by decide +kernel, rfl, by decide +kernel, by decide +kernel⟩, by kernel_rfl, fun z => bind_none fun _ _ _ _ _ _ us hl => match us, hl with | [_, _, _], _ => rfl⟩
def r__law_near : DefR := { key := ("_law_near", none), prop := false, name := "_law_near", qual := "_law_near", params := defArgs (pg 56), body := defBody (pg 56), scope := defScope (pg 56), dfl := [], em := [], N := ["row", "other", "matter", "one", "two"], ps := ["row", "other", "matter"], code := c__law_near, ini := false, star := false }
theorem s__law_near : StatR gl 400 r__law_near := ⟨⟨rfl, rfl, rfl, by decide +kernel, rfl, by decide +kernel, by decide +kernel⟩, by kernel_rfl, fun z => bind_none fun _ _ _ _ _ _ us hl => match us, hl with | [_, _, _], _ => rfl⟩
def r__law_peaceful : DefR := { key := ("_law_peaceful", none), prop := false, name := "_law_peaceful", qual := "_law_peaceful", params := defArgs (pg 50), body := defBody (pg 50), scope := defScope (pg 50), dfl := [], em := [], N := ["rows", "row", "other"], ps := ["rows", "row"], code := c__law_peaceful, ini := false, star := false }
theorem s__law_peaceful : StatR gl 400 r__law_peaceful := ⟨⟨rfl, rfl, rfl, by decide +kernel, rfl, by decide +kernel, by decide +kernel⟩, by kernel_rfl, fun z => bind_none fun _ _ _ _ _ _ us hl => match us, hl with | [_, _], _ => rfl⟩
def r__law_same : DefR := { key := ("_law_same", none), prop := false, name := "_law_same", qual := "_law_same", params := defArgs (pg 41), body := defBody (pg 41), scope := defScope (pg 41), dfl := [], em := [], N := ["told", "due", "k"], ps := ["told", "due"], code := c__law_same, ini := false, star := false }
theorem s__law_same : StatR gl 400 r__law_same := ⟨⟨rfl, rfl, rfl, by decide +kernel, rfl, by decide +kernel, by decide +kernel⟩, by kernel_rfl, fun z => bind_none fun _ _ _ _ _ _ us hl => match us, hl with | [_, _], _ => rfl⟩
def r__law_shared : DefR := { key := ("_law_shared", none), prop := false, name := "_law_shared", qual := "_law_shared", params := defArgs (pg 55), body := defBody (pg 55), scope := defScope (pg 55), dfl := [], em := [], N := ["row", "matter", "ours", "theirs", "letter"], ps := ["row", "matter"], code := c__law_shared, ini := false, star := false }
theorem s__law_shared : StatR gl 400 r__law_shared := ⟨⟨rfl, rfl, rfl, by decide +kernel, rfl, by decide +kernel, by decide +kernel⟩, by kernel_rfl, fun z => bind_none fun _ _ _ _ _ _ us hl => match us, hl with | [_, _], _ => rfl⟩
def r_all_lots : DefR := { key := ("all_lots", none), prop := false, name := "all_lots", qual := "all_lots", params := defArgs (pg 28), body := defBody (pg 28), scope := defScope (pg 28), dfl := [], em := [], N := ["letters", "lots", "letter", "lot"], ps := ["letters"], code := c_all_lots, ini := false, star := false }
theorem s_all_lots : StatR gl 400 r_all_lots := ⟨⟨rfl, rfl, rfl, by decide +kernel, rfl, by decide +kernel, by decide +kernel⟩, by kernel_rfl, fun z => bind_none fun _ _ _ _ _ _ us hl => match us, hl with | [_], _ => rfl⟩
def r_checked_holdings : DefR := { key := ("checked_holdings", none), prop := false, name := "checked_holdings", qual := "checked_holdings", params := defArgs (pg 34), body := defBody (pg 34), scope := defScope (pg 34), dfl := [], em := [], N := ["factors", "rows", "matter", "_", "side", "reason"], ps := ["factors", "rows"], code := c_checked_holdings, ini := false, star := false }
theorem s_checked_holdings : StatR gl 400 r_checked_holdings := ⟨⟨rfl, rfl, rfl, by decide +kernel, rfl, by decide +kernel, by decide +kernel⟩, by kernel_rfl, fun z => bind_none fun _ _ _ _ _ _ us hl => match us, hl with | [_, _], _ => rfl⟩
def r_core : DefR := { key := ("core", none), prop := false, name := "core", qual := "core", params := defArgs (pg 35), body := defBody (pg 35), scope := defScope (pg 35), dfl := [], em := [], N := ["row", "matter", "side", "reason"], ps := ["row"], code := c_core, ini := false, star := false }
theorem s_core : StatR gl 400 r_core := ⟨⟨rfl, rfl, rfl, by decide +kernel, rfl, by decide +kernel, by decide +kernel⟩, by kernel_rfl, fun z => bind_none fun _ _ _ _ _ _ us hl => match us, hl with | [_], _ => rfl⟩
def r_deciding_holdings : DefR := { key := ("deciding_holdings", none), prop := false, name := "deciding_holdings", qual := "deciding_holdings", params := defArgs (pg 37), body := defBody (pg 37), scope := defScope (pg 37), dfl := [], em := [], N := ["casebook", "matter", "found", "number", "row"], ps := ["casebook", "matter"], code := c_deciding_holdings, ini := false, star := false }
theorem s_deciding_holdings : StatR gl 400 r_deciding_holdings := ⟨⟨rfl, rfl, rfl, by decide +kernel, rfl, by decide +kernel, by decide +kernel⟩, by kernel_rfl, fun z => bind_none fun _ _ _ _ _ _ us hl => match us, hl with | [_, _], _ => rfl⟩
def r_distinct_letters : DefR := { key := ("distinct_letters", none), prop := false, name := "distinct_letters", qual := "distinct_letters", params := defArgs (pg 25), body := defBody (pg 25), scope := defScope (pg 25), dfl := [], em := [], N := ["text", "letter"], ps := ["text"], code := c_distinct_letters, ini := false, star := false }
theorem s_distinct_letters : StatR gl 400 r_distinct_letters := ⟨⟨rfl, rfl, rfl, by decide +kernel, rfl, by decide +kernel, by decide +kernel⟩, by kernel_rfl, fun z => bind_none fun _ _ _ _ _ _ us hl => match us, hl with | [_], _ => rfl⟩
def r_distinction : DefR := { key := ("distinction", none), prop := false, name := "distinction", qual := "distinction", params := defArgs (pg 18), body := defBody (pg 18), scope := defScope (pg 18), dfl := [], em := [], N := ["casebook", "number", "matter", "decided", "side", "reason", "missing", "extra"], ps := ["casebook", "number", "matter"], code := c_distinction, ini := false, star := false }
theorem s_distinction : StatR gl 400 r_distinction := ⟨⟨rfl, rfl, rfl, by decide +kernel, rfl, by decide +kernel, by decide +kernel⟩, by kernel_rfl, fun z => bind_none fun _ _ _ _ _ _ us hl => match us, hl with | [_, _, _], _ => rfl⟩
def r_idle_factors : DefR := { key := ("idle_factors", none), prop := false, name := "idle_factors", qual := "idle_factors", params := defArgs (pg 22), body := defBody (pg 22), scope := defScope (pg 22), dfl := [], em := [], N := ["casebook", "used", "matter", "side", "reason"], ps := ["casebook"], code := c_idle_factors, ini := false, star := false }
theorem s_idle_factors : StatR gl 400 r_idle_factors := ⟨⟨rfl, rfl, rfl, by decide +kernel, rfl, by decide +kernel, by decide +kernel⟩, by kernel_rfl, fun z => bind_none fun _ _ _ _ _ _ us hl => match us, hl with | [_], _ => rfl⟩
def r_nearer : DefR := { key := ("nearer", none), prop := false, name := "nearer", qual := "nearer", params := defArgs (pg 20), body := defBody (pg 20), scope := defScope (pg 20), dfl := [], em := [], N := ["casebook", "number", "other", "matter", "first", "second"], ps := ["casebook", "number", "other", "matter"], code := c_nearer, ini := false, star := false }
theorem s_nearer : StatR gl 400 r_nearer := ⟨⟨rfl, rfl, rfl, by decide +kernel, rfl, by decide +kernel, by decide +kernel⟩, by kernel_rfl, fun z => bind_none fun _ _ _ _ _ _ us hl => match us, hl with | [_, _, _, _], _ => rfl⟩
def r_nearest_holdings : DefR := { key := ("nearest_holdings", none), prop := false, name := "nearest_holdings", qual := "nearest_holdings", params := defArgs (pg 21), body := defBody (pg 21), scope := defScope (pg 21), dfl := [], em := [], N := ["casebook", "matter", "numbers", "told", "number", "other"], ps := ["casebook", "matter"], code := c_nearest_holdings, ini := false, star := false }
theorem s_nearest_holdings : StatR gl 400 r_nearest_holdings := ⟨⟨rfl, rfl, rfl, by decide +kernel, rfl, by decide +kernel, by decide +kernel⟩, by kernel_rfl, fun z => bind_none fun _ _ _ _ _ _ us hl => match us, hl with | [_, _], _ => rfl⟩
def r_shared_factors : DefR := { key := ("shared_factors", none), prop := false, name := "shared_factors", qual := "shared_factors", params := defArgs (pg 19), body := defBody (pg 19), scope := defScope (pg 19), dfl := [], em := [], N := ["casebook", "number", "matter", "decided"], ps := ["casebook", "number", "matter"], code := c_shared_factors, ini := false, star := false }
theorem s_shared_factors : StatR gl 400 r_shared_factors := ⟨⟨rfl, rfl, rfl, by decide +kernel, rfl, by decide +kernel, by decide +kernel⟩, by kernel_rfl, fun z => bind_none fun _ _ _ _ _ _ us hl => match us, hl with | [_, _, _], _ => rfl⟩
def r__law_fight : DefR := { key := ("_law_fight", none), prop := false, name := "_law_fight", qual := "_law_fight", params := defArgs (pg 49), body := defBody (pg 49), scope := defScope (pg 49), dfl := [], em := [], N := ["row", "other"], ps := ["row", "other"], code := c__law_fight, ini := false, star := false }
theorem s__law_fight : StatR gl 400 r__law_fight := ⟨⟨rfl, rfl, rfl, by decide +kernel, rfl, by decide +kernel, by decide +kernel⟩, by kernel_rfl, fun z => bind_none fun _ _ _ _ _ _ us hl => match us, hl with | [_, _], _ => rfl⟩
def r__law_within : DefR := { key := ("_law_within", none), prop := false, name := "_law_within", qual := "_law_within", params := defArgs (pg 45), body := defBody (pg 45), scope := defScope (pg 45), dfl := [], em := [], N := ["lot", "other", "letter"], ps := ["lot", "other"], code := c__law_within, ini := false, star := false }
theorem s__law_within : StatR gl 400 r__law_within := ⟨⟨rfl, rfl, rfl, by decide +kernel, rfl, by decide +kernel, by decide +kernel⟩, by kernel_rfl, fun z => bind_none fun _ _ _ _ _ _ us hl => match us, hl with | [_, _], _ => rfl⟩
def r_is_reason : DefR := { key := ("is_reason", none), prop := false, name := "is_reason", qual := "is_reason", params := defArgs (pg 33), body := defBody (pg 33), scope := defScope (pg 33), dfl := [], em := [], N := ["factors", "matter", "side", "reason", "letters", "letter"], ps := ["factors", "matter", "side", "reason"], code := c_is_reason, ini := false, star := false }
theorem s_is_reason : StatR gl 400 r_is_reason := ⟨⟨rfl, rfl, rfl, by decide +kernel, rfl, by decide +kernel, by decide +kernel⟩, by kernel_rfl, fun z => bind_none fun _ _ _ _ _ _ us hl => match us, hl with | [_, _, _, _], _ => rfl⟩
def r_lot_within : DefR := { key := ("lot_within", none), prop := false, name := "lot_within", qual := "lot_within", params := defArgs (pg 12), body := defBody (pg 12), scope := defScope (pg 12), dfl := [], em := [], N := ["lot", "other", "letter"], ps := ["lot", "other"], code := c_lot_within, ini := false, star := false }
theorem s_lot_within : StatR gl 400 r_lot_within := ⟨⟨rfl, rfl, rfl, by decide +kernel, rfl, by decide +kernel, by decide +kernel⟩, by kernel_rfl, fun z => bind_none fun _ _ _ _ _ _ us hl => match us, hl with | [_, _], _ => rfl⟩
def r_lot_without : DefR := { key := ("lot_without", none), prop := false, name := "lot_without", qual := "lot_without", params := defArgs (pg 13), body := defBody (pg 13), scope := defScope (pg 13), dfl := [], em := [], N := ["lot", "other", "letter"], ps := ["lot", "other"], code := c_lot_without, ini := false, star := false }
theorem s_lot_without : StatR gl 400 r_lot_without := ⟨⟨rfl, rfl, rfl, by decide +kernel, rfl, by decide +kernel, by decide +kernel⟩, by kernel_rfl, fun z => bind_none fun _ _ _ _ _ _ us hl => match us, hl with | [_, _], _ => rfl⟩
def r_matter_at_least : DefR := { key := ("matter_at_least", none), prop := false, name := "matter_at_least", qual := "matter_at_least", params := defArgs (pg 15), body := defBody (pg 15), scope := defScope (pg 15), dfl := [], em := [], N := ["matter", "other"], ps := ["matter", "other"], code := c_matter_at_least, ini := false, star := false }
theorem s_matter_at_least : StatR gl 400 r_matter_at_least := ⟨⟨rfl, rfl, rfl, by decide +kernel, rfl, by decide +kernel, by decide +kernel⟩, by kernel_rfl, fun z => bind_none fun _ _ _ _ _ _ us hl => match us, hl with | [_, _], _ => rfl⟩
def r_require_holding : DefR := { key := ("require_holding", none), prop := false, name := "require_holding", qual := "require_holding", params := defArgs (pg 17), body := defBody (pg 17), scope := defScope (pg 17), dfl := [], em := [], N := ["casebook", "number"], ps := ["casebook", "number"], code := c_require_holding, ini := false, star := false }
theorem s_require_holding : StatR gl 400 r_require_holding := ⟨⟨rfl, rfl, rfl, by decide +kernel, rfl, by decide +kernel, by decide +kernel⟩, by kernel_rfl, fun z => bind_none fun _ _ _ _ _ _ us hl => match us, hl with | [_, _], _ => rfl⟩
def r_shared_lot : DefR := { key := ("shared_lot", none), prop := false, name := "shared_lot", qual := "shared_lot", params := defArgs (pg 14), body := defBody (pg 14), scope := defScope (pg 14), dfl := [], em := [], N := ["lot", "other", "letter"], ps := ["lot", "other"], code := c_shared_lot, ini := false, star := false }
theorem s_shared_lot : StatR gl 400 r_shared_lot := ⟨⟨rfl, rfl, rfl, by decide +kernel, rfl, by decide +kernel, by decide +kernel⟩, by kernel_rfl, fun z => bind_none fun _ _ _ _ _ _ us hl => match us, hl with | [_, _], _ => rfl⟩
def r_Factors_require_matter : DefR := { key := ("Factors", some "require_matter"), prop := false, name := "require_matter", qual := "Factors.require_matter", params := defArgs (mb 29 9), body := defBody (mb 29 9), scope := defScope (mb 29 9), dfl := [], em := [], N := ["self", "matter"], ps := ["self", "matter"], code := c_Factors_require_matter, ini := false, star := false }
theorem s_Factors_require_matter : StatR gl 400 r_Factors_require_matter := ⟨⟨rfl, rfl, rfl, by decide +kernel, rfl, by decide +kernel, by decide +kernel⟩, by kernel_rfl, fun z => bind_none fun _ _ _ _ _ _ us hl => match us, hl with | [_, _], _ => rfl⟩
def r__law_clash : DefR := { key := ("_law_clash", none), prop := false, name := "_law_clash", qual := "_law_clash", params := defArgs (pg 48), body := defBody (pg 48), scope := defScope (pg 48), dfl := [], em := [], N := ["won", "lost"], ps := ["won", "lost"], code := c__law_clash, ini := false, star := false }
theorem s__law_clash : StatR gl 400 r__law_clash := ⟨⟨rfl, rfl, rfl, by decide +kernel, rfl, by decide +kernel, by decide +kernel⟩, by kernel_rfl, fun z => bind_none fun _ _ _ _ _ _ us hl => match us, hl with | [_, _], _ => rfl⟩
def r_Factors_letters_of : DefR := { key := ("Factors", some "letters_of"), prop := false, name := "letters_of", qual := "Factors.letters_of", params := defArgs (mb 29 6), body := defBody (mb 29 6), scope := defScope (mb 29 6), dfl := [], em := [], N := ["self", "side"], ps := ["self", "side"], code := c_Factors_letters_of, ini := false, star := false }
theorem s_Factors_letters_of : StatR gl 400 r_Factors_letters_of := ⟨⟨rfl, rfl, rfl, by decide +kernel, rfl, by decide +kernel, by decide +kernel⟩, by kernel_rfl, fun z => bind_none fun _ _ _ _ _ _ us hl => match us, hl with | [_, _], _ => rfl⟩
def r__law_core : DefR := { key := ("_law_core", none), prop := false, name := "_law_core", qual := "_law_core", params := defArgs (pg 47), body := defBody (pg 47), scope := defScope (pg 47), dfl := [], em := [], N := ["row"], ps := ["row"], code := c__law_core, ini := false, star := false }
theorem s__law_core : StatR gl 400 r__law_core := ⟨⟨rfl, rfl, rfl, by decide +kernel, rfl, by decide +kernel, by decide +kernel⟩, by kernel_rfl, fun z => bind_none fun _ _ _ _ _ _ us hl => match us, hl with | [_], _ => rfl⟩
def r__law_over : DefR := { key := ("_law_over", none), prop := false, name := "_law_over", qual := "_law_over", params := defArgs (pg 46), body := defBody (pg 46), scope := defScope (pg 46), dfl := [], em := [], N := ["matter", "other"], ps := ["matter", "other"], code := c__law_over, ini := false, star := false }
theorem s__law_over : StatR gl 400 r__law_over := ⟨⟨rfl, rfl, rfl, by decide +kernel, rfl, by decide +kernel, by decide +kernel⟩, by kernel_rfl, fun z => bind_none fun _ _ _ _ _ _ us hl => match us, hl with | [_, _], _ => rfl⟩
def rs : List DefR := (r_law :: r__law_asked :: r__law_bad_matter :: r__law_draws :: r__law_holdings :: r__law_idle :: r__law_letters :: r__law_matter :: r__law_refused :: r_CasebookI_initI :: r_FactorsI_initI :: r__law_cell :: r__law_holding :: r__law_lot :: [r__law_mended, r__law_near, r__law_peaceful, r__law_same, r__law_shared, r_all_lots, r_checked_holdings, r_core, r_deciding_holdings, r_distinct_letters, r_distinction, r_idle_factors, r_nearer, r_nearest_holdings, r_shared_factors, r__law_fight, r__law_within, r_is_reason, r_lot_within, r_lot_without, r_matter_at_least, r_require_holding, r_shared_lot, r_Factors_require_matter, r__law_clash, r_Factors_letters_of, r__law_core, r__law_over])
theorem st : ∀ r ∈ rs, StatR gl 400 r := by
  intro r hr
  simp only [rs, List.mem_cons, List.not_mem_nil, or_false] at hr
  rcases hr with rfl | rfl | rfl | rfl | rfl | rfl | rfl | rfl | rfl | rfl | rfl | rfl | rfl | rfl | rfl | rfl | rfl | rfl | rfl | rfl | rfl | rfl | rfl | rfl | rfl | rfl | rfl | rfl | rfl | rfl | rfl | rfl | rfl | rfl | rfl | rfl | rfl | rfl | rfl | rfl | rfl | rfl
  · exact s_law
  · exact s__law_asked
  · exact s__law_bad_matter
  · exact s__law_draws
  · exact s__law_holdings
  · exact s__law_idle
  · exact s__law_letters
  · exact s__law_matter
  · exact s__law_refused
  · exact s_CasebookI_initI
  · exact s_FactorsI_initI
  · exact s__law_cell
  · exact s__law_holding
  · exact s__law_lot
  · exact s__law_mended
  · exact s__law_near
  · exact s__law_peaceful
  · exact s__law_same
  · exact s__law_shared
  · exact s_all_lots
  · exact s_checked_holdings
  · exact s_core
  · exact s_deciding_holdings
  · exact s_distinct_letters
  · exact s_distinction
  · exact s_idle_factors
  · exact s_nearer
  · exact s_nearest_holdings
  · exact s_shared_factors
  · exact s__law_fight
  · exact s__law_within
  · exact s_is_reason
  · exact s_lot_within
  · exact s_lot_without
  · exact s_matter_at_least
  · exact s_require_holding
  · exact s_shared_lot
  · exact s_Factors_require_matter
  · exact s__law_clash
  · exact s_Factors_letters_of
  · exact s__law_core
  · exact s__law_over
theorem tb : tabB gl rs = true := by kernel_rfl
theorem sst : ∀ r ∈ rs, r.star = true → StarR r := by
  intro r hr hs
  simp only [rs, List.mem_cons, List.not_mem_nil, or_false] at hr
  rcases hr with rfl | rfl | rfl | rfl | rfl | rfl | rfl | rfl | rfl | rfl | rfl | rfl | rfl | rfl | rfl | rfl | rfl | rfl | rfl | rfl | rfl | rfl | rfl | rfl | rfl | rfl | rfl | rfl | rfl | rfl | rfl | rfl | rfl | rfl | rfl | rfl | rfl | rfl | rfl | rfl | rfl | rfl
  · cases hs
  · cases hs
  · cases hs
  · cases hs
  · cases hs
  · cases hs
  · cases hs
  · cases hs
  · cases hs
  · cases hs
  · cases hs
  · cases hs
  · cases hs
  · cases hs
  · cases hs
  · cases hs
  · cases hs
  · cases hs
  · cases hs
  · cases hs
  · cases hs
  · cases hs
  · cases hs
  · cases hs
  · cases hs
  · cases hs
  · cases hs
  · cases hs
  · cases hs
  · cases hs
  · cases hs
  · cases hs
  · cases hs
  · cases hs
  · cases hs
  · cases hs
  · cases hs
  · cases hs
  · cases hs
  · cases hs
  · cases hs
  · cases hs
def rr : List DefR := rs ++ []
theorem sb : ∀ r ∈ rs, r ∈ rr := fun r h => List.mem_append_left _ h
theorem sit : ∀ p ∈ gl.its, ∃ r ∈ rr, r.key = (p.1, some ("__iter__" : Str)) ∧ IterR r p.2 := by
  intro p hp
  simp only [gl, List.mem_cons, List.not_mem_nil, or_false] at hp
end K34
namespace K34
open PySem PySem.Spec PyProof.Rows L2 DN
abbrev Rw : PySem.W.OpenRow := PySem.W.OpenLaw.row PySem.Challenge.rw_reasonsandlevels_k34_distinctions_and_ne
abbrev hk : PySem.W.Hook := hookR 20000 gl rr
def ob (s : PySem.W.SharedT) : AlR := obsRG 20000 gl rr (HandSHeadRun.getT s)
theorem ob_eq (s : PySem.W.SharedT) : ob s = hk.obs s.abs := obsRG_eq (HandSHeadRun.getT_eq s)
def loose : List Str := (("_wall" : Str) :: ("CourtError" : Str) :: ("NoForum" : Str) :: ("BadText" : Str) :: ("OtherForum" : Str) :: ("NoCase" : Str) :: ("NoGrade" : Str) :: ("NoRow" : Str) :: ("NoRule" : Str) :: ("TooLarge" : Str) :: ("lot_within" : Str) :: ("lot_without" : Str) :: ("shared_lot" : Str) :: ("matter_at_least" : Str) :: ("require_holding" : Str) :: ("distinction" : Str) :: ("shared_factors" : Str) :: ("nearer" : Str) :: ("nearest_holdings" : Str) :: ("idle_factors" : Str) :: ("LETTERS" : Str) :: ("distinct_letters" : Str) :: ("MOST_FACTORS" : Str) :: ("all_lots" : Str) :: ("Factors" : Str) :: [("require_same_factors" : Str), ("MOST_HOLDINGS" : Str), ("is_reason" : Str), ("checked_holdings" : Str), ("core" : Str), ("Casebook" : Str), ("deciding_holdings" : Str), ("_law_cell" : Str), ("_law_draws" : Str), ("_law_same" : Str), ("_law_letters" : Str), ("_law_lot" : Str), ("_law_matter" : Str), ("_law_within" : Str), ("_law_over" : Str), ("_law_core" : Str), ("_law_clash" : Str), ("_law_fight" : Str), ("_law_peaceful" : Str), ("_law_holding" : Str), ("_law_holdings" : Str), ("_law_bad_matter" : Str), ("_law_refused" : Str), ("_law_shared" : Str), ("_law_near" : Str), ("_law_mended" : Str), ("_law_asked" : Str), ("_law_idle" : Str)])
theorem headRun (w : World) : HandSHeadRun.RunEq Rw (PySem.W.view Rw.prog [60]) hk ob 20000 loose w := by
  intro os
  kernel_rfl
end K34
/-! Pl0: evaluation of codes by simp, rules for loops. -/
namespace DN
open PySem
section
variable {α β : Type}
@[simp] theorem R.bind_ok (a : α) (f : α → R β) : (R.ok a).bind f = f a := (rfl)
@[simp] theorem R.bind_ex (k : Str) (fs : List (Str × D)) (f : α → R β) : (R.ex k fs : R α).bind f = .ex k fs := (rfl)
@[simp] theorem R.bind_bad (f : α → R β) : (R.bad : R α).bind f = .bad := (rfl)
@[simp] theorem R.map_ok (a : α) (f : α → β) : (R.ok a).map f = .ok (f a) := (rfl)
@[simp] theorem R.map_ex (k : Str) (fs : List (Str × D)) (f : α → β) : (R.ex k fs : R α).map f = .ex k fs := (rfl)
@[simp] theorem R.map_bad (f : α → β) : (R.bad : R α).map f = .bad := (rfl)
@[simp] theorem ofO_some (a : α) : ofO (some a) = .ok a := (rfl)
@[simp] theorem ofO_none : ofO (none : Option α) = .bad := (rfl)
@[simp] theorem noX_ok (a : α) : noX (R.ok a) = .ok a := (rfl)
end
@[simp] theorem noEx_ok (a : Bool × D) : noEx (R.ok a) = .ok a := (rfl)
@[simp] theorem slotF_cons (x : Option Sl) (s : SE) (i : Nat) : slotF (x :: s) (i + 1) = slotF s i := (rfl)
@[simp] theorem slotF_fr (d : D) (s : SE) : slotF (some (.fr d) :: s) 0 = .ok d := (rfl)
@[simp] theorem slotF_ow (d : D) (s : SE) : slotF (some (.ow d) :: s) 0 = .ok d := (rfl)
@[simp] theorem keepSl_ow (d : D) : keepSl (some (.ow d)) = some (.fr d) := (rfl)
@[simp] theorem keepSl_fr (d : D) : keepSl (some (.fr d)) = some (.fr d) := (rfl)
@[simp] theorem keepSl_none : keepSl none = none := (rfl)
@[simp] theorem demote_nil (s : SE) : demote [] s = s := (rfl)
@[simp] theorem demote_cons (i : Nat) (r : List Nat) (s : SE) : demote (i :: r) s = demote r (s.set i (keepSl (s.getD i none))) := (rfl)
@[simp] theorem wipe_nil (s : SE) : wipeS [] s = s := (rfl)
@[simp] theorem wipe_cons (i : Nat) (r : List Nat) (s : SE) : wipeS (i :: r) s = (wipeS r s).set i none := (rfl)
@[simp] theorem settle_nil (d : D) (s : SE) : settle [] d s = s := by unfold settle; split <;> rfl
@[simp] theorem settle_non (fz : List Nat) (s : SE) : settle fz .non s = s := (rfl)
@[simp] theorem settle_bl (fz : List Nat) (b : Bool) (s : SE) : settle fz (.bl b) s = s := (rfl)
@[simp] theorem settle_int (fz : List Nat) (i : Int) (s : SE) : settle fz (.int i) s = s := (rfl)
@[simp] theorem settle_str (fz : List Nat) (i : Str) (s : SE) : settle fz (.str i) s = s := (rfl)
@[simp] theorem settle_tup (fz : List Nat) (l : List D) (s : SE) : settle fz (.tup l) s = demote fz s := (rfl)
@[simp] theorem settle_lst (fz : List Nat) (l : List D) (s : SE) : settle fz (.lst l) s = demote fz s := (rfl)
@[simp] theorem settle_dic (fz : List Nat) (l : List (D × D)) (s : SE) : settle fz (.dic l) s = demote fz s := (rfl)
@[simp] theorem settle_dicT (fz : List Nat) (l : List (List L2.Key × D)) (s : SE) : settle fz (dicT l) s = demote fz s := (rfl)
@[simp] theorem settle_obj (fz : List Nat) (k : Str) (l : List (Str × D)) (s : SE) : settle fz (.obj k l) s = demote fz s := (rfl)
@[simp] theorem Sl_of_true (d : D) : Sl.of true d = .ow d := (rfl)
@[simp] theorem Sl_of_false (d : D) : Sl.of false d = .fr d := (rfl)
section
variable (c : Call) (s : SE)
@[simp] theorem eC_ev (d : D) : eC d c s = .ok (false, d) := (rfl)
@[simp] theorem eVar_ev (i : Nat) : eVar i c s = (slotF s i).map fun d => (false, d) := (rfl)
@[simp] theorem lVar_ev (i : Nat) : lVar i c s = slotF s i := (rfl)
@[simp] theorem lOf_ev (e : ED) : lOf e c s = (e c s).map Prod.snd := (rfl)
@[simp] theorem aNil_ev : aNil c s = .ok [] := (rfl)
@[simp] theorem aCons_ev (e : LD) (r : AD) : aCons e r c s = (e c s).bind fun d => (r c s).bind fun ds => .ok (d :: ds) := (rfl)
@[simp] theorem eTup_ev (a : AD) : eTup a c s = (a c s).bind fun ds => .ok (false, .tup ds) := (rfl)
@[simp] theorem eLst_ev (a : AD) : eLst a c s = (a c s).bind fun ds => .ok (true, .lst ds) := (rfl)
@[simp] theorem e2_ev (f : D → D → Option (Bool × D)) (a b : LD) : e2 f a b c s = (a c s).bind fun x => (b c s).bind fun y => ofO (f x y) := (rfl)
@[simp] theorem e1_ev (f : D → Option (Bool × D)) (a : LD) : e1 f a c s = (a c s).bind fun x => ofO (f x) := (rfl)
@[simp] theorem eA_ev (f : List D → Option (Bool × D)) (a : AD) : eA f a c s = (a c s).bind fun xs => ofO (f xs) := (rfl)
@[simp] theorem aDef_ev (a : AD) (dfs : List D) : aDef a dfs c s = (a c s).map fun ds => ds ++ dfs := (rfl)
@[simp] theorem eCall_ev (k : Fn) (a : AD) : eCall k a c s = (a c s).bind fun ds => c k ds := (rfl)
@[simp] theorem eCallS_ev (x : Str) (p : Nat) (a : AD) : eCallS x p a c s = (a c s).bind fun ds => if ds.length ≤ LIM then c (x, none) (ds.take p ++ [.tup (ds.drop p)]) else .bad := (rfl)
@[simp] theorem eB_ev (b : BD) : eB b c s = (b c s).map fun x => (false, .bl x) := (rfl)
@[simp] theorem bE_ev (e : ED) : bE e c s = (e c s).bind fun x => ofO (isBl x.2) := (rfl)
@[simp] theorem bTrue_ev : bTrue c s = .ok true := (rfl)
@[simp] theorem bNot_ev (a : BD) : bNot a c s = (a c s).map not := (rfl)
@[simp] theorem bAnd_ev (a b : BD) : bAnd a b c s = (a c s).bind fun x => if x = true then b c s else .ok false := (rfl)
@[simp] theorem bOr_ev (a b : BD) : bOr a b c s = (a c s).bind fun x => if x = true then .ok true else b c s := (rfl)
@[simp] theorem eIf_ev (t : BD) (a b : ED) : eIf t a b c s = (t c s).bind fun x => if x = true then a c s else b c s := (rfl)
@[simp] theorem bTruth_ev (e : LD) : bTruth e c s = (e c s).bind fun x => ofO (truth x) := (rfl)
@[simp] theorem oNone_ev : oNone c s = .ok none := (rfl)
@[simp] theorem oSome_ev (e : LD) : oSome e c s = (e c s).bind fun d => ofO (dPart d) := (rfl)
@[simp] theorem dPart_int (i : Int) : dPart (.int i) = some (some i) := (rfl)
@[simp] theorem eCut_ev (a : LD) (lo hi : OD) : eCut a lo hi c s = (a c s).bind fun x => (lo c s).bind fun l => (hi c s).bind fun h => ofO (dCut x l h) := (rfl)
@[simp] theorem eChain_ev (f f' : D → D → Option (Bool × D)) (a b e : LD) : eChain f f' a b e c s = (a c s).bind fun x => (b c s).bind fun y => (ofO ((f x y).bind fun r => isBl r.2)).bind fun t =>
  if t = true then (e c s).bind fun z => ofO (f' y z) else .ok (false, .bl false) := (rfl)
@[simp] theorem eFld_ev (f : Str) (t : Str → Bool) (a : LD) : eFld f t a c s = (a c s).bind fun x => ofO (dFld f t x) := (rfl)
@[simp] theorem eInO_ev (neg : Bool) (tb : Str → Bool) (a b : LD) : eInO neg tb a b c s = (a c s).bind fun x => (b c s).bind fun y => ofO (dInO c neg tb x y) := (rfl)
@[simp] theorem iOf_ev (e : LD) : iOf e c s = (e c s).bind fun d => ofO (items d) := (rfl)
@[simp] theorem iA_ev (f : List D → Option (List D)) (a : AD) : iA f a c s = (a c s).bind fun xs => ofO (f xs) := (rfl)
@[simp] theorem iRev_ev (e : LD) : iRev e c s = (e c s).bind fun d => ofO (kRev d) := (rfl)
@[simp] theorem iOwn_ev (tb : Str → Option Str) (e : LD) : iOwn tb e c s = (e c s).bind fun d => ofO (itemsO tb d) := (rfl)
@[simp] theorem eBM_ev (f : D → D → Option (Bool × D)) (a b : LD) : eBM f a b c s = (a c s).bind fun x => if isStr x = true then (b c s).bind fun y => ofO (f x y) else .bad := (rfl)
@[simp] theorem isStr_str (x : Str) : isStr (.str x) = true := (rfl)
end
/-- the parts that look at an instance -/
def mthD (m : Str) (a : AD) (dfs : Str → Option (List D)) (c : Call) (s : SE) : D → R (Bool × D)
  | .obj k fs => if (fs.lookup m).isSome = true then .bad else match dfs k with
    | some dd => (a c s).bind fun ds => c (k, some m) (.obj k fs :: (ds ++ dd))
    | none => .bad
  | _ => .bad
def prpD (f : Str) (t : Str → Bool) (c : Call) : D → R (Bool × D)
  | .obj k fs => if (fs.lookup f).isSome = true then .bad else if t k = true then noEx (c (k, some f) [.obj k fs]) else .bad
  | _ => .bad
def conD (f : Str) (t : Str → Option D) : D → R (Bool × D)
  | .obj k fs => if (fs.lookup f).isSome = true then .bad else ofO ((t k).map fun d => (false, d))
  | _ => .bad
def mkD (r : R (Bool × D)) : R (Bool × D) := r.bind fun r => if r.1 = true then .ok (true, r.2) else .bad
section
variable (c : Call) (s : SE)
@[simp] theorem eMeth_ev (m : Str) (o : LD) (a : AD) (dfs : Str → Option (List D)) : eMeth m o a dfs c s = (o c s).bind fun x => mthD m a dfs c s x := by
  unfold eMeth
  cases o c s with
  | ok x => cases x <;> rfl
  | ex k fs => rfl
  | bad => rfl
@[simp] theorem eProp_ev (f : Str) (t : Str → Bool) (o : LD) : eProp f t o c s = (o c s).bind fun x => prpD f t c x := by
  unfold eProp
  cases o c s with
  | ok x => cases x <;> rfl
  | ex k fs => rfl
  | bad => rfl
@[simp] theorem eCon_ev (o : LD) (f : Str) (t : Str → Option D) : eCon o f t c s = (o c s).bind fun x => conD f t x := by
  unfold eCon
  cases o c s with
  | ok x => cases x <;> rfl
  | ex k fs => rfl
  | bad => rfl
@[simp] theorem eMake_ev (k : Str) (a : AD) : eMake k a c s = (a c s).bind fun ds => mkD (c (k, some "__init__") ds) := rfl
@[simp] theorem mthD_obj (m : Str) (a : AD) (dfs : Str → Option (List D)) (k : Str) (fs : List (Str × D)) : mthD m a dfs c s (.obj k fs) = if (fs.lookup m).isSome = true then .bad else match dfs k with
    | some dd => (a c s).bind fun ds => c (k, some m) (.obj k fs :: (ds ++ dd))
    | none => .bad := (rfl)
@[simp] theorem prpD_obj (f : Str) (t : Str → Bool) (k : Str) (fs : List (Str × D)) : prpD f t c (.obj k fs) = if (fs.lookup f).isSome = true then .bad else if t k = true then noEx (c (k, some f) [.obj k fs]) else .bad := (rfl)
@[simp] theorem conD_obj (f : Str) (t : Str → Option D) (k : Str) (fs : List (Str × D)) : conD f t (.obj k fs) = if (fs.lookup f).isSome = true then .bad else ofO ((t k).map fun d => (false, d)) := (rfl)
@[simp] theorem mkD_ok (d : D) : mkD (.ok (true, d)) = .ok (true, d) := (rfl)
@[simp] theorem mkD_ex (k : Str) (fs : List (Str × D)) : mkD (.ex k fs) = .ex k fs := (rfl)
@[simp] theorem dFld_obj (f : Str) (t : Str → Bool) (k : Str) (fs : List (Str × D)) : dFld f t (.obj k fs) = if t k = true then (fs.lookup f).map fun x => (false, x) else none := by
  show (if t k = true then (match fs.lookup f with | some x => some (false, x) | none => none) else none) = _
  cases fs.lookup f <;> rfl
@[simp] theorem dInO_obj (neg : Bool) (tb : Str → Bool) (x : D) (k : Str) (fs : List (Str × D)) : dInO c neg tb x (.obj k fs) = if tb k = true ∧ solid x = true then (ownIn c x k fs).map fun r => (false, .bl (if neg = true then !r else r)) else none := (rfl)
theorem ownIn_of {x : D} {k : Str} {fs : List (Str × D)} {b r : Bool} (h : c (k, some "__contains__") [.obj k fs, x] = .ok (b, .bl r)) : ownIn c x k fs = some r := by
  unfold ownIn
  rw [h]
@[simp] theorem solid_int (i : Int) : solid (.int i) = true := (rfl)
@[simp] theorem solid_str (i : Str) : solid (.str i) = true := (rfl)
@[simp] theorem solid_tup (i : List D) : solid (.tup i) = true := (rfl)
@[simp] theorem itemsO_obj (tb : Str → Option Str) (k : Str) (fs : List (Str × D)) : itemsO tb (.obj k fs) = (tb k).bind fun f => match fs.lookup f with
    | some (.lst l) => some l
    | _ => none := (rfl)
end
@[simp] theorem putFD_nil (f : Str) (d : D) : putFD f d [] = [(f, d)] := (rfl)
@[simp] theorem putFD_cons (f : Str) (d : D) (g : Str) (x : D) (r : List (Str × D)) : putFD f d ((g, x) :: r) = if g = f then (g, d) :: r else (g, x) :: putFD f d r := (rfl)
theorem map_toNat_inj : ∀ l m : List Char, l.map Char.toNat = m.map Char.toNat → l = m
  | [], [], _ => rfl
  | [], _ :: _, h => by cases h
  | _ :: _, [], h => by cases h
  | a :: r, b :: q, h => by
    have h1 := (List.cons.inj h).1
    have h2 := (List.cons.inj h).2
    rw [map_toNat_inj r q h2, Char.toNat_inj.mp h1]
@[simp] theorem ofString_inj (a b : String) : (Str.ofString a = Str.ofString b) ↔ a = b := by
  constructor
  · intro h
    rw [Str.ofString_eq_toList, Str.ofString_eq_toList] at h
    have h := Str.mk.inj h
    have h := congrArg Array.toList h
    simp only at h
    have := map_toNat_inj _ _ h
    exact String.toList_inj.mp this
  · rintro rfl; rfl
@[simp] theorem ofString_beq (a b : String) : (Str.ofString a == Str.ofString b) = (a == b) := by
  by_cases h : a = b
  · subst h; simp
  · have h2 : ¬ Str.ofString a = Str.ofString b := fun e => h ((ofString_inj a b).mp e)
    rw [beq_eq_false_iff_ne.mpr h, beq_eq_false_iff_ne.mpr h2]
@[simp] theorem lookup_ofString {α : Type} (k : String) (a : String) (b : α) (l : List (Str × α)) : List.lookup (Str.ofString k) ((Str.ofString a, b) :: l) = if k = a then some b else List.lookup (Str.ofString k) l := by
  rw [List.lookup_cons, ofString_beq]
  by_cases h : k = a
  · subst h; simp
  · rw [if_neg h, beq_eq_false_iff_ne.mpr h]
@[simp] theorem isBl_bl (b : Bool) : isBl (.bl b) = some b := (rfl)
theorem kRange1 (j : Int) : kRange [.int j] = if -(2 ^ 62) ≤ j ∧ j < 2 ^ 62 then some (rangeD 0 j.toNat) else none := rfl
theorem kRange2 (i j : Int) : kRange [.int i, .int j] = if -(2 ^ 62) ≤ i ∧ i < 2 ^ 62 ∧ -(2 ^ 62) ≤ j ∧ j < 2 ^ 62 then some (rangeD i (j - i).toNat) else none := rfl
@[simp] theorem items_lst (l : List D) : items (.lst l) = some l := (rfl)
@[simp] theorem items0_lst (l : List D) : items0 (.lst l) = some l := (rfl)
@[simp] theorem items0_tup (l : List D) : items0 (.tup l) = some l := (rfl)
@[simp] theorem items0_ft (l : List D) : items0 (.ft l) = some l := (rfl)
@[simp] theorem items_rng (j : Int) : items (.rng j) = if RgB j then some (rangeD 0 j.toNat) else none := (rfl)
@[simp] theorem kRng_int (j : Int) : kRng [.int j] = if RgB j then some (false, .rng j) else none := (rfl)
@[simp] theorem BIf_rng : BI.rng.f = kRng := (rfl)
@[simp] theorem items_tup (l : List D) : items (.tup l) = some l := (rfl)
@[simp] theorem kLen_lst (l : List D) : kLen [.lst l] = some (false, .int l.length) := (rfl)
@[simp] theorem kLen_tup (l : List D) : kLen [.tup l] = some (false, .int l.length) := (rfl)
@[simp] theorem kLen_scr (l : List Int) : kLen [.scr l] = some (false, .int l.length) := (rfl)
theorem kLen_str (s : Str) : kLen [.str s] = if s.length ≤ LIM then some (false, .int s.length) else none := (rfl)
@[simp] theorem kInt_int (i : Int) : kInt [.int i] = some (false, .int i) := (rfl)
@[simp] theorem kAbs_int (i : Int) : kAbs [.int i] = some (false, .int (if i < 0 then -i else i)) := (rfl)
@[simp] theorem kMax_int (i j : Int) : kMax [.int i, .int j] = some (false, .int (if j > i then j else i)) := (rfl)
@[simp] theorem kMin_int (i j : Int) : kMin [.int i, .int j] = some (false, .int (if j < i then j else i)) := (rfl)
@[simp] theorem kList_lst (l : List D) : kList [.lst l] = some (true, .lst l) := (rfl)
@[simp] theorem kList_tup (l : List D) : kList [.tup l] = some (true, .lst l) := (rfl)
@[simp] theorem kTuple_lst (l : List D) : kTuple [.lst l] = some (false, .tup l) := (rfl)
@[simp] theorem kTuple_tup (l : List D) : kTuple [.tup l] = some (false, .tup l) := (rfl)
@[simp] theorem dAdd_int (i j : Int) : dAdd (.int i) (.int j) = some (false, .int (i + j)) := (rfl)
theorem dAdd_str (a b : Str) : dAdd (.str a) (.str b) = if a.length + b.length ≤ LIM then some (false, .str (a ++ b)) else none := (rfl)
@[simp] theorem dAdd_lst (a b : List D) : dAdd (.lst a) (.lst b) = if a.length + b.length ≤ LIM then some (true, .lst (a ++ b)) else none := (rfl)
@[simp] theorem dAdd_tup (a b : List D) : dAdd (.tup a) (.tup b) = if a.length + b.length ≤ LIM then some (false, .tup (a ++ b)) else none := (rfl)
@[simp] theorem dSub_int (i j : Int) : dSub (.int i) (.int j) = some (false, .int (i - j)) := (rfl)
@[simp] theorem dMul_int (i j : Int) : dMul (.int i) (.int j) = if (-(2 ^ 64) < i ∧ i < 2 ^ 64) ∨ (-(2 ^ 64) < j ∧ j < 2 ^ 64) then some (false, .int (i * j)) else none := (rfl)
@[simp] theorem dMul_lst (a : List D) (j : Int) : dMul (.lst a) (.int j) = if j ≤ 1000 ∧ -1000 ≤ j ∧ a.length ≤ 1000 then some (true, .lst (List.replicate j.toNat a).flatten) else none := (rfl)
@[simp] theorem dMul_tup (a : List D) (j : Int) : dMul (.tup a) (.int j) = if j ≤ 1000 ∧ -1000 ≤ j ∧ a.length ≤ 1000 then some (false, .tup (List.replicate j.toNat a).flatten) else none := (rfl)
@[simp] theorem dFdiv_int (i j : Int) : dFdiv (.int i) (.int j) = if 0 < j ∧ j < 1073741824 then some (false, .int (i / j)) else none := (rfl)
@[simp] theorem dMod_int (i j : Int) : dMod (.int i) (.int j) = if 0 < j then some (false, .int (i % j)) else none := (rfl)
@[simp] theorem dPow_int (i j : Int) : dPow (.int i) (.int j) = if 0 ≤ j ∧ j ≤ 1000000 ∧ i.natAbs < 2 ^ 64 then some (false, .int (i ^ j.toNat)) else none := (rfl)
@[simp] theorem dNeg_int (i : Int) : dNeg (.int i) = some (false, .int (-i)) := (rfl)
@[simp] theorem dInts_int (g : Int → Int → Bool) (i j : Int) : dInts g (.int i) (.int j) = some (false, .bl (g i j)) := (rfl)
@[simp] theorem dIsN_non (x : D) : dIsN x .non = some (false, .bl x.isNon) := (rfl)
@[simp] theorem dNotN_non (x : D) : dNotN x .non = some (false, .bl (!x.isNon)) := (rfl)
@[simp] theorem isNon_non : D.isNon .non = true := (rfl)
@[simp] theorem isNon_int (i : Int) : D.isNon (.int i) = false := (rfl)
@[simp] theorem isNon_bl (i : Bool) : D.isNon (.bl i) = false := (rfl)
@[simp] theorem isNon_str (i : Str) : D.isNon (.str i) = false := (rfl)
@[simp] theorem isNon_tup (i : List D) : D.isNon (.tup i) = false := (rfl)
@[simp] theorem isNon_lst (i : List D) : D.isNon (.lst i) = false := (rfl)
@[simp] theorem isNon_obj (k : Str) (i : List (Str × D)) : D.isNon (.obj k i) = false := (rfl)
@[simp] theorem truth_non : truth .non = some false := (rfl)
@[simp] theorem truth_bl (b : Bool) : truth (.bl b) = some b := (rfl)
@[simp] theorem truth_int (i : Int) : truth (.int i) = some (i != 0) := (rfl)
@[simp] theorem truth_tup (l : List D) : truth (.tup l) = some (!l.isEmpty) := (rfl)
@[simp] theorem truth_lst (l : List D) : truth (.lst l) = some (!l.isEmpty) := (rfl)
@[simp] theorem dCut_lst (l : List D) (lo hi : Option Int) : dCut (.lst l) lo hi = some (true, .lst (cutD l lo hi)) := (rfl)
@[simp] theorem dCut_tup (l : List D) (lo hi : Option Int) : dCut (.tup l) lo hi = some (false, .tup (cutD l lo hi)) := (rfl)
theorem dCut_str (s : Str) (lo hi : Option Int) : dCut (.str s) lo hi = if s.length ≤ LIM then some (false, .str (L2.cutS s lo hi)) else none := (rfl)
@[simp] theorem dIsi_def (t : TyC) (d : D) : dIsi t d = match tyK d with
  | some a => some (false, .bl (isK a t))
  | none => none := (rfl)
@[simp] theorem tyK_int (i : Int) : tyK (.int i) = some .int := (rfl)
@[simp] theorem tyK_bl (i : Bool) : tyK (.bl i) = some .bool := (rfl)
@[simp] theorem tyK_non : tyK .non = some .non := (rfl)
@[simp] theorem tyK_str (i : Str) : tyK (.str i) = some .str := (rfl)
@[simp] theorem tyK_tup (i : List D) : tyK (.tup i) = some .tuple := (rfl)
@[simp] theorem tyK_lst (i : List D) : tyK (.lst i) = some .list := (rfl)
/-! ### the functions by names -/
@[simp] theorem O2_add : O2.f .add = dAdd := (rfl)
@[simp] theorem O2_sub : O2.f .sub = dSub := (rfl)
@[simp] theorem O2_mul : O2.f .mul = dMul := (rfl)
@[simp] theorem O2_fdiv : O2.f .fdiv = dFdiv := (rfl)
@[simp] theorem O2_mod : O2.f .mod = dMod := (rfl)
@[simp] theorem O2_pow : O2.f .pow = dPow := (rfl)
@[simp] theorem O2_lt : O2.f .lt = dInts fun i j => decide (i < j) := (rfl)
@[simp] theorem O2_le : O2.f .le = dInts fun i j => decide (i ≤ j) := (rfl)
@[simp] theorem O2_gt : O2.f .gt = dInts fun i j => decide (j < i) := (rfl)
@[simp] theorem O2_ge : O2.f .ge = dInts fun i j => decide (j ≤ i) := (rfl)
@[simp] theorem O2_eq : O2.f .eq = dEq := (rfl)
@[simp] theorem O2_ne : O2.f .ne = dNe := (rfl)
@[simp] theorem O2_isn : O2.f .isn = dIsN := (rfl)
@[simp] theorem O2_notn : O2.f .notn = dNotN := (rfl)
@[simp] theorem O2_inn : O2.f .inn = dIn := (rfl)
@[simp] theorem O2_notin : O2.f .notin = dNotIn := (rfl)
@[simp] theorem O2_ix : O2.f .ix = dIx := (rfl)
@[simp] theorem BI_len : BI.f .len = kLen := (rfl)
@[simp] theorem BI_int : BI.f .int = kInt := (rfl)
@[simp] theorem BI_abs : BI.f .abs = kAbs := (rfl)
@[simp] theorem BI_max : BI.f .max = kMax := (rfl)
@[simp] theorem BI_min : BI.f .min = kMin := (rfl)
@[simp] theorem BI_list : BI.f .list = kList := (rfl)
@[simp] theorem BI_tuple : BI.f .tuple = kTuple := (rfl)
@[simp] theorem BI_sum : BI.f .sum = kSum := (rfl)
@[simp] theorem BI_sorted : BI.f .sorted = kSorted := (rfl)
@[simp] theorem BI_any : BI.f .any = kAny := (rfl)
@[simp] theorem BI_all : BI.f .all = kAll := (rfl)
@[simp] theorem BI_max1 : BI.f .max1 = kMax1 := (rfl)
@[simp] theorem BI_min1 : BI.f .min1 = kMin1 := (rfl)
@[simp] theorem CK_non : CK.d .non = .non := (rfl)
@[simp] theorem CK_bl (b : Bool) : CK.d (.bl b) = .bl b := (rfl)
@[simp] theorem CK_int (b : Int) : CK.d (.int b) = .int b := (rfl)
@[simp] theorem CK_str (b : Str) : CK.d (.str b) = .str b := (rfl)
@[simp] theorem BM_count : BM.f .count = dCount := (rfl)
@[simp] theorem BM_join : BM.f .join = dJoin := (rfl)
@[simp] theorem BI_str : BI.f .str = kStr := (rfl)
@[simp] theorem CK_unit : CK.d .unit = .ft [] := (rfl)
@[simp] theorem dRevL_lst (l : List D) : dRevL (.lst l) = some (true, .lst l.reverse) := (rfl)
@[simp] theorem items_ft (l : List D) : items (.ft l) = some l := (rfl)
@[simp] theorem kLen_ft (l : List D) : kLen [.ft l] = some (false, .int l.length) := (rfl)
/-! ### a statement, and what follows it -/
/-- an expression's value goes on -/
def RO {α : Type} (x : R α) (s : SE) (f : α → O) : O := match x with
  | .ok a => f a
  | .ex k fs => .ex k fs s
  | .bad => .bad
section
variable {α : Type} (s : SE) (f : α → O)
@[simp] theorem RO_ok (a : α) : RO (.ok a) s f = f a := (rfl)
@[simp] theorem RO_ex (k : Str) (fs : List (Str × D)) : RO (.ex k fs : R α) s f = .ex k fs s := (rfl)
@[simp] theorem RO_bad : RO (.bad : R α) s f = .bad := (rfl)
end
section
variable (c : Call) (s : SE) (r a b : SD)
@[simp] theorem sSeq_seq : sSeq (sSeq a b) r c s = sSeq a (sSeq b r) c s := by
  unfold sSeq
  cases a c s <;> rfl
@[simp] theorem sSeq_nx : sSeq sNx r c s = r c s := (rfl)
@[simp] theorem sNx_ev : sNx c s = .nx s := (rfl)
@[simp] theorem sSeq_bk : sSeq sBk r c s = .bk s := (rfl)
@[simp] theorem sSeq_ct : sSeq sCt r c s = .ct s := (rfl)
@[simp] theorem sBk_ev : sBk c s = .bk s := (rfl)
@[simp] theorem sCt_ev : sCt c s = .ct s := (rfl)
@[simp] theorem sSeq_asg (i : Nat) (e : ED) (fz : List Nat) : sSeq (sAsg i e fz) r c s = RO (e c s) s fun p => r c ((settle fz p.2 s).set i (some (Sl.of p.1 p.2))) := by
  unfold sSeq sAsg
  cases e c s <;> rfl
@[simp] theorem sSeq_drop (e : ED) : sSeq (sDrop e) r c s = RO (e c s) s fun _ => r c s := by
  unfold sSeq sDrop
  cases e c s <;> rfl
@[simp] theorem sSeq_ret (e : ED) : sSeq (sRet e) r c s = RO (e c s) s fun p => .rt p.1 p.2 := by
  unfold sSeq sRet
  cases e c s <;> rfl
def retV (s : SE) (i : Nat) : O := match s[i]? with
  | some (some (.ow d)) => .rt true d
  | some (some (.fr d)) => .rt false d
  | _ => .bad
@[simp] theorem retV_cons (x : Option Sl) (s : SE) (i : Nat) : retV (x :: s) (i + 1) = retV s i := (rfl)
@[simp] theorem retV_ow (d : D) (s : SE) : retV (some (.ow d) :: s) 0 = .rt true d := (rfl)
@[simp] theorem retV_fr (d : D) (s : SE) : retV (some (.fr d) :: s) 0 = .rt false d := (rfl)
@[simp] theorem sSeq_retv (i : Nat) : sSeq (sRetV i) r c s = retV s i := by
  unfold sSeq sRetV retV
  cases h : s[i]? with
  | none => rfl
  | some o => cases o with
    | none => rfl
    | some x => cases x <;> rfl
@[simp] theorem sSeq_if (t : BD) : sSeq (sIf t a b) r c s = RO (t c s) s fun x => if x = true then sSeq a r c s else sSeq b r c s := by
  unfold sSeq sIf
  cases t c s with
  | ok x => cases x <;> rfl
  | ex k fs => rfl
  | bad => rfl
@[simp] theorem sSeq_raise (k : Str) : sSeq (sRaise k) r c s = .ex k [] s := (rfl)
def OO (x : Option SE) (f : SE → O) : O := match x with
  | some s => f s
  | none => .bad
@[simp] theorem OO_some (s : SE) (f : SE → O) : OO (some s) f = f s := (rfl)
@[simp] theorem sSeq_unp (g : Tg) (e : LD) (fz : List Nat) : sSeq (sUnp g e fz) r c s = RO (e c s) s fun d => OO (g.put d (settle fz d s)) (r c) := by
  unfold sSeq sUnp
  cases e c s with
  | ok d =>
    show (match (match g.put d (settle fz d s) with | some s' => O.nx s' | none => .bad) with | .nx s' => r c s' | o => o) = _
    rw [RO_ok]
    cases g.put d (settle fz d s) <;> rfl
  | ex k fs => rfl
  | bad => rfl
def OL (x : Option (List D)) (f : List D → O) : O := match x with
  | some s => f s
  | none => .bad
@[simp] theorem OL_some (s : List D) (f : List D → O) : OL (some s) f = f s := (rfl)
@[simp] theorem ownL_cons (x : Option Sl) (s : SE) (i : Nat) : ownL (x :: s) (i + 1) = ownL s i := (rfl)
@[simp] theorem ownL_ow (l : List D) (s : SE) : ownL (some (.ow (.lst l)) :: s) 0 = some l := (rfl)
@[simp] theorem sSeq_app (i : Nat) (e : LD) (fz : List Nat) : sSeq (sApp i e fz) r c s = OL (ownL s i) fun _ => RO (e c s) s fun d => OL (ownL (settle fz d s) i) fun l =>
    if l.length < LIM then r c ((settle fz d s).set i (some (.ow (.lst (l ++ [d]))))) else .bad := by
  unfold sSeq sApp
  cases ownL s i with
  | none => rfl
  | some l0 =>
    cases e c s with
    | ok d =>
      show (match (match ownL (settle fz d s) i with | some l => if l.length < LIM then O.nx ((settle fz d s).set i (some (.ow (.lst (l ++ [d]))))) else .bad | none => .bad) with | .nx s' => r c s' | o => o) = _
      rw [OL_some, RO_ok]
      cases ownL (settle fz d s) i with
      | none => rfl
      | some l =>
        simp only [OL_some]
        by_cases h : l.length < LIM
        · simp only [if_pos h]
        · simp only [if_neg h]
    | ex k fs => rfl
    | bad => rfl
@[simp] theorem sSeq_rev (i : Nat) : sSeq (sRev i) r c s = OL (ownL s i) fun l => r c (s.set i (some (.ow (.lst l.reverse)))) := by
  unfold sSeq sRev
  cases ownL s i <;> rfl
@[simp] theorem sSeq_putIx (i : Nat) (j : OD) (e : LD) (fz : List Nat) : sSeq (sPutIx i j e fz) r c s = RO (e c s) s fun d => OL (ownL (settle fz d s) i) fun l => match j c (settle fz d s) with
    | .ok (some k) => match L2.ixN l.length k with
      | some m => r c ((settle fz d s).set i (some (.ow (.lst (l.set m d)))))
      | none => .bad
    | _ => .bad := by
  unfold sSeq sPutIx
  cases e c s with
  | ok d =>
    rw [RO_ok]
    cases h : ownL (settle fz d s) i with
    | none => simp [h, OL]
    | some l =>
      simp only [h, OL]
      cases h2 : j c (settle fz d s) with
      | ok o => cases o with
        | none => rfl
        | some k =>
          simp only
          cases L2.ixN l.length k <;> rfl
      | ex k fs => rfl
      | bad => rfl
  | ex k fs => rfl
  | bad => rfl
def OB (x : Option (Str × List (Str × D))) (f : Str × List (Str × D) → O) : O := match x with
  | some s => f s
  | none => .bad
@[simp] theorem OB_some (s : Str × List (Str × D)) (f : Str × List (Str × D) → O) : OB (some s) f = f s := (rfl)
@[simp] theorem ownO_cons (x : Option Sl) (s : SE) (i : Nat) : ownO (x :: s) (i + 1) = ownO s i := (rfl)
@[simp] theorem ownO_ow (k : Str) (l : List (Str × D)) (s : SE) : ownO (some (.ow (.obj k l)) :: s) 0 = some (k, l) := (rfl)
@[simp] theorem sSeq_putF (i : Nat) (f : Str) (t : Str → Bool) (e : LD) (fz : List Nat) : sSeq (sPutF i f t e fz) r c s = RO (e c s) s fun d => OB (ownO (settle fz d s) i) fun p =>
    if p.2.length < 1000 ∧ t p.1 = true then r c ((settle fz d s).set i (some (.ow (.obj p.1 (putFD f d p.2))))) else .bad := by
  unfold sSeq sPutF
  cases e c s with
  | ok d =>
    rw [RO_ok]
    cases h : ownO (settle fz d s) i with
    | none => simp [h, OB]
    | some l =>
      simp only [h, OB]
      by_cases h2 : l.2.length < 1000 ∧ t l.1 = true
      · rw [if_pos h2, if_pos h2]
      · rw [if_neg h2, if_neg h2]
  | ex k fs => rfl
  | bad => rfl
end
@[simp] theorem put_nm (i : Nat) (d : D) (s : SE) : Tg.put (.nm i) d s = some (s.set i (some (.fr d))) := (rfl)
@[simp] theorem put_tp (l : Tgs) (ds : List D) (s : SE) : Tg.put (.tp l) (.tup ds) s = Tgs.put l ds s := (rfl)
@[simp] theorem putT_nil (s : SE) : Tgs.put .nil [] s = some s := (rfl)
@[simp] theorem putT_cons (g : Tg) (r : Tgs) (d : D) (ds : List D) (s : SE) : Tgs.put (.cons g r) (d :: ds) s = (g.put d s).bind fun s1 => r.put ds s1 := (rfl)
/-! several except clauses -/
def contO (o : O) (r : SE → O) : O := match o with
  | .nx s => r s
  | o => o
@[simp] theorem contO_nx (s : SE) (r : SE → O) : contO (.nx s) r = r s := (rfl)
@[simp] theorem contO_rt (b : Bool) (d : D) (r : SE → O) : contO (.rt b d) r = .rt b d := (rfl)
@[simp] theorem contO_ex (k : Str) (fs : List (Str × D)) (s : SE) (r : SE → O) : contO (.ex k fs s) r = .ex k fs s := (rfl)
def tryO (o : O) (h : Str → List (Str × D) → SE → O) (r : SE → O) : O := match o with
  | .ex k fs s => contO (h k fs s) r
  | o => contO o r
@[simp] theorem tryO_nx (s : SE) (h : Str → List (Str × D) → SE → O) (r : SE → O) : tryO (.nx s) h r = r s := (rfl)
@[simp] theorem tryO_rt (b : Bool) (d : D) (h : Str → List (Str × D) → SE → O) (r : SE → O) : tryO (.rt b d) h r = .rt b d := (rfl)
@[simp] theorem tryO_ex (k : Str) (fs : List (Str × D)) (s : SE) (h : Str → List (Str × D) → SE → O) (r : SE → O) : tryO (.ex k fs s) h r = contO (h k fs s) r := (rfl)
def nxO : O → O
  | .ex _ _ _ => .bad
  | o => o
@[simp] theorem nxO_nx (s : SE) : nxO (.nx s) = .nx s := (rfl)
@[simp] theorem nxO_rt (b : Bool) (d : D) : nxO (.rt b d) = .rt b d := (rfl)
def handB (o : Option Bool) (a b : O) : O := match o with
  | some true => a
  | some false => b
  | none => .bad
@[simp] theorem handB_t (a b : O) : handB (some true) a b = a := (rfl)
@[simp] theorem handB_f (a b : O) : handB (some false) a b = b := (rfl)
@[simp] theorem sHands_nil (c : Call) (k : Str) (fs : List (Str × D)) (s : SE) : sHands [] c k fs s = .ex k fs s := (rfl)
@[simp] theorem sHands_cons (m : Str → Option Bool) (su : SD) (r : List ((Str → Option Bool) × SD)) (c : Call) (k : Str) (fs : List (Str × D)) (s : SE) : sHands ((m, su) :: r) c k fs s = handB (m k) (nxO (su c s)) (sHands r c k fs s) := by
  show (match m k with | some true => noX' su c s | some false => sHands r c k fs s | none => .bad) = _
  cases m k with
  | none => rfl
  | some b =>
    cases b with
    | false => rfl
    | true =>
      show noX' su c s = nxO (su c s)
      unfold noX'
      cases su c s <;> rfl
@[simp] theorem sSeq_tryMany (b : SD) (hs : List ((Str → Option Bool) × SD)) (r : SD) (c : Call) (s : SE) : sSeq (sTryMany b hs) r c s = tryO (b c s) (sHands hs c) (r c) := by
  unfold sSeq sTryMany
  cases b c s with
  | ex k fs s1 => cases h : sHands hs c k fs s1 <;> simp [h, tryO, contO]
  | _ => rfl
@[simp] theorem sSeq_tryOnly (b : SD) (m : Str → Option Bool) (su : SD) (r : SD) (c : Call) (s : SE) : sSeq (sTryOnly b m su) r c s = tryO (b c s) (sHands [(m, su)] c) (r c) := by
  unfold sSeq sTryOnly
  cases b c s with
  | ex k fs s1 =>
    simp only [tryO_ex, sHands_cons, sHands_nil]
    cases h : m k with
    | none => rfl
    | some x =>
      cases x with
      | false => rfl
      | true =>
        simp only [handB_t]
        unfold noX'
        cases su c s1 <;> rfl
  | _ => rfl
@[simp] theorem fin_rt (b : Bool) (d : D) : fin false (.rt b d) = .ok (b, d) := (rfl)
@[simp] theorem fin_nx (s : SE) : fin false (.nx s) = .ok (false, .non) := (rfl)
@[simp] theorem fin_ex (i : Bool) (k : Str) (fs : List (Str × D)) (s : SE) : fin i (.ex k fs s) = .ex k fs := (rfl)
@[simp] theorem fin_bad (i : Bool) : fin i .bad = .bad := (rfl)
@[simp] theorem fin_ini (d : D) (s : SE) : fin true (.nx (some (.ow d) :: s)) = .ok (true, d) := (rfl)
/-! ### loops -/
/-- o is as Q wants it -/
structure Wp (Q : O → Prop) (o : O) : Prop where
  out : Q o
theorem Wp_eq (Q : O → Prop) (o : O) : Wp Q o = Q o := propext ⟨fun h => h.out, fun h => ⟨h⟩⟩
/-- what one turn of a loop's body gives -/
def Turn (Qn : SE → Prop) (Q : O → Prop) (J : SE → Prop) : O → Prop
  | .nx s => J s
  | .ct s => J s
  | .bk s => Qn s
  | o => Q o
section
variable {Qn : SE → Prop} {Q : O → Prop} {J : SE → Prop}
@[simp] theorem Turn_nx (s : SE) : Turn Qn Q J (.nx s) = J s := (rfl)
@[simp] theorem Turn_ct (s : SE) : Turn Qn Q J (.ct s) = J s := (rfl)
@[simp] theorem Turn_bk (s : SE) : Turn Qn Q J (.bk s) = Qn s := (rfl)
@[simp] theorem Turn_rt (b : Bool) (d : D) : Turn Qn Q J (.rt b d) = Q (.rt b d) := (rfl)
@[simp] theorem Turn_ex (k : Str) (fs : List (Str × D)) (s : SE) : Turn Qn Q J (.ex k fs s) = Q (.ex k fs s) := (rfl)
end
theorem forD_inv {Q : O → Prop} {c : Call} {g : Tg} {body : SD} (Qn : SE → Prop) (hq : ∀ s, Qn s → Q (.nx s)) : ∀ (ds : List D) (I : Nat → SE → Prop) (s : SE), I 0 s →
    (∀ i (h : i < ds.length) s, I i s → ∃ s1, g.put ds[i] s = some s1 ∧ Turn Qn Q (I (i + 1)) (body c s1)) → (∀ s, I ds.length s → Qn s) → Q (forD c g body ds s)
  | [], I, s, h0, _, he => hq _ (he s h0)
  | d :: r, I, s, h0, hs, he => by
    obtain ⟨s1, e1, ht⟩ := hs 0 (by simp) s h0
    have e1 : g.put d s = some s1 := e1
    have e0 : forD c g body (d :: r) s = (match body c s1 with
      | .nx s2 => forD c g body r s2
      | .ct s2 => forD c g body r s2
      | .bk s2 => .nx s2
      | o => o) := by
      show (match g.put d s with | none => O.bad | some s1 => _) = _
      rw [e1]
      all_goals (show (match body c s1 with | .nx s2 => forD c g body r s2 | .ct s2 => forD c g body r s2 | .bk s2 => .nx s2 | o => o) = _)
      all_goals (cases body c s1 <;> rfl)
    rw [e0]
    have ih := forD_inv Qn hq (c := c) (g := g) (body := body) r (fun i => I (i + 1))
    have go : ∀ s2, I 1 s2 → Q (forD c g body r s2) := fun s2 h2 => ih s2 h2 (fun i hi s hI => hs (i + 1) (by simpa using hi) s hI) (fun s h => he s (by simpa using h))
    revert ht
    cases body c s1 with
    | nx s2 => exact go s2
    | ct s2 => exact go s2
    | bk s2 => exact hq _
    | rt b d => exact id
    | ex k fs s2 => exact id
    | bad => exact id
theorem sSeq_of {a r : SD} {c : Call} {s : SE} {Q : O → Prop} (h : ∀ o, a c s = o → Q (match o with | .nx s' => r c s' | o => o)) : Q (sSeq a r c s) := h _ rfl
/-- for .. in ..: .. -/
theorem seq_for0 {Q : O → Prop} {c : Call} {g : Tg} {it : ID} {fz : List Nat} {body r : SD} {s : SE} (ds : List D) (hit : it c s = .ok ds) (I : Nat → SE → Prop) (h0 : I 0 (demote fz s))
    (hs : ∀ i (h : i < ds.length) s, I i s → ∃ s1, g.put ds[i] s = some s1 ∧ Turn (fun s => Q (r c s)) Q (I (i + 1)) (body c s1)) (he : ∀ s, I ds.length s → Q (r c s)) : Q (sSeq (sFor g it fz body) r c s) := by
  have e : sSeq (sFor g it fz body) r c s = (match forD c g body ds (demote fz s) with | .nx s' => r c s' | o => o) := by
    unfold sSeq sFor
    simp only [hit]
    all_goals (cases forD c g body ds (demote fz s) <;> rfl)
  rw [e]
  refine forD_inv (Q := fun o => Q (match o with | .nx s' => r c s' | o => o)) (fun s => Q (r c s)) (fun s h => h) ds I _ h0 (fun i hi s hI => ?_) he
  obtain ⟨s1, e1, ht⟩ := hs i hi s hI
  refine ⟨s1, e1, ?_⟩
  revert ht
  cases body c s1 <;> exact id
@[simp] theorem Wp_nx (Qn : SE → Prop) (Q : O → Prop) (J : SE → Prop) (s : SE) : Wp (Turn Qn Q J) (.nx s) = J s := Wp_eq _ _
@[simp] theorem Wp_ct (Qn : SE → Prop) (Q : O → Prop) (J : SE → Prop) (s : SE) : Wp (Turn Qn Q J) (.ct s) = J s := Wp_eq _ _
@[simp] theorem Wp_bk (Qn : SE → Prop) (Q : O → Prop) (J : SE → Prop) (s : SE) : Wp (Turn Qn Q J) (.bk s) = Qn s := Wp_eq _ _
@[simp] theorem Wp_rt (Qn : SE → Prop) (Q : O → Prop) (J : SE → Prop) (b : Bool) (d : D) : Wp (Turn Qn Q J) (.rt b d) = Wp Q (.rt b d) := by simp only [Wp_eq]; rfl
@[simp] theorem Wp_ex (Qn : SE → Prop) (Q : O → Prop) (J : SE → Prop) (k : Str) (fs : List (Str × D)) (s : SE) : Wp (Turn Qn Q J) (.ex k fs s) = Wp Q (.ex k fs s) := by simp only [Wp_eq]; rfl
/-- a def's end -/
def Fin (i : Bool) (r : R (Bool × D)) (o : O) : Prop := fin i o = r
@[simp] theorem Fin_rt (i : Bool) (r : R (Bool × D)) (b : Bool) (d : D) : Wp (Fin i r) (.rt b d) = (fin i (.rt b d) = r) := Wp_eq _ _
@[simp] theorem Fin_nx (i : Bool) (r : R (Bool × D)) (s : SE) : Wp (Fin i r) (.nx s) = (fin i (.nx s) = r) := Wp_eq _ _
@[simp] theorem Fin_ex (i : Bool) (r : R (Bool × D)) (k : Str) (fs : List (Str × D)) (s : SE) : Wp (Fin i r) (.ex k fs s) = (R.ex k fs = r) := Wp_eq _ _
theorem wpF {i : Bool} {r : R (Bool × D)} {o : O} (h : Wp (Fin i r) o) : fin i o = r := h.out
def FinE (i : Bool) {α : Type} (f : α → R (Bool × D)) (P : α → Prop) (o : O) : Prop := ∃ a, fin i o = f a ∧ P a
@[simp] theorem FinE_rt (i : Bool) {α : Type} (f : α → R (Bool × D)) (P : α → Prop) (b : Bool) (d : D) : Wp (FinE i f P) (.rt b d) = ∃ a, fin i (.rt b d) = f a ∧ P a := Wp_eq _ _
@[simp] theorem FinE_nx (i : Bool) {α : Type} (f : α → R (Bool × D)) (P : α → Prop) (s : SE) : Wp (FinE i f P) (.nx s) = ∃ a, fin i (.nx s) = f a ∧ P a := Wp_eq _ _
@[simp] theorem FinE_ex (i : Bool) {α : Type} (f : α → R (Bool × D)) (P : α → Prop) (k : Str) (fs : List (Str × D)) (s : SE) : Wp (FinE i f P) (.ex k fs s) = ∃ a, R.ex k fs = f a ∧ P a := Wp_eq _ _
theorem wpE {i : Bool} {α : Type} {f : α → R (Bool × D)} {P : α → Prop} {o : O} (h : Wp (FinE i f P) o) : ∃ a, fin i o = f a ∧ P a := h.out
theorem wpX {i : Bool} {α : Type} {f : α → R (Bool × D)} {o : O} (h : Wp (FinE i f fun _ => True) o) : ∃ a, fin i o = f a := by
  obtain ⟨a, h, _⟩ := h.out
  exact ⟨a, h⟩
theorem seq_for {Q : O → Prop} {c : Call} {g : Tg} {it : ID} {fz : List Nat} {body r : SD} {s : SE} (ds : List D) (hit : it c s = .ok ds) (I : Nat → SE → Prop) (h0 : I 0 (demote fz s))
    (hs : ∀ i (h : i < ds.length) s, I i s → ∃ s1, g.put ds[i] s = some s1 ∧ Wp (Turn (fun s => Wp Q (r c s)) Q (I (i + 1))) (body c s1)) (he : ∀ s, I ds.length s → Wp Q (r c s)) : Wp Q (sSeq (sFor g it fz body) r c s) := by
  simp only [Wp_eq] at hs he ⊢
  exact seq_for0 ds hit I h0 hs he
/-- for k in range(n) -/
theorem seq_range {Q : O → Prop} {c : Call} {k : Nat} {it : ID} {fz : List Nat} {body r : SD} {s : SE} (n : Nat) (hit : it c s = .ok (rangeD 0 n)) (I : Nat → SE → Prop) (h0 : I 0 (demote fz s))
    (hs : ∀ i < n, ∀ s, I i s → Wp (Turn (fun s => Wp Q (r c s)) Q (I (i + 1))) (body c (s.set k (some (.fr (.int (i : Int))))))) (he : ∀ s, I n s → Wp Q (r c s)) : Wp Q (sSeq (sFor (.nm k) it fz body) r c s) := by
  refine seq_for (rangeD 0 n) hit I h0 (fun i hi s hI => ⟨_, rfl, ?_⟩) (fun s h => he s (by simpa [rangeD] using h))
  have hi' : i < n := by simpa [rangeD] using hi
  have e : (rangeD 0 n)[i] = .int (i : Int) := by simp [rangeD]
  rw [e]
  exact hs i hi' s hI
/-- for k in range(a, b) -/
theorem seq_range2 {Q : O → Prop} {c : Call} {k : Nat} {it : ID} {fz : List Nat} {body r : SD} {s : SE} (lo : Int) (n : Nat) (hit : it c s = .ok (rangeD lo n)) (I : Nat → SE → Prop) (h0 : I 0 (demote fz s))
    (hs : ∀ i < n, ∀ s, I i s → Wp (Turn (fun s => Wp Q (r c s)) Q (I (i + 1))) (body c (s.set k (some (.fr (.int (lo + (i : Int)))))))) (he : ∀ s, I n s → Wp Q (r c s)) : Wp Q (sSeq (sFor (.nm k) it fz body) r c s) := by
  refine seq_for (rangeD lo n) hit I h0 (fun i hi s hI => ⟨_, rfl, ?_⟩) (fun s h => he s (by simpa [rangeD] using h))
  have hi' : i < n := by simpa [rangeD] using hi
  have e : (rangeD lo n)[i] = .int (lo + (i : Int)) := by simp [rangeD]
  rw [e]
  exact hs i hi' s hI
/-- for x in [f x, ..] -/
theorem seq_map {α : Type} {Q : O → Prop} {c : Call} {g : Tg} {it : ID} {fz : List Nat} {body r : SD} {s : SE} (f : α → D) (xs : List α) (hit : it c s = .ok (xs.map f)) (I : Nat → SE → Prop) (h0 : I 0 (demote fz s))
    (hs : ∀ i (h : i < xs.length) s, I i s → ∃ s1, g.put (f xs[i]) s = some s1 ∧ Wp (Turn (fun s => Wp Q (r c s)) Q (I (i + 1))) (body c s1)) (he : ∀ s, I xs.length s → Wp Q (r c s)) : Wp Q (sSeq (sFor g it fz body) r c s) := by
  refine seq_for (xs.map f) hit I h0 (fun i hi s hI => ?_) (fun s h => he s (by simpa using h))
  have hi' : i < xs.length := by simpa using hi
  rw [List.getElem_map]
  exact hs i hi' s hI
/-- for x in ..: f(x), where f may raise -/
theorem seq_each {α : Type} {Q : O → Prop} {c : Call} {g : Tg} {it : ID} {fz : List Nat} {body r : SD} {s : SE} (f : α → D) (xs : List α) (bad : α → Prop) (E : Str) (hit : it c s = .ok (xs.map f)) (I : SE → Prop) (h0 : I (demote fz s))
    (hs : ∀ x ∈ xs, ∀ s, I s → ∃ s1, g.put (f x) s = some s1 ∧ ((bad x ∧ ∃ s2, body c s1 = .ex E [] s2) ∨ (¬ bad x ∧ ∃ s2, body c s1 = .nx s2 ∧ I s2)))
    (e1 : (∃ x ∈ xs, bad x) → ∀ s, Wp Q (.ex E [] s)) (e2 : (∀ x ∈ xs, ¬ bad x) → ∀ s, I s → Wp Q (r c s)) : Wp Q (sSeq (sFor g it fz body) r c s) := by
  refine seq_map f xs hit (fun i s => I s ∧ ∀ j (h : j < xs.length), j < i → ¬ bad xs[j]) ⟨h0, fun _ _ h => absurd h (by omega)⟩ ?_ ?_
  · rintro i hi s ⟨h1, h2⟩
    obtain ⟨s1, p1, h3⟩ := hs _ (List.getElem_mem hi) s h1
    refine ⟨s1, p1, ?_⟩
    rcases h3 with ⟨hb, s2, h4⟩ | ⟨hb, s2, h4, h5⟩
    · rw [h4, Wp_ex]
      exact e1 ⟨_, List.getElem_mem hi, hb⟩ _
    · rw [h4, Wp_nx]
      refine ⟨h5, fun j h hj => ?_⟩
      rcases Nat.lt_succ_iff_lt_or_eq.mp hj with h6 | h6
      · exact h2 j h h6
      · subst h6; exact hb
  · rintro s ⟨h1, h2⟩
    refine e2 (fun x hx => ?_) s h1
    obtain ⟨i, hi, rfl⟩ := List.getElem_of_mem hx
    exact h2 i hi hi
/-- for x in ..: if bad(x): return d -/
theorem seq_eachR {α : Type} {Q : O → Prop} {c : Call} {g : Tg} {it : ID} {fz : List Nat} {body r : SD} {s : SE} (f : α → D) (xs : List α) (bad : α → Prop) (d : D) (hit : it c s = .ok (xs.map f)) (I : SE → Prop) (h0 : I (demote fz s))
    (hs : ∀ x ∈ xs, ∀ s, I s → ∃ s1, g.put (f x) s = some s1 ∧ ((bad x ∧ body c s1 = .rt false d) ∨ (¬ bad x ∧ ∃ s2, body c s1 = .nx s2 ∧ I s2)))
    (e1 : (∃ x ∈ xs, bad x) → Wp Q (.rt false d)) (e2 : (∀ x ∈ xs, ¬ bad x) → ∀ s, I s → Wp Q (r c s)) : Wp Q (sSeq (sFor g it fz body) r c s) := by
  refine seq_map f xs hit (fun i s => I s ∧ ∀ j (h : j < xs.length), j < i → ¬ bad xs[j]) ⟨h0, fun _ _ h => absurd h (by omega)⟩ ?_ ?_
  · rintro i hi s ⟨h1, h2⟩
    obtain ⟨s1, p1, h3⟩ := hs _ (List.getElem_mem hi) s h1
    refine ⟨s1, p1, ?_⟩
    rcases h3 with ⟨hb, h4⟩ | ⟨hb, s2, h4, h5⟩
    · rw [h4, Wp_rt]
      exact e1 ⟨_, List.getElem_mem hi, hb⟩
    · rw [h4, Wp_nx]
      refine ⟨h5, fun j h hj => ?_⟩
      rcases Nat.lt_succ_iff_lt_or_eq.mp hj with h6 | h6
      · exact h2 j h h6
      · subst h6; exact hb
  · rintro s ⟨h1, h2⟩
    refine e2 (fun x hx => ?_) s h1
    obtain ⟨i, hi, rfl⟩ := List.getElem_of_mem hx
    exact h2 i hi hi
/-- a part, and what holds behind it -/
def Mid (Q : O → Prop) (J : SE → Prop) : O → Prop
  | .nx s => J s
  | o => Q o
section
variable (Q : O → Prop) (J : SE → Prop)
@[simp] theorem Mid_nx (s : SE) : Wp (Mid Q J) (.nx s) = J s := Wp_eq _ _
@[simp] theorem Mid_ct (s : SE) : Wp (Mid Q J) (.ct s) = Wp Q (.ct s) := by simp only [Wp_eq]; rfl
@[simp] theorem Mid_bk (s : SE) : Wp (Mid Q J) (.bk s) = Wp Q (.bk s) := by simp only [Wp_eq]; rfl
@[simp] theorem Mid_rt (b : Bool) (d : D) : Wp (Mid Q J) (.rt b d) = Wp Q (.rt b d) := by simp only [Wp_eq]; rfl
@[simp] theorem Mid_ex (k : Str) (fs : List (Str × D)) (s : SE) : Wp (Mid Q J) (.ex k fs s) = Wp Q (.ex k fs s) := by simp only [Wp_eq]; rfl
end
theorem seq_mid {Q : O → Prop} {a r : SD} {c : Call} {s : SE} (J : SE → Prop) (h1 : Wp (Mid Q J) (a c s)) (h2 : ∀ s, J s → Wp Q (r c s)) : Wp Q (sSeq a r c s) := by
  refine ⟨?_⟩
  show Q (match a c s with | .nx s' => r c s' | o => o)
  have h1 := h1.out
  revert h1
  cases a c s with
  | nx s1 => exact fun h => (h2 s1 h).out
  | _ => exact id
@[simp] theorem sIf_ev (t : BD) (a b : SD) (c : Call) (s : SE) : sIf t a b c s = RO (t c s) s fun x => if x = true then a c s else b c s := by
  unfold sIf
  cases t c s <;> rfl
/-! ### comprehensions -/
theorem lcD_eq {α : Type} {c : Call} {g : Tg} {t : BD} {el : LD} {s : SE} (f : α → D) (t' : α → Bool) (e' : α → D) : ∀ (xs : List α),
    (∀ x ∈ xs, ∃ s1, g.put (f x) s = some s1 ∧ t c s1 = .ok (t' x) ∧ (t' x = true → el c s1 = .ok (e' x))) → lcD c g t el s (xs.map f) = .ok ((xs.filter t').map e')
  | [], _ => rfl
  | x :: r, h => by
    obtain ⟨s1, e1, e2, e3⟩ := h x (by simp)
    have ih := lcD_eq (c := c) (g := g) (t := t) (el := el) (s := s) f t' e' r (fun y hy => h y (by simp [hy]))
    rw [List.map_cons]
    unfold lcD
    rw [e1]
    show ((noX (t c s1)).bind fun b => _) = _
    rw [e2, noX_ok, R.bind_ok]
    cases ht : t' x with
    | true => simp [e3 ht, ih, ht]
    | false => simp [ih, ht]
theorem eLc_eq {α : Type} {c : Call} {g : Tg} {it : ID} {t : BD} {el : LD} {s : SE} {own : List Nat} (f : α → D) (xs : List α) (t' : α → Bool) (e' : α → D) (hit : it c s = .ok (xs.map f)) (hl : xs.length ≤ LIM)
    (h : ∀ x ∈ xs, ∃ s1, g.put (f x) (wipeS own s) = some s1 ∧ t c s1 = .ok (t' x) ∧ (t' x = true → el c s1 = .ok (e' x))) : eLc g it t el own c s = .ok (true, .lst ((xs.filter t').map e')) := by
  unfold eLc
  rw [hit, R.bind_ok, if_pos (by simpa using hl), lcD_eq f t' e' xs h]
  rfl
/-- [.. for k in range(n) if ..] -/
theorem eLc_range {c : Call} {k : Nat} {it : ID} {t : BD} {el : LD} {s : SE} {own : List Nat} (n : Nat) (t' : Nat → Bool) (e' : Nat → D) (hit : it c s = .ok (rangeD 0 n)) (hl : n ≤ LIM)
    (h : ∀ i < n, t c ((wipeS own s).set k (some (.fr (.int (i : Int))))) = .ok (t' i) ∧ (t' i = true → el c ((wipeS own s).set k (some (.fr (.int (i : Int))))) = .ok (e' i))) :
    eLc (.nm k) it t el own c s = .ok (true, .lst (((List.range n).filter t').map e')) := by
  refine eLc_eq (fun i : Nat => .int (i : Int)) (List.range n) t' e' ?_ (by simpa using hl) (fun i hi => ⟨_, rfl, h i (by simpa using hi)⟩)
  rw [hit]
  simp [rangeD]
theorem lc2D_eq {α β : Type} {c : Call} {g g1 : Tg} {t t1 : BD} {it1 : ID} {el : LD} {vs1 : List Nat} {s : SE} (f : α → D) (t' : α → Bool) (f1 : β → D) (xs1 : α → List β) (t1' : α → β → Bool) (e' : α → β → D) : ∀ (xs : List α),
    (∀ x ∈ xs, ∃ s1, g.put (f x) s = some s1 ∧ t c s1 = .ok (t' x) ∧ (t' x = true → it1 c s1 = .ok ((xs1 x).map f1) ∧ ∀ y ∈ xs1 x, ∃ s2, g1.put (f1 y) (wipeS vs1 s1) = some s2 ∧ t1 c s2 = .ok (t1' x y) ∧ (t1' x y = true → el c s2 = .ok (e' x y)))) →
    lc2D c g t it1 g1 t1 el vs1 s (xs.map f) = .ok ((xs.filter t').flatMap fun x => ((xs1 x).filter (t1' x)).map (e' x))
  | [], _ => rfl
  | x :: r, h => by
    obtain ⟨s1, e1, e2, e3⟩ := h x (by simp)
    have ih := lc2D_eq (c := c) (g := g) (g1 := g1) (t := t) (t1 := t1) (it1 := it1) (el := el) (vs1 := vs1) (s := s) f t' f1 xs1 t1' e' r (fun y hy => h y (by simp [hy]))
    rw [List.map_cons]
    unfold lc2D
    rw [e1]
    show ((noX (t c s1)).bind fun b => _) = _
    rw [e2, noX_ok, R.bind_ok]
    cases ht : t' x with
    | true =>
      obtain ⟨e4, e5⟩ := e3 ht
      simp [e4, lcD_eq f1 (t1' x) (e' x) (xs1 x) e5, ih, ht]
    | false => simp [ih, ht]
theorem eLc2_eq {α β : Type} {c : Call} {g g1 : Tg} {t t1 : BD} {it it1 : ID} {el : LD} {own vs1 : List Nat} {s : SE} (f : α → D) (xs : List α) (t' : α → Bool) (f1 : β → D) (xs1 : α → List β) (t1' : α → β → Bool) (e' : α → β → D) (hit : it c s = .ok (xs.map f))
    (h : ∀ x ∈ xs, ∃ s1, g.put (f x) (wipeS own s) = some s1 ∧ t c s1 = .ok (t' x) ∧ (t' x = true → it1 c s1 = .ok ((xs1 x).map f1) ∧ ∀ y ∈ xs1 x, ∃ s2, g1.put (f1 y) (wipeS vs1 s1) = some s2 ∧ t1 c s2 = .ok (t1' x y) ∧ (t1' x y = true → el c s2 = .ok (e' x y))))
    (hl : ((xs.filter t').flatMap fun x => ((xs1 x).filter (t1' x)).map (e' x)).length ≤ LIM) : eLc2 g it t g1 it1 t1 el own vs1 c s = .ok (true, .lst ((xs.filter t').flatMap fun x => ((xs1 x).filter (t1' x)).map (e' x))) := by
  unfold eLc2
  rw [hit, R.bind_ok, lc2D_eq f t' f1 xs1 t1' e' xs h, R.bind_ok, if_pos hl]
@[simp] theorem slotF_of (b : Bool) (d : D) (s : SE) : slotF (some (Sl.of b d) :: s) 0 = .ok d := by cases b <;> rfl
@[simp] theorem retV_of (b : Bool) (d : D) (s : SE) : retV (some (Sl.of b d) :: s) 0 = .rt b d := by cases b <;> rfl
@[simp] theorem keepSl_of (b : Bool) (d : D) : keepSl (some (Sl.of b d)) = some (.fr d) := by cases b <;> rfl
theorem rangeD0 (n : Nat) : rangeD 0 n = (List.range n).map fun i : Nat => .int (i : Int) := by simp [rangeD]
end DN
/-! Pl1: operators on encoded data. -/
namespace DN
open PySem
theorem LIM_eq : LIM = 16000000 := rfl
/-! ### places -/
theorem ixN_nat {n j : Nat} (h : j < n) : L2.ixN n (j : Int) = some j := by
  unfold L2.ixN
  rw [if_pos (by omega), if_pos (by omega)]
  simp
theorem ixN_of {n : Nat} {i : Int} (h0 : 0 ≤ i) (h : i < n) : L2.ixN n i = some i.toNat := by
  unfold L2.ixN
  rw [if_pos h0, if_pos h]
theorem ixN_neg {n : Nat} {i : Int} (h0 : i < 0) (h : -(n : Int) ≤ i) : L2.ixN n i = some (i + n).toNat := by
  unfold L2.ixN
  rw [if_neg (by omega), if_pos h]
section
variable {α : Type} (f : α → D) (x : List α)
theorem dIx_tup_i {i : Int} {j : Nat} {l : List D} {d : D} (h : L2.ixN l.length i = some j) (e : l[j]? = some d) : dIx (.tup l) (.int i) = some (false, d) := by
  show (match L2.ixN l.length i with | some j => _ | none => _) = _
  simp only [h, e]
theorem dIx_lst_i {i : Int} {j : Nat} {l : List D} {d : D} (h : L2.ixN l.length i = some j) (e : l[j]? = some d) : dIx (.lst l) (.int i) = some (false, d) := by
  show (match L2.ixN l.length i with | some j => _ | none => _) = _
  simp only [h, e]
theorem dIx_scr_i {i : Int} {j : Nat} {l : List Int} {d : Int} (h : L2.ixN l.length i = some j) (e : l[j]? = some d) : dIx (.scr l) (.int i) = some (false, .int d) := by
  show (match L2.ixN l.length i with | some j => _ | none => _) = _
  simp only [h, e]
theorem dIx_tup_map {j : Nat} (h : j < x.length) : dIx (.tup (x.map f)) (.int (j : Int)) = some (false, f x[j]) := dIx_tup_i (ixN_nat (by simpa using h)) (by simp [h])
theorem dIx_lst_map {j : Nat} (h : j < x.length) : dIx (.lst (x.map f)) (.int (j : Int)) = some (false, f x[j]) := dIx_lst_i (ixN_nat (by simpa using h)) (by simp [h])
theorem dIx_tup_get {j : Nat} (z : α) (h : j < x.length) : dIx (.tup (x.map f)) (.int (j : Int)) = some (false, f (x[j]?.getD z)) := by rw [dIx_tup_map f x h]; simp [h]
theorem dIx_lst_get {j : Nat} (z : α) (h : j < x.length) : dIx (.lst (x.map f)) (.int (j : Int)) = some (false, f (x[j]?.getD z)) := by rw [dIx_lst_map f x h]; simp [h]
end
/-- x[j] of ints -/
theorem dIx_tI {x : List Int} {j : Nat} (h : j < x.length) : dIx (.tup (x.map .int)) (.int (j : Int)) = some (false, .int (x[j]?.getD 0)) := dIx_tup_get _ x 0 h
theorem dIx_lI {x : List Int} {j : Nat} (h : j < x.length) : dIx (.lst (x.map .int)) (.int (j : Int)) = some (false, .int (x[j]?.getD 0)) := dIx_lst_get _ x 0 h
@[simp] theorem filtT {α : Type} (l : List α) : l.filter (fun _ => true) = l := List.filter_eq_self.mpr fun _ _ => rfl
theorem nil_or_snoc {α : Type} (l : List α) : l = [] ∨ ∃ r a, l = r ++ [a] := by
  rcases List.eq_nil_or_concat l with h | ⟨r, a, h⟩
  · exact .inl h
  · exact .inr ⟨r, a, by rw [h, List.concat_eq_append]⟩
/-! ### ranges -/
theorem kRange_nat {n : Nat} (h : n ≤ 1000000) : kRange [.int (n : Int)] = some (rangeD 0 n) := by
  rw [kRange1, if_pos ⟨by omega, by omega⟩, Int.toNat_natCast]
theorem kRange_int {i : Int} (h : i ≤ 1000000) (h0 : -1000000 ≤ i) : kRange [.int i] = some (rangeD 0 i.toNat) := by
  rw [kRange1, if_pos ⟨by omega, by omega⟩]
theorem kRange_two {i j : Int} (h : i ≤ 1000000) (h0 : -1000000 ≤ i) (h1 : j ≤ 1000000) (h2 : -1000000 ≤ j) : kRange [.int i, .int j] = some (rangeD i (j - i).toNat) := by
  rw [kRange2, if_pos ⟨by omega, by omega, by omega, by omega⟩]
/-! ### cuts -/
theorem cutD_to {l : List D} {j : Nat} : cutD l none (some (j : Int)) = l.take j := by
  unfold cutD
  rw [HT.sIx_none, HT.sIx_nat, List.drop_zero, Nat.sub_zero]
  by_cases h : j ≤ l.length
  · rw [Nat.min_eq_left h]
  · rw [Nat.min_eq_right (by omega), List.take_of_length_le (Nat.le_refl _), List.take_of_length_le (by omega)]
theorem cutD_from {l : List D} {j : Nat} : cutD l (some (j : Int)) none = l.drop j := by
  unfold cutD
  rw [HT.sIx_nat, HT.sIx_none]
  by_cases h : j ≤ l.length
  · rw [Nat.min_eq_left h, List.take_of_length_le (by rw [List.length_drop]; omega)]
  · rw [Nat.min_eq_right (by omega)]; simp; omega
theorem cutD_from1 {l : List D} {j : Nat} : cutD l (some ((j : Int) + 1)) none = l.drop (j + 1) := cutD_from (j := j + 1)
/-! ### equality -/
theorem pys_map_int : ∀ x : List Int, D.pys (x.map .int) = some (x.map PyData.int)
  | [] => rfl
  | a :: r => by
    have e : D.py (.int a) = some (.int a) := by unfold D.py; rfl
    rw [List.map_cons]
    unfold D.pys
    simp only [e, pys_map_int r]
    rfl
theorem py_int (i : Int) : D.py (.int i) = some (.int i) := by unfold D.py; rfl
theorem py_bl (i : Bool) : D.py (.bl i) = some (.bool i) := by unfold D.py; rfl
theorem py_str (i : Str) : D.py (.str i) = some (.str i) := by unfold D.py; rfl
theorem py_non : D.py .non = some .none := by unfold D.py; rfl
theorem py_tI (x : List Int) : D.py (.tup (x.map .int)) = some (.tuple (x.map .int)) := by
  unfold D.py
  rw [pys_map_int]
  rfl
theorem pys_map {α : Type} (f : α → D) (g : α → PyData) (h : ∀ a, D.py (f a) = some (g a)) : ∀ x : List α, D.pys (x.map f) = some (x.map g)
  | [] => rfl
  | a :: r => by
    rw [List.map_cons]
    unfold D.pys
    simp only [h, pys_map f g h r]
    rfl
theorem py_tI_map (l : List (List Int)) : D.pys (l.map fun x => .tup (x.map .int)) = some (l.map fun x => .tuple (x.map .int)) := pys_map _ _ py_tI l
theorem eqvAll_int : ∀ x y : List Int, PyData.eqvAll (x.map .int) (y.map .int) = decide (x = y)
  | [], [] => rfl
  | [], _ :: _ => rfl
  | _ :: _, [] => rfl
  | a :: r, b :: q => by
    show (PyData.eqv (.int a) (.int b) && PyData.eqvAll (r.map .int) (q.map .int)) = _
    rw [eqvAll_int r q]
    show ((a == b) && _) = _
    by_cases h : a = b
    · subst h; simp
    · simp [h]
theorem eqv_tI (x y : List Int) : PyData.eqv (.tuple (x.map .int)) (.tuple (y.map .int)) = decide (x = y) := eqvAll_int x y
theorem can_ints : ∀ x : List Int, PyData.canLayAll0 (x.map .int) = true
  | [] => rfl
  | a :: r => by
    show (PyData.canLay0 (.int a) && PyData.canLayAll0 (r.map .int)) = true
    rw [can_ints r]
    rfl
theorem depth_ints : ∀ x : List Int, PyData.depthAll (x.map .int) = 0
  | [] => rfl
  | a :: r => by
    show max (PyData.depth (.int a)) (PyData.depthAll (r.map .int)) = 0
    rw [depth_ints r]
    rfl
theorem sh_int (i : Int) : SeqAt.shaped (.int i) = true := rfl
theorem sh_bool (i : Bool) : SeqAt.shaped (.bool i) = true := rfl
theorem sh_none : SeqAt.shaped .none = true := rfl
theorem sh_tI (x : List Int) : SeqAt.shaped (.tuple (x.map .int)) = true := by
  unfold SeqAt.shaped
  show (PyData.canLayAll0 (x.map .int) && decide (PyData.depthAll (x.map .int) + 1 ≤ 64)) = true
  rw [can_ints, depth_ints]
  rfl
theorem can_map {α : Type} (g : α → PyData) (h : ∀ a, (g a).canLay0 = true) : ∀ x : List α, PyData.canLayAll0 (x.map g) = true
  | [] => rfl
  | a :: r => by
    show (PyData.canLay0 (g a) && PyData.canLayAll0 (r.map g)) = true
    rw [h, can_map g h r]
    rfl
theorem depth_map {α : Type} (g : α → PyData) (k : Nat) (h : ∀ a, (g a).depth ≤ k) : ∀ x : List α, PyData.depthAll (x.map g) ≤ k
  | [] => Nat.zero_le _
  | a :: r => by
    show max (PyData.depth (g a)) (PyData.depthAll (r.map g)) ≤ k
    exact Nat.max_le.mpr ⟨h a, depth_map g k h r⟩
theorem can_tI (x : List Int) : PyData.canLay0 (.tuple (x.map .int)) = true := can_ints x
theorem depth_tI (x : List Int) : PyData.depth (.tuple (x.map .int)) = 1 := by
  show PyData.depthAll (x.map .int) + 1 = 1
  rw [depth_ints]
theorem sh_of {p : PyData} (h1 : p.canLay0 = true) (h2 : p.depth ≤ 64) : SeqAt.shaped p = true := by
  unfold SeqAt.shaped
  rw [h1]
  simpa using h2
theorem sh_list_map {α : Type} (g : α → PyData) (h : ∀ a, (g a).canLay0 = true) (h2 : ∀ a, (g a).depth ≤ 63) (x : List α) : SeqAt.shaped (.list (x.map g)) = true := by
  refine sh_of (can_map g h x) ?_
  show PyData.depthAll (x.map g) + 1 ≤ 64
  have := depth_map g 63 h2 x
  omega
theorem sh_tuple_map {α : Type} (g : α → PyData) (h : ∀ a, (g a).canLay0 = true) (h2 : ∀ a, (g a).depth ≤ 63) (x : List α) : SeqAt.shaped (.tuple (x.map g)) = true := by
  refine sh_of (can_map g h x) ?_
  show PyData.depthAll (x.map g) + 1 ≤ 64
  have := depth_map g 63 h2 x
  omega
theorem dEq_int (i j : Int) : dEq (.int i) (.int j) = some (false, .bl (decide (i = j))) := by
  unfold dEq
  simp only [py_int]
  rw [if_pos ⟨rfl, rfl⟩]
  show some (false, D.bl (i == j)) = _
  congr
theorem dNe_int (i j : Int) : dNe (.int i) (.int j) = some (false, .bl (decide (i ≠ j))) := by
  unfold dNe
  simp only [py_int]
  rw [if_pos ⟨rfl, rfl⟩]
  show some (false, D.bl (!(i == j))) = _
  by_cases h : i = j <;> simp [h]
theorem dEq_bl (i j : Bool) : dEq (.bl i) (.bl j) = some (false, .bl (i == j)) := by
  unfold dEq
  simp only [py_bl]
  rw [if_pos ⟨rfl, rfl⟩]
  rfl
theorem dEq_str {i j : Str} (hi : PyData.canLay0 (.str i) = true) (hj : PyData.canLay0 (.str j) = true) : dEq (.str i) (.str j) = some (false, .bl (i == j)) := by
  unfold dEq
  simp only [py_str]
  rw [if_pos ⟨sh_of hi (by simp [PyData.depth]), sh_of hj (by simp [PyData.depth])⟩]
  rfl
theorem dEq_tI (x y : List Int) : dEq (.tup (x.map .int)) (.tup (y.map .int)) = some (false, .bl (decide (x = y))) := by
  unfold dEq
  simp only [py_tI]
  rw [if_pos ⟨sh_tI _, sh_tI _⟩, eqv_tI]
theorem dNe_tI (x y : List Int) : dNe (.tup (x.map .int)) (.tup (y.map .int)) = some (false, .bl (decide (x ≠ y))) := by
  unfold dNe
  simp only [py_tI]
  rw [if_pos ⟨sh_tI _, sh_tI _⟩, eqv_tI]
  by_cases h : x = y <;> simp [h]
theorem dIn_tI (x : List Int) (l : List (List Int)) : dIn (.tup (x.map .int)) (.lst (l.map fun x => .tup (x.map .int))) = some (false, .bl (l.contains x)) := by
  show (match D.py (.tup (x.map .int)) with | some p => _ | none => _) = _
  rw [py_tI]
  show (match D.pys (l.map fun x => .tup (x.map .int)) with | some p => _ | none => _) = _
  rw [py_tI_map]
  show (if _ then _ else _) = _
  rw [if_pos ⟨sh_tI _, sh_list_map _ can_tI (fun a => by rw [depth_tI]; omega) l⟩]
  congr 3
  induction l with
  | nil => rfl
  | cons a r ih =>
    rw [List.map_cons, List.any_cons, ih, eqv_tI, List.contains_cons]
    by_cases h : a = x
    · subst h; simp
    · have : ¬ x = a := fun e => h e.symm
      simp [h, this]
theorem dNotIn_tI (x : List Int) (l : List (List Int)) : dNotIn (.tup (x.map .int)) (.lst (l.map fun x => .tup (x.map .int))) = some (false, .bl (!l.contains x)) := by
  have h := dIn_tI x l
  revert h
  show (match D.py (.tup (x.map .int)) with | some p => _ | none => _) = _ → (match D.py (.tup (x.map .int)) with | some p => _ | none => _) = _
  rw [py_tI]
  show (match D.pys (l.map fun x => .tup (x.map .int)) with | some p => _ | none => _) = _ → (match D.pys (l.map fun x => .tup (x.map .int)) with | some p => _ | none => _) = _
  rw [py_tI_map]
  show (if _ then _ else _) = _ → (if _ then _ else _) = _
  intro h
  by_cases c : SeqAt.shaped (.tuple (x.map .int)) = true ∧ SeqAt.shaped (.list (l.map fun x => .tuple (x.map .int))) = true
  · rw [if_pos c] at h ⊢
    have e : (l.map fun x => PyData.tuple (x.map .int)).any (fun z => PyData.eqv z (.tuple (x.map .int))) = l.contains x := by
      have h := Option.some.inj h
      have h := (Prod.mk.inj h).2
      exact D.bl.inj h
    rw [e]
  · rw [if_neg c] at h; cases h
/-! ### sums -/
theorem intsD_map : ∀ x : List Int, D.ints (x.map .int) = some x
  | [] => rfl
  | a :: r => by
    show (match D.ints (r.map .int) with | some q => some (a :: q) | none => none) = _
    rw [intsD_map r]
theorem kSum_tI (x : List Int) : kSum [.tup (x.map .int)] = some (false, .int x.sum) := by
  show (match D.ints (x.map .int) with | some ns => some (false, D.int ns.sum) | none => none) = _
  rw [intsD_map]
theorem kSum_lI (x : List Int) : kSum [.lst (x.map .int)] = some (false, .int x.sum) := by
  show (match D.ints (x.map .int) with | some ns => some (false, D.int ns.sum) | none => none) = _
  rw [intsD_map]
/-! ### dicts with tuple keys -/
theorem keysOf_ints : ∀ x : List Int, keysOf (x.map .int) = some (x.map Sum.inl)
  | [] => rfl
  | a :: r => by
    have e : keyOf (.int a) = some (.inl a) := rfl
    rw [List.map_cons]
    unfold keysOf
    simp only [e, keysOf_ints r]
    rfl
theorem tkey_tI (x : List Int) : tkeyOf (.tup (x.map .int)) = some (x.map Sum.inl) := keysOf_ints x
theorem inl_inj : ∀ x y : List Int, (x.map (Sum.inl : Int → L2.Key)) = y.map Sum.inl → x = y
  | [], [], _ => rfl
  | [], _ :: _, h => by cases h
  | _ :: _, [], h => by cases h
  | a :: r, b :: q, h => by
    have h1 := (List.cons.inj h).1
    have h2 := (List.cons.inj h).2
    rw [Sum.inl.inj h1, inl_inj r q h2]
end DN
/-! Pl2: texts. -/
namespace DN
open PySem
open SX (S)
theorem kLen_S {a : List Nat} (h : a.length ≤ LIM) : kLen [.str (S a)] = some (false, .int a.length) := by
  rw [kLen_str, SX.S_len, if_pos h]
theorem dAdd_S {a b : List Nat} (h : a.length + b.length ≤ LIM) : dAdd (.str (S a)) (.str (S b)) = some (false, .str (S (a ++ b))) := by
  rw [dAdd_str, SX.S_len, SX.S_len, if_pos h, SX.S_cat]
theorem dIx_S {a : List Nat} {j : Nat} (h : j < a.length) (hl : a.length ≤ LIM) : dIx (.str (S a)) (.int (j : Int)) = some (false, .str (S [a[j]?.getD 0])) := by
  show (if (S a).length ≤ LIM then (match L2.ixN (S a).cps.toList.length (j : Int) with | some j => (match (S a).cps.toList[j]? with | some c => some (false, D.str ⟨#[c]⟩) | none => none) | none => none) else none) = _
  rw [SX.S_len, if_pos hl]
  have e : (S a).cps.toList = a := rfl
  rw [e, ixN_nat h]
  simp [h]
theorem cutS_to {a : List Nat} {j : Nat} : L2.cutS (S a) none (some (j : Int)) = S (a.take j) := by
  rw [C8.cutS_slice, SX.slice_to (by omega), Int.toNat_natCast]
theorem cutS_from {a : List Nat} {j : Nat} : L2.cutS (S a) (some (j : Int)) none = S (a.drop j) := by
  rw [C8.cutS_slice, SX.slice_from (by omega), Int.toNat_natCast]
theorem dCut_S_to {a : List Nat} {j : Nat} (hl : a.length ≤ LIM) : dCut (.str (S a)) none (some (j : Int)) = some (false, .str (S (a.take j))) := by
  rw [dCut_str, SX.S_len, if_pos hl, cutS_to]
theorem dCut_S_from {a : List Nat} {j : Nat} (hl : a.length ≤ LIM) : dCut (.str (S a)) (some (j : Int)) none = some (false, .str (S (a.drop j))) := by
  rw [dCut_str, SX.S_len, if_pos hl, cutS_from]
theorem dCut_S_from1 {a : List Nat} {j : Nat} (hl : a.length ≤ LIM) : dCut (.str (S a)) (some ((j : Int) + 1)) none = some (false, .str (S (a.drop (j + 1)))) := dCut_S_from (j := j + 1) hl
theorem dIn_S1 (a : List Nat) (c : Nat) : dIn (.str (S [c])) (.str (S a)) = some (false, .bl (decide (c ∈ a))) := by
  show some (false, D.bl (!(Builtin.Str.occurrences (S a) (S [c]) 0 (S a).length 1).isEmpty)) = _
  rw [SX.in_one]
theorem dNotIn_S1 (a : List Nat) (c : Nat) : dNotIn (.str (S [c])) (.str (S a)) = some (false, .bl (!decide (c ∈ a))) := by
  show some (false, D.bl (!(!(Builtin.Str.occurrences (S a) (S [c]) 0 (S a).length 1).isEmpty))) = _
  rw [SX.in_one]
theorem items_S (a : List Nat) : items (.str (S a)) = some (a.map fun c => .str (S [c])) := rfl
theorem items0_S (a : List Nat) : items0 (.str (S a)) = some (a.map fun c => .str (S [c])) := rfl
open StrLaws in
theorem occ_count (a : List Nat) (c : Nat) : ∀ (m i : Nat) (st : Array Nat × Nat), i + m = a.length + 1 → st.2 ≤ i → st.1.size ≤ i →
    ((forIn (List.range' i m) st (occBody (S a) (S [c]) a.length (a.length + 1))).run.fst).size = st.1.size + (a.drop i).count c
  | 0, i, st, h, h1, h2 => by
    rw [List.range'_zero, List.drop_eq_nil_of_le (by omega)]
    rfl
  | m + 1, i, st, h, h1, h2 => by
    rw [List.range'_succ, List.forIn_cons]
    have hs : (i + (S [c]).length ≤ a.length ∧ Builtin.Str.subAt (S a) (S [c]) i = true) ↔ a[i]? = some c := by
      have := subAt_one (S a) c i
      rw [SX.S_len] at this
      exact this
    by_cases hc : a[i]? = some c
    · have hc' := hs.mpr hc
      have e : occBody (S a) (S [c]) a.length (a.length + 1) i st = pure (ForInStep.yield (st.1.push i, i + (S [c]).length)) := by
        unfold occBody
        rw [if_pos ⟨⟨⟨by omega, h1⟩, hc'.1⟩, hc'.2⟩]
      rw [e]
      have ih := occ_count a c m (i + 1) (st.1.push i, i + (S [c]).length) (by omega) (by simp [SX.S_len]) (by simp; omega)
      refine Eq.trans ih ?_
      obtain ⟨hlt, hv⟩ := List.getElem?_eq_some_iff.mp hc
      rw [Array.size_push, List.drop_eq_getElem_cons hlt, hv, List.count_cons_self]
      omega
    · have e : occBody (S a) (S [c]) a.length (a.length + 1) i st = pure (ForInStep.yield (st.1, st.2)) := by
        unfold occBody
        rw [if_neg (fun z => hc (hs.mp ⟨z.1.2, z.2⟩))]
      rw [e]
      have ih := occ_count a c m (i + 1) (st.1, st.2) (by omega) (by simp; omega) (by simp; omega)
      refine Eq.trans ih ?_
      by_cases hlt : i < a.length
      · rw [List.drop_eq_getElem_cons hlt, List.count_cons_of_ne]
        intro z
        exact hc (by rw [List.getElem?_eq_getElem hlt, z])
      · rw [List.drop_eq_nil_of_le (by omega), List.drop_eq_nil_of_le (by omega)]
theorem count_S1 (a : List Nat) (c : Nat) : Txt.count (S a) (S [c]) = (a.count c : Nat) := by
  show (((Builtin.Str.occurrences (S a) (S [c]) 0 (S a).length ((S a).length + 1)).length : Nat) : Int) = _
  rw [SX.S_len, StrLaws.occ_eq]
  have h := occ_count a c (a.length + 1) 0 (#[], 0) (by omega) (by simp) (by simp)
  rw [List.drop_zero] at h
  have e : (#[] : Array Nat).size = 0 := rfl
  rw [e, Nat.zero_add] at h
  rw [Nat.sub_zero, Array.length_toList, h]
theorem dCount_S1 (a : List Nat) (c : Nat) : dCount (.str (S a)) (.str (S [c])) = some (false, .int (a.count c : Nat)) := by
  show some (false, D.int (Txt.count (S a) (S [c]))) = _
  rw [count_S1]
def abc : List Nat := (List.range 26).map fun i => i + 97
theorem abc_eq : (Str.ofString "abcdefghijklmnopqrstuvwxyz") = S abc := by decide +kernel
theorem nil_eq : Str.ofString "" = S [] := by decide +kernel
end DN
/-! Pl3: loops that collect, texts, dicts with keys of any form. -/
namespace DN
open PySem
open SX (S)
/-- a loop that folds -/
theorem seq_fold {α β : Type} {Q : O → Prop} {c : Call} {g : Tg} {it : ID} {fz : List Nat} {body r : SD} {s : SE} (f : α → D) (xs : List α) (step : β → α → β) (b0 : β) (st : β → SE → Prop) (hit : it c s = .ok (xs.map f)) (h0 : st b0 (demote fz s))
    (hs : ∀ l x t, xs = l ++ x :: t → ∀ s, st (l.foldl step b0) s → ∃ s1, g.put (f x) s = some s1 ∧ Wp (Turn (fun s => Wp Q (r c s)) Q (st (step (l.foldl step b0) x))) (body c s1))
    (he : ∀ s, st (xs.foldl step b0) s → Wp Q (r c s)) : Wp Q (sSeq (sFor g it fz body) r c s) := by
  refine seq_map f xs hit (fun i s => st ((xs.take i).foldl step b0) s) (by simpa using h0) ?_ (fun s h => he s (by simpa using h))
  intro i hi s hI
  have e : xs = xs.take i ++ xs[i] :: xs.drop (i + 1) := by rw [← List.drop_eq_getElem_cons hi, List.take_append_drop]
  obtain ⟨s1, e1, h1⟩ := hs _ _ _ e s hI
  refine ⟨s1, e1, ?_⟩
  have e2 : (xs.take (i + 1)).foldl step b0 = step ((xs.take i).foldl step b0) xs[i] := by
    rw [List.take_succ, List.getElem?_eq_getElem hi, List.foldl_append]; rfl
  rw [e2]
  exact h1
theorem foldl_app {α β : Type} (g : α → List β) : ∀ (l : List α) (a : List β), l.foldl (fun a x => a ++ g x) a = a ++ l.flatMap g
  | [], a => by simp
  | x :: r, a => by rw [List.foldl_cons, foldl_app g r]; simp
/-- a loop that appends -/
theorem seq_acc {α β : Type} {Q : O → Prop} {c : Call} {g : Tg} {it : ID} {fz : List Nat} {body r : SD} {s : SE} (f : α → D) (xs : List α) (g' : α → List β) (acc0 : List β) (st : List β → SE → Prop) (hit : it c s = .ok (xs.map f)) (h0 : st acc0 (demote fz s))
    (hb : acc0.length + (xs.flatMap g').length ≤ LIM)
    (hs : ∀ x ∈ xs, ∀ acc s, st acc s → acc.length + (g' x).length ≤ LIM → ∃ s1, g.put (f x) s = some s1 ∧ Wp (Turn (fun s => Wp Q (r c s)) Q (st (acc ++ g' x))) (body c s1))
    (he : ∀ s, st (acc0 ++ xs.flatMap g') s → Wp Q (r c s)) : Wp Q (sSeq (sFor g it fz body) r c s) := by
  refine seq_fold f xs (fun a x => a ++ g' x) acc0 st hit h0 ?_ (fun s h => he s (by rwa [foldl_app] at h))
  intro l x t e s h
  refine hs x (by rw [e]; simp) _ s h ?_
  rw [foldl_app]
  rw [e] at hb
  simp at hb ⊢
  omega
theorem flatMap_if {α β : Type} (p : α → Bool) (e : α → β) : ∀ l : List α, (l.flatMap fun x => if p x = true then [e x] else []) = (l.filter p).map e
  | [] => rfl
  | a :: r => by
    rw [List.flatMap_cons, flatMap_if p e r]
    by_cases h : p a = true <;> simp [h]
theorem flat_single {α β : Type} (f : α → β) : ∀ l : List α, (l.flatMap fun c => [f c]) = l.map f
  | [] => rfl
  | a :: r => by rw [List.flatMap_cons, flat_single f r]; rfl
/-! ### one statement at a time -/
theorem ev_seq (a b : SC) : (SC.seq a b).ev = sSeq a.ev b.ev := by simp only [SC.ev]
theorem ev_asg (i : Nat) (e : EC) (fz : List Nat) : (SC.asg i e fz).ev = sAsg i e.ev fz := by simp only [SC.ev]
theorem ev_unp (g : Tg) (e : LC) (fz : List Nat) : (SC.unp g e fz).ev = sUnp g e.ev fz := by simp only [SC.ev]
theorem ev_drop (e : EC) : (SC.drop e).ev = sDrop e.ev := by simp only [SC.ev]
theorem ev_ret (e : EC) : (SC.ret e).ev = sRet e.ev := by simp only [SC.ev]
theorem ev_retv (i : Nat) : (SC.retv i).ev = sRetV i := by simp only [SC.ev]
theorem ev_nx : (SC.nx).ev = sNx := by simp only [SC.ev]
theorem ev_ife (t : BC) (a b : SC) : (SC.ife t a b).ev = sIf t.ev a.ev b.ev := by simp only [SC.ev]
theorem ev_bk  : (SC.bk).ev = sBk := by simp only [SC.ev]
theorem ev_ct  : (SC.ct).ev = sCt := by simp only [SC.ev]
theorem ev_raise (c : Str) : (SC.raise c).ev = sRaise c := by simp only [SC.ev]
theorem ev_forr (g : Tg) (e : IC) (fz : List Nat) (b : SC) : (SC.forr g e fz b).ev = sFor g e.ev fz b.ev := by simp only [SC.ev]
theorem ev_whil (t : BC) (b : SC) : (SC.whil t b).ev = sWhile t.ev b.ev := by simp only [SC.ev]
theorem ev_app (i : Nat) (l : LC) (fz : List Nat) : (SC.app i l fz).ev = sApp i l.ev fz := by simp only [SC.ev]
theorem ev_rev (i : Nat) : (SC.rev i).ev = sRev i := by simp only [SC.ev]
theorem ev_putIx (i : Nat) (j e : LC) (fz : List Nat) : (SC.putIx i j e fz).ev = sPutIx i (oSome j.ev) e.ev fz := by simp only [SC.ev]
theorem ev_putF (i : Nat) (f : Str) (cs : List Str) (e : LC) (fz : List Nat) : (SC.putF i f cs e fz).ev = sPutF i f (fun c => cs.contains c) e.ev fz := by simp only [SC.ev]
theorem ev_tryOnly (b : SC) (m : List (Str × Bool)) (s : SC) : (SC.tryOnly b m s).ev = sTryOnly b.ev (fun c => m.lookup c) s.ev := by simp only [SC.ev]
theorem ev_tryAs (b : SC) (i : Nat) (m : List (Str × Bool)) (s : SC) : (SC.tryAs b i m s).ev = sTryAs b.ev i (fun c => m.lookup c) s.ev := by simp only [SC.ev]
theorem ev_tryMany (b : SC) (h : HC) : (SC.tryMany b h).ev = sTryMany b.ev h.ev := by simp only [SC.ev]
/-! ### try: .. except X as e: .. -/
def asO (i : Nat) (k : Str) (fs : List (Str × D)) (su : SD) (c : Call) (s : SE) : O := if i < s.length then unset i (su c (s.set i (some (.bw (.obj k fs))))) else .bad
@[simp] theorem sSeq_tryAs (b : SD) (i : Nat) (m : Str → Option Bool) (su r : SD) (c : Call) (s : SE) : sSeq (sTryAs b i m su) r c s = tryO (b c s) (fun k fs s1 => handB (m k) (asO i k fs su c s1) (.ex k fs s1)) (r c) := by
  unfold sSeq sTryAs
  cases b c s with
  | ex k fs s1 =>
    simp only [tryO_ex]
    cases h : m k with
    | none => rfl
    | some x =>
      cases x with
      | false => rfl
      | true =>
        simp only [handB_t, asO]
        by_cases h : i < s1.length
        · simp only [if_pos h]
          cases unset i (su c (s1.set i (some (.bw (.obj k fs))))) <;> rfl
        · simp only [if_neg h]
          rfl
  | _ => rfl
theorem asO_eq {i : Nat} {k : Str} {fs : List (Str × D)} {su : SD} {c : Call} {s : SE} (h : i < s.length) : asO i k fs su c s = unset i (su c (s.set i (some (.bw (.obj k fs))))) := if_pos h
@[simp] theorem unset_rt (i : Nat) (b : Bool) (d : D) : unset i (.rt b d) = .rt b d := (rfl)
theorem unset_nx (i : Nat) (s : SE) : unset i (.nx s) = if (s.set i none).any Sl.isEr = true then .bad else .nx (s.set i none) := (rfl)
@[simp] theorem eIsE_cons (x : Option Sl) (s : SE) (i : Nat) (m : Str → Option Bool) (c : Call) : eIsE (i + 1) m c (x :: s) = eIsE i m c s := (rfl)
def isER : Option Bool → R (Bool × D)
  | some b => .ok (false, .bl b)
  | none => .bad
@[simp] theorem isER_some (b : Bool) : isER (some b) = .ok (false, .bl b) := (rfl)
@[simp] theorem eIsE_zero (k : Str) (s : SE) (m : Str → Option Bool) (c : Call) : eIsE 0 m c (some (.bw (.obj k [])) :: s) = isER (m k) := by
  show (match m k with | some b => _ | none => _) = _
  cases m k <;> rfl
/-! ### texts -/
abbrev Lo (a : List Nat) : Prop := ∀ c ∈ a, c < 1000
theorem can_S {a : List Nat} (h : Lo a) : PyData.canLay0 (.str (S a)) = true := by
  show ((S a).cps.all fun c => decide (c < 0x110000)) = true
  rw [Array.all_eq_true']
  intro c hc
  have := h c (by simpa using hc)
  simp
  omega
theorem abc_lt : ∀ c ∈ abc, c < 1000 := by decide +kernel
theorem dNe_str {i j : Str} (hi : PyData.canLay0 (.str i) = true) (hj : PyData.canLay0 (.str j) = true) : dNe (.str i) (.str j) = some (false, .bl (!(i == j))) := by
  unfold dNe
  simp only [py_str]
  rw [if_pos ⟨sh_of hi (by simp [PyData.depth]), sh_of hj (by simp [PyData.depth])⟩]
  rfl
theorem S_bne (a b : List Nat) : (S a == S b) = decide (a = b) := by
  rw [SX.S_beq, Bool.eq_iff_iff]
  simp
theorem dEq_S {a b : List Nat} (ha : Lo a) (hb : Lo b) : dEq (.str (S a)) (.str (S b)) = some (false, .bl (decide (a = b))) := by
  rw [dEq_str (can_S ha) (can_S hb), S_bne]
theorem dNe_S {a b : List Nat} (ha : Lo a) (hb : Lo b) : dNe (.str (S a)) (.str (S b)) = some (false, .bl (decide (a ≠ b))) := by
  rw [dNe_str (can_S ha) (can_S hb), S_bne]
  by_cases h : a = b <;> simp [h]
theorem S_inj {a b : List Nat} (h : S a = S b) : a = b := by
  have := S_bne a b
  rw [h] at this
  simpa using this
theorem can_lit (a : String) : PyData.canLay0 (.str (Str.ofString a)) = true := by
  show ((Str.ofString a).cps.all fun c => decide (c < 0x110000)) = true
  rw [Str.ofString_eq_toList, Array.all_eq_true']
  intro c hc
  have hc : c ∈ a.toList.map Char.toNat := by simpa using hc
  obtain ⟨d, _, rfl⟩ := List.mem_map.mp hc
  have h := d.valid
  have e : d.toNat = d.val.toNat := rfl
  rw [e]
  rcases h with h | h
  · have h : d.val.toNat < 0xd800 := h
    simp
    omega
  · have h : 0xdfff < d.val.toNat ∧ d.val.toNat < 0x110000 := h
    simp
    omega
@[simp] theorem dEq_lit (a b : String) : dEq (.str (Str.ofString a)) (.str (Str.ofString b)) = some (false, .bl (a == b)) := by rw [dEq_str (can_lit a) (can_lit b), ofString_beq]
@[simp] theorem dNe_lit (a b : String) : dNe (.str (Str.ofString a)) (.str (Str.ofString b)) = some (false, .bl (!(a == b))) := by rw [dNe_str (can_lit a) (can_lit b), ofString_beq]
/-! ### lists of truths -/
theorem pys_bl : ∀ l : List Bool, D.pys (l.map .bl) = some (l.map PyData.bool)
  | [] => by unfold D.pys; rfl
  | a :: r => by
    rw [List.map_cons]
    unfold D.pys
    rw [py_bl, pys_bl r]
    rfl
theorem eqvAll_bl : ∀ x y : List Bool, PyData.eqvAll (x.map .bool) (y.map .bool) = decide (x = y)
  | [], [] => rfl
  | [], _ :: _ => rfl
  | _ :: _, [] => rfl
  | a :: r, b :: q => by
    show (PyData.eqv (.bool a) (.bool b) && PyData.eqvAll (r.map .bool) (q.map .bool)) = _
    rw [eqvAll_bl r q]
    show ((a == b) && _) = _
    by_cases h : a = b
    · subst h; simp
    · simp [h]
theorem dEq_bls (x y : List Bool) : dEq (.lst (x.map .bl)) (.lst (y.map .bl)) = some (false, .bl (decide (x = y))) := by
  have e : ∀ x : List Bool, D.py (.lst (x.map .bl)) = some (.list (x.map .bool)) := fun x => by unfold D.py; rw [pys_bl]; rfl
  unfold dEq
  simp only [e]
  rw [if_pos ⟨sh_list_map _ (fun _ => rfl) (fun _ => by simp [PyData.depth]) x, sh_list_map _ (fun _ => rfl) (fun _ => by simp [PyData.depth]) y⟩]
  congr 3
  exact eqvAll_bl x y
theorem dNe_bls (x y : List Bool) : dNe (.lst (x.map .bl)) (.lst (y.map .bl)) = some (false, .bl (decide (x ≠ y))) := by
  have e : ∀ x : List Bool, D.py (.lst (x.map .bl)) = some (.list (x.map .bool)) := fun x => by unfold D.py; rw [pys_bl]; rfl
  unfold dNe
  simp only [e]
  rw [if_pos ⟨sh_list_map _ (fun _ => rfl) (fun _ => by simp [PyData.depth]) x, sh_list_map _ (fun _ => rfl) (fun _ => by simp [PyData.depth]) y⟩]
  have h : PyData.eqv (.list (x.map .bool)) (.list (y.map .bool)) = decide (x = y) := eqvAll_bl x y
  rw [h]
  by_cases h : x = y <;> simp [h]
@[simp] theorem dEq_bl4 (a b c d a' b' c' d' : Bool) : dEq (.lst [.bl a, .bl b, .bl c, .bl d]) (.lst [.bl a', .bl b', .bl c', .bl d']) = some (false, .bl (decide ([a, b, c, d] = [a', b', c', d']))) := dEq_bls [a, b, c, d] [a', b', c', d']
@[simp] theorem dNe_bl4 (a b c d a' b' c' d' : Bool) : dNe (.lst [.bl a, .bl b, .bl c, .bl d]) (.lst [.bl a', .bl b', .bl c', .bl d']) = some (false, .bl (decide ([a, b, c, d] ≠ [a', b', c', d']))) := dNe_bls [a, b, c, d] [a', b', c', d']
@[simp] theorem dEq_bl3 (a b c a' b' c' : Bool) : dEq (.lst [.bl a, .bl b, .bl c]) (.lst [.bl a', .bl b', .bl c']) = some (false, .bl (decide ([a, b, c] = [a', b', c']))) := dEq_bls [a, b, c] [a', b', c']
@[simp] theorem dNe_bl3 (a b c a' b' c' : Bool) : dNe (.lst [.bl a, .bl b, .bl c]) (.lst [.bl a', .bl b', .bl c']) = some (false, .bl (decide ([a, b, c] ≠ [a', b', c']))) := dNe_bls [a, b, c] [a', b', c']
/-! ### join of texts -/
theorem joinL_nil : ∀ l : List (List Nat), TL.joinL [] l = l.flatten
  | [] => rfl
  | [p] => by simp [TL.joinL]
  | p :: q :: r => by
    show p ++ ([] ++ TL.joinL [] (q :: r)) = _
    rw [joinL_nil (q :: r)]
    rfl
theorem strs_mapS {α : Type} (f : α → List Nat) : ∀ T : List α, D.strs (T.map fun t => .str (S (f t))) = some (T.map fun t => S (f t))
  | [] => rfl
  | a :: r => by
    rw [List.map_cons]
    unfold D.strs
    rw [strs_mapS f r]
    rfl
theorem sum_S1 : ∀ a : List Nat, ((a.map fun c => S [c]).map Str.length).sum = a.length
  | [] => rfl
  | c :: r => by rw [List.map_cons, List.map_cons, List.sum_cons, sum_S1 r, SX.S_len]; simp; omega
theorem flat_S1 : ∀ a : List Nat, (a.map fun c => [c]).flatten = a
  | [] => rfl
  | c :: r => by rw [List.map_cons, List.flatten_cons, flat_S1 r]; rfl
/-- "".join of letters -/
theorem dJoin_S1 {a : List Nat} (hl : a.length ≤ 1000) : dJoin (.str (S [])) (.lst (a.map fun c => .str (S [c]))) = some (false, .str (S a)) := by
  show (match D.strs (a.map fun t => D.str (S [t])) with
    | some ys => if (ys.map Str.length).sum + ys.length * (S []).length ≤ 16777216 then some (false, D.str (Txt.join (S []) ys)) else none
    | none => none) = _
  rw [strs_mapS (fun c : Nat => [c]) a]
  show (if ((a.map fun t => S [t]).map Str.length).sum + (a.map fun t => S [t]).length * (S []).length ≤ 16777216 then _ else _) = _
  rw [sum_S1, SX.S_len, if_pos (by simp; omega)]
  have e2 : (a.map fun t => S [t]) = (a.map fun t => [t]).map S := by rw [List.map_map]; rfl
  rw [e2, SX.join_S, joinL_nil, flat_S1]
end DN
namespace K34
open PySem DN
def Ls : List Def := [⟨("law", none), ["script", "draws", "sides", "rows", "book", "matters", "row", "matter", "bad", "call", "number", "n"], 1, c_law, false⟩,
  ⟨("_law_asked", none), ["sides", "book", "rows", "matter", "deciding", "n", "row", "missing", "extra", "m", "due", "letter"], 4, c__law_asked, false⟩,
  ⟨("_law_bad_matter", none), ["draws", "at", "sides", "matter", "how", "letters", "strange", "letter"], 3, c__law_bad_matter, false⟩,
  ⟨("_law_draws", none), ["script", "k", "many", "cell", "seed", "draws", "n", "one", "two"], 3, c__law_draws, false⟩,
  ⟨("_law_holdings", none), ["draws", "at", "sides", "many", "kept", "rows", "n", "row"], 5, c__law_holdings, false⟩,
  ⟨("_law_idle", none), ["sides", "book", "rows", "matter", "due", "letter", "used", "other", "won", "lost", "row", "one", "n"], 4, c__law_idle, false⟩,
  ⟨("_law_letters", none), ["draws", "at", "most", "pool", "pro", "con", "n", "k"], 3, c__law_letters, false⟩,
  ⟨("_law_matter", none), ["draws", "at", "sides"], 3, c__law_matter, false⟩,
  ⟨("_law_refused", none), ["call", "book", "number", "matter", "e"], 4, c__law_refused, false⟩,
  ⟨("Casebook", some "__init__"), ["self", "factors", "rows", "good", "row"], 3, c_CasebookI_initI, true⟩,
  ⟨("Factors", some "__init__"), ["self", "pro", "con", "ours", "theirs", "number", "matter"], 3, c_FactorsI_initI, true⟩,
  ⟨("_law_cell", none), ["script", "k"], 2, c__law_cell, false⟩,
  ⟨("_law_holding", none), ["draws", "at", "sides", "matter", "side"], 3, c__law_holding, false⟩,
  ⟨("_law_lot", none), ["bits", "letters", "lot", "n"], 2, c__law_lot, false⟩,
  ⟨("_law_mended", none), ["sides", "row", "matter", "letters", "less", "letter"], 3, c__law_mended, false⟩,
  ⟨("_law_near", none), ["row", "other", "matter", "one", "two"], 3, c__law_near, false⟩,
  ⟨("_law_peaceful", none), ["rows", "row", "other"], 2, c__law_peaceful, false⟩,
  ⟨("_law_same", none), ["told", "due", "k"], 2, c__law_same, false⟩,
  ⟨("_law_shared", none), ["row", "matter", "ours", "theirs", "letter"], 2, c__law_shared, false⟩,
  ⟨("all_lots", none), ["letters", "lots", "letter", "lot"], 1, c_all_lots, false⟩,
  ⟨("checked_holdings", none), ["factors", "rows", "matter", "_", "side", "reason"], 2, c_checked_holdings, false⟩,
  ⟨("core", none), ["row", "matter", "side", "reason"], 1, c_core, false⟩,
  ⟨("deciding_holdings", none), ["casebook", "matter", "found", "number", "row"], 2, c_deciding_holdings, false⟩,
  ⟨("distinct_letters", none), ["text", "letter"], 1, c_distinct_letters, false⟩,
  ⟨("distinction", none), ["casebook", "number", "matter", "decided", "side", "reason", "missing", "extra"], 3, c_distinction, false⟩,
  ⟨("idle_factors", none), ["casebook", "used", "matter", "side", "reason"], 1, c_idle_factors, false⟩,
  ⟨("nearer", none), ["casebook", "number", "other", "matter", "first", "second"], 4, c_nearer, false⟩,
  ⟨("nearest_holdings", none), ["casebook", "matter", "numbers", "told", "number", "other"], 2, c_nearest_holdings, false⟩,
  ⟨("shared_factors", none), ["casebook", "number", "matter", "decided"], 3, c_shared_factors, false⟩,
  ⟨("_law_fight", none), ["row", "other"], 2, c__law_fight, false⟩,
  ⟨("_law_within", none), ["lot", "other", "letter"], 2, c__law_within, false⟩,
  ⟨("is_reason", none), ["factors", "matter", "side", "reason", "letters", "letter"], 4, c_is_reason, false⟩,
  ⟨("lot_within", none), ["lot", "other", "letter"], 2, c_lot_within, false⟩,
  ⟨("lot_without", none), ["lot", "other", "letter"], 2, c_lot_without, false⟩,
  ⟨("matter_at_least", none), ["matter", "other"], 2, c_matter_at_least, false⟩,
  ⟨("require_holding", none), ["casebook", "number"], 2, c_require_holding, false⟩,
  ⟨("shared_lot", none), ["lot", "other", "letter"], 2, c_shared_lot, false⟩,
  ⟨("Factors", some "require_matter"), ["self", "matter"], 2, c_Factors_require_matter, false⟩,
  ⟨("_law_clash", none), ["won", "lost"], 2, c__law_clash, false⟩,
  ⟨("Factors", some "letters_of"), ["self", "side"], 2, c_Factors_letters_of, false⟩,
  ⟨("_law_core", none), ["row"], 1, c__law_core, false⟩,
  ⟨("_law_over", none), ["matter", "other"], 2, c__law_over, false⟩]
theorem u_law (n : Nat) (a0 : D) : run Ls (n + 1) ("law", none) [a0] = fin false (c_law.ev (run Ls n) [some (.fr a0), none, none, none, none, none, none, none, none, none, none, none]) := by kernel_rfl
theorem u__law_asked (n : Nat) (a0 a1 a2 a3 : D) : run Ls (n + 1) ("_law_asked", none) [a0, a1, a2, a3] = fin false (c__law_asked.ev (run Ls n) [some (.fr a0), some (.fr a1), some (.fr a2), some (.fr a3), none, none, none, none, none, none, none, none]) := by kernel_rfl
theorem u__law_bad_matter (n : Nat) (a0 a1 a2 : D) : run Ls (n + 1) ("_law_bad_matter", none) [a0, a1, a2] = fin false (c__law_bad_matter.ev (run Ls n) [some (.fr a0), some (.fr a1), some (.fr a2), none, none, none, none, none]) := by kernel_rfl
theorem u__law_draws (n : Nat) (a0 a1 a2 : D) : run Ls (n + 1) ("_law_draws", none) [a0, a1, a2] = fin false (c__law_draws.ev (run Ls n) [some (.fr a0), some (.fr a1), some (.fr a2), none, none, none, none, none, none]) := by kernel_rfl
theorem u__law_holdings (n : Nat) (a0 a1 a2 a3 a4 : D) : run Ls (n + 1) ("_law_holdings", none) [a0, a1, a2, a3, a4] = fin false (c__law_holdings.ev (run Ls n) [some (.fr a0), some (.fr a1), some (.fr a2), some (.fr a3), some (.fr a4), none, none, none]) := by kernel_rfl
theorem u__law_idle (n : Nat) (a0 a1 a2 a3 : D) : run Ls (n + 1) ("_law_idle", none) [a0, a1, a2, a3] = fin false (c__law_idle.ev (run Ls n) [some (.fr a0), some (.fr a1), some (.fr a2), some (.fr a3), none, none, none, none, none, none, none, none, none]) := by kernel_rfl
theorem u__law_letters (n : Nat) (a0 a1 a2 : D) : run Ls (n + 1) ("_law_letters", none) [a0, a1, a2] = fin false (c__law_letters.ev (run Ls n) [some (.fr a0), some (.fr a1), some (.fr a2), none, none, none, none, none]) := by kernel_rfl
theorem u__law_matter (n : Nat) (a0 a1 a2 : D) : run Ls (n + 1) ("_law_matter", none) [a0, a1, a2] = fin false (c__law_matter.ev (run Ls n) [some (.fr a0), some (.fr a1), some (.fr a2)]) := by kernel_rfl
theorem u__law_refused (n : Nat) (a0 a1 a2 a3 : D) : run Ls (n + 1) ("_law_refused", none) [a0, a1, a2, a3] = fin false (c__law_refused.ev (run Ls n) [some (.fr a0), some (.fr a1), some (.fr a2), some (.fr a3), none]) := by kernel_rfl
theorem u_CasebookI_initI (n : Nat) (a0 a1 : D) : run Ls (n + 1) ("Casebook", some "__init__") [a0, a1] = fin true (c_CasebookI_initI.ev (run Ls n) [some (.ow (.obj "Casebook" [])), some (.fr a0), some (.fr a1), none, none]) := by kernel_rfl
theorem u_FactorsI_initI (n : Nat) (a0 a1 : D) : run Ls (n + 1) ("Factors", some "__init__") [a0, a1] = fin true (c_FactorsI_initI.ev (run Ls n) [some (.ow (.obj "Factors" [])), some (.fr a0), some (.fr a1), none, none, none, none]) := by kernel_rfl
theorem u__law_cell (n : Nat) (a0 a1 : D) : run Ls (n + 1) ("_law_cell", none) [a0, a1] = fin false (c__law_cell.ev (run Ls n) [some (.fr a0), some (.fr a1)]) := by kernel_rfl
theorem u__law_holding (n : Nat) (a0 a1 a2 : D) : run Ls (n + 1) ("_law_holding", none) [a0, a1, a2] = fin false (c__law_holding.ev (run Ls n) [some (.fr a0), some (.fr a1), some (.fr a2), none, none]) := by kernel_rfl
theorem u__law_lot (n : Nat) (a0 a1 : D) : run Ls (n + 1) ("_law_lot", none) [a0, a1] = fin false (c__law_lot.ev (run Ls n) [some (.fr a0), some (.fr a1), none, none]) := by kernel_rfl
theorem u__law_mended (n : Nat) (a0 a1 a2 : D) : run Ls (n + 1) ("_law_mended", none) [a0, a1, a2] = fin false (c__law_mended.ev (run Ls n) [some (.fr a0), some (.fr a1), some (.fr a2), none, none, none]) := by kernel_rfl
theorem u__law_near (n : Nat) (a0 a1 a2 : D) : run Ls (n + 1) ("_law_near", none) [a0, a1, a2] = fin false (c__law_near.ev (run Ls n) [some (.fr a0), some (.fr a1), some (.fr a2), none, none]) := by kernel_rfl
theorem u__law_peaceful (n : Nat) (a0 a1 : D) : run Ls (n + 1) ("_law_peaceful", none) [a0, a1] = fin false (c__law_peaceful.ev (run Ls n) [some (.fr a0), some (.fr a1), none]) := by kernel_rfl
theorem u__law_same (n : Nat) (a0 a1 : D) : run Ls (n + 1) ("_law_same", none) [a0, a1] = fin false (c__law_same.ev (run Ls n) [some (.fr a0), some (.fr a1), none]) := by kernel_rfl
theorem u__law_shared (n : Nat) (a0 a1 : D) : run Ls (n + 1) ("_law_shared", none) [a0, a1] = fin false (c__law_shared.ev (run Ls n) [some (.fr a0), some (.fr a1), none, none, none]) := by kernel_rfl
theorem u_all_lots (n : Nat) (a0 : D) : run Ls (n + 1) ("all_lots", none) [a0] = fin false (c_all_lots.ev (run Ls n) [some (.fr a0), none, none, none]) := by kernel_rfl
theorem u_checked_holdings (n : Nat) (a0 a1 : D) : run Ls (n + 1) ("checked_holdings", none) [a0, a1] = fin false (c_checked_holdings.ev (run Ls n) [some (.fr a0), some (.fr a1), none, none, none, none]) := by kernel_rfl
theorem u_core (n : Nat) (a0 : D) : run Ls (n + 1) ("core", none) [a0] = fin false (c_core.ev (run Ls n) [some (.fr a0), none, none, none]) := by kernel_rfl
theorem u_deciding_holdings (n : Nat) (a0 a1 : D) : run Ls (n + 1) ("deciding_holdings", none) [a0, a1] = fin false (c_deciding_holdings.ev (run Ls n) [some (.fr a0), some (.fr a1), none, none, none]) := by kernel_rfl
theorem u_distinct_letters (n : Nat) (a0 : D) : run Ls (n + 1) ("distinct_letters", none) [a0] = fin false (c_distinct_letters.ev (run Ls n) [some (.fr a0), none]) := by kernel_rfl
theorem u_distinction (n : Nat) (a0 a1 a2 : D) : run Ls (n + 1) ("distinction", none) [a0, a1, a2] = fin false (c_distinction.ev (run Ls n) [some (.fr a0), some (.fr a1), some (.fr a2), none, none, none, none, none]) := by kernel_rfl
theorem u_idle_factors (n : Nat) (a0 : D) : run Ls (n + 1) ("idle_factors", none) [a0] = fin false (c_idle_factors.ev (run Ls n) [some (.fr a0), none, none, none, none]) := by kernel_rfl
theorem u_nearer (n : Nat) (a0 a1 a2 a3 : D) : run Ls (n + 1) ("nearer", none) [a0, a1, a2, a3] = fin false (c_nearer.ev (run Ls n) [some (.fr a0), some (.fr a1), some (.fr a2), some (.fr a3), none, none]) := by kernel_rfl
theorem u_nearest_holdings (n : Nat) (a0 a1 : D) : run Ls (n + 1) ("nearest_holdings", none) [a0, a1] = fin false (c_nearest_holdings.ev (run Ls n) [some (.fr a0), some (.fr a1), none, none, none, none]) := by kernel_rfl
theorem u_shared_factors (n : Nat) (a0 a1 a2 : D) : run Ls (n + 1) ("shared_factors", none) [a0, a1, a2] = fin false (c_shared_factors.ev (run Ls n) [some (.fr a0), some (.fr a1), some (.fr a2), none]) := by kernel_rfl
theorem u__law_fight (n : Nat) (a0 a1 : D) : run Ls (n + 1) ("_law_fight", none) [a0, a1] = fin false (c__law_fight.ev (run Ls n) [some (.fr a0), some (.fr a1)]) := by kernel_rfl
theorem u__law_within (n : Nat) (a0 a1 : D) : run Ls (n + 1) ("_law_within", none) [a0, a1] = fin false (c__law_within.ev (run Ls n) [some (.fr a0), some (.fr a1), none]) := by kernel_rfl
theorem u_is_reason (n : Nat) (a0 a1 a2 a3 : D) : run Ls (n + 1) ("is_reason", none) [a0, a1, a2, a3] = fin false (c_is_reason.ev (run Ls n) [some (.fr a0), some (.fr a1), some (.fr a2), some (.fr a3), none, none]) := by kernel_rfl
theorem u_lot_within (n : Nat) (a0 a1 : D) : run Ls (n + 1) ("lot_within", none) [a0, a1] = fin false (c_lot_within.ev (run Ls n) [some (.fr a0), some (.fr a1), none]) := by kernel_rfl
theorem u_lot_without (n : Nat) (a0 a1 : D) : run Ls (n + 1) ("lot_without", none) [a0, a1] = fin false (c_lot_without.ev (run Ls n) [some (.fr a0), some (.fr a1), none]) := by kernel_rfl
theorem u_matter_at_least (n : Nat) (a0 a1 : D) : run Ls (n + 1) ("matter_at_least", none) [a0, a1] = fin false (c_matter_at_least.ev (run Ls n) [some (.fr a0), some (.fr a1)]) := by kernel_rfl
theorem u_require_holding (n : Nat) (a0 a1 : D) : run Ls (n + 1) ("require_holding", none) [a0, a1] = fin false (c_require_holding.ev (run Ls n) [some (.fr a0), some (.fr a1)]) := by kernel_rfl
theorem u_shared_lot (n : Nat) (a0 a1 : D) : run Ls (n + 1) ("shared_lot", none) [a0, a1] = fin false (c_shared_lot.ev (run Ls n) [some (.fr a0), some (.fr a1), none]) := by kernel_rfl
theorem u_Factors_require_matter (n : Nat) (a0 a1 : D) : run Ls (n + 1) ("Factors", some "require_matter") [a0, a1] = fin false (c_Factors_require_matter.ev (run Ls n) [some (.fr a0), some (.fr a1)]) := by kernel_rfl
theorem u__law_clash (n : Nat) (a0 a1 : D) : run Ls (n + 1) ("_law_clash", none) [a0, a1] = fin false (c__law_clash.ev (run Ls n) [some (.fr a0), some (.fr a1)]) := by kernel_rfl
theorem u_Factors_letters_of (n : Nat) (a0 a1 : D) : run Ls (n + 1) ("Factors", some "letters_of") [a0, a1] = fin false (c_Factors_letters_of.ev (run Ls n) [some (.fr a0), some (.fr a1)]) := by kernel_rfl
theorem u__law_core (n : Nat) (a0 : D) : run Ls (n + 1) ("_law_core", none) [a0] = fin false (c__law_core.ev (run Ls n) [some (.fr a0)]) := by kernel_rfl
theorem u__law_over (n : Nat) (a0 a1 : D) : run Ls (n + 1) ("_law_over", none) [a0, a1] = fin false (c__law_over.ev (run Ls n) [some (.fr a0), some (.fr a1)]) := by kernel_rfl
end K34
/-! M1: cases of a forum, in plain lists. -/
namespace DN
theorem snoc_ind {α : Type} {P : List α → Prop} (h0 : P []) (h1 : ∀ r a, P r → P (r ++ [a])) (l : List α) : P l := by
  have h : ∀ m : List α, P m.reverse := by
    intro m
    induction m with
    | nil => exact h0
    | cons a r ih => rw [List.reverse_cons]; exact h1 _ _ ih
  have := h l.reverse
  rwa [List.reverse_reverse] at this
theorem sum_ge : ∀ {T : List Int}, (∀ t ∈ T, 1 ≤ t ∧ t ≤ 3) → (T.length : Int) ≤ T.sum
  | [], _ => by simp
  | a :: r, h => by
    have h1 := h a (by simp)
    have h2 := sum_ge (T := r) (fun t ht => h t (by simp [ht]))
    simp only [List.length_cons, List.sum_cons]
    omega
/-- limits of a forum -/
structure GL (L : List Int) : Prop where
  b : ∀ l ∈ L, 1 ≤ l ∧ l ≤ 3
  lo : 1 ≤ L.sum
  hi : L.sum ≤ 5
theorem GL.len {L : List Int} (h : GL L) : L.length ≤ 5 := by
  have := sum_ge h.b
  have := h.hi
  omega
theorem GL.pos {L : List Int} (h : GL L) : 1 ≤ L.length := by
  have := h.lo
  cases L with
  | nil => simp at this
  | cons a r => simp
theorem GL.get {L : List Int} (h : GL L) {p : Nat} (hp : p < L.length) : 1 ≤ L[p]?.getD 0 ∧ L[p]?.getD 0 ≤ 3 := by
  rw [List.getElem?_eq_getElem hp, Option.getD_some]
  exact h.b _ (List.getElem_mem hp)
def stepC (cs : List (List Int)) (l : Int) : List (List Int) := cs.flatMap fun c => (List.range (l + 1).toNat).map fun v : Nat => c ++ [(v : Int)]
def casesOf (L : List Int) : List (List Int) := L.foldl stepC [[]]
theorem casesOf_snoc (L : List Int) (l : Int) : casesOf (L ++ [l]) = stepC (casesOf L) l := by
  unfold casesOf
  rw [List.foldl_append]
  rfl
theorem len_step (cs : List (List Int)) (l : Int) : (stepC cs l).length = cs.length * (l + 1).toNat := by
  unfold stepC
  rw [List.length_flatMap]
  simp only [List.length_map, List.length_range]
  induction cs with
  | nil => simp
  | cons a r ih => simp only [List.map_cons, List.sum_cons, ih, List.length_cons, Nat.succ_mul]; omega
theorem len_fold : ∀ (L : List Int) (cs : List (List Int)), (∀ l ∈ L, 1 ≤ l ∧ l ≤ 3) → (L.foldl stepC cs).length ≤ cs.length * 2 ^ L.sum.toNat
  | [], cs, _ => by simp
  | a :: r, cs, h => by
    rw [List.foldl_cons]
    have h1 := h a (by simp)
    have hr : ∀ t ∈ r, 1 ≤ t ∧ t ≤ 3 := fun t ht => h t (by simp [ht])
    have h3 := sum_ge hr
    have h2 := len_fold r (stepC cs a) hr
    rw [len_step] at h2
    have e : (a :: r).sum.toNat = a.toNat + r.sum.toNat := by rw [List.sum_cons]; omega
    rw [e, Nat.pow_add]
    have h4 : (a + 1).toNat ≤ 2 ^ a.toNat := by
      have : a = 1 ∨ a = 2 ∨ a = 3 := by omega
      rcases this with rfl | rfl | rfl <;> decide
    refine Nat.le_trans h2 ?_
    rw [← Nat.mul_assoc]
    exact Nat.mul_le_mul_right _ (Nat.mul_le_mul_left _ h4)
theorem sum_take_le : ∀ {L : List Int} (i : Nat), (∀ l ∈ L, 1 ≤ l ∧ l ≤ 3) → (L.take i).sum ≤ L.sum
  | [], i, _ => by simp
  | a :: r, 0, h => by
    have := sum_ge h
    simp only [List.take_zero, List.sum_nil]
    have : (0 : Int) ≤ ((a :: r).length : Int) := by omega
    omega
  | a :: r, i + 1, h => by
    have := sum_take_le (L := r) i (fun t ht => h t (by simp [ht]))
    simp only [List.take_succ_cons, List.sum_cons]
    omega
theorem GL.cases_take {L : List Int} (h : GL L) (i : Nat) : (casesOf (L.take i)).length ≤ 32 := by
  have h1 : ∀ l ∈ L.take i, 1 ≤ l ∧ l ≤ 3 := fun l hl => h.b l (List.mem_of_mem_take hl)
  have h2 := len_fold (L.take i) [[]] h1
  have h3 := sum_take_le i h.b
  have h4 := h.hi
  have h5 : (L.take i).sum.toNat ≤ 5 := by omega
  have h6 : 2 ^ (L.take i).sum.toNat ≤ 2 ^ 5 := Nat.pow_le_pow_right (by omega) h5
  have e : ([[]] : List (List Int)).length = 1 := rfl
  rw [e, Nat.one_mul] at h2
  exact Nat.le_trans h2 h6
theorem GL.cases_len {L : List Int} (h : GL L) : (casesOf L).length ≤ 32 := by
  have := h.cases_take L.length
  rwa [List.take_length] at this
/-- x is a case -/
def InC (L x : List Int) : Prop := x.length = L.length ∧ ∀ p < L.length, 0 ≤ x[p]?.getD 0 ∧ x[p]?.getD 0 ≤ L[p]?.getD 0
theorem InC_snoc {L x : List Int} {l a : Int} : InC (L ++ [l]) (x ++ [a]) ↔ InC L x ∧ 0 ≤ a ∧ a ≤ l := by
  unfold InC
  simp only [List.length_append, List.length_cons, List.length_nil]
  constructor
  · rintro ⟨h1, h2⟩
    have e : x.length = L.length := by omega
    refine ⟨⟨e, fun p hp => ?_⟩, ?_⟩
    · have := h2 p (by omega)
      rwa [List.getElem?_append_left (by omega), List.getElem?_append_left hp] at this
    · have := h2 L.length (by omega)
      rw [List.getElem?_append_right (by omega), List.getElem?_append_right (by omega), e] at this
      simpa using this
  · rintro ⟨⟨h1, h2⟩, h3⟩
    refine ⟨by omega, fun p hp => ?_⟩
    by_cases c : p < L.length
    · rw [List.getElem?_append_left (by omega), List.getElem?_append_left c]
      exact h2 p c
    · have : p = L.length := by omega
      subst this
      rw [List.getElem?_append_right (by omega), List.getElem?_append_right (by omega), h1]
      simpa using h3
theorem mem_step {cs : List (List Int)} {l : Int} {x : List Int} : x ∈ stepC cs l ↔ ∃ c a, c ∈ cs ∧ x = c ++ [a] ∧ 0 ≤ a ∧ a ≤ l := by
  unfold stepC
  simp only [List.mem_flatMap, List.mem_map, List.mem_range]
  constructor
  · rintro ⟨c, hc, v, hv, rfl⟩
    exact ⟨c, v, hc, rfl, by omega, by omega⟩
  · rintro ⟨c, a, hc, rfl, h0, h1⟩
    exact ⟨c, hc, a.toNat, by omega, by rw [Int.toNat_of_nonneg h0]⟩
theorem mem_cases : ∀ {L x : List Int}, x ∈ casesOf L ↔ InC L x := by
  intro L
  induction L using snoc_ind with
  | h0 =>
    intro x
    show x ∈ [[]] ↔ _
    simp only [List.mem_singleton]
    constructor
    · rintro rfl
      exact ⟨rfl, fun p hp => by simp at hp⟩
    · intro h
      exact List.eq_nil_of_length_eq_zero h.1
  | h1 r a ih =>
    intro x
    rw [casesOf_snoc, mem_step]
    constructor
    · rintro ⟨c, v, hc, rfl, h0, h1⟩
      exact InC_snoc.mpr ⟨ih.mp hc, h0, h1⟩
    · intro h
      rcases nil_or_snoc x with rfl | ⟨y, v, rfl⟩
      · have := h.1
        simp at this
      · have := InC_snoc.mp h
        exact ⟨y, v, ih.mpr this.1, rfl, this.2⟩
end DN
/-! M2: dicts with tuple keys, a forum's object. -/
namespace DN
open PySem
open SX (S)
abbrev KL := List L2.Key
theorem dcD_eq {α : Type} {c : Call} {g : Tg} {t : BD} {kx vx : LD} {s : SE} (f : α → D) (k' : α → KL) (v' : α → D) : ∀ (xs : List α) (acc : List (KL × D)),
    (∀ x ∈ xs, ∃ s1, g.put (f x) s = some s1 ∧ t c s1 = .ok true ∧ ∃ kd, kx c s1 = .ok kd ∧ tkeyOf kd = some (k' x) ∧ vx c s1 = .ok (v' x)) →
    dcD c g t kx vx s (xs.map f) acc = .ok (xs.foldl (fun acc x => putDK acc (k' x) (v' x)) acc)
  | [], _, _ => rfl
  | x :: r, acc, h => by
    obtain ⟨s1, e1, e2, kd, e3, e4, e5⟩ := h x (by simp)
    have ih := dcD_eq (c := c) (g := g) (t := t) (kx := kx) (vx := vx) (s := s) f k' v' r (putDK acc (k' x) (v' x)) (fun y hy => h y (by simp [hy]))
    rw [List.map_cons]
    unfold dcD
    rw [e1]
    show ((noX (t c s1)).bind fun b => _) = _
    rw [e2, noX_ok, R.bind_ok, if_pos rfl, e3, noX_ok, R.bind_ok, e5, noX_ok, R.bind_ok, e4]
    exact ih
theorem eDc_eq {α : Type} {c : Call} {g : Tg} {it : ID} {t : BD} {kx vx : LD} {own : List Nat} {s : SE} (f : α → D) (k' : α → KL) (v' : α → D) (xs : List α) (hit : it c s = .ok (xs.map f)) (hl : xs.length ≤ LIM)
    (h : ∀ x ∈ xs, ∃ s1, g.put (f x) (wipeS own s) = some s1 ∧ t c s1 = .ok true ∧ ∃ kd, kx c s1 = .ok kd ∧ tkeyOf kd = some (k' x) ∧ vx c s1 = .ok (v' x)) :
    eDc g it t kx vx own c s = .ok (true, dicT (xs.foldl (fun acc x => putDK acc (k' x) (v' x)) [])) := by
  unfold eDc
  rw [hit, R.bind_ok, if_pos (by simpa using hl), dcD_eq f k' v' xs [] h]
  rfl
theorem putDK_new {l : List (KL × D)} {k : KL} {d : D} (h : ∀ p ∈ l, p.1 ≠ k) : putDK l k d = l ++ [(k, d)] := by
  unfold putDK
  rw [if_neg]
  intro z
  obtain ⟨p, hp, e⟩ := List.any_eq_true.mp z
  exact h p hp (of_decide_eq_true e)
theorem fold_new {α : Type} (k' : α → KL) (v' : α → D) : ∀ (xs : List α) (acc : List (KL × D)), (xs.map k').Nodup → (∀ x ∈ xs, ∀ p ∈ acc, p.1 ≠ k' x) → xs.foldl (fun acc x => putDK acc (k' x) (v' x)) acc = acc ++ xs.map fun x => (k' x, v' x)
  | [], acc, _, _ => by simp
  | x :: r, acc, hn, h => by
    rw [List.map_cons, List.nodup_cons] at hn
    rw [List.foldl_cons, putDK_new (h x (by simp)), fold_new k' v' r _ hn.2]
    · simp
    · intro y hy p hp
      rcases List.mem_append.mp hp with hp | hp
      · exact h y (by simp [hy]) p hp
      · simp at hp
        subst hp
        intro e
        exact hn.1 (by have e : k' x = k' y := e; rw [e]; exact List.mem_map_of_mem hy)
theorem keysOf_dKey : ∀ ks : KL, keysOf (ks.map dKey) = some ks
  | [] => rfl
  | k :: r => by
    have e : keyOf (dKey k) = some k := by cases k <;> rfl
    rw [List.map_cons]
    unfold keysOf
    simp only [e, keysOf_dKey r]
def lookK (l : List (KL × D)) (k : KL) : Option D := (l.find? fun p => decide (p.1 = k)).map (·.2)
theorem getDK_dicT (k : KL) : ∀ l : List (KL × D), getDK (l.map fun p => (.tup (p.1.map dKey), p.2)) k = some (lookK l k)
  | [] => rfl
  | (q, d) :: r => by
    have e : tkeyOf (.tup (q.map dKey)) = some q := keysOf_dKey q
    rw [List.map_cons]
    unfold getDK
    simp only [e]
    unfold lookK
    rw [List.find?_cons]
    by_cases c : q = k
    · simp [c]
    · rw [if_neg c, getDK_dicT k r]
      simp [c, lookK]
theorem dIn_dicT {l : List (KL × D)} {x : D} {k : KL} (hl : l ≠ []) (hk : tkeyOf x = some k) : dIn x (dicT l) = some (false, .bl (lookK l k).isSome) := by
  have h := getDK_dicT k l
  unfold dicT
  cases l with
  | nil => exact absurd rfl hl
  | cons p r =>
    rw [List.map_cons] at h ⊢
    show (tkeyOf x).bind (fun k => (getDK (_ :: _) k).map fun o => (false, D.bl o.isSome)) = _
    rw [hk]
    show (getDK (_ :: _) k).map (fun o => (false, D.bl o.isSome)) = _
    rw [h]
    rfl
/-- number by case -/
def numb (cs : List (List Int)) : List (KL × D) := cs.zipIdx.map fun p => (p.1.map Sum.inl, .int (p.2 : Int))
theorem lookK_numb : ∀ (cs : List (List Int)) (k : Nat) (x : List Int), lookK (cs.zipIdx k |>.map fun p => (p.1.map Sum.inl, D.int (p.2 : Int))) (x.map Sum.inl) = (cs.idxOf? x).map fun i => D.int ((k + i : Nat) : Int)
  | [], k, x => rfl
  | c :: r, k, x => by
    rw [List.zipIdx_cons, List.map_cons]
    unfold lookK
    rw [List.find?_cons, List.idxOf?_cons]
    by_cases e : c = x
    · subst e; simp
    · have e2 : ¬ (c.map (Sum.inl : Int → L2.Key) = x.map Sum.inl) := fun z => e (inl_inj _ _ z)
      have ih := lookK_numb r (k + 1) x
      unfold lookK at ih
      simp only [e2, decide_false, ih]
      have e3 : (c == x) = false := by simpa using e
      rw [e3]
      simp only [Bool.false_eq_true, if_false]
      cases r.idxOf? x with
      | none => rfl
      | some i => simp; omega
theorem dIn_numb {cs : List (List Int)} (h : cs ≠ []) (x : List Int) : dIn (.tup (x.map .int)) (dicT (numb cs)) = some (false, .bl (decide (x ∈ cs))) := by
  rw [dIn_dicT (by unfold numb; cases cs with | nil => exact absurd rfl h | cons a r => simp) (tkey_tI x)]
  unfold numb
  rw [lookK_numb]
  congr 3
  rw [Option.isSome_map, Bool.eq_iff_iff, decide_eq_true_iff, List.isSome_idxOf?]
theorem dNotIn_numb {cs : List (List Int)} (h : cs ≠ []) (x : List Int) : dNotIn (.tup (x.map .int)) (dicT (numb cs)) = some (false, .bl (!decide (x ∈ cs))) := by
  have hi := dIn_numb h x
  have hl : numb cs ≠ [] := by unfold numb; cases cs with | nil => exact absurd rfl h | cons a r => simp
  have hg := getDK_dicT (x.map Sum.inl) (numb cs)
  revert hi
  unfold dicT
  revert hl hg
  cases numb cs with
  | nil => intro hl; exact absurd rfl hl
  | cons p r =>
    intro hl hg
    rw [List.map_cons] at hg ⊢
    show (tkeyOf _).bind (fun k => (getDK (_ :: _) k).map fun o => (false, D.bl o.isSome)) = _ → (tkeyOf _).bind (fun k => (getDK (_ :: _) k).map fun o => (false, D.bl (!o.isSome))) = _
    rw [tkey_tI]
    show (getDK (_ :: _) _).map (fun o => (false, D.bl o.isSome)) = _ → (getDK (_ :: _) _).map (fun o => (false, D.bl (!o.isSome))) = _
    rw [hg]
    intro hi
    have := D.bl.inj (Prod.mk.inj (Option.some.inj hi)).2
    show some (false, D.bl (!(lookK (p :: r) _).isSome)) = _
    rw [this]
theorem enumD_map {α : Type} (f : α → D) : ∀ (l : List α) (k : Nat), enumD k (l.map f) = (l.zipIdx k).map fun p => .tup [.int (p.2 : Int), f p.1]
  | [], _ => rfl
  | a :: r, k => by
    rw [List.map_cons, List.zipIdx_cons, List.map_cons]
    unfold enumD
    rw [enumD_map f r (k + 1)]
theorem kEnum_map {α : Type} (f : α → D) (l : List α) : kEnum [.lst (l.map f)] = some (l.zipIdx.map fun p => .tup [.int (p.2 : Int), f p.1]) := by
  show some (enumD 0 (l.map f)) = _
  rw [enumD_map]
theorem kEnum_mapT {α : Type} (f : α → D) (l : List α) : kEnum [.tup (l.map f)] = some (l.zipIdx.map fun p => .tup [.int (p.2 : Int), f p.1]) := by
  show some (enumD 0 (l.map f)) = _
  rw [enumD_map]
theorem nodup_step {cs : List (List Int)} (h : cs.Nodup) (l : Int) : (stepC cs l).Nodup := by
  unfold stepC
  refine List.pairwise_flatMap.mpr ⟨fun c _ => ?_, ?_⟩
  · refine List.pairwise_map.mpr ?_
    refine List.Pairwise.imp ?_ List.pairwise_lt_range
    intro a b hab e
    have := List.append_cancel_left e
    simp at this
    omega
  · refine List.Pairwise.imp ?_ h
    intro c d hcd x hx y hy
    obtain ⟨v, _, rfl⟩ := List.mem_map.mp hx
    obtain ⟨w, _, rfl⟩ := List.mem_map.mp hy
    intro e
    exact hcd (List.append_inj_left' e rfl)
theorem nodup_cases (L : List Int) : (casesOf L).Nodup := by
  induction L using snoc_ind with
  | h0 => exact List.pairwise_singleton _ _
  | h1 r a ih => rw [casesOf_snoc]; exact nodup_step ih a
theorem zeros_in {L : List Int} (h : GL L) : InC L (List.replicate L.length 0) := by
  refine ⟨by simp, fun p hp => ?_⟩
  have := h.get hp
  rw [List.getElem?_replicate, if_pos hp]
  simp
  omega
theorem GL.ne {L : List Int} (h : GL L) : casesOf L ≠ [] := by
  intro z
  have := mem_cases.mpr (zeros_in h)
  rw [z] at this
  cases this
theorem numb_fold (L : List Int) : ((casesOf L).zipIdx).foldl (fun acc p => putDK acc (p.1.map Sum.inl) (.int (p.2 : Int))) [] = numb (casesOf L) := by
  rw [fold_new (fun p : List Int × Nat => p.1.map Sum.inl) (fun p => .int (p.2 : Int)) _ [] _ (by simp)]
  · rfl
  · have e : (casesOf L).zipIdx.map (fun p : List Int × Nat => p.1.map (Sum.inl : Int → L2.Key)) = (casesOf L).map fun x => x.map Sum.inl := by
      have z := List.map_map (f := (Prod.fst : List Int × Nat → List Int)) (g := fun x : List Int => x.map (Sum.inl : Int → L2.Key)) (l := (casesOf L).zipIdx)
      rw [List.zipIdx_map_fst] at z
      exact z.symm
    rw [e]
    refine List.pairwise_map.mpr (List.Pairwise.imp ?_ (nodup_cases L))
    intro a b hab z
    exact hab (inl_inj _ _ z)
end DN
namespace DN
open PySem
open SX (S)
/-! sorted texts -/
def srtL (l : List (List Nat)) : List (List Nat) := l.mergeSort fun a b => decide (a ≤ b)
abbrev strD (a : List Nat) : D := .str (S a)
theorem pys_strs : ∀ l : List (List Nat), D.pys (l.map strD) = some (l.map fun a => PyData.str (S a))
  | [] => by unfold D.pys; rfl
  | a :: r => by
    rw [List.map_cons]
    unfold D.pys
    rw [show D.py (strD a) = some (.str (S a)) from py_str _, pys_strs r]
    rfl
theorem okSort_strs (l : List (List Nat)) : okSort (l.map fun a => PyData.str (S a)) = true := by
  unfold okSort
  simp only [Bool.and_eq_true]
  refine ⟨⟨?_, ?_⟩, ?_⟩
  · rw [List.all_eq_true]
    intro d hd
    rw [List.all_eq_true]
    intro e he
    obtain ⟨a, _, rfl⟩ := List.mem_map.mp hd
    obtain ⟨b, _, rfl⟩ := List.mem_map.mp he
    rfl
  · unfold sortB
    rw [Bool.or_eq_true]
    right
    rw [List.all_eq_true]
    intro d hd
    obtain ⟨a, _, rfl⟩ := List.mem_map.mp hd
    rfl
  · rw [List.all_eq_true]
    intro d hd
    obtain ⟨a, _, rfl⟩ := List.mem_map.mp hd
    rfl
theorem srtD_strs (l : List (List Nat)) : srtD ((l.map strD).zip (l.map fun a => PyData.str (S a))) = (srtL l).map strD := by
  have e0 : (l.map strD).zip (l.map fun a => PyData.str (S a)) = l.map fun a => (strD a, PyData.str (S a)) := by
    refine List.ext_getElem (by simp) fun i h1 h2 => by simp
  unfold srtD srtL
  rw [e0]
  have e1 : (l.map fun a => (strD a, PyData.str (S a))).mergeSort (PySem.W.dataLe false Prod.snd) = (l.mergeSort fun a b => decide (a ≤ b)).map fun a => (strD a, PyData.str (S a)) := by
    symm
    refine List.map_mergeSort fun a _ b _ => ?_
    have := PySem.W.dataLe_str (fun a : List Nat => S a)
    have h := congrFun (congrFun this a) b
    have e : ∀ a : List Nat, (S a).cps.toList = a := fun a => by first | rfl | simp [S]
    rw [e, e] at h
    exact h.symm
  rw [e1, List.map_map]
  rfl
theorem kSorted_strs (l : List (List Nat)) : kSorted [.lst (l.map strD)] = some (true, .lst ((srtL l).map strD)) := by
  show (match D.pys (l.map strD) with
    | some ps => if okSort ps = true then some (true, D.lst (srtD ((l.map strD).zip ps))) else none
    | none => none) = _
  rw [pys_strs]
  simp only [okSort_strs, if_true, srtD_strs]
theorem srtL_perm (l : List (List Nat)) : (srtL l).Perm l := List.mergeSort_perm _ _
theorem srtL_mem {l : List (List Nat)} {a : List Nat} : a ∈ srtL l ↔ a ∈ l := (srtL_perm l).mem_iff
theorem srtL_len (l : List (List Nat)) : (srtL l).length = l.length := (srtL_perm l).length_eq
/-- the lots of some letters -/
def lotsU : List Nat → List (List Nat) → List (List Nat)
  | [], acc => acc
  | c :: r, acc => lotsU r (acc ++ acc.map fun l => l ++ [c])
def lotsOf (a : List Nat) : List (List Nat) := srtL (lotsU a [[]])
theorem lotsU_snoc : ∀ (a : List Nat) (c : Nat) (acc : List (List Nat)), lotsU (a ++ [c]) acc = lotsU a acc ++ (lotsU a acc).map fun l => l ++ [c]
  | [], c, acc => rfl
  | b :: r, c, acc => lotsU_snoc r c _
theorem lotsU_len : ∀ (a : List Nat) (acc : List (List Nat)), (lotsU a acc).length = 2 ^ a.length * acc.length
  | [], acc => by simp [lotsU]
  | c :: r, acc => by
    rw [lotsU, lotsU_len r, List.length_append, List.length_map, List.length_cons, Nat.pow_succ, Nat.mul_assoc]
    congr 1
    omega
theorem lotsOf_len (a : List Nat) : (lotsOf a).length = 2 ^ a.length := by
  rw [lotsOf, srtL_len, lotsU_len]; simp
/-- a lot is a sublist of the letters -/
theorem lotsU_mem : ∀ (a : List Nat) (acc : List (List Nat)) (x : List Nat), x ∈ lotsU a acc ↔ ∃ p ∈ acc, ∃ q, x = p ++ q ∧ q.Sublist a
  | [], acc, x => by
    simp only [lotsU]
    constructor
    · intro h; exact ⟨x, h, [], by simp, .slnil⟩
    · rintro ⟨p, hp, q, rfl, hq⟩
      rw [List.sublist_nil.mp hq]; simpa using hp
  | c :: r, acc, x => by
    rw [lotsU, lotsU_mem r]
    constructor
    · rintro ⟨p, hp, q, rfl, hq⟩
      rcases List.mem_append.mp hp with hp | hp
      · exact ⟨p, hp, q, rfl, hq.cons c⟩
      · obtain ⟨z, hz, rfl⟩ := List.mem_map.mp hp
        exact ⟨z, hz, c :: q, by simp, hq.cons_cons c⟩
    · rintro ⟨p, hp, q, rfl, hq⟩
      cases hq with
      | cons _ h => exact ⟨p, by simp [hp], q, rfl, h⟩
      | cons_cons _ h =>
        rename_i q'
        exact ⟨p ++ [c], List.mem_append_right _ (List.mem_map.mpr ⟨p, hp, rfl⟩), q', by simp, h⟩
theorem lotsOf_mem {a x : List Nat} : x ∈ lotsOf a ↔ x.Sublist a := by
  rw [lotsOf, srtL_mem, lotsU_mem]
  constructor
  · rintro ⟨p, hp, q, rfl, hq⟩
    rw [List.mem_singleton.mp hp]
    simpa using hq
  · intro h
    exact ⟨[], by simp, x, by simp, h⟩
end DN
/-! M6: dicts of numbers with keys of any form; matters. -/
namespace DN
open PySem
open SX (S)
section
variable {α : Type} [BEq α] [LawfulBEq α] [DecidableEq α] (key : α → List L2.Key)
def numbK (cs : List α) : List (KL × D) := cs.zipIdx.map fun p => (key p.1, .int (p.2 : Int))
variable {key}
theorem lookK_numbK (inj : ∀ a b, key a = key b → a = b) : ∀ (cs : List α) (k : Nat) (x : α), lookK ((cs.zipIdx k).map fun p => (key p.1, D.int (p.2 : Int))) (key x) = (cs.idxOf? x).map fun i => D.int ((k + i : Nat) : Int)
  | [], k, x => rfl
  | c :: r, k, x => by
    rw [List.zipIdx_cons, List.map_cons]
    unfold lookK
    rw [List.find?_cons, List.idxOf?_cons]
    by_cases e : c = x
    · subst e; simp
    · have e2 : ¬ (key c = key x) := fun z => e (inj _ _ z)
      have ih := lookK_numbK inj r (k + 1) x
      unfold lookK at ih
      simp only [e2, decide_false, ih]
      have e3 : (c == x) = false := by simpa using e
      rw [e3]
      simp only [Bool.false_eq_true, if_false]
      cases r.idxOf? x with
      | none => rfl
      | some i => simp; omega
theorem dIn_numbK (inj : ∀ a b, key a = key b → a = b) {cs : List α} (h : cs ≠ []) (x : α) {d : D} (hd : tkeyOf d = some (key x)) : dIn d (dicT (numbK key cs)) = some (false, .bl (decide (x ∈ cs))) := by
  rw [dIn_dicT (by unfold numbK; cases cs with | nil => exact absurd rfl h | cons a r => simp) hd]
  unfold numbK
  rw [lookK_numbK inj]
  congr 3
  rw [Option.isSome_map, Bool.eq_iff_iff, decide_eq_true_iff, List.isSome_idxOf?]
theorem dNotIn_dicT {l : List (KL × D)} {x : D} {k : KL} (hl : l ≠ []) (hk : tkeyOf x = some k) : dNotIn x (dicT l) = some (false, .bl (!(lookK l k).isSome)) := by
  have h := getDK_dicT k l
  unfold dicT
  cases l with
  | nil => exact absurd rfl hl
  | cons p r =>
    rw [List.map_cons] at h ⊢
    show (tkeyOf x).bind (fun k => (getDK (_ :: _) k).map fun o => (false, D.bl (!o.isSome))) = _
    rw [hk]
    show (getDK (_ :: _) k).map (fun o => (false, D.bl (!o.isSome))) = _
    rw [h]
    rfl
theorem dNotIn_numbK (inj : ∀ a b, key a = key b → a = b) {cs : List α} (h : cs ≠ []) (x : α) {d : D} (hd : tkeyOf d = some (key x)) : dNotIn d (dicT (numbK key cs)) = some (false, .bl (!decide (x ∈ cs))) := by
  rw [dNotIn_dicT (by unfold numbK; cases cs with | nil => exact absurd rfl h | cons a r => simp) hd]
  unfold numbK
  rw [lookK_numbK inj]
  congr 4
  rw [Option.isSome_map, Bool.eq_iff_iff, decide_eq_true_iff, List.isSome_idxOf?]
theorem numbK_fold (inj : ∀ a b, key a = key b → a = b) {cs : List α} (hn : cs.Nodup) : (cs.zipIdx).foldl (fun acc p => putDK acc (key p.1) (.int (p.2 : Int))) [] = numbK key cs := by
  rw [fold_new (fun p : α × Nat => key p.1) (fun p => .int (p.2 : Int)) _ [] _ (by simp)]
  · rfl
  · have e : cs.zipIdx.map (fun p : α × Nat => key p.1) = cs.map key := by
      have z := List.map_map (f := (Prod.fst : α × Nat → α)) (g := key) (l := cs.zipIdx)
      rw [List.zipIdx_map_fst] at z
      exact z.symm
    rw [e]
    refine List.pairwise_map.mpr (List.Pairwise.imp ?_ hn)
    intro a b hab z
    exact hab (inj _ _ z)
end
/-! ### matters -/
abbrev Mat := List Nat × List Nat
def keyM (m : Mat) : KL := [.inr (S m.1), .inr (S m.2)]
theorem keyM_inj (a b : Mat) (h : keyM a = keyM b) : a = b := by
  unfold keyM at h
  have h1 := (List.cons.inj h).1
  have h2 := (List.cons.inj (List.cons.inj h).2).1
  exact Prod.ext (S_inj (Sum.inr.inj h1)) (S_inj (Sum.inr.inj h2))
theorem tkey_M (m : Mat) : tkeyOf (.tup [.str (S m.1), .str (S m.2)]) = some (keyM m) := rfl
def mattersOf (p : Mat) : List Mat := (lotsOf p.1).flatMap fun x => (lotsOf p.2).map fun y => (x, y)
theorem mattersOf_mem {p m : Mat} : m ∈ mattersOf p ↔ m.1.Sublist p.1 ∧ m.2.Sublist p.2 := by
  unfold mattersOf
  simp only [List.mem_flatMap, List.mem_map, lotsOf_mem]
  constructor
  · rintro ⟨x, hx, y, hy, rfl⟩; exact ⟨hx, hy⟩
  · rintro ⟨h1, h2⟩; exact ⟨m.1, h1, m.2, h2, rfl⟩
theorem mattersOf_ne (p : Mat) : mattersOf p ≠ [] := by
  intro z
  have : (([], []) : Mat) ∈ mattersOf p := mattersOf_mem.mpr ⟨List.nil_sublist _, List.nil_sublist _⟩
  rw [z] at this
  cases this
theorem snoc_ind' {α : Type} {P : List α → Prop} (h0 : P []) (h1 : ∀ r a, P r → P (r ++ [a])) (l : List α) : P l := by
  have : ∀ n, ∀ l : List α, l.length = n → P l := by
    intro n
    induction n with
    | zero => intro l h; rw [List.length_eq_zero_iff.mp h]; exact h0
    | succ n ih =>
      intro l h
      rcases nil_or_snoc l with rfl | ⟨r, a, rfl⟩
      · exact h0
      · exact h1 r a (ih r (by simpa using h))
  exact this _ l rfl
theorem lotsU_nodup {a : List Nat} (h : a.Nodup) : (lotsU a [[]]).Nodup := by
  induction a using snoc_ind' with
  | h0 => exact List.pairwise_singleton _ _
  | h1 r c ih =>
    rw [lotsU_snoc]
    have hr : r.Nodup := (List.nodup_append.mp h).1
    have hc : c ∉ r := fun z => (List.nodup_append.mp h).2.2 c z c (by simp) rfl
    have ih := ih hr
    have hm : ∀ x ∈ lotsU r [[]], c ∉ x := fun x hx z => by
      obtain ⟨p, hp, q, rfl, hq⟩ := (lotsU_mem _ _ _).mp hx
      rw [List.mem_singleton.mp hp] at z
      exact hc (hq.subset (by simpa using z))
    refine List.nodup_append.mpr ⟨ih, List.pairwise_map.mpr (List.Pairwise.imp (fun {x y} hxy e => hxy (List.append_inj_left' e rfl)) ih), ?_⟩
    intro x hx y hy e
    obtain ⟨z, hz, rfl⟩ := List.mem_map.mp hy
    exact hm x hx (by rw [e]; simp)
theorem lotsOf_nodup {a : List Nat} (h : a.Nodup) : (lotsOf a).Nodup := (srtL_perm _).nodup_iff.mpr (lotsU_nodup h)
theorem mattersOf_nodup {p : Mat} (h1 : p.1.Nodup) (h2 : p.2.Nodup) : (mattersOf p).Nodup := by
  unfold mattersOf
  refine List.pairwise_flatMap.mpr ⟨fun x _ => List.pairwise_map.mpr (List.Pairwise.imp (fun {y z} hyz e => hyz (Prod.mk.inj e).2) (lotsOf_nodup h2)), ?_⟩
  refine List.Pairwise.imp ?_ (lotsOf_nodup h1)
  intro x y hxy a ha b hb e
  obtain ⟨u, _, rfl⟩ := List.mem_map.mp ha
  obtain ⟨v, _, rfl⟩ := List.mem_map.mp hb
  exact hxy (Prod.mk.inj e).1
theorem mattersOf_len (p : Mat) : (mattersOf p).length = 2 ^ p.1.length * 2 ^ p.2.length := by
  unfold mattersOf
  have : ∀ l : List (List Nat), (l.flatMap fun x => (lotsOf p.2).map fun y => (x, y)).length = l.length * 2 ^ p.2.length := by
    intro l
    induction l with
    | nil => simp
    | cons a r ih => rw [List.flatMap_cons, List.length_append, ih, List.length_map, lotsOf_len, List.length_cons, Nat.succ_mul, Nat.add_comm]
  rw [this, lotsOf_len]
/-! a lot is told by its letters -/
theorem filter_sub {x a : List Nat} (h : x.Sublist a) (hn : a.Nodup) : a.filter (fun c => decide (c ∈ x)) = x := by
  induction h with
  | slnil => rfl
  | cons c h ih =>
    rename_i l1 l2
    have hc := (List.nodup_cons.mp hn)
    have : c ∉ l1 := fun z => hc.1 (h.subset z)
    rw [List.filter_cons, if_neg (by simpa using this), ih hc.2]
  | cons_cons c h ih =>
    rename_i l1 l2
    have hc := (List.nodup_cons.mp hn)
    rw [List.filter_cons, if_pos (by simp)]
    congr 1
    refine Eq.trans ?_ (ih hc.2)
    refine List.filter_congr fun d hd => ?_
    have : d ≠ c := fun z => hc.1 (z ▸ hd)
    simp [this]
theorem filter_sublist_iff {x a : List Nat} (hn : a.Nodup) : a.filter (fun c => decide (c ∈ x)) = x ↔ x.Sublist a := by
  constructor
  · intro h; rw [← h]; exact List.filter_sublist
  · intro h; exact filter_sub h hn
end DN
/-! M7: sorted matters; a nodup list within another. -/
namespace DN
open PySem
open SX (S)
theorem ltL_trans {a b c : List Nat} (h : a ≤ b) (h' : b ≤ c) : a ≤ c := List.le_trans h h'
theorem leL_total (a b : List Nat) : a ≤ b ∨ b ≤ a := List.le_total a b
theorem leL_antisymm {a b : List Nat} (h : a ≤ b) (h' : b ≤ a) : a = b := List.le_antisymm h h'
theorem ltL_iff {a b : List Nat} : a < b ↔ a ≤ b ∧ a ≠ b := by
  constructor
  · intro h
    refine ⟨List.le_of_lt h, fun e => ?_⟩
    subst e
    exact List.lt_irrefl a h
  · rintro ⟨h, hne⟩
    rcases Decidable.em (a < b) with z | z
    · exact z
    · exact absurd (leL_antisymm h (List.not_lt.mp z)) hne
/-- the order of matters -/
def leM (a b : Mat) : Bool := decide (a.1 < b.1 ∨ (a.1 = b.1 ∧ a.2 ≤ b.2))
theorem leM_iff {a b : Mat} : leM a b = true ↔ a.1 < b.1 ∨ (a.1 = b.1 ∧ a.2 ≤ b.2) := by simp [leM]
theorem leM_total (a b : Mat) : (leM a b || leM b a) = true := by
  rw [Bool.or_eq_true, leM_iff, leM_iff]
  by_cases e : a.1 = b.1
  · rcases leL_total a.2 b.2 with h | h
    · exact .inl (.inr ⟨e, h⟩)
    · exact .inr (.inr ⟨e.symm, h⟩)
  · rcases leL_total a.1 b.1 with h | h
    · exact .inl (.inl (ltL_iff.mpr ⟨h, e⟩))
    · exact .inr (.inl (ltL_iff.mpr ⟨h, fun z => e z.symm⟩))
theorem leM_trans (a b c : Mat) (h : leM a b = true) (h' : leM b c = true) : leM a c = true := by
  rw [leM_iff] at *
  rcases h with h | ⟨h1, h2⟩
  · rcases h' with h' | ⟨h3, h4⟩
    · exact .inl (List.lt_trans h h')
    · exact .inl (h3 ▸ h)
  · rcases h' with h' | ⟨h3, h4⟩
    · exact .inl (h1 ▸ h')
    · exact .inr ⟨h1.trans h3, ltL_trans h2 h4⟩
theorem leM_antisymm {a b : Mat} (h : leM a b = true) (h' : leM b a = true) : a = b := by
  rw [leM_iff] at *
  rcases h with h | ⟨h1, h2⟩
  · rcases h' with h' | ⟨h3, h4⟩
    · exact absurd (List.lt_trans h h') (List.lt_irrefl _)
    · exact absurd (h3 ▸ h) (List.lt_irrefl _)
  · rcases h' with h' | ⟨h3, h4⟩
    · exact absurd (h1 ▸ h') (List.lt_irrefl _)
    · exact Prod.ext h1 (leL_antisymm h2 h4)
def srtM (l : List Mat) : List Mat := l.mergeSort leM
theorem srtM_perm (l : List Mat) : (srtM l).Perm l := List.mergeSort_perm _ _
theorem srtM_sorted (l : List Mat) : (srtM l).Pairwise fun a b => leM a b = true := List.pairwise_mergeSort leM_trans leM_total l
theorem srtL_sorted (l : List (List Nat)) : (srtL l).Pairwise fun a b => a ≤ b := by
  have := List.pairwise_mergeSort (le := fun a b : List Nat => decide (a ≤ b)) (fun a b c h h' => by
    simp at *
    exact ltL_trans h h') (fun a b => by
    simp
    exact leL_total a b) l
  exact this.imp fun h => of_decide_eq_true h
abbrev matD (m : Mat) : D := .tup [.str (S m.1), .str (S m.2)]
abbrev matP (m : Mat) : PyData := .tuple [.str (S m.1), .str (S m.2)]
theorem py_mat (m : Mat) : D.py (matD m) = some (matP m) := by
  unfold D.py
  unfold D.pys
  rw [py_str]
  unfold D.pys
  rw [py_str]
  unfold D.pys
  rfl
theorem dataLt_S (a b : List Nat) : PySem.W.dataLt (.str (S a)) (.str (S b)) = decide (a < b) := by
  have h := congrFun (congrFun (PySem.W.dataLe_str (fun x : List Nat => S x)) b) a
  rw [PySem.W.dataLe_eq] at h
  have e : ∀ a : List Nat, (S a).cps.toList = a := fun a => rfl
  rw [e, e] at h
  have h : (!PySem.W.dataLt (.str (S a)) (.str (S b))) = decide (b ≤ a) := h
  have z : PySem.W.dataLt (.str (S a)) (.str (S b)) = !decide (b ≤ a) := by rw [← h, Bool.not_not]
  rw [z, Bool.eq_iff_iff]
  simp [List.not_le]
theorem dataLe_mat : PySem.W.dataLe false (fun m : Mat => matP m) = leM := by
  rw [PySem.W.dataLe_eq]
  funext a b
  show (!PySem.W.dataLt (matP b) (matP a)) = leM a b
  rw [PySem.W.dataLt_pair rfl rfl, dataLt_S, dataLt_S]
  have e1 : PyData.eqv (.str (S b.1)) (.str (S a.1)) = decide (b.1 = a.1) := S_bne _ _
  have e2 : PyData.eqv (.str (S b.2)) (.str (S a.2)) = decide (b.2 = a.2) := S_bne _ _
  rw [e1, e2, Bool.eq_iff_iff, leM_iff]
  by_cases h1 : b.1 = a.1
  · by_cases h2 : b.2 = a.2
    · simp [h1, h2]
    · simp only [h1, h2, decide_true, decide_false, if_true, Bool.false_eq_true, if_false, Bool.not_eq_true', decide_eq_false_iff_not, List.not_lt]
      constructor
      · intro z; exact .inr ⟨trivial, z⟩
      · rintro (z | ⟨_, z⟩)
        · exact absurd z (List.lt_irrefl _)
        · exact z
  · simp only [h1, decide_false, Bool.false_eq_true, if_false, Bool.not_eq_true', decide_eq_false_iff_not, List.not_lt]
    constructor
    · intro z; exact .inl (ltL_iff.mpr ⟨z, fun e => h1 e.symm⟩)
    · rintro (z | ⟨e, _⟩)
      · exact List.le_of_lt z
      · exact absurd e.symm h1
theorem kSorted_mats (l : List Mat) : kSorted [.lst (l.map matD)] = some (true, .lst ((srtM l).map matD)) := by
  show (match D.pys (l.map matD) with
    | some ps => if okSort ps = true then some (true, D.lst (srtD ((l.map matD).zip ps))) else none
    | none => none) = _
  rw [pys_map matD matP py_mat]
  have ok : okSort (l.map matP) = true := by
    unfold okSort
    simp only [Bool.and_eq_true]
    refine ⟨⟨?_, ?_⟩, ?_⟩
    · rw [List.all_eq_true]
      intro d hd
      rw [List.all_eq_true]
      intro e he
      obtain ⟨a, _, rfl⟩ := List.mem_map.mp hd
      obtain ⟨b, _, rfl⟩ := List.mem_map.mp he
      rfl
    · unfold sortB
      rw [Bool.or_eq_true]
      left
      rw [List.all_eq_true]
      intro d hd
      obtain ⟨a, _, rfl⟩ := List.mem_map.mp hd
      rfl
    · rw [List.all_eq_true]
      intro d hd
      obtain ⟨a, _, rfl⟩ := List.mem_map.mp hd
      rfl
  simp only [ok, if_true]
  have e0 : (l.map matD).zip (l.map matP) = l.map fun a => (matD a, matP a) := by
    refine List.ext_getElem (by simp) fun i h1 h2 => by simp
  have e1 : (l.map fun a => (matD a, matP a)).mergeSort (PySem.W.dataLe false Prod.snd) = (l.mergeSort leM).map fun a => (matD a, matP a) := by
    symm
    refine List.map_mergeSort fun a _ b _ => ?_
    exact (congrFun (congrFun dataLe_mat a) b).symm
  unfold srtD srtM
  rw [e0, e1, List.map_map]
  rfl
theorem mattersOf_sorted {p : Mat} (h1 : p.1.Nodup) : (mattersOf p).Pairwise fun a b => leM a b = true := by
  unfold mattersOf
  refine List.pairwise_flatMap.mpr ⟨fun x _ => List.pairwise_map.mpr (by
    refine List.Pairwise.imp ?_ (srtL_sorted (lotsU p.2 [[]]))
    intro y z h
    exact leM_iff.mpr (.inr ⟨rfl, h⟩)), ?_⟩
  have h2 : (lotsOf p.1).Pairwise fun a b => a < b := by
    have a1 : (lotsOf p.1).Pairwise fun a b => a ≤ b := srtL_sorted _
    have a2 := lotsOf_nodup h1
    exact (a1.and a2).imp fun h => ltL_iff.mpr h
  refine h2.imp fun {x y} h a ha b hb => ?_
  obtain ⟨u, _, rfl⟩ := List.mem_map.mp ha
  obtain ⟨v, _, rfl⟩ := List.mem_map.mp hb
  exact leM_iff.mpr (.inl h)
theorem srtM_matters {p : Mat} (h1 : p.1.Nodup) {l : List Mat} (h : l.Perm (mattersOf p)) : srtM l = mattersOf p :=
  List.Perm.eq_of_pairwise (fun a b _ _ x y => leM_antisymm x y) (srtM_sorted l) (mattersOf_sorted h1) ((srtM_perm l).trans h)
theorem perm_of_sub {α : Type} [BEq α] [LawfulBEq α] : ∀ {l m : List α}, l.Nodup → (∀ a ∈ l, a ∈ m) → m.length ≤ l.length → m.Perm l
  | [], m, _, _, h => by
    have : m = [] := List.eq_nil_of_length_eq_zero (Nat.le_zero.mp h)
    rw [this]
  | a :: r, m, hn, hs, hl => by
    have ha : a ∈ m := hs a (by simp)
    have h1 := List.perm_cons_erase ha
    refine h1.trans (List.Perm.cons a (perm_of_sub (List.nodup_cons.mp hn).2 (fun b hb => ?_) ?_))
    · have hne : b ≠ a := fun e => (List.nodup_cons.mp hn).1 (e ▸ hb)
      exact (List.mem_erase_of_ne hne).mpr (hs b (by simp [hb]))
    · have := h1.length_eq
      simp at this hl
      omega
/-! places of matters -/
theorem dIx_dicT {l : List (KL × D)} {x : D} {k : KL} (hl : l ≠ []) (hk : tkeyOf x = some k) : dIx (dicT l) x = (lookK l k).map fun d => (false, d) := by
  have h := getDK_dicT k l
  unfold dicT
  cases l with
  | nil => exact absurd rfl hl
  | cons p r =>
    rw [List.map_cons] at h ⊢
    show (tkeyOf x).bind (fun k => (getDK (_ :: _) k).bind fun o => o.map fun d => (false, d)) = _
    rw [hk]
    show (getDK (_ :: _) k).bind (fun o => o.map fun d => (false, d)) = _
    rw [h]
    rfl
theorem dIx_numbK {α : Type} [BEq α] [LawfulBEq α] [DecidableEq α] {key : α → List L2.Key} (inj : ∀ a b, key a = key b → a = b) {cs : List α} {x : α} (h : x ∈ cs) {d : D} (hd : tkeyOf d = some (key x)) : dIx (dicT (numbK key cs)) d = some (false, .int ((cs.idxOf? x).getD 0 : Nat)) := by
  have hne : cs ≠ [] := fun z => by rw [z] at h; cases h
  rw [dIx_dicT (by unfold numbK; cases cs with | nil => exact absurd rfl hne | cons a r => simp) hd]
  unfold numbK
  rw [lookK_numbK inj]
  have hs := List.isSome_idxOf?.mpr h
  cases k : cs.idxOf? x with
  | none => rw [k] at hs; cases hs
  | some i => simp
theorem eqv_mat (a b : Mat) : PyData.eqv (matP a) (matP b) = decide (a = b) := by
  show ((S a.1 == S b.1) && ((S a.2 == S b.2) && true)) = _
  rw [S_bne, S_bne, Bool.and_true, Bool.eq_iff_iff]
  simp
  exact Prod.ext_iff.symm
theorem ixD_mats (m : Mat) : ∀ l : List Mat, ixD (matP m) (l.map matP) = l.idxOf? m
  | [] => rfl
  | a :: r => by
    rw [List.map_cons, List.idxOf?_cons]
    unfold ixD
    rw [eqv_mat, ixD_mats m r]
    by_cases h : a = m
    · subst h; simp
    · have h2 : (a == m) = false := by simpa using h
      rw [h2]
      simp [h]
theorem can_mat {m : Mat} (h1 : Lo m.1) (h2 : Lo m.2) : PyData.canLay0 (matP m) = true := by
  show (PyData.canLay0 (.str (S m.1)) && (PyData.canLay0 (.str (S m.2)) && true)) = true
  rw [can_S h1, can_S h2]
  rfl
theorem sh_mat {m : Mat} (h1 : Lo m.1) (h2 : Lo m.2) : SeqAt.shaped (matP m) = true := sh_of (can_mat h1 h2) (by show max 0 (max 0 0) + 1 ≤ 64; decide)
theorem sh_mats : ∀ {l : List Mat}, (∀ m ∈ l, Lo m.1 ∧ Lo m.2) → SeqAt.shaped (.list (l.map matP)) = true := fun {l} h => by
  refine sh_of ?_ ?_
  · show PyData.canLayAll0 (l.map matP) = true
    induction l with
    | nil => rfl
    | cons a r ih =>
      show (PyData.canLay0 (matP a) && PyData.canLayAll0 (r.map matP)) = true
      rw [can_mat (h a (by simp)).1 (h a (by simp)).2, ih fun m hm => h m (by simp [hm])]
      rfl
  · show PyData.depthAll (l.map matP) + 1 ≤ 64
    have := depth_map matP 1 (fun a => Nat.le_refl _) l
    omega
theorem dIndex_mats {l : List Mat} {m : Mat} (h : ∀ m ∈ l, Lo m.1 ∧ Lo m.2) (hm : m ∈ l) : dIndex (.lst (l.map matD)) (matD m) = some (false, .int ((l.idxOf? m).getD 0 : Nat)) := by
  unfold dIndex
  simp only [py_mat, pys_map matD matP py_mat]
  rw [if_pos ⟨sh_mat (h m hm).1 (h m hm).2, sh_mats h⟩, ixD_mats]
  have hs := List.isSome_idxOf?.mpr hm
  cases k : l.idxOf? m with
  | none => rw [k] at hs; cases hs
  | some i => rfl
theorem dEq_mats {l k : List Mat} (h : ∀ m ∈ l, Lo m.1 ∧ Lo m.2) (h' : ∀ m ∈ k, Lo m.1 ∧ Lo m.2) : dEq (.lst (l.map matD)) (.lst (k.map matD)) = some (false, .bl (decide (l = k))) := by
  have e : ∀ x : List Mat, D.py (.lst (x.map matD)) = some (.list (x.map matP)) := fun x => by unfold D.py; rw [pys_map matD matP py_mat]; rfl
  unfold dEq
  simp only [e]
  rw [if_pos ⟨sh_mats h, sh_mats h'⟩]
  congr 3
  show PyData.eqvAll (l.map matP) (k.map matP) = _
  have : ∀ l k : List Mat, PyData.eqvAll (l.map matP) (k.map matP) = decide (l = k) := by
    intro l
    induction l with
    | nil => intro k; cases k <;> rfl
    | cons a r ih =>
      intro k
      cases k with
      | nil => rfl
      | cons b q =>
        show (PyData.eqv (matP a) (matP b) && PyData.eqvAll (r.map matP) (q.map matP)) = _
        rw [ih q, eqv_mat]
        by_cases h : a = b
        · subst h; simp
        · simp [h]
  exact this l k
theorem dNe_mat {a b : Mat} (ha : Lo a.1 ∧ Lo a.2) (hb : Lo b.1 ∧ Lo b.2) : dNe (matD a) (matD b) = some (false, .bl (decide (a ≠ b))) := by
  unfold dNe
  simp only [py_mat]
  rw [if_pos ⟨sh_mat ha.1 ha.2, sh_mat hb.1 hb.2⟩, eqv_mat]
  by_cases h : a = b <;> simp [h]
end DN
/-! M8: lists of numbers compared, a number in a tuple; texts joined; any of truths. -/
namespace DN
open PySem PySem.Spec PyProof.Rows L2 SX
abbrev iN (i : Nat) : D := .int (i : Int)
theorem iN_map (x : List Nat) : x.map iN = (x.map fun i : Nat => (i : Int)).map D.int := by rw [List.map_map]; rfl
theorem cast_inj {x y : List Nat} (h : (x.map fun i : Nat => (i : Int)) = y.map fun i : Nat => (i : Int)) : x = y := by
  induction x generalizing y with
  | nil => cases y with
    | nil => rfl
    | cons _ _ => cases h
  | cons a r ih => cases y with
    | nil => cases h
    | cons b q =>
      rw [List.map_cons, List.map_cons] at h
      injection h with h1 h2
      rw [ih h2, Int.ofNat.inj h1]
theorem sh_lI (x : List Int) : SeqAt.shaped (.list (x.map .int)) = true := sh_list_map PyData.int (fun _ => rfl) (fun _ => by simp [PyData.depth]) x
theorem py_lI (x : List Int) : D.py (.lst (x.map .int)) = some (.list (x.map .int)) := by
  unfold D.py
  rw [pys_map_int]
  rfl
theorem dEq_lI (x y : List Int) : dEq (.lst (x.map .int)) (.lst (y.map .int)) = some (false, .bl (decide (x = y))) := by
  unfold dEq
  simp only [py_lI]
  rw [if_pos ⟨sh_lI _, sh_lI _⟩]
  congr 3
  exact eqvAll_int x y
theorem dNe_lI (x y : List Int) : dNe (.lst (x.map .int)) (.lst (y.map .int)) = some (false, .bl (decide (x ≠ y))) := by
  unfold dNe
  simp only [py_lI]
  rw [if_pos ⟨sh_lI _, sh_lI _⟩]
  have e : PyData.eqv (.list (x.map .int)) (.list (y.map .int)) = decide (x = y) := eqvAll_int x y
  rw [e]
  by_cases h : x = y <;> simp [h]
theorem dNe_lN (x y : List Nat) : dNe (.lst (x.map iN)) (.lst (y.map iN)) = some (false, .bl (decide (x ≠ y))) := by
  rw [iN_map, iN_map, dNe_lI]
  by_cases h : x = y
  · subst h; simp
  · have : (x.map fun i : Nat => (i : Int)) ≠ y.map fun i : Nat => (i : Int) := fun z => h (cast_inj z)
    simp only [decide_eq_true h, decide_eq_true this]
theorem any_int (i : Int) : ∀ x : List Int, ((x.map PyData.int).any fun z => PyData.eqv z (.int i)) = decide (i ∈ x)
  | [] => rfl
  | a :: r => by
    rw [List.map_cons, List.any_cons, any_int i r]
    show ((a == i) || _) = _
    by_cases h : a = i
    · subst h; simp
    · have h2 : ¬ i = a := fun z => h z.symm
      simp [h, h2]
theorem dIn_tInt (i : Int) (x : List Int) : dIn (.int i) (.tup (x.map .int)) = some (false, .bl (decide (i ∈ x))) := by
  unfold dIn
  simp only [py_int, pys_map_int]
  rw [if_pos ⟨sh_int i, sh_tI x⟩, any_int]
theorem dNotIn_tInt (i : Int) (x : List Int) : dNotIn (.int i) (.tup (x.map .int)) = some (false, .bl (!decide (i ∈ x))) := by
  unfold dNotIn
  simp only [py_int, pys_map_int]
  rw [if_pos ⟨sh_int i, sh_tI x⟩, any_int]
theorem cast_mem {i : Nat} {x : List Nat} : (i : Int) ∈ (x.map fun i : Nat => (i : Int)) ↔ i ∈ x := by
  constructor
  · intro h
    obtain ⟨j, hj, e⟩ := List.mem_map.mp h
    have : j = i := Int.ofNat.inj e
    exact this ▸ hj
  · exact fun h => List.mem_map.mpr ⟨i, h, rfl⟩
theorem dIn_tN (i : Nat) (x : List Nat) : dIn (.int (i : Int)) (.tup (x.map iN)) = some (false, .bl (decide (i ∈ x))) := by
  rw [iN_map, dIn_tInt]
  simp only [cast_mem]
theorem dNotIn_tN (i : Nat) (x : List Nat) : dNotIn (.int (i : Int)) (.tup (x.map iN)) = some (false, .bl (!decide (i ∈ x))) := by
  rw [iN_map, dNotIn_tInt]
  simp only [cast_mem]
theorem sum_SL : ∀ l : List (List Nat), ((l.map S).map Str.length).sum = (l.map List.length).sum
  | [] => rfl
  | a :: r => by rw [List.map_cons, List.map_cons, List.sum_cons, sum_SL r, SX.S_len]; rfl
/-- "".join of texts -/
theorem dJoin_SL {α : Type} (f : α → List Nat) (l : List α) (h : (l.map fun a => (f a).length).sum ≤ 16777216) : dJoin (.str (S [])) (.lst (l.map fun a => .str (S (f a)))) = some (false, .str (S (l.flatMap f))) := by
  show (match D.strs (l.map fun t => D.str (S (f t))) with
    | some ys => if (ys.map Str.length).sum + ys.length * (S []).length ≤ 16777216 then some (false, D.str (Txt.join (S []) ys)) else none
    | none => none) = _
  rw [strs_mapS f l]
  show (if ((l.map fun t => S (f t)).map Str.length).sum + (l.map fun t => S (f t)).length * (S []).length ≤ 16777216 then _ else _) = _
  have e2 : (l.map fun t => S (f t)) = (l.map f).map S := by rw [List.map_map]; rfl
  have e3 : ((l.map f).map List.length).sum = (l.map fun a => (f a).length).sum := by rw [List.map_map]; rfl
  rw [e2, sum_SL, e3, SX.S_len, if_pos (by simpa using h), SX.join_S, joinL_nil, List.flatMap]
theorem bls_map : ∀ x : List Bool, D.bls (x.map .bl) = some x
  | [] => rfl
  | a :: r => by
    rw [List.map_cons]
    unfold D.bls
    rw [bls_map r]
theorem kAny_map {α : Type} (f : α → Bool) (l : List α) : kAny [.lst (l.map fun a => .bl (f a))] = some (false, .bl (l.any f)) := by
  have e : (l.map fun a => D.bl (f a)) = (l.map f).map D.bl := by rw [List.map_map]; rfl
  show (match D.bls (l.map fun a => D.bl (f a)) with
    | some bs => some (false, D.bl (bs.any id))
    | none => none) = _
  rw [e, bls_map]
  simp [List.any_map]
end DN
namespace K34
open PySem DN
open SX (S)
@[simp] abbrev tI (x : List Int) : D := .tup (x.map .int)
@[simp] abbrev lI (x : List Int) : D := .lst (x.map .int)
@[simp] abbrev lT (l : List (List Int)) : D := .lst (l.map fun x => .tup (x.map .int))
/-! cell, draws -/
theorem sp__law_cell (n : Nat) {ns : List Int} {k : Nat} (hk : k ≤ 1000) : run Ls (n + 1) ("_law_cell", none) [.scr ns, .int (k : Int)] = .ok (false, .int (ns[k]?.getD 0)) := by
  rw [u__law_cell]
  simp only [c__law_cell, SC.ev, EC.ev, LC.ev, AC.ev, BC.ev, OC.ev, IC.ev]
  by_cases h : k < ns.length
  · have e : dIx (.scr ns) (.int (k : Int)) = some (false, .int (ns[k]?.getD 0)) := dIx_scr_i (ixN_nat h) (by simp [h])
    simp [h, e]
  · simp [h]
def Dr (l : List Int) (m : Nat) : Prop := l.length = m ∧ ∀ x ∈ l, 0 ≤ x ∧ x < 1000
theorem sp__law_draws (n : Nat) {ns : List Int} {k m : Nat} (hk : k ≤ 1000) (hm : m ≤ 1000) : ∃ l, run Ls (n + 2) ("_law_draws", none) [.scr ns, .int (k : Int), .int (m : Int)] = .ok (true, lI l) ∧ Dr l m := by
  rw [u__law_draws]
  simp only [c__law_draws, SC.ev, EC.ev, LC.ev, AC.ev, BC.ev, OC.ev, IC.ev]
  refine wpE ?_
  simp only [sSeq_asg]
  simp [-sSeq_if, sp__law_cell n hk]
  generalize hc : (if ns[k]?.getD 0 < 0 then -ns[k]?.getD 0 else ns[k]?.getD 0) = c
  have hc0 : 0 ≤ c := by rw [← hc]; split <;> omega
  generalize (c + 7919 * (k : Int) + 1) % 2147483629 = sd
  have hb : ∀ v : Int, -18446744073709551616 < v % 2147483629 ∧ v % 2147483629 < 18446744073709551616 := fun v => by omega
  have go : ∀ v : Int, 0 ≤ v % 1000 ∧ v % 1000 < 1000 := fun v => by omega
  refine seq_mid (fun s => ∃ l c' j, s = [some (.fr (.scr ns)), some (.fr (.int k)), some (.fr (.int m)), some (.fr (.int c')), some (.fr (.int sd)), some (.ow (lI l)), j, none, none] ∧ l.length ≤ m ∧ ∀ x ∈ l, 0 ≤ x ∧ x < 1000) ?_ ?_
  · by_cases h : 1000000000000000000 ≤ c
    · simp only [sIf_ev]
      simp [-sSeq_if, h]
      refine seq_range m ?_ (fun i s => ∃ l c' j, s = [some (.fr (.scr ns)), some (.fr (.int k)), some (.fr (.int m)), some (.fr (.int c')), some (.fr (.int sd)), some (.ow (lI l)), j, none, none] ∧ l.length ≤ i ∧ ∀ x ∈ l, 0 ≤ x ∧ x < 1000) ?_ ?_ ?_
      · simp [kRange_nat (show m ≤ 1000000 by omega)]
      · exact ⟨[], c, none, rfl, by simp, by simp⟩
      · rintro i hi s ⟨l, c', j, rfl, h1, h2⟩
        have hl : l.length < LIM := by rw [LIM_eq]; omega
        by_cases h0 : 0 < c'
        · simp [h0, hl]
          refine ⟨l ++ [c' % 1000], by simp, by simp; omega, fun x hx => ?_⟩
          rcases List.mem_append.mp hx with hx | hx
          · exact h2 x hx
          · simp at hx; subst hx; exact go _
        · simp [h0]
          exact ⟨l, rfl, by omega, h2⟩
      · rintro s ⟨l, c', j, rfl, h1, h2⟩
        simp
        exact ⟨l, rfl, h1, h2⟩
    · simp only [sIf_ev]
      simp [-sSeq_if, h]
  · rintro s ⟨l, c', j, rfl, h1, h2⟩
    refine seq_range2 (l.length : Int) (m - l.length) (by simp [kRange_two (show (l.length : Int) ≤ 1000000 by omega) (by omega) (show (m : Int) ≤ 1000000 by omega) (by omega)])
      (fun i s => ∃ l' j6 j7 j8, s = [some (.fr (.scr ns)), some (.fr (.int k)), some (.fr (.int m)), some (.fr (.int c')), some (.fr (.int sd)), some (.ow (lI l')), j6, j7, j8] ∧ l'.length = l.length + i ∧ ∀ x ∈ l', 0 ≤ x ∧ x < 1000) ⟨l, j, none, none, rfl, by simp, h2⟩ ?_ ?_
    · rintro i hi s ⟨l', j6, j7, j8, rfl, h3, h4⟩
      have hl : l'.length < LIM := by rw [LIM_eq]; omega
      simp [hl, hb]
      refine ⟨l' ++ [_], by rw [List.map_append]; rfl, by simp; omega, fun x hx => ?_⟩
      rcases List.mem_append.mp hx with hx | hx
      · exact h4 x hx
      · simp at hx; subst hx; exact go _
    · rintro s ⟨l', j6, j7, j8, rfl, h3, h4⟩
      simp
      exact ⟨l', rfl, by omega, h4⟩
/-! same -/
def PlF (P : D → Prop) : D → Prop
  | .non => True
  | .bl _ => True
  | .int _ => True
  | .str s => PyData.canLay0 (.str s) = true
  | .tup l => l.length ≤ 100000 ∧ ∀ d ∈ l, P d
  | .lst l => l.length ≤ 100000 ∧ ∀ d ∈ l, P d
  | _ => False
/-- plain data of depth k at most -/
def Pl : Nat → D → Prop
  | 0 => PlF fun _ => False
  | k + 1 => PlF (Pl k)
theorem list_eq_iff {l m : List D} (h : l.length = m.length) : l = m ↔ ∀ i (h1 : i < l.length) (h2 : i < m.length), l[i] = m[i] := by
  constructor
  · rintro rfl i _ _; rfl
  · intro z
    exact List.ext_getElem h z
theorem same_loop {C : Call} {w : (List D) → D} {l m : List D} {x y : D} (hl : l.length = m.length) (hm : m.length ≤ 100000) (ex : ∀ i (h : i < l.length), dIx x (.int (i : Int)) = some (false, l[i])) (ey : ∀ i (h : i < m.length), dIx y (.int (i : Int)) = some (false, m[i]))
    (lx : kLen [y] = some (false, .int m.length)) (ih : ∀ i (h1 : i < l.length) (h2 : i < m.length), ∃ r, C ("_law_same", none) [l[i], m[i]] = .ok (false, .bl r) ∧ (r = true ↔ l[i] = m[i])) :
    Wp (FinE false (fun r => R.ok (false, .bl r)) fun r => r = true ↔ l = m) (sSeq (sFor (Tg.nm 2) (iA kRange (aCons (lOf (eA kLen (aCons (lVar 1) aNil))) aNil)) []
      (sSeq (sIf (bNot (bTruth (lOf (eCall ("_law_same", none) (aDef (aCons (lOf (e2 dIx (lVar 0) (lVar 2))) (aCons (lOf (e2 dIx (lVar 1) (lVar 2))) aNil)) []))))) (sSeq (sRet (eC (.bl false))) sNx) sNx) sNx)) (sSeq (sRet (eC (.bl true))) sNx) C [some (.fr x), some (.fr y), none]) := by
  refine seq_range m.length (by simp [lx, kRange_nat (show m.length ≤ 1000000 by omega)]) (fun i s => (∀ j (h1 : j < l.length) (h2 : j < m.length), j < i → l[j] = m[j]) ∧ ∃ j, s = [some (.fr x), some (.fr y), j]) ⟨fun j _ _ h => absurd h (by omega), _, rfl⟩ ?_ ?_
  · rintro i hi s ⟨h, j, rfl⟩
    obtain ⟨r, e, hr⟩ := ih i (by omega) hi
    cases r with
    | true =>
      simp [ex i (by omega), ey i hi, e]
      intro j h1 h2 h3
      rcases Nat.lt_succ_iff_lt_or_eq.mp h3 with h3 | h3
      · exact h j h1 h2 h3
      · subst h3; exact hr.mp rfl
    | false =>
      simp [ex i (by omega), ey i hi, e]
      rintro rfl
      have := hr.mpr rfl
      cases this
  · rintro s ⟨h, j, rfl⟩
    simp
    exact (list_eq_iff hl).mpr fun i h1 h2 => h i h1 h2 h2
theorem same_step {C : Call} {P : D → Prop} {a b : D} (ih : ∀ a b, P a → P b → ∃ r, C ("_law_same", none) [a, b] = .ok (false, .bl r) ∧ (r = true ↔ a = b)) (ha : PlF P a) (hb : PlF P b) :
    ∃ r, fin false (c__law_same.ev C [some (.fr a), some (.fr b), none]) = .ok (false, .bl r) ∧ (r = true ↔ a = b) := by
  simp only [c__law_same, SC.ev, EC.ev, LC.ev, AC.ev, BC.ev, OC.ev, IC.ev]
  refine wpE ?_
  cases b with
  | scr _ => exact hb.elim
  | dic _ => exact hb.elim
  | obj _ _ => exact hb.elim
  | cls _ => exact hb.elim
  | ft _ => exact hb.elim
  | rng _ => exact hb.elim
  | non =>
    cases a with
    | scr _ => exact ha.elim
    | dic _ => exact ha.elim
    | obj _ _ => exact ha.elim
    | cls _ => exact ha.elim
    | ft _ => exact ha.elim
    | rng _ => exact ha.elim
    | _ => simp [isK]
  | int j =>
    cases a with
    | scr _ => exact ha.elim
    | dic _ => exact ha.elim
    | obj _ _ => exact ha.elim
    | cls _ => exact ha.elim
    | ft _ => exact ha.elim
    | rng _ => exact ha.elim
    | _ => simp [isK, dEq_int]
  | bl j =>
    cases a with
    | scr _ => exact ha.elim
    | dic _ => exact ha.elim
    | obj _ _ => exact ha.elim
    | cls _ => exact ha.elim
    | ft _ => exact ha.elim
    | rng _ => exact ha.elim
    | _ => simp [isK, dEq_bl]
  | str j =>
    cases a with
    | scr _ => exact ha.elim
    | dic _ => exact ha.elim
    | obj _ _ => exact ha.elim
    | cls _ => exact ha.elim
    | ft _ => exact ha.elim
    | rng _ => exact ha.elim
    | str i => simp [isK, dEq_str ha hb]
    | _ => simp [isK]
  | tup m =>
    cases a with
    | scr _ => exact ha.elim
    | dic _ => exact ha.elim
    | obj _ _ => exact ha.elim
    | cls _ => exact ha.elim
    | ft _ => exact ha.elim
    | rng _ => exact ha.elim
    | tup l =>
      by_cases hl : l.length = m.length
      · have e : ((l.length : Int) = m.length) := by omega
        simp [isK, dNe_int, e]
        exact same_loop (w := D.tup) hl hb.1 (fun i h => dIx_tup_i (ixN_nat h) (by simp [h])) (fun i h => dIx_tup_i (ixN_nat h) (by simp [h])) rfl (fun i h1 h2 => ih _ _ (ha.2 _ (List.getElem_mem h1)) (hb.2 _ (List.getElem_mem h2)))
      · have e : ¬ ((l.length : Int) = m.length) := by omega
        simp [isK, dNe_int, e]
        rintro rfl
        exact hl rfl
    | _ => simp [isK]
  | lst m =>
    cases a with
    | scr _ => exact ha.elim
    | dic _ => exact ha.elim
    | obj _ _ => exact ha.elim
    | cls _ => exact ha.elim
    | ft _ => exact ha.elim
    | rng _ => exact ha.elim
    | lst l =>
      by_cases hl : l.length = m.length
      · have e : ((l.length : Int) = m.length) := by omega
        simp [isK, dNe_int, e]
        exact same_loop (w := D.lst) hl hb.1 (fun i h => dIx_lst_i (ixN_nat h) (by simp [h])) (fun i h => dIx_lst_i (ixN_nat h) (by simp [h])) rfl (fun i h1 h2 => ih _ _ (ha.2 _ (List.getElem_mem h1)) (hb.2 _ (List.getElem_mem h2)))
      · have e : ¬ ((l.length : Int) = m.length) := by omega
        simp [isK, dNe_int, e]
        rintro rfl
        exact hl rfl
    | _ => simp [isK]
theorem sp__law_same : ∀ (k n : Nat) {a b : D}, Pl k a → Pl k b → ∃ r, run Ls (n + k + 1) ("_law_same", none) [a, b] = .ok (false, .bl r) ∧ (r = true ↔ a = b)
  | 0, n, a, b, ha, hb => by
    rw [u__law_same]
    exact same_step (P := fun _ => False) (fun _ _ h _ => h.elim) ha hb
  | k + 1, n, a, b, ha, hb => by
    rw [u__law_same]
    exact same_step (P := Pl k) (fun a b h1 h2 => sp__law_same k n h1 h2) ha hb
theorem same_eq {k n : Nat} {a : D} (ha : Pl k a) : run Ls (n + k + 1) ("_law_same", none) [a, a] = .ok (false, .bl true) := by
  obtain ⟨r, e, h⟩ := sp__law_same k n ha ha
  rw [e, h.mpr rfl]
theorem Pl_int (k : Nat) (i : Int) : Pl k (.int i) := by cases k <;> trivial
theorem Pl_tI (k : Nat) {x : List Int} (h : x.length ≤ 100000) : Pl (k + 1) (tI x) := ⟨by simpa using h, fun d hd => by
  obtain ⟨i, _, rfl⟩ := List.mem_map.mp hd
  exact Pl_int _ _⟩
theorem Pl_lT (k : Nat) {l : List (List Int)} (h : l.length ≤ 100000) (h2 : ∀ x ∈ l, x.length ≤ 100000) : Pl (k + 2) (lT l) := ⟨by simpa using h, fun d hd => by
  obtain ⟨x, hx, rfl⟩ := List.mem_map.mp hd
  exact Pl_tI _ (h2 x hx)⟩
/-! lots -/
@[simp] abbrev stD (a : List Nat) : D := .str (S a)
@[simp] abbrev maD (m : List Nat × List Nat) : D := .tup [.str (S m.1), .str (S m.2)]
abbrev strD1 (c : Nat) : D := .str (S [c])
def subB (x y : List Nat) : Bool := x.all fun c => decide (c ∈ y)
theorem sp__law_within (n : Nat) (x y : List Nat) : run Ls (n + 1) ("_law_within", none) [stD x, stD y] = .ok (false, .bl (subB x y)) := by
  rw [u__law_within]
  simp only [c__law_within, SC.ev, HC.ev, EC.ev, LC.ev, AC.ev, BC.ev, OC.ev, IC.ev]
  refine wpF (seq_eachR (fun c : Nat => D.str (S [c])) x (fun c => c ∉ y) (.bl false) (by simp [items_S]) (fun s => ∃ j, s = [some (.fr (stD x)), some (.fr (stD y)), j]) ⟨none, by simp⟩ ?_ ?_ ?_)
  · rintro c hc s ⟨j, rfl⟩
    refine ⟨_, rfl, ?_⟩
    by_cases h : c ∈ y
    · exact .inr ⟨by simpa using h, by simp [dNotIn_S1, h]⟩
    · exact .inl ⟨h, by simp [dNotIn_S1, h]⟩
  · rintro ⟨c, hc, h⟩
    have e : subB x y = false := by
      unfold subB
      rw [List.all_eq_false]
      exact ⟨c, hc, by simpa using h⟩
    simp [e]
  · rintro h s ⟨j, rfl⟩
    have e : subB x y = true := by
      unfold subB
      rw [List.all_eq_true]
      exact fun c hc => by simpa using h c hc
    simp [e]
theorem sp_all_lots (n : Nat) {a : List Nat} (ha : a.length ≤ 8) : run Ls (n + 1) ("all_lots", none) [stD a] = .ok (true, .lst ((lotsOf a).map strD)) := by
  rw [u_all_lots]
  simp only [c_all_lots, SC.ev, HC.ev, EC.ev, LC.ev, AC.ev, BC.ev, OC.ev, IC.ev]
  have LM : LIM = 16000000 := LIM_eq
  refine wpF ?_
  simp [nil_eq]
  refine seq_map (fun c : Nat => D.str (S [c])) a (by simp [items_S]) (fun i s => ∃ j, s = [some (.fr (stD a)), some (.ow (.lst ((lotsU (a.take i) [[]]).map strD))), j, none]) ⟨none, by simp [lotsU]⟩ ?_ ?_
  · rintro i hi s ⟨j, rfl⟩
    refine ⟨_, rfl, ?_⟩
    have e1 : a.take (i + 1) = a.take i ++ [a[i]] := by rw [List.take_succ, List.getElem?_eq_getElem hi]; rfl
    have hU : (lotsU (a.take i) [[]]).length ≤ 256 := by
      rw [lotsU_len]
      have h1 : (a.take i).length ≤ 8 := by simp; omega
      have h2 := Nat.pow_le_pow_right (n := 2) (by omega) h1
      simp only [List.length_cons, List.length_nil, Nat.zero_add, Nat.mul_one]
      exact Nat.le_trans h2 (by decide)
    have hm : ∀ x ∈ lotsU (a.take i) [[]], x.length ≤ 8 := fun x hx => by
      obtain ⟨p, hp, q, rfl, hq⟩ := (lotsU_mem _ _ _).mp hx
      rw [List.mem_singleton.mp hp]
      have := hq.length_le
      simp at this ⊢
      omega
    rw [e1, lotsU_snoc]
    generalize lotsU (a.take i) [[]] = U at hU hm
    generalize a[i] = c
    simp
    rw [eLc_eq strD U (fun _ => true) (fun l => strD (l ++ [c])) (by simp) (by omega) (fun l hl => ⟨_, rfl, by simp, fun _ => by
      have := hm l hl
      simp [dAdd_S (a := l) (b := [c]) (by simp; omega)]⟩)]
    have h2 : U.length + U.length ≤ LIM := by omega
    simp [h2, Function.comp_def]
  · rintro s ⟨j, rfl⟩
    rw [List.take_of_length_le (Nat.le_refl _)]
    have e := kSorted_strs (lotsU a [[]])
    simp [e, lotsOf]
/-! letters of the two sides -/
/-- the letters of two sides, most of them in all -/
structure GS (p : Mat) (most : Nat) : Prop where
  pm : ∃ P, (p.1 ++ p.2 ++ P).Perm abc
  lo : 1 ≤ p.1.length + p.2.length
  hi : p.1.length + p.2.length ≤ most
theorem Dr.ix {l : List Int} {m : Nat} (h : Dr l m) {i : Int} (h0 : 0 ≤ i) (h1 : i < m) : ∃ v, dIx (.lst (l.map .int)) (.int i) = some (false, .int v) ∧ 0 ≤ v ∧ v < 1000 := by
  have hl : i.toNat < l.length := by rw [h.1]; omega
  refine ⟨l[i.toNat], dIx_lst_i (ixN_of h0 (by rw [List.length_map, h.1]; omega)) (by simp [hl]), h.2 _ (List.getElem_mem hl)⟩
theorem perm_l {A B P Q : List Nat} {c : Nat} (h : (A ++ B ++ (P ++ c :: Q)).Perm abc) : (A ++ [c] ++ B ++ (P ++ Q)).Perm abc := by
  refine List.Perm.trans ?_ h
  rw [List.perm_iff_count]
  intro a
  simp only [List.count_append, List.count_cons, List.count_nil]
  omega
theorem perm_r {A B P Q : List Nat} {c : Nat} (h : (A ++ B ++ (P ++ c :: Q)).Perm abc) : (A ++ (B ++ [c]) ++ (P ++ Q)).Perm abc := by
  refine List.Perm.trans ?_ h
  rw [List.perm_iff_count]
  intro a
  simp only [List.count_append, List.count_cons, List.count_nil]
  omega
theorem split_at {P : List Nat} {q : Nat} (hq : q < P.length) : P = P.take q ++ P[q]?.getD 0 :: P.drop (q + 1) := by
  rw [List.getElem?_eq_getElem hq, Option.getD_some, ← List.drop_eq_getElem_cons hq, List.take_append_drop]
theorem pow_ix {i : Nat} (h : i < 8) : ∃ v : Int, dIx (.tup [.int 1, .int 2, .int 4, .int 8, .int 16, .int 32, .int 64, .int 128]) (.int (i : Int)) = some (false, .int v) ∧ 0 < v ∧ v < 1073741824 := by
  have : i = 0 ∨ i = 1 ∨ i = 2 ∨ i = 3 ∨ i = 4 ∨ i = 5 ∨ i = 6 ∨ i = 7 := by omega
  rcases this with rfl | rfl | rfl | rfl | rfl | rfl | rfl | rfl <;> exact ⟨_, rfl, by decide, by decide⟩
theorem sp__law_letters (n : Nat) {l : List Int} {m at_ most : Nat} (hl : Dr l m) (hm : at_ + 2 + most ≤ m) (h1 : 1 ≤ most) (h8 : most ≤ 8) : ∃ p : Mat, run Ls (n + 1) ("_law_letters", none) [lI l, .int (at_ : Int), .int (most : Int)] = .ok (false, maD p) ∧ GS p most := by
  rw [u__law_letters]
  simp only [c__law_letters, SC.ev, EC.ev, LC.ev, AC.ev, BC.ev, OC.ev, IC.ev]
  refine wpE ?_
  obtain ⟨v0, e0, z0⟩ := hl.ix (i := (at_ : Int)) (by omega) (by omega)
  obtain ⟨v1, e1, z1⟩ := hl.ix (i := (at_ : Int) + 1) (by omega) (by omega)
  simp [abc_eq, nil_eq]
  have hp : 0 < (most : Int) := by omega
  have hp2 : 0 < most := by omega
  obtain ⟨N, hN, hN1, hN2⟩ : ∃ N : Nat, 1 + v0 % (most : Int) = N ∧ 1 ≤ N ∧ N ≤ most := ⟨(1 + v0 % (most : Int)).toNat, by have := Int.emod_nonneg v0 (show (most : Int) ≠ 0 by omega); omega, by have := Int.emod_nonneg v0 (show (most : Int) ≠ 0 by omega); omega, by have := Int.emod_lt_of_pos v0 hp; omega⟩
  refine seq_range N (by simp [e0, hp, hp2, hN]; rw [kRange_nat (by omega)]; rfl)
    (fun i s => ∃ P A B j6 j7, s = [some (.fr (lI l)), some (.fr (.int at_)), some (.fr (.int most)), some (.fr (.str (S P))), some (.fr (.str (S A))), some (.fr (.str (S B))), j6, j7] ∧ (A ++ B ++ P).Perm abc ∧ A.length + B.length = i) ?_ ?_ ?_
  · exact ⟨abc, [], [], none, none, rfl, by simp, by simp⟩
  · rintro i hi s ⟨P, A, B, j6, j7, rfl, h, hc⟩
    obtain ⟨v2, e2, h2⟩ := hl.ix (i := (at_ : Int) + 2 + (i : Int)) (by omega) (by omega)
    obtain ⟨v3, e3, h3, h4⟩ := pow_ix (i := i) (by omega)
    have hle : A.length + B.length + P.length = 26 := by
      have := h.length_eq
      simp [abc] at this
      omega
    have hP : 0 < (P.length : Int) := by omega
    obtain ⟨q, hq⟩ : ∃ q : Nat, v2 % (P.length : Int) = q := ⟨(v2 % (P.length : Int)).toNat, by have := Int.emod_nonneg v2 (show (P.length : Int) ≠ 0 by omega); omega⟩
    have hq2 : q < P.length := by have := Int.emod_lt_of_pos v2 hP; omega
    have hPl : P.length ≤ LIM := by rw [LIM_eq]; omega
    have hP2 : 0 < P.length := by omega
    have hA : A.length + 1 ≤ LIM := by rw [LIM_eq]; omega
    have hB : B.length + 1 ≤ LIM := by rw [LIM_eq]; omega
    have hq3 : q + (P.length - (q + 1)) ≤ LIM := by rw [LIM_eq]; omega
    have hq4 : min q P.length = q := by omega
    have hsp := split_at hq2
    by_cases c : v1 / v3 % 2 = 1
    · simp [e1, e2, e3, h3, h4, c, dEq_int, hq, dIx_S hq2 hPl, dCut_S_to hPl, dCut_S_from1 hPl, kLen_S hPl, hP2, dAdd_S, hq3, hq4, hA, hB]
      refine ⟨_, _, _, ⟨rfl, rfl, rfl⟩, ?_, ?_⟩
      · rw [hsp] at h
        simpa using perm_l h
      · simp; omega
    · simp [e1, e2, e3, h3, h4, c, dEq_int, hq, dIx_S hq2 hPl, dCut_S_to hPl, dCut_S_from1 hPl, kLen_S hPl, hP2, dAdd_S, hq3, hq4, hA, hB]
      refine ⟨_, _, _, ⟨rfl, rfl, rfl⟩, ?_, ?_⟩
      · rw [hsp] at h
        simpa using perm_r h
      · simp; omega
  · rintro s ⟨P, A, B, j6, j7, rfl, h, hc⟩
    simp
    exact ⟨A, B, ⟨rfl, rfl⟩, ⟨P, by simpa using h⟩, by simp; omega, by simp; omega⟩
section
variable {p : Mat} {most : Nat}
theorem GS.nd (h : GS p most) : (p.1 ++ p.2).Nodup := by
  obtain ⟨P, h⟩ := h.pm
  have : abc.Nodup := by decide +kernel
  exact (List.nodup_append.mp (h.nodup_iff.mpr this)).1
theorem GS.nd1 (h : GS p most) : p.1.Nodup := (List.nodup_append.mp h.nd).1
theorem GS.nd2 (h : GS p most) : p.2.Nodup := (List.nodup_append.mp h.nd).2.1
theorem GS.dj (h : GS p most) : ∀ c ∈ p.1, c ∉ p.2 := fun c h1 h2 => (List.nodup_append.mp h.nd).2.2 c h1 c h2 rfl
theorem GS.abc (h : GS p most) : (∀ c ∈ p.1, c ∈ DN.abc) ∧ ∀ c ∈ p.2, c ∈ DN.abc := by
  obtain ⟨P, h⟩ := h.pm
  exact ⟨fun c hc => h.mem_iff.mp (by simp [hc]), fun c hc => h.mem_iff.mp (by simp [hc])⟩
theorem GS.l1 (h : GS p most) : p.1.length ≤ most := by have := h.hi; omega
theorem GS.l2 (h : GS p most) : p.2.length ≤ most := by have := h.hi; omega
theorem GS.up (h : GS p most) {k : Nat} (hk : most ≤ k) : GS p k := ⟨h.pm, h.lo, by have := h.hi; omega⟩
theorem GS.lo1 (h : GS p most) : Lo p.1 := fun c hc => abc_lt _ (h.abc.1 c hc)
theorem GS.lo2 (h : GS p most) : Lo p.2 := fun c hc => abc_lt _ (h.abc.2 c hc)
end
/-- a matter of the sides -/
def GM (p m : Mat) : Prop := m.1.Sublist p.1 ∧ m.2.Sublist p.2
theorem GM.l1 {p m : Mat} (h : GM p m) : m.1.length ≤ p.1.length := h.1.length_le
theorem GM.l2 {p m : Mat} (h : GM p m) : m.2.length ≤ p.2.length := h.2.length_le
theorem pair_ix0 (a b : D) : dIx (.tup [a, b]) (.int 0) = some (false, a) := (rfl)
theorem pair_ix1 (a b : D) : dIx (.tup [a, b]) (.int 1) = some (false, b) := (rfl)
theorem tri_ix0 (a b c : D) : dIx (.tup [a, b, c]) (.int 0) = some (false, a) := (rfl)
theorem tri_ix1 (a b c : D) : dIx (.tup [a, b, c]) (.int 1) = some (false, b) := (rfl)
theorem tri_ix2 (a b c : D) : dIx (.tup [a, b, c]) (.int 2) = some (false, c) := (rfl)
theorem sp__law_lot (n : Nat) {a : List Nat} {b : Int} (ha : a.length ≤ 8) : ∃ x : List Nat, run Ls (n + 1) ("_law_lot", none) [.int b, stD a] = .ok (false, stD x) ∧ x.Sublist a := by
  rw [u__law_lot]
  simp only [c__law_lot, SC.ev, EC.ev, LC.ev, AC.ev, BC.ev, OC.ev, IC.ev]
  refine wpE ?_
  have hal : a.length ≤ LIM := by rw [LIM_eq]; omega
  simp [nil_eq]
  refine seq_range a.length (by simp [kLen_S hal, kRange_nat (show a.length ≤ 1000000 by omega)])
    (fun i s => ∃ x j, s = [some (.fr (.int b)), some (.fr (stD a)), some (.fr (stD x)), j] ∧ x.Sublist (a.take i)) ⟨[], none, rfl, by simp⟩ ?_ ?_
  · rintro i hi s ⟨x, j, rfl, h⟩
    obtain ⟨v, e, h3, h4⟩ := pow_ix (i := i) (by omega)
    have hx : x.length + 1 ≤ LIM := by
      have := h.length_le
      rw [List.length_take] at this
      rw [LIM_eq]
      omega
    have e1 : a.take (i + 1) = a.take i ++ [a[i]?.getD 0] := by rw [List.take_succ, List.getElem?_eq_getElem hi]; rfl
    by_cases c : b / v % 2 = 1
    · simp [e, h3, h4, c, dEq_int, dIx_S hi hal, dAdd_S, hx]
      rw [e1]
      exact h.append (List.Sublist.refl _)
    · simp [e, h3, h4, c, dEq_int]
      rw [e1]
      exact h.trans (List.sublist_append_left _ _)
  · rintro s ⟨x, j, rfl, h⟩
    simp
    simpa using h
theorem sp__law_matter (n : Nat) {l : List Int} {m at_ : Nat} {p : Mat} (hl : Dr l m) (hm : at_ + 2 ≤ m) (g : GS p 8) : ∃ x : Mat, run Ls (n + 2) ("_law_matter", none) [lI l, .int (at_ : Int), maD p] = .ok (false, maD x) ∧ GM p x := by
  rw [u__law_matter]
  simp only [c__law_matter, SC.ev, EC.ev, LC.ev, AC.ev, BC.ev, OC.ev, IC.ev]
  obtain ⟨v0, e0, z0⟩ := hl.ix (i := (at_ : Int)) (by omega) (by omega)
  obtain ⟨v1, e1, z1⟩ := hl.ix (i := (at_ : Int) + 1) (by omega) (by omega)
  obtain ⟨x, ex, hx⟩ := sp__law_lot n (b := v0) g.l1
  obtain ⟨y, ey, hy⟩ := sp__law_lot n (b := v1) g.l2
  refine ⟨(x, y), ?_, hx, hy⟩
  simp [e0, e1, pair_ix0, pair_ix1, ex, ey]
def overB (m o : Mat) : Bool := subB o.1 m.1 && subB m.2 o.2
theorem sp__law_over (n : Nat) (m o : Mat) : run Ls (n + 2) ("_law_over", none) [maD m, maD o] = .ok (false, .bl (overB m o)) := by
  rw [u__law_over]
  simp only [c__law_over, SC.ev, EC.ev, LC.ev, AC.ev, BC.ev, OC.ev, IC.ev]
  have e1 := sp__law_within n o.1 m.1
  have e2 := sp__law_within n m.2 o.2
  simp [pair_ix0, pair_ix1, e1, e2, overB]
  cases subB o.1 m.1 <;> simp
/-! holdings -/
structure Hld where
  m : Mat
  s : Int
  r : List Nat
deriving DecidableEq
def h00 : Hld := ⟨([], []), 0, []⟩
@[simp] abbrev hoD (h : Hld) : D := .tup [.tup [.str (S h.m.1), .str (S h.m.2)], .int h.s, .str (S h.r)]
structure GH (p : Mat) (h : Hld) : Prop where
  m : GM p h.m
  s : h.s = 0 ∨ h.s = 1
  r : h.r.Sublist (if h.s = 1 then h.m.1 else h.m.2)
def coreM (h : Hld) : Mat := if h.s = 1 then (h.r, h.m.2) else (h.m.1, h.r)
theorem GH.core {p : Mat} {h : Hld} (g : GH p h) : GM p (coreM h) := by
  have hr := g.r
  have hm := g.m
  unfold coreM GM at *
  split
  · rename_i hs
    rw [if_pos hs] at hr
    exact ⟨hr.trans hm.1, hm.2⟩
  · rename_i hs
    rw [if_neg hs] at hr
    exact ⟨hm.1, hr.trans hm.2⟩
theorem sp__law_core (n : Nat) (h : Hld) : run Ls (n + 1) ("_law_core", none) [hoD h] = .ok (false, maD (coreM h)) := by
  rw [u__law_core]
  simp only [c__law_core, SC.ev, EC.ev, LC.ev, AC.ev, BC.ev, OC.ev, IC.ev]
  by_cases c : h.s = 1
  · simp [tri_ix0, tri_ix1, tri_ix2, pair_ix0, pair_ix1, dEq_int, c, coreM]
  · simp [tri_ix0, tri_ix1, tri_ix2, pair_ix0, pair_ix1, dEq_int, c, coreM]
def decB (h : Hld) (m : Mat) : Bool := if h.s = 1 then overB m (coreM h) else overB (coreM h) m
def clashB (w l : Hld) : Bool := overB (coreM l) (coreM w)
theorem sp__law_clash (n : Nat) (w l : Hld) : run Ls (n + 3) ("_law_clash", none) [hoD w, hoD l] = .ok (false, .bl (clashB w l)) := by
  rw [u__law_clash]
  simp only [c__law_clash, SC.ev, EC.ev, LC.ev, AC.ev, BC.ev, OC.ev, IC.ev]
  have e0 := sp__law_core (n + 1) w
  have e1 := sp__law_core (n + 1) l
  have e2 := sp__law_over n (coreM l) (coreM w)
  simp at e0 e1
  simp [e0, e1, e2, clashB]
def fightB (a b : Hld) : Bool := if a.s = 1 ∧ b.s = 0 then clashB a b else if a.s = 0 ∧ b.s = 1 then clashB b a else false
theorem sp__law_fight (n : Nat) (a b : Hld) : run Ls (n + 4) ("_law_fight", none) [hoD a, hoD b] = .ok (false, .bl (fightB a b)) := by
  rw [u__law_fight]
  simp only [c__law_fight, SC.ev, EC.ev, LC.ev, AC.ev, BC.ev, OC.ev, IC.ev]
  have e1 := sp__law_clash n a b
  have e2 := sp__law_clash n b a
  simp at e1 e2
  have hh : ∀ x : Int, x = 1 ∨ x = 0 ∨ (x ≠ 1 ∧ x ≠ 0) := fun x => by omega
  rcases hh a.s with c | c | c <;> rcases hh b.s with d | d | d <;> simp [tri_ix1, dEq_int, c, d, fightB] <;> simp [c, d] at e1 e2 <;> simp [e1, e2]
theorem sp__law_peaceful (n : Nat) (rows : List Hld) (h : Hld) : run Ls (n + 5) ("_law_peaceful", none) [.lst (rows.map hoD), hoD h] = .ok (false, .bl (rows.all fun o => !fightB h o)) := by
  rw [u__law_peaceful]
  simp only [c__law_peaceful, SC.ev, EC.ev, LC.ev, AC.ev, BC.ev, OC.ev, IC.ev]
  refine wpF (seq_eachR hoD rows (fun o => fightB h o = true) (.bl false) (by simp) (fun s => ∃ j, s = [some (.fr (.lst (rows.map hoD))), some (.fr (hoD h)), j]) ⟨none, by simp⟩ ?_ ?_ ?_)
  · rintro o ho s ⟨j, rfl⟩
    refine ⟨_, rfl, ?_⟩
    have e := sp__law_fight n h o
    simp at e
    by_cases c : fightB h o = true
    · exact .inl ⟨c, by simp [e, c]⟩
    · exact .inr ⟨c, by simp at c; simp [e, c]⟩
  · rintro ⟨o, ho, c⟩
    have e : (rows.all fun o => !fightB h o) = false := by
      rw [List.all_eq_false]
      exact ⟨o, ho, by simp [c]⟩
    simp [e]
  · rintro c s ⟨j, rfl⟩
    have e : (rows.all fun o => !fightB h o) = true := by
      rw [List.all_eq_true]
      intro o ho
      have := c o ho
      simpa using this
    simp [e]
theorem sp__law_holding (n : Nat) {l : List Int} {m at_ : Nat} {p : Mat} (hl : Dr l m) (hm : at_ + 4 ≤ m) (g : GS p 8) : ∃ h : Hld, run Ls (n + 3) ("_law_holding", none) [lI l, .int (at_ : Int), maD p] = .ok (false, hoD h) ∧ GH p h := by
  rw [u__law_holding]
  simp only [c__law_holding, SC.ev, EC.ev, LC.ev, AC.ev, BC.ev, OC.ev, IC.ev]
  obtain ⟨x, ex, hx⟩ := sp__law_matter n (at_ := at_) hl (by omega) g
  obtain ⟨v2, e2, z2⟩ := hl.ix (i := (at_ : Int) + 2) (by omega) (by omega)
  obtain ⟨v3, e3, z3⟩ := hl.ix (i := (at_ : Int) + 3) (by omega) (by omega)
  simp at ex
  have h1 : x.1.length ≤ 8 := Nat.le_trans hx.l1 g.l1
  have h2 : x.2.length ≤ 8 := Nat.le_trans hx.l2 g.l2
  obtain ⟨y1, f1, q1⟩ := sp__law_lot (n + 1) (b := v3) h1
  obtain ⟨y2, f2, q2⟩ := sp__law_lot (n + 1) (b := v3) h2
  have hs : v2 % 2 = 0 ∨ v2 % 2 = 1 := by omega
  rcases hs with c | c
  · refine ⟨⟨x, 0, y2⟩, ?_, hx, .inl rfl, by simpa using q2⟩
    simp [ex, e2, e3, c, pair_ix1, f2]
  · refine ⟨⟨x, 1, y1⟩, ?_, hx, .inr rfl, by simpa using q1⟩
    simp [ex, e2, e3, c, pair_ix0, f1]
theorem sp__law_holdings (n : Nat) {l : List Int} {m many : Nat} {p : Mat} (kept : Bool) (hl : Dr l m) (hm : 4 * many ≤ m) (h20 : many ≤ 1000) (g : GS p 8) :
    ∃ rows : List Hld, run Ls (n + 6) ("_law_holdings", none) [lI l, .int 0, maD p, .int (many : Int), .bl kept] = .ok (true, .lst (rows.map hoD)) ∧ (∀ h ∈ rows, GH p h) ∧ rows.length = many := by
  rw [u__law_holdings]
  simp only [c__law_holdings, SC.ev, EC.ev, LC.ev, AC.ev, BC.ev, OC.ev, IC.ev]
  refine wpE ?_
  simp
  refine seq_range many (by simp [kRange_nat (show many ≤ 1000000 by omega)]) (fun i s => ∃ rows j6 j7, s = [some (.fr (lI l)), some (.fr (.int 0)), some (.fr (maD p)), some (.fr (.int many)), some (.fr (.bl kept)), some (.ow (.lst (rows.map hoD))), j6, j7] ∧ (∀ h ∈ rows, GH p h) ∧ rows.length = i)
    ⟨[], none, none, rfl, by simp, rfl⟩ ?_ ?_
  · rintro i hi s ⟨rows, j6, j7, rfl, h1, h2⟩
    have hlim : rows.length < LIM := by rw [LIM_eq]; omega
    obtain ⟨h, e, gh⟩ := sp__law_holding (n + 2) (at_ := 4 * i) hl (by omega) g
    obtain ⟨mm, ss, rr⟩ := h
    have e0 : ((4 * i : Nat) : Int) = 4 * (i : Int) := by omega
    rw [e0] at e
    simp at e
    have hsr := gh.s
    have hmm := gh.m
    have fin1 : ∀ h : Hld, GH p h → ∀ z, z = [some (Sl.fr (lI l)), some (.fr (.int 0)), some (.fr (maD p)), some (.fr (.int many)), some (.fr (.bl kept)), some (.ow (.lst (rows.map hoD ++ [hoD h]))), some (.fr (.int (i : Int))), some (.fr (hoD h))] →
      ∃ (rows : List Hld) (j6 j7 : Option Sl), z = [some (Sl.fr (lI l)), some (.fr (.int 0)), some (.fr (maD p)), some (.fr (.int many)), some (.fr (.bl kept)), some (.ow (.lst (rows.map hoD))), j6, j7] ∧ (∀ h ∈ rows, GH p h) ∧ rows.length = i + 1 := by
      rintro h gh z rfl
      refine ⟨rows ++ [h], _, _, by rw [List.map_append]; rfl, fun x hx => ?_, by simp [h2]⟩
      rcases List.mem_append.mp hx with hx | hx
      · exact h1 x hx
      · simp at hx; subst hx; exact gh
    simp at fin1
    rcases hsr with rfl | rfl
    · have f1 := fin1 _ gh
      have f2 := fin1 ⟨mm, 0, mm.2⟩ ⟨hmm, .inl rfl, by simp⟩
      have f3 := fin1 ⟨mm, 1, mm.1⟩ ⟨hmm, .inr rfl, by simp⟩
      have ep1 := sp__law_peaceful n rows ⟨mm, 0, rr⟩
      simp only [hoD] at ep1
      have ep2 := sp__law_peaceful n rows ⟨mm, 0, mm.2⟩
      simp only [hoD] at ep2
      generalize (rows.all fun o => !fightB ⟨mm, 0, rr⟩ o) = p1 at ep1
      generalize (rows.all fun o => !fightB ⟨mm, 0, mm.2⟩ o) = p2 at ep2
      cases kept
      · simp [e, hlim]
        exact f1
      · cases p1
        · cases p2
          · simp [e, ep1, ep2, hlim, tri_ix0, tri_ix1, tri_ix2, pair_ix0, pair_ix1]
            exact f3
          · simp [e, ep1, ep2, hlim, tri_ix0, tri_ix1, tri_ix2, pair_ix0, pair_ix1]
            exact f2
        · simp [e, ep1, hlim]
          exact f1
    · have f1 := fin1 _ gh
      have f2 := fin1 ⟨mm, 1, mm.1⟩ ⟨hmm, .inr rfl, by simp⟩
      have f3 := fin1 ⟨mm, 0, mm.2⟩ ⟨hmm, .inl rfl, by simp⟩
      have ep1 := sp__law_peaceful n rows ⟨mm, 1, rr⟩
      simp only [hoD] at ep1
      have ep2 := sp__law_peaceful n rows ⟨mm, 1, mm.1⟩
      simp only [hoD] at ep2
      generalize (rows.all fun o => !fightB ⟨mm, 1, rr⟩ o) = p1 at ep1
      generalize (rows.all fun o => !fightB ⟨mm, 1, mm.1⟩ o) = p2 at ep2
      cases kept
      · simp [e, hlim]
        exact f1
      · cases p1
        · cases p2
          · simp [e, ep1, ep2, hlim, tri_ix0, tri_ix1, tri_ix2, pair_ix0, pair_ix1]
            exact f3
          · simp [e, ep1, ep2, hlim, tri_ix0, tri_ix1, tri_ix2, pair_ix0, pair_ix1]
            exact f2
        · simp [e, ep1, hlim]
          exact f1
  · rintro s ⟨rows, j6, j7, rfl, h1, h2⟩
    simp
    exact ⟨rows, rfl, h1, h2⟩
/-! all matters -/
theorem lots_step {a : List Nat} (ha : a.length ≤ 8) {i : Nat} : (lotsU (a.take i) [[]]).length ≤ 256 ∧ ∀ x ∈ lotsU (a.take i) [[]], x.length ≤ 8 := by
  refine ⟨?_, fun x hx => ?_⟩
  · rw [lotsU_len]
    have h1 : (a.take i).length ≤ 8 := by simp; omega
    have h2 := Nat.pow_le_pow_right (n := 2) (by omega) h1
    simp only [List.length_cons, List.length_nil, Nat.zero_add, Nat.mul_one]
    exact Nat.le_trans h2 (by decide)
  · obtain ⟨p, hp, q, rfl, hq⟩ := (lotsU_mem _ _ _).mp hx
    rw [List.mem_singleton.mp hp]
    have := hq.length_le
    simp at this ⊢
    omega
theorem GS.mlen {p : Mat} {most : Nat} (h : GS p most) (h8 : most ≤ 8) : (mattersOf p).length ≤ 256 := by
  rw [mattersOf_len, ← Nat.pow_add]
  have := h.hi
  exact Nat.le_trans (Nat.pow_le_pow_right (n := 2) (by omega) (show p.1.length + p.2.length ≤ 8 by omega)) (by decide)
/-! some of them -/
/-! levels -/
def caseM (p m : Mat) : List Int := (p.1.map fun c => if c ∈ m.1 then 1 else 0) ++ p.2.map fun c => if c ∈ m.2 then 0 else 1
theorem kInt_bl (b : Bool) : kInt [.bl b] = some (false, .int (if b = true then 1 else 0)) := (rfl)
/-! a pair of texts that is no matter -/
theorem rest_len {p : Mat} {most : Nat} (g : GS p most) (h8 : most ≤ 8) : 18 ≤ (abc.filter fun c => !decide (c ∈ p.1 ++ p.2)).length := by
  obtain ⟨P, hp⟩ := g.pm
  have h1 := (hp.filter fun c => !decide (c ∈ p.1 ++ p.2)).length_eq
  rw [← h1]
  have hl := hp.length_eq
  have hn : (p.1 ++ p.2 ++ P).Nodup := hp.nodup_iff.mpr (by decide +kernel)
  have hd := (List.nodup_append.mp hn).2.2
  have h2 : P.filter (fun c => !decide (c ∈ p.1 ++ p.2)) = P := by
    rw [List.filter_eq_self]
    intro c hc
    have : c ∉ p.1 ++ p.2 := fun z => hd c z c hc rfl
    simp only [this, decide_false, Bool.not_false]
  rw [List.filter_append, h2, List.length_append]
  have h3 := g.hi
  simp [abc] at hl
  omega
theorem not_sub_of_mem {x a : List Nat} {c : Nat} (h : c ∈ x) (h2 : c ∉ a) : ¬ x.Sublist a := fun z => h2 (z.subset h)
theorem not_sub_of_count {x a : List Nat} {c : Nat} (hn : a.Nodup) (h : 2 ≤ x.count c) : ¬ x.Sublist a := fun z => by
  have h1 := z.count_le c
  have h2 := List.nodup_iff_count.mp hn c
  omega
theorem sp__law_bad_matter (n : Nat) {l : List Int} {m at_ : Nat} {p : Mat} (hl : Dr l m) (hm : at_ + 3 ≤ m) (g : GS p 8) :
    ∃ x : Mat, run Ls (n + 3) ("_law_bad_matter", none) [lI l, .int (at_ : Int), maD p] = .ok (false, maD x) ∧ ¬ GM p x ∧ (x.1.length ≤ 20 ∧ x.2.length ≤ 20) ∧ Lo x.1 ∧ Lo x.2 := by
  rw [u__law_bad_matter]
  simp only [c__law_bad_matter, SC.ev, HC.ev, EC.ev, LC.ev, AC.ev, BC.ev, OC.ev, IC.ev]
  have LM : LIM = 16000000 := LIM_eq
  obtain ⟨x, ex, hx⟩ := sp__law_matter n (at_ := at_) hl (by omega) g
  obtain ⟨v2, e2, z2⟩ := hl.ix (i := (at_ : Int) + 2) (by omega) (by omega)
  simp at ex
  have h1 := hx.l1
  have h2 := hx.l2
  have g1 := g.l1
  have g2 := g.l2
  have hR := rest_len g (Nat.le_refl _)
  have l1 : Lo x.1 := fun c hc => g.lo1 c (hx.1.subset hc)
  have l2 : Lo x.2 := fun c hc => g.lo2 c (hx.2.subset hc)
  have hmem : ∀ c ∈ abc.filter (fun c => !decide (c ∈ p.1 ++ p.2)), c ∈ abc ∧ c ∉ p.1 ∧ c ∉ p.2 := fun c hc => by
    have hc := List.mem_filter.mp hc
    refine ⟨hc.1, ?_⟩
    simpa using hc.2
  have elc : ∀ s : SE, s[5]? = some (some (.fr (.str (S abc)))) → s[2]? = some (some (.fr (maD p))) → s.length = 8 → eLc (Tg.nm 7) (iOf (lVar 5)) (bE (DN.e2 dNotIn (lVar 7) (lOf (DN.e2 dAdd (lOf (DN.e2 dIx (lVar 2) (lOf (eC (.int 0))))) (lOf (DN.e2 dIx (lVar 2) (lOf (eC (.int 1)))))))))
      (lOf (eVar 7)) [7] (run Ls (n + 2)) s = .ok (true, .lst ((abc.filter fun c => !decide (c ∈ p.1 ++ p.2)).map strD1)) := fun s h5 h2 h8 => by
    match s, h8 with
    | [s0, s1, s2, s3, s4, s5, s6, s7], _ =>
      simp at h5 h2
      subst h5 h2
      refine eLc_eq strD1 abc (fun c => !decide (c ∈ p.1 ++ p.2)) strD1 (by simp [items_S]) (by rw [LM]; decide) (fun c hc => ⟨_, rfl, ?_, fun _ => ?_⟩)
      · simp [pair_ix0, pair_ix1, dAdd_S (a := p.1) (b := p.2) (by omega), dNotIn_S1]
      · simp
  generalize hR0 : (abc.filter fun c => !decide (c ∈ p.1 ++ p.2)) = R0 at hR hmem elc
  obtain ⟨k, hk, hk2⟩ : ∃ k : Nat, v2 / 5 % 18 = k ∧ k < R0.length := ⟨(v2 / 5 % 18).toNat, by omega, by omega⟩
  have ek := dIx_lst_map strD1 R0 hk2
  have hc := hmem _ (List.getElem_mem hk2)
  generalize R0[k] = c at ek hc
  have lc : c < 1000 := abc_lt _ hc.1
  have fin1 : ∀ y : Mat, ¬ GM p y → (y.1.length ≤ 20 ∧ y.2.length ≤ 20) → Lo y.1 → Lo y.2 → ∃ a b : List Nat, (y.1 = a ∧ y.2 = b) ∧ ¬ GM p (a, b) ∧ (a.length ≤ 20 ∧ b.length ≤ 20) ∧ Lo a ∧ Lo b := fun y a b d e => ⟨y.1, y.2, ⟨rfl, rfl⟩, a, b, d, e⟩
  simp [-sSeq_if, ex, e2, abc_eq]
  rw [elc _ rfl rfl rfl]
  simp [-sSeq_if, ek, e2, hk]
  have ha : ∀ c ∈ [45], c < 1000 := by decide
  have hn : Str.ofString "-" = S [45] := by decide +kernel
  have h45 : 45 ∉ p.1 := fun z => by
    have := g.abc.1 _ z
    revert this
    decide +kernel
  have hv : ∃ w : Nat, v2 % 5 = w ∧ w < 5 := ⟨(v2 % 5).toNat, by omega, by omega⟩
  obtain ⟨w, hw, hw5⟩ := hv
  have i1 : p.1.length ≤ LIM := by omega
  have i2 : p.2.length ≤ LIM := by omega
  have d1 : dAdd (.str (S x.1)) (.str (S [c])) = some (false, .str (S (x.1 ++ [c]))) := dAdd_S (by simp; omega)
  have d2 : dAdd (.str (S [c])) (.str (S x.2)) = some (false, .str (S ([c] ++ x.2))) := dAdd_S (by simp; omega)
  have d3 : ∀ a : Nat, dAdd (.str (S x.1)) (.str (S [a])) = some (false, .str (S (x.1 ++ [a]))) := fun a => dAdd_S (by simp; omega)
  have d4 : ∀ a : Nat, dAdd (.str (S (x.1 ++ [a]))) (.str (S [a])) = some (false, .str (S (x.1 ++ [a] ++ [a]))) := fun a => dAdd_S (by simp; omega)
  have d5 : ∀ a : Nat, dAdd (.str (S p.2)) (.str (S [a])) = some (false, .str (S (p.2 ++ [a]))) := fun a => dAdd_S (by simp; omega)
  have app : ∀ {a b : List Nat}, Lo a → Lo b → Lo (a ++ b) := fun ha hb c hc => (List.mem_append.mp hc).elim (ha c) (hb c)
  have one : ∀ {a : Nat}, a < 1000 → Lo [a] := fun h c hc => by simp at hc; omega
  have last := fin1 ([45], x.2) (fun z => not_sub_of_mem (by simp) h45 z.1) (by simp; omega) ha l2
  have two : ∀ a : List Nat, a.length ≤ LIM → (0 < a.length ∧ ∃ c ∈ a, dIx (.str (S a)) (.int 0) = some (false, .str (S [c])) ∧ 2 ≤ (a ++ [c]).count c) ∨ ¬ 0 < a.length := fun a ha => by
    cases a with
    | nil => exact .inr (by simp)
    | cons c r => exact .inl ⟨by simp, c, by simp, dIx_S (j := 0) (by simp) ha, by simp⟩
  have kl1 := kLen_S i1
  have kl2 := kLen_S i2
  have hw' : v2 % 5 = 0 ∨ v2 % 5 = 1 ∨ v2 % 5 = 2 ∨ v2 % 5 = 3 ∨ v2 % 5 = 4 := by omega
  rcases hw' with e | e | e | e | e
  · simp [e, dEq_int, pair_ix0, pair_ix1, d1]
    exact fin1 (x.1 ++ [c], x.2) (fun z => not_sub_of_mem (by simp) hc.2.1 z.1) (by simp; omega) (app l1 (one lc)) l2
  · simp [e, dEq_int, pair_ix0, pair_ix1, d2]
    exact fin1 (x.1, [c] ++ x.2) (fun z => not_sub_of_mem (by simp) hc.2.2 z.2) (by simp; omega) l1 (app (one lc) l2)
  · rcases two p.1 i1 with ⟨q, a, ha1, ha2, ha3⟩ | q
    · simp [e, dEq_int, pair_ix0, pair_ix1, kl1, q, ha2, d3, d4]
      exact fin1 (x.1 ++ [a, a], x.2) (fun z => not_sub_of_count (c := a) g.nd1 (by simp [List.count_append]) z.1) (by simp; omega) (app l1 (app (one (g.lo1 _ ha1)) (one (g.lo1 _ ha1)))) l2
    · simp [e, dEq_int, pair_ix0, pair_ix1, kl1, q, hn]
      exact last
  · rcases two p.2 i2 with ⟨q, a, ha1, ha2, ha3⟩ | q
    · simp [e, dEq_int, pair_ix0, pair_ix1, kl2, q, ha2, d5]
      exact fin1 (x.1, p.2 ++ [a]) (fun z => not_sub_of_count (c := a) g.nd2 ha3 z.2) (by simp; omega) l1 (app g.lo2 (one (g.lo2 _ ha1)))
    · simp [e, dEq_int, pair_ix0, pair_ix1, kl2, q, hn]
      exact last
  · rcases two p.1 i1 with ⟨q, a, ha1, ha2, ha3⟩ | q
    · simp [e, dEq_int, pair_ix0, pair_ix1, kl1, q, ha2]
      exact fin1 (x.1, [a]) (fun z => not_sub_of_mem (by simp) (g.dj _ ha1) z.2) (by simp; omega) l1 (one (g.lo1 _ ha1))
    · simp [e, dEq_int, pair_ix0, pair_ix1, kl1, q, hn]
      exact last
/-! letters -/
def dlB (a : List Nat) : Bool := a.all fun c => decide (c ∈ abc) && decide (a.count c ≤ 1)
theorem sp_distinct_letters (n : Nat) {a : List Nat} (ha : a.length ≤ 100) : run Ls (n + 1) ("distinct_letters", none) [.str (S a)] = .ok (false, .bl (dlB a)) := by
  rw [u_distinct_letters]
  simp only [c_distinct_letters, SC.ev, EC.ev, LC.ev, AC.ev, BC.ev, OC.ev, IC.ev]
  refine wpF (seq_map (fun c : Nat => D.str (S [c])) a (by simp [items_S]) (fun i s => (∀ j (h : j < a.length), j < i → a[j] ∈ abc ∧ a.count a[j] ≤ 1) ∧ ∃ j, s = [some (.fr (.str (S a))), j]) ⟨fun _ _ h => absurd h (by omega), _, rfl⟩ ?_ ?_)
  · rintro i hi s ⟨h, j, rfl⟩
    refine ⟨_, rfl, ?_⟩
    have no : (¬ a[i] ∈ abc ∨ 1 < a.count a[i]) → dlB a = false := fun z => by
      unfold dlB
      rw [Bool.eq_false_iff]
      intro q
      have := List.all_eq_true.mp q _ (List.getElem_mem hi)
      simp at this
      rcases z with z | z
      · exact z this.1
      · omega
    by_cases c1 : a[i] ∈ abc
    · by_cases c2 : 1 < a.count a[i]
      · have c3 : (1 : Int) < (a.count a[i] : Nat) := by omega
        simp [abc_eq, dNotIn_S1, dCount_S1, c1, c3, no (.inr c2)]
      · have c3 : ¬ (1 : Int) < (a.count a[i] : Nat) := by omega
        simp [abc_eq, dNotIn_S1, dCount_S1, c1, c3]
        intro j h1 h2
        rcases Nat.lt_succ_iff_lt_or_eq.mp h2 with h3 | h3
        · exact h j h1 h3
        · subst h3; exact ⟨c1, by omega⟩
    · simp [abc_eq, dNotIn_S1, c1, no (.inl c1)]
  · rintro s ⟨h, j, rfl⟩
    have : dlB a = true := by
      unfold dlB
      refine List.all_eq_true.mpr fun c hc => ?_
      obtain ⟨i, hi, rfl⟩ := List.getElem_of_mem hc
      simpa using h i hi hi
    simp [this]
/-! factors -/
def faD (p : Mat) : D := .obj "Factors" [("pro", .str (S p.1)), ("con", .str (S p.2)), ("_matters", .lst ((mattersOf p).map maD)), ("_numbers", dicT (numbK keyM (mattersOf p)))]
@[simp] theorem settle_fa (fz : List Nat) (p : Mat) (s : SE) : settle fz (faD p) s = demote fz s := (rfl)
theorem GS.dl {p : Mat} {most : Nat} (h : GS p most) : dlB (p.1 ++ p.2) = true := by
  unfold dlB
  refine List.all_eq_true.mpr fun c hc => ?_
  have h1 : c ∈ DN.abc := (List.mem_append.mp hc).elim (h.abc.1 c) (h.abc.2 c)
  have h2 := List.nodup_iff_count.mp h.nd c
  rw [decide_eq_true h1, decide_eq_true h2]
  rfl
theorem sp_Factors_init (n : Nat) {p : Mat} (g : GS p 8) : run Ls (n + 2) ("Factors", some "__init__") [stD p.1, stD p.2] = .ok (true, faD p) := by
  rw [u_FactorsI_initI]
  simp only [c_FactorsI_initI, SC.ev, HC.ev, EC.ev, LC.ev, AC.ev, BC.ev, OC.ev, IC.ev]
  have LM : LIM = 16000000 := LIM_eq
  have g1 := g.l1
  have g2 := g.l2
  have g3 := g.hi
  have g4 := g.lo
  have hl := g.mlen (Nat.le_refl _)
  have hAB : p.1.length + p.2.length ≤ LIM := by omega
  have hd := sp_distinct_letters n (a := p.1 ++ p.2) (by simp; omega)
  rw [g.dl] at hd
  have hk := kLen_S (a := p.1 ++ p.2) (by simp; omega)
  have e1 := sp_all_lots n g1
  have e2 := sp_all_lots n g2
  have c1 : (1 : Int) ≤ (p.1.length : Int) + (p.2.length : Int) := by omega
  have c2 : (p.1.length : Int) + (p.2.length : Int) ≤ 8 := by omega
  simp [dAdd_S hAB, hd, hk, c1, c2]
  rw [eLc2_eq strD (lotsOf p.1) (fun _ => true) strD (fun _ => lotsOf p.2) (fun _ _ => true) (fun x y => maD (x, y)) (by simp [e1]) (fun x hx => ⟨_, rfl, by simp, fun _ => ⟨by simp [e2], fun y hy => ⟨_, rfl, by simp, fun _ => by simp⟩⟩⟩)
    (by simp [mattersOf] at hl ⊢; omega)]
  have em : ((lotsOf p.1).filter fun _ => true).flatMap (fun x => ((lotsOf p.2).filter fun _ => true).map fun y => maD (x, y)) = (mattersOf p).map maD := by
    simp [mattersOf, List.map_flatMap, Function.comp_def]
  rw [em]
  simp
  rw [eDc_eq (fun q : Mat × Nat => D.tup [.int (q.2 : Int), maD q.1]) (fun q => keyM q.1) (fun q => .int (q.2 : Int)) (mattersOf p).zipIdx (by
      have := kEnum_map maD (mattersOf p)
      simp at this
      simp [this]) (by simp; omega)
    (fun q hq => ⟨_, rfl, by simp, maD q.1, by simp, tkey_M _, by simp⟩), numbK_fold keyM_inj (mattersOf_nodup g.nd1 g.nd2)]
  simp [faD]
theorem sp_require (n : Nat) (p m : Mat) : run Ls (n + 1) ("Factors", some "require_matter") [faD p, maD m] = if m ∈ mattersOf p then .ok (false, .non) else .ex "NoCase" [] := by
  rw [u_Factors_require_matter]
  simp only [c_Factors_require_matter, SC.ev, HC.ev, EC.ev, LC.ev, AC.ev, BC.ev, OC.ev, IC.ev]
  have e := dNotIn_numbK keyM_inj (mattersOf_ne p) m (tkey_M m)
  by_cases c : m ∈ mattersOf p
  · simp [faD, e, c]
  · simp [faD, e, c]
theorem dNotIn_01 (s : Int) : dNotIn (.int s) (.tup [.int 0, .int 1]) = some (false, .bl (!decide (s = 0 ∨ s = 1))) := by
  have e : D.pys [.int 0, .int 1] = some [.int 0, .int 1] := pys_map_int [0, 1]
  unfold dNotIn
  simp only [py_int, e]
  rw [if_pos ⟨sh_int _, sh_tI [0, 1]⟩]
  congr 4
  show (PyData.eqv (.int 0) (.int s) || (PyData.eqv (.int 1) (.int s) || false)) = _
  show (((0 : Int) == s) || (((1 : Int) == s) || false)) = _
  rw [Bool.or_false, Bool.eq_iff_iff]
  simp
  omega
/-- the side's part of a pair -/
def sd (s : Int) (m : Mat) : List Nat := if s = 1 then m.1 else m.2
theorem sp_letters_of (n : Nat) (p : Mat) (s : Int) : run Ls (n + 1) ("Factors", some "letters_of") [faD p, .int s] = if s = 0 ∨ s = 1 then .ok (false, stD (sd s p)) else .ex "NoGrade" [] := by
  rw [u_Factors_letters_of]
  simp only [c_Factors_letters_of, SC.ev, HC.ev, EC.ev, LC.ev, AC.ev, BC.ev, OC.ev, IC.ev]
  by_cases c : s = 0 ∨ s = 1
  · rcases c with rfl | rfl
    · simp [dNotIn_01, faD, pair_ix0, sd]
    · simp [dNotIn_01, faD, pair_ix1, sd]
  · simp only [not_or] at c
    simp [dNotIn_01, c]
theorem sp_lot_within (n : Nat) (x y : List Nat) : run Ls (n + 1) ("lot_within", none) [stD x, stD y] = .ok (false, .bl (subB x y)) := by
  rw [u_lot_within]
  simp only [c_lot_within, SC.ev, HC.ev, EC.ev, LC.ev, AC.ev, BC.ev, OC.ev, IC.ev]
  refine wpF (seq_eachR (fun c : Nat => D.str (S [c])) x (fun c => c ∉ y) (.bl false) (by simp [items_S]) (fun s => ∃ j, s = [some (.fr (stD x)), some (.fr (stD y)), j]) ⟨none, by simp⟩ ?_ ?_ ?_)
  · rintro c hc s ⟨j, rfl⟩
    refine ⟨_, rfl, ?_⟩
    by_cases h : c ∈ y
    · exact .inr ⟨by simpa using h, by simp [dNotIn_S1, h]⟩
    · exact .inl ⟨h, by simp [dNotIn_S1, h]⟩
  · rintro ⟨c, hc, h⟩
    have e : subB x y = false := by
      unfold subB
      rw [List.all_eq_false]
      exact ⟨c, hc, by simpa using h⟩
    simp [e]
  · rintro h s ⟨j, rfl⟩
    have e : subB x y = true := by
      unfold subB
      rw [List.all_eq_true]
      exact fun c hc => by simpa using h c hc
    simp [e]
theorem sp_matter_at_least (n : Nat) (m o : Mat) : run Ls (n + 2) ("matter_at_least", none) [maD m, maD o] = .ok (false, .bl (overB m o)) := by
  rw [u_matter_at_least]
  simp only [c_matter_at_least, SC.ev, EC.ev, LC.ev, AC.ev, BC.ev, OC.ev, IC.ev]
  have e1 := sp_lot_within n o.1 m.1
  have e2 := sp_lot_within n m.2 o.2
  simp [pair_ix0, pair_ix1, e1, e2, overB]
  cases subB o.1 m.1 <;> simp
/-! casebooks -/
/-- a reason of the winner -/
def reaB (p m : Mat) (s : Int) (r : List Nat) : Bool := decide ((sd s p).filter (fun c => decide (c ∈ r)) = r) && subB r (sd s m)
theorem sp_is_reason (n : Nat) {p m : Mat} {s : Int} {r : List Nat} (g : GS p 8) (hs : s = 0 ∨ s = 1) (hr : Lo r) : run Ls (n + 2) ("is_reason", none) [faD p, maD m, .int s, stD r] = .ok (false, .bl (reaB p m s r)) := by
  rw [u_is_reason]
  simp only [c_is_reason, SC.ev, HC.ev, EC.ev, LC.ev, AC.ev, BC.ev, OC.ev, IC.ev]
  have e1 := sp_letters_of n p s
  rw [if_pos hs] at e1
  have LM : LIM = 16000000 := LIM_eq
  have hl : (sd s p).length ≤ 8 := by
    unfold sd; split
    · exact g.l1
    · exact g.l2
  have hlo : Lo (sd s p) := by
    unfold sd; split
    · exact g.lo1
    · exact g.lo2
  have e2 := sp_lot_within n r (sd s m)
  have e3 : dIx (maD m) (.int (1 - s)) = some (false, .str (S (sd s m))) := by
    rcases hs with rfl | rfl
    · exact pair_ix1 _ _
    · exact pair_ix0 _ _
  unfold reaB
  generalize sd s p = a at *
  generalize sd s m = b at *
  simp only [maD] at e3
  rw [sSeq_asg]
  have ef : dFld = dFld := rfl
  have hm : (mthD "letters_of" (aCons (lOf (eVar 2)) aNil) (fun c => List.lookup c [("Factors", ([] : List CK))] |>.map fun l => l.map CK.d) (run Ls (n + 1)) [some (.fr (faD p)), some (.fr (maD m)), some (.fr (.int s)), some (.fr (stD r)), none, none] (faD p)) = .ok (false, .str (S a)) := by
    unfold faD at e1 ⊢
    simp [e1]
  simp at hm
  simp [hm]
  have ed := dNe_S (a := a.filter (fun c => decide (c ∈ r))) (b := r) (fun c hc => hlo c (List.mem_filter.mp hc).1) hr
  have ej := dJoin_S1 (a := a.filter (fun c => decide (c ∈ r))) (by have := List.length_filter_le (fun c => decide (c ∈ r)) a; omega)
  rw [eLc_eq strD1 a (fun c => decide (c ∈ r)) strD1 (by simp [items_S]) (by omega) (fun c hc => ⟨_, rfl, by simp [dIn_S1], fun _ => by simp⟩)]
  simp [nil_eq, ej, ed, e3, e2]
  by_cases c : a.filter (fun c => decide (c ∈ r)) = r <;> simp [c, e3, e2]
theorem sp_core (n : Nat) (h : Hld) : run Ls (n + 1) ("core", none) [hoD h] = .ok (false, maD (coreM h)) := by
  rw [u_core]
  simp only [c_core, SC.ev, HC.ev, EC.ev, LC.ev, AC.ev, BC.ev, OC.ev, IC.ev]
  by_cases c : h.s = 1
  · simp [tri_ix0, tri_ix1, tri_ix2, pair_ix0, pair_ix1, dEq_int, c, coreM]
  · simp [tri_ix0, tri_ix1, tri_ix2, pair_ix0, pair_ix1, dEq_int, c, coreM]
/-- what is wrong with holdings, if anything -/
def chkH (p : Mat) (rows : List Hld) : Option String :=
  if (∃ h ∈ rows, h.m ∉ mattersOf p) then some "NoCase" else if (∃ h ∈ rows, ¬ (h.s = 0 ∨ h.s = 1)) then some "NoGrade" else if (∃ h ∈ rows, reaB p h.m h.s h.r = false) then some "NoRule" else none
theorem chkH_ok {p : Mat} {rows : List Hld} (g : GS p 8) (h : ∀ r ∈ rows, GH p r) : chkH p rows = none := by
  unfold chkH
  rw [if_neg, if_neg, if_neg]
  · rintro ⟨x, hx, e⟩
    have gx := h x hx
    have : reaB p x.m x.s x.r = true := by
      unfold reaB
      have hr := gx.r
      have e0 : (if x.s = 1 then x.m.1 else x.m.2) = sd x.s x.m := rfl
      rw [e0] at hr
      have hm : (sd x.s x.m).Sublist (sd x.s p) := by
        unfold sd; split
        · exact gx.m.1
        · exact gx.m.2
      have hn : (sd x.s p).Nodup := by
        unfold sd; split
        · exact g.nd1
        · exact g.nd2
      rw [decide_eq_true ((filter_sublist_iff hn).mpr (hr.trans hm)), Bool.true_and]
      unfold subB
      rw [List.all_eq_true]
      intro c hc
      simpa using hr.subset hc
    rw [this] at e; cases e
  · rintro ⟨x, hx, e⟩
    exact e (h x hx).s
  · rintro ⟨x, hx, e⟩
    exact e (mattersOf_mem.mpr (h x hx).m)
def resH (o : Option String) (k : R (Bool × D)) : R (Bool × D) := match o with
  | some e => .ex (Str.ofString e) []
  | none => k
theorem sp_checked_holdings (n : Nat) {p : Mat} {rows : List Hld} {d : D} (g : GS p 8) (hd : items d = some (rows.map hoD)) (hl : rows.length ≤ 1000) (hz : ∀ h ∈ rows, Lo h.r) : run Ls (n + 3) ("checked_holdings", none) [faD p, d] = resH (chkH p rows) (.ok (false, .tup (rows.map hoD))) := by
  rw [u_checked_holdings]
  simp only [c_checked_holdings, SC.ev, HC.ev, EC.ev, LC.ev, AC.ev, BC.ev, OC.ev, IC.ev]
  unfold chkH
  refine wpF (seq_each hoD rows (fun h => h.m ∉ mattersOf p) "NoCase" (by simp [hd]) (fun s => ∃ j2 j3 j4 j5, s = [some (.fr (faD p)), some (.fr d), j2, j3, j4, j5]) ?_ ?_ ?_ ?_)
  · exact ⟨none, none, none, none, by simp⟩
  · rintro h hh s ⟨j2, j3, j4, j5, rfl⟩
    refine ⟨_, rfl, ?_⟩
    have e := sp_require (n + 1) p h.m
    by_cases c : h.m ∈ mattersOf p
    · refine .inr ⟨by simpa using c, ?_⟩
      rw [if_pos c] at e
      unfold faD at e ⊢
      simp at e
      simp [e]
    · refine .inl ⟨c, ?_⟩
      rw [if_neg c] at e
      unfold faD at e ⊢
      simp at e
      simp [e]
  · intro hb s
    simp only [if_pos hb, resH]
    simp
  intro hb s hs
  obtain ⟨j2, j3, j4, j5, rfl⟩ := hs
  rw [if_neg (show ¬ ∃ h ∈ rows, h.m ∉ mattersOf p by rintro ⟨x, hx, e⟩; exact hb x hx e)]
  refine seq_each hoD rows (fun h => ¬ (h.s = 0 ∨ h.s = 1)) "NoGrade" (by simp [hd]) (fun s => ∃ j2 j3 j4 j5, s = [some (.fr (faD p)), some (.fr d), j2, j3, j4, j5]) ?_ ?_ ?_ ?_
  · exact ⟨_, _, _, _, rfl⟩
  · rintro h hh s ⟨j2, j3, j4, j5, rfl⟩
    refine ⟨_, rfl, ?_⟩
    by_cases c : h.s = 0 ∨ h.s = 1
    · exact .inr ⟨fun z => z c, by simp [dNotIn_01, c]⟩
    · refine .inl ⟨c, ?_⟩
      simp only [not_or] at c
      simp [dNotIn_01, c]
  · intro hb s
    simp only [if_pos hb, resH]
    simp
  intro hb2 s hs
  obtain ⟨j2, j3, j4, j5, rfl⟩ := hs
  rw [if_neg (show ¬ ∃ h ∈ rows, ¬ (h.s = 0 ∨ h.s = 1) by rintro ⟨x, hx, e⟩; exact hb2 x hx e)]
  refine seq_each hoD rows (fun h => reaB p h.m h.s h.r = false) "NoRule" (by simp [hd]) (fun s => ∃ j2 j3 j4 j5, s = [some (.fr (faD p)), some (.fr d), j2, j3, j4, j5]) ?_ ?_ ?_ ?_
  · exact ⟨_, _, _, _, rfl⟩
  · rintro h hh s ⟨j2, j3, j4, j5, rfl⟩
    refine ⟨_, rfl, ?_⟩
    have e := sp_is_reason n (m := h.m) g (Decidable.not_not.mp (hb2 h hh)) (hz h hh)
    simp at e
    by_cases c : reaB p h.m h.s h.r = false
    · exact .inl ⟨c, by simp [e, c]⟩
    · refine .inr ⟨c, ?_⟩
      simp at c
      simp [e, c]
  · intro hb s
    simp only [if_pos hb, resH]
    simp
  intro hb3 s hs
  obtain ⟨j2, j3, j4, j5, rfl⟩ := hs
  rw [if_neg (show ¬ ∃ h ∈ rows, reaB p h.m h.s h.r = false by rintro ⟨x, hx, e⟩; exact hb3 x hx e)]
  have LM : LIM = 16000000 := LIM_eq
  rw [sSeq_ret, eA_ev, aCons_ev, lOf_ev, eLc_eq hoD rows (fun _ => true) hoD (by simp [hd]) (by omega) (fun r hr => ⟨_, rfl, by simp, by simp⟩)]
  simp [resH]
def cbD (p : Mat) (rows : List Hld) : D := .obj "Casebook" [("factors", faD p), ("rows", .tup (rows.map hoD)), ("_cores", .tup ((rows.map coreM).map maD))]
@[simp] theorem settle_cb (fz : List Nat) (p : Mat) (rows : List Hld) (s : SE) : settle fz (cbD p rows) s = demote fz s := (rfl)
theorem sp_Casebook_init (n : Nat) {p : Mat} {rows : List Hld} {d : D} (g : GS p 8) (hd : items d = some (rows.map hoD)) (hl : rows.length ≤ 1000) (hz : ∀ h ∈ rows, Lo h.r) : run Ls (n + 4) ("Casebook", some "__init__") [faD p, d] =
    resH (chkH p rows) (if rows.length ≤ 12 then .ok (true, cbD p rows) else .ex "TooLarge" []) := by
  rw [u_CasebookI_initI]
  simp only [c_CasebookI_initI, SC.ev, HC.ev, EC.ev, LC.ev, AC.ev, BC.ev, OC.ev, IC.ev]
  have e := sp_checked_holdings n g hd hl hz
  have LM : LIM = 16000000 := LIM_eq
  cases k : chkH p rows with
  | some x =>
    rw [k] at e
    simp only [resH] at e ⊢
    simp [e]
  | none =>
    rw [k] at e
    simp only [resH] at e ⊢
    simp [e]
    by_cases c : rows.length ≤ 12
    · have c2 : ¬ ((12 : Int) < (rows.length : Nat)) := by omega
      simp [c, c2]
      rw [eLc_eq hoD rows (fun _ => true) (fun h => maD (coreM h)) (by simp) (by omega) (fun r hr => ⟨_, rfl, by simp, fun _ => by
        have := sp_core (n + 2) r
        simp at this
        simp [this]⟩)]
      simp [cbD, Function.comp_def]
    · have c2 : (12 : Int) < (rows.length : Nat) := by omega
      simp [c, c2]
/-- the numbers of the rows of a side -/
def numsOf (rows : List Hld) (s : Int) : List Nat := (List.range rows.length).filter fun i => decide ((rows[i]?.getD h00).s = s)
theorem zipIdx_map (rows : List Hld) : rows.zipIdx = (List.range rows.length).map fun i => (rows[i]?.getD h00, i) := by
  refine List.ext_getElem (by simp) fun i h1 h2 => ?_
  have hi : i < rows.length := by simpa using h1
  simp [hi]
theorem numsOf_zip (rows : List Hld) (f : Hld → Bool) : (rows.zipIdx.filter fun q => f q.1).map (·.2) = (List.range rows.length).filter fun i => f (rows[i]?.getD h00) := by
  rw [zipIdx_map, List.filter_map, List.map_map]
  simp [Function.comp_def]
/-! clashes -/
@[simp] abbrev prD (q : Nat × Nat) : D := .tup [.int (q.1 : Int), .int (q.2 : Int)]
def rg (rows : List Hld) (i : Nat) : Hld := rows[i]?.getD h00
theorem rg_mem {rows : List Hld} {i : Nat} (h : i < rows.length) : rg rows i ∈ rows := by
  unfold rg
  rw [List.getElem?_eq_getElem h]
  exact List.getElem_mem h
theorem dIx_rg {rows : List Hld} {i : Nat} (h : i < rows.length) : dIx (.lst (rows.map hoD)) (.int (i : Int)) = some (false, hoD (rg rows i)) := dIx_lst_get hoD rows h00 h
theorem dIx_rgT {rows : List Hld} {i : Nat} (h : i < rows.length) : dIx (.tup (rows.map hoD)) (.int (i : Int)) = some (false, hoD (rg rows i)) := dIx_tup_get hoD rows h00 h
def clP (rows : List Hld) (i j : Nat) : Bool := decide ((rg rows i).s = 1) && (decide ((rg rows j).s = 0) && clashB (rg rows i) (rg rows j))
def clL (rows : List Hld) : List (Nat × Nat) := (List.range rows.length).flatMap fun i => ((List.range rows.length).filter (clP rows i)).map fun j => (i, j)
theorem flatMap_len_le {α β : Type} (g : α → List β) (k : Nat) : ∀ l : List α, (∀ x ∈ l, (g x).length ≤ k) → (l.flatMap g).length ≤ l.length * k
  | [], _ => by simp
  | a :: r, h => by
    have h1 := h a (by simp)
    have h2 := flatMap_len_le g k r fun x hx => h x (by simp [hx])
    rw [List.flatMap_cons, List.length_append, List.length_cons, Nat.succ_mul]
    omega
theorem clL_len (rows : List Hld) : (clL rows).length ≤ rows.length * rows.length := by
  have := flatMap_len_le (fun i => ((List.range rows.length).filter (clP rows i)).map fun j => (i, j)) rows.length (List.range rows.length) fun i _ => by
    rw [List.length_map]
    exact Nat.le_trans (List.length_filter_le _ _) (by simp)
  rw [List.length_range] at this
  exact this
/-! the program's -/
theorem flatMap_filter_if {α β : Type} (p : α → Bool) (g : α → List β) : ∀ l : List α, (l.filter p).flatMap g = l.flatMap fun x => if p x = true then g x else []
  | [] => rfl
  | a :: r => by
    rw [List.flatMap_cons, ← flatMap_filter_if p g r]
    by_cases h : p a = true <;> simp [h]
theorem clL_nums (rows : List Hld) : ((numsOf rows 1).flatMap fun i => ((numsOf rows 0).filter fun j => clashB (rg rows i) (rg rows j)).map fun j => (i, j)) = clL rows := by
  unfold numsOf clL
  rw [flatMap_filter_if]
  congr 1
  funext i
  by_cases h : (rg rows i).s = 1
  · have h' : decide ((rows[i]?.getD h00).s = 1) = true := decide_eq_true h
    rw [if_pos h', List.filter_filter]
    congr 1
    refine List.filter_congr fun j _ => ?_
    show (clashB _ _ && decide ((rg rows j).s = 0)) = _
    simp [clP, h, Bool.and_comm]
  · have h' : ¬ decide ((rows[i]?.getD h00).s = 1) = true := fun z => h (of_decide_eq_true z)
    rw [if_neg h']
    symm
    rw [List.map_eq_nil_iff, List.filter_eq_nil_iff]
    intro j _
    simp [clP, h]
theorem numsOf_lt {rows : List Hld} {s : Int} {i : Nat} (h : i ∈ numsOf rows s) : i < rows.length := by simpa using (List.mem_filter.mp h).1
/-! what decides -/
def decL (rows : List Hld) (m : Mat) : List Nat := (List.range rows.length).filter fun i => decB (rg rows i) m
theorem sp_deciding_holdings (n : Nat) {p m : Mat} {rows : List Hld} (hl : rows.length ≤ 100) (hg : ∀ h ∈ rows, h.s = 0 ∨ h.s = 1) : run Ls (n + 3) ("deciding_holdings", none) [cbD p rows, maD m] = if m ∈ mattersOf p then .ok (false, .tup ((decL rows m).map fun i : Nat => .int (i : Int))) else .ex "NoCase" [] := by
  rw [u_deciding_holdings]
  simp only [c_deciding_holdings, SC.ev, HC.ev, EC.ev, LC.ev, AC.ev, BC.ev, OC.ev, IC.ev]
  have LM : LIM = 16000000 := LIM_eq
  have e := sp_require (n + 1) p m
  by_cases c : m ∈ mattersOf p
  · rw [if_pos c] at e ⊢
    have e2 : (mthD "require_matter" (aCons (lOf (eVar 1)) aNil) (fun c => List.lookup c [("Factors", ([] : List CK))] |>.map fun l => l.map CK.d) (run Ls (n + 2)) [some (.fr (cbD p rows)), some (.fr (maD m)), none, none, none] (faD p)) = .ok (false, .non) := by
      unfold faD at e ⊢
      simp at e
      simp [e]
    simp [cbD] at e2
    have z := numsOf_zip rows fun h => decB h m
    have z2 : decL rows m = (rows.zipIdx.filter fun q => decB q.1 m).map (·.2) := z.symm
    rw [z2]
    have hfl : (rows.zipIdx.filter fun q => decB q.1 m).length ≤ 100 := Nat.le_trans (List.length_filter_le _ _) (by simpa using hl)
    refine wpF ?_
    simp [cbD]
    simp [e2]
    refine seq_acc (fun q : Hld × Nat => D.tup [.int (q.2 : Int), hoD q.1]) rows.zipIdx (fun q => if decB q.1 m = true then [q] else []) [] (fun acc s => ∃ j3 j4, s = [some (.fr (cbD p rows)), some (.fr (maD m)), some (.ow (.lst (acc.map fun q : Hld × Nat => D.int (q.2 : Int)))), j3, j4]) (by
      have := kEnum_mapT hoD rows
      simp at this
      simp [this]) ⟨none, none, by simp [cbD]⟩ (by rw [flatMap_if (fun q : Hld × Nat => decB q.1 m) (fun q => q)]; simp only [List.length_nil, List.length_map]; omega) ?_ ?_
    · rintro q hq acc s ⟨j3, j4, rfl⟩ hb
      refine ⟨_, rfl, ?_⟩
      have hs := hg q.1 (by
        have := List.mem_of_getElem? (List.mem_zipIdx_iff_getElem?.mp hq)
        exact this)
      have ec := sp_core (n + 1) q.1
      simp at ec
      have eo1 := sp_matter_at_least n m (coreM q.1)
      have eo2 := sp_matter_at_least n (coreM q.1) m
      simp at eo1 eo2
      rcases hs with hs | hs
      · rw [hs] at ec
        have hd : decB q.1 m = overB (coreM q.1) m := by simp [decB, hs]
        rw [hd] at hb ⊢
        cases c3 : overB (coreM q.1) m with
        | true =>
          rw [c3] at hb eo2
          simp only [if_true] at hb ⊢
          have hb : acc.length < LIM := by simp at hb; omega
          simp [tri_ix1, dEq_int, hs, ec, eo2, hb]
        | false =>
          rw [c3] at eo2
          simp [tri_ix1, dEq_int, hs, ec, eo2]
      · rw [hs] at ec
        have hd : decB q.1 m = overB m (coreM q.1) := by simp [decB, hs]
        rw [hd] at hb ⊢
        cases c3 : overB m (coreM q.1) with
        | true =>
          rw [c3] at hb eo1
          simp only [if_true] at hb ⊢
          have hb : acc.length < LIM := by simp at hb; omega
          simp [tri_ix1, dEq_int, hs, ec, eo1, hb]
        | false =>
          rw [c3] at eo1
          simp [tri_ix1, dEq_int, hs, ec, eo1]
    · rintro s ⟨j3, j4, rfl⟩
      rw [flatMap_if (fun q : Hld × Nat => decB q.1 m) (fun q => q)]
      simp [Function.comp_def]
  · rw [if_neg c] at e ⊢
    have e2 : (mthD "require_matter" (aCons (lOf (eVar 1)) aNil) (fun c => List.lookup c [("Factors", ([] : List CK))] |>.map fun l => l.map CK.d) (run Ls (n + 2)) [some (.fr (cbD p rows)), some (.fr (maD m)), none, none, none] (faD p)) = .ex "NoCase" [] := by
      unfold faD at e ⊢
      simp at e
      simp [e]
    simp [cbD] at e2
    simp [cbD]
    simp [e2]
theorem dIx_co {rows : List Hld} {i : Nat} (h : i < rows.length) : dIx (.tup ((rows.map coreM).map maD)) (.int (i : Int)) = some (false, maD (coreM (rg rows i))) := by
  have := dIx_tup_get (fun h => maD (coreM h)) rows h00 h
  rw [List.map_map]
  exact this
/-! lots without and shared -/
def wo (a b : List Nat) : List Nat := a.filter fun c => !decide (c ∈ b)
def shl (a b : List Nat) : List Nat := a.filter fun c => decide (c ∈ b)
theorem wo_len (a b : List Nat) : (wo a b).length ≤ a.length := List.length_filter_le _ _
theorem shl_len (a b : List Nat) : (shl a b).length ≤ a.length := List.length_filter_le _ _
theorem elc_wo {C : Call} {s : SE} {it : ID} {t : BD} {el : LD} {g : Tg} {own : List Nat} {a b : List Nat} (ha : a.length ≤ 1000) (hit : it C s = .ok (a.map strD1)) (h : ∀ c ∈ a, ∃ s1, g.put (strD1 c) (wipeS own s) = some s1 ∧ t C s1 = .ok (!decide (c ∈ b)) ∧ el C s1 = .ok (strD1 c)) :
    eLc g it t el own C s = .ok (true, .lst ((wo a b).map strD1)) :=
  eLc_eq strD1 a (fun c => !decide (c ∈ b)) strD1 hit (by have : LIM = 16000000 := LIM_eq; omega) fun c hc => by
    obtain ⟨s1, h1, h2, h3⟩ := h c hc
    exact ⟨s1, h1, h2, fun _ => h3⟩
theorem elc_sh {C : Call} {s : SE} {it : ID} {t : BD} {el : LD} {g : Tg} {own : List Nat} {a b : List Nat} (ha : a.length ≤ 1000) (hit : it C s = .ok (a.map strD1)) (h : ∀ c ∈ a, ∃ s1, g.put (strD1 c) (wipeS own s) = some s1 ∧ t C s1 = .ok (decide (c ∈ b)) ∧ el C s1 = .ok (strD1 c)) :
    eLc g it t el own C s = .ok (true, .lst ((shl a b).map strD1)) :=
  eLc_eq strD1 a (fun c => decide (c ∈ b)) strD1 hit (by have : LIM = 16000000 := LIM_eq; omega) fun c hc => by
    obtain ⟨s1, h1, h2, h3⟩ := h c hc
    exact ⟨s1, h1, h2, fun _ => h3⟩
theorem sp_lot_without (n : Nat) {a b : List Nat} (ha : a.length ≤ 1000) : run Ls (n + 1) ("lot_without", none) [stD a, stD b] = .ok (false, stD (wo a b)) := by
  rw [u_lot_without]
  simp only [c_lot_without, SC.ev, HC.ev, EC.ev, LC.ev, AC.ev, BC.ev, OC.ev, IC.ev]
  have j := dJoin_S1 (a := wo a b) (by have := wo_len a b; omega)
  simp
  rw [elc_wo (b := b) ha (by simp [items_S]) (fun c hc => ⟨_, rfl, by simp [dNotIn_S1], by simp⟩)]
  simp [nil_eq, j]
theorem sp_shared_lot (n : Nat) {a b : List Nat} (ha : a.length ≤ 1000) : run Ls (n + 1) ("shared_lot", none) [stD a, stD b] = .ok (false, stD (shl a b)) := by
  rw [u_shared_lot]
  simp only [c_shared_lot, SC.ev, HC.ev, EC.ev, LC.ev, AC.ev, BC.ev, OC.ev, IC.ev]
  have j := dJoin_S1 (a := shl a b) (by have := shl_len a b; omega)
  simp
  rw [elc_sh (b := b) ha (by simp [items_S]) (fun c hc => ⟨_, rfl, by simp [dIn_S1], by simp⟩)]
  simp [nil_eq, j]
/-! distinction, shared factors, nearer -/
theorem cb_req (n : Nat) (p m : Mat) (rows : List Hld) (s : SE) (a : AD) (ha : a (run Ls (n + 1)) s = .ok [maD m]) : mthD "require_matter" a (fun c => List.lookup c [("Factors", ([] : List CK))] |>.map fun l => l.map CK.d) (run Ls (n + 1)) s (faD p) = if m ∈ mattersOf p then .ok (false, .non) else .ex "NoCase" [] := by
  have e := sp_require n p m
  unfold faD at e ⊢
  simp at e
  simp [ha, e]
theorem sp_require_holding (n : Nat) {p : Mat} {rows : List Hld} (i : Int) : run Ls (n + 1) ("require_holding", none) [cbD p rows, .int i] = if 0 ≤ i ∧ i < (rows.length : Int) then .ok (false, .non) else .ex "NoRow" [] := by
  rw [u_require_holding]
  simp only [c_require_holding, SC.ev, HC.ev, EC.ev, LC.ev, AC.ev, BC.ev, OC.ev, IC.ev]
  by_cases c : 0 ≤ i
  · by_cases c2 : i < (rows.length : Int)
    · simp [cbD, c, c2]
    · simp [cbD, c, c2]
  · simp [cbD, c]
def dstM (h : Hld) (m : Mat) : Mat := (wo h.r (sd h.s m), wo (sd (1 - h.s) m) (sd (1 - h.s) h.m))
def shM (h : Hld) (m : Mat) : Mat := (shl h.m.1 m.1, shl h.m.2 m.2)
theorem ix_side (m : Mat) {s : Int} (hs : s = 0 ∨ s = 1) : dIx (maD m) (.int s) = some (false, stD (sd (1 - s) m)) := by
  rcases hs with rfl | rfl
  · exact pair_ix0 _ _
  · exact pair_ix1 _ _
theorem ix_other (m : Mat) {s : Int} (hs : s = 0 ∨ s = 1) : dIx (maD m) (.int (1 - s)) = some (false, stD (sd s m)) := by
  rcases hs with rfl | rfl
  · exact pair_ix1 _ _
  · exact pair_ix0 _ _
theorem sd_len {p m : Mat} (g : GS p 8) (hm : GM p m) (s : Int) : (sd s m).length ≤ 8 := by
  have h1 := hm.1.length_le
  have h2 := hm.2.length_le
  have := g.hi
  unfold sd
  split <;> omega
theorem GH.rlen {p : Mat} (g : GS p 8) {h : Hld} (gh : GH p h) : h.r.length ≤ 8 := by
  have h0 := gh.r.length_le
  have h1 := gh.m.1.length_le
  have h2 := gh.m.2.length_le
  have := g.hi
  split at h0 <;> omega
theorem sp_distinction (n : Nat) {p m : Mat} {rows : List Hld} {i : Nat} (g : GS p 8) (hr : ∀ h ∈ rows, GH p h) (hm : m ∈ mattersOf p) (hi : i < rows.length) : run Ls (n + 2) ("distinction", none) [cbD p rows, .int (i : Int), maD m] = .ok (false, maD (dstM (rg rows i) m)) := by
  rw [u_distinction]
  simp only [c_distinction, SC.ev, HC.ev, EC.ev, LC.ev, AC.ev, BC.ev, OC.ev, IC.ev]
  have LM : LIM = 16000000 := LIM_eq
  have gm := mattersOf_mem.mp hm
  have e1 := cb_req n p m rows [some (.fr (cbD p rows)), some (.fr (.int (i : Int))), some (.fr (maD m)), none, none, none, none, none] (aCons (lOf (eVar 2)) aNil) (by simp)
  rw [if_pos hm] at e1
  have e2 := sp_require_holding n (p := p) (rows := rows) (i : Int)
  rw [if_pos ⟨by omega, by omega⟩] at e2
  have gh := hr _ (rg_mem hi)
  have e3 := dIx_rgT hi
  unfold dstM
  generalize rg rows i = h at *
  have a1 := ix_side m gh.s
  have a2 := ix_other m gh.s
  have a3 := ix_side h.m gh.s
  have hrl := gh.rlen g
  have w1 := sp_lot_without n (a := h.r) (b := sd h.s m) (by omega)
  have w2 := sp_lot_without n (a := sd (1 - h.s) m) (b := sd (1 - h.s) h.m) (by have := sd_len g gm (1 - h.s); omega)
  simp at e2 e3 a1 a2 a3 w1 w2
  simp [cbD] at e1 e2
  simp [cbD, e1, e2, e3, a1, a2, a3, w1, w2]
theorem sp_distinction_bad (n : Nat) {p m : Mat} {rows : List Hld} {i : Int} (h : m ∉ mattersOf p ∨ (m ∈ mattersOf p ∧ ¬ (0 ≤ i ∧ i < (rows.length : Int)))) : run Ls (n + 2) ("distinction", none) [cbD p rows, .int i, maD m] = .ex (if m ∈ mattersOf p then "NoRow" else "NoCase") [] := by
  rw [u_distinction]
  simp only [c_distinction, SC.ev, HC.ev, EC.ev, LC.ev, AC.ev, BC.ev, OC.ev, IC.ev]
  have e1 := cb_req n p m rows [some (.fr (cbD p rows)), some (.fr (.int i)), some (.fr (maD m)), none, none, none, none, none] (aCons (lOf (eVar 2)) aNil) (by simp)
  have e2 := sp_require_holding n (p := p) (rows := rows) i
  rcases h with h | ⟨h, h2⟩
  · rw [if_neg h] at e1 ⊢
    simp [cbD] at e1
    simp [cbD, e1]
  · rw [if_pos h] at e1 ⊢
    rw [if_neg h2] at e2
    simp [cbD] at e1 e2
    simp [cbD, e1, e2]
theorem sp_shared_factors (n : Nat) {p m : Mat} {rows : List Hld} {i : Nat} (g : GS p 8) (hr : ∀ h ∈ rows, GH p h) (hm : m ∈ mattersOf p) (hi : i < rows.length) : run Ls (n + 2) ("shared_factors", none) [cbD p rows, .int (i : Int), maD m] = .ok (false, maD (shM (rg rows i) m)) := by
  rw [u_shared_factors]
  simp only [c_shared_factors, SC.ev, HC.ev, EC.ev, LC.ev, AC.ev, BC.ev, OC.ev, IC.ev]
  have e1 := cb_req n p m rows [some (.fr (cbD p rows)), some (.fr (.int (i : Int))), some (.fr (maD m)), none] (aCons (lOf (eVar 2)) aNil) (by simp)
  rw [if_pos hm] at e1
  have e2 := sp_require_holding n (p := p) (rows := rows) (i : Int)
  rw [if_pos ⟨by omega, by omega⟩] at e2
  have gh := hr _ (rg_mem hi)
  have e3 := dIx_rgT hi
  unfold shM
  generalize rg rows i = h at *
  have h1 := gh.m.1.length_le
  have h2 := gh.m.2.length_le
  have g1 := g.l1
  have g2 := g.l2
  have w1 := sp_shared_lot n (a := h.m.1) (b := m.1) (by omega)
  have w2 := sp_shared_lot n (a := h.m.2) (b := m.2) (by omega)
  simp at e3 w1 w2
  simp [cbD] at e1 e2
  simp [cbD, e1, e2, e3, tri_ix0, pair_ix0, pair_ix1, w1, w2]
theorem sp_shared_bad (n : Nat) {p m : Mat} {rows : List Hld} {i : Int} (h : m ∉ mattersOf p ∨ (m ∈ mattersOf p ∧ ¬ (0 ≤ i ∧ i < (rows.length : Int)))) : run Ls (n + 2) ("shared_factors", none) [cbD p rows, .int i, maD m] = .ex (if m ∈ mattersOf p then "NoRow" else "NoCase") [] := by
  rw [u_shared_factors]
  simp only [c_shared_factors, SC.ev, HC.ev, EC.ev, LC.ev, AC.ev, BC.ev, OC.ev, IC.ev]
  have e1 := cb_req n p m rows [some (.fr (cbD p rows)), some (.fr (.int i)), some (.fr (maD m)), none] (aCons (lOf (eVar 2)) aNil) (by simp)
  have e2 := sp_require_holding n (p := p) (rows := rows) i
  rcases h with h | ⟨h, h2⟩
  · rw [if_neg h] at e1 ⊢
    simp [cbD] at e1
    simp [cbD, e1]
  · rw [if_pos h] at e1 ⊢
    rw [if_neg h2] at e2
    simp [cbD] at e1 e2
    simp [cbD, e1, e2]
def nearB (x y : Mat) : Bool := decide (x ≠ y) && (subB y.1 x.1 && subB y.2 x.2)
theorem shM_lo {p : Mat} (g : GS p 8) {h : Hld} (gh : GH p h) (m : Mat) : Lo (shM h m).1 ∧ Lo (shM h m).2 :=
  ⟨fun c hc => g.lo1 c (gh.m.1.subset (List.mem_filter.mp hc).1), fun c hc => g.lo2 c (gh.m.2.subset (List.mem_filter.mp hc).1)⟩
theorem sp_nearer (n : Nat) {p m : Mat} {rows : List Hld} {i j : Nat} (g : GS p 8) (hr : ∀ h ∈ rows, GH p h) (hm : m ∈ mattersOf p) (hi : i < rows.length) (hj : j < rows.length) : run Ls (n + 3) ("nearer", none) [cbD p rows, .int (i : Int), .int (j : Int), maD m] = .ok (false, .bl (nearB (shM (rg rows i) m) (shM (rg rows j) m))) := by
  rw [u_nearer]
  simp only [c_nearer, SC.ev, HC.ev, EC.ev, LC.ev, AC.ev, BC.ev, OC.ev, IC.ev]
  have e1 := sp_shared_factors n g hr hm hi
  have e2 := sp_shared_factors n g hr hm hj
  have l1 := shM_lo g (hr _ (rg_mem hi)) m
  have l2 := shM_lo g (hr _ (rg_mem hj)) m
  generalize shM (rg rows i) m = x at *
  generalize shM (rg rows j) m = y at *
  have d := dNe_mat l1 l2
  have w1 := sp_lot_within (n + 1) y.1 x.1
  have w2 := sp_lot_within (n + 1) y.2 x.2
  unfold nearB
  simp at e1 e2 d w1 w2
  by_cases c : x = y
  · subst c
    simp [e1, e2, d]
  · cases c1 : subB y.1 x.1 with
    | false =>
      rw [c1] at w1
      simp [e1, e2, d, c, pair_ix0, pair_ix1, w1]
    | true =>
      rw [c1] at w1
      simp [e1, e2, d, c, pair_ix0, pair_ix1, w1, w2]
theorem sp_nearer_bad1 (n : Nat) {p m : Mat} {rows : List Hld} {i : Int} {z : D} (h : m ∉ mattersOf p ∨ (m ∈ mattersOf p ∧ ¬ (0 ≤ i ∧ i < (rows.length : Int)))) : run Ls (n + 3) ("nearer", none) [cbD p rows, .int i, z, maD m] = .ex (if m ∈ mattersOf p then "NoRow" else "NoCase") [] := by
  rw [u_nearer]
  simp only [c_nearer, SC.ev, HC.ev, EC.ev, LC.ev, AC.ev, BC.ev, OC.ev, IC.ev]
  have e1 := sp_shared_bad n h
  simp at e1
  simp [e1]
theorem sp_nearer_bad2 (n : Nat) {p m : Mat} {rows : List Hld} {i : Int} (g : GS p 8) (hr : ∀ h ∈ rows, GH p h) (h0 : 0 < rows.length) (hm : m ∈ mattersOf p) (h : ¬ (0 ≤ i ∧ i < (rows.length : Int))) : run Ls (n + 3) ("nearer", none) [cbD p rows, .int 0, .int i, maD m] = .ex "NoRow" [] := by
  rw [u_nearer]
  simp only [c_nearer, SC.ev, HC.ev, EC.ev, LC.ev, AC.ev, BC.ev, OC.ev, IC.ev]
  have e0 := sp_shared_factors n g hr hm h0
  have e1 := sp_shared_bad n (.inr ⟨hm, h⟩)
  rw [if_pos hm] at e1
  simp at e0 e1
  simp [e0, e1]
theorem filter_tt {α : Type} (l : List α) : l.filter (fun _ => true) = l := by simp
def neaB (rows : List Hld) (m : Mat) (i : Nat) : Bool := !((List.range rows.length).any fun j => nearB (shM (rg rows j) m) (shM (rg rows i) m))
def neaL (rows : List Hld) (m : Mat) : List Nat := (List.range rows.length).filter (neaB rows m)
theorem sp_nearest_holdings (n : Nat) {p m : Mat} {rows : List Hld} (g : GS p 8) (hr : ∀ h ∈ rows, GH p h) (hl : rows.length ≤ 100) (hm : m ∈ mattersOf p) : run Ls (n + 4) ("nearest_holdings", none) [cbD p rows, maD m] = .ok (false, .tup ((neaL rows m).map iN)) := by
  rw [u_nearest_holdings]
  simp only [c_nearest_holdings, SC.ev, HC.ev, EC.ev, LC.ev, AC.ev, BC.ev, OC.ev, IC.ev]
  have LM : LIM = 16000000 := LIM_eq
  have e1 := cb_req (n + 2) p m rows [some (.fr (cbD p rows)), some (.fr (maD m)), none, none, none, none] (aCons (lOf (eVar 1)) aNil) (by simp)
  rw [if_pos hm] at e1
  have hR : RgB (rows.length : Int) := ⟨by omega, by omega⟩
  have hn := fun i j hi hj => sp_nearer n (i := i) (j := j) g hr hm hi hj
  simp [cbD] at e1
  refine wpF ?_
  simp [cbD, e1, hR]
  refine seq_acc (fun i : Nat => D.int (i : Int)) (List.range rows.length) (fun i => if neaB rows m i = true then [i] else []) [] (fun acc s => ∃ j4 j5, s = [some (.fr (cbD p rows)), some (.fr (maD m)), some (.fr (.rng rows.length)), some (.ow (.lst (acc.map iN))), j4, j5])
    (by simp [hR, rangeD0]) ⟨none, none, by simp [cbD]⟩ (by rw [flatMap_if (neaB rows m) (fun i => i)]; have := List.length_filter_le (neaB rows m) (List.range rows.length); simp at this ⊢; omega) ?_ ?_
  · rintro i hi acc s ⟨j4, j5, rfl⟩ hb
    have hi : i < rows.length := by simpa using hi
    refine ⟨_, rfl, ?_⟩
    have hk := kAny_map (fun j => nearB (shM (rg rows j) m) (shM (rg rows i) m)) (List.range rows.length)
    have hn := fun j hj => hn j i hj hi
    unfold neaB at hb ⊢
    generalize ((List.range rows.length).any fun j => nearB (shM (rg rows j) m) (shM (rg rows i) m)) = A at hk hb ⊢
    simp
    rw [eLc_range rows.length (fun _ => true) (fun j => .bl (nearB (shM (rg rows j) m) (shM (rg rows i) m))) (by simp [hR]) (by omega) (fun j hj => ⟨by simp, fun _ => by
      have := hn j hj
      simp at this
      simp [this]⟩)]
    rw [filter_tt]
    cases A with
    | true =>
      simp [hk]
    | false =>
      have hb : acc.length < LIM := by simp at hb; omega
      simp [hk, hb]
  · rintro s ⟨j4, j5, rfl⟩
    rw [flatMap_if (neaB rows m) (fun i => i)]
    simp [neaL]
def usedL (rows : List Hld) : List Nat := rows.flatMap fun h => h.r ++ sd (1 - h.s) h.m
def idl (p : Mat) (rows : List Hld) : List Nat := wo (p.1 ++ p.2) (usedL rows)
theorem sum_le {α : Type} (f : α → Nat) (k : Nat) : ∀ l : List α, (∀ a ∈ l, f a ≤ k) → (l.map f).sum ≤ l.length * k
  | [], _ => by simp
  | a :: r, h => by
    have h1 := h a (by simp)
    have h2 := sum_le f k r fun b hb => h b (by simp [hb])
    rw [List.map_cons, List.sum_cons, List.length_cons, Nat.succ_mul]
    omega
theorem sp_idle_factors (n : Nat) {p : Mat} {rows : List Hld} (g : GS p 8) (hr : ∀ h ∈ rows, GH p h) (hl : rows.length ≤ 100) : run Ls (n + 2) ("idle_factors", none) [cbD p rows] = .ok (false, stD (idl p rows)) := by
  rw [u_idle_factors]
  simp only [c_idle_factors, SC.ev, HC.ev, EC.ev, LC.ev, AC.ev, BC.ev, OC.ev, IC.ev]
  have LM : LIM = 16000000 := LIM_eq
  have hl2 : ∀ h ∈ rows, (h.r ++ sd (1 - h.s) h.m).length ≤ 16 := fun h hh => by
    have h1 := (hr h hh).rlen g
    have h2 := sd_len g (hr h hh).m (1 - h.s)
    rw [List.length_append]
    omega
  have hj := dJoin_SL (fun h : Hld => h.r ++ sd (1 - h.s) h.m) rows (by
    have := sum_le (fun h : Hld => (h.r ++ sd (1 - h.s) h.m).length) 16 rows hl2
    omega)
  have g1 := g.l1
  have g2 := g.l2
  have hAB : p.1.length + p.2.length ≤ LIM := by omega
  have ew := sp_lot_without n (a := p.1 ++ p.2) (b := usedL rows) (by simp; omega)
  have hu : (rows.flatMap fun h : Hld => h.r ++ sd (1 - h.s) h.m) = usedL rows := rfl
  rw [hu] at hj
  simp [cbD]
  rw [eLc_eq hoD rows (fun _ => true) (fun h => stD (h.r ++ sd (1 - h.s) h.m)) (by simp) (by omega) (fun h hh => ⟨_, rfl, by simp, fun _ => by
    have a1 := ix_side h.m (hr h hh).s
    have a2 := hl2 h hh
    rw [List.length_append] at a2
    simp at a1
    simp [a1, dAdd_S (show h.r.length + (sd (1 - h.s) h.m).length ≤ LIM by omega)]⟩)]
  rw [filter_tt]
  simp at hj ew
  simp [nil_eq, hj, faD, dAdd_S hAB, ew, idl]
theorem sp__law_shared (n : Nat) {p m : Mat} {h : Hld} (g : GS p 8) (gh : GH p h) : run Ls (n + 1) ("_law_shared", none) [hoD h, maD m] = .ok (false, maD (shM h m)) := by
  rw [u__law_shared]
  simp only [c__law_shared, SC.ev, HC.ev, EC.ev, LC.ev, AC.ev, BC.ev, OC.ev, IC.ev]
  have g1 := g.l1
  have g2 := g.l2
  have h1 := gh.m.1.length_le
  have h2 := gh.m.2.length_le
  have j1 := dJoin_S1 (a := shl h.m.1 m.1) (by have := shl_len h.m.1 m.1; omega)
  have j2 := dJoin_S1 (a := shl h.m.2 m.2) (by have := shl_len h.m.2 m.2; omega)
  simp
  rw [elc_sh (a := h.m.1) (b := m.1) (by omega) (by simp [items_S, tri_ix0, pair_ix0]) (fun c hc => ⟨_, rfl, by simp [dIn_S1, pair_ix0], by simp⟩)]
  simp [nil_eq, j1]
  rw [elc_sh (a := h.m.2) (b := m.2) (by omega) (by simp [items_S, tri_ix0, pair_ix1]) (fun c hc => ⟨_, rfl, by simp [dIn_S1, pair_ix1], by simp⟩)]
  simp [j2, shM]
theorem sp__law_near (n : Nat) {p m : Mat} {h k : Hld} (g : GS p 8) (gh : GH p h) (gk : GH p k) : run Ls (n + 2) ("_law_near", none) [hoD h, hoD k, maD m] = .ok (false, .bl (nearB (shM h m) (shM k m))) := by
  rw [u__law_near]
  simp only [c__law_near, SC.ev, HC.ev, EC.ev, LC.ev, AC.ev, BC.ev, OC.ev, IC.ev]
  have e1 := sp__law_shared n (m := m) g gh
  have e2 := sp__law_shared n (m := m) g gk
  have l1 := shM_lo g gh m
  have l2 := shM_lo g gk m
  generalize shM h m = x at *
  generalize shM k m = y at *
  have d := dNe_mat l1 l2
  have w1 := sp__law_within n y.1 x.1
  have w2 := sp__law_within n y.2 x.2
  unfold nearB
  simp at e1 e2 d w1 w2
  by_cases c : x = y
  · subst c
    simp [e1, e2, d]
  · cases c1 : subB y.1 x.1 with
    | false =>
      rw [c1] at w1
      simp [e1, e2, d, c, pair_ix0, pair_ix1, w1]
    | true =>
      rw [c1] at w1
      simp [e1, e2, d, c, pair_ix0, pair_ix1, w1, w2]
/-- the matter with the missing letters put in and the letters too many taken out -/
def mndM (p : Mat) (h : Hld) (m : Mat) : Mat :=
  if h.s = 1 then (shl p.1 (m.1 ++ h.r), shl m.2 h.m.2) else (shl m.1 h.m.1, shl p.2 (m.2 ++ h.r))
theorem sp__law_mended (n : Nat) {p m : Mat} {h : Hld} (g : GS p 8) (gh : GH p h) (gm : GM p m) : run Ls (n + 1) ("_law_mended", none) [maD p, hoD h, maD m] = .ok (false, maD (mndM p h m)) := by
  rw [u__law_mended]
  simp only [c__law_mended, SC.ev, HC.ev, EC.ev, LC.ev, AC.ev, BC.ev, OC.ev, IC.ev]
  have LM : LIM = 16000000 := LIM_eq
  have g1 := g.l1
  have g2 := g.l2
  have hrl := gh.rlen g
  have a1 := ix_side m gh.s
  have a2 := ix_other m gh.s
  have a3 := ix_side h.m gh.s
  have a4 := ix_other p gh.s
  have l1 := sd_len g gm h.s
  have l2 := sd_len g gm (1 - h.s)
  have l3 : (sd h.s p).length ≤ 8 := by unfold sd; split <;> omega
  have hAB : (sd h.s m).length + h.r.length ≤ LIM := by omega
  have j1 := dJoin_S1 (a := shl (sd h.s p) (sd h.s m ++ h.r)) (by have := shl_len (sd h.s p) (sd h.s m ++ h.r); omega)
  have j2 := dJoin_S1 (a := shl (sd (1 - h.s) m) (sd (1 - h.s) h.m)) (by have := shl_len (sd (1 - h.s) m) (sd (1 - h.s) h.m); omega)
  simp at a1 a2 a3 a4
  refine wpF ?_
  simp
  rw [elc_sh (a := sd h.s p) (b := sd h.s m ++ h.r) (by omega) (by simp [items_S, a4, tri_ix1]) (fun c hc => ⟨_, rfl, by simp [dIn_S1, tri_ix1, tri_ix2, a2, dAdd_S hAB], by simp⟩)]
  simp [nil_eq, j1]
  rw [elc_sh (a := sd (1 - h.s) m) (b := sd (1 - h.s) h.m) (by omega) (by simp [items_S, a1, tri_ix1]) (fun c hc => ⟨_, rfl, by simp [dIn_S1, tri_ix0, tri_ix1, a3], by simp⟩)]
  simp [j2]
  rcases gh.s with hs | hs
  · simp [hs, tri_ix1, dEq_int, mndM, sd]
  · simp [hs, tri_ix1, dEq_int, mndM, sd]
theorem subB_iff {x y : List Nat} : subB x y = true ↔ ∀ c ∈ x, c ∈ y := by simp [subB]
theorem wo_nil {a b : List Nat} : wo a b = [] ↔ subB a b = true := by
  unfold wo
  rw [List.filter_eq_nil_iff, subB_iff]
  simp
theorem dec_dst {h : Hld} (hs : h.s = 0 ∨ h.s = 1) (m : Mat) : decB h m = (decide ((dstM h m).1 = []) && decide ((dstM h m).2 = [])) := by
  rw [Bool.eq_iff_iff]
  simp only [Bool.and_eq_true, decide_eq_true_eq, dstM, wo_nil]
  rcases hs with hs | hs
  · simp [decB, hs, overB, coreM, sd]
    exact And.comm
  · simp [decB, hs, overB, coreM, sd]
theorem mnd_dec {p m : Mat} {h : Hld} (gh : GH p h) : decB h (mndM p h m) = true := by
  have hr := gh.r
  have hm := gh.m
  rcases gh.s with hs | hs
  · rw [if_neg (by omega)] at hr
    simp [decB, mndM, hs, overB, coreM, subB_iff, shl]
    exact fun c hc => ⟨hm.2.subset (hr.subset hc), .inr hc⟩
  · rw [if_pos hs] at hr
    simp [decB, mndM, hs, overB, coreM, subB_iff, shl]
    exact fun c hc => ⟨hm.1.subset (hr.subset hc), .inr hc⟩
theorem mnd_gm {p m : Mat} {h : Hld} (gm : GM p m) : GM p (mndM p h m) := by
  unfold mndM
  split
  · exact ⟨List.filter_sublist, (List.filter_sublist (l := m.2)).trans gm.2⟩
  · exact ⟨(List.filter_sublist (l := m.1)).trans gm.1, List.filter_sublist⟩
/-! data that _law_same compares -/
theorem Pl_lst {k : Nat} {l : List D} (h : l.length ≤ 100000) (h2 : ∀ d ∈ l, Pl k d) : Pl (k + 1) (.lst l) := ⟨h, h2⟩
theorem Pl_tup {k : Nat} {l : List D} (h : l.length ≤ 100000) (h2 : ∀ d ∈ l, Pl k d) : Pl (k + 1) (.tup l) := ⟨h, h2⟩
theorem Pl_lmap {α : Type} {k : Nat} {f : α → D} {l : List α} (h : l.length ≤ 100000) (h2 : ∀ a ∈ l, Pl k (f a)) : Pl (k + 1) (.lst (l.map f)) := ⟨by simpa using h, fun d hd => by
  obtain ⟨a, ha, rfl⟩ := List.mem_map.mp hd
  exact h2 a ha⟩
theorem Pl_tmap {α : Type} {k : Nat} {f : α → D} {l : List α} (h : l.length ≤ 100000) (h2 : ∀ a ∈ l, Pl k (f a)) : Pl (k + 1) (.tup (l.map f)) := ⟨by simpa using h, fun d hd => by
  obtain ⟨a, ha, rfl⟩ := List.mem_map.mp hd
  exact h2 a ha⟩
theorem Pl_str (k : Nat) {a : List Nat} (h : Lo a) : Pl k (.str (S a)) := by cases k <;> exact can_S h
theorem Pl_bl (k : Nat) (b : Bool) : Pl k (.bl b) := by cases k <;> trivial
theorem Pl_non (k : Nat) : Pl k .non := by cases k <;> trivial
theorem Pl_pair {k : Nat} {a b : D} (ha : Pl k a) (hb : Pl k b) : Pl (k + 1) (.tup [a, b]) := Pl_tup (by simp) (by simp; exact ⟨ha, hb⟩)
theorem Pl_ma (k : Nat) {m : Mat} (h1 : Lo m.1) (h2 : Lo m.2) : Pl (k + 1) (maD m) := Pl_pair (Pl_str k h1) (Pl_str k h2)
/-! what the law asks of a matter -/
theorem any_rg (rows : List Hld) (P : Hld → Bool) : ((List.range rows.length).any fun j => P (rg rows j)) = rows.any P := by
  rw [Bool.eq_iff_iff, List.any_eq_true, List.any_eq_true]
  constructor
  · rintro ⟨j, hj, h⟩
    exact ⟨_, rg_mem (by simpa using hj), h⟩
  · rintro ⟨x, hx, h⟩
    obtain ⟨j, hj, rfl⟩ := List.getElem_of_mem hx
    refine ⟨j, by simpa using hj, ?_⟩
    unfold rg
    rw [List.getElem?_eq_getElem hj]
    exact h
theorem nea_rows (rows : List Hld) (m : Mat) (i : Nat) : neaB rows m i = decide ((rows.filter fun h => nearB (shM h m) (shM (rg rows i) m)).length = 0) := by
  unfold neaB
  rw [any_rg rows fun h => nearB (shM h m) (shM (rg rows i) m), Bool.eq_iff_iff]
  simp
theorem dNe_bl (i j : Bool) : dNe (.bl i) (.bl j) = some (false, .bl (i != j)) := by
  unfold dNe
  simp only [py_bl]
  rw [if_pos ⟨rfl, rfl⟩]
  rfl
theorem dEq_nil {a : List Nat} (h : Lo a) : dEq (.str (S a)) (.str (S [])) = some (false, .bl (decide (a = []))) := dEq_S h (fun _ z => nomatch z)
theorem dst_lo {p m : Mat} (g : GS p 8) {h : Hld} (gh : GH p h) (gm : GM p m) : Lo (dstM h m).1 ∧ Lo (dstM h m).2 := by
  have hr := gh.r
  have hm := gh.m
  have l1 : Lo h.r := fun c hc => by
    rcases gh.s with hs | hs
    · rw [if_neg (by omega)] at hr
      exact g.lo2 c (hm.2.subset (hr.subset hc))
    · rw [if_pos hs] at hr
      exact g.lo1 c (hm.1.subset (hr.subset hc))
  refine ⟨fun c hc => l1 c (List.mem_filter.mp hc).1, fun c hc => ?_⟩
  have := (List.mem_filter.mp hc).1
  unfold sd at this
  split at this
  · exact g.lo1 c (gm.1.subset this)
  · exact g.lo2 c (gm.2.subset this)
theorem mem_decL {rows : List Hld} {m : Mat} {i : Nat} (hi : i < rows.length) : i ∈ decL rows m ↔ decB (rg rows i) m = true := by
  unfold decL
  rw [List.mem_filter]
  simp [hi]
theorem decL_len (rows : List Hld) (m : Mat) : (decL rows m).length ≤ rows.length := by
  unfold decL
  have := List.length_filter_le (fun i => decB (rg rows i) m) (List.range rows.length)
  simpa using this
theorem neaL_len (rows : List Hld) (m : Mat) : (neaL rows m).length ≤ rows.length := by
  unfold neaL
  have := List.length_filter_le (neaB rows m) (List.range rows.length)
  simpa using this
theorem ite_ok {a b : Prop} [Decidable a] [Decidable b] : (if a then R.ok (decide b) else (R.ok false : R Bool)) = R.ok (decide a && decide b) := by by_cases h : a <;> simp [h]
theorem sp__law_asked (n : Nat) {p m : Mat} {rows : List Hld} (g : GS p 8) (hr : ∀ h ∈ rows, GH p h) (hl : rows.length ≤ 12) (hm : m ∈ mattersOf p) : run Ls (n + 5) ("_law_asked", none) [maD p, cbD p rows, .lst (rows.map hoD), maD m] = .ok (false, .bl true) := by
  rw [u__law_asked, c__law_asked]
  have LM : LIM = 16000000 := LIM_eq
  have gm := mattersOf_mem.mp hm
  have hgs : ∀ h ∈ rows, h.s = 0 ∨ h.s = 1 := fun h hh => (hr h hh).s
  have ed := sp_deciding_holdings (n + 1) (p := p) (m := m) (rows := rows) (by omega) hgs
  rw [if_pos hm] at ed
  have en := sp_nearest_holdings n g hr (by omega) hm
  refine wpF ?_
  simp at ed
  (rw [ev_seq]; simp [ev_asg, ev_unp, ev_drop, ev_ret, ev_retv, ev_nx, ev_ife, ev_bk, ev_ct, ev_raise, ev_forr, ev_whil, ev_app, ev_rev, ev_putIx, ev_putF, ev_tryOnly, ev_tryAs, ev_tryMany, BC.ev, LC.ev, EC.ev, AC.ev, OC.ev, IC.ev, HC.ev, ed])
  rw [ev_seq, ev_forr]
  refine seq_range rows.length (by simp [IC.ev, LC.ev, EC.ev, AC.ev, kRange_nat (show rows.length ≤ 1000000 by omega)]) (fun i s => ∃ j5 j6 j7 j8 j9, s = [some (Sl.fr (maD p)), some (.fr (cbD p rows)), some (.fr (.lst (rows.map hoD))), some (.fr (maD m)), some (.fr (.tup ((decL rows m).map iN))), j5, j6, j7, j8, j9, none, none]) ⟨_, _, _, _, _, rfl⟩ ?_ ?_
  · rintro i hi s ⟨j5, j6, j7, j8, j9, rfl⟩
    have gh := hr _ (rg_mem hi)
    have ei := dIx_rg hi
    have e1 := sp_distinction (n + 2) g hr hm hi
    have e2 := sp__law_mended (n + 3) g gh gm
    have hmm := mattersOf_mem.mpr (mnd_gm (h := rg rows i) gm)
    have e3 := sp_deciding_holdings (n + 1) (p := p) (m := mndM p (rg rows i) m) (rows := rows) (by omega) hgs
    rw [if_pos hmm] at e3
    have e4 : i ∈ decL rows (mndM p (rg rows i) m) := (mem_decL hi).mpr (mnd_dec gh)
    have e5 := sp_shared_factors (n + 2) g hr hm hi
    have e6 := sp__law_shared (n + 3) (m := m) g gh
    have e7 := fun j hj => sp_nearer (n + 1) (i := i) (j := j) g hr hm hi hj
    have e8 := fun j (hj : j < rows.length) => sp__law_near (n + 2) (m := m) g gh (hr _ (rg_mem hj))
    have d0 := dIn_tN i (decL rows m)
    have d1 := dNotIn_tN i (decL rows (mndM p (rg rows i) m))
    rw [decide_eq_true e4] at d1
    have hdd : decide (i ∈ decL rows m) = decB (rg rows i) m := by
      rw [Bool.eq_iff_iff, decide_eq_true_eq]
      exact mem_decL hi
    rw [hdd, dec_dst gh.s] at d0
    have dl := dst_lo g gh gm
    have sl := shM_lo g gh m
    have s1 : run Ls (n + 4) ("_law_same", none) [maD (dstM (rg rows i) m), maD (dstM (rg rows i) m)] = .ok (false, .bl true) := same_eq (k := 1) (n := n + 2) (Pl_ma 0 dl.1 dl.2)
    have s2 : run Ls (n + 4) ("_law_same", none) [maD (shM (rg rows i) m), maD (shM (rg rows i) m)] = .ok (false, .bl true) := same_eq (k := 1) (n := n + 2) (Pl_ma 0 sl.1 sl.2)
    have s3 : ∀ b : Bool, run Ls (n + 4) ("_law_same", none) [.bl b, .bl b] = .ok (false, .bl true) := fun b => same_eq (k := 0) (n := n + 3) (Pl_bl 0 b)
    have n1 := dEq_nil dl.1
    have n2 := dEq_nil dl.2
    have a1 := ix_side m gh.s
    have a2 := ix_other m gh.s
    have a3 := ix_side (rg rows i).m gh.s
    have hrl := gh.rlen g
    have l2 := sd_len g gm (1 - (rg rows i).s)
    have j1 := dJoin_S1 (a := wo (rg rows i).r (sd (rg rows i).s m)) (by have := wo_len (rg rows i).r (sd (rg rows i).s m); omega)
    have j2 := dJoin_S1 (a := wo (sd (1 - (rg rows i).s) m) (sd (1 - (rg rows i).s) (rg rows i).m)) (by have := wo_len (sd (1 - (rg rows i).s) m) (sd (1 - (rg rows i).s) (rg rows i).m); omega)
    have u1 : wo (rg rows i).r (sd (rg rows i).s m) = (dstM (rg rows i) m).1 := rfl
    have u2 : wo (sd (1 - (rg rows i).s) m) (sd (1 - (rg rows i).s) (rg rows i).m) = (dstM (rg rows i) m).2 := rfl
    simp only [u1] at j1
    simp only [u2] at j2
    simp at ei a1 a2 a3 e1 e2 e3 e5 e6 s1 s2 d0 d1
    (simp [ev_seq, ev_asg, ev_unp, ev_drop, ev_ret, ev_retv, ev_nx, ev_ife, ev_bk, ev_ct, ev_raise, ev_forr, ev_whil, ev_app, ev_rev, ev_putIx, ev_putF, ev_tryOnly, ev_tryAs, ev_tryMany, BC.ev, LC.ev, EC.ev, AC.ev, OC.ev, IC.ev, HC.ev, ei])
    rw [elc_wo (a := (rg rows i).r) (b := sd (rg rows i).s m) (by omega) (by simp [items_S, tri_ix2]) (fun c hc => ⟨_, rfl, by simp [dNotIn_S1, tri_ix1, a2], by simp⟩), u1]
    simp [nil_eq, j1]
    rw [elc_wo (a := sd (1 - (rg rows i).s) m) (b := sd (1 - (rg rows i).s) (rg rows i).m) (by omega) (by simp [items_S, tri_ix1, a1]) (fun c hc => ⟨_, rfl, by simp [dNotIn_S1, tri_ix0, tri_ix1, a3], by simp⟩), u2]
    simp [j2, e1, s1, n1, n2, d0, ite_ok, dNe_bl, e2, e3, d1, e5, e6, s2]
    refine seq_range rows.length (by simp [kRange_nat (show rows.length ≤ 1000000 by omega)]) (fun j s => ∃ j9, s = [some (Sl.fr (maD p)), some (.fr (cbD p rows)), some (.fr (.lst (rows.map hoD))), some (.fr (maD m)), some (.fr (.tup ((decL rows m).map iN))), some (.fr (.int (i : Int))), some (.fr (hoD (rg rows i))), some (.fr (stD (dstM (rg rows i) m).1)), some (.fr (stD (dstM (rg rows i) m).2)), j9, none, none]) ⟨_, rfl⟩ ?_ ?_
    · rintro j hj s ⟨j9, rfl⟩
      have ej := dIx_rg hj
      have e7 := e7 j hj
      have e8 := e8 j hj
      have s3 := s3 (nearB (shM (rg rows i) m) (shM (rg rows j) m))
      simp at ej e7 e8
      by_cases c : ((i : Int) + (j : Int)) % 3 = 0
      · simp [dEq_int, c, ej, e7, e8, s3]
      · simp [dEq_int, c]
    · rintro s ⟨j9, rfl⟩
      simp
  rintro s ⟨j5, j6, j7, j8, j9, rfl⟩
  (rw [ev_seq]; simp [ev_asg, ev_unp, ev_drop, ev_ret, ev_retv, ev_nx, ev_ife, ev_bk, ev_ct, ev_raise, ev_forr, ev_whil, ev_app, ev_rev, ev_putIx, ev_putF, ev_tryOnly, ev_tryAs, ev_tryMany, BC.ev, LC.ev, EC.ev, AC.ev, OC.ev, IC.ev, HC.ev])
  rw [ev_seq, ev_forr]
  refine seq_acc iN (List.range rows.length) (fun i => if neaB rows m i = true then [i] else []) [] (fun acc s => ∃ j5 j6 j7 j8 j9, s = [some (Sl.fr (maD p)), some (.fr (cbD p rows)), some (.fr (.lst (rows.map hoD))), some (.fr (maD m)), some (.fr (.tup ((decL rows m).map iN))), j5, j6, j7, j8, j9, some (.ow (.lst (acc.map iN))), none])
    (by simp [IC.ev, LC.ev, EC.ev, AC.ev, kRange_nat (show rows.length ≤ 1000000 by omega), rangeD0]) ⟨_, _, _, _, _, rfl⟩ (by rw [flatMap_if (neaB rows m) (fun i => i)]; have := List.length_filter_le (neaB rows m) (List.range rows.length); simp at this ⊢; omega) ?_ ?_
  · rintro i hi acc s ⟨j5, j6, j7, j8, j9, rfl⟩ hb
    have hi : i < rows.length := by simpa using hi
    refine ⟨_, rfl, ?_⟩
    have ei := dIx_rg hi
    have gi := hr _ (rg_mem hi)
    have e8 := fun h hh => sp__law_near (n + 2) (m := m) g (hr h hh) gi
    have hz := nea_rows rows m i
    simp at ei
    (simp [ev_seq, ev_asg, ev_unp, ev_drop, ev_ret, ev_retv, ev_nx, ev_ife, ev_bk, ev_ct, ev_raise, ev_forr, ev_whil, ev_app, ev_rev, ev_putIx, ev_putF, ev_tryOnly, ev_tryAs, ev_tryMany, BC.ev, LC.ev, EC.ev, AC.ev, OC.ev, IC.ev, HC.ev])
    rw [eLc_eq hoD rows (fun h => nearB (shM h m) (shM (rg rows i) m)) hoD (by simp) (by omega) (fun h hh => ⟨_, rfl, by
      have := e8 h hh
      simp at this
      simp [ei, this], fun _ => by simp⟩)]
    generalize (rows.filter fun h => nearB (shM h m) (shM (rg rows i) m)) = L at hz ⊢
    by_cases c : L = []
    · subst c
      simp at hz
      have hb : acc.length < LIM := by simp [hz] at hb; omega
      simp [dEq_int, hb, hz]
    · simp [c] at hz
      simp [dEq_int, c, hz]
  · rintro s ⟨j5, j6, j7, j8, j9, rfl⟩
    rw [flatMap_if (neaB rows m) (fun i => i)]
    have ez : ((List.range rows.length).filter (neaB rows m)).map (fun i => i) = neaL rows m := by simp [neaL]
    have sn : run Ls (n + 4) ("_law_same", none) [.tup ((neaL rows m).map iN), .tup ((neaL rows m).map iN)] = .ok (false, .bl true) := same_eq (k := 1) (n := n + 2) (Pl_tmap (by have := neaL_len rows m; omega) fun i _ => Pl_int _ _)
    rw [ez]
    simp at en sn
    (simp [ev_seq, ev_asg, ev_unp, ev_drop, ev_ret, ev_retv, ev_nx, ev_ife, ev_bk, ev_ct, ev_raise, ev_forr, ev_whil, ev_app, ev_rev, ev_putIx, ev_putF, ev_tryOnly, ev_tryAs, ev_tryMany, BC.ev, LC.ev, EC.ev, AC.ev, OC.ev, IC.ev, HC.ev, en, sn])
theorem sp_nearest_bad (n : Nat) {p m : Mat} {rows : List Hld} (h : m ∉ mattersOf p) : run Ls (n + 4) ("nearest_holdings", none) [cbD p rows, maD m] = .ex "NoCase" [] := by
  rw [u_nearest_holdings]
  simp only [c_nearest_holdings, SC.ev, HC.ev, EC.ev, LC.ev, AC.ev, BC.ev, OC.ev, IC.ev]
  have e1 := cb_req (n + 2) p m rows [some (.fr (cbD p rows)), some (.fr (maD m)), none, none, none, none] (aCons (lOf (eVar 1)) aNil) (by simp)
  rw [if_neg h] at e1
  simp [cbD] at e1
  simp [cbD, e1]
def er2 (k : String) : D := .lst [.bl (k == "NoCase"), .bl (k == "NoRow")]
section
variable {p m : Mat} {rows : List Hld}
theorem rf_bad (n : Nat) {c : Nat} (hc : c < 5) (h : m ∉ mattersOf p) (i : Int) : run Ls (n + 5) ("_law_refused", none) [.int (c : Int), cbD p rows, .int i, maD m] = .ok (true, er2 "NoCase") := by
  rw [u__law_refused]
  simp only [c__law_refused, SC.ev, HC.ev, EC.ev, LC.ev, AC.ev, BC.ev, OC.ev, IC.ev]
  have a0 := sp_distinction_bad (n + 2) (rows := rows) (i := i) (.inl h)
  have a1 := sp_shared_bad (n + 2) (rows := rows) (i := i) (.inl h)
  have a2 := fun z => sp_nearer_bad1 (n + 1) (rows := rows) (i := i) (z := z) (.inl h)
  have a3 := fun z => sp_nearer_bad1 (n + 1) (rows := rows) (i := 0) (z := z) (.inl h)
  have a4 := sp_nearest_bad n (rows := rows) h
  simp only [if_neg h] at a0 a1 a2 a3
  simp at a0 a1 a2 a3 a4
  rcases (show c = 0 ∨ c = 1 ∨ c = 2 ∨ c = 3 ∨ c = 4 by omega) with rfl | rfl | rfl | rfl | rfl
  · simp [dEq_int, a0]
    rw [asO_eq (by simp)]
    simp [er2]
  · simp [dEq_int, a1]
    rw [asO_eq (by simp)]
    simp [er2]
  · simp [dEq_int, a2]
    rw [asO_eq (by simp)]
    simp [er2]
  · simp [dEq_int, a3]
    rw [asO_eq (by simp)]
    simp [er2]
  · simp [dEq_int, a4]
    rw [asO_eq (by simp)]
    simp [er2]
theorem rf_row (n : Nat) {c : Nat} (g : GS p 8) (hr : ∀ h ∈ rows, GH p h) (hc : c < 4) (hm : m ∈ mattersOf p) {i : Int} (h : ¬ (0 ≤ i ∧ i < (rows.length : Int))) : run Ls (n + 5) ("_law_refused", none) [.int (c : Int), cbD p rows, .int i, maD m] = .ok (true, er2 "NoRow") := by
  rw [u__law_refused]
  simp only [c__law_refused, SC.ev, HC.ev, EC.ev, LC.ev, AC.ev, BC.ev, OC.ev, IC.ev]
  have a0 := sp_distinction_bad (n + 2) (.inr ⟨hm, h⟩)
  have a1 := sp_shared_bad (n + 2) (.inr ⟨hm, h⟩)
  have a2 := fun z => sp_nearer_bad1 (n + 1) (z := z) (.inr ⟨hm, h⟩)
  have a3 : run Ls (n + 4) ("nearer", none) [cbD p rows, .int 0, .int i, maD m] = .ex "NoRow" [] := by
    by_cases z : 0 < rows.length
    · exact sp_nearer_bad2 (n + 1) g hr z hm h
    · have := sp_nearer_bad1 (n + 1) (rows := rows) (i := 0) (z := .int i) (.inr ⟨hm, by omega⟩)
      rwa [if_pos hm] at this
  simp only [if_pos hm] at a0 a1 a2
  simp at a0 a1 a2 a3
  rcases (show c = 0 ∨ c = 1 ∨ c = 2 ∨ c = 3 by omega) with rfl | rfl | rfl | rfl
  · simp [dEq_int, a0]
    rw [asO_eq (by simp)]
    simp [er2]
  · simp [dEq_int, a1]
    rw [asO_eq (by simp)]
    simp [er2]
  · simp [dEq_int, a2]
    rw [asO_eq (by simp)]
    simp [er2]
  · simp [dEq_int, a3]
    rw [asO_eq (by simp)]
    simp [er2]
end
/-! idle letters -/
def idB (rows : List Hld) (c : Nat) : Bool := rows.all fun h => !decide (c ∈ h.r ++ sd (1 - h.s) h.m)
theorem idl_eq (p : Mat) (rows : List Hld) : (p.1 ++ p.2).filter (idB rows) = idl p rows := by
  unfold idl wo
  refine List.filter_congr fun c _ => ?_
  rw [Bool.eq_iff_iff]
  unfold idB usedL
  rw [List.all_eq_true]
  simp only [Bool.not_eq_true', decide_eq_false_iff_not, List.mem_flatMap]
  constructor
  · rintro h ⟨x, hx, hc⟩
    exact h x hx hc
  · exact fun h x hx hc => h ⟨x, hx, hc⟩
theorem idB_rows (rows : List Hld) (c : Nat) : idB rows c = decide ((rows.filter fun h => decide (c ∈ h.r ++ sd (1 - h.s) h.m)) = []) := by
  rw [Bool.eq_iff_iff, decide_eq_true_eq, List.filter_eq_nil_iff]
  unfold idB
  rw [List.all_eq_true]
  simp
theorem idl_mem {p : Mat} {rows : List Hld} {c : Nat} (h : c ∈ idl p rows) : c ∈ p.1 ++ p.2 ∧ ∀ k ∈ rows, c ∉ k.r ∧ c ∉ sd (1 - k.s) k.m := by
  rw [← idl_eq, List.mem_filter] at h
  refine ⟨h.1, fun k hk => ?_⟩
  have := List.all_eq_true.mp h.2 k hk
  simpa using this
/-- a letter of a text turned -/
def turn (a x : List Nat) (c : Nat) : List Nat := a.filter fun o => decide (o ∈ x) != decide (o = c)
theorem turn_mem {a x : List Nat} {c o : Nat} (h : o ≠ c) : o ∈ turn a x c ↔ o ∈ a ∧ o ∈ x := by
  unfold turn
  rw [List.mem_filter]
  simp [h]
theorem sub_turn {a x r : List Nat} {c : Nat} (h : ∀ o ∈ r, o ∈ a) (hc : c ∉ r) : subB r (turn a x c) = subB r x := by
  rw [Bool.eq_iff_iff, subB_iff, subB_iff]
  constructor
  · exact fun z o ho => ((turn_mem (fun e : o = c => hc (e ▸ ho))).mp (z o ho)).2
  · exact fun z o ho => (turn_mem (fun e : o = c => hc (e ▸ ho))).mpr ⟨h o ho, z o ho⟩
theorem won_same {p m : Mat} {rows : List Hld} (hr : ∀ h ∈ rows, GH p h) {c : Nat} (hc : c ∈ idl p rows) : (decL rows (turn p.1 m.1 c, m.2)).filter (fun i => decide ((rg rows i).s = 1)) = (decL rows m).filter fun i => decide ((rg rows i).s = 1) := by
  unfold decL
  rw [List.filter_filter, List.filter_filter]
  refine List.filter_congr fun i hi => ?_
  have hi : i < rows.length := by simpa using hi
  have gh := hr _ (rg_mem hi)
  have hx := (idl_mem hc).2 _ (rg_mem hi)
  by_cases hs : (rg rows i).s = 1
  · have hrr := gh.r
    rw [if_pos hs] at hrr
    have e := sub_turn (a := p.1) (x := m.1) (r := (rg rows i).r) (c := c) (fun o ho => gh.m.1.subset (hrr.subset ho)) hx.1
    simp [decB, hs, overB, coreM, e]
  · simp [hs]
theorem lost_same {p m : Mat} {rows : List Hld} (hr : ∀ h ∈ rows, GH p h) {c : Nat} (hc : c ∈ idl p rows) : (decL rows (m.1, turn p.2 m.2 c)).filter (fun i => decide ((rg rows i).s = 0)) = (decL rows m).filter fun i => decide ((rg rows i).s = 0) := by
  unfold decL
  rw [List.filter_filter, List.filter_filter]
  refine List.filter_congr fun i hi => ?_
  have hi : i < rows.length := by simpa using hi
  have gh := hr _ (rg_mem hi)
  have hx := (idl_mem hc).2 _ (rg_mem hi)
  by_cases hs : (rg rows i).s = 0
  · have hrr := gh.r
    rw [if_neg (by omega)] at hrr
    have e := sub_turn (a := p.2) (x := m.2) (r := (rg rows i).r) (c := c) (fun o ho => gh.m.2.subset (hrr.subset ho)) hx.1
    simp [decB, hs, overB, coreM, e]
  · simp [hs]
theorem turn_len (a x : List Nat) (c : Nat) : (turn a x c).length ≤ a.length := List.length_filter_le _ _
theorem elc_turn {C : Call} {s : SE} {it : ID} {t : BD} {el : LD} {g : Tg} {own : List Nat} {a x : List Nat} {c : Nat} (ha : a.length ≤ 1000) (hit : it C s = .ok (a.map strD1)) (h : ∀ o ∈ a, ∃ s1, g.put (strD1 o) (wipeS own s) = some s1 ∧ t C s1 = .ok (decide (o ∈ x) != decide (o = c)) ∧ el C s1 = .ok (strD1 o)) :
    eLc g it t el own C s = .ok (true, .lst ((turn a x c).map strD1)) :=
  eLc_eq strD1 a (fun o => decide (o ∈ x) != decide (o = c)) strD1 hit (by have : LIM = 16000000 := LIM_eq; omega) fun o ho => by
    obtain ⟨s1, h1, h2, h3⟩ := h o ho
    exact ⟨s1, h1, h2, fun _ => h3⟩
theorem dEq_S1 {o c : Nat} (h1 : Lo [o]) (h2 : Lo [c]) : dEq (.str (S [o])) (.str (S [c])) = some (false, .bl (decide (o = c))) := by
  rw [dEq_S h1 h2]
  simp
theorem sp__law_idle (n : Nat) {p m : Mat} {rows : List Hld} (g : GS p 8) (hr : ∀ h ∈ rows, GH p h) (hl : rows.length ≤ 12) (hm : m ∈ mattersOf p) : run Ls (n + 5) ("_law_idle", none) [maD p, cbD p rows, .lst (rows.map hoD), maD m] = .ok (false, .bl true) := by
  rw [u__law_idle, c__law_idle]
  have LM : LIM = 16000000 := LIM_eq
  have gm := mattersOf_mem.mp hm
  have g1 := g.l1
  have g2 := g.l2
  have hAB : p.1.length + p.2.length ≤ LIM := by omega
  have hgs : ∀ h ∈ rows, h.s = 0 ∨ h.s = 1 := fun h hh => (hr h hh).s
  have ed := sp_deciding_holdings (n + 1) (p := p) (m := m) (rows := rows) (by omega) hgs
  rw [if_pos hm] at ed
  have ei := sp_idle_factors (n + 2) g hr (by omega)
  have hlo : Lo (p.1 ++ p.2) := fun c hc => (List.mem_append.mp hc).elim (g.lo1 c) (g.lo2 c)
  have si : run Ls (n + 4) ("_law_same", none) [stD (idl p rows), stD (idl p rows)] = .ok (false, .bl true) := same_eq (k := 0) (n := n + 3) (Pl_str 0 fun c hc => hlo c (idl_mem hc).1)
  refine wpF ?_
  (rw [ev_seq]; simp [ev_asg, ev_unp, ev_drop, ev_ret, ev_retv, ev_nx, ev_ife, ev_bk, ev_ct, ev_raise, ev_forr, ev_whil, ev_app, ev_rev, ev_putIx, ev_putF, ev_tryOnly, ev_tryAs, ev_tryMany, BC.ev, LC.ev, EC.ev, AC.ev, OC.ev, IC.ev, HC.ev])
  rw [ev_seq, ev_forr]
  refine seq_acc strD1 (p.1 ++ p.2) (fun c => if idB rows c = true then [c] else []) [] (fun acc s => ∃ j5 j6, s = [some (Sl.fr (maD p)), some (.fr (cbD p rows)), some (.fr (.lst (rows.map hoD))), some (.fr (maD m)), some (.fr (stD acc)), j5, j6, none, none, none, none, none, none])
    (by simp [IC.ev, LC.ev, EC.ev, AC.ev, pair_ix0, pair_ix1, dAdd_S hAB, items_S]) ⟨none, none, by simp [nil_eq]⟩ (by rw [flatMap_if (idB rows) (fun i => i)]; have := List.length_filter_le (idB rows) (p.1 ++ p.2); simp at this ⊢; omega) ?_ ?_
  · rintro c hc acc s ⟨j5, j6, rfl⟩ hb
    refine ⟨_, rfl, ?_⟩
    have hz := idB_rows rows c
    (simp [ev_seq, ev_asg, ev_unp, ev_drop, ev_ret, ev_retv, ev_nx, ev_ife, ev_bk, ev_ct, ev_raise, ev_forr, ev_whil, ev_app, ev_rev, ev_putIx, ev_putF, ev_tryOnly, ev_tryAs, ev_tryMany, BC.ev, LC.ev, EC.ev, AC.ev, OC.ev, IC.ev, HC.ev])
    rw [eLc_eq hoD rows (fun h => decide (c ∈ h.r ++ sd (1 - h.s) h.m)) hoD (by simp) (by omega) (fun h hh => ⟨_, rfl, by
      have a3 := ix_side h.m (hgs h hh)
      have h1 := (hr h hh).rlen g
      have h2 := sd_len g (hr h hh).m (1 - h.s)
      simp at a3
      simp [tri_ix0, tri_ix1, tri_ix2, a3, dAdd_S (show h.r.length + (sd (1 - h.s) h.m).length ≤ LIM by omega), dIn_S1], fun _ => by simp⟩)]
    generalize (rows.filter fun h => decide (c ∈ h.r ++ sd (1 - h.s) h.m)) = L at hz ⊢
    by_cases c1 : L = []
    · subst c1
      simp at hz
      have hb : acc.length + 1 ≤ LIM := by simp [hz] at hb; omega
      simp [dEq_int, hz, dAdd_S (show acc.length + [c].length ≤ LIM by simpa using hb)]
    · simp [c1] at hz
      simp [dEq_int, c1, hz]
  rintro s ⟨j5, j6, rfl⟩
  rw [flatMap_if (idB rows) (fun i => i)]
  have ez : ((p.1 ++ p.2).filter (idB rows)).map (fun i => i) = idl p rows := by rw [idl_eq]; simp
  rw [List.nil_append, ez]
  simp at ei si
  (rw [ev_seq]; simp [ev_asg, ev_unp, ev_drop, ev_ret, ev_retv, ev_nx, ev_ife, ev_bk, ev_ct, ev_raise, ev_forr, ev_whil, ev_app, ev_rev, ev_putIx, ev_putF, ev_tryOnly, ev_tryAs, ev_tryMany, BC.ev, LC.ev, EC.ev, AC.ev, OC.ev, IC.ev, HC.ev, ei, si])
  rw [ev_seq, ev_forr]
  refine seq_map strD1 (idl p rows) (by simp [IC.ev, LC.ev, EC.ev, items_S]) (fun i s => ∃ j5 j6 j7 j8 j9, s = [some (Sl.fr (maD p)), some (.fr (cbD p rows)), some (.fr (.lst (rows.map hoD))), some (.fr (maD m)), some (.fr (stD (idl p rows))), j5, j6, j7, j8, j9, none, none, none]) ⟨j5, j6, none, none, none, by simp⟩ ?_ ?_
  · rintro i hi s ⟨j5, j6, j7, j8, j9, rfl⟩
    refine ⟨_, rfl, ?_⟩
    have hmem := List.getElem_mem hi
    generalize (idl p rows)[i] = c at hmem
    have hc1 : Lo [c] := fun x hx => by
      have : x = c := by simpa using hx
      exact this ▸ hlo c (idl_mem hmem).1
    have hw := won_same (m := m) hr hmem
    have hlst := lost_same (m := m) hr hmem
    have hdl := decL_len rows m
    have hwS : ∀ (z : Mat) (k : Int) (it : ID) (s : SE), it (run Ls (n + 4)) s = .ok ((decL rows z).map iN) → s[2]? = some (some (.fr (.lst (rows.map hoD)))) → s.length = 13 →
        eLc (Tg.nm 12) it (bE (DN.e2 dEq (lOf (DN.e2 dIx (lOf (DN.e2 dIx (lVar 2) (lVar 12))) (lOf (eC (.int 1))))) (lOf (eC (.int k))))) (lOf (eVar 12)) [12] (run Ls (n + 4)) s = .ok (true, .lst (((decL rows z).filter fun i => decide ((rg rows i).s = k)).map iN)) := by
      intro z k it s hit h2 hs
      refine eLc_eq iN (decL rows z) (fun i => decide ((rg rows i).s = k)) iN hit (by have := decL_len rows z; omega) (fun i hi => ⟨_, rfl, ?_, fun _ => ?_⟩)
      · have hi : i < rows.length := by
          unfold decL at hi
          simpa using (List.mem_filter.mp hi).1
        have ei := dIx_rg hi
        have q2 : ((s.set 12 none).set 12 (some (.fr (iN i))))[2]? = some (some (.fr (.lst (rows.map hoD)))) := by
          rw [List.getElem?_set_ne (by omega), List.getElem?_set_ne (by omega)]
          exact h2
        have q12 : ((s.set 12 none).set 12 (some (.fr (iN i))))[12]? = some (some (.fr (iN i))) := by
          rw [List.getElem?_set_self (by simp [hs])]
        simp at ei q2 q12
        simp [slotF, q2, q12, ei, tri_ix1, dEq_int]
      · have q12 : ((s.set 12 none).set 12 (some (.fr (iN i))))[12]? = some (some (.fr (iN i))) := by
          rw [List.getElem?_set_self (by simp [hs])]
        simp at q12
        simp [slotF, q12]
    by_cases c1 : c ∈ p.1
    · have gt : GM p (turn p.1 m.1 c, m.2) := ⟨List.filter_sublist, gm.2⟩
      have e2 := sp_deciding_holdings (n + 1) (p := p) (m := (turn p.1 m.1 c, m.2)) (rows := rows) (by omega) hgs
      rw [if_pos (mattersOf_mem.mpr gt)] at e2
      have j := dJoin_S1 (a := turn p.1 m.1 c) (by have := turn_len p.1 m.1 c; omega)
      simp at e2 ed
      (simp [ev_seq, ev_asg, ev_unp, ev_drop, ev_ret, ev_retv, ev_nx, ev_ife, ev_bk, ev_ct, ev_raise, ev_forr, ev_whil, ev_app, ev_rev, ev_putIx, ev_putF, ev_tryOnly, ev_tryAs, ev_tryMany, BC.ev, LC.ev, EC.ev, AC.ev, OC.ev, IC.ev, HC.ev, pair_ix0, pair_ix1, dIn_S1, c1])
      rw [elc_turn (a := p.1) (x := m.1) (c := c) (by omega) (by simp [items_S, pair_ix0]) (fun o ho => ⟨_, rfl, by
        have ho1 : Lo [o] := fun x hx => by
          have : x = o := by simpa using hx
          exact this ▸ g.lo1 o ho
        simp [pair_ix0, dIn_S1, dEq_S1 ho1 hc1, dNe_bl], by simp⟩)]
      simp [nil_eq, j]
      rw [hwS m 1 _ _ (by simp [ed]) rfl rfl]
      simp
      rw [hwS (turn p.1 m.1 c, m.2) 1 _ _ (by simp [e2]) rfl rfl]
      rw [hw]
      simp [dNe_lN]
    · have gt : GM p (m.1, turn p.2 m.2 c) := ⟨gm.1, List.filter_sublist⟩
      have e2 := sp_deciding_holdings (n + 1) (p := p) (m := (m.1, turn p.2 m.2 c)) (rows := rows) (by omega) hgs
      rw [if_pos (mattersOf_mem.mpr gt)] at e2
      have j := dJoin_S1 (a := turn p.2 m.2 c) (by have := turn_len p.2 m.2 c; omega)
      simp at e2 ed
      (simp [ev_seq, ev_asg, ev_unp, ev_drop, ev_ret, ev_retv, ev_nx, ev_ife, ev_bk, ev_ct, ev_raise, ev_forr, ev_whil, ev_app, ev_rev, ev_putIx, ev_putF, ev_tryOnly, ev_tryAs, ev_tryMany, BC.ev, LC.ev, EC.ev, AC.ev, OC.ev, IC.ev, HC.ev, pair_ix0, pair_ix1, dIn_S1, c1])
      rw [elc_turn (a := p.2) (x := m.2) (c := c) (by omega) (by simp [items_S, pair_ix1]) (fun o ho => ⟨_, rfl, by
        have ho1 : Lo [o] := fun x hx => by
          have : x = o := by simpa using hx
          exact this ▸ g.lo2 o ho
        simp [pair_ix1, dIn_S1, dEq_S1 ho1 hc1, dNe_bl], by simp⟩)]
      simp [nil_eq, j]
      rw [hwS m 0 _ _ (by simp [ed]) rfl rfl]
      simp
      rw [hwS (m.1, turn p.2 m.2 c) 0 _ _ (by simp [e2]) rfl rfl]
      rw [hlst]
      simp [dNe_lN]
  · rintro s ⟨j5, j6, j7, j8, j9, rfl⟩
    simp [ev_seq, ev_ret, EC.ev]
/-! the law -/
theorem plain0 (n : Nat) (ns : List Int) : ∃ b, run Ls (n + 8) ("law", none) [.scr ns] = .ok (b, .bl true) := by
  refine ⟨false, ?_⟩
  rw [u_law, c_law]
  have LM : LIM = 16000000 := LIM_eq
  obtain ⟨l0, d0, g0⟩ := sp__law_draws (n + 5) (ns := ns) (k := 0) (m := 28) (by omega) (by omega)
  obtain ⟨l1, d1, g1⟩ := sp__law_draws (n + 5) (ns := ns) (k := 1) (m := 48) (by omega) (by omega)
  obtain ⟨w10, x10, y10⟩ := g0.ix (i := 10) (by omega) (by omega)
  obtain ⟨p, ep, g⟩ := sp__law_letters (n + 6) (at_ := 0) (most := 8) g0 (by omega) (by omega) (by omega)
  obtain ⟨many, hmany, hm12⟩ : ∃ many : Nat, w10 % 13 = many ∧ many ≤ 12 := ⟨(w10 % 13).toNat, by omega, by omega⟩
  obtain ⟨rows, er, hr, hlen⟩ := sp__law_holdings (n + 1) (many := many) false g1 (by omega) (by omega) g
  have hl : rows.length ≤ 12 := by omega
  clear hlen
  have ef := sp_Factors_init (n + 5) g
  have hz : ∀ h ∈ rows, Lo h.r := fun h hh c hc => by
    have gh := hr h hh
    have hr2 := gh.r
    by_cases z : h.s = 1
    · rw [if_pos z] at hr2
      exact g.lo1 c (gh.m.1.subset (hr2.subset hc))
    · rw [if_neg z] at hr2
      exact g.lo2 c (gh.m.2.subset (hr2.subset hc))
  have eb := sp_Casebook_init (n + 3) (p := p) (rows := rows) (d := .lst (rows.map hoD)) g (by simp) (by omega) hz
  rw [chkH_ok g hr, if_pos hl] at eb
  simp only [resH] at eb
  have emt : ∀ i : Nat, i < 3 → ∃ x, run Ls (n + 7) ("_law_matter", none) [lI l0, .int ((11 + 2 * i : Nat) : Int), maD p] = .ok (false, maD x) ∧ GM p x := fun i hi => sp__law_matter (n + 5) (at_ := 11 + 2 * i) g0 (by omega) g
  obtain ⟨bad, ebad, hbad, hbl, hb1, hb2⟩ := sp__law_bad_matter (n + 4) (at_ := 25) g0 (by omega) g
  have hbm : bad ∉ mattersOf p := fun z => hbad (mattersOf_mem.mp z)
  obtain ⟨x0, em0, gx0⟩ := emt 0 (by omega)
  obtain ⟨x1, em1, gx1⟩ := emt 1 (by omega)
  obtain ⟨x2, em2, gx2⟩ := emt 2 (by omega)
  refine wpF ?_
  simp at d0 d1 ep
  (rw [ev_seq]; simp [ev_asg, ev_unp, ev_drop, ev_ret, ev_retv, ev_nx, ev_ife, ev_bk, ev_ct, ev_raise, ev_forr, ev_whil, ev_app, ev_rev, ev_putIx, ev_putF, ev_tryOnly, ev_tryAs, ev_tryMany, BC.ev, LC.ev, EC.ev, AC.ev, OC.ev, IC.ev, HC.ev, d0])
  (rw [ev_seq]; simp [ev_asg, ev_unp, ev_drop, ev_ret, ev_retv, ev_nx, ev_ife, ev_bk, ev_ct, ev_raise, ev_forr, ev_whil, ev_app, ev_rev, ev_putIx, ev_putF, ev_tryOnly, ev_tryAs, ev_tryMany, BC.ev, LC.ev, EC.ev, AC.ev, OC.ev, IC.ev, HC.ev, ep])
  (rw [ev_seq]; simp [ev_asg, ev_unp, ev_drop, ev_ret, ev_retv, ev_nx, ev_ife, ev_bk, ev_ct, ev_raise, ev_forr, ev_whil, ev_app, ev_rev, ev_putIx, ev_putF, ev_tryOnly, ev_tryAs, ev_tryMany, BC.ev, LC.ev, EC.ev, AC.ev, OC.ev, IC.ev, HC.ev, d1, x10, hmany, er])
  (rw [ev_seq]; simp [ev_asg, ev_unp, ev_drop, ev_ret, ev_retv, ev_nx, ev_ife, ev_bk, ev_ct, ev_raise, ev_forr, ev_whil, ev_app, ev_rev, ev_putIx, ev_putF, ev_tryOnly, ev_tryAs, ev_tryMany, BC.ev, LC.ev, EC.ev, AC.ev, OC.ev, IC.ev, HC.ev, pair_ix0, pair_ix1, ef, eb])
  obtain ⟨f, hf⟩ : ∃ f : Nat → Mat, ∀ i : Nat, i < 3 → run Ls (n + 7) ("_law_matter", none) [lI l0, .int (11 + 2 * (i : Int)), maD p] = .ok (false, maD (f i)) ∧ GM p (f i) := by
    refine ⟨fun i => if i = 0 then x0 else if i = 1 then x1 else x2, fun i hi => ?_⟩
    rcases (show i = 0 ∨ i = 1 ∨ i = 2 by omega) with rfl | rfl | rfl
    · exact ⟨em0, gx0⟩
    · exact ⟨em1, gx1⟩
    · exact ⟨em2, gx2⟩
  rw [ev_seq, ev_asg, sSeq_asg]
  simp only [EC.ev, LC.ev, AC.ev, BC.ev, IC.ev]
  have k3 : kRange [.int 3] = some (rangeD 0 3) := kRange_nat (n := 3) (by omega)
  have k5 : kRange [.int 5] = some (rangeD 0 5) := kRange_nat (n := 5) (by omega)
  have b2 : ∀ a b c d : Bool, dNe (.lst [.bl a, .bl b]) (.lst [.bl c, .bl d]) = some (false, .bl (decide ([a, b] ≠ [c, d]))) := fun a b c d => dNe_bls [a, b] [c, d]
  rw [eLc_range 3 (fun _ => true) (fun i => maD (f i)) (by simp [k3]) (by omega) (fun i hi => ⟨by simp, fun _ => by
    have := (hf i hi).1
    simp at this
    simp [this]⟩), filter_tt]
  have hms : ∀ m ∈ (List.range 3).map f, GM p m := fun m hm => by
    obtain ⟨i, hi, rfl⟩ := List.mem_map.mp hm
    exact (hf i (by simpa using hi)).2
  have hml : ((List.range 3).map f).length = 3 := by simp
  have hmm : ((List.range 3).map fun i => maD (f i)) = ((List.range 3).map f).map maD := by rw [List.map_map]; rfl
  rw [hmm]
  generalize (List.range 3).map f = ms at hms hml
  rw [RO_ok]
  simp
  rw [ev_seq, ev_forr]
  refine seq_acc hoD (rows.take 2) (fun h => [h.m]) ms (fun acc s => ∃ j6, s = [some (Sl.fr (.scr ns)), some (.fr (lI l0)), some (.fr (maD p)), some (.fr (.lst (rows.map hoD))), some (.ow (cbD p rows)), some (.ow (.lst (acc.map maD))), j6, none, none, none, none, none]) (by
    have := cutD_to (l := rows.map hoD) (j := 2)
    simp at this
    simp [IC.ev, LC.ev, EC.ev, OC.ev, this]) ⟨none, by simp⟩ (by rw [flat_single]; simp; omega) ?_ ?_
  · rintro h hh acc s ⟨j6, rfl⟩ hb
    have hb : acc.length < LIM := by simp at hb; omega
    exact ⟨_, rfl, by (simp [ev_seq, ev_asg, ev_unp, ev_drop, ev_ret, ev_retv, ev_nx, ev_ife, ev_bk, ev_ct, ev_raise, ev_forr, ev_whil, ev_app, ev_rev, ev_putIx, ev_putF, ev_tryOnly, ev_tryAs, ev_tryMany, BC.ev, LC.ev, EC.ev, AC.ev, OC.ev, IC.ev, HC.ev, tri_ix0, hb])⟩
  rintro s ⟨j6, rfl⟩
  rw [flat_single]
  have hms2 : ∀ m ∈ ms ++ (rows.take 2).map (fun h => h.m), m ∈ mattersOf p := fun m hm => by
    rcases List.mem_append.mp hm with hm | hm
    · exact mattersOf_mem.mpr (hms m hm)
    · obtain ⟨h, hh, rfl⟩ := List.mem_map.mp hm
      exact mattersOf_mem.mpr (hr h (List.mem_of_mem_take hh)).m
  have hpos : 0 < (ms ++ (rows.take 2).map fun h => h.m).length := by simp; omega
  generalize (ms ++ (rows.take 2).map fun h => h.m) = M at hms2 hpos
  rw [ev_seq, ev_forr]
  refine seq_map maD M (by simp [IC.ev, LC.ev, EC.ev]) (fun i s => ∃ j6 j7, s = [some (Sl.fr (.scr ns)), some (.fr (lI l0)), some (.fr (maD p)), some (.fr (.lst (rows.map hoD))), some (.ow (cbD p rows)), some (.fr (.lst (M.map maD))), j6, j7, none, none, none, none]) ⟨j6, none, by simp⟩ ?_ ?_
  · rintro i hi s ⟨j6, j7, rfl⟩
    refine ⟨_, rfl, ?_⟩
    have hm := hms2 _ (List.getElem_mem hi)
    generalize M[i] = m at hm
    have e1 := sp__law_asked (n + 2) g hr hl hm
    have e2 := sp__law_idle (n + 2) g hr hl hm
    simp at e1 e2
    (simp [ev_seq, ev_asg, ev_unp, ev_drop, ev_ret, ev_retv, ev_nx, ev_ife, ev_bk, ev_ct, ev_raise, ev_forr, ev_whil, ev_app, ev_rev, ev_putIx, ev_putF, ev_tryOnly, ev_tryAs, ev_tryMany, BC.ev, LC.ev, EC.ev, AC.ev, OC.ev, IC.ev, HC.ev, e1, e2])
  rintro s ⟨j6, j7, rfl⟩
  simp at ebad
  (rw [ev_seq]; simp [ev_asg, ev_unp, ev_drop, ev_ret, ev_retv, ev_nx, ev_ife, ev_bk, ev_ct, ev_raise, ev_forr, ev_whil, ev_app, ev_rev, ev_putIx, ev_putF, ev_tryOnly, ev_tryAs, ev_tryMany, BC.ev, LC.ev, EC.ev, AC.ev, OC.ev, IC.ev, HC.ev, ebad])
  have ix0 : dIx (.lst (M.map maD)) (.int 0) = some (false, maD M[0]) := dIx_lst_map maD M hpos
  have hm0 := hms2 _ (List.getElem_mem hpos)
  generalize M[0] = m0 at ix0 hm0
  rw [ev_seq, ev_forr]
  refine seq_range 5 (by simp [IC.ev, LC.ev, EC.ev, AC.ev, k5]) (fun i s => ∃ j9 j10, s = [some (Sl.fr (.scr ns)), some (.fr (lI l0)), some (.fr (maD p)), some (.fr (.lst (rows.map hoD))), some (.ow (cbD p rows)), some (.fr (.lst (M.map maD))), j6, j7, some (.fr (maD bad)), j9, j10, none]) ⟨none, none, by simp⟩ ?_ ?_
  · rintro i hi s ⟨j9, j10, rfl⟩
    have e1 := rf_bad (n + 2) (rows := rows) hi hbm 99
    simp [er2] at e1
    (simp [ev_seq, ev_asg, ev_unp, ev_drop, ev_ret, ev_retv, ev_nx, ev_ife, ev_bk, ev_ct, ev_raise, ev_forr, ev_whil, ev_app, ev_rev, ev_putIx, ev_putF, ev_tryOnly, ev_tryAs, ev_tryMany, BC.ev, LC.ev, EC.ev, AC.ev, OC.ev, IC.ev, HC.ev, e1, b2])
    refine seq_map (fun i : Int => D.int i) [-1, (rows.length : Int)] (by simp) (fun _ s => ∃ j10, s = [some (Sl.fr (.scr ns)), some (.fr (lI l0)), some (.fr (maD p)), some (.fr (.lst (rows.map hoD))), some (.ow (cbD p rows)), some (.fr (.lst (M.map maD))), j6, j7, some (.fr (maD bad)), some (.fr (.int (i : Int))), j10, none]) ⟨_, rfl⟩ ?_ ?_
    · rintro k hk s ⟨j10, rfl⟩
      refine ⟨_, rfl, ?_⟩
      have hx : ∀ x ∈ [-1, (rows.length : Int)], ¬ (0 ≤ x ∧ x < (rows.length : Int)) := by
        intro x hx
        simp at hx
        omega
      have hx := hx _ (List.getElem_mem hk)
      generalize [-1, (rows.length : Int)][k] = x at hx
      by_cases c : i < 4
      · have e2 := rf_row (n + 2) g hr c hm0 hx
        have c4 : (i : Int) < 4 := by omega
        simp [er2] at e2
        simp [c4, ix0, e2, b2]
      · have c4 : ¬ (i : Int) < 4 := by omega
        simp [c4]
    · rintro s ⟨j10, rfl⟩
      simp
  rintro s ⟨j9, j10, rfl⟩
  simp [ev_seq, ev_ret, EC.ev]
theorem plain (ns : List Int) : ∃ b, run Ls 20 ("law", none) [.scr ns] = .ok (b, .bl true) := plain0 12 ns
end K34
namespace K34
open DN
theorem rsLs : rs.map DefR.toDef = Ls := by kernel_rfl
theorem plainR : ∀ ns : List Int, ns.length ≤ 63 → ∃ b, DN.run (rs.map DefR.toDef) 20 ("law", none) [.scr ns] = .ok (b, .bl true) := fun ns h => by
  rw [rsLs]
  exact plain ns
end K34
open PySem PySem.W PySem.Calls PyProof.Rows
theorem PySem.Challenge.cw_reasonsandlevels_k34_distinctions_and_ne_holds : PySem.Challenge.rw_reasonsandlevels_k34_distinctions_and_ne.Holds := by
  w_on; o_law
  refine HandSHeadRun.head_any (r := K34.Rw) (q := view (K34.Rw).prog [60]) (H := K34.hk) (ob := K34.ob) (M := 20000) (loose := K34.loose) (d := HandSHeadRun.topDef (K34.Rw).prog 60) (kwd := []) K34.ob_eq
    (by kernel_rfl) (fun s => by kernel_rfl) K34.headRun (by kernel_rfl) (by kernel_rfl) (by kernel_rfl) (by rfl) (by first | assumption | decide +kernel) (by decide +kernel) ⟨rfl, rfl, rfl, rfl, rfl, by decide +kernel⟩ ?hw ?hc
  case hw => w_witness2
  case hc =>
    refine L2.walk_ofE (l := PySem.Challenge.rw_reasonsandlevels_k34_distinctions_and_ne) (n := 63) (k := 40) (x := "script") (CX := L2.CX0) rfl (by decide) (by kernel_rfl) ⟨rfl, by decide, by decide⟩ ?F (fun _ _ _ _ z => z)
    intro w mg fa h Y G hmg0
    obtain ⟨K, KX, c⟩ := Y
    have hmg : mg ("law" : PySem.Str) = some (.ref fa) := by
      have e : (HandSHeadRun.topDef (K34.Rw).prog 60).name = ("law" : PySem.Str) := by kernel_rfl
      rw [← e]
      exact hmg0
    obtain ⟨fd, sp, hb, hs, hF⟩ := DN.law_fn (P := (PySem.Challenge.rw_reasonsandlevels_k34_distinctions_and_ne).prog) (w := w) KX G c K34.sb K34.st K34.sst K34.sit K34.tb (r := K34.r_law) (by kernel_rfl) (by kernel_rfl) rfl rfl
      (fun _ _ _ _ _ _ us hl => match us, hl with | [_], _ => rfl) 20 K34.plainR hmg (c.law (by kernel_rfl))
    exact ⟨K, fd, sp, KX, hb, fun H a ns hl _ hS => hs H a ns hl hS, fun base _ _ => hF base⟩
