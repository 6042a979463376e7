import PyProof.Rows.All
import PySem.PyData
import PyProof.P3Statements
import KE.LtData
import Wide.All
import OpenK.AllK
import Wide.FinOn
import HandS.ForMost
import HandS.Wide
import KE.SortKeyHeap
import HandS.TupAny
import PyProof.P3Eq
import HandS.TupLe
import HandS.IsInst
import HandS.Style
import HandS.TupLen
import HandS.Defaults
import HandS.Head0
import HandS.Head1
import HandS.Head2
import HandS.HeadEnd
import HandS.HeadHook1
import HandS.HeadHook2
import HandS.SetKeys
import HandS.DictTup
import PyProof.DictMoreH
import HandS.Iter
import KE.KDictSum
import KE.KDictCopyH
import HandS.ListItems
import HandS.SetFor
import HandS.Set
import HandS.Keys
import HandS.SortKw
import HandS.Codes
import KE.KDictPairs
import HandS.Rev
import PyProof.FactsAll.dict_3
import HandS.List
import KE.GoesMore
import KE.GoesZip
import HandS.New0
import HandS.Conv
import PyProof.Rows.TupDisplay
import KE.DataCmp
import KE.KDictWalk
import PySem.Challenge.RW_copymeet_k55_where_it_was_put
section
set_option autoImplicit false
set_option linter.all false
/-! Value semantics of plain Python defs: slots, data, own containers. -/
namespace CM
open PySem
abbrev D := PyData
abbrev Ky := Sum Int Str
inductive C where
  | d (x : D)
  | dk (kvs : List (Ky × D))
  | dt (kvs : List (List Ky × D))
/-- an object as data -/
def obD (n : Nat) : D := .dict [(.int n, .none)]
/-- a box as data: a container that may be named from many places -/
def bxD (n : Nat) : D := .dict [(.int n, .bool true)]
def bxS : Str := ""
/-- an object's field: data; a container that is its own; the same while it is walked -/
inductive Fd where
  | d (x : D)
  | ow (c : C)
  | lk (c : C)
structure Ob where
  cls : Str
  fs : List (Str × Fd)
abbrev Store := List Ob
inductive Slot where
  | no
  | sh (x : D)
  | bo (c : C)
  | ow (c : C)
  | lk (c : C)
def Lent : Slot → Prop
  | .bo _ => True
  | .lk _ => True
  | _ => False
structure Env where
  sl : List Slot
  st : Store
def Env.put (r : Env) (i : Nat) (s : Slot) : Env := ⟨r.sl.set i s, r.st⟩
inductive Res where
  | sh (x : D)
  | fr (c : C)
  | sl (i : Nat)
  | fl (n : Nat) (f : Str)
inductive Flow where
  | nx
  | bk
  | ct
  | rt (r : Res)
abbrev EF := Env → Option (Res × Env)
abbrev TF := Env → Option (Bool × Env)
abbrev SF := Env → Option (Flow × Env)
/-- what is locked while it is walked -/
inductive Lk where
  | no
  | sl (i : Nat)
  | fl (n : Nat) (f : Str)
abbrev IF := Env → Option (List D × Lk × Env)
/-- a def: arguments, objects -/
abbrev DF := List C → Store → Option (Res × Store)

def bxOf : C → Option Nat
  | .d (.dict [(.int n, .bool true)]) => some n.toNat
  | _ => none

def isTupD : D → Bool
  | .tuple [.str _, .int _] => true
  | _ => false
/-- a tuple of names alone: never a key here -/
def tuT (ds : List D) : Bool := ds.all isTupD
def isCon : D → Bool
  | .list _ => true
  | _ => false

def putFd (f : Str) (v : Fd) : List (Str × Fd) → List (Str × Fd)
  | [] => [(f, v)]
  | (g, x) :: r => if g = f then (g, v) :: r else (g, x) :: putFd f v r
def fldAt (st : Store) (n : Nat) (f : Str) : Option Fd := (st[n]?).bind fun o => o.fs.lookup f
def stPut (st : Store) (n : Nat) (f : Str) (v : Fd) : Store := st.modify n fun o => ⟨o.cls, putFd f v o.fs⟩
def Env.putF (r : Env) (n : Nat) (f : Str) (v : Fd) : Env := ⟨r.sl, stPut r.st n f v⟩

/-- what a result reads as, here -/
def look (r : Env) : Res → Option C
  | .sh x => some (.d x)
  | .fr c => some c
  | .sl i => match r.sl[i]? with
    | some (.sh x) => some (.d x)
    | some (.bo c) => some c
    | some (.ow c) => some c
    | some (.lk c) => some c
    | _ => none
  | .fl n f => match fldAt r.st n f with
    | some (.d x) => some (.d x)
    | some (.ow c) => some c
    | some (.lk c) => some c
    | none => none
/-- a new list that no name holds is plain data from here on -/
def stl : Res → Option Res
  | .fr (.d x) => some (.sh x)
  | .sl i => some (.sl i)
  | .sh x => some (.sh x)
  | _ => none
/-- as plain data, for good -/
def toSh (r : Env) : Res → Option (D × Env)
  | .sh x => some (x, r)
  | .fr (.d x) => some (x, r)
  | .fr _ => none
  | .sl i => match r.sl[i]? with
    | some (.sh x) => some (x, r)
    | some (.ow (.d x)) => some (x, r.put i (.sh x))
    | _ => none
  | .fl n f => match fldAt r.st n f with
    | some (.d x) => some (x, r)
    | _ => none

/-! expressions -/
def eVar (i : Nat) : EF := fun r => match r.sl[i]? with
  | some (.sh _) => some (.sl i, r)
  | some (.bo _) => some (.sl i, r)
  | some (.ow _) => some (.sl i, r)
  | some (.lk _) => some (.sl i, r)
  | _ => none
def eC (x : D) : EF := fun r => some (.sh x, r)
def eOp (g : C → C → Option Res) (a b : EF) : EF := fun r =>
  (a r).bind fun p => (stl p.1).bind fun x => (b p.2).bind fun q => (look q.2 x).bind fun u => (look q.2 q.1).bind fun v => (g u v).bind fun z => some (z, q.2)
/-- the first part may be a new thing, or an object's; the second one is quiet -/
def eOpF (g : C → C → Option Res) (a b : EF) : EF := fun r =>
  (a r).bind fun p => (b p.2).bind fun q => (look q.2 p.1).bind fun u => (look q.2 q.1).bind fun v => (g u v).bind fun z => some (z, q.2)
def eUn (g : C → Option Res) (a : EF) : EF := fun r =>
  (a r).bind fun p => (look p.2 p.1).bind fun u => (g u).bind fun z => some (z, p.2)
def eArgs : List EF → Env → Option (List Res × Env)
  | [], r => some ([], r)
  | a :: as, r => (a r).bind fun p => (stl p.1).bind fun x => (eArgs as p.2).bind fun q => some (x :: q.1, q.2)
def looks (r : Env) : List Res → Option (List C)
  | [] => some []
  | x :: xs => (look r x).bind fun c => (looks r xs).bind fun cs => some (c :: cs)
def shares : Env → List Res → Option (List D × Env)
  | r, [] => some ([], r)
  | r, x :: xs => (toSh r x).bind fun p => (shares p.2 xs).bind fun q => some (p.1 :: q.1, q.2)
def eBi (g : List C → Option Res) (as : List EF) : EF := fun r =>
  (eArgs as r).bind fun p => (looks p.2 p.1).bind fun cs => (g cs).bind fun z => some (z, p.2)
/-- o.m(..): what it is called on may be a new thing, or an object's; the arguments are quiet -/
def eBm (g : List C → Option Res) (a : EF) (as : List EF) : EF := fun r =>
  (a r).bind fun p => (eArgs as p.2).bind fun q => (look q.2 p.1).bind fun u => (looks q.2 q.1).bind fun cs => (g (u :: cs)).bind fun z => some (z, q.2)
def eTup (as : List EF) : EF := fun r => (eArgs as r).bind fun p => (shares p.2 p.1).bind fun q => some (.sh (.tuple q.1), q.2)
def eLst (as : List EF) : EF := fun r => (eArgs as r).bind fun p => (shares p.2 p.1).bind fun q => some (.fr (.d (.list q.1)), q.2)
/-- arguments: true: handed on for good, false: lent -/
def passes : Env → List Bool → List Res → Option (List C × Env)
  | r, [], [] => some ([], r)
  | r, true :: ms, x :: xs => (toSh r x).bind fun p => (passes p.2 ms xs).bind fun q => some (.d p.1 :: q.1, q.2)
  | r, false :: ms, x :: xs => (look r x).bind fun c => (passes r ms xs).bind fun q => some (c :: q.1, q.2)
  | _, _, _ => none
def eCall (f : DF) (ms : List Bool) (as : List EF) : EF := fun r =>
  (eArgs as r).bind fun p => (passes p.2 ms p.1).bind fun q => (f q.1 q.2.st).bind fun z => some (z.1, ⟨q.2.sl, z.2⟩)
def tE (a : EF) : TF := fun r => (a r).bind fun p => match look p.2 p.1 with
  | some (.d (.bool b)) => some (b, p.2)
  | _ => none
def tAndD (a b : TF) : TF := fun r => (a r).bind fun p => if p.1 = true then b p.2 else some (false, p.2)
def tOrD (a b : TF) : TF := fun r => (a r).bind fun p => if p.1 = true then some (true, p.2) else b p.2
def tNotD (a : TF) : TF := fun r => (a r).bind fun p => some (!p.1, p.2)
def tYesD : TF := fun r => some (true, r)
def eAnd (a b : EF) : EF := fun r => (tE a r).bind fun p => if p.1 = true then b p.2 else some (.sh (.bool false), p.2)
def eOr (a b : EF) : EF := fun r => (tE a r).bind fun p => if p.1 = true then some (.sh (.bool true), p.2) else b p.2
def eNot (a : EF) : EF := fun r => (tE a r).bind fun p => some (.sh (.bool !p.1), p.2)
def eIf (t : TF) (a b : EF) : EF := fun r => (t r).bind fun p => if p.1 = true then a p.2 else b p.2

/-! what is walked, targets -/
inductive Pat where
  | v (i : Nat)
  | t (is : List Nat)
def setAll : List Nat → List D → Env → Option Env
  | [], [], r => some r
  | i :: is, x :: xs, r => setAll is xs (r.put i (.sh x))
  | _, _, _ => none
def bindP : Pat → D → Env → Option Env
  | .v i, x, r => some (r.put i (.sh x))
  | .t is, .tuple xs, r => setAll is xs r
  | _, _, _ => none
/-- a list or a tuple -/
def asSeq : D → Option (List D)
  | .list ds => some ds
  | .tuple ds => some ds
  | _ => none
def asSeqC : C → Option (List D)
  | .d x => asSeq x
  | _ => none
/-- what is walked, and what is locked by it -/
def lendOf (r : Env) : Res → Option (C × Lk)
  | .sh x => some (.d x, .no)
  | .fr (.d x) => some (.d x, .no)
  | .fr _ => none
  | .sl i => match r.sl[i]? with
    | some (.sh x) => some (.d x, .no)
    | some (.bo c) => some (c, .no)
    | some (.lk c) => some (c, .no)
    | some (.ow c) => some (c, .sl i)
    | _ => none
  | .fl n f => match fldAt r.st n f with
    | some (.d x) => some (.d x, .no)
    | some (.ow c) => some (c, .fl n f)
    | _ => none
def iSeq (a : EF) : IF := fun r => (a r).bind fun p => (lendOf p.2 p.1).bind fun q => (asSeqC q.1).bind fun ds => some (ds, q.2, p.2)
def lock (l : Lk) (r : Env) : Env := match l with
  | .no => r
  | .sl i => match r.sl[i]? with
    | some (.ow c) => r.put i (.lk c)
    | _ => r
  | .fl n f => match fldAt r.st n f with
    | some (.ow c) => r.putF n f (.lk c)
    | _ => r
def unlock (l : Lk) (r : Env) : Env := match l with
  | .no => r
  | .sl i => match r.sl[i]? with
    | some (.lk c) => r.put i (.ow c)
    | _ => r
  | .fl n f => match fldAt r.st n f with
    | some (.lk c) => r.putF n f (.ow c)
    | _ => r

/-! statements -/
def sNext : SF := fun r => some (.nx, r)
def sBreak : SF := fun r => some (.bk, r)
def sCont : SF := fun r => some (.ct, r)
def sSeq (a b : SF) : SF := fun r => (a r).bind fun p => match p.1 with
  | .nx => b p.2
  | f => some (f, p.2)
def sDrop (a : EF) : SF := fun r => (a r).bind fun p => some (.nx, p.2)
/-- a result kept by a name -/
def keep (i : Nat) (r : Env) : Res → Option Env
  | .sh x => some (r.put i (.sh x))
  | .fr c => some (r.put i (.ow c))
  | .sl j => match r.sl[j]? with
    | some (.sh x) => some (r.put i (.sh x))
    | some (.ow (.d x)) => some ((r.put j (.sh x)).put i (.sh x))
    | _ => none
  | .fl n f => match fldAt r.st n f with
    | some (.d x) => some (r.put i (.sh x))
    | _ => none
def sSet (i : Nat) (a : EF) : SF := fun r => (a r).bind fun p => (keep i p.2 p.1).bind fun r' => some (.nx, r')
def sBind (q : Pat) (a : EF) : SF := fun r => (a r).bind fun p => (toSh p.2 p.1).bind fun y => (bindP q y.1 y.2).bind fun r' => some (.nx, r')
def give (r : Env) : Res → Option Res
  | .sh x => some (.sh x)
  | .fr c => some (.fr c)
  | .sl j => match r.sl[j]? with
    | some (.sh x) => some (.sh x)
    | some (.ow c) => some (.fr c)
    | _ => none
  | .fl n f => match fldAt r.st n f with
    | some (.d x) => some (.sh x)
    | _ => none
def sRet (a : EF) : SF := fun r => (a r).bind fun p => (give p.2 p.1).bind fun x => some (.rt x, p.2)
def sRetN : SF := fun r => some (.rt (.sh .none), r)
def sIf (t : TF) (a b : SF) : SF := fun r => (t r).bind fun p => if p.1 = true then a p.2 else b p.2
def runFor (q : Pat) (body : SF) : List D → Env → Option (Flow × Env)
  | [], r => some (.nx, r)
  | x :: xs, r => (bindP q x r).bind fun r1 => (body r1).bind fun p => match p.1 with
    | .nx => runFor q body xs p.2
    | .ct => runFor q body xs p.2
    | .bk => some (.nx, p.2)
    | .rt z => some (.rt z, p.2)
def sFor (q : Pat) (it : IF) (body : SF) : SF := fun r => (it r).bind fun p => (runFor q body p.1 (lock p.2.1 p.2.2)).bind fun z => some (z.1, unlock p.2.1 z.2)
def runWhile (t : TF) (body : SF) : Nat → Env → Option (Flow × Env)
  | 0, _ => none
  | n + 1, r => (t r).bind fun b => if b.1 = true then (body b.2).bind fun p => match p.1 with
      | .nx => runWhile t body n p.2
      | .ct => runWhile t body n p.2
      | .bk => some (.nx, p.2)
      | .rt z => some (.rt z, p.2)
    else some (.nx, b.2)
def wipeE (r : Env) : List Nat → Env
  | [] => r
  | i :: is => (wipeE r is).put i .no
def runComp (vs : List Nat) (q : Pat) (t : TF) (e : EF) : List D → Env → Option (List D × Env)
  | [], r => some ([], r)
  | x :: xs, r => (bindP q x r).bind fun r1 => (t r1).bind fun b => if b.1 = true then
      (e b.2).bind fun p => (toSh p.2 p.1).bind fun y => (runComp vs q t e xs (wipeE y.2 vs)).bind fun z => some (y.1 :: z.1, z.2)
    else runComp vs q t e xs (wipeE b.2 vs)
def oldSlot (r : Env) (i : Nat) : Slot := match r.sl[i]? with
  | some (.sh x) => .sh x
  | some (.bo c) => .bo c
  | _ => .no
def unwipe (old r : Env) : List Nat → Env
  | [] => r
  | i :: is => (unwipe old r is).put i (oldSlot old i)
def eLc (own : List Nat) (q : Pat) (it : IF) (t : TF) (e : EF) : EF := fun r =>
  (it r).bind fun p => if p.1.length < 16777216 then (runComp own q t e p.1 (wipeE (lock p.2.1 p.2.2) own)).bind fun z => some (.fr (.d (.list z.1)), unlock p.2.1 (unwipe (lock p.2.1 p.2.2) z.2 own)) else none

/-! defs -/
def argSlot : Bool → C → Option Slot
  | true, .d x => some (.sh x)
  | true, _ => none
  | false, .d x => some (if isCon x = true then .bo (.d x) else .sh x)
  | false, c => some (.bo c)
def argSlots : List Bool → List C → Option (List Slot)
  | [], [] => some []
  | m :: ms, c :: cs => (argSlot m c).bind fun s => (argSlots ms cs).bind fun r => some (s :: r)
  | _, _ => none
/-- a def with n slots in all -/
def dDef (n : Nat) (ms : List Bool) (body : SF) : DF := fun cs st =>
  (argSlots ms cs).bind fun r => (body ⟨r ++ List.replicate (n - r.length) .no, st⟩).bind fun p => match p.1 with
    | .nx => some (.sh .none, p.2.st)
    | .rt z => some (z, p.2.st)
    | _ => none

/-! operations on data -/
def gAdd : C → C → Option Res
  | .d (.int i), .d (.int j) => some (.sh (.int (i + j)))
  | .d (.str x), .d (.str y) => if x.cps.size + y.cps.size ≤ 16777216 then some (.sh (.str ⟨x.cps ++ y.cps⟩)) else none
  | .d (.tuple xs), .d (.tuple ys) => if xs.length + ys.length ≤ 16777216 then some (.sh (.tuple (xs ++ ys))) else none
  | .d (.list xs), .d (.list ys) => if xs.length + ys.length ≤ 16777216 then some (.fr (.d (.list (xs ++ ys)))) else none
  | _, _ => none
def gSub : C → C → Option Res
  | .d (.int i), .d (.int j) => some (.sh (.int (i - j)))
  | _, _ => none
def gMul : C → C → Option Res
  | .d (.int i), .d (.int j) => if i.natAbs < 2 ^ 64 ∨ j.natAbs < 2 ^ 64 then some (.sh (.int (i * j))) else none
  | .d (.str x), .d (.int n) => if 0 ≤ n ∧ n ≤ 1000 ∧ 1 ≤ x.cps.size ∧ x.cps.size ≤ 1000 then some (.sh (.str ⟨(List.replicate n.toNat x.cps).foldl (· ++ ·) #[]⟩)) else none
  | _, _ => none
def gDiv : C → C → Option Res
  | .d (.int i), .d (.int j) => if 0 < j ∧ j.natAbs.log2 < 9000 then some (.sh (.int (i / j))) else none
  | _, _ => none
def gMod : C → C → Option Res
  | .d (.int i), .d (.int j) => if 0 < j then some (.sh (.int (i % j))) else none
  | _, _ => none
def gPow : C → C → Option Res
  | .d (.int i), .d (.int j) => if 0 ≤ j ∧ j ≤ 1000000 ∧ i.natAbs < 2 ^ 64 then some (.sh (.int (i ^ j.toNat))) else none
  | _, _ => none
def shB (b : Bool) : Option Res := some (.sh (.bool b))
mutual
def nod : D → Bool
  | .dict _ => false
  | .list xs => nods xs
  | .tuple xs => nods xs
  | _ => true
def nods : List D → Bool
  | [] => true
  | x :: xs => nod x && nods xs
end
def shallow (a b : D) : Bool := decide (min a.depth b.depth ≤ 60) && (nod a && nod b)
def gEq : C → C → Option Res
  | .d x, .d y => if shallow x y = true then shB (PyData.eqv x y) else none
  | _, _ => none
def gNe : C → C → Option Res
  | .d x, .d y => if shallow x y = true then shB (!PyData.eqv x y) else none
  | _, _ => none

/-! order -/
inductive O4 where
  | lt | le | gt | ge
def O4.int : O4 → Int → Int → Bool
  | .lt, i, j => decide (i < j)
  | .le, i, j => decide (i ≤ j)
  | .gt, i, j => decide (j < i)
  | .ge, i, j => decide (j ≤ i)
def O4.tx : O4 → List Nat → List Nat → Bool
  | .lt, i, j => decide (i < j)
  | .le, i, j => !decide (j < i)
  | .gt, i, j => decide (j < i)
  | .ge, i, j => !decide (i < j)
def O4.len : O4 → Nat → Nat → Bool
  | .lt, i, j => decide (i < j)
  | .le, i, j => decide (i ≤ j)
  | .gt, i, j => decide (i > j)
  | .ge, i, j => decide (i ≥ j)
mutual
def cmpD (o : O4) : D → D → Option Bool
  | .int i, .int j => some (o.int i j)
  | .str x, .str y => some (o.tx x.cps.toList y.cps.toList)
  | .tuple xs, .tuple ys => cmpDs o xs ys
  | _, _ => none
def cmpDs (o : O4) : List D → List D → Option Bool
  | x :: xs, y :: ys => if PyData.eqv x y = true then cmpDs o xs ys else (cmpD o x y).bind fun v => (cmpDs o xs ys).bind fun _ => some v
  | xs, ys => some (o.len xs.length ys.length)
end
def gCmp (o : O4) : C → C → Option Res
  | .d x, .d y => if shallow x y = true then (cmpD o x y).bind shB else none
  | _, _ => none
def isNonC : C → Bool
  | .d .none => true
  | _ => false
def gIsN (a : C) : C → Option Res
  | .d .none => shB (isNonC a)
  | _ => none
def gNotN (a : C) : C → Option Res
  | .d .none => shB (!isNonC a)
  | _ => none
def gIsB : C → C → Option Res
  | .d (.bool a), .d (.bool b) => shB (decide (a = b))
  | _, _ => none
def gNotB : C → C → Option Res
  | .d (.bool a), .d (.bool b) => shB (!decide (a = b))
  | _, _ => none
/-! keys -/
def kOf : D → Option Ky
  | .int i => some (.inl i)
  | .str x => some (.inr x)
  | _ => none
def ksOf : List D → Option (List Ky)
  | [] => some []
  | x :: xs => (kOf x).bind fun k => (ksOf xs).bind fun ks => some (k :: ks)
/-- what may be one of the module's constant tuples -/
def cstD : List D → Bool
  | [.str _, .str _, .str _, .str _, .str _, .str _] => true
  | _ => false
def kOfT : D → Option (List Ky)
  | .tuple xs => if (cstD xs || tuT xs) = true then none else ksOf xs
  | _ => none
def kD : Ky → D
  | .inl i => .int i
  | .inr x => .str x
def kDT (k : List Ky) : D := .tuple (k.map kD)
def aGet {κ : Type} [DecidableEq κ] (kvs : List (κ × D)) (k : κ) : Option D := (kvs.find? fun e => decide (e.1 = k)).map (·.2)
def aPut {κ : Type} [DecidableEq κ] (kvs : List (κ × D)) (k : κ) (v : D) : List (κ × D) :=
  if (kvs.any fun e => decide (e.1 = k)) = true then kvs.map (fun e => if e.1 = k then (e.1, v) else e) else kvs ++ [(k, v)]
def aDrop {κ : Type} [DecidableEq κ] (kvs : List (κ × D)) (k : κ) : List (κ × D) := kvs.filter fun e => decide (e.1 ≠ k)
/-- what a dict has at a key -/
def cGet : C → D → Option (Option D)
  | .dk kvs, k => (kOf k).bind fun k => some (aGet kvs k)
  | .dt kvs, k => (kOfT k).bind fun k => some (aGet kvs k)
  | _, _ => none
def cPut : C → D → D → Option C
  | .dk kvs, k, v => if kvs.length < 16777216 then (kOf k).bind fun k => some (.dk (aPut kvs k v)) else none
  | .dt kvs, k, v => if kvs.length < 16777216 then (kOfT k).bind fun k => some (.dt (aPut kvs k v)) else none
  | _, _, _ => none
def inDs (x : D) (ys : List D) : Bool := ys.any fun y => PyData.eqv y x
def shallowAll (x : D) (ys : List D) : Bool := nod x && ys.all fun y => shallow y x
def gIn : C → C → Option Res
  | .d x, .d (.list ys) => if shallowAll x ys = true then shB (inDs x ys) else none
  | .d x, .d (.tuple ys) => if shallowAll x ys = true then shB (inDs x ys) else none
  | _, _ => none
def gNotIn : C → C → Option Res
  | .d x, .d (.list ys) => if shallowAll x ys = true then shB (!inDs x ys) else none
  | .d x, .d (.tuple ys) => if shallowAll x ys = true then shB (!inDs x ys) else none
  | _, _ => none
/-- the place that an index means -/
def plc (n : Nat) (i : Int) : Option Nat := if 0 ≤ i then (if i < n then some i.toNat else none) else if -(n : Int) ≤ i then some (i + n).toNat else none
def atD {α : Type} (xs : List α) (i : Int) : Option α := (plc xs.length i).bind fun j => xs[j]?
def gIx : C → C → Option Res
  | .d (.list xs), .d (.int i) => (atD xs i).bind fun x => some (.sh x)
  | .d (.tuple xs), .d (.int i) => (atD xs i).bind fun x => some (.sh x)
  | .d (.str x), .d (.int i) => if x.cps.size ≤ 16777216 then (atD x.cps.toList i).bind fun c => some (.sh (.str ⟨#[c]⟩)) else none
  | _, _ => none
/-- the end of a slice -/
def cutAt (n d : Nat) : Option Int → Nat
  | none => d
  | some i => if i < 0 then (i + (n : Int)).toNat else min i.toNat n
def cutL {α : Type} (xs : List α) (lo hi : Option Int) : List α := (xs.drop (cutAt xs.length 0 lo)).take (cutAt xs.length xs.length hi - cutAt xs.length 0 lo)
def ePart : Option EF → Env → Option (Option Int × Env)
  | none, r => some (none, r)
  | some a, r => (a r).bind fun p => match look p.2 p.1 with
    | some (.d (.int i)) => some (some i, p.2)
    | _ => none
def gSl : C → Option Int → Option Int → Option Res
  | .d (.list xs), lo, hi => some (.fr (.d (.list (cutL xs lo hi))))
  | .d (.tuple xs), lo, hi => some (.sh (.tuple (cutL xs lo hi)))
  | .d (.str x), lo, hi => if x.cps.size ≤ 16777216 then some (.sh (.str ⟨(cutL x.cps.toList lo hi).toArray⟩)) else none
  | _, _, _ => none
def eSl (a : EF) (lo hi : Option EF) : EF := fun r =>
  (a r).bind fun p => (stl p.1).bind fun x => (ePart lo p.2).bind fun l => (ePart hi l.2).bind fun h => (look h.2 x).bind fun c => (gSl c l.1 h.1).bind fun z => some (z, h.2)
def gRev : C → Option Res
  | .d (.list xs) => some (.fr (.d (.list xs.reverse)))
  | _ => none
/-! kinds -/
def kindD : D → String
  | .none => "NoneType"
  | .bool _ => "bool"
  | .int _ => "int"
  | .str _ => "str"
  | .list _ => "list"
  | .tuple _ => "tuple"
  | .dict _ => "dict"
def isiS (a b : String) : Bool := a == b || (a == "bool" && b == "int")
def gIsi (T : String) : C → Option Res
  | .d (.dict _) => none
  | .d x => shB (isiS (kindD x) T)
  | _ => none
def eIsi (T : String) (a : EF) : EF := eUn (gIsi T) a
/-! calls -/
def gLen : List C → Option Res
  | [.d (.list xs)] => some (.sh (.int xs.length))
  | [.d (.tuple xs)] => some (.sh (.int xs.length))
  | [.d (.str x)] => if x.cps.size ≤ 16777216 then some (.sh (.int x.cps.size)) else none
  | [.dk kvs] => some (.sh (.int kvs.length))
  | [.dt kvs] => some (.sh (.int kvs.length))
  | _ => none
def gList : List C → Option Res
  | [.d (.list xs)] => some (.fr (.d (.list xs)))
  | [.d (.tuple xs)] => some (.fr (.d (.list xs)))
  | _ => none
def gTuple : List C → Option Res
  | [.d (.list xs)] => some (.sh (.tuple xs))
  | [.d (.tuple xs)] => some (.sh (.tuple xs))
  | _ => none
def gMax2 : List C → Option Res
  | [.d (.int i), .d (.int j)] => some (.sh (.int (if j > i then j else i)))
  | _ => none
def gMin2 : List C → Option Res
  | [.d (.int i), .d (.int j)] => some (.sh (.int (if j < i then j else i)))
  | _ => none
def gInt : List C → Option Res
  | [.d (.int i)] => some (.sh (.int i))
  | [.d (.bool b)] => some (.sh (.int (if b = true then 1 else 0)))
  | _ => none
def intsD : List D → Option (List Int)
  | [] => some []
  | .int i :: xs => (intsD xs).bind fun is => some (i :: is)
  | _ :: _ => none
def gSum : List C → Option Res
  | [.d (.list xs)] => (intsD xs).bind fun is => some (.sh (.int is.sum))
  | _ => none
def boolsD : List D → Option (List Bool)
  | [] => some []
  | .bool i :: xs => (boolsD xs).bind fun is => some (i :: is)
  | _ :: _ => none
def gAll : List C → Option Res
  | [.d (.list xs)] => (boolsD xs).bind fun is => shB (is.all id)
  | _ => none
/-! ranges -/
def rgD (a : Int) (n : Nat) : List D := (List.range n).map fun i => .int (a + (i : Nat))
def iRg (as : List EF) : IF := fun r => (eArgs as r).bind fun p => (looks p.2 p.1).bind fun cs => match cs with
  | [.d (.int j)] => if j.natAbs ≤ 1000000 then some (rgD 0 j.toNat, .no, p.2) else none
  | [.d (.int i), .d (.int j)] => if i.natAbs ≤ 1000000 ∧ j.natAbs ≤ 1000000 then some (rgD i (j - i).toNat, .no, p.2) else none
  | _ => none
/-! changes of what a name holds alone -/
inductive Pl where
  | sl (i : Nat)
  | fl (cs : List Str) (i : Nat) (f : Str)
def obOf : C → Option Nat
  | .d (.dict [(.int n, .none)]) => some n.toNat
  | _ => none
def obAt (r : Env) (i : Nat) : Option Nat := match r.sl[i]? with
  | some (.sh x) => obOf (.d x)
  | _ => none
/-- a field of an object of one of these classes -/
def fldC (cs : List Str) (st : Store) (n : Nat) (f : Str) : Option Fd := (st[n]?).bind fun o => if cs.contains o.cls = true then o.fs.lookup f else none
def ownAt (r : Env) : Pl → Option C
  | .sl i => match r.sl[i]? with
    | some (.ow c) => some c
    | _ => none
  | .fl cs i f => (obAt r i).bind fun n => match fldC cs r.st n f with
    | some (.ow c) => some c
    | _ => none
def ownPut (r : Env) (c : C) : Pl → Env
  | .sl i => r.put i (.ow c)
  | .fl _ i f => match obAt r i with
    | some n => r.putF n f (.ow c)
    | none => r
def isLst : C → Bool
  | .d (.list _) => true
  | _ => false
/-- a method that changes what it is called on: which kind, what it gives and leaves -/
def eMut (k : C → Bool) (g : C → List D → Option (Res × C)) (q : Pl) (as : List EF) : EF := fun r => (ownAt r q).bind fun c0 => if k c0 = true then
  (eArgs as r).bind fun p => (shares p.2 p.1).bind fun y => (ownAt y.2 q).bind fun c => (g c y.1).bind fun z => some (z.1, ownPut y.2 z.2 q)
  else none
def gApp : C → List D → Option (Res × C)
  | .d (.list xs), [y] => if xs.length < 16777216 then some (.sh .none, .d (.list (xs ++ [y]))) else none
  | _, _ => none
/-- d[k] = v -/
def sPut (q : Pl) (k v : EF) : SF := fun r => (v r).bind fun p => (toSh p.2 p.1).bind fun y => (ownAt y.2 q).bind fun _ => (k y.2).bind fun s => (toSh s.2 s.1).bind fun z => (ownAt z.2 q).bind fun c => match c with
  | .d (.list xs) => match z.1 with
    | .int j => (plc xs.length j).bind fun n => some (.nx, ownPut z.2 (.d (.list (xs.set n y.1))) q)
    | _ => none
  | c => (cPut c z.1 y.1).bind fun c' => some (.nx, ownPut z.2 c' q)
def eNewK : EF := fun r => some (.fr (.dk []), r)
def eNewT : EF := fun r => some (.fr (.dt []), r)
def gDGet : C → C → Option Res
  | c, .d k => (cGet c k).bind fun o => o.bind fun v => some (.sh v)
  | _, _ => none
def gDIn : C → C → Option Res
  | .d k, c => (cGet c k).bind fun o => shB o.isSome
  | _, _ => none
def gDNotIn : C → C → Option Res
  | .d k, c => (cGet c k).bind fun o => shB (!o.isSome)
  | _, _ => none
/-- a in b, whatever b is -/
def gInA : C → C → Option Res
  | x, .d y => gIn x (.d y)
  | x, c => gDIn x c
def gNotInA : C → C → Option Res
  | x, .d y => gNotIn x (.d y)
  | x, c => gDNotIn x c
def gIxA : C → C → Option Res
  | .d x, y => gIx (.d x) y
  | c, y => gDGet c y

/-! objects -/
def eFld (cs : List Str) (f : Str) (a : EF) : EF := fun r => (a r).bind fun p => (look p.2 p.1).bind fun c => (obOf c).bind fun n => match fldC cs p.2.st n f with
  | some (.d x) => some (.sh x, p.2)
  | some _ => some (.fl n f, p.2)
  | none => none
def fdOf (r : Env) : Res → Option (Fd × Env)
  | .sh x => some (.d x, r)
  | .fr c => some (.ow c, r)
  | .sl i => match r.sl[i]? with
    | some (.sh x) => some (.d x, r)
    | some (.ow c) => some (.ow c, r.put i .no)
    | _ => none
  | .fl n f => match fldAt r.st n f with
    | some (.d x) => some (.d x, r)
    | _ => none
def okPut (cs : List Str) (st : Store) (n : Nat) (f : Str) : Bool := match st[n]? with
  | none => false
  | some o => cs.contains o.cls && match o.fs.lookup f with
    | some (.lk _) => false
    | some _ => true
    | none => decide (o.fs.length < 100)
/-- x.f = e -/
def sFldSet (cs : List Str) (i : Nat) (f : Str) (a : EF) : SF := fun r => (a r).bind fun p => (obAt p.2 i).bind fun n => (fdOf p.2 p.1).bind fun q => if okPut cs q.2.st n f = true then some (.nx, q.2.putF n f q.1) else none
/-- x.f op= e -/
def sFldAug (cs : List Str) (i : Nat) (f : Str) (g : C → C → Option Res) (a : EF) : SF := fun r => (obAt r i).bind fun n => match fldC cs r.st n f with
  | some (.d x) => (a r).bind fun p => (look p.2 p.1).bind fun v => (g (.d x) v).bind fun z => match z, fldC cs p.2.st n f with
    | .sh y, some (.d _) => some (.nx, p.2.putF n f (.d y))
    | _, _ => none
  | _ => none
/-- o.m(..) -/
def eMeth (m : Str) (tb : List (Str × DF)) (ms : List Bool) (o : EF) (as : List EF) : EF := fun r => (o r).bind fun p => (look p.2 p.1).bind fun c => (obOf c).bind fun n => (p.2.st[n]?).bind fun ob =>
  if (ob.fs.lookup m).isNone = true then (tb.lookup ob.cls).bind fun f => (eArgs as p.2).bind fun q => (passes q.2 ms q.1).bind fun y => (f (.d (obD n) :: y.1) y.2.st).bind fun z => some (z.1, ⟨y.2.sl, z.2⟩) else none
/-- C(..) -/
def eNew (cls : Str) (init : DF) (ms : List Bool) (as : List EF) : EF := fun r => (eArgs as r).bind fun p => (passes p.2 ms p.1).bind fun q =>
  (init (.d (obD q.2.st.length) :: q.1) (q.2.st ++ [⟨cls, []⟩])).bind fun z => match z.1 with
    | .sh .none => some (.sh (obD q.2.st.length), ⟨q.2.sl, z.2⟩)
    | _ => none
def eNew0 (cls : Str) : EF := fun r => some (.sh (obD r.st.length), ⟨r.sl, r.st ++ [⟨cls, []⟩]⟩)

/-! sorting -/
def leD (a b : D) : Bool := !W.dataLt b a
def sortD (ds : List D) : List D := ds.mergeSort leD
def alikeB (ds : List D) : Bool := ds.all fun x => ds.all fun y => W.alike x y
def tupB : D → Bool
  | .tuple (_ :: _) => true
  | _ => false
def plainB : D → Bool
  | .tuple _ => false
  | .none => false
  | _ => true
def sortB (ds : List D) : Bool := nods ds && alikeB ds && (ds.all tupB || ds.all plainB) && (ds.all fun x => decide (x.depth ≤ 60)) && decide (ds.length ≤ 16777216)
def gSorted : List C → Option Res
  | [.d (.list ds)] => if sortB ds = true then some (.fr (.d (.list (sortD ds)))) else none
  | _ => none
def gNeg : C → Option Res
  | .d (.int i) => some (.sh (.int (-i)))
  | _ => none
/-- a < b < c -/
def eChain (g h : C → C → Option Res) (a b c : EF) : EF := fun r =>
  (a r).bind fun p => (stl p.1).bind fun x => (b p.2).bind fun q => (stl q.1).bind fun y => (look q.2 x).bind fun u => (look q.2 y).bind fun v => (g u v).bind fun z => match z with
    | .sh (.bool true) => (c q.2).bind fun s => (look s.2 y).bind fun v => (look s.2 s.1).bind fun w => (h v w).bind fun z => some (z, s.2)
    | .sh (.bool false) => some (.sh (.bool false), q.2)
    | _ => none
/-- d.get(k), d.get(k, x) -/
def gGet : List C → Option Res
  | [c, .d k] => (cGet c k).bind fun o => some (.sh (o.getD .none))
  | [c, .d k, .d x] => (cGet c k).bind fun o => some (.sh (o.getD x))
  | _ => none
/-- x op= e -/
def sAug (i : Nat) (g : C → C → Option Res) (a : EF) : SF := fun r =>
  (a r).bind fun p => (look p.2 (.sl i)).bind fun u => (look p.2 p.1).bind fun v => (g u v).bind fun z => match z with
    | .sh x => some (.nx, p.2.put i (.sh x))
    | _ => none
end CM
end
section
set_option Elab.async false
set_option linter.all false
set_option maxRecDepth 100000
set_option autoImplicit false
namespace CM
open PySem PySem.Spec PyProof.Rows L2

def Ex (H H' : Hp) : Prop := ∀ a o, H a = some o → H' a = some o
theorem Ex.refl (H : Hp) : Ex H H := fun _ _ h => h
theorem Ex.trans {H H1 H2 : Hp} (a : Ex H H1) (b : Ex H1 H2) : Ex H H2 := fun x o h => b x o (a x o h)
theorem Ex.new {H : Hp} {p : Addr} {o : HO} (h : H p = none) : Ex H (upd H p o) := fun a u e => by
  rw [upd_ne (ne_of_none e h)]; exact e
theorem Ex.back {H H' : Hp} {p : Addr} (e : Ex H H') (h : H' p = none) : H p = none := by
  cases h1 : H p with
  | none => rfl
  | some o => rw [e p o h1] at h; cases h
theorem Ex.up2 {H H' : Hp} {p : Addr} {o : HO} (e : Ex H H') (h : H' p = none) : Ex (upd H p o) (upd H' p o) := fun a u q => by
  by_cases z : a = p
  · subst z; rw [upd_same] at q ⊢; exact q
  · rw [upd_ne z] at q ⊢; exact e a u q
/-- a fresh place of the greater may change -/
theorem Ex.side {H H' : Hp} {p : Addr} {o : HO} (e : Ex H H') (h : H p = none) : Ex H (upd H' p o) := fun a u q => by
  rw [upd_ne (ne_of_none q h)]; exact e a u q
theorem Ex.rd {H H' : Hp} {a : Addr} {u : HO} (e : Ex H H') (h : Rd H a u) : Rd H' a u := by
  rcases h with h | ⟨o, h⟩
  · exact Or.inl (e a _ h)
  · exact Or.inr ⟨o, e a _ h⟩
theorem Ex.l {K : PySem.W.Frag} {H H' : Hp} {a : Addr} {xs : List V} (e : Ex H H') (h : SqL K H a xs) : SqL K H' a xs := by
  rcases h with h | h
  · exact Or.inl (e.rd h)
  · exact Or.inr h
theorem Ex.t {K : PySem.W.Frag} {H H' : Hp} {a : Addr} {xs : List V} (e : Ex H H') (h : SqT K H a xs) : SqT K H' a xs := by
  rcases h with h | h
  · exact Or.inl (e.rd h)
  · exact Or.inr h

/-- what an address is for, of the objects -/
inductive Tg where
  | ins (n : Nat)
  | dic (n : Nat)
  | fld (n : Nat) (f : Str)
  | lok (n : Nat) (f : Str)
def Tg.ix : Tg → Nat
  | .ins n => n
  | .dic n => n
  | .fld n _ => n
  | .lok n _ => n
/-- the written part, the module's names -/
structure KC where
  K : PySem.W.Frag
  mg : Str → Option Value
/-- what stands for good; what belongs to objects -/
structure Fz where
  f : Hp
  t : Addr → Option Tg
def Fz.put (F : Fz) (p : Addr) (o : HO) : Fz := ⟨upd F.f p o, F.t⟩
/-- a box stands there -/
def Bt (F : Fz) (p : Addr) (n : Nat) : Prop := F.t p = some (.fld n bxS) ∨ F.t p = some (.lok n bxS)
structure FEi (F F' : Fz) : Prop where
  f : Ex F.f F'.f
  i : ∀ p n, F.t p = some (.ins n) → F'.t p = some (.ins n)
  b : ∀ p n, Bt F p n → Bt F' p n
theorem Bt.same {F F' : Fz} {p : Addr} {n : Nat} (h : Bt F p n) (t : F'.t p = F.t p) : Bt F' p n := by unfold Bt; rw [t]; exact h
theorem FEi.refl (F : Fz) : FEi F F := ⟨.refl _, fun _ _ h => h, fun _ _ h => h⟩
structure FEx (F F' : Fz) : Prop extends FEi F F' where
  l : ∀ p n f, F.t p = some (.lok n f) ↔ F'.t p = some (.lok n f)
theorem FEx.refl (F : Fz) : FEx F F := ⟨.refl F, fun _ _ _ => Iff.rfl⟩
theorem FEx.trans {F F1 F2 : Fz} (a : FEx F F1) (b : FEx F1 F2) : FEx F F2 := ⟨⟨a.f.trans b.f, fun p n h => b.i p n (a.i p n h), fun p n h => b.b p n (a.b p n h)⟩, fun p n f => (a.l p n f).trans (b.l p n f)⟩
theorem FEx.of {F F' : Fz} (f : Ex F.f F'.f) (t : F'.t = F.t) : FEx F F' := ⟨⟨f, fun p n h => by rw [t]; exact h, fun p n h => h.same (by rw [t])⟩, fun p n f => by rw [t]⟩
instance {F F' : Fz} : Coe (FEx F F') (FEi F F') := ⟨FEx.toFEi⟩
theorem FEi.put {F : Fz} {p : Addr} {o : HO} (h : F.f p = none) : FEi F (F.put p o) := ⟨.new h, fun _ _ q => q, fun _ _ q => q⟩
theorem FEx.put {F : Fz} {p : Addr} {o : HO} (h : F.f p = none) : FEx F (F.put p o) := .of (.new h) rfl

/-- a tuple: an own one, or a constant of the module -/
def PlT (o : Obj) : Prop := o.cls = .type "tuple" ∧ o.dict = none
/-- an own tuple: one of tuples alone is known to the object -/
def tupO (b : Bool) (o : Obj) (xs : List V) : HO := if b = true then .frz o (.tup xs) else .tup xs
theorem tupO_rd {H : Hp} {a : Addr} {b : Bool} {o : Obj} {xs : List V} (h : H a = some (tupO b o xs)) : Rd H a (.tup xs) := by
  cases b
  · exact Or.inl h
  · exact Or.inr ⟨o, h⟩
def TupAt (K : PySem.W.Frag) (F : Hp) (a : Addr) (xs : List V) (ds : List D) : Prop := (∃ o, PlT o ∧ F a = some (tupO (tuT ds) o xs)) ∨ (SqT K F a xs ∧ cstD ds = true)
theorem TupAt.sq {K : PySem.W.Frag} {F : Hp} {a : Addr} {xs : List V} {ds : List D} (h : TupAt K F a xs ds) : SqT K F a xs := h.elim (fun ⟨_, _, e⟩ => Or.inl (tupO_rd e)) And.left
theorem TupAt.up {K : PySem.W.Frag} {F F' : Hp} {a : Addr} {xs : List V} {ds : List D} (e : Ex F F') (h : TupAt K F a xs ds) : TupAt K F' a xs ds := h.imp (fun ⟨o, p, q⟩ => ⟨o, p, e _ _ q⟩) fun h => ⟨e.t h.1, h.2⟩
theorem TupAt.flat {K : PySem.W.Frag} {F : Hp} {a : Addr} {xs : List V} {ds : List D} (n : tuT ds = false) (h : F a = some (.tup xs)) : TupAt K F a xs ds := .inl ⟨{ cls := .type "tuple", data := .cell none }, ⟨rfl, rfl⟩, by rw [n]; exact h⟩
mutual
inductive Vp (K : KC) (F : Fz) : V → D → Prop
  | non : Vp K F .non .none
  | bl (b : Bool) : Vp K F (.bl b) (.bool b)
  | int (i : Int) : Vp K F (.int i) (.int i)
  | str (x : Str) : Vp K F (.str x) (.str x)
  | lst {a : Addr} {xs : List V} {ds : List D} : SqL K.K F.f a xs → VpAll K F xs ds → Vp K F (.ref a) (.list ds)
  | tup {a : Addr} {xs : List V} {ds : List D} : TupAt K.K F.f a xs ds → VpAll K F xs ds → Vp K F (.ref a) (.tuple ds)
  | ob {p : Addr} {n : Nat} : F.t p = some (.ins n) → Vp K F (.ref p) (.dict [(.int (Int.ofNat n), .none)])
  | bx {p : Addr} {n : Nat} : Bt F p n → Vp K F (.ref p) (.dict [(.int (Int.ofNat n), .bool true)])
inductive VpAll (K : KC) (F : Fz) : List V → List D → Prop
  | nil : VpAll K F [] []
  | cons {v : V} {vs : List V} {d : D} {ds : List D} : Vp K F v d → VpAll K F vs ds → VpAll K F (v :: vs) (d :: ds)
end
theorem nods_cons {x : D} {xs : List D} (h : nods (x :: xs) = true) : nod x = true ∧ nods xs = true := by
  unfold nods at h
  exact Bool.and_eq_true_iff.mp h
mutual
theorem Vp.up {K : KC} {F F' : Fz} (e : FEi F F') : ∀ (d : D) (v : V), Vp K F v d → Vp K F' v d
  | .none, _, h => by cases h; exact .non
  | .bool b, _, h => by cases h; exact .bl b
  | .int i, _, h => by cases h; exact .int i
  | .str x, _, h => by cases h; exact .str x
  | .list ds, _, h => by
    cases h with
    | lst hs ha => exact .lst (e.f.l hs) (VpAll.up e ds _ ha)
  | .tuple ds, _, h => by
    cases h with
    | tup hs ha => exact .tup (hs.up e.f) (VpAll.up e ds _ ha)
  | .dict _, _, h => by
    cases h with
    | ob a => exact .ob (e.i _ _ a)
    | bx a => exact .bx (e.b _ _ a)
theorem VpAll.up {K : KC} {F F' : Fz} (e : FEi F F') : ∀ (ds : List D) (vs : List V), VpAll K F vs ds → VpAll K F' vs ds
  | [], _, h => by cases h; exact .nil
  | d :: ds, _, h => by
    cases h with
    | cons h1 h2 => exact .cons (Vp.up e d _ h1) (VpAll.up e ds _ h2)
end
mutual
theorem Vp.dp {K : KC} {F : Fz} {H : Hp} (e : Ex F.f H) : ∀ (d : D) (v : V), Vp K F v d → nod d = true → Dp K.K H v d
  | .none, _, h, _ => by cases h; exact .non
  | .bool b, _, h, _ => by cases h; exact .bl b
  | .int i, _, h, _ => by cases h; exact .int i
  | .str x, _, h, _ => by cases h; exact .str x
  | .list ds, _, h, n => by
    cases h with
    | lst hs ha => exact .lst (e.l hs) (VpAll.dp e ds _ ha (by unfold nod at n; exact n))
  | .tuple ds, _, h, n => by
    cases h with
    | tup hs ha => exact .tup (e.t hs.sq) (VpAll.dp e ds _ ha (by unfold nod at n; exact n))
  | .dict _, _, h, n => by unfold nod at n; cases n
theorem VpAll.dp {K : KC} {F : Fz} {H : Hp} (e : Ex F.f H) : ∀ (ds : List D) (vs : List V), VpAll K F vs ds → nods ds = true → DpAll K.K H vs ds
  | [], _, h, _ => by cases h; exact .nil
  | d :: ds, _, h, n => by
    cases h with
    | cons h1 h2 => exact .cons (Vp.dp e d _ h1 (nods_cons n).1) (VpAll.dp e ds _ h2 (nods_cons n).2)
end
theorem VpAll.length {K : KC} {F : Fz} : ∀ {ds : List D} {vs : List V}, VpAll K F vs ds → vs.length = ds.length
  | [], _, h => by cases h; rfl
  | d :: ds, _, h => by
    cases h with
    | cons h1 h2 => simp [VpAll.length h2]
theorem VpAll.get {K : KC} {F : Fz} : ∀ {ds : List D} {vs : List V} {i : Nat} {d : D}, VpAll K F vs ds → ds[i]? = some d → ∃ v, vs[i]? = some v ∧ Vp K F v d
  | [], _, _, _, h, e => by simp at e
  | d :: ds, _, 0, _, h, e => by
    cases h with
    | cons h1 h2 => simp at e; subst e; exact ⟨_, rfl, h1⟩
  | d :: ds, _, i + 1, _, h, e => by
    cases h with
    | cons h1 h2 =>
      obtain ⟨v, q, r⟩ := VpAll.get (i := i) h2 (by simpa using e)
      exact ⟨v, by simpa using q, r⟩
theorem VpAll.app {K : KC} {F : Fz} : ∀ {ds es : List D} {vs ws : List V}, VpAll K F vs ds → VpAll K F ws es → VpAll K F (vs ++ ws) (ds ++ es)
  | [], _, _, _, h, g => by cases h; exact g
  | d :: ds, _, _, _, h, g => by
    cases h with
    | cons h1 h2 => exact .cons h1 (VpAll.app h2 g)
theorem VpAll.take {K : KC} {F : Fz} : ∀ {ds : List D} {vs : List V} (n : Nat), VpAll K F vs ds → VpAll K F (vs.take n) (ds.take n)
  | [], _, n, h => by cases h; simp; exact .nil
  | d :: ds, _, 0, h => .nil
  | d :: ds, _, n + 1, h => by
    cases h with
    | cons h1 h2 => exact .cons h1 (VpAll.take n h2)
theorem VpAll.drop {K : KC} {F : Fz} : ∀ {ds : List D} {vs : List V} (n : Nat), VpAll K F vs ds → VpAll K F (vs.drop n) (ds.drop n)
  | [], _, n, h => by cases h; simp; exact .nil
  | d :: ds, _, 0, h => h
  | d :: ds, _, n + 1, h => by
    cases h with
    | cons h1 h2 => exact VpAll.drop n h2
theorem VpAll.set {K : KC} {F : Fz} {v : V} {d : D} (g : Vp K F v d) : ∀ {ds : List D} {vs : List V} (n : Nat), VpAll K F vs ds → VpAll K F (vs.set n v) (ds.set n d)
  | [], _, n, h => by cases h; exact .nil
  | e :: ds, _, 0, h => by
    cases h with
    | cons h1 h2 => exact .cons g h2
  | e :: ds, _, n + 1, h => by
    cases h with
    | cons h1 h2 => exact .cons h1 (VpAll.set g n h2)
theorem VpAll.rev {K : KC} {F : Fz} : ∀ {ds : List D} {vs : List V}, VpAll K F vs ds → VpAll K F vs.reverse ds.reverse
  | [], _, h => by cases h; exact .nil
  | d :: ds, _, h => by
    cases h with
    | cons h1 h2 =>
      rw [List.reverse_cons, List.reverse_cons]
      exact VpAll.app (VpAll.rev h2) (.cons h1 .nil)

/-- keys as values -/
def KVs (K : KC) (F : Fz) {κ : Type} (es : List (κ × V)) (kvs : List (κ × D)) : Prop := Paired (fun (e : κ × V) (q : κ × D) => e.1 = q.1 ∧ Vp K F e.2 q.2) es kvs
theorem KVs.up {K : KC} {F F' : Fz} (e : FEi F F') {κ : Type} {es : List (κ × V)} {kvs : List (κ × D)} (h : KVs K F es kvs) : KVs K F' es kvs :=
  Paired.mapP h fun a b ⟨h1, h2⟩ => ⟨h1, Vp.up e _ _ h2⟩

/-- a container of data in F; its own object to be read in H -/
def Bd (K : KC) (F : Fz) (H : Hp) (v : V) : C → Prop
  | .d (.list ds) => ∃ p xs, v = .ref p ∧ SqL K.K H p xs ∧ VpAll K F xs ds
  | .d x => Vp K F v x
  | .dk kvs => ∃ p es, v = .ref p ∧ Rd H p (.dK es) ∧ KVs K F es kvs
  | .dt kvs => ∃ p es, v = .ref p ∧ Rd H p (.dT es) ∧ KVs K F es kvs
/-- .. to be written in H -/
def Od (K : KC) (F : Fz) (H : Hp) (p : Addr) : C → Prop
  | .d (.list ds) => ∃ xs, H p = some (.lst xs) ∧ VpAll K F xs ds
  | .d _ => False
  | .dk kvs => ∃ es, H p = some (.dK es) ∧ KVs K F es kvs
  | .dt kvs => ∃ es, H p = some (.dT es) ∧ KVs K F es kvs
/-- .. to be read at p -/
def OdR (K : KC) (F : Fz) (H : Hp) (p : Addr) : C → Prop
  | .d (.list ds) => ∃ xs, H p = some (.lst xs) ∧ VpAll K F xs ds
  | .d _ => False
  | .dk kvs => ∃ es, Rd H p (.dK es) ∧ KVs K F es kvs
  | .dt kvs => ∃ es, Rd H p (.dT es) ∧ KVs K F es kvs
section
variable {K : KC} {F F' : Fz} {H H' B H0 F0 : Hp} {v : V} {c : C} {x : D} {p : Addr}
theorem Bd.of (h : Vp K F v x) (e : Ex F.f H) : Bd K F H v (.d x) := by
  cases x with
  | list ds =>
    cases h with
    | lst hs ha => exact ⟨_, _, rfl, e.l hs, ha⟩
  | _ => exact h
theorem Bd.up (h : Bd K F H v c) (e : FEi F F') (e' : Ex H H') : Bd K F' H' v c := by
  cases c with
  | d x =>
    cases x with
    | list ds => obtain ⟨p, xs, r, a, b⟩ := h; exact ⟨p, xs, r, e'.l a, VpAll.up e _ _ b⟩
    | _ => exact Vp.up e _ _ h
  | dk kvs => obtain ⟨p, es, r, a, b⟩ := h; exact ⟨p, es, r, e'.rd a, b.up e⟩
  | dt kvs => obtain ⟨p, es, r, a, b⟩ := h; exact ⟨p, es, r, e'.rd a, b.up e⟩
theorem Od.bd (h : Od K F H p c) : Bd K F H (.ref p) c := by
  cases c with
  | d x =>
    cases x with
    | list ds => obtain ⟨xs, a, b⟩ := h; exact ⟨p, xs, rfl, SqL.of a, b⟩
    | _ => exact h.elim
  | dk kvs => obtain ⟨es, a, b⟩ := h; exact ⟨p, es, rfl, .inl a, b⟩
  | dt kvs => obtain ⟨es, a, b⟩ := h; exact ⟨p, es, rfl, .inl a, b⟩
theorem Od.up (h : Od K F H p c) (e : FEi F F') (e' : ∀ o, H p = some o → H' p = some o) : Od K F' H' p c := by
  cases c with
  | d x =>
    cases x with
    | list ds => obtain ⟨xs, a, b⟩ := h; exact ⟨xs, e' _ a, VpAll.up e _ _ b⟩
    | _ => exact h.elim
  | dk kvs => obtain ⟨es, a, b⟩ := h; exact ⟨es, e' _ a, b.up e⟩
  | dt kvs => obtain ⟨es, a, b⟩ := h; exact ⟨es, e' _ a, b.up e⟩
theorem Od.ne (h : Od K F H p c) : H p ≠ none := by
  cases c with
  | d x =>
    cases x with
    | list ds => obtain ⟨xs, a, b⟩ := h; rw [a]; exact fun z => by cases z
    | _ => exact h.elim
  | dk kvs => obtain ⟨es, a, b⟩ := h; rw [a]; exact fun z => by cases z
  | dt kvs => obtain ⟨es, a, b⟩ := h; rw [a]; exact fun z => by cases z
theorem Od.nfz {o : Obj} {u : HO} (h : Od K F H p c) (e : H p = some (.frz o u)) : False := by
  cases c with
  | d x =>
    cases x with
    | list ds => obtain ⟨xs, a, b⟩ := h; rw [e] at a; cases a
    | _ => exact h.elim
  | dk kvs => obtain ⟨es, a, b⟩ := h; rw [e] at a; cases a
  | dt kvs => obtain ⟨es, a, b⟩ := h; rw [e] at a; cases a
theorem Od.r (h : Od K F H p c) : OdR K F H p c := by
  cases c with
  | d x =>
    cases x with
    | list ds => exact h
    | _ => exact h.elim
  | dk kvs => obtain ⟨es, a, b⟩ := h; exact ⟨es, .inl a, b⟩
  | dt kvs => obtain ⟨es, a, b⟩ := h; exact ⟨es, .inl a, b⟩
theorem OdR.od (h : OdR K F H p c) (n : ∀ o u, H p ≠ some (.frz o u)) : Od K F H p c := by
  cases c with
  | d x =>
    cases x with
    | list ds => exact h
    | _ => exact h.elim
  | dk kvs =>
    obtain ⟨es, a, b⟩ := h
    exact ⟨es, a.elim id fun ⟨o, w⟩ => absurd w (n _ _), b⟩
  | dt kvs =>
    obtain ⟨es, a, b⟩ := h
    exact ⟨es, a.elim id fun ⟨o, w⟩ => absurd w (n _ _), b⟩
theorem OdR.bd (h : OdR K F H p c) : Bd K F H (.ref p) c := by
  cases c with
  | d x =>
    cases x with
    | list ds => obtain ⟨xs, a, b⟩ := h; exact ⟨p, xs, rfl, SqL.of a, b⟩
    | _ => exact h.elim
  | dk kvs => obtain ⟨es, a, b⟩ := h; exact ⟨p, es, rfl, a, b⟩
  | dt kvs => obtain ⟨es, a, b⟩ := h; exact ⟨p, es, rfl, a, b⟩
theorem OdR.up (h : OdR K F H p c) (e : FEi F F') (e' : ∀ o, H p = some o → H' p = some o) : OdR K F' H' p c := by
  cases c with
  | d x =>
    cases x with
    | list ds => obtain ⟨xs, a, b⟩ := h; exact ⟨xs, e' _ a, VpAll.up e _ _ b⟩
    | _ => exact h.elim
  | dk kvs => obtain ⟨es, a, b⟩ := h; exact ⟨es, a.imp (e' _) fun ⟨o, w⟩ => ⟨o, e' _ w⟩, b.up e⟩
  | dt kvs => obtain ⟨es, a, b⟩ := h; exact ⟨es, a.imp (e' _) fun ⟨o, w⟩ => ⟨o, e' _ w⟩, b.up e⟩
/-- what reads as data reads so in the whole heap -/
theorem Bd.dp (h : Bd K F H v (.d x)) (e : Ex F.f H) (n : nod x = true) : Dp K.K H v x := by
  cases x with
  | list ds => obtain ⟨p, xs, rfl, a, b⟩ := h; exact .lst a (VpAll.dp e _ _ b (by unfold nod at n; exact n))
  | _ => exact Vp.dp e _ _ h n
end

/-! ### objects -/
def FdOk (K : KC) (F : Fz) (H : Hp) (n : Nat) (f : Str) (v : V) : Fd → Prop
  | .d x => Vp K F v x
  | .ow c => ∃ q, v = .ref q ∧ F.t q = some (.fld n f) ∧ Od K F H q c
  | .lk c => ∃ q, v = .ref q ∧ F.t q = some (.lok n f) ∧ OdR K F H q c
def FdsOk (K : KC) (F : Fz) (H : Hp) (n : Nat) (es : List (Str × V)) (fs : List (Str × Fd)) : Prop := Paired (fun (e : Str × V) (q : Str × Fd) => e.1 = q.1 ∧ FdOk K F H n e.1 e.2 q.2) es fs
def ObOk (K : KC) (F : Fz) (H : Hp) (p : Addr) (n : Nat) (o : Ob) : Prop :=
  ∃ C dx es, K.mg o.cls = some (.ref C) ∧ H p = some (.ins C dx es) ∧ F.t dx = some (.dic n) ∧ FdsOk K F H n es o.fs ∧ (o.fs.map (·.1)).Nodup ∧ o.fs.length ≤ 100
/-- a tuple: it never changes, and may be kept for good at any time -/
def TupO (o : HO) : Prop := ∃ xs, o = .tup xs
theorem Od.noT {K : KC} {F : Fz} {H : Hp} {p : Addr} {c : C} {o : HO} (h : Od K F H p c) (t : TupO o) : H p ≠ some o := fun e => by
  obtain ⟨xs, rfl⟩ := t
  cases c with
  | d x => cases x with
    | list ds => obtain ⟨ys, a, _⟩ := h; rw [e] at a; cases a
    | _ => exact h
  | dk kvs => obtain ⟨es, a, _⟩ := h; rw [e] at a; cases a
  | dt kvs => obtain ⟨es, a, _⟩ := h; rw [e] at a; cases a
theorem OdR.noT {K : KC} {F : Fz} {H : Hp} {p : Addr} {c : C} {o : HO} (h : OdR K F H p c) (t : TupO o) : H p ≠ some o := fun e => by
  obtain ⟨xs, rfl⟩ := t
  cases c with
  | d x => cases x with
    | list ds => obtain ⟨ys, a, _⟩ := h; rw [e] at a; cases a
    | _ => exact h
  | dk kvs => obtain ⟨es, a, _⟩ := h; rcases a with a | ⟨_, a⟩ <;> rw [e] at a <;> cases a
  | dt kvs => obtain ⟨es, a, _⟩ := h; rcases a with a | ⟨_, a⟩ <;> rw [e] at a <;> cases a
structure StOk (K : KC) (H0 : Hp) (F : Fz) (H : Hp) (st : Store) : Prop where
  ob : ∀ p n, F.t p = some (.ins n) → ∃ o, st[n]? = some o ∧ ObOk K F H p n o
  inj : ∀ p q t, F.t p = some t → F.t q = some t → p = q
  sep : ∀ p t, F.t p = some t → F.f p = none ∧ H p ≠ none ∧ (H0 p = none ∨ ∃ n f, t = .lok n f)
  ix : ∀ p t, F.t p = some t → t.ix < st.length
  tf : ∀ p n f, F.t p = some (.fld n f) → ∃ c, fldAt st n f = some (.ow c)
  tl : ∀ p n f, F.t p = some (.lok n f) → ∃ c, fldAt st n f = some (.lk c)
  od : ∀ p n f c, F.t p = some (.fld n f) → fldAt st n f = some (.ow c) → Od K F H p c
  odr : ∀ p n f c, F.t p = some (.lok n f) → fldAt st n f = some (.lk c) → OdR K F H p c
  bi : ∀ p q n, Bt F p n → F.t q ≠ some (.ins n)
  dn : ∀ p n, F.t p = some (.dic n) → ∀ xs, H p ≠ some (.tup xs)
theorem ntKeep {H H' : Hp} {p : Addr} (b : H p ≠ none) (n : ∀ xs, H p ≠ some (.tup xs)) (k : ∀ o, H p = some o → H' p = some o) : ∀ xs, H' p ≠ some (.tup xs) := fun xs e => by
  cases w : H p with
  | none => exact b w
  | some u =>
    have := k u w
    rw [e] at this
    cases this
    exact n xs w
section
variable {K : KC} {F F' : Fz} {H H' B H0 : Hp} {n : Nat} {f : Str} {v : V} {p : Addr} {st : Store}
/-- what is tagged is no tuple -/
theorem StOk.noT {H0 : Hp} {t : Tg} {o : HO} (s : StOk K H0 F H st) (h : F.t p = some t) (i : TupO o) : H p ≠ some o := by
  cases t with
  | ins n =>
    obtain ⟨o', _, _, _, _, _, b, _⟩ := s.ob p n h
    intro e
    obtain ⟨xs, rfl⟩ := i
    rw [e] at b; cases b
  | dic n =>
    obtain ⟨xs, rfl⟩ := i
    exact s.dn p n h xs
  | fld n f =>
    obtain ⟨c, e⟩ := s.tf p n f h
    exact (s.od p n f c h e).noT i
  | lok n f =>
    obtain ⟨c, e⟩ := s.tl p n f h
    exact (s.odr p n f c h e).noT i
theorem StOk.noT' {H0 : Hp} {t : Tg} {o : HO} (s : StOk K H0 F H st) (h : F.t p = some t) (i : TupO o) (k : ∀ u, H p = some u → H' p = some u) : H' p ≠ some o := fun e => by
  cases w : H p with
  | none => exact (s.sep p t h).2.1 w
  | some u =>
    have := k u w
    rw [e] at this
    cases this
    exact s.noT h i w
theorem FdOk.up {d : Fd} (h : FdOk K F H n f v d) (e : FEx F F') (t : ∀ q g, F.t q = some (.fld n g) → F'.t q = some (.fld n g) ∧ ∀ o, H q = some o → H' q = some o) (l : ∀ q g, F.t q = some (.lok n g) → ∀ o, H q = some o → H' q = some o) : FdOk K F' H' n f v d := by
  cases d with
  | d x => exact Vp.up e _ _ h
  | ow c =>
    obtain ⟨q, a, b, c⟩ := h
    exact ⟨q, a, (t q f b).1, c.up e (t q f b).2⟩
  | lk c =>
    obtain ⟨q, a, b, c⟩ := h
    exact ⟨q, a, (e.l q n f).mp b, c.up e (l q f b)⟩
theorem FdsOk.up {es : List (Str × V)} {fs : List (Str × Fd)} (h : FdsOk K F H n es fs) (e : FEx F F') (t : ∀ q g, F.t q = some (.fld n g) → F'.t q = some (.fld n g) ∧ ∀ o, H q = some o → H' q = some o) (l : ∀ q g, F.t q = some (.lok n g) → ∀ o, H q = some o → H' q = some o) : FdsOk K F' H' n es fs :=
  Paired.mapP h fun _ _ ⟨a, b⟩ => ⟨a, b.up e t l⟩
theorem FdsOk.lookup : ∀ {es : List (Str × V)} {fs : List (Str × Fd)} {d : Fd}, FdsOk K F H n es fs → fs.lookup f = some d → ∃ v, es.lookup f = some v ∧ FdOk K F H n f v d
  | _, _, _, .nil, q => by cases q
  | (g, v) :: es, (g', w) :: fs, d, .cons ⟨h1, h2⟩ r, q => by
    have h1 : g = g' := h1
    subst h1
    by_cases z : (f == g) = true
    · have e : f = g := beq_iff_eq.mp z
      subst e
      simp only [List.lookup, z] at q ⊢
      cases q
      exact ⟨v, rfl, h2⟩
    · have z : (f == g) = false := by simpa using z
      simp only [List.lookup, z] at q ⊢
      exact FdsOk.lookup r q
theorem FdsOk.lookup_none : ∀ {es : List (Str × V)} {fs : List (Str × Fd)}, FdsOk K F H n es fs → fs.lookup f = none → es.lookup f = none
  | _, _, .nil, q => rfl
  | (g, v) :: es, (g', w) :: fs, .cons ⟨h1, h2⟩ r, q => by
    have h1 : g = g' := h1
    subst h1
    by_cases z : (f == g) = true
    · simp only [List.lookup, z] at q
      cases q
    · have z : (f == g) = false := by simpa using z
      simp only [List.lookup, z] at q ⊢
      exact FdsOk.lookup_none r q
/-- nothing that belongs to objects changes -/
theorem StOk.same (s : StOk K H0 F H st) (e : FEx F F') (t : F'.t = F.t) (h : ∀ q, F.t q ≠ none → ∀ o, H q = some o → H' q = some o) (f : ∀ q, F.t q ≠ none → F'.f q = none) : StOk K H0 F' H' st := by
  refine ⟨fun p n q => ?_, fun p q u a b => s.inj p q u (by rw [← t]; exact a) (by rw [← t]; exact b), fun p u q => ?_, fun p u q => s.ix p u (by rw [← t]; exact q), fun p n f q => s.tf p n f (by rw [← t]; exact q), fun p n f q => s.tl p n f (by rw [← t]; exact q), fun p n f c q w => ?_, fun p n f c q w => ?_, fun p q n b w => s.bi p q n (b.same (by rw [t])) (by rw [← t]; exact w), fun p n q => by rw [t] at q; exact ntKeep (s.sep p _ q).2.1 (s.dn p n q) (h p (by rw [q]; exact fun z => by cases z))⟩
  · rw [t] at q
    obtain ⟨o, a, C, dx, es, b, c, d, g, k⟩ := s.ob p n q
    refine ⟨o, a, C, dx, es, b, h p (by rw [q]; exact fun z => by cases z) _ c, by rw [t]; exact d, g.up e (fun q g w => ⟨by rw [t]; exact w, h q (by rw [w]; exact fun z => by cases z)⟩) (fun q g w => h q (by rw [w]; exact fun z => by cases z)), k⟩
  · rw [t] at q
    obtain ⟨a, b, c⟩ := s.sep p u q
    refine ⟨f p (by rw [q]; exact fun z => by cases z), ?_, c⟩
    cases w : H p with
    | none => exact absurd w b
    | some o => rw [h p (by rw [q]; exact fun z => by cases z) _ w]; exact fun z => by cases z
  · rw [t] at q
    exact (s.od p n f c q w).up e (h p (by rw [q]; exact fun z => by cases z))
  · rw [t] at q
    exact (s.odr p n f c q w).up e (h p (by rw [q]; exact fun z => by cases z))
theorem StOk.weak {H1 : Hp} (s : StOk K H0 F H st) (h : ∀ p t, F.t p = some t → H0 p = none → H1 p = none) : StOk K H1 F H st :=
  ⟨s.ob, s.inj, fun p t q => let ⟨a, b, c⟩ := s.sep p t q; ⟨a, b, c.imp (h p t q) id⟩, s.ix, s.tf, s.tl, s.od, s.odr, s.bi, s.dn⟩
end

def SlotOk (K : KC) (B H0 : Hp) (F : Fz) (H : Hp) (x : Option (Option V)) : Slot → Prop
  | .no => True
  | .sh d => ∃ v, x = some (some v) ∧ Vp K F v d
  | .bo c => ∃ v, x = some (some v) ∧ Bd K F B v c
  | .lk c => ∃ v, x = some (some v) ∧ Bd K F B v c
  | .ow c => ∃ p, x = some (some (.ref p)) ∧ H0 p = none ∧ F.f p = none ∧ F.t p = none ∧ Od K F H p c

/-- the state: H0, F0 at the entry, F what stands for good, H all -/
structure J (K : KC) (B H0 F0 : Hp) (F : Fz) (H : Hp) (σ : L2.St) (r : Env) : Prop where
  eb : Ex B H0
  e0 : Ex H0 H
  ef : Ex F0 F.f
  fh : Ex F.f H
  nw : ∀ a o, F.f a = some o → F0 a = some o ∨ H0 a = none ∨ TupO o
  so : StOk K H0 F H r.st
  len : σ.length = r.sl.length
  sl : ∀ (i : Nat) (s : Slot), r.sl[i]? = some s → SlotOk K B H0 F H (σ[i]?) s
  dj : ∀ (i j : Nat) (c e : C) (p : Addr), r.sl[i]? = some (.ow c) → r.sl[j]? = some (.ow e) → σ[i]? = some (some (.ref p)) → σ[j]? = some (some (.ref p)) → i = j

/-- new things alone -/
structure Grow (F : Fz) (H : Hp) (F' : Fz) (H' : Hp) : Prop where
  f : Ex F.f F'.f
  t : F'.t = F.t
  h : Ex H H'
  fh : Ex F'.f H'
  nw : ∀ a o, F'.f a = some o → F.f a = some o ∨ H a = none ∨ TupO o
/-- what an expression may do; b: it is quiet -/
structure Ge (b : Bool) (F : Fz) (H : Hp) (r : Env) (F' : Fz) (H' : Hp) (r' : Env) : Prop where
  f : FEx F F'
  k : ∀ (i : Nat) (s : Slot), Lent s → r'.sl[i]? = some s → r.sl[i]? = some s
  q : b = true → Ex H H' ∧ F'.t = F.t ∧ r'.st = r.st

section
variable {K : KC} {F F' F1 : Fz} {H H' H1 B H0 F0 : Hp} {σ : L2.St} {r r' : Env} {v : V} {c : C} {x : D} {p : Addr} {s : Slot} {y : Option (Option V)} {b b' : Bool} {st : Store} {r1 : Env}
theorem Ge.refl : Ge b F H r F H r := ⟨.refl _, fun _ _ _ h => h, fun _ => ⟨.refl _, rfl, rfl⟩⟩
theorem Ge.trans (a : Ge b F H r F1 H1 r1) (g : Ge b' F1 H1 r1 F' H' r') : Ge (b && b') F H r F' H' r' := ⟨a.f.trans g.f, fun i c l h => a.k i c l (g.k i c l h), fun h => by
  rw [Bool.and_eq_true] at h
  obtain ⟨a1, a2, a3⟩ := a.q h.1
  obtain ⟨b1, b2, b3⟩ := g.q h.2
  exact ⟨a1.trans b1, b2.trans a2, b3.trans a3⟩⟩
theorem Ge.weak (a : Ge b F H r F' H' r') : Ge false F H r F' H' r' := ⟨a.f, a.k, fun h => by cases h⟩
theorem Ge.qt (a : Ge b F H r F1 H1 r1) (g : Ge true F1 H1 r1 F' H' r') : Ge b F H r F' H' r' := by
  have := a.trans g
  rw [Bool.and_true] at this
  exact this
theorem Ge.tq (a : Ge true F H r F1 H1 r1) (g : Ge b F1 H1 r1 F' H' r') : Ge b F H r F' H' r' := by
  have := a.trans g
  rw [Bool.true_and] at this
  exact this
theorem Grow.fe (g : Grow F H F' H') : FEx F F' := .of g.f g.t
theorem Grow.ge (g : Grow F H F' H') : Ge b F H r F' H' r := ⟨g.fe, fun _ _ _ h => h, fun _ => ⟨g.h, g.t, rfl⟩⟩
theorem Ge.fr (e : Ex F.f F'.f) (t : F'.t = F.t) : Ge b F H r F' H r := ⟨.of e t, fun _ _ _ h => h, fun _ => ⟨.refl _, t, rfl⟩⟩
theorem Grow.refl (h : Ex F.f H) : Grow F H F H := ⟨.refl _, rfl, .refl _, h, fun _ _ q => .inl q⟩
theorem Grow.trans (a : Grow F H F1 H1) (b : Grow F1 H1 F' H') : Grow F H F' H' := ⟨a.f.trans b.f, b.t.trans a.t, a.h.trans b.h, b.fh, fun z o q => by
  rcases b.nw z o q with h | h | h
  · exact a.nw z o h
  · exact .inr (.inl (a.h.back h))
  · exact .inr (.inr h)⟩
/-- a new tuple, a new list: kept for good -/
theorem Grow.put {o : HO} (e : Ex F.f H) (h : H p = none) : Grow F H (F.put p o) (upd H p o) := ⟨.new (e.back h), rfl, .new h, e.up2 h, fun a u q => by
  by_cases z : a = p
  · subst z; exact .inr (.inl h)
  · rw [show (F.put p o).f = upd F.f p o from rfl, upd_ne z] at q; exact .inl q⟩
/-- a new thing of its own -/
theorem Grow.lay {o : HO} (e : Ex F.f H) (h : H p = none) : Grow F H F (upd H p o) := ⟨.refl _, rfl, .new h, e.side (e.back h), fun _ _ q => .inl q⟩
theorem SlotOk.up (h : SlotOk K B H0 F H y s) (g : Grow F H F' H') : SlotOk K B H0 F' H' y s := by
  cases s with
  | no => trivial
  | sh d => obtain ⟨v, a, b⟩ := h; exact ⟨v, a, Vp.up g.fe _ _ b⟩
  | bo c => obtain ⟨v, a, b⟩ := h; exact ⟨v, a, b.up g.fe (.refl _)⟩
  | lk c => obtain ⟨v, a, b⟩ := h; exact ⟨v, a, b.up g.fe (.refl _)⟩
  | ow c =>
    obtain ⟨p, a, b, d, t, e⟩ := h
    refine ⟨p, a, b, ?_, by rw [g.t]; exact t, e.up g.fe fun o q => g.h _ _ q⟩
    cases q : F'.f p with
    | none => rfl
    | some o =>
      rcases g.nw p o q with z | z | z
      · rw [d] at z; cases z
      · exact absurd z e.ne
      · exact absurd (g.fh _ _ q) ((e.up (F' := F') g.fe fun o q => g.h _ _ q).noT z)
theorem J.grow (j : J K B H0 F0 F H σ r) (g : Grow F H F' H') : J K B H0 F0 F' H' σ r :=
  ⟨j.eb, j.e0.trans g.h, j.ef.trans g.f, g.fh, fun a o q => by
    rcases g.nw a o q with z | z | z
    · exact j.nw a o z
    · exact .inr (.inl (j.e0.back z))
    · exact .inr (.inr z), j.so.same g.fe g.t (fun q _ o w => g.h _ _ w) (fun q w => by
      cases t : F.t q with
      | none => exact absurd t w
      | some u =>
        obtain ⟨a, b, _⟩ := j.so.sep q u t
        cases z : F'.f q with
        | none => rfl
        | some o =>
          rcases g.nw q o z with y | y | y
          · rw [a] at y; cases y
          · exact absurd y b
          · exact absurd (g.fh _ _ z) (j.so.noT' t y fun u w => g.h _ _ w)), j.len, fun i s q => (j.sl i s q).up g, j.dj⟩
/-- what stands in a field, or in a box -/
def FldV (F : Fz) (H : Hp) (n : Nat) (f : Str) (v : V) : Prop := (∃ p C dx es, F.t p = some (.ins n) ∧ H p = some (.ins C dx es) ∧ es.lookup f = some v) ∨ ∃ q, v = .ref q ∧ f = bxS ∧ Bt F q n
theorem FldV.up {n : Nat} {f : Str} (h : FldV F H n f v) (e : FEi F F') (g : Ex H H') : FldV F' H' n f v := by
  rcases h with ⟨p, C, dx, es, t, hp, l⟩ | ⟨a, h1, h2, b⟩
  · exact .inl ⟨p, C, dx, es, e.i _ _ t, g _ _ hp, l⟩
  · exact .inr ⟨a, h1, h2, e.b _ _ b⟩
/-- a result -/
def ResOk (K : KC) (H0 : Hp) (F : Fz) (H : Hp) (σ : L2.St) (r : Env) (v : V) : Res → Prop
  | .sh x => Vp K F v x
  | .fr c => ∃ p, v = .ref p ∧ H0 p = none ∧ F.f p = none ∧ F.t p = none ∧ Od K F H p c ∧ ∀ (i : Nat) (e : C), r.sl[i]? = some (.ow e) → σ[i]? ≠ some (some (.ref p))
  | .sl i => σ[i]? = some (some v)
  | .fl n f => FldV F H n f v
/-- of a def, an operation -/
def RetOk (K : KC) (H0 : Hp) (F : Fz) (H : Hp) (v : V) : Res → Prop
  | .sh x => Vp K F v x
  | .fr c => ∃ p, v = .ref p ∧ H0 p = none ∧ F.f p = none ∧ F.t p = none ∧ Od K F H p c
  | .sl _ => False
  | .fl _ _ => False
theorem J.ownH (j : J K B H0 F0 F H σ r) {i : Nat} {e : C} (h : r.sl[i]? = some (.ow e)) (q : σ[i]? = some (some (.ref p))) : H p ≠ none ∧ F.t p = none := by
  obtain ⟨p', a, _, _, t, d⟩ := j.sl i _ h
  rw [q] at a; cases a
  exact ⟨d.ne, t⟩
theorem RetOk.res {z : Res} (j : J K B H0 F0 F H σ r) (g : Grow F H F' H') (h : RetOk K H F' H' v z) : ResOk K H0 F' H' σ r v z := by
  cases z with
  | sh x => exact h
  | fr c =>
    obtain ⟨p, a, b, d, t, e⟩ := h
    exact ⟨p, a, j.e0.back b, d, t, e, fun i e q z => (j.ownH q z).1 b⟩
  | sl i => exact h.elim
  | fl n f => exact h.elim

/-- a field as it stands -/
theorem StOk.field {n : Nat} {f : Str} {d : Fd} {C dx : Addr} {es : List (Str × V)} (s : StOk K H0 F H st) (t : F.t p = some (.ins n)) (h : H p = some (.ins C dx es)) (l : es.lookup f = some v) (q : fldAt st n f = some d) : FdOk K F H n f v d := by
  obtain ⟨o, a, C', dx', es', _, c, _, g, _⟩ := s.ob p n t
  rw [h] at c; cases c
  unfold fldAt at q
  rw [a] at q
  obtain ⟨v', b, k⟩ := g.lookup q
  rw [l] at b; cases b
  exact k
theorem StOk.fieldV {n : Nat} {f : Str} {d : Fd} (s : StOk K H0 F H st) (h : FldV F H n f v) (q : fldAt st n f = some d) : FdOk K F H n f v d := by
  rcases h with ⟨p, C, dx, es, t, hp, l⟩ | ⟨a, rfl, rfl, b⟩
  · exact s.field t hp l q
  · rcases b with b | b
    · obtain ⟨c, w⟩ := s.tf _ _ _ b
      rw [w] at q; cases q
      exact ⟨a, rfl, b, s.od _ _ _ _ b w⟩
    · obtain ⟨c, w⟩ := s.tl _ _ _ b
      rw [w] at q; cases q
      exact ⟨a, rfl, b, s.odr _ _ _ _ b w⟩
/-! ### reading results -/
theorem ResOk.look {z : Res} (j : J K B H0 F0 F H σ r) (h : ResOk K H0 F H σ r v z) (q : look r z = some c) : Bd K F H v c := by
  cases z with
  | sh x => cases q; exact Bd.of h j.fh
  | fr c =>
    cases q
    obtain ⟨p, rfl, _, _, _, o, _⟩ := h
    exact o.bd
  | fl n f =>
    have h : FldV F H n f v := h
    unfold CM.look at q
    dsimp only at q
    split at q
    · rename_i x e
      cases q
      have k : Vp K F v x := j.so.fieldV h e
      exact Bd.of k j.fh
    · rename_i x e
      cases q
      obtain ⟨q', rfl, _, o⟩ := j.so.fieldV h e
      exact o.bd
    · rename_i x e
      cases q
      obtain ⟨q', rfl, _, o⟩ := j.so.fieldV h e
      exact o.bd
    · cases q
  | sl i =>
    have h : σ[i]? = some (some v) := h
    unfold CM.look at q
    dsimp only at q
    split at q
    · rename_i x e
      cases q
      obtain ⟨v', a, b⟩ := j.sl i _ e
      rw [h] at a; cases a
      exact Bd.of b j.fh
    · rename_i x e
      cases q
      obtain ⟨v', a, b⟩ := j.sl i _ e
      rw [h] at a; cases a
      exact b.up (.refl _) (j.eb.trans j.e0)
    · rename_i x e
      cases q
      obtain ⟨p, a, _, _, _, o⟩ := j.sl i _ e
      rw [h] at a; cases a
      exact o.bd
    · rename_i x e
      cases q
      obtain ⟨v', a, b⟩ := j.sl i _ e
      rw [h] at a; cases a
      exact b.up (.refl _) (j.eb.trans j.e0)
    · cases q
end
end CM
end
section
set_option Elab.async false
set_option linter.all false
set_option maxRecDepth 100000
set_option autoImplicit false
/-! New tuples, each known to its object or not, as one likes. -/
namespace CM
open PySem PySem.Spec PyProof.Rows L2
section
variable {X : Cx} {pins : List (Addr × Obj)} {σ : L2.St} {H : Hp} {s : Shared} {h' : Heap}
/-- a tuple is laid -/
theorem laidZ {tk : Nat} {xs : List V} {us : List Value} {b : Bool} {o : Obj} {Q : VK} (I : Inv X pins σ H s) (kp : ∀ c u, s.heap.get? c = some u → h'.get? c = some u) (hz : xs.length ≤ sizeLine) (r : Vals xs us) {n : Nat} (ho : o = { cls := .type "tuple", data := .seq us.toArray n })
    (q : ∀ p o, H p = none → PlT o → Q (.ref p) (upd H p (tupO b o xs))) : EP X pins σ Q (.ref h'.objs.size) { s with heap := h'.push o, toks := tk } := by
  have I1 : Inv X pins σ H { s with heap := h', toks := tk } := I.kept kp
  have f : H h'.objs.size = none := I1.hok.fresh (Nat.le_refl _)
  subst ho
  have at' : (h'.push { cls := .type "tuple", data := .seq us.toArray n }).get? h'.objs.size = some { cls := .type "tuple", data := .seq us.toArray n } := Heap.get?_push_size _ rfl
  refine ⟨.ref h'.objs.size, upd H h'.objs.size (tupO b { cls := .type "tuple", data := .seq us.toArray n } xs), I1.laid (t' := tk) (fun c u e => Heap.get?_push_of_some _ e) (Nat.le_refl _) ?_, rfl, q _ _ f ⟨rfl, rfl⟩⟩
  cases b
  · exact ⟨hz, us, r, ⟨_, at', rfl, n, rfl⟩⟩
  · exact ⟨at', hz, us, r, ⟨_, at', rfl, n, rfl⟩⟩
end
def tTupZ (t : TA) : TE := fun σ H Q => t σ H fun xs H1 => xs.length ≤ sizeLine ∧ ∃ b : Bool, ∀ p o, H1 p = none → PlT o → Q (.ref p) (upd H1 p (tupO b o xs))
section
variable {X : Cx} {es : List Expr} {t : TA} {pos : Pos}
theorem pe_tupZ {x1} (h : PA X es t) : PE X (.Tuple es x1 pos) (tTupZ t) := by
  refine ⟨fun pins s σ H Q I hq => wpAny_Tuple_spliced (thn (h.run pos pins s σ H _ I hq) fun us s1 ⟨xs, H1, I1, r, z, b, q⟩ => ⟨by rw [← r.length]; exact z, ?_⟩)⟩
  exact laidZ (tk := s1.toks) I1 (fun _ _ e => e) z r (n := _) rfl q
theorem op_catZ : OpR X (binaryOp .Add) (fun x y H Q => ∃ a b xs ys, x = .ref a ∧ y = .ref b ∧ SqT X.K H a xs ∧ SqT X.K H b ys ∧ xs.length + ys.length ≤ sizeLine ∧
    (xs = [] → Q (.ref b) H) ∧ (xs ≠ [] → ys = [] → Q (.ref a) H) ∧ (∃ c : Bool, ∀ p o, H p = none → PlT o → Q (.ref p) (upd H p (tupO c o (xs ++ ys))))) := by
  intro pins s σ H x y v u Q I rx ry h
  obtain ⟨a, b, xs, ys, rfl, rfl, ha, hb, hz, q0, q1, c, q2⟩ := h
  by_cases hx : xs = []
  · exact op_catA pins s σ H _ _ v u Q I rx ry ⟨a, b, xs, ys, rfl, rfl, ha, hb, hz, q0, fun z => absurd hx z, fun z => absurd hx z⟩
  · cases rx
    cases ry
    obtain ⟨i1, r1, p1, _⟩ := I.tuple ha
    obtain ⟨i2, r2, p2, _⟩ := I.tuple hb
    refine HT.cat_tup p1 p2 (fun z => hx (r1.nil_iff.mp z)) (fun z => ⟨.ref a, H, I, rfl, q1 hx (r2.nil_iff.mp z)⟩) (fun z => ?_) (by rw [← r1.length, ← r2.length]; exact hz)
    exact laidZ (tk := s.toks) I (fun _ _ e => e) (by rw [List.length_append]; exact hz) (r1.append r2) (n := _) rfl q2
theorem sl_tupZ : SlR X (fun x lo hi H Q => ∃ a xs, x = .ref a ∧ SqT X.K H a xs ∧ (HT.sIx xs.length 0 lo = 0 ∧ HT.sIx xs.length xs.length hi = xs.length → Q (.ref a) H) ∧
    (∃ c : Bool, ∀ p o, H p = none → PlT o → Q (.ref p) (upd H p (tupO c o (cutV xs lo hi))))) := by
  intro pins s σ H x v vl vu lo hi sl Q I rx hs pl pu h
  obtain ⟨a, xs, e, hx, q1, c, q2⟩ := h
  by_cases hw : HT.sIx xs.length 0 lo = 0 ∧ HT.sIx xs.length xs.length hi = xs.length
  · exact sl_tupA pins s σ H _ v vl vu lo hi sl Q I rx hs pl pu ⟨a, xs, e, hx, q1, fun z => absurd hw z⟩
  · subst e
    cases rx
    obtain ⟨its, r, ht, hz⟩ := I.tuple hx
    have hl : its.toArray.size = xs.length := by rw [List.size_toArray, r.length]
    refine ⟨"tuple", _, PyProof.Rows.slot_tuple_getitem.lookup, ht.typeIs, HT.getItem_tuple_cut ht hs pl pu (by rw [hl]; exact hw) ?_ (by rw [hl]; exact hz)⟩
    rw [hl]
    exact laidZ (tk := s.toks) I (fun _ _ e => e) (Nat.le_trans (cutV_length xs lo hi) hz) ((r.drop _).take _) (n := _) rfl q2
theorem call_tupleZ : CallR X (.type "tuple") (fun xs H Q => ∃ p ys, xs = [.ref p] ∧ ((SqL X.K H p ys ∧ ∃ c : Bool, ∀ l o, H l = none → PlT o → Q (.ref l) (upd H l (tupO c o ys))) ∨ (SqT X.K H p ys ∧ Q (.ref p) H))) := by
  intro pins s σ H xs us Q I r h
  obtain ⟨p, ys, e, h⟩ := h
  rcases h with ⟨hq, c, q⟩ | h
  · subst e
    obtain ⟨u, rfl, rx⟩ := vals1 r
    cases rx
    obtain ⟨its, r', pl, hz⟩ := I.list hq
    exact call_tuple_list pl.isList (fun h' kp => laidZ (tk := s.toks) I kp hz r' (n := _) rfl q) (by rw [List.size_toArray, ← r'.length]; exact hz)
  · exact call_tuple_of pins s σ H xs us Q I r ⟨p, ys, e, .inr h⟩
end
end CM
end
section
set_option Elab.async false
set_option linter.all false
set_option maxRecDepth 100000
set_option autoImplicit false
namespace L2
abbrev Cx.kc (X : Cx) : CM.KC := ⟨X.K, X.mg⟩
end L2
namespace CM
open PySem PySem.Spec PyProof.Rows L2

section
variable {K : KC} {F F' F1 : Fz} {H H' H1 B H0 F0 : Hp} {σ : L2.St} {r r' : Env} {v : V} {c : C} {x : D} {p : Addr} {s : Slot}

/-! ### freezing -/
theorem J.freeze (j : J K B H0 F0 F H σ r) {o : HO} (h0 : H0 p = none) (hf : F.f p = none) (ht : F.t p = none) (hh : H p = some o) (hn : ∀ (i : Nat) (e : C), r.sl[i]? = some (.ow e) → σ[i]? ≠ some (some (.ref p))) :
    J K B H0 F0 (F.put p o) H σ r := by
  have ef : FEx F (F.put p o) := .put hf
  refine ⟨j.eb, j.e0, j.ef.trans ef.f, fun a u q => ?_, fun a u q => ?_, j.so.same ef rfl (fun _ _ _ w => w) (fun q w => ?_), j.len, fun i s q => ?_, j.dj⟩
  · by_cases z : a = p
    · subst z; rw [show (F.put a o).f = upd F.f a o from rfl, upd_same] at q; rw [hh]; exact q
    · rw [show (F.put p o).f = upd F.f p o from rfl, upd_ne z] at q; exact j.fh a u q
  · by_cases z : a = p
    · subst z; exact .inr (.inl h0)
    · rw [show (F.put p o).f = upd F.f p o from rfl, upd_ne z] at q; exact j.nw a u q
  · have z : q ≠ p := fun z => by subst z; exact w ht
    cases t : F.t q with
    | none => exact absurd t w
    | some u =>
      show upd F.f p o q = none
      rw [upd_ne z]
      exact (j.so.sep q u t).1
  · have b := j.sl i s q
    cases s with
    | no => trivial
    | sh d => obtain ⟨v, a, b⟩ := b; exact ⟨v, a, Vp.up ef _ _ b⟩
    | bo c => obtain ⟨v, a, b⟩ := b; exact ⟨v, a, b.up ef (.refl _)⟩
    | lk c => obtain ⟨v, a, b⟩ := b; exact ⟨v, a, b.up ef (.refl _)⟩
    | ow c =>
      obtain ⟨p', a, b, d, t, e⟩ := b
      refine ⟨p', a, b, ?_, t, e.up ef fun _ q => q⟩
      have ne : p' ≠ p := fun z => hn i c q (by rw [← z]; exact a)
      show upd F.f p o p' = none
      rw [upd_ne ne]; exact d
theorem put_at {r : Env} {i k : Nat} {s t : Slot} (q : (r.put i s).sl[k]? = some t) : (i = k ∧ t = s ∧ i < r.sl.length) ∨ (i ≠ k ∧ r.sl[k]? = some t) := by
  have q : (r.sl.set i s)[k]? = some t := q
  by_cases z : i = k
  · subst z
    rw [List.getElem?_set_self'] at q
    cases w : r.sl[i]? with
    | none => rw [w] at q; cases q
    | some t' =>
      rw [w] at q; cases q
      refine .inl ⟨rfl, rfl, ?_⟩
      rcases Nat.lt_or_ge i r.sl.length with y | y
      · exact y
      · rw [List.getElem?_eq_none_iff.mpr y] at w; cases w
  · rw [List.getElem?_set_ne z] at q; exact .inr ⟨z, q⟩
theorem put_len {r : Env} {i : Nat} {s : Slot} : (r.put i s).sl.length = r.sl.length := List.length_set
/-- a slot changed to something plain -/
theorem J.put (j : J K B H0 F0 F H σ r) {i : Nat} (h : SlotOk K B H0 F H (σ[i]?) s) (hs : ∀ c, s ≠ .ow c) : J K B H0 F0 F H σ (r.put i s) := by
  refine ⟨j.eb, j.e0, j.ef, j.fh, j.nw, j.so, by rw [put_len]; exact j.len, fun k t q => ?_, fun k l c e p h1 h2 h3 h4 => ?_⟩
  · rcases put_at q with ⟨rfl, rfl, _⟩ | ⟨_, q⟩
    · exact h
    · exact j.sl k t q
  · have g : ∀ {k : Nat} {c : C}, (r.put i s).sl[k]? = some (.ow c) → r.sl[k]? = some (.ow c) := fun {k c} q => by
      rcases put_at q with ⟨rfl, z, _⟩ | ⟨_, q⟩
      · exact absurd z.symm (hs c)
      · exact q
    exact j.dj k l c e p (g h1) (g h2) h3 h4

theorem toSh_ok {z : Res} (q : toSh r z = some (x, r')) (j : J K B H0 F0 F H σ r) (h : ResOk K H0 F H σ r v z) : ∃ F', Ge true F H r F' H r' ∧ J K B H0 F0 F' H σ r' ∧ Vp K F' v x := by
  cases z with
  | sh y => cases q; exact ⟨F, .refl, j, h⟩
  | fr c =>
    cases c with
    | d y =>
      cases q
      obtain ⟨p, rfl, h0, hf, ht, o, hn⟩ := h
      cases x with
      | list ds =>
        obtain ⟨xs, a, b⟩ := o
        exact ⟨F.put p (.lst xs), .fr (.new hf) rfl, j.freeze h0 hf ht a hn, .lst (SqL.of upd_same) (VpAll.up (.put hf) _ _ b)⟩
      | _ => exact o.elim
    | dk _ => cases q
    | dt _ => cases q
  | fl n f =>
    have h : FldV F H n f v := h
    unfold toSh at q
    dsimp only at q
    split at q
    · rename_i y e
      cases q
      exact ⟨F, .refl, j, j.so.fieldV h e⟩
    · cases q
  | sl i =>
    have h : σ[i]? = some (some v) := h
    unfold toSh at q
    dsimp only at q
    split at q
    · rename_i y e
      cases q
      obtain ⟨v', a, b⟩ := j.sl i _ e
      rw [h] at a; cases a
      exact ⟨F, .refl, j, b⟩
    · rename_i y e
      cases q
      obtain ⟨p, a, h0, hf, ht, o⟩ := j.sl i _ e
      rw [h] at a; cases a
      cases x with
      | list ds =>
        obtain ⟨xs, a, b⟩ := o
        have dp : Vp K (F.put p (.lst xs)) (.ref p) (.list ds) := .lst (SqL.of upd_same) (VpAll.up (.put hf) _ _ b)
        have j1 : J K B H0 F0 F H σ (r.put i .no) := j.put trivial (fun c z => by cases z)
        have hn : ∀ (k : Nat) (e : C), (r.put i .no).sl[k]? = some (.ow e) → σ[k]? ≠ some (some (.ref p)) := fun k c q z => by
          rcases put_at q with ⟨_, w, _⟩ | ⟨w, q⟩
          · cases w
          · exact w (j.dj i k _ _ p e q h z)
        have j2 := j1.freeze h0 hf ht a hn
        have j3 := j2.put (i := i) (s := .sh (.list ds)) ⟨_, h, dp⟩ (fun c z => by cases z)
        have er : (r.put i .no).put i (.sh (.list ds)) = r.put i (.sh (.list ds)) := by
          show Env.mk _ _ = Env.mk _ _
          show Env.mk ((r.sl.set i .no).set i _) _ = _
          rw [List.set_set]
          rfl
        rw [er] at j3
        exact ⟨F.put p (.lst xs), ⟨.of (.new hf) rfl, fun k c y q => by
          rcases put_at q with ⟨_, w, _⟩ | ⟨_, q⟩
          · subst w; exact y.elim
          · exact q, fun _ => ⟨.refl _, rfl, rfl⟩⟩, j3, dp⟩
      | _ => exact o.elim
    · cases q
theorem settle_ok {z z' : Res} (q : stl z = some z') (j : J K B H0 F0 F H σ r) (h : ResOk K H0 F H σ r v z) : ∃ F', Ge true F H r F' H r ∧ J K B H0 F0 F' H σ r ∧ ResOk K H0 F' H σ r v z' := by
  cases z with
  | sh y => cases q; exact ⟨F, .refl, j, h⟩
  | sl i => cases q; exact ⟨F, .refl, j, h⟩
  | fl n f => cases q
  | fr c =>
    cases c with
    | d y =>
      cases q
      obtain ⟨F', e, j', d⟩ := toSh_ok (z := .fr (.d y)) (r' := r) (x := y) rfl j h
      exact ⟨F', e, j', d⟩
    | dk _ => cases q
    | dt _ => cases q
def Still : Res → Prop
  | .fr _ => False
  | .fl _ _ => False
  | _ => True
theorem settle_still {z z' : Res} (q : stl z = some z') : Still z' := by
  cases z with
  | sh y => cases q; trivial
  | sl i => cases q; trivial
  | fl n f => cases q
  | fr c => cases c <;> cases q; trivial
theorem ResOk.later {z : Res} (t : Still z) (h : ResOk K H0 F H σ r v z) (e : FEx F F') : ResOk K H0 F' H' σ r' v z := by
  cases z with
  | sh y => exact Vp.up e _ _ h
  | sl i => exact h
  | fl n f => exact t.elim
  | fr c => exact t.elim

/-! ### readings answer denotations -/
def RE (K : KC) (b : Bool) (t : TE) (f : EF) : Prop := ∀ (B H0 F0 : Hp) (F : Fz) (H : Hp) (σ : L2.St) (r : Env) (z : Res) (r' : Env), f r = some (z, r') → J K B H0 F0 F H σ r →
  ∀ Q : VK, (∀ F' H' v, Ge b F H r F' H' r' → J K B H0 F0 F' H' σ r' → ResOk K H0 F' H' σ r' v z → Q v H') → t σ H Q
structure DE (X : Cx) (b : Bool) (e : Expr) (f : EF) : Prop where
  ex : ∃ t, PE X e t ∧ RE X.kc b t f
def RsOk (K : KC) (H0 : Hp) (F : Fz) (H : Hp) (σ : L2.St) (r : Env) : List V → List Res → Prop := Paired fun v z => Still z ∧ ResOk K H0 F H σ r v z
theorem RsOk.later {vs : List V} {zs : List Res} (h : RsOk K H0 F H σ r vs zs) (e : FEx F F') : RsOk K H0 F' H' σ r' vs zs := Paired.mapP h fun _ _ ⟨a, b⟩ => ⟨a, b.later a e⟩
def RA (K : KC) (b : Bool) (t : TA) (fs : List EF) : Prop := ∀ (B H0 F0 : Hp) (F : Fz) (H : Hp) (σ : L2.St) (r : Env) (zs : List Res) (r' : Env), eArgs fs r = some (zs, r') → J K B H0 F0 F H σ r →
  ∀ Q : List V → Hp → Prop, (∀ F' H' vs, Ge b F H r F' H' r' → J K B H0 F0 F' H' σ r' → RsOk K H0 F' H' σ r' vs zs → Q vs H') → t σ H Q
structure DA (X : Cx) (b : Bool) (es : List Expr) (fs : List EF) : Prop where
  ex : ∃ t, PA X es t ∧ RA X.kc b t fs
def RT (K : KC) (t : TT) (f : TF) : Prop := ∀ (B H0 F0 : Hp) (F : Fz) (H : Hp) (σ : L2.St) (r : Env) (b : Bool) (r' : Env), f r = some (b, r') → J K B H0 F0 F H σ r →
  ∀ Q : Bool → Hp → Prop, (∀ F' H', Ge false F H r F' H' r' → J K B H0 F0 F' H' σ r' → Q b H') → t σ H Q
structure DT (X : Cx) (e : Expr) (f : TF) : Prop where
  ex : ∃ t, PT X e t ∧ RT X.kc t f
structure DW (X : Cx) (e : Expr) (f : TF) : Prop where
  ex : ∃ t, PW X e t ∧ RT X.kc t f

theorem looks_ok (j : J K B H0 F0 F H σ r) : ∀ {zs : List Res} {vs : List V} {cs : List C}, looks r zs = some cs → RsOk K H0 F H σ r vs zs → Paired (Bd K F H) vs cs
  | [], _, cs, q, h => by cases h; cases q; exact .nil
  | z :: zs, _, cs, q, h => by
    cases h with
    | cons h1 h2 =>
      simp only [looks, Option.bind_eq_some_iff] at q
      obtain ⟨c, q1, cs', q2, q3⟩ := q
      cases q3
      exact .cons (h1.2.look j q1) (looks_ok j q2 h2)
theorem shares_ok : ∀ {zs : List Res} {F : Fz} {vs : List V} {xs : List D} {r r' : Env}, shares r zs = some (xs, r') → J K B H0 F0 F H σ r → RsOk K H0 F H σ r vs zs → ∃ F', Ge true F H r F' H r' ∧ J K B H0 F0 F' H σ r' ∧ VpAll K F' vs xs
  | [], F, _, xs, r, r', q, j, h => by cases h; cases q; exact ⟨F, .refl, j, .nil⟩
  | z :: zs, F, _, xs, r, r', q, j, h => by
    cases h with
    | cons h1 h2 =>
      simp only [shares, Option.bind_eq_some_iff] at q
      obtain ⟨⟨x, r1⟩, q1, ⟨ys, r2⟩, q2, q3⟩ := q
      cases q3
      obtain ⟨F1, e1, j1, d1⟩ := toSh_ok q1 j h1.2
      obtain ⟨F2, e2, j2, d2⟩ := shares_ok q2 j1 (RsOk.later h2 e1.f)
      exact ⟨F2, e1.trans e2, j2, .cons (Vp.up e2.f _ _ d1) d2⟩
def ArgsOk (K : KC) (F : Fz) (H : Hp) : List Bool → List V → List C → Prop
  | [], [], [] => True
  | true :: ms, v :: vs, c :: cs => (∃ x, c = .d x ∧ Vp K F v x) ∧ ArgsOk K F H ms vs cs
  | false :: ms, v :: vs, c :: cs => Bd K F H v c ∧ ArgsOk K F H ms vs cs
  | _, _, _ => False
theorem ArgsOk.length : ∀ {ms : List Bool} {vs : List V} {cs : List C}, ArgsOk K F H ms vs cs → vs.length = ms.length
  | [], [], [], _ => rfl
  | true :: ms, v :: vs, c :: cs, h => by simp [ArgsOk.length (ms := ms) h.2]
  | false :: ms, v :: vs, c :: cs, h => by simp [ArgsOk.length (ms := ms) h.2]
/-- lent things are data, or stand outside of what belongs to objects -/
theorem Bd.priv {c : C} {G : Hp} (h : Bd K F H v c) (hg : ∀ p o, v = .ref p → H p = some o → G p = some o) : Bd K F G v c := by
  cases c with
  | d x =>
    cases x with
    | list ds =>
      obtain ⟨p, xs, e, a, b⟩ := h
      refine ⟨p, xs, e, ?_, b⟩
      rcases a with (a | ⟨o, a⟩) | a
      · exact .inl (.inl (hg p _ e a))
      · exact .inl (.inr ⟨o, hg p _ e a⟩)
      · exact .inr a
    | _ => exact h
  | dk kvs =>
    obtain ⟨p, es, e, a, b⟩ := h
    refine ⟨p, es, e, ?_, b⟩
    rcases a with a | ⟨o, a⟩
    · exact .inl (hg p _ e a)
    · exact .inr ⟨o, hg p _ e a⟩
  | dt kvs =>
    obtain ⟨p, es, e, a, b⟩ := h
    refine ⟨p, es, e, ?_, b⟩
    rcases a with a | ⟨o, a⟩
    · exact .inl (hg p _ e a)
    · exact .inr ⟨o, hg p _ e a⟩
/-- what no call changes -/
def priv (F : Fz) (H : Hp) : Hp := fun a => match F.t a with
  | none => H a
  | some (.lok _ _) => H a
  | _ => none
theorem priv_ex : Ex (priv F H) H := fun a o q => by
  unfold priv at q
  split at q
  · exact q
  · exact q
  · cases q
theorem priv_no {a : Addr} {o : HO} (t : F.t a = none) (h : H a = some o) : priv F H a = some o := by
  unfold priv
  rw [t]
  exact h
theorem J.priv (j : J K B H0 F0 F H σ r) : Ex H0 (priv F H) := fun a o q => by
  unfold CM.priv
  split
  · exact j.e0 _ _ q
  · exact j.e0 _ _ q
  · rename_i t h1 h2
    cases w : F.t a with
    | none => exact absurd w h1
    | some u =>
      rcases (j.so.sep a u w).2.2 with z | ⟨n, f, z⟩
      · rw [q] at z; cases z
      · subst z; exact absurd w (h2 n f)
/-- a lent result -/
theorem ResOk.lent {z : Res} (j : J K B H0 F0 F H σ r) (h : ResOk K H0 F H σ r v z) (t : Still z) (q : CM.look r z = some c) : Bd K F (CM.priv F H) v c := by
  cases z with
  | fr c => exact t.elim
  | fl n f => exact t.elim
  | sh x =>
    cases q
    have h : Vp K F v x := h
    cases x with
    | list ds =>
      cases h with
      | lst hs ha =>
        refine ⟨_, _, rfl, ?_, ha⟩
        rcases hs with (a | ⟨o, a⟩) | a
        · exact .inl (.inl (priv_no (by
            cases w : F.t _ with
            | none => rfl
            | some u => have := (j.so.sep _ u w).1; rw [a] at this; cases this) (j.fh _ _ a)))
        · exact .inl (.inr ⟨o, priv_no (by
            cases w : F.t _ with
            | none => rfl
            | some u => have := (j.so.sep _ u w).1; rw [a] at this; cases this) (j.fh _ _ a)⟩)
        · exact .inr a
    | _ => exact h
  | sl i =>
    have b := h.look j q
    have h : σ[i]? = some (some v) := h
    unfold CM.look at q
    dsimp only at q
    split at q
    · rename_i x e
      cases q
      obtain ⟨v', a, d⟩ := j.sl i _ e
      rw [h] at a; cases a
      cases x with
      | list ds =>
        cases d with
        | lst hs ha =>
          refine ⟨_, _, rfl, ?_, ha⟩
          rcases hs with (a | ⟨o, a⟩) | a
          · exact .inl (.inl (priv_no (by
              cases w : F.t _ with
              | none => rfl
              | some u => have := (j.so.sep _ u w).1; rw [a] at this; cases this) (j.fh _ _ a)))
          · exact .inl (.inr ⟨o, priv_no (by
              cases w : F.t _ with
              | none => rfl
              | some u => have := (j.so.sep _ u w).1; rw [a] at this; cases this) (j.fh _ _ a)⟩)
          · exact .inr a
      | _ => exact d
    · rename_i x e
      cases q
      obtain ⟨v', a, d⟩ := j.sl i _ e
      rw [h] at a; cases a
      exact d.up (.refl _) (j.eb.trans j.priv)
    · rename_i x e
      cases q
      obtain ⟨p, a, _, _, t, o⟩ := j.sl i _ e
      rw [h] at a; cases a
      exact b.priv fun p' o' e' hp => by
        cases e'
        exact priv_no t hp
    · rename_i x e
      cases q
      obtain ⟨v', a, d⟩ := j.sl i _ e
      rw [h] at a; cases a
      exact d.up (.refl _) (j.eb.trans j.priv)
    · cases q
theorem ArgsOk.up : ∀ {ms : List Bool} {vs : List V} {cs : List C}, ArgsOk K F H ms vs cs → FEx F F' → Ex H H' → ArgsOk K F' H' ms vs cs
  | [], [], [], _, _, _ => trivial
  | true :: ms, v :: vs, c :: cs, ⟨⟨x, a, b⟩, h⟩, e, e' => ⟨⟨x, a, Vp.up e _ _ b⟩, ArgsOk.up (ms := ms) h e e'⟩
  | false :: ms, v :: vs, c :: cs, ⟨a, h⟩, e, e' => ⟨a.up e e', ArgsOk.up (ms := ms) h e e'⟩
theorem passes_ok : ∀ {ms : List Bool} {zs : List Res} {F : Fz} {vs : List V} {cs : List C} {r r' : Env}, passes r ms zs = some (cs, r') → J K B H0 F0 F H σ r → RsOk K H0 F H σ r vs zs → ∃ F', Ge true F H r F' H r' ∧ J K B H0 F0 F' H σ r' ∧ ArgsOk K F' (CM.priv F' H) ms vs cs
  | [], [], F, vs, cs, r, r', q, j, h => by cases h; cases q; exact ⟨F, .refl, j, trivial⟩
  | [], _ :: _, F, vs, cs, r, r', q, j, h => by cases q
  | m :: ms, [], F, vs, cs, r, r', q, j, h => by cases m <;> cases q
  | true :: ms, z :: zs, F, _, cs, r, r', q, j, h => by
    cases h with
    | cons h1 h2 =>
      simp only [passes, Option.bind_eq_some_iff] at q
      obtain ⟨⟨x, r1⟩, q1, ⟨ys, r2⟩, q2, q3⟩ := q
      cases q3
      obtain ⟨F1, e1, j1, d1⟩ := toSh_ok q1 j h1.2
      obtain ⟨F2, e2, j2, d2⟩ := passes_ok q2 j1 (RsOk.later h2 e1.f)
      exact ⟨F2, e1.trans e2, j2, ⟨_, rfl, Vp.up e2.f _ _ d1⟩, d2⟩
  | false :: ms, z :: zs, F, _, cs, r, r', q, j, h => by
    cases h with
    | cons h1 h2 =>
      simp only [passes, Option.bind_eq_some_iff] at q
      obtain ⟨c, q1, ⟨ys, r2⟩, q2, q3⟩ := q
      cases q3
      obtain ⟨F2, e2, j2, d2⟩ := passes_ok q2 j h2
      have ep : Ex (CM.priv F H) (CM.priv F2 H) := fun a o w => by
        obtain ⟨_, t, _⟩ := e2.q rfl
        unfold CM.priv at w ⊢
        rw [t]
        exact w
      exact ⟨F2, e2, j2, (h1.2.lent j h1.1 q1).up e2.f ep, d2⟩
end
end CM
end
section
set_option Elab.async false
set_option linter.all false
set_option maxRecDepth 100000
set_option autoImplicit false
namespace CM
open PySem PySem.Spec PyProof.Rows L2
/-! ### expressions -/
section
variable {X : Cx} {e a b : Expr} {es : List Expr} {fa fb : EF} {fs : List EF} {pos : Pos} {q1 q2 : Bool}
theorem de_var (i : Nat) {x : Str} (hN : X.N[i]? = some x := by rfl) (hv : Vis X.env.scope x := by first | exact Or.inl rfl | exact Or.inr (Or.inl rfl) | exact Or.inr (Or.inr rfl)) (hd : (x == ("__debug__" : Str)) = false := by decide)
    (hcd : (x == ("__classdict__" : Str)) = false := by decide) : DE X true (.Name x pos) (eVar i) :=
  ⟨_, pe_var hN hv hd hcd, fun B H0 F0 F H σ r z r' q j Q k => by
    unfold eVar at q
    split at q
    · rename_i y e
      cases q
      obtain ⟨v, a, b⟩ := j.sl i _ e
      exact ⟨v, a, k F H v .refl j a⟩
    · rename_i y e
      cases q
      obtain ⟨v, a, b⟩ := j.sl i _ e
      exact ⟨v, a, k F H v .refl j a⟩
    · rename_i y e
      cases q
      obtain ⟨p, a, b⟩ := j.sl i _ e
      exact ⟨.ref p, a, k F H _ .refl j a⟩
    · rename_i y e
      cases q
      obtain ⟨v, a, b⟩ := j.sl i _ e
      exact ⟨v, a, k F H v .refl j a⟩
    · cases q⟩
theorem re_c {K : KC} {v : V} {d : D} (h : ∀ F, Vp K F v d) : RE K true (tC v) (eC d) := fun B H0 F0 F H σ r z r' q j Q k => by
  cases q
  exact k F H v .refl j (h F)
theorem de_int {i : Int} {j pos} : DE X true (.Constant (.int i) j pos) (eC (.int i)) := ⟨_, pe_int, re_c fun _ => .int i⟩
theorem de_bl {b : Bool} {j pos} : DE X true (.Constant (.bool b) j pos) (eC (.bool b)) := ⟨_, pe_bl, re_c fun _ => .bl b⟩
theorem de_non {j pos} : DE X true (.Constant .none j pos) (eC .none) := ⟨_, pe_non, re_c fun _ => .non⟩
theorem de_str {x : Str} {j pos} : DE X true (.Constant (.str x) j pos) (eC (.str x)) := ⟨_, pe_str, re_c fun _ => .str x⟩
/-- a constant of the module, known to be data -/
theorem de_glob {x : Str} {v : V} {u : Value} {d : D} (hg : Gl X x) (hm : X.mg x = some u) (rv : RelV v u) (h : ∀ F, Vp X.kc F v d) (hd : (x == ("__debug__" : Str)) = false := by decide) : DE X true (.Name x pos) (eC d) := ⟨_, pe_glob hg hm rv hd, re_c h⟩

theorem J.tagged {K : KC} {B H0 F0 : Hp} {F : Fz} {H : Hp} {σ : L2.St} {r : Env} (j : J K B H0 F0 F H σ r) : ∀ p, H p = none → F.t p = none := fun p hp => by
  cases w : F.t p with
  | none => rfl
  | some u => exact absurd hp (j.so.sep p u w).2.1
/-- an operation on values -/
def ROp (K : KC) (o : R2) (g : C → C → Option Res) : Prop := ∀ (F : Fz) (H : Hp) (x y : V) (a b : C) (z : Res), Ex F.f H → (∀ p, H p = none → F.t p = none) → Bd K F H x a → Bd K F H y b → g a b = some z →
  ∀ Q : VK, (∀ F' H' v, Grow F H F' H' → RetOk K H F' H' v z → Q v H') → o x y H Q
structure DOp (X : Cx) (f : Value → Value → Sem Value) (g : C → C → Option Res) : Prop where
  ex : ∃ o, OpR X f o ∧ ROp X.kc o g
theorem re_op {K : KC} {o : R2} {g : C → C → Option Res} {ta tb : TE} (ho : ROp K o g) (ha : RE K q1 ta fa) (hb : RE K q2 tb fb) : RE K (q1 && q2) (tOp o ta tb) (eOp g fa fb) := by
  intro B H0 F0 F H σ r z r' q j Q k
  simp only [eOp, Option.bind_eq_some_iff] at q
  obtain ⟨⟨za, r1⟩, q1, za', q2, ⟨zb, r2⟩, q3, u, q4, v, q5, w, q6, q7⟩ := q
  cases q7
  refine ha _ _ _ _ _ _ _ _ _ q1 j _ fun F1 H1 x e1 j1 k1 => ?_
  obtain ⟨F2, e2, j2, k2⟩ := settle_ok q2 j1 k1
  refine hb _ _ _ _ _ _ _ _ _ q3 j2 _ fun F3 H3 y e3 j3 k3 => ?_
  refine ho F3 H3 x y u v z j3.fh j3.tagged ((k2.later (settle_still q2) e3.f).look j3 q4) (k3.look j3 q5) q6 Q fun F4 H4 y' g4 o4 => ?_
  exact k F4 H4 y' ((e1.qt e2).trans (e3.qt g4.ge)) (j3.grow g4) (o4.res j3 g4)
theorem de_op {op : Operator} {g : C → C → Option Res} (ho : DOp X (binaryOp op) g) (ha : DE X q1 a fa) (hb : DE X q2 b fb) : DE X (q1 && q2) (.BinOp a op b pos) (eOp g fa fb) := by
  obtain ⟨o, h1, h2⟩ := ho.ex
  obtain ⟨ta, a1, a2⟩ := ha.ex
  obtain ⟨tb, b1, b2⟩ := hb.ex
  exact ⟨_, pe_op h1 a1 b1, re_op h2 a2 b2⟩
theorem de_cmp {op : CmpOp} {g : C → C → Option Res} (ho : DOp X (compareOp op) g) (ha : DE X q1 a fa) (hb : DE X q2 b fb) (hm : behindInMarks op b = false := by rfl) : DE X (q1 && q2) (.Compare a [op] [b] pos) (eOp g fa fb) := by
  obtain ⟨o, h1, h2⟩ := ho.ex
  obtain ⟨ta, a1, a2⟩ := ha.ex
  obtain ⟨tb, b1, b2⟩ := hb.ex
  exact ⟨_, pe_cmpR h1 a1 b1 hm, re_op h2 a2 b2⟩
theorem RE.bool {K : KC} {t : TE} {f : EF} (h : RE K q1 t f) {B H0 F0 : Hp} {F : Fz} {H : Hp} {σ : L2.St} {r r' : Env} {b : Bool} (q : tE f r = some (b, r')) (j : J K B H0 F0 F H σ r) (Q : VK) (k : ∀ F' H', Ge q1 F H r F' H' r' → J K B H0 F0 F' H' σ r' → Q (.bl b) H') : t σ H Q := by
  simp only [tE, Option.bind_eq_some_iff] at q
  obtain ⟨⟨z, r1⟩, q1, q2⟩ := q
  dsimp only at q2
  split at q2
  · rename_i w e
    cases q2
    refine h _ _ _ _ _ _ _ _ _ q1 j _ fun F1 H1 x e1 j1 k1 => ?_
    have hd : Vp K F1 x (.bool b) := k1.look j1 e
    cases hd
    exact k F1 H1 e1 j1
  · cases q2
theorem rt_test {K : KC} {t : TE} {f : EF} (h : RE K q1 t f) : RT K (tTest t) (tE f) := by
  intro B H0 F0 F H σ r b r' q j Q k
  exact h.bool q j _ fun F1 H1 e1 j1 => ⟨b, rfl, k F1 H1 e1.weak j1⟩
theorem dt_cmp {op : CmpOp} {g : C → C → Option Res} (ho : DOp X (compareOp op) g) (ha : DE X q1 a fa) (hb : DE X q2 b fb) (hm : behindInMarks op b = false := by rfl) : DT X (.Compare a [op] [b] pos) (tE (eOp g fa fb)) := by
  obtain ⟨o, h1, h2⟩ := ho.ex
  obtain ⟨ta, a1, a2⟩ := ha.ex
  obtain ⟨tb, b1, b2⟩ := hb.ex
  exact ⟨_, pt_cmpR h1 a1 b1 hm, rt_test (re_op h2 a2 b2)⟩
/-- a value's truth as a test, where it is a bool -/
theorem dt_val (h : DE X q1 e fa) (he : ∀ whole, isTrue e X.env whole = (do let v ← whole; standAt e.pos; holding [v] (truthy v)) := by intro _; rfl) : DT X e (tE fa) := by
  obtain ⟨t, a1, a2⟩ := h.ex
  exact ⟨_, pt_val a1 he, rt_test a2⟩
theorem dw_dt {f : TF} (h : DW X e f) : DT X e f := let ⟨_, a, b⟩ := h.ex; ⟨_, a.pt, b⟩
section
variable {rest : List Expr} {f g : TF}
theorem dw_and1 (h : DT X a f) : DW X (.BoolOp .And [a] pos) f := let ⟨_, a, b⟩ := h.ex; ⟨_, pw_and1 a, b⟩
theorem dw_or1 (h : DT X a f) : DW X (.BoolOp .Or [a] pos) f := let ⟨_, a, b⟩ := h.ex; ⟨_, pw_or1 a, b⟩
theorem dw_and (h : DT X a f) (h2 : DW X (.BoolOp .And (b :: rest) pos) g) : DW X (.BoolOp .And (a :: b :: rest) pos) (tAndD f g) := by
  obtain ⟨t, a1, a2⟩ := h.ex
  obtain ⟨u, b1, b2⟩ := h2.ex
  refine ⟨_, pw_and a1 b1, fun B H0 F0 F H σ r z r' q j Q k => ?_⟩
  simp only [tAndD, Option.bind_eq_some_iff] at q
  obtain ⟨⟨x, r1⟩, q1, q2⟩ := q
  refine a2 _ _ _ _ _ _ _ _ _ q1 j _ fun F1 H1 e1 j1 => ?_
  cases x with
  | true =>
    rw [if_pos rfl] at q2 ⊢
    exact b2 _ _ _ _ _ _ _ _ _ q2 j1 _ fun F2 H2 e2 j2 => k _ _ (e1.trans e2) j2
  | false =>
    rw [if_neg Bool.false_ne_true] at q2 ⊢
    cases q2
    exact k _ _ e1 j1
theorem dw_or (h : DT X a f) (h2 : DW X (.BoolOp .Or (b :: rest) pos) g) : DW X (.BoolOp .Or (a :: b :: rest) pos) (tOrD f g) := by
  obtain ⟨t, a1, a2⟩ := h.ex
  obtain ⟨u, b1, b2⟩ := h2.ex
  refine ⟨_, pw_or a1 b1, fun B H0 F0 F H σ r z r' q j Q k => ?_⟩
  simp only [tOrD, Option.bind_eq_some_iff] at q
  obtain ⟨⟨x, r1⟩, q1, q2⟩ := q
  refine a2 _ _ _ _ _ _ _ _ _ q1 j _ fun F1 H1 e1 j1 => ?_
  cases x with
  | true =>
    rw [if_pos rfl] at q2 ⊢
    cases q2
    exact k _ _ e1 j1
  | false =>
    rw [if_neg Bool.false_ne_true] at q2 ⊢
    exact b2 _ _ _ _ _ _ _ _ _ q2 j1 _ fun F2 H2 e2 j2 => k _ _ (e1.trans e2) j2
theorem dt_not (h : DT X a f) : DT X (.UnaryOp .Not a pos) (tNotD f) := by
  obtain ⟨t, a1, a2⟩ := h.ex
  refine ⟨_, pt_not a1, fun B H0 F0 F H σ r z r' q j Q k => ?_⟩
  simp only [tNotD, Option.bind_eq_some_iff] at q
  obtain ⟨⟨x, r1⟩, q1, q2⟩ := q
  cases q2
  exact a2 _ _ _ _ _ _ _ _ _ q1 j _ fun F1 H1 e1 j1 => k _ _ e1 j1
end
theorem de_one {op} (h : DE X q1 a fa) : DE X q1 (.BoolOp op [a] pos) fa := let ⟨_, a, b⟩ := h.ex; ⟨_, pe_one a, b⟩
theorem Ge.left {b b' : Bool} {F F' : Fz} {H H' : Hp} {r r' : Env} (a : Ge b F H r F' H' r') : Ge (b && b') F H r F' H' r' := ⟨a.f, a.k, fun h => a.q (Bool.and_eq_true_iff.mp h).1⟩
section
variable {rest : List Expr}
theorem de_and (h : DE X q1 a fa) (h2 : DE X q2 (.BoolOp .And (b :: rest) pos) fb) : DE X (q1 && q2) (.BoolOp .And (a :: b :: rest) pos) (eAnd fa fb) := by
  obtain ⟨t, a1, a2⟩ := h.ex
  obtain ⟨u, b1, b2⟩ := h2.ex
  refine ⟨_, pe_and a1 b1, fun B H0 F0 F H σ r z r' q j Q k => ?_⟩
  simp only [eAnd, Option.bind_eq_some_iff] at q
  obtain ⟨⟨x, r1⟩, q1, q2⟩ := q
  refine a2.bool q1 j _ fun F1 H1 e1 j1 => ⟨x, rfl, ?_⟩
  cases x with
  | true =>
    rw [if_pos rfl] at q2 ⊢
    exact b2 _ _ _ _ _ _ _ _ _ q2 j1 _ fun F2 H2 v e2 j2 => k _ _ _ (e1.trans e2) j2
  | false =>
    rw [if_neg Bool.false_ne_true] at q2 ⊢
    cases q2
    exact k _ _ _ e1.left j1 (.bl false)
theorem de_or (h : DE X q1 a fa) (h2 : DE X q2 (.BoolOp .Or (b :: rest) pos) fb) : DE X (q1 && q2) (.BoolOp .Or (a :: b :: rest) pos) (eOr fa fb) := by
  obtain ⟨t, a1, a2⟩ := h.ex
  obtain ⟨u, b1, b2⟩ := h2.ex
  refine ⟨_, pe_or a1 b1, fun B H0 F0 F H σ r z r' q j Q k => ?_⟩
  simp only [eOr, Option.bind_eq_some_iff] at q
  obtain ⟨⟨x, r1⟩, q1, q2⟩ := q
  refine a2.bool q1 j _ fun F1 H1 e1 j1 => ⟨x, rfl, ?_⟩
  cases x with
  | true =>
    rw [if_pos rfl] at q2 ⊢
    cases q2
    exact k _ _ _ e1.left j1 (.bl true)
  | false =>
    rw [if_neg Bool.false_ne_true] at q2 ⊢
    exact b2 _ _ _ _ _ _ _ _ _ q2 j1 _ fun F2 H2 v e2 j2 => k _ _ _ (e1.trans e2) j2
theorem de_not (h : DE X q1 a fa) : DE X q1 (.UnaryOp .Not a pos) (eNot fa) := by
  obtain ⟨t, a1, a2⟩ := h.ex
  refine ⟨_, pe_not a1, fun B H0 F0 F H σ r z r' q j Q k => ?_⟩
  simp only [eNot, Option.bind_eq_some_iff] at q
  obtain ⟨⟨x, r1⟩, q1, q2⟩ := q
  cases q2
  exact a2.bool q1 j _ fun F1 H1 e1 j1 => ⟨x, rfl, k _ _ _ e1 j1 (.bl _)⟩
theorem de_ifExp {c : Expr} {f : TF} (h : DT X c f) (ha : DE X q1 a fa) (hb : DE X q2 b fb) : DE X false (.IfExp c a b pos) (eIf f fa fb) := by
  obtain ⟨t, c1, c2⟩ := h.ex
  obtain ⟨ta, a1, a2⟩ := ha.ex
  obtain ⟨tb, b1, b2⟩ := hb.ex
  refine ⟨_, pe_ifExp c1 a1 b1, fun B H0 F0 F H σ r z r' q j Q k => ?_⟩
  simp only [eIf, Option.bind_eq_some_iff] at q
  obtain ⟨⟨x, r1⟩, q1, q2⟩ := q
  refine c2 _ _ _ _ _ _ _ _ _ q1 j _ fun F1 H1 e1 j1 => ?_
  cases x with
  | true =>
    rw [if_pos rfl] at q2 ⊢
    exact a2 _ _ _ _ _ _ _ _ _ q2 j1 _ fun F2 H2 v e2 j2 => k _ _ _ (e1.trans e2.weak).weak j2
  | false =>
    rw [if_neg Bool.false_ne_true] at q2 ⊢
    exact b2 _ _ _ _ _ _ _ _ _ q2 j1 _ fun F2 H2 v e2 j2 => k _ _ _ (e1.trans e2.weak).weak j2
end

/-! ### arguments, displays, calls -/
theorem da_nil : DA X true [] [] := ⟨_, pa_nil, fun B H0 F0 F H σ r z r' q j Q k => by cases q; exact k F H [] .refl j .nil⟩
theorem da_cons (h : DE X q1 e fa) (h2 : DA X q2 es fs) (hs : starEach (e :: es) X.env = (false, eval e X.env) :: starEach es X.env := by rfl) : DA X (q1 && q2) (e :: es) (fa :: fs) := by
  obtain ⟨t, a1, a2⟩ := h.ex
  obtain ⟨u, b1, b2⟩ := h2.ex
  refine ⟨_, pa_cons a1 b1 hs, fun B H0 F0 F H σ r z r' q j Q k => ?_⟩
  simp only [eArgs, Option.bind_eq_some_iff] at q
  obtain ⟨⟨x, r1⟩, q1, x', q2, ⟨ys, r2⟩, q3, q4⟩ := q
  cases q4
  refine a2 _ _ _ _ _ _ _ _ _ q1 j _ fun F1 H1 v e1 j1 k1 => ?_
  obtain ⟨F2, e2, j2, k2⟩ := settle_ok q2 j1 k1
  refine b2 _ _ _ _ _ _ _ _ _ q3 j2 _ fun F3 H3 vs e3 j3 k3 => ?_
  exact k F3 H3 _ ((e1.qt e2).trans e3) j3 (.cons ⟨settle_still q2, k2.later (settle_still q2) e3.f⟩ k3)
end

/-! ### one more thing that is kept for a while -/
section
variable {K : KC} {F F' F1 : Fz} {H H' H1 B H0 F0 : Hp} {σ : L2.St} {r r' : Env} {v : V} {c : C} {x : D} {p : Addr} {s : Slot} {o : HO}
theorem J.hold (j : J K B H0 F0 F H σ r) (h0 : H0 p = none) (hf : F.f p = none) (ht : F.t p = none) (hh : H p = some o) (hn : ∀ (i : Nat) (e : C), r.sl[i]? = some (.ow e) → σ[i]? ≠ some (some (.ref p))) : J K B (upd H0 p o) F0 F H σ r := by
  refine ⟨j.eb.side (j.eb.back h0), fun a u q => ?_, j.ef, j.fh, fun a u q => ?_, j.so.weak fun a t q w => ?_, j.len, fun i s q => ?_, j.dj⟩
  · by_cases z : a = p
    · subst z; rw [upd_same] at q; rw [hh]; exact q
    · rw [upd_ne z] at q; exact j.e0 a u q
  · rcases j.nw a u q with w | w | w
    · exact .inl w
    · have z : a ≠ p := fun z => by subst z; rw [hf] at q; cases q
      exact .inr (.inl (by rw [upd_ne z]; exact w))
    · exact .inr (.inr w)
  · have z : a ≠ p := fun z => by subst z; rw [ht] at q; cases q
    rw [upd_ne z]; exact w
  · have b := j.sl i s q
    cases s with
    | no => trivial
    | sh d => exact b
    | bo c => exact b
    | lk c => exact b
    | ow c =>
      obtain ⟨p', a, b, d, t, e⟩ := b
      have z : p' ≠ p := fun z => hn i c q (by rw [← z]; exact a)
      exact ⟨p', a, by rw [upd_ne z]; exact b, d, t, e⟩
theorem J.drop (j : J K B (upd H0 p o) F0 F H σ r) (h0 : H0 p = none) (eb : Ex B H0) (f0 : F0 p = none) (hl : ∀ n f, F.t p ≠ some (.lok n f)) (nt : ¬ TupO o) : J K B H0 F0 F H σ r ∧ F.f p = none ∧ F.t p = none ∧ H p = some o ∧ ∀ (i : Nat) (e : C), r.sl[i]? = some (.ow e) → σ[i]? ≠ some (some (.ref p)) := by
  have back : ∀ a, (upd H0 p o) a = none → H0 a = none ∧ a ≠ p := fun a q => by
    have z : a ≠ p := fun z => by subst z; rw [upd_same] at q; cases q
    rw [upd_ne z] at q
    exact ⟨q, z⟩
  refine ⟨⟨eb, (Ex.new h0).trans j.e0, j.ef, j.fh, fun a u q => ?_, j.so.weak fun a t q w => (back a w).1, j.len, fun i s q => ?_, j.dj⟩, ?_, ?_, j.e0 _ _ upd_same, fun i e q z => ?_⟩
  · rcases j.nw a u q with w | w | w
    · exact .inl w
    · exact .inr (.inl (back a w).1)
    · exact .inr (.inr w)
  · have b := j.sl i s q
    cases s with
    | no => trivial
    | sh d => exact b
    | bo c => exact b
    | lk c => exact b
    | ow c =>
      obtain ⟨p', a, b, d, t, e⟩ := b
      exact ⟨p', a, (back _ b).1, d, t, e⟩
  · cases q : F.f p with
    | none => rfl
    | some u =>
      rcases j.nw p u q with w | w | w
      · rw [f0] at w; cases w
      · rw [upd_same] at w; cases w
      · have h1 := j.e0 _ _ (upd_same (H := H0) (a := p) (o := o))
        rw [j.fh _ _ q] at h1
        cases h1
        exact absurd w nt
  · cases q : F.t p with
    | none => rfl
    | some t =>
      rcases (j.so.sep p t q).2.2 with w | ⟨n, f, w⟩
      · rw [upd_same] at w; cases w
      · subst w; exact absurd q (hl n f)
  · obtain ⟨p', a, b, d, t, e⟩ := j.sl i _ q
    rw [z] at a; cases a
    exact (back _ b).2 rfl
/-- a new thing stands while a quiet part is done -/
theorem RE.around {t : TE} {f : EF} (h : RE K true t f) {z : Res} (q : f r = some (z, r')) (j : J K B H0 F0 F H σ r) {w : Res} (hw : ResOk K H0 F H σ r v w) (Q : VK)
    (k : ∀ F' H' u, Ge true F H r F' H' r' → J K B H0 F0 F' H' σ r' → ResOk K H0 F' H' σ r' v w → ResOk K H0 F' H' σ r' u z → Q u H') : t σ H Q := by
  cases w with
  | sh x => exact h _ _ _ _ _ _ _ _ _ q j Q fun F' H' u g j' o => k F' H' u g j' (Vp.up g.f _ _ hw) o
  | sl i => exact h _ _ _ _ _ _ _ _ _ q j Q fun F' H' u g j' o => k F' H' u g j' hw o
  | fl n f =>
    refine h _ _ _ _ _ _ _ _ _ q j Q fun F' H' u g j' o => k F' H' u g j' ?_ o
    obtain ⟨g1, g2, _⟩ := g.q rfl
    exact FldV.up hw g.f g1
  | fr c =>
    obtain ⟨p, rfl, h0, hf, ht, od, hn⟩ := hw
    obtain ⟨o, ho⟩ : ∃ o, H p = some o := by
      cases w : H p with
      | none => exact absurd w od.ne
      | some o => exact ⟨o, rfl⟩
    have f0 : F0 p = none := j.ef.back hf
    refine h _ _ _ _ _ _ _ _ _ q (j.hold h0 hf ht ho hn) Q fun F' H' u g j' o' => ?_
    obtain ⟨g1, g2, _⟩ := g.q rfl
    obtain ⟨j2, f2, t2, h2, n2⟩ := j'.drop h0 j.eb f0 (fun n f z => by rw [g2, ht] at z; cases z) (fun i => od.noT i ho)
    refine k F' H' u g j2 ⟨p, rfl, h0, f2, t2, od.up g.f (fun o w => g1 _ _ w), n2⟩ ?_
    cases z with
    | sh x => exact o'
    | sl i => exact o'
    | fl n f => exact o'
    | fr c' =>
      obtain ⟨p', e, h0', hf', ht', od', hn'⟩ := o'
      refine ⟨p', e, ?_, hf', ht', od', hn'⟩
      have z : p' ≠ p := fun z => by subst z; rw [upd_same] at h0'; cases h0'
      rw [upd_ne z] at h0'
      exact h0'
end
end CM
end
section
set_option Elab.async false
set_option linter.all false
set_option maxRecDepth 100000
set_option autoImplicit false
namespace CM
open PySem PySem.Spec PyProof.Rows L2
/-! ### stores -/
theorem lookup_putFd (f g : Str) (v : Fd) : ∀ fs : List (Str × Fd), (putFd f v fs).lookup g = if g = f then some v else fs.lookup g
  | [] => by
    show List.lookup g [(f, v)] = _
    by_cases h : g = f
    · have hb : (g == f) = true := beq_iff_eq.mpr h
      simp only [List.lookup, hb, if_pos h]
    · have hb : (g == f) = false := beq_eq_false_iff_ne.mpr h
      simp only [List.lookup, hb, if_neg h]
  | (k, x) :: r => by
    have ih := lookup_putFd f g v r
    rw [show putFd f v ((k, x) :: r) = (if k = f then (k, v) :: r else (k, x) :: putFd f v r) from rfl]
    by_cases hk : k = f
    · subst hk
      rw [if_pos rfl]
      by_cases h : g = k
      · have hb : (g == k) = true := beq_iff_eq.mpr h
        simp only [List.lookup, hb, if_pos h]
      · have hb : (g == k) = false := beq_eq_false_iff_ne.mpr h
        simp only [List.lookup, hb, if_neg h]
    · rw [if_neg hk]
      by_cases h : g = k
      · have hb : (g == k) = true := beq_iff_eq.mpr h
        have hf : g ≠ f := fun z => hk (by rw [← h]; exact z)
        simp only [List.lookup, hb, if_neg hf]
      · have hb : (g == k) = false := beq_eq_false_iff_ne.mpr h
        simp only [List.lookup, hb]
        exact ih
theorem putF_same {f : Str} {v : V} : ∀ {es : List (Str × V)}, es.lookup f = some v → putF f v es = es
  | [], h => by cases h
  | (k, x) :: r, h => by
    rw [show putF f v ((k, x) :: r) = (if k = f then (k, v) :: r else (k, x) :: putF f v r) from rfl]
    by_cases hk : k = f
    · subst hk
      rw [if_pos rfl]
      simp only [List.lookup, beq_self_eq_true] at h
      cases h
      rfl
    · have hb : (f == k) = false := beq_eq_false_iff_ne.mpr fun z => hk z.symm
      simp only [List.lookup, hb] at h
      rw [if_neg hk, putF_same h]
theorem putFd_keys (f : Str) (v : Fd) : ∀ fs : List (Str × Fd), ((putFd f v fs).map (·.1) = fs.map (·.1) ∧ f ∈ fs.map (·.1)) ∨ ((putFd f v fs).map (·.1) = fs.map (·.1) ++ [f] ∧ f ∉ fs.map (·.1))
  | [] => .inr ⟨rfl, by simp⟩
  | (k, x) :: r => by
    rw [show putFd f v ((k, x) :: r) = (if k = f then (k, v) :: r else (k, x) :: putFd f v r) from rfl]
    by_cases hk : k = f
    · subst hk
      rw [if_pos rfl]
      exact .inl ⟨rfl, by simp⟩
    · rw [if_neg hk]
      rcases putFd_keys f v r with ⟨a, b⟩ | ⟨a, b⟩
      · exact .inl ⟨by simp only [List.map_cons, a], by simp at b ⊢; exact .inr b⟩
      · refine .inr ⟨by simp only [List.map_cons, a, List.cons_append], ?_⟩
        simp at b ⊢
        exact ⟨fun z => hk z.symm, b⟩
theorem putFd_nodup {f : Str} {v : Fd} {fs : List (Str × Fd)} (h : (fs.map (·.1)).Nodup) : ((putFd f v fs).map (·.1)).Nodup := by
  rcases putFd_keys f v fs with ⟨a, _⟩ | ⟨a, b⟩
  · rw [a]; exact h
  · rw [a, List.nodup_append]
    refine ⟨h, by simp, fun x hx y hy z => ?_⟩
    simp at hy
    subst hy
    subst z
    exact b hx
theorem stPut_at {st : Store} {n m : Nat} {f : Str} {v : Fd} : (stPut st n f v)[m]? = (st[m]?).map fun o => if n = m then ⟨o.cls, putFd f v o.fs⟩ else o := by
  unfold stPut
  rw [List.getElem?_modify]
  cases st[m]? with
  | none => rfl
  | some o =>
    by_cases h : n = m
    · simp [h]
    · simp [h]
theorem stPut_len {st : Store} {n : Nat} {f : Str} {v : Fd} : (stPut st n f v).length = st.length := by unfold stPut; rw [List.length_modify]
theorem fldAt_put {st : Store} {n m : Nat} {f g : Str} {v : Fd} (h : n < st.length) : fldAt (stPut st n f v) m g = if n = m ∧ g = f then some v else fldAt st m g := by
  unfold fldAt
  rw [stPut_at]
  by_cases e : n = m
  · subst e
    rw [List.getElem?_eq_getElem h]
    show List.lookup g (if n = n then _ else _ : Ob).fs = _
    rw [if_pos rfl]
    show List.lookup g (putFd f v _) = _
    rw [lookup_putFd]
    by_cases q : g = f
    · rw [if_pos q, if_pos ⟨rfl, q⟩]
    · rw [if_neg q, if_neg fun z => q z.2]
      rfl
  · rw [if_neg fun z => e z.1]
    cases st[m]? with
    | none => rfl
    | some o =>
      show List.lookup g (if n = m then _ else _ : Ob).fs = _
      rw [if_neg e]
      rfl
section
variable {K : KC} {F F' : Fz} {H H' B H0 H0' : Hp} {n : Nat} {f : Str} {v : V} {p : Addr} {st : Store}
theorem FdOk.mv {d : Fd} (h : FdOk K F H n f v d) (e : FEi F F') (t : ∀ q, F.t q = some (.fld n f) → F'.t q = some (.fld n f) ∧ ∀ o, H q = some o → H' q = some o) (l : ∀ q, F.t q = some (.lok n f) → F'.t q = some (.lok n f) ∧ ∀ o, H q = some o → H' q = some o) : FdOk K F' H' n f v d := by
  cases d with
  | d x => exact Vp.up e _ _ h
  | ow c =>
    obtain ⟨q, a, b, c⟩ := h
    exact ⟨q, a, (t q b).1, c.up e (t q b).2⟩
  | lk c =>
    obtain ⟨q, a, b, c⟩ := h
    exact ⟨q, a, (l q b).1, c.up e (l q b).2⟩
theorem FdsOk.put {v' : V} {d' : Fd} : ∀ {es : List (Str × V)} {fs : List (Str × Fd)}, FdsOk K F H n es fs → (fs.map (·.1)).Nodup → (∀ g v d, g ≠ f → FdOk K F H n g v d → FdOk K F' H' n g v d) → FdOk K F' H' n f v' d' → FdsOk K F' H' n (putF f v' es) (putFd f d' fs)
  | _, _, .nil, _, _, k => .cons ⟨rfl, k⟩ .nil
  | (g, v) :: es, (g', d) :: fs, .cons ⟨h1, h2⟩ r, nd, up, k => by
    have h1 : g = g' := h1
    subst h1
    rw [show putF f v' ((g, v) :: es) = (if g = f then (g, v') :: es else (g, v) :: putF f v' es) from rfl, show putFd f d' ((g, d) :: fs) = (if g = f then (g, d') :: fs else (g, d) :: putFd f d' fs) from rfl]
    rw [List.map_cons, List.nodup_cons] at nd
    by_cases z : g = f
    · subst z
      rw [if_pos rfl, if_pos rfl]
      have all : ∀ {es : List (Str × V)} {fs : List (Str × Fd)}, g ∉ fs.map (·.1) → FdsOk K F H n es fs → FdsOk K F' H' n es fs := fun {es fs} hn hr => by
        induction hr with
        | nil => exact .nil
        | @cons a b as bs h r ih =>
          rw [List.map_cons, List.mem_cons] at hn
          obtain ⟨e1, e2⟩ := h
          refine .cons ⟨e1, up _ _ _ (fun z => hn (.inl ?_)) e2⟩ (ih fun z => hn (.inr z))
          rw [← z, e1]
      exact .cons ⟨rfl, k⟩ (all nd.1 r)
    · rw [if_neg z, if_neg z]
      exact .cons ⟨rfl, up _ _ _ z h2⟩ (FdsOk.put r nd.2 up k)
/-- one field of one object changed -/
theorem StOk.upd {d' : Fd} {v' : V} {C dx : Addr} {es : List (Str × V)} (nb : f ≠ bxS) (s : StOk K H0 F H st) (t : F.t p = some (.ins n)) (hp : H p = some (.ins C dx es)) (g : FEi F F')
    (it : ∀ a u, u ≠ .fld n f → u ≠ .lok n f → (F'.t a = some u ↔ F.t a = some u))
    (hH : ∀ a u, F.t a = some u → u ≠ .fld n f → u ≠ .lok n f → a ≠ p → ∀ o, H a = some o → H' a = some o)
    (hp' : H' p = some (.ins C dx (putF f v' es))) (fo : FdOk K F' H' n f v' d')
    (sel : ∀ a u, F'.t a = some u → u = .fld n f ∨ u = .lok n f → F'.f a = none ∧ H' a ≠ none ∧ (H0' a = none ∨ ∃ n f, u = .lok n f) ∧ (u = .fld n f → ∃ c, d' = .ow c) ∧ (u = .lok n f → ∃ c, d' = .lk c))
    (uni : ∀ a b u, u = .fld n f ∨ u = .lok n f → F'.t a = some u → F'.t b = some u → a = b)
    (ff : ∀ a u, F.t a = some u → u ≠ .fld n f → u ≠ .lok n f → F'.f a = none ∧ (H0 a = none → H0' a = none))
    (ln : ∀ o, st[n]? = some o → (putFd f d' o.fs).length ≤ 100) : StOk K H0' F' H' (stPut st n f d') := by
  have nl : n < st.length := s.ix p _ t
  have nf : ∀ {m : Nat}, Tg.ins m ≠ .fld n f := fun z => by cases z
  have nl' : ∀ {m : Nat}, Tg.ins m ≠ .lok n f := fun z => by cases z
  have up : ∀ m g v d, (m ≠ n ∨ g ≠ f) → FdOk K F H m g v d → FdOk K F' H' m g v d := fun m g' v d hne k => by
    refine k.mv g (fun q e => ?_) (fun q e => ?_)
    · have n1 : Tg.fld m g' ≠ .fld n f := fun z => by cases z; exact hne.elim (fun w => w rfl) (fun w => w rfl)
      have n2 : Tg.fld m g' ≠ .lok n f := fun z => by cases z
      exact ⟨(it q _ n1 n2).mpr e, hH q _ e n1 n2 fun z => by subst z; rw [t] at e; cases e⟩
    · have n1 : Tg.lok m g' ≠ .fld n f := fun z => by cases z
      have n2 : Tg.lok m g' ≠ .lok n f := fun z => by cases z; exact hne.elim (fun w => w rfl) (fun w => w rfl)
      exact ⟨(it q _ n1 n2).mpr e, hH q _ e n1 n2 fun z => by subst z; rw [t] at e; cases e⟩
  refine ⟨fun q m e => ?_, fun a b u ha hb => ?_, fun a u ha => ?_, fun a u ha => ?_, fun a m g' ha => ?_, fun a m g' ha => ?_, fun a m g' c ha hc => ?_, fun a m g' c ha hc => ?_, fun a q m hb hq => ?_, fun a m ha => ?_⟩
  · have e0 := (it q _ nf nl').mp e
    obtain ⟨o, a, C1, dx1, es1, b1, b2, b3, b4, b5, b6⟩ := s.ob q m e0
    by_cases z : m = n
    · subst z
      have eq := s.inj q p _ e0 t
      subst eq
      rw [hp] at b2; cases b2
      refine ⟨⟨o.cls, putFd f d' o.fs⟩, by rw [stPut_at, a, Option.map_some, if_pos rfl], C, dx, _, b1, hp', (it dx _ (fun z => by cases z) (fun z => by cases z)).mpr b3, b4.put b5 (fun g v d ne => up _ _ _ _ (.inr ne)) fo, putFd_nodup b5, ln o a⟩
    · refine ⟨o, by rw [stPut_at, a, Option.map_some, if_neg fun w => z w.symm], C1, dx1, es1, b1, hH q _ e0 nf nl' (fun w => ?_) _ b2, (it dx1 _ (fun z => by cases z) (fun z => by cases z)).mpr b3, Paired.mapP b4 fun _ _ ⟨c1, c2⟩ => ⟨c1, up _ _ _ _ (.inl z) c2⟩, b5, b6⟩
      subst w
      rw [t] at e0; cases e0
      exact z rfl
  · by_cases z : u = .fld n f ∨ u = .lok n f
    · exact uni a b u z ha hb
    · have z1 : u ≠ .fld n f := fun w => z (.inl w)
      have z2 : u ≠ .lok n f := fun w => z (.inr w)
      exact s.inj a b u ((it a u z1 z2).mp ha) ((it b u z1 z2).mp hb)
  · by_cases z : u = .fld n f ∨ u = .lok n f
    · obtain ⟨c1, c2, c3, _⟩ := sel a u ha z
      exact ⟨c1, c2, c3⟩
    · have z1 : u ≠ .fld n f := fun w => z (.inl w)
      have z2 : u ≠ .lok n f := fun w => z (.inr w)
      have ha0 := (it a u z1 z2).mp ha
      obtain ⟨c1, c2, c3⟩ := s.sep a u ha0
      obtain ⟨d1, d2⟩ := ff a u ha0 z1 z2
      refine ⟨d1, ?_, c3.imp d2 id⟩
      by_cases w : a = p
      · subst w; rw [hp']; exact fun z => by cases z
      · cases q : H a with
        | none => exact absurd q c2
        | some o => rw [hH a u ha0 z1 z2 w o q]; exact fun z => by cases z
  · rw [stPut_len]
    by_cases z : u = .fld n f ∨ u = .lok n f
    · rcases z with z | z
      · subst z; exact nl
      · subst z; exact nl
    · have z1 : u ≠ .fld n f := fun w => z (.inl w)
      have z2 : u ≠ .lok n f := fun w => z (.inr w)
      exact s.ix a u ((it a u z1 z2).mp ha)
  · rw [fldAt_put nl]
    by_cases z : n = m ∧ g' = f
    · rw [if_pos z]
      obtain ⟨z1, z2⟩ := z
      subst z1; subst z2
      obtain ⟨_, _, _, c4, _⟩ := sel a _ ha (.inl rfl)
      obtain ⟨c, e⟩ := c4 rfl
      exact ⟨c, by rw [e]⟩
    · rw [if_neg z]
      exact s.tf a m g' ((it a _ (fun w => by cases w; exact z ⟨rfl, rfl⟩) (fun w => by cases w)).mp ha)
  · rw [fldAt_put nl]
    by_cases z : n = m ∧ g' = f
    · rw [if_pos z]
      obtain ⟨z1, z2⟩ := z
      subst z1; subst z2
      obtain ⟨_, _, _, _, c5⟩ := sel a _ ha (.inr rfl)
      obtain ⟨c, e⟩ := c5 rfl
      exact ⟨c, by rw [e]⟩
    · rw [if_neg z]
      exact s.tl a m g' ((it a _ (fun w => by cases w) (fun w => by cases w; exact z ⟨rfl, rfl⟩)).mp ha)
  · rw [fldAt_put nl] at hc
    by_cases z : n = m ∧ g' = f
    · rw [if_pos z] at hc
      obtain ⟨z1, z2⟩ := z
      subst z1; subst z2
      cases hc
      obtain ⟨q, _, k1, k2⟩ := fo
      have := uni _ _ _ (.inl rfl) ha k1
      subst this
      exact k2
    · rw [if_neg z] at hc
      have z1 : Tg.fld m g' ≠ .fld n f := fun w => by cases w; exact z ⟨rfl, rfl⟩
      have ha0 := (it a _ z1 (fun w => by cases w)).mp ha
      exact (s.od a m g' c ha0 hc).up g (hH a _ ha0 z1 (fun w => by cases w) fun w => by subst w; rw [t] at ha0; cases ha0)
  · rw [fldAt_put nl] at hc
    by_cases z : n = m ∧ g' = f
    · rw [if_pos z] at hc
      obtain ⟨z1, z2⟩ := z
      subst z1; subst z2
      cases hc
      obtain ⟨q, _, k1, k2⟩ := fo
      have := uni _ _ _ (.inr rfl) ha k1
      subst this
      exact k2
    · rw [if_neg z] at hc
      have z1 : Tg.lok m g' ≠ .lok n f := fun w => by cases w; exact z ⟨rfl, rfl⟩
      have ha0 := (it a _ (fun w => by cases w) z1).mp ha
      exact (s.odr a m g' c ha0 hc).up g (hH a _ ha0 (fun w => by cases w) z1 fun w => by subst w; rw [t] at ha0; cases ha0)
  · have hb0 : Bt F a m := hb.imp (fun h => (it a _ (fun w => by cases w; exact nb rfl) (fun w => by cases w)).mp h) fun h => (it a _ (fun w => by cases w) (fun w => by cases w; exact nb rfl)).mp h
    exact s.bi a q m hb0 ((it q _ nf nl').mp hq)
  · have ha0 := (it a (.dic m) (fun w => by cases w) (fun w => by cases w)).mp ha
    exact ntKeep (s.sep a _ ha0).2.1 (s.dn a m ha0) (hH a _ ha0 (fun w => by cases w) (fun w => by cases w) fun w => by subst w; rw [t] at ha0; cases ha0)
theorem putFd_len {d' d : Fd} {fs : List (Str × Fd)} (h : fs.lookup f = some d) : (putFd f d' fs).length = fs.length := by
  rcases putFd_keys f d' fs with ⟨a, _⟩ | ⟨a, b⟩
  · have := congrArg List.length a
    simpa using this
  · exfalso
    apply b
    clear a b
    induction fs with
    | nil => cases h
    | cons x r ih =>
      obtain ⟨k, w⟩ := x
      by_cases z : (f == k) = true
      · rw [List.map_cons]
        exact List.mem_cons.mpr (.inl (beq_iff_eq.mp z))
      · have z : (f == k) = false := by simpa using z
        simp only [List.lookup, z] at h
        rw [List.map_cons]
        exact List.mem_cons_of_mem _ (ih h)
end
end CM
end
section
set_option Elab.async false
set_option linter.all false
set_option maxRecDepth 100000
set_option autoImplicit false
namespace CM
open PySem PySem.Spec PyProof.Rows L2

theorem eArgs_len : ∀ {fs : List EF} {r r' : Env} {zs : List Res}, eArgs fs r = some (zs, r') → zs.length = fs.length
  | [], r, r', zs, q => by cases q; rfl
  | f :: fs, r, r', zs, q => by
    simp only [eArgs, Option.bind_eq_some_iff] at q
    obtain ⟨⟨x, r1⟩, q1, x', q2, ⟨ys, r2⟩, q3, q4⟩ := q
    cases q4
    simp [eArgs_len q3]
theorem RsOk.length {K : KC} {H0 : Hp} {F : Fz} {H : Hp} {σ : L2.St} {r : Env} {vs : List V} {zs : List Res} (h : RsOk K H0 F H σ r vs zs) : vs.length = zs.length := Paired.length h
section
variable {X : Cx} {e a b : Expr} {es : List Expr} {fa fb : EF} {fs : List EF} {pos : Pos} {q1 q2 : Bool}
theorem re_opF {K : KC} {o : R2} {g : C → C → Option Res} {ta tb : TE} (ho : ROp K o g) (ha : RE K q1 ta fa) (hb : RE K true tb fb) : RE K q1 (tOp o ta tb) (eOpF g fa fb) := by
  intro B H0 F0 F H σ r z r' q j Q k
  simp only [eOpF, Option.bind_eq_some_iff] at q
  obtain ⟨⟨za, r1⟩, q1, ⟨zb, r2⟩, q3, u, q4, v, q5, w, q6, q7⟩ := q
  cases q7
  refine ha _ _ _ _ _ _ _ _ _ q1 j _ fun F1 H1 x e1 j1 k1 => ?_
  refine hb.around q3 j1 k1 _ fun F3 H3 y e3 j3 k2 k3 => ?_
  refine ho F3 H3 x y u v z j3.fh j3.tagged (k2.look j3 q4) (k3.look j3 q5) q6 Q fun F4 H4 y' g4 o4 => ?_
  exact k F4 H4 y' ((e1.qt e3).qt g4.ge) (j3.grow g4) (o4.res j3 g4)
theorem de_opF {op : Operator} {g : C → C → Option Res} (ho : DOp X (binaryOp op) g) (ha : DE X q1 a fa) (hb : DE X true b fb) : DE X q1 (.BinOp a op b pos) (eOpF g fa fb) := by
  obtain ⟨o, h1, h2⟩ := ho.ex
  obtain ⟨ta, a1, a2⟩ := ha.ex
  obtain ⟨tb, b1, b2⟩ := hb.ex
  exact ⟨_, pe_op h1 a1 b1, re_opF h2 a2 b2⟩
theorem de_cmpF {op : CmpOp} {g : C → C → Option Res} (ho : DOp X (compareOp op) g) (ha : DE X q1 a fa) (hb : DE X true b fb) (hm : behindInMarks op b = false := by rfl) : DE X q1 (.Compare a [op] [b] pos) (eOpF g fa fb) := by
  obtain ⟨o, h1, h2⟩ := ho.ex
  obtain ⟨ta, a1, a2⟩ := ha.ex
  obtain ⟨tb, b1, b2⟩ := hb.ex
  exact ⟨_, pe_cmpR h1 a1 b1 hm, re_opF h2 a2 b2⟩
theorem de_tup {x1} (h : DA X q1 es fs) (hl : fs.length ≤ 1000 := by decide) : DE X q1 (.Tuple es x1 pos) (eTup fs) := by
  obtain ⟨t, a1, a2⟩ := h.ex
  refine ⟨_, pe_tupZ a1, fun B H0 F0 F H σ r z r' q j Q k => ?_⟩
  simp only [eTup, Option.bind_eq_some_iff] at q
  obtain ⟨⟨zs, r1⟩, q1, ⟨xs, r2⟩, q2, q3⟩ := q
  cases q3
  refine a2 _ _ _ _ _ _ _ _ _ q1 j _ fun F1 H1 vs e1 j1 k1 => ?_
  obtain ⟨F2, e2, j2, d2⟩ := shares_ok q2 j1 k1
  have l1 := k1.length
  have l2 := eArgs_len q1
  refine ⟨Nat.le_of_lt (small1000 (by omega)), tuT xs, fun p o hp po => ?_⟩
  have g : Grow F2 H1 (F2.put p (tupO (tuT xs) o vs)) (upd H1 p (tupO (tuT xs) o vs)) := .put j2.fh hp
  exact k _ _ _ ((e1.qt e2).qt g.ge) (j2.grow g) (.tup (.inl ⟨o, po, upd_same⟩) (VpAll.up g.fe _ _ d2))
theorem de_lst (h : DA X q1 es fs) (hl : fs.length ≤ 1000 := by decide) : DE X q1 (.List es pos) (eLst fs) := by
  obtain ⟨t, a1, a2⟩ := h.ex
  refine ⟨_, pe_lst a1, fun B H0 F0 F H σ r z r' q j Q k => ?_⟩
  simp only [eLst, Option.bind_eq_some_iff] at q
  obtain ⟨⟨zs, r1⟩, q1, ⟨xs, r2⟩, q2, q3⟩ := q
  cases q3
  refine a2 _ _ _ _ _ _ _ _ _ q1 j _ fun F1 H1 vs e1 j1 k1 => ?_
  obtain ⟨F2, e2, j2, d2⟩ := shares_ok q2 j1 k1
  have l1 := k1.length
  have l2 := eArgs_len q1
  refine ⟨Nat.le_of_lt (small1000 (by omega)), fun p hp => ?_⟩
  have g : Grow F2 H1 F2 (upd H1 p (.lst vs)) := .lay j2.fh hp
  have ht : F2.t p = none := by
    cases w : F2.t p with
    | none => rfl
    | some u => exact absurd hp (j2.so.sep p u w).2.1
  exact k _ _ _ ((e1.qt e2).qt g.ge) (j2.grow g) (RetOk.res j2 g ⟨p, rfl, hp, j2.fh.back hp, ht, vs, upd_same, d2⟩)
/-- an operation on a list of values -/
def RCl (K : KC) (o : List V → Hp → VK → Prop) (g : List C → Option Res) : Prop := ∀ (F : Fz) (H : Hp) (xs : List V) (cs : List C) (z : Res), Ex F.f H → (∀ p, H p = none → F.t p = none) → Paired (Bd K F H) xs cs → g cs = some z →
  ∀ Q : VK, (∀ F' H' v, Grow F H F' H' → RetOk K H F' H' v z → Q v H') → o xs H Q
theorem re_bi {K : KC} {o : List V → Hp → VK → Prop} {g : List C → Option Res} {ta : TA} (ho : RCl K o g) (ha : RA K q1 ta fs) : RE K q1 (tCB o ta) (eBi g fs) := by
  intro B H0 F0 F H σ r z r' q j Q k
  simp only [eBi, Option.bind_eq_some_iff] at q
  obtain ⟨⟨zs, r1⟩, q1, cs, q2, w, q3, q4⟩ := q
  cases q4
  refine ha _ _ _ _ _ _ _ _ _ q1 j _ fun F1 H1 vs e1 j1 k1 => ?_
  refine ho F1 H1 vs cs z j1.fh j1.tagged (looks_ok j1 q2 k1) q3 Q fun F4 H4 y' g4 o4 => ?_
  exact k F4 H4 y' (e1.qt g4.ge) (j1.grow g4) (o4.res j1 g4)
/-- one argument, which may be new, or an object's -/
theorem re_bi1 {K : KC} {o : List V → Hp → VK → Prop} {g : List C → Option Res} {t : TE} {f : EF} (ho : RCl K o g) (ha : RE K q1 t f) : RE K q1 (tCB o (tCons t tNil)) (eUn (fun c => g [c]) f) := by
  intro B H0 F0 F H σ r z r' q j Q k
  simp only [eUn, Option.bind_eq_some_iff] at q
  obtain ⟨⟨zs, r1⟩, q1, c, q2, w, q3, q4⟩ := q
  cases q4
  refine ha _ _ _ _ _ _ _ _ _ q1 j _ fun F1 H1 v e1 j1 k1 => ?_
  refine ho F1 H1 [v] [c] z j1.fh j1.tagged (.cons (k1.look j1 q2) .nil) q3 Q fun F4 H4 y' g4 o4 => ?_
  exact k F4 H4 y' (e1.qt g4.ge) (j1.grow g4) (o4.res j1 g4)
/-- a call's end -/
structure Gro (P : Hp) (F : Fz) (H : Hp) (F' : Fz) (H' : Hp) : Prop where
  f : FEx F F'
  h : Ex P H'
  fh : Ex F'.f H'
  nw : ∀ a o, F'.f a = some o → F.f a = some o ∨ P a = none ∨ TupO o
/-- a def's promise -/
def spD (K : KC) (ms : List Bool) (f : DF) : Sp := fun vs H Q _ => ∃ (F : Fz) (cs : List C) (st : Store) (z : Res) (st' : Store), Ex F.f H ∧ StOk K (priv F H) F H st ∧ ArgsOk K F (priv F H) ms vs cs ∧ f cs st = some (z, st') ∧
  ∀ F' H' v, Gro (priv F H) F H F' H' → StOk K (priv F H) F' H' st' → RetOk K (priv F H) F' H' v z → Q v H'
theorem J.stok {K : KC} {B H0 F0 : Hp} {F : Fz} {H : Hp} {σ : L2.St} {r : Env} (j : J K B H0 F0 F H σ r) : StOk K (CM.priv F H) F H r.st := by
  refine ⟨j.so.ob, j.so.inj, fun p t q => ?_, j.so.ix, j.so.tf, j.so.tl, j.so.od, j.so.odr, j.so.bi, j.so.dn⟩
  obtain ⟨a, b, c⟩ := j.so.sep p t q
  refine ⟨a, b, ?_⟩
  unfold CM.priv
  rw [q]
  cases t with
  | lok n f => exact .inr ⟨n, f, rfl⟩
  | _ => exact .inl rfl
theorem J.called {K : KC} {B H0 F0 : Hp} {F F' : Fz} {H H' : Hp} {σ : L2.St} {r : Env} {st' : Store} (j : J K B H0 F0 F H σ r) (g : Gro (CM.priv F H) F H F' H') (s : StOk K (CM.priv F H) F' H' st') : J K B H0 F0 F' H' σ ⟨r.sl, st'⟩ := by
  have hp := j.priv
  refine ⟨j.eb, hp.trans g.h, j.ef.trans g.f.f, g.fh, fun a o q => ?_, s.weak fun p t q w => hp.back w, j.len, fun i sl q => ?_, j.dj⟩
  · rcases g.nw a o q with z | z | z
    · exact j.nw a o z
    · exact .inr (.inl (hp.back z))
    · exact .inr (.inr z)
  · have b := j.sl i sl q
    cases sl with
    | no => trivial
    | sh d => obtain ⟨v, a, b⟩ := b; exact ⟨v, a, Vp.up g.f _ _ b⟩
    | bo c => obtain ⟨v, a, b⟩ := b; exact ⟨v, a, b.up g.f (.refl _)⟩
    | lk c => obtain ⟨v, a, b⟩ := b; exact ⟨v, a, b.up g.f (.refl _)⟩
    | ow c =>
      obtain ⟨p, a, h0, hf, ht, od⟩ := b
      obtain ⟨o, ho⟩ : ∃ o, H p = some o := by
        cases w : H p with
        | none => exact absurd w od.ne
        | some o => exact ⟨o, rfl⟩
      have pp := priv_no ht ho
      refine ⟨p, a, h0, ?_, ?_, od.up g.f fun o q => g.h _ _ (priv_no ht q)⟩
      · cases w : F'.f p with
        | none => rfl
        | some u =>
          rcases g.nw p u w with z | z | z
          · rw [hf] at z; cases z
          · rw [pp] at z; cases z
          · exact absurd (g.fh _ _ w) ((od.up (F' := F') g.f fun o q => g.h _ _ (priv_no ht q)).noT z)
      · cases w : F'.t p with
        | none => rfl
        | some u =>
          rcases (s.sep p u w).2.2 with z | ⟨n, f, z⟩
          · rw [pp] at z; cases z
          · subst z
            have := (g.f.l p n f).mpr w
            rw [ht] at this; cases this
theorem RetOk.called {K : KC} {B H0 F0 : Hp} {F F' : Fz} {H H' : Hp} {σ : L2.St} {r : Env} {z : Res} {v : V} {st' : Store} (j : J K B H0 F0 F H σ r) (h : RetOk K (CM.priv F H) F' H' v z) : ResOk K H0 F' H' σ ⟨r.sl, st'⟩ v z := by
  cases z with
  | sh x => exact h
  | fr c =>
    obtain ⟨p, a, b, d, t, e⟩ := h
    refine ⟨p, a, j.priv.back b, d, t, e, fun i e q z => ?_⟩
    obtain ⟨n1, n2⟩ := j.ownH q z
    cases w : H p with
    | none => exact n1 w
    | some o => rw [priv_no n2 w] at b; cases b
  | sl i => exact h.elim
  | fl n f => exact h.elim
theorem re_call {K : KC} {ms : List Bool} {f : DF} {E : XK} {ta : TA} (ha : RA K q1 ta fs) : RE K false (tCall (spD K ms f) [] E ta) (eCall f ms fs) := by
  intro B H0 F0 F H σ r z r' q j Q k
  simp only [eCall, Option.bind_eq_some_iff] at q
  obtain ⟨⟨zs, r1⟩, q1, ⟨cs, r2⟩, q2, ⟨w, st'⟩, q3, q4⟩ := q
  cases q4
  refine ha _ _ _ _ _ _ _ _ _ q1 j _ fun F1 H1 vs e1 j1 k1 => ?_
  obtain ⟨F2, e2, j2, d2⟩ := passes_ok q2 j1 k1
  refine ⟨F2, cs, r2.st, _, st', j2.fh, j2.stok, by rw [List.append_nil]; exact d2, q3, fun F4 H4 y' g4 s4 o4 => ?_⟩
  exact k F4 H4 y' ⟨(e1.qt e2).f.trans g4.f, (e1.qt e2).k, fun z => by cases z⟩ (j2.called g4 s4) (o4.called j2)
theorem de_call {k : Nat} {f : Addr} {fd : FuncData} {ps : List Str} {x : Str} {p : Pos} {CX : CXT} {E : XK} {ms : List Bool} {g : DF} (G : FnOk X.prog X.w X.K X.mg X.base CX k f fd ps (spD X.kc ms g)) (hr : Room k X.A) (hg : Gl X x) (hm : X.mg x = some (.ref f))
    (hk : PySem.W.keepIn X.K (.ref f) = true) (hb : Binds X.K fd ps []) (hx : Passes CX X E) (ha : DA X q1 (e :: es) fs) (hdb : (x == ("__debug__" : Str)) = false := by decide) (he : starEach (e :: es) X.env = (false, eval e X.env) :: starEach es X.env := by rfl)
    (hpl : (backTo pos (starEach es X.env)).any (·.1) = false := by rfl) : DE X false (.Call (.Name x p) (e :: es) [] pos) (eCall g ms fs) := by
  obtain ⟨t, a1, a2⟩ := ha.ex
  exact ⟨_, pe_call G hr hg hm hk hb .nil hx a1 hdb he hpl, re_call a2⟩
theorem de_call0 {k : Nat} {f : Addr} {fd : FuncData} {ps : List Str} {x : Str} {p : Pos} {CX : CXT} {E : XK} {ms : List Bool} {g : DF} (G : FnOk X.prog X.w X.K X.mg X.base CX k f fd ps (spD X.kc ms g)) (hr : Room k X.A) (hg : Gl X x) (hm : X.mg x = some (.ref f))
    (hk : PySem.W.keepIn X.K (.ref f) = true) (hb : Binds X.K fd ps []) (hx : Passes CX X E) (hdb : (x == ("__debug__" : Str)) = false := by decide) : DE X false (.Call (.Name x p) [] [] pos) (eCall g ms []) :=
  ⟨_, pe_call0 G hr hg hm hk hb .nil hx hdb, re_call (ta := tNil) (q1 := true) (fs := []) fun B H0 F0 F H σ r z r' q j Q k => by cases q; exact k F H [] .refl j .nil⟩
structure DCl (X : Cx) (f : Value) (g : List C → Option Res) : Prop where
  ex : ∃ o, CallR X f o ∧ RCl X.kc o g
theorem de_bi {x : Str} {p : Pos} {id : String} {g : List C → Option Res} (hc : DCl X (.builtin id) g) (hg : Gl X x) (hm : X.mg x = none) (hv : bootBuiltins x = some (.builtin id)) (ha : DA X q1 (e :: es) fs) (hn : x ≠ "__name__" := by decide) (hdb : (x == ("__debug__" : Str)) = false := by decide)
    (he : starEach (e :: es) X.env = (false, eval e X.env) :: starEach es X.env := by rfl) (hpl : (backTo pos (starEach es X.env)).any (·.1) = false := by rfl) : DE X q1 (.Call (.Name x p) (e :: es) [] pos) (eBi g fs) := by
  obtain ⟨t, a1, a2⟩ := ha.ex
  obtain ⟨o, c1, c2⟩ := hc.ex
  exact ⟨_, pe_callB c1 hg hm hv a1 hn hdb he hpl, re_bi c2 a2⟩
theorem de_ty {x : Str} {p : Pos} {id : String} {g : List C → Option Res} (hc : DCl X (.type id) g) (hg : Gl X x) (hm : X.mg x = none) (hv : bootBuiltins x = some (.type id)) (ha : DA X q1 (e :: es) fs) (hn : x ≠ "__name__" := by decide) (hdb : (x == ("__debug__" : Str)) = false := by decide)
    (he : starEach (e :: es) X.env = (false, eval e X.env) :: starEach es X.env := by rfl) (hpl : (backTo pos (starEach es X.env)).any (·.1) = false := by rfl) : DE X q1 (.Call (.Name x p) (e :: es) [] pos) (eBi g fs) := by
  obtain ⟨t, a1, a2⟩ := ha.ex
  obtain ⟨o, c1, c2⟩ := hc.ex
  exact ⟨_, pe_callTy c1 hg hm hv a1 hn hdb he hpl, re_bi c2 a2⟩
theorem de_bi1 {x : Str} {p : Pos} {id : String} {g : List C → Option Res} (hc : DCl X (.builtin id) g) (hg : Gl X x) (hm : X.mg x = none) (hv : bootBuiltins x = some (.builtin id)) (ha : DE X q1 e fa) (hn : x ≠ "__name__" := by decide) (hdb : (x == ("__debug__" : Str)) = false := by decide)
    (he : starEach [e] X.env = (false, eval e X.env) :: starEach [] X.env := by rfl) (hpl : (backTo pos (starEach [] X.env)).any (·.1) = false := by rfl) : DE X q1 (.Call (.Name x p) [e] [] pos) (eUn (fun c => g [c]) fa) := by
  obtain ⟨t, a1, a2⟩ := ha.ex
  obtain ⟨o, c1, c2⟩ := hc.ex
  exact ⟨_, pe_callB c1 hg hm hv (pa_cons a1 pa_nil he) hn hdb he hpl, re_bi1 c2 a2⟩
theorem de_ty1 {x : Str} {p : Pos} {id : String} {g : List C → Option Res} (hc : DCl X (.type id) g) (hg : Gl X x) (hm : X.mg x = none) (hv : bootBuiltins x = some (.type id)) (ha : DE X q1 e fa) (hn : x ≠ "__name__" := by decide) (hdb : (x == ("__debug__" : Str)) = false := by decide)
    (he : starEach [e] X.env = (false, eval e X.env) :: starEach [] X.env := by rfl) (hpl : (backTo pos (starEach [] X.env)).any (·.1) = false := by rfl) : DE X q1 (.Call (.Name x p) [e] [] pos) (eUn (fun c => g [c]) fa) := by
  obtain ⟨t, a1, a2⟩ := ha.ex
  obtain ⟨o, c1, c2⟩ := hc.ex
  exact ⟨_, pe_callTy c1 hg hm hv (pa_cons a1 pa_nil he) hn hdb he hpl, re_bi1 c2 a2⟩
/-- a[b] -/
structure DIx (X : Cx) (g : C → C → Option Res) : Prop where
  ex : ∃ o, IxR X o ∧ ROp X.kc o g
theorem de_ix {g : C → C → Option Res} (ho : DIx X g) (ha : DE X q1 a fa) (hb : DE X q2 b fb) (hs : PlainIx b := by exact fun _ _ => rfl) : DE X (q1 && q2) (.Subscript a b pos) (eOp g fa fb) := by
  obtain ⟨o, h1, h2⟩ := ho.ex
  obtain ⟨ta, a1, a2⟩ := ha.ex
  obtain ⟨tb, b1, b2⟩ := hb.ex
  exact ⟨_, pe_ix h1 a1 b1 hs, re_op h2 a2 b2⟩
theorem de_ixF {g : C → C → Option Res} (ho : DIx X g) (ha : DE X q1 a fa) (hb : DE X true b fb) (hs : PlainIx b := by exact fun _ _ => rfl) : DE X q1 (.Subscript a b pos) (eOpF g fa fb) := by
  obtain ⟨o, h1, h2⟩ := ho.ex
  obtain ⟨ta, a1, a2⟩ := ha.ex
  obtain ⟨tb, b1, b2⟩ := hb.ex
  exact ⟨_, pe_ix h1 a1 b1 hs, re_opF h2 a2 b2⟩
end

/-! ### statements -/
def Kp (r : Env) (σ : L2.St) (r' : Env) (σ' : L2.St) : Prop := ∀ (i : Nat) (s : Slot), Lent s → r'.sl[i]? = some s → r.sl[i]? = some s ∧ σ'[i]? = σ[i]?
theorem Kp.refl {r : Env} {σ : L2.St} : Kp r σ r σ := fun _ _ _ h => ⟨h, rfl⟩
theorem Kp.trans {r r1 r2 : Env} {σ σ1 σ2 : L2.St} (a : Kp r σ r1 σ1) (b : Kp r1 σ1 r2 σ2) : Kp r σ r2 σ2 := fun i c l h => by
  obtain ⟨h1, h2⟩ := b i c l h
  obtain ⟨h3, h4⟩ := a i c l h1
  exact ⟨h3, h2.trans h4⟩
theorem Ge.kp {b : Bool} {F F' : Fz} {H H' : Hp} {r r' : Env} {σ : L2.St} (g : Ge b F H r F' H' r') : Kp r σ r' σ := fun i c l h => ⟨g.k i c l h, rfl⟩
def After (K : KC) (B H0 F0 : Hp) (F : Fz) (D : Ends) (r0 : Env) (σ0 : L2.St) (r : Env) : Flow → Prop
  | .nx => ∀ F' H' σ', FEx F F' → Kp r0 σ0 r σ' → J K B H0 F0 F' H' σ' r → D.nx σ' H'
  | .bk => ∀ F' H' σ', FEx F F' → Kp r0 σ0 r σ' → J K B H0 F0 F' H' σ' r → D.bk σ' H'
  | .ct => ∀ F' H' σ', FEx F F' → Kp r0 σ0 r σ' → J K B H0 F0 F' H' σ' r → D.ct σ' H'
  | .rt z => ∀ F' H' σ' v, FEx F F' → Kp r0 σ0 r σ' → J K B H0 F0 F' H' σ' r → RetOk K H0 F' H' v z → D.rt v H'
theorem After.later {K : KC} {B H0 F0 : Hp} {F F1 : Fz} {D : Ends} {r0 r1 r : Env} {σ0 σ1 : L2.St} {f : Flow} (h : After K B H0 F0 F D r0 σ0 r f) (e : FEx F F1) (k : Kp r0 σ0 r1 σ1) : After K B H0 F0 F1 D r1 σ1 r f := by
  cases f with
  | nx => exact fun F' H' σ' e' k' j => h F' H' σ' (e.trans e') (k.trans k') j
  | bk => exact fun F' H' σ' e' k' j => h F' H' σ' (e.trans e') (k.trans k') j
  | ct => exact fun F' H' σ' e' k' j => h F' H' σ' (e.trans e') (k.trans k') j
  | rt z => exact fun F' H' σ' v e' k' j o => h F' H' σ' v (e.trans e') (k.trans k') j o
def RS (K : KC) (t : TS) (f : SF) : Prop := ∀ (B H0 F0 : Hp) (F : Fz) (H : Hp) (σ : L2.St) (r : Env) (fl : Flow) (r' : Env), f r = some (fl, r') → J K B H0 F0 F H σ r → ∀ D : Ends, After K B H0 F0 F D r σ r' fl → t D σ H
structure DS (X : Cx) (st : Stmt) (f : SF) : Prop where
  ex : ∃ t, PS X st t ∧ RS X.kc t f
structure DSs (X : Cx) (st : List Stmt) (f : SF) : Prop where
  ex : ∃ t, PSs X st t ∧ RS X.kc t f
section
variable {X : Cx} {e : Expr} {fa : EF} {st : Stmt} {rest : List Stmt} {f g : SF} {pos : Pos} {q1 : Bool}
theorem rs_next {K : KC} : RS K tNext sNext := fun B H0 F0 F H σ r fl r' q j D a => by
  cases q
  exact a F H σ (.refl _) .refl j
theorem dss_nil : DSs X [] sNext := ⟨_, pss_nil, rs_next⟩
theorem rs_seq {K : KC} {t u : TS} (h1 : RS K t f) (h2 : RS K u g) : RS K (tSeq t u) (sSeq f g) := fun B H0 F0 F H σ r fl r' q j D a => by
  simp only [sSeq, Option.bind_eq_some_iff] at q
  obtain ⟨⟨fl1, r1⟩, q1, q2⟩ := q
  refine h1 _ _ _ _ _ _ _ _ _ q1 j { D with nx := u D } ?_
  cases fl1 with
  | nx => exact fun F' H' σ' e' k' j' => h2 _ _ _ _ _ _ _ _ _ q2 j' D (a.later e' k')
  | bk => cases q2; exact a
  | ct => cases q2; exact a
  | rt z => cases q2; exact a
theorem dss_cons (h1 : DS X st f) (h2 : DSs X rest g) : DSs X (st :: rest) (sSeq f g) := by
  obtain ⟨t, a1, a2⟩ := h1.ex
  obtain ⟨u, b1, b2⟩ := h2.ex
  exact ⟨_, pss_cons a1 b1, rs_seq a2 b2⟩
theorem dss_one (h1 : DS X st f) : DSs X [st] f := by
  obtain ⟨t, a1, a2⟩ := h1.ex
  exact ⟨_, pss_one a1, a2⟩
theorem ds_pass : DS X (.Pass pos) sNext := ⟨_, ps_pass, rs_next⟩
theorem ds_doc {x j pos pos'} : DS X (.Expr (.Constant (.str x) j pos) pos') sNext := ⟨_, ps_doc, rs_next⟩
theorem ds_break : DS X (.Break pos) sBreak := ⟨_, ps_break, fun B H0 F0 F H σ r fl r' q j D a => by
  cases q
  exact a F H σ (.refl _) .refl j⟩
theorem ds_continue : DS X (.Continue pos) sCont := ⟨_, ps_continue, fun B H0 F0 F H σ r fl r' q j D a => by
  cases q
  exact a F H σ (.refl _) .refl j⟩
theorem ds_expr (he : DE X q1 e fa) (hs : swapsWith e none pos.line X.env = pure false := by rfl) : DS X (.Expr e pos) (sDrop fa) := by
  obtain ⟨t, a1, a2⟩ := he.ex
  refine ⟨_, ps_expr a1 hs, fun B H0 F0 F H σ r fl r' q j D a => ?_⟩
  simp only [sDrop, Option.bind_eq_some_iff] at q
  obtain ⟨⟨z, r1⟩, q1, q2⟩ := q
  cases q2
  exact a2 _ _ _ _ _ _ _ _ _ q1 j _ fun F1 H1 v e1 j1 _ => a F1 H1 σ e1.f e1.kp j1
theorem give_ok {K : KC} {B H0 F0 : Hp} {F : Fz} {H : Hp} {σ : L2.St} {r : Env} {v : V} {z z' : Res} (q : give r z = some z') (j : J K B H0 F0 F H σ r) (h : ResOk K H0 F H σ r v z) : RetOk K H0 F H v z' := by
  cases z with
  | sh x => cases q; exact h
  | fr c =>
    cases q
    obtain ⟨p, rfl, a, b, t, c, _⟩ := h
    exact ⟨p, rfl, a, b, t, c⟩
  | fl n f =>
    have h : FldV F H n f v := h
    unfold give at q
    dsimp only at q
    split at q
    · rename_i y e
      cases q
      exact j.so.fieldV h e
    · cases q
  | sl i =>
    have h : σ[i]? = some (some v) := h
    unfold give at q
    dsimp only at q
    split at q
    · rename_i y e
      cases q
      obtain ⟨v', a, b⟩ := j.sl i _ e
      rw [h] at a; cases a
      exact b
    · rename_i y e
      cases q
      obtain ⟨p, a, h0, hf, t, o⟩ := j.sl i _ e
      rw [h] at a; cases a
      exact ⟨p, rfl, h0, hf, t, o⟩
    · cases q
theorem ds_ret (he : DE X q1 e fa) : DS X (.Return (some e) pos) (sRet fa) := by
  obtain ⟨t, a1, a2⟩ := he.ex
  refine ⟨_, ps_ret a1, fun B H0 F0 F H σ r fl r' q j D a => ?_⟩
  simp only [sRet, Option.bind_eq_some_iff] at q
  obtain ⟨⟨z, r1⟩, q1, z', q2, q3⟩ := q
  cases q3
  exact a2 _ _ _ _ _ _ _ _ _ q1 j _ fun F1 H1 v e1 j1 k1 => a F1 H1 σ v e1.f e1.kp j1 (give_ok q2 j1 k1)
theorem ds_retN : DS X (.Return none pos) sRetN := ⟨_, ps_retN, fun B H0 F0 F H σ r fl r' q j D a => by
  cases q
  exact a F H σ .non (.refl _) .refl j .non⟩
theorem ds_if {c : Expr} {as bs : List Stmt} {t : TF} (hc : DT X c t) (ha : DSs X as f) (hb : DSs X bs g) : DS X (.If c as bs pos) (sIf t f g) := by
  obtain ⟨tc, c1, c2⟩ := hc.ex
  obtain ⟨ta, a1, a2⟩ := ha.ex
  obtain ⟨tb, b1, b2⟩ := hb.ex
  refine ⟨_, ps_if c1 a1 b1, fun B H0 F0 F H σ r fl r' q j D a => ?_⟩
  simp only [sIf, Option.bind_eq_some_iff] at q
  obtain ⟨⟨b, r1⟩, q1, q2⟩ := q
  refine c2 _ _ _ _ _ _ _ _ _ q1 j _ fun F1 H1 e1 j1 => ?_
  cases b with
  | true =>
    rw [if_pos rfl] at q2 ⊢
    exact a2 _ _ _ _ _ _ _ _ _ q2 j1 D (a.later e1.f e1.kp)
  | false =>
    rw [if_neg Bool.false_ne_true] at q2 ⊢
    exact b2 _ _ _ _ _ _ _ _ _ q2 j1 D (a.later e1.f e1.kp)
end
end CM
end
section
set_option Elab.async false
set_option linter.all false
set_option maxRecDepth 100000
set_option autoImplicit false
namespace CM
open PySem PySem.Spec PyProof.Rows L2
/-! ### storing in slots -/
section
variable {K : KC} {F F' F1 : Fz} {H H' H1 B H0 F0 : Hp} {σ : L2.St} {r r' : Env} {v : V} {c : C} {x : D} {p : Addr} {s : Slot}
theorem J.set (j : J K B H0 F0 F H σ r) (i : Nat) (h : SlotOk K B H0 F H (some (some v)) s) (hn : ∀ c, s = .ow c → ∀ (k : Nat) (e : C), k ≠ i → r.sl[k]? = some (.ow e) → σ[k]? ≠ some (some v)) : J K B H0 F0 F H (σ.set i (some v)) (r.put i s) := by
  refine ⟨j.eb, j.e0, j.ef, j.fh, j.nw, j.so, by rw [List.length_set, put_len]; exact j.len, fun k t q => ?_, fun k l c e p h1 h2 h3 h4 => ?_⟩
  · rcases put_at q with ⟨rfl, rfl, hl⟩ | ⟨z, q⟩
    · rw [List.getElem?_set_self (by rw [j.len]; exact hl)]
      exact h
    · rw [List.getElem?_set_ne z]; exact j.sl k t q
  · have gi : ∀ {c : C} {p : Addr}, (r.put i s).sl[i]? = some (.ow c) → (σ.set i (some v))[i]? = some (some (.ref p)) → s = .ow c ∧ v = .ref p := fun {c p} q q' => by
      rcases put_at q with ⟨_, w, hl⟩ | ⟨z, _⟩
      · rw [List.getElem?_set_self (by rw [j.len]; exact hl)] at q'
        exact ⟨w.symm, Option.some.inj (Option.some.inj q')⟩
      · exact absurd rfl z
    have go : ∀ {k : Nat} {c : C}, i ≠ k → (r.put i s).sl[k]? = some (.ow c) → r.sl[k]? = some (.ow c) := fun {k c} z q => by
      rcases put_at q with ⟨w, _, _⟩ | ⟨_, q⟩
      · exact absurd w z
      · exact q
    by_cases zk : i = k
    · subst zk
      by_cases zl : i = l
      · exact zl
      · have h2 := go zl h2
        rw [List.getElem?_set_ne zl] at h4
        obtain ⟨a, b⟩ := gi h1 h3
        subst b
        exact absurd h4 (hn c a l e (fun w => zl w.symm) h2)
    · have h1 := go zk h1
      rw [List.getElem?_set_ne zk] at h3
      by_cases zl : i = l
      · subst zl
        obtain ⟨a, b⟩ := gi h2 h4
        subst b
        exact absurd h3 (hn e a k c (fun w => zk w.symm) h1)
      · have h2 := go zl h2
        rw [List.getElem?_set_ne zl] at h4
        exact j.dj k l c e p h1 h2 h3 h4
theorem J.setSh (j : J K B H0 F0 F H σ r) (i : Nat) (h : Vp K F v x) : J K B H0 F0 F H (σ.set i (some v)) (r.put i (.sh x)) := j.set i ⟨v, rfl, h⟩ (fun c z => by cases z)
theorem Kp.set {i : Nat} {w : Option V} (h : ¬ Lent s) : Kp r σ (r.put i s) (σ.set i w) := fun k t l q => by
  rcases put_at q with ⟨_, e, _⟩ | ⟨z, q⟩
  · subst e; exact absurd l h
  · exact ⟨q, List.getElem?_set_ne z⟩
theorem Kp.put {i : Nat} (h : ¬ Lent s) : Kp r σ (r.put i s) σ := fun k t l q => by
  rcases put_at q with ⟨_, e, _⟩ | ⟨z, q⟩
  · subst e; exact absurd l h
  · exact ⟨q, rfl⟩
theorem keep_ok {z : Res} {i : Nat} (q : keep i r z = some r') (j : J K B H0 F0 F H σ r) (h : ResOk K H0 F H σ r v z) : ∃ F', FEx F F' ∧ Kp r σ r' (σ.set i (some v)) ∧ J K B H0 F0 F' H (σ.set i (some v)) r' := by
  cases z with
  | sh y => cases q; exact ⟨F, .refl _, .set id, j.setSh i h⟩
  | fr c =>
    cases q
    obtain ⟨p, rfl, h0, hf, ht, o, hn⟩ := h
    exact ⟨F, .refl _, .set id, j.set i ⟨p, rfl, h0, hf, ht, o⟩ fun c z k e _ q => hn k e q⟩
  | fl n f =>
    have h : FldV F H n f v := h
    unfold keep at q
    dsimp only at q
    split at q
    · rename_i y e
      cases q
      have k : Vp K F v y := j.so.fieldV h e
      exact ⟨F, .refl _, .set id, j.setSh i k⟩
    · cases q
  | sl k =>
    have h : σ[k]? = some (some v) := h
    unfold keep at q
    dsimp only at q
    split at q
    · rename_i y e
      cases q
      obtain ⟨v', a, b⟩ := j.sl k _ e
      rw [h] at a; cases a
      exact ⟨F, .refl _, .set id, j.setSh i b⟩
    · rename_i y e
      cases q
      obtain ⟨F', e', j', d⟩ := toSh_ok (z := .sl k) (x := y) (r' := r.put k (.sh y)) (by unfold toSh; dsimp only; rw [e]) j h
      exact ⟨F', e'.f, Kp.trans (.put id) (.set id), j'.setSh i d⟩
    · cases q
end
section
variable {X : Cx} {e : Expr} {fa : EF} {pos : Pos} {q1 : Bool}
theorem rs_set {K : KC} {t : TE} {i : Nat} (h : RE K q1 t fa) : RS K (tAsg t (gName i)) (sSet i fa) := fun B H0 F0 F H σ r fl r' q j D a => by
  simp only [sSet, Option.bind_eq_some_iff] at q
  obtain ⟨⟨z, r1⟩, q1, r2, q2, q3⟩ := q
  cases q3
  refine h _ _ _ _ _ _ _ _ _ q1 j _ fun F1 H1 v e1 j1 k1 => ?_
  obtain ⟨F2, e2, kp, j2⟩ := keep_ok q2 j1 k1
  exact a F2 H1 _ (e1.f.trans e2) (e1.kp.trans kp) j2
theorem ds_set {i : Nat} {x : Str} {pos' : Pos} (hN : X.N.Nodup) (hi : X.N[i]? = some x) (hx : Loc X.env.scope x) (he : DE X q1 e fa) (hs : swapsWith e (some (.Name x pos')) pos.line X.env = pure false := by rfl)
    (hf : X.fn x = true ∨ X.env.scope.names.lookup x = some .local := by first | exact .inl rfl | exact .inr rfl | assumption) : DS X (.Assign [.Name x pos'] e pos) (sSet i fa) := by
  obtain ⟨t, a1, a2⟩ := he.ex
  exact ⟨_, ps_set hN hi hx a1 hs hf, rs_set a2⟩

/-! ### targets -/
def ptSlots : Pat → List Nat
  | .v i => [i]
  | .t is => is
theorem wipe_set {σ : L2.St} {i : Nat} {y : Option V} : ∀ {vs : List Nat}, i ∈ vs → wipe (σ.set i y) vs = wipe σ vs
  | [], h => by cases h
  | v :: vs, h => by
    unfold wipe
    by_cases hv : i ∈ vs
    · rw [wipe_set hv]
    · have e : i = v := by
        rcases List.mem_cons.mp h with z | z
        · exact z
        · exact absurd z hv
      subst e
      have g : ∀ (ws : List Nat) (σ : L2.St), i ∉ ws → wipe (σ.set i y) ws = (wipe σ ws).set i y := fun ws => by
        induction ws with
        | nil => intro σ _; rfl
        | cons w ws ih =>
          intro σ hw
          unfold wipe
          rw [ih σ (fun z => hw (List.mem_cons_of_mem _ z))]
          exact List.set_comm _ _ (fun z => hw (by rw [z]; exact List.mem_cons_self))
      rw [g vs σ hv, List.set_set]
def RG (K : KC) (g : TG) (q : Pat) : Prop := ∀ (B H0 F0 : Hp) (F : Fz) (H : Hp) (σ : L2.St) (r r' : Env) (v : V) (x : D), bindP q x r = some r' → J K B H0 F0 F H σ r → Vp K F v x →
  ∀ Q : L2.St → Hp → Prop, (∀ σ', J K B H0 F0 F H σ' r' → Kp r σ r' σ' → r'.st = r.st → (∀ vs : List Nat, (∀ i ∈ ptSlots q, i ∈ vs) → wipe σ' vs = wipe σ vs) → Q σ' H) → g v σ H Q
structure DG (X : Cx) (tg : Expr) (q : Pat) : Prop where
  ex : ∃ g, PG X tg g ∧ RG X.kc g q
theorem dg_name {i : Nat} {x : Str} (hN : X.N.Nodup) (hi : X.N[i]? = some x) (hx : Loc X.env.scope x) (hf : X.fn x = true ∨ X.env.scope.names.lookup x = some .local := by first | exact .inl rfl | exact .inr rfl | assumption) : DG X (.Name x pos) (.v i) :=
  ⟨_, pg_name hN hi hx hf, fun B H0 F0 F H σ r r' v x q j d Q k => by
    cases q
    exact k _ (j.setSh i d) (.set id) rfl fun vs h => wipe_set (h i (List.mem_cons_self))⟩
def RGs (K : KC) (g : TGs) (is : List Nat) : Prop := ∀ (B H0 F0 : Hp) (F : Fz) (H : Hp) (σ : L2.St) (r r' : Env) (vs : List V) (xs : List D), setAll is xs r = some r' → J K B H0 F0 F H σ r → VpAll K F vs xs →
  ∀ Q : L2.St → Hp → Prop, (∀ σ', J K B H0 F0 F H σ' r' → Kp r σ r' σ' → r'.st = r.st → (∀ vs : List Nat, (∀ i ∈ is, i ∈ vs) → wipe σ' vs = wipe σ vs) → Q σ' H) → g vs σ H Q
structure DGs (X : Cx) (ts : List Expr) (is : List Nat) : Prop where
  ex : ∃ g, PGs X ts g ∧ RGs X.kc g is
theorem dgs_nil : DGs X [] [] := ⟨_, pgs_nil, fun B H0 F0 F H σ r r' vs xs q j d Q k => by
  cases xs with
  | nil =>
    cases d
    cases q
    exact ⟨rfl, k _ j .refl rfl fun _ _ => rfl⟩
  | cons _ _ => cases q⟩
theorem dgs_cons {i : Nat} {x : Str} {ts : List Expr} {is : List Nat} (hN : X.N.Nodup) (hi : X.N[i]? = some x) (hx : Loc X.env.scope x) (h : DGs X ts is) (hf : X.fn x = true ∨ X.env.scope.names.lookup x = some .local := by first | exact .inl rfl | exact .inr rfl | assumption) :
    DGs X (.Name x pos :: ts) (i :: is) := by
  obtain ⟨g, a1, a2⟩ := h.ex
  refine ⟨_, pgs_cons (pg_name hN hi hx hf) a1, fun B H0 F0 F H σ r r' vs xs q j d Q k => ?_⟩
  cases xs with
  | nil => cases q
  | cons y ys =>
    cases d with
    | cons d1 d2 =>
      refine ⟨_, _, rfl, a2 _ _ _ _ _ _ _ _ _ _ q (j.setSh i d1) d2 _ fun σ' j' kp es w => k σ' j' (Kp.trans (.set id) kp) es fun vs h => ?_⟩
      rw [w vs fun l hl => h l (List.mem_cons_of_mem _ hl), wipe_set (h i List.mem_cons_self)]
theorem setAll_len : ∀ {is : List Nat} {xs : List D} {r r' : Env}, setAll is xs r = some r' → xs.length = is.length
  | [], [], _, _, _ => rfl
  | [], _ :: _, _, _, q => by cases q
  | _ :: _, [], _, _, q => by cases q
  | i :: is, x :: xs, _, _, q => by
    have h := setAll_len (is := is) (xs := xs) q
    simp [h]
theorem dg_tup {es : List Expr} {is : List Nat} {k : Nat} (hc : X.calm = true) (h : DGs X es is) (hn : (assignEach es X.env).length = is.length := by rfl) (hst : (assignEach es X.env).findIdx? (·.1) = none := by rfl) :
    DG X (.Tuple es k pos) (.t is) := by
  obtain ⟨g, a1, a2⟩ := h.ex
  refine ⟨_, pg_tup hc a1 hn hst, fun B H0 F0 F H σ r r' v x q j d Q k => ?_⟩
  cases x with
  | tuple xs =>
    cases d with
    | tup hs ha =>
      exact ⟨_, _, rfl, j.fh.t hs.sq, (VpAll.length ha).trans (setAll_len q), a2 _ _ _ _ _ _ _ _ _ _ q j ha Q k⟩
  | _ => cases q
theorem ds_bind {tg : Expr} {p : Pat} (hg : DG X tg p) (he : DE X q1 e fa) (hs : swapsWithSole [tg] e pos.line X.env = pure false := by rfl) (hw : swappedStores [tg] e X.env = pure none := by rfl) (h1 : List.map (fun x => x.snd) (assignEach [tg] X.env) = [assign tg X.env] := by rfl) : DS X (.Assign [tg] e pos) (sBind p fa) := by
  obtain ⟨t, a1, a2⟩ := he.ex
  obtain ⟨g, b1, b2⟩ := hg.ex
  refine ⟨_, ps_asg a1 b1 hs hw h1, fun B H0 F0 F H σ r fl r' q j D a => ?_⟩
  simp only [sBind, Option.bind_eq_some_iff] at q
  obtain ⟨⟨z, r1⟩, q1, ⟨x, r2⟩, q2, r3, q3, q4⟩ := q
  cases q4
  refine a2 _ _ _ _ _ _ _ _ _ q1 j _ fun F1 H1 v e1 j1 k1 => ?_
  obtain ⟨F2, e2, j2, d2⟩ := toSh_ok q2 j1 k1
  exact b2 _ _ _ _ _ _ _ _ _ _ q3 j2 d2 _ fun σ' j' kp _ _ => a F2 H1 σ' (e1.f.trans e2.f) ((e1.kp.trans e2.kp).trans kp) j'
end
/-! ### what is walked -/
def ItOk (K : KC) (T : It) (G : Hp) (F : Fz) (ds : List D) : Prop := ∀ (i : Nat) (F1 : Fz) (H1 : Hp), FEx F F1 → Ex F1.f H1 → Ex G H1 →
  (i < ds.length → T.go i H1 ∧ ∀ x H2, T.yld i H1 x H2 → ∃ F2, Grow F1 H1 F2 H2 ∧ ∃ d, ds[i]? = some d ∧ Vp K F2 x d) ∧ (ds.length ≤ i → T.stop i H1)
structure LkOk (K : KC) (l : Lk) (B H0 F0 : Hp) (F : Fz) (H : Hp) (σ : L2.St) (r : Env) (B' H0' : Hp) (FL : Fz) : Prop where
  j : J K B' H0' F0 FL H σ (lock l r)
  un : ∀ F2 H2 σ2 r2, FEx FL F2 → Kp (lock l r) σ r2 σ2 → J K B' H0' F0 F2 H2 σ2 r2 → ∃ F3, FEx F F3 ∧ FEi F2 F3 ∧ F3.f = F2.f ∧ Kp r σ (unlock l r2) σ2 ∧ J K B H0 F0 F3 H2 σ2 (unlock l r2) ∧ (∀ p, H0' p = none → H0 p = none ∧ (F2.t p = none → F3.t p = none)) ∧
    ∀ (i : Nat) (e : C) (p : Addr), (unlock l r2).sl[i]? = some (.ow e) → σ2[i]? = some (some (.ref p)) → r2.sl[i]? = some (.ow e) ∨ H0' p ≠ none
section
variable {K : KC} {F F' F1 : Fz} {H H' H1 B H0 F0 : Hp} {σ : L2.St} {r r' : Env} {v : V} {c : C} {x : D} {p : Addr} {s : Slot} {ds : List D}
theorem LkOk.no (j : J K B H0 F0 F H σ r) : LkOk K .no B H0 F0 F H σ r B H0 F := ⟨j, fun F2 H2 σ2 r2 e k j2 => ⟨F2, e, .refl _, rfl, k, j2, fun p h => ⟨h, id⟩, fun _ _ _ h _ => .inl h⟩⟩
theorem LkOk.slot {i : Nat} {c : C} (j : J K B H0 F0 F H σ r) (hi : r.sl[i]? = some (.ow c)) : ∃ p o, σ[i]? = some (some (.ref p)) ∧ H p = some o ∧ Od K F H p c ∧ LkOk K (.sl i) B H0 F0 F H σ r (upd B p o) (upd H0 p o) F := by
  obtain ⟨p, hp, h0, hf, ht, od⟩ := j.sl i _ hi
  obtain ⟨o, ho⟩ : ∃ o, H p = some o := by
    cases w : H p with
    | none => exact absurd w od.ne
    | some o => exact ⟨o, rfl⟩
  have hb : B p = none := j.eb.back h0
  have f0 : F0 p = none := j.ef.back hf
  have hl : lock (.sl i) r = r.put i (.lk c) := by show (match r.sl[i]? with | some (.ow c) => r.put i (.lk c) | _ => r) = _; rw [hi]
  have e00 : Ex (upd H0 p o) H := fun a u q => by
    by_cases z : a = p
    · subst z; rw [upd_same] at q; rw [ho]; exact q
    · rw [upd_ne z] at q; exact j.e0 a u q
  refine ⟨p, o, hp, ho, od, ?_, fun F2 H2 σ2 r2 e k j2 => ?_⟩
  · rw [hl]
    refine ⟨j.eb.up2 h0, e00, j.ef, j.fh, fun a u q => ?_, j.so.weak fun a t q w => ?_, by rw [put_len]; exact j.len, fun k s q => ?_, fun k l c1 c2 p' q1 q2 q3 q4 => ?_⟩
    · rcases j.nw a u q with z | z | z
      · exact .inl z
      · exact .inr (.inl (by rw [upd_ne fun w => by subst w; rw [hf] at q; cases q]; exact z))
      · exact .inr (.inr z)
    · rw [upd_ne fun w => by subst w; rw [ht] at q; cases q]; exact w
    · rcases put_at q with ⟨rfl, rfl, _⟩ | ⟨z, q⟩
      · refine ⟨.ref p, hp, od.bd.priv fun p' o' e' w => ?_⟩
        cases e'
        rw [ho] at w; cases w
        exact upd_same
      · have b := j.sl k s q
        cases s with
        | no => trivial
        | sh d => exact b
        | bo c1 => obtain ⟨v, a, b⟩ := b; exact ⟨v, a, b.up (FEi.refl _) (.new hb)⟩
        | lk c1 => obtain ⟨v, a, b⟩ := b; exact ⟨v, a, b.up (FEi.refl _) (.new hb)⟩
        | ow c1 =>
          obtain ⟨p', a, b1, b2, b3, b4⟩ := b
          refine ⟨p', a, ?_, b2, b3, b4⟩
          rw [upd_ne fun w => ?_]
          · exact b1
          · subst w; exact z (j.dj i k c c1 p' hi q hp a)
    · have g : ∀ {k : Nat} {c1 : C}, (r.put i (.lk c)).sl[k]? = some (.ow c1) → r.sl[k]? = some (.ow c1) := fun {k c1} q => by
        rcases put_at q with ⟨_, w, _⟩ | ⟨_, q⟩
        · cases w
        · exact q
      exact j.dj k l c1 c2 p' (g q1) (g q2) q3 q4
  · rw [hl] at k
    have e2 : H2 p = some o := j2.e0 _ _ upd_same
    have back : ∀ a, upd H0 p o a = none → H0 a = none ∧ a ≠ p := fun a q => by
      have z : a ≠ p := fun z => by subst z; rw [upd_same] at q; cases q
      rw [upd_ne z] at q
      exact ⟨q, z⟩
    have lent : ∀ (m : Nat) (s : Slot), Lent s → m ≠ i → r2.sl[m]? = some s → r.sl[m]? = some s ∧ σ2[m]? = σ[m]? := fun m s l hm q => by
      obtain ⟨w1, w2⟩ := k m s l q
      rcases put_at w1 with ⟨z, _, _⟩ | ⟨_, w1⟩
      · exact absurd z.symm hm
      · exact ⟨w1, w2⟩
    have slots : ∀ (m : Nat) (s : Slot), m ≠ i ∨ ¬ Lent s → r2.sl[m]? = some s → SlotOk K B H0 F2 H2 (σ2[m]?) s := fun m s hm q => by
      have b := j2.sl m s q
      cases s with
      | no => trivial
      | sh d => exact b
      | bo c1 =>
        obtain ⟨w1, w2⟩ := lent m (.bo c1) trivial (hm.elim id fun w => absurd trivial w) q
        obtain ⟨v, a, b⟩ := j.sl m _ w1
        exact ⟨v, by rw [w2]; exact a, b.up (e : FEi F F2) (.refl _)⟩
      | lk c1 =>
        obtain ⟨w1, w2⟩ := lent m (.lk c1) trivial (hm.elim id fun w => absurd trivial w) q
        obtain ⟨v, a, b⟩ := j.sl m _ w1
        exact ⟨v, by rw [w2]; exact a, b.up (e : FEi F F2) (.refl _)⟩
      | ow c1 =>
        obtain ⟨p', a, b1, b2, b3, b4⟩ := b
        exact ⟨p', a, (back _ b1).1, b2, b3, b4⟩
    have nw2 : ∀ a u, F2.f a = some u → F0 a = some u ∨ H0 a = none ∨ TupO u := fun a u q => (j2.nw a u q).imp id fun w => w.imp (fun w => (back a w).1) id
    have so2 : StOk K H0 F2 H2 r2.st := j2.so.weak fun a t q w => (back a w).1
    have tail : ∀ q, upd H0 p o q = none → H0 q = none ∧ (F2.t q = none → F2.t q = none) := fun q w => ⟨(back q w).1, id⟩
    cases hs : r2.sl[i]? with
    | none =>
      have hu : unlock (.sl i) r2 = r2 := by show (match r2.sl[i]? with | some (.lk c) => r2.put i (.ow c) | _ => r2) = _; rw [hs]
      refine ⟨F2, e, .refl _, rfl, ?_, ?_, tail, fun _ _ _ h _ => .inl (by rw [hu] at h; exact h)⟩
      · rw [hu]
        exact fun m s l q => lent m s l (fun z => by subst z; rw [hs] at q; cases q) q
      · rw [hu]
        exact ⟨j.eb, (Ex.new h0).trans j2.e0, j2.ef, j2.fh, nw2, so2, j2.len, fun m s q => slots m s (.inl fun z => by subst z; rw [hs] at q; cases q) q, j2.dj⟩
    | some s0 =>
      by_cases hlk : ∃ c', s0 = .lk c'
      · obtain ⟨c', rfl⟩ := hlk
        obtain ⟨w1, w2⟩ := k i (.lk c') trivial hs
        have hc : c' = c := by
          rcases put_at w1 with ⟨_, z, _⟩ | ⟨z, _⟩
          · cases z; rfl
          · exact absurd rfl z
        subst hc
        have hu : unlock (.sl i) r2 = r2.put i (.ow c') := by show (match r2.sl[i]? with | some (.lk c) => r2.put i (.ow c) | _ => r2) = _; rw [hs]
        have hf2 : F2.f p = none := by
          cases w : F2.f p with
          | none => rfl
          | some u =>
            rcases j2.nw p u w with z | z | z
            · rw [f0] at z; cases z
            · rw [upd_same] at z; cases z
            · have h1 := j2.e0 _ _ (upd_same (H := H0) (a := p) (o := o))
              rw [j2.fh _ _ w] at h1
              cases h1
              exact absurd ho (od.noT z)
        have ht2 : F2.t p = none := by
          cases w : F2.t p with
          | none => rfl
          | some u =>
            rcases (j2.so.sep p u w).2.2 with z | ⟨n, f, z⟩
            · rw [upd_same] at z; cases z
            · subst z
              have := (e.l p n f).mpr w
              rw [ht] at this; cases this
        refine ⟨F2, e, .refl _, rfl, ?_, ?_, tail, fun m c1 p' h h' => ?_⟩
        rotate_left 2
        · rw [hu] at h
          rcases put_at h with ⟨z, _, _⟩ | ⟨_, h⟩
          · subst z
            rw [w2, hp] at h'; cases h'
            exact .inr (by rw [upd_same]; exact fun z => by cases z)
          · exact .inl h
        · rw [hu]
          intro m s l q
          rcases put_at q with ⟨_, z, _⟩ | ⟨z, q⟩
          · subst z; exact l.elim
          · exact lent m s l (fun w => z w.symm) q
        · rw [hu]
          refine ⟨j.eb, (Ex.new h0).trans j2.e0, j2.ef, j2.fh, nw2, so2, by rw [put_len]; exact j2.len, fun m s q => ?_, fun m l c1 c2 p' q1 q2 q3 q4 => ?_⟩
          · rcases put_at q with ⟨rfl, rfl, _⟩ | ⟨z, q⟩
            · exact ⟨p, by rw [w2]; exact hp, h0, hf2, ht2, od.up (e : FEi F F2) fun u q => by rw [ho] at q; rw [e2]; exact q⟩
            · exact slots m s (.inl fun w => z w.symm) q
          · have own : ∀ {m : Nat} {c1 : C}, m ≠ i → (r2.put i (.ow c')).sl[m]? = some (.ow c1) → σ2[m]? = some (some (.ref p)) → False := fun {m c1} hm q q3 => by
              rcases put_at q with ⟨z, _, _⟩ | ⟨_, q⟩
              · exact hm z.symm
              · obtain ⟨p'', a, b, _⟩ := j2.sl m _ q
                rw [q3] at a; cases a
                rw [upd_same] at b; cases b
            have at_i : σ2[i]? = some (some (.ref p)) := by rw [w2]; exact hp
            by_cases zm : m = i
            · by_cases zl : l = i
              · rw [zm, zl]
              · subst zm
                rw [at_i] at q3; cases q3
                exact (own zl q2 q4).elim
            · by_cases zl : l = i
              · subst zl
                rw [at_i] at q4; cases q4
                exact (own zm q1 q3).elim
              · have g : ∀ {m : Nat} {c1 : C}, m ≠ i → (r2.put i (.ow c')).sl[m]? = some (.ow c1) → r2.sl[m]? = some (.ow c1) := fun {m c1} hm q => by
                  rcases put_at q with ⟨z, _, _⟩ | ⟨_, q⟩
                  · exact absurd z.symm hm
                  · exact q
                exact j2.dj m l c1 c2 p' (g zm q1) (g zl q2) q3 q4
      · have hu : unlock (.sl i) r2 = r2 := by
          show (match r2.sl[i]? with | some (.lk c) => r2.put i (.ow c) | _ => r2) = _
          rw [hs]
          cases s0 with
          | lk c' => exact absurd ⟨c', rfl⟩ hlk
          | _ => rfl
        have nl : ∀ s, r2.sl[i]? = some s → ¬ Lent s := fun s q l => by
          rw [hs] at q; cases q
          obtain ⟨w1, _⟩ := k i _ l hs
          rcases put_at w1 with ⟨_, z, _⟩ | ⟨z, _⟩
          · exact hlk ⟨c, z⟩
          · exact absurd rfl z
        refine ⟨F2, e, .refl _, rfl, ?_, ?_, tail, fun _ _ _ h _ => .inl (by rw [hu] at h; exact h)⟩
        · rw [hu]
          exact fun m s l q => lent m s l (fun z => by subst z; exact nl s q l) q
        · rw [hu]
          exact ⟨j.eb, (Ex.new h0).trans j2.e0, j2.ef, j2.fh, nw2, so2, j2.len, fun m s q => slots m s (by
            by_cases z : m = i
            · subst z; exact .inr (nl s q)
            · exact .inl z) q, j2.dj⟩
end
end CM
end
section
set_option Elab.async false
set_option linter.all false
set_option maxRecDepth 100000
set_option autoImplicit false
namespace CM
open PySem PySem.Spec PyProof.Rows L2
section
variable {K : KC} {F F' F1 : Fz} {H H' H1 B H0 F0 : Hp} {σ : L2.St} {r r' : Env} {v : V} {c : C} {x : D} {p : Addr} {s : Slot} {ds : List D}
def Fz.tag (F : Fz) (q : Addr) (u : Tg) : Fz := ⟨F.f, fun a => if a = q then some u else F.t a⟩
theorem Fz.tag_ne {q a : Addr} {u : Tg} (h : a ≠ q) : (F.tag q u).t a = F.t a := if_neg h
theorem Fz.tag_at {q : Addr} {u : Tg} : (F.tag q u).t q = some u := if_pos rfl
/-- a container's tag changed -/
theorem StOk.retag {st : Store} {n : Nat} {f : Str} {C dx : Addr} {es : List (Str × V)} {q : Addr} {t u : Tg} {d d' : Fd} {H0' : Hp} (s : StOk K H0 F H st) (ti : F.t p = some (.ins n)) (hp : H p = some (.ins C dx es)) (hv : es.lookup f = some (.ref q)) (hq : F.t q = some t)
    (ht : t = .fld n f ∨ t = .lok n f) (hu : u = .fld n f ∨ u = .lok n f) (hl : fldAt st n f = some d) (fo : FdOk K (F.tag q u) H n f (.ref q) d') (hd : (u = .fld n f → ∃ c, d' = .ow c) ∧ (u = .lok n f → ∃ c, d' = .lk c)) (hx : ∀ t', (t' = Tg.fld n f ∨ t' = .lok n f) → ∀ a, F.t a = some t' → a = q)
    (h0 : H0' q = none ∨ ∃ n f, u = .lok n f) (h00 : ∀ a, a ≠ q → F.t a ≠ none → H0 a = none → H0' a = none) : StOk K H0' (F.tag q u) H (stPut st n f d') := by
  have nq : ∀ {m : Nat}, Tg.ins m ≠ t := fun z => by rcases ht with w | w <;> subst w <;> cases z
  have ne : ∀ {a : Addr} {w : Tg}, F.t a = some w → w ≠ .fld n f → w ≠ .lok n f → a ≠ q := fun {a w} e z1 z2 y => by
    subst y
    rw [hq] at e; cases e
    rcases ht with w | w
    · exact z1 w
    · exact z2 w
  have only : ∀ a w, (w = Tg.fld n f ∨ w = .lok n f) → (F.tag q u).t a = some w → a = q ∧ w = u := fun a w hw e => by
    by_cases y : a = q
    · subst y; rw [Fz.tag_at] at e; exact ⟨rfl, (Option.some.inj e).symm⟩
    · rw [Fz.tag_ne y] at e; exact absurd (hx w hw a e) y
  have nb : f ≠ bxS := fun z => by
    subst z
    exact s.bi q p n (ht.imp (fun w => by rw [← w]; exact hq) fun w => by rw [← w]; exact hq) ti
  refine s.upd nb (p := p) (C := C) (dx := dx) (es := es) (v' := .ref q) ti hp ⟨.refl _, fun a m e => ?_, fun a m e => ?_⟩ (fun a w z1 z2 => ?_) (fun a w e z1 z2 _ o h => h) (by rw [putF_same hv]; exact hp) fo (fun a w e hw => ?_) (fun a b w hw e e' => by rw [(only a w hw e).1, (only b w hw e').1]) (fun a w e z1 z2 => ⟨(s.sep a w e).1, h00 a (ne e z1 z2) (by rw [e]; exact fun z => by cases z)⟩) (fun o e => ?_)
  · rw [Fz.tag_ne fun z => by subst z; rw [hq] at e; cases e; exact nq rfl]; exact e
  · refine e.same (Fz.tag_ne fun z => ?_)
    subst z
    rcases e with e | e <;> rw [hq] at e <;> cases e
    · rcases ht with w | w <;> cases w
      exact nb rfl
    · rcases ht with w | w <;> cases w
      exact nb rfl
  · by_cases y : a = q
    · subst y
      rw [Fz.tag_at, hq]
      constructor
      · intro e; cases e
        rcases hu with w | w
        · exact absurd w z1
        · exact absurd w z2
      · intro e; cases e
        rcases ht with w | w
        · exact absurd w z1
        · exact absurd w z2
    · rw [Fz.tag_ne y]
  · obtain ⟨y, w'⟩ := only a w hw e
    subst y; subst w'
    obtain ⟨c1, c2, _⟩ := s.sep a t hq
    exact ⟨c1, c2, h0, hd.1, hd.2⟩
  · unfold fldAt at hl
    rw [e] at hl
    have hl : o.fs.lookup f = some d := hl
    rw [putFd_len hl]
    obtain ⟨o', a, _, _, _, _, _, _, _, _, b⟩ := s.ob p n ti
    rw [e] at a; cases a
    exact b
/-- a box changed -/
theorem StOk.updB {d' : Fd} {n : Nat} {H' H0' : Hp} {st : Store} (s : StOk K H0 F H st) (nb : ∀ a, F.t a ≠ some (.ins n)) (nl : n < st.length) (g : FEi F F')
    (it : ∀ a u, u ≠ .fld n bxS → u ≠ .lok n bxS → (F'.t a = some u ↔ F.t a = some u))
    (hH : ∀ a u, F.t a = some u → u ≠ .fld n bxS → u ≠ .lok n bxS → ∀ o, H a = some o → H' a = some o)
    (sel : ∀ a u, F'.t a = some u → u = .fld n bxS ∨ u = .lok n bxS → F'.f a = none ∧ H' a ≠ none ∧ (H0' a = none ∨ ∃ n f, u = .lok n f) ∧ (u = .fld n bxS → ∃ c, d' = .ow c ∧ Od K F' H' a c) ∧ (u = .lok n bxS → ∃ c, d' = .lk c ∧ OdR K F' H' a c))
    (uni : ∀ a b u, u = .fld n bxS ∨ u = .lok n bxS → F'.t a = some u → F'.t b = some u → a = b)
    (ff : ∀ a u, F.t a = some u → u ≠ .fld n bxS → u ≠ .lok n bxS → F'.f a = none ∧ (H0 a = none → H0' a = none)) : StOk K H0' F' H' (stPut st n bxS d') := by
  have nf : ∀ {m : Nat}, Tg.ins m ≠ .fld n bxS := fun z => by cases z
  have nf' : ∀ {m : Nat}, Tg.ins m ≠ .lok n bxS := fun z => by cases z
  have up : ∀ m g v d, m ≠ n → FdOk K F H m g v d → FdOk K F' H' m g v d := fun m g' v d hne k => by
    refine k.mv g (fun q e => ?_) (fun q e => ?_)
    · have n1 : Tg.fld m g' ≠ .fld n bxS := fun z => by cases z; exact hne rfl
      have n2 : Tg.fld m g' ≠ .lok n bxS := fun z => by cases z
      exact ⟨(it q _ n1 n2).mpr e, hH q _ e n1 n2⟩
    · have n1 : Tg.lok m g' ≠ .fld n bxS := fun z => by cases z
      have n2 : Tg.lok m g' ≠ .lok n bxS := fun z => by cases z; exact hne rfl
      exact ⟨(it q _ n1 n2).mpr e, hH q _ e n1 n2⟩
  refine ⟨fun q m e => ?_, fun a b u ha hb => ?_, fun a u ha => ?_, fun a u ha => ?_, fun a m g' ha => ?_, fun a m g' ha => ?_, fun a m g' c ha hc => ?_, fun a m g' c ha hc => ?_, fun a q m hb hq => ?_, fun a m ha => ?_⟩
  · have e0 := (it q _ nf nf').mp e
    obtain ⟨o, a, C1, dx1, es1, b1, b2, b3, b4, b5, b6⟩ := s.ob q m e0
    have z : m ≠ n := fun z => by subst z; exact nb _ e0
    exact ⟨o, by rw [stPut_at, a, Option.map_some, if_neg fun w => z w.symm], C1, dx1, es1, b1, hH q _ e0 nf nf' _ b2, (it dx1 _ (fun z => by cases z) (fun z => by cases z)).mpr b3, Paired.mapP b4 fun _ _ ⟨c1, c2⟩ => ⟨c1, up _ _ _ _ z c2⟩, b5, b6⟩
  · by_cases z : u = .fld n bxS ∨ u = .lok n bxS
    · exact uni a b u z ha hb
    · have z1 : u ≠ .fld n bxS := fun w => z (.inl w)
      have z2 : u ≠ .lok n bxS := fun w => z (.inr w)
      exact s.inj a b u ((it a u z1 z2).mp ha) ((it b u z1 z2).mp hb)
  · by_cases z : u = .fld n bxS ∨ u = .lok n bxS
    · obtain ⟨c1, c2, c3, _⟩ := sel a u ha z
      exact ⟨c1, c2, c3⟩
    · have z1 : u ≠ .fld n bxS := fun w => z (.inl w)
      have z2 : u ≠ .lok n bxS := fun w => z (.inr w)
      have ha0 := (it a u z1 z2).mp ha
      obtain ⟨c1, c2, c3⟩ := s.sep a u ha0
      obtain ⟨d1, d2⟩ := ff a u ha0 z1 z2
      refine ⟨d1, ?_, c3.imp d2 id⟩
      cases q : H a with
      | none => exact absurd q c2
      | some o => rw [hH a u ha0 z1 z2 o q]; exact fun z => by cases z
  · rw [stPut_len]
    by_cases z : u = .fld n bxS ∨ u = .lok n bxS
    · rcases z with z | z
      · subst z; exact nl
      · subst z; exact nl
    · have z1 : u ≠ .fld n bxS := fun w => z (.inl w)
      have z2 : u ≠ .lok n bxS := fun w => z (.inr w)
      exact s.ix a u ((it a u z1 z2).mp ha)
  · rw [fldAt_put nl]
    by_cases z : n = m ∧ g' = bxS
    · rw [if_pos z]
      obtain ⟨z1, z2⟩ := z
      subst z1; subst z2
      obtain ⟨_, _, _, c4, _⟩ := sel a _ ha (.inl rfl)
      obtain ⟨c, e, _⟩ := c4 rfl
      exact ⟨c, by rw [e]⟩
    · rw [if_neg z]
      exact s.tf a m g' ((it a _ (fun w => by cases w; exact z ⟨rfl, rfl⟩) (fun w => by cases w)).mp ha)
  · rw [fldAt_put nl]
    by_cases z : n = m ∧ g' = bxS
    · rw [if_pos z]
      obtain ⟨z1, z2⟩ := z
      subst z1; subst z2
      obtain ⟨_, _, _, _, c5⟩ := sel a _ ha (.inr rfl)
      obtain ⟨c, e, _⟩ := c5 rfl
      exact ⟨c, by rw [e]⟩
    · rw [if_neg z]
      exact s.tl a m g' ((it a _ (fun w => by cases w) (fun w => by cases w; exact z ⟨rfl, rfl⟩)).mp ha)
  · rw [fldAt_put nl] at hc
    by_cases z : n = m ∧ g' = bxS
    · rw [if_pos z] at hc
      obtain ⟨z1, z2⟩ := z
      subst z1; subst z2
      cases hc
      obtain ⟨_, _, _, c4, _⟩ := sel a _ ha (.inl rfl)
      obtain ⟨c', e, k⟩ := c4 rfl
      cases e
      exact k
    · rw [if_neg z] at hc
      have z1 : Tg.fld m g' ≠ .fld n bxS := fun w => by cases w; exact z ⟨rfl, rfl⟩
      have ha0 := (it a _ z1 (fun w => by cases w)).mp ha
      exact (s.od a m g' c ha0 hc).up g (hH a _ ha0 z1 (fun w => by cases w))
  · rw [fldAt_put nl] at hc
    by_cases z : n = m ∧ g' = bxS
    · rw [if_pos z] at hc
      obtain ⟨z1, z2⟩ := z
      subst z1; subst z2
      cases hc
      obtain ⟨_, _, _, _, c5⟩ := sel a _ ha (.inr rfl)
      obtain ⟨c', e, k⟩ := c5 rfl
      cases e
      exact k
    · rw [if_neg z] at hc
      have z1 : Tg.lok m g' ≠ .lok n bxS := fun w => by cases w; exact z ⟨rfl, rfl⟩
      have ha0 := (it a _ (fun w => by cases w) z1).mp ha
      exact (s.odr a m g' c ha0 hc).up g (hH a _ ha0 (fun w => by cases w) z1)
  · have hq0 := (it q _ nf nf').mp hq
    by_cases z : m = n
    · subst z; exact nb _ hq0
    · exact s.bi a q m (hb.imp (fun h => (it a _ (fun w => by cases w; exact z rfl) (fun w => by cases w)).mp h) fun h => (it a _ (fun w => by cases w) (fun w => by cases w; exact z rfl)).mp h) hq0
  · have ha0 := (it a (.dic m) (fun w => by cases w) (fun w => by cases w)).mp ha
    exact ntKeep (s.sep a _ ha0).2.1 (s.dn a m ha0) (hH a _ ha0 (fun w => by cases w) (fun w => by cases w))
/-- a box's tag changed -/
theorem StOk.retagB {st : Store} {n : Nat} {q : Addr} {t u : Tg} {d d' : Fd} {H0' : Hp} (s : StOk K H0 F H st) (hq : F.t q = some t)
    (ht : t = .fld n bxS ∨ t = .lok n bxS) (hu : u = .fld n bxS ∨ u = .lok n bxS) (fo : (u = .fld n bxS → ∃ c, d' = .ow c ∧ Od K (F.tag q u) H q c) ∧ (u = .lok n bxS → ∃ c, d' = .lk c ∧ OdR K (F.tag q u) H q c)) (hx : ∀ t', (t' = Tg.fld n bxS ∨ t' = .lok n bxS) → ∀ a, F.t a = some t' → a = q)
    (h0 : H0' q = none ∨ ∃ n f, u = .lok n f) (h00 : ∀ a, a ≠ q → F.t a ≠ none → H0 a = none → H0' a = none) : FEi F (F.tag q u) ∧ StOk K H0' (F.tag q u) H (stPut st n bxS d') := by
  have bt : Bt F q n := ht.imp (fun w => by rw [← w]; exact hq) fun w => by rw [← w]; exact hq
  have bt' : Bt (F.tag q u) q n := hu.imp (fun w => by rw [Fz.tag_at, w]) fun w => by rw [Fz.tag_at, w]
  have ne : ∀ {a : Addr} {w : Tg}, F.t a = some w → w ≠ .fld n bxS → w ≠ .lok n bxS → a ≠ q := fun {a w} e z1 z2 y => by
    subst y
    rw [hq] at e; cases e
    rcases ht with w | w
    · exact z1 w
    · exact z2 w
  have only : ∀ a w, (w = Tg.fld n bxS ∨ w = .lok n bxS) → (F.tag q u).t a = some w → a = q ∧ w = u := fun a w hw e => by
    by_cases y : a = q
    · subst y; rw [Fz.tag_at] at e; exact ⟨rfl, (Option.some.inj e).symm⟩
    · rw [Fz.tag_ne y] at e; exact absurd (hx w hw a e) y
  have fi : FEi F (F.tag q u) := ⟨.refl _, fun a m e => by
      rw [Fz.tag_ne fun z => by subst z; exact s.bi a a _ bt (by rcases ht with w | w <;> rw [hq, w] at e <;> cases e)]
      exact e, fun a m e => by
      by_cases y : a = q
      · subst y
        have : m = n := by
          rcases e with e | e <;> rw [hq] at e <;> cases e
          · rcases ht with w | w <;> cases w; rfl
          · rcases ht with w | w <;> cases w; rfl
        subst this
        exact bt'
      · exact e.same (Fz.tag_ne y)⟩
  refine ⟨fi, s.updB (fun a => s.bi q a n bt) (by
    have := s.ix q t hq
    rcases ht with w | w <;> subst w <;> exact this) fi (fun a w z1 z2 => ?_) (fun a w e z1 z2 o h => h) (fun a w e hw => ?_) (fun a b w hw e e' => by rw [(only a w hw e).1, (only b w hw e').1]) (fun a w e z1 z2 => ⟨(s.sep a w e).1, h00 a (ne e z1 z2) (by rw [e]; exact fun z => by cases z)⟩)⟩
  · by_cases y : a = q
    · subst y
      rw [Fz.tag_at, hq]
      constructor
      · intro e; cases e
        rcases hu with w | w
        · exact absurd w z1
        · exact absurd w z2
      · intro e; cases e
        rcases ht with w | w
        · exact absurd w z1
        · exact absurd w z2
    · rw [Fz.tag_ne y]
  · obtain ⟨y, w'⟩ := only a w hw e
    subst y; subst w'
    obtain ⟨c1, c2, _⟩ := s.sep a t hq
    exact ⟨c1, c2, h0, fo.1, fo.2⟩
/-- a box locked -/
theorem LkOk.box {n : Nat} {c : C} {q : Addr} (j : J K B H0 F0 F H σ r) (bt : Bt F q n) (hq : fldAt r.st n bxS = some (.ow c)) :
    ∃ o FL, H q = some o ∧ Od K F H q c ∧ FEi F FL ∧ LkOk K (.fl n bxS) B H0 F0 F H σ r B (upd H0 q o) FL := by
  have nolok : ∀ a, F.t a ≠ some (.lok n bxS) := fun a z => by
    obtain ⟨c', w⟩ := j.so.tl a n bxS z
    rw [hq] at w; cases w
  have tq : F.t q = some (.fld n bxS) := bt.elim id fun h => absurd h (nolok q)
  have od := j.so.od q n bxS c tq hq
  obtain ⟨o, ho⟩ : ∃ o, H q = some o := by
    cases w : H q with
    | none => exact absurd w od.ne
    | some o => exact ⟨o, rfl⟩
  obtain ⟨fq, _, h0⟩ := j.so.sep q _ tq
  have h0 : H0 q = none := h0.elim id fun ⟨_, _, z⟩ => by cases z
  have hx : ∀ t', (t' = Tg.fld n bxS ∨ t' = .lok n bxS) → ∀ a, F.t a = some t' → a = q := fun t' ht a e => by
    rcases ht with z | z
    · subst z; exact j.so.inj _ _ _ e tq
    · subst z; exact absurd e (nolok a)
  have hl : lock (.fl n bxS) r = r.putF n bxS (.lk c) := by show (match fldAt r.st n bxS with | some (.ow c) => r.putF n bxS (.lk c) | _ => r) = _; rw [hq]
  have back : ∀ a, upd H0 q o a = none → H0 a = none ∧ a ≠ q := fun a w => by
    have z : a ≠ q := fun z => by subst z; rw [upd_same] at w; cases w
    rw [upd_ne z] at w
    exact ⟨w, z⟩
  have fi : FEi F (F.tag q (.lok n bxS)) := ⟨.refl _, fun a m e => by
    rw [Fz.tag_ne fun z => by subst z; rw [tq] at e; cases e]; exact e, fun a m e => by
      by_cases y : a = q
      · subst y
        have : m = n := by rcases e with e | e <;> rw [tq] at e <;> cases e; rfl
        subst this
        exact .inr Fz.tag_at
      · exact e.same (Fz.tag_ne y)⟩
  obtain ⟨_, so⟩ := j.so.retagB (H0' := upd H0 q o) (u := .lok n bxS) (d := .lk c) (d' := .lk c) tq (.inl rfl) (.inr rfl) ⟨(fun z => by cases z), fun _ => ⟨c, rfl, (od.up fi fun _ w => w).r⟩⟩ hx (.inr ⟨n, bxS, rfl⟩) (fun a z _ w => by rw [upd_ne z]; exact w)
  refine ⟨o, F.tag q (.lok n bxS), ho, od, fi, ?_, fun F2 H2 σ2 r2 e k j2 => ?_⟩
  · rw [hl]
    refine ⟨j.eb.side (j.eb.back h0), fun a u w => ?_, j.ef, j.fh, fun a u w => ?_, so, j.len, fun k s w => ?_, j.dj⟩
    · by_cases z : a = q
      · subst z; rw [upd_same] at w; rw [ho]; exact w
      · rw [upd_ne z] at w; exact j.e0 a u w
    · rcases j.nw a u w with z | z | z
      · exact .inl z
      · exact .inr (.inl (by rw [upd_ne fun y => by subst y; have w : F.f a = some u := w; rw [fq] at w; cases w]; exact z))
      · exact .inr (.inr z)
    · have b := j.sl k s w
      cases s with
      | no => trivial
      | sh d => obtain ⟨v, a, b⟩ := b; exact ⟨v, a, Vp.up fi _ _ b⟩
      | bo c1 => obtain ⟨v, a, b⟩ := b; exact ⟨v, a, b.up fi (.refl _)⟩
      | lk c1 => obtain ⟨v, a, b⟩ := b; exact ⟨v, a, b.up fi (.refl _)⟩
      | ow c1 =>
        obtain ⟨p', a, b1, b2, b3, b4⟩ := b
        have z : p' ≠ q := fun z => by subst z; rw [tq] at b3; cases b3
        exact ⟨p', a, by rw [upd_ne z]; exact b1, b2, by rw [Fz.tag_ne z]; exact b3, b4.up fi fun _ w => w⟩
  · rw [hl] at k
    have t2 : F2.t q = some (.lok n bxS) := (e.l q n bxS).mp Fz.tag_at
    obtain ⟨c2, a8⟩ := j2.so.tl q n bxS t2
    have b4 := j2.so.odr q n bxS c2 t2 a8
    have hu : unlock (.fl n bxS) r2 = r2.putF n bxS (.ow c2) := by show (match fldAt r2.st n bxS with | some (.lk c) => r2.putF n bxS (.ow c) | _ => r2) = _; rw [a8]
    have nofld : ∀ a, F2.t a ≠ some (.fld n bxS) := fun a z => by
      obtain ⟨c', w⟩ := j2.so.tf a n bxS z
      rw [a8] at w; cases w
    have hx2 : ∀ t', (t' = Tg.fld n bxS ∨ t' = .lok n bxS) → ∀ a, F2.t a = some t' → a = q := fun t' ht a e => by
      rcases ht with z | z
      · subst z; exact absurd e (nofld a)
      · subst z; exact j2.so.inj _ _ _ e t2
    have nfz : ∀ o' u, H2 q ≠ some (.frz o' u) := fun o' u w => by
      have := j2.e0 q o upd_same
      rw [w] at this; cases this
      exact od.nfz ho
    have fi2 : FEi F2 (F2.tag q (.fld n bxS)) := ⟨.refl _, fun a m ei => by
      rw [Fz.tag_ne fun z => by rw [z, t2] at ei; cases ei]; exact ei, fun a m ei => by
        by_cases y : a = q
        · have : m = n := by rw [y] at ei; rcases ei with ei | ei <;> rw [t2] at ei <;> cases ei; rfl
          rw [y, this]
          exact .inl Fz.tag_at
        · exact ei.same (Fz.tag_ne y)⟩
    obtain ⟨_, so2⟩ := j2.so.retagB (H0' := H0) (u := .fld n bxS) (d := .ow c2) (d' := .ow c2) t2 (.inr rfl) (.inl rfl) ⟨fun _ => ⟨c2, rfl, (b4.od nfz).up fi2 fun _ w => w⟩, (fun z => by cases z)⟩ hx2 (.inl h0) (fun a z _ w => (back a w).1)
    refine ⟨F2.tag q (.fld n bxS), ⟨⟨e.f, fun a m w => fi2.i _ _ (e.i _ _ (fi.i _ _ w)), fun a m w => fi2.b _ _ (e.b _ _ (fi.b _ _ w))⟩, fun a m g => ?_⟩, fi2, rfl, ?_, ?_, fun a w => ⟨(back a w).1, fun z => by rw [Fz.tag_ne (back a w).2]; exact z⟩, fun _ _ _ h _ => .inl (by rw [hu] at h; exact h)⟩
    · by_cases z : a = q
      · subst z
        rw [Fz.tag_at, tq]
      · rw [Fz.tag_ne z]
        have := e.l a m g
        rw [Fz.tag_ne z] at this
        exact this
    · rw [hu]
      exact fun m s l w => k m s l w
    · rw [hu]
      refine ⟨j.eb, (Ex.new h0).trans j2.e0, j2.ef, j2.fh, fun a u w => (j2.nw a u w).imp id fun z => z.imp (fun z => (back a z).1) id, so2, j2.len, fun m s w => ?_, j2.dj⟩
      have b := j2.sl m s w
      cases s with
      | no => trivial
      | sh d => obtain ⟨v, a, b⟩ := b; exact ⟨v, a, Vp.up fi2 _ _ b⟩
      | bo c1 => obtain ⟨v, a, b⟩ := b; exact ⟨v, a, b.up fi2 (.refl _)⟩
      | lk c1 => obtain ⟨v, a, b⟩ := b; exact ⟨v, a, b.up fi2 (.refl _)⟩
      | ow c1 =>
        obtain ⟨p', a, b1, b2, b3, b4⟩ := b
        have z : p' ≠ q := (back _ b1).2
        exact ⟨p', a, (back _ b1).1, b2, by rw [Fz.tag_ne z]; exact b3, b4.up fi2 fun _ w => w⟩
/-- a field's container locked -/
theorem LkOk.field {n : Nat} {f : Str} {c : C} {C dx : Addr} {es : List (Str × V)} (j : J K B H0 F0 F H σ r) (t : F.t p = some (.ins n)) (hp : H p = some (.ins C dx es)) (l : es.lookup f = some v) (hq : fldAt r.st n f = some (.ow c)) :
    ∃ q o FL, v = .ref q ∧ H q = some o ∧ Od K F H q c ∧ FEi F FL ∧ LkOk K (.fl n f) B H0 F0 F H σ r B (upd H0 q o) FL := by
  obtain ⟨q, rfl, tq, od⟩ := j.so.field t hp l hq
  obtain ⟨o, ho⟩ : ∃ o, H q = some o := by
    cases w : H q with
    | none => exact absurd w od.ne
    | some o => exact ⟨o, rfl⟩
  obtain ⟨fq, _, h0⟩ := j.so.sep q _ tq
  have h0 : H0 q = none := h0.elim id fun ⟨_, _, z⟩ => by cases z
  have nolok : ∀ a, F.t a ≠ some (.lok n f) := fun a z => by
    obtain ⟨c', w⟩ := j.so.tl a n f z
    rw [hq] at w; cases w
  have hx : ∀ t', (t' = Tg.fld n f ∨ t' = .lok n f) → ∀ a, F.t a = some t' → a = q := fun t' ht a e => by
    rcases ht with z | z
    · subst z; exact j.so.inj _ _ _ e tq
    · subst z; exact absurd e (nolok a)
  have nb : f ≠ bxS := fun z => by subst z; exact j.so.bi q p n (.inl tq) t
  have fi : FEi F (F.tag q (.lok n f)) := ⟨.refl _, fun a m e => by
    rw [Fz.tag_ne fun z => by subst z; rw [tq] at e; cases e]; exact e, fun a m e => by
      refine e.same (Fz.tag_ne fun z => ?_)
      subst z
      rcases e with e | e <;> rw [tq] at e <;> cases e
      exact nb rfl⟩
  have hl : lock (.fl n f) r = r.putF n f (.lk c) := by show (match fldAt r.st n f with | some (.ow c) => r.putF n f (.lk c) | _ => r) = _; rw [hq]
  have back : ∀ a, upd H0 q o a = none → H0 a = none ∧ a ≠ q := fun a w => by
    have z : a ≠ q := fun z => by subst z; rw [upd_same] at w; cases w
    rw [upd_ne z] at w
    exact ⟨w, z⟩
  refine ⟨q, o, F.tag q (.lok n f), rfl, ho, od, fi, ?_, fun F2 H2 σ2 r2 e k j2 => ?_⟩
  · rw [hl]
    have so := j.so.retag (H0' := upd H0 q o) (u := .lok n f) (d' := .lk c) t hp l tq (.inl rfl) (.inr rfl) hq ⟨q, rfl, Fz.tag_at, (od.up fi fun _ w => w).r⟩ ⟨(fun z => by cases z), fun _ => ⟨c, rfl⟩⟩ hx (.inr ⟨n, f, rfl⟩) (fun a z _ w => by rw [upd_ne z]; exact w)
    refine ⟨j.eb.side (j.eb.back h0), fun a u w => ?_, j.ef, j.fh, fun a u w => ?_, so, j.len, fun k s w => ?_, j.dj⟩
    · by_cases z : a = q
      · subst z; rw [upd_same] at w; rw [ho]; exact w
      · rw [upd_ne z] at w; exact j.e0 a u w
    · rcases j.nw a u w with z | z | z
      · exact .inl z
      · exact .inr (.inl (by rw [upd_ne fun y => by subst y; have w : F.f a = some u := w; rw [fq] at w; cases w]; exact z))
      · exact .inr (.inr z)
    · have b := j.sl k s w
      cases s with
      | no => trivial
      | sh d => obtain ⟨v, a, b⟩ := b; exact ⟨v, a, Vp.up fi _ _ b⟩
      | bo c1 => obtain ⟨v, a, b⟩ := b; exact ⟨v, a, b.up fi (.refl _)⟩
      | lk c1 => obtain ⟨v, a, b⟩ := b; exact ⟨v, a, b.up fi (.refl _)⟩
      | ow c1 =>
        obtain ⟨p', a, b1, b2, b3, b4⟩ := b
        have z : p' ≠ q := fun z => by subst z; rw [tq] at b3; cases b3
        exact ⟨p', a, by rw [upd_ne z]; exact b1, b2, by rw [Fz.tag_ne z]; exact b3, b4.up fi fun _ w => w⟩
  · rw [hl] at k
    have t2 : F2.t q = some (.lok n f) := (e.l q n f).mp Fz.tag_at
    have tp : F2.t p = some (.ins n) := e.i _ _ (fi.i _ _ t)
    obtain ⟨ob, a1, C', dx', es', a2, a3, a4, a5, a6, a7⟩ := j2.so.ob p n tp
    obtain ⟨c2, a8⟩ := j2.so.tl q n f t2
    have a9 : ob.fs.lookup f = some (.lk c2) := by
      unfold fldAt at a8
      rw [a1] at a8
      exact a8
    obtain ⟨v2, b1, q2, b2, b3, b4⟩ := a5.lookup a9
    have eq : q2 = q := j2.so.inj _ _ _ b3 t2
    subst eq
    subst b2
    have hu : unlock (.fl n f) r2 = r2.putF n f (.ow c2) := by show (match fldAt r2.st n f with | some (.lk c) => r2.putF n f (.ow c) | _ => r2) = _; rw [a8]
    have nofld : ∀ a, F2.t a ≠ some (.fld n f) := fun a z => by
      obtain ⟨c', w⟩ := j2.so.tf a n f z
      rw [a8] at w; cases w
    have hx2 : ∀ t', (t' = Tg.fld n f ∨ t' = .lok n f) → ∀ a, F2.t a = some t' → a = q2 := fun t' ht a e => by
      rcases ht with z | z
      · subst z; exact absurd e (nofld a)
      · subst z; exact j2.so.inj _ _ _ e t2
    have fi2 : FEi F2 (F2.tag q2 (.fld n f)) := ⟨.refl _, fun a m ei => by
      have z : a ≠ q2 := fun z => by rw [z, t2] at ei; cases ei
      rw [Fz.tag_ne z]; exact ei, fun a m ei => by
      refine ei.same (Fz.tag_ne fun z => ?_)
      rw [z] at ei
      rcases ei with ei | ei <;> rw [t2] at ei <;> cases ei
      exact nb rfl⟩
    refine ⟨F2.tag q2 (.fld n f), ⟨⟨e.f, fun a m w => fi2.i _ _ (e.i _ _ (fi.i _ _ w)), fun a m w => fi2.b _ _ (e.b _ _ (fi.b _ _ w))⟩, fun a m g => ?_⟩, fi2, rfl, ?_, ?_, fun a w => ⟨(back a w).1, fun z => by rw [Fz.tag_ne (back a w).2]; exact z⟩, fun _ _ _ h _ => .inl (by rw [hu] at h; exact h)⟩
    · by_cases z : a = q2
      · subst z
        rw [Fz.tag_at, tq]
      · rw [Fz.tag_ne z]
        have := e.l a m g
        rw [Fz.tag_ne z] at this
        exact this
    · rw [hu]
      exact fun m s l w => k m s l w
    · rw [hu]
      have nfz : ∀ o' u, H2 q2 ≠ some (.frz o' u) := fun o' u w => by
        have := j2.e0 q2 o upd_same
        rw [w] at this; cases this
        exact od.nfz ho
      have so := j2.so.retag (H0' := H0) (u := .fld n f) (d' := .ow c2) tp a3 b1 t2 (.inr rfl) (.inl rfl) a8 ⟨q2, rfl, Fz.tag_at, (b4.od nfz).up fi2 fun _ w => w⟩ ⟨fun _ => ⟨c2, rfl⟩, (fun z => by cases z)⟩ hx2 (.inl h0) (fun a z _ w => (back a w).1)
      refine ⟨j.eb, (Ex.new h0).trans j2.e0, j2.ef, j2.fh, fun a u w => (j2.nw a u w).imp id fun z => z.imp (fun z => (back a z).1) id, so, j2.len, fun m s w => ?_, j2.dj⟩
      have b := j2.sl m s w
      cases s with
      | no => trivial
      | sh d => obtain ⟨v, a, b⟩ := b; exact ⟨v, a, Vp.up fi2 _ _ b⟩
      | bo c1 => obtain ⟨v, a, b⟩ := b; exact ⟨v, a, b.up fi2 (.refl _)⟩
      | lk c1 => obtain ⟨v, a, b⟩ := b; exact ⟨v, a, b.up fi2 (.refl _)⟩
      | ow c1 =>
        obtain ⟨p', a, b1, b2, b3, b4⟩ := b
        have z : p' ≠ q2 := (back _ b1).2
        exact ⟨p', a, (back _ b1).1, b2, by rw [Fz.tag_ne z]; exact b3, b4.up fi2 fun _ w => w⟩

theorem LkOk.fieldV {n : Nat} {f : Str} {c : C} (j : J K B H0 F0 F H σ r) (h : FldV F H n f v) (hq : fldAt r.st n f = some (.ow c)) :
    ∃ q o FL, v = .ref q ∧ H q = some o ∧ Od K F H q c ∧ FEi F FL ∧ LkOk K (.fl n f) B H0 F0 F H σ r B (upd H0 q o) FL := by
  rcases h with ⟨p, C, dx, es, t, hp, l⟩ | ⟨a, rfl, rfl, b⟩
  · exact LkOk.field j t hp l hq
  · obtain ⟨o, FL, k⟩ := LkOk.box j b hq
    exact ⟨a, o, FL, rfl, k⟩
/-! ### what is walked -/
def RI (K : KC) (w : TI) (f : IF) : Prop := ∀ (B H0 F0 : Hp) (F : Fz) (H : Hp) (σ : L2.St) (r : Env) (ds : List D) (l : Lk) (r' : Env), f r = some (ds, l, r') → J K B H0 F0 F H σ r →
  ∀ R : It → Hp → Prop, (∀ F1 H1 B' H0' FL T, Ge false F H r F1 H1 r' → LkOk K l B H0 F0 F1 H1 σ r' B' H0' FL → ItOk K T H0' FL ds → R T H1) → w σ H R
structure DI (X : Cx) (tg it : Expr) (f : IF) : Prop where
  ex : ∃ w, PI X tg it w ∧ RI X.kc w f
theorem itOk_l {G : Hp} {a : Addr} {xs : List V} {ds : List D} (h : ∀ F1 H1, FEx F F1 → Ex F1.f H1 → Ex G H1 → SqL K.K H1 a xs) (d : VpAll K F xs ds) : ItOk K (Itl K.K a) G F ds := fun i F1 H1 e1 e2 e3 => by
  have h1 := h F1 H1 e1 e2 e3
  refine ⟨fun hi => ?_, fun hi => ⟨xs, h1, by rw [VpAll.length d]; exact hi⟩⟩
  obtain ⟨v, q1, q2⟩ := VpAll.get d (List.getElem?_eq_getElem hi)
  refine ⟨⟨xs, v, h1, q1⟩, fun x H2 ⟨q3, q4⟩ => ?_⟩
  subst q3
  have q5 := q4 xs h1
  rw [q1] at q5; cases q5
  exact ⟨F1, .refl e2, _, List.getElem?_eq_getElem hi, Vp.up e1 _ _ q2⟩
theorem itOk_t {G : Hp} {a : Addr} {xs : List V} {ds : List D} (h : SqT K.K F.f a xs) (d : VpAll K F xs ds) : ItOk K (Itt K.K a) G F ds := fun i F1 H1 e1 e2 e3 => by
  have h1 : SqT K.K H1 a xs := (e1.f.trans e2).t h
  refine ⟨fun hi => ?_, fun hi => ⟨xs, h1, by rw [VpAll.length d]; exact hi⟩⟩
  obtain ⟨v, q1, q2⟩ := VpAll.get d (List.getElem?_eq_getElem hi)
  refine ⟨⟨xs, v, h1, q1⟩, fun x H2 ⟨q3, q4⟩ => ?_⟩
  subst q3
  have q5 := q4 xs h1
  rw [q1] at q5; cases q5
  exact ⟨F1, .refl e2, _, List.getElem?_eq_getElem hi, Vp.up e1 _ _ q2⟩
/-- a list or a tuple, and how it may be walked -/
def SeqIs (K : KC) (H : Hp) (G : Hp) (F : Fz) (v : V) (c : C) (ds : List D) : Prop :=
  ((∃ xs, c = .d (.list xs)) ∧ ∃ p xs, v = .ref p ∧ SqL K.K H p xs ∧ ItOk K (Itl K.K p) G F ds) ∨ ((∃ xs, c = .d (.tuple xs)) ∧ ∃ p xs, v = .ref p ∧ SqT K.K H p xs ∧ ItOk K (Itt K.K p) G F ds)
theorem SeqIs.sh {G : Hp} (h : Vp K F v x) (e : Ex F.f H) (q : asSeq x = some ds) : SeqIs K H G F v (.d x) ds := by
  cases x with
  | list xs =>
    cases q
    cases h with
    | lst hs ha => exact .inl ⟨⟨_, rfl⟩, _, _, rfl, e.l hs, itOk_l (fun F1 H1 e1 e2 _ => (e1.f.trans e2).l hs) ha⟩
  | tuple xs =>
    cases q
    cases h with
    | tup hs ha => exact .inr ⟨⟨_, rfl⟩, _, _, rfl, e.t hs.sq, itOk_t hs.sq ha⟩
  | _ => cases q
theorem SeqIs.lent {G : Hp} (h : Bd K F B v c) (eb : Ex B G) (e : Ex G H) (ef : Ex F.f H) (q : asSeqC c = some ds) : SeqIs K H G F v c ds := by
  cases c with
  | d x =>
    cases x with
    | list xs =>
      cases q
      obtain ⟨p, vs, rfl, a, b⟩ := h
      exact .inl ⟨⟨_, rfl⟩, p, vs, rfl, (eb.trans e).l a, itOk_l (fun F1 H1 _ _ e3 => (eb.trans e3).l a) b⟩
    | tuple xs =>
      have h : Vp K F v (.tuple xs) := h
      exact .sh h ef q
    | _ => cases q
  | dk _ => cases q
  | dt _ => cases q
theorem lend_ok {z : Res} {l : Lk} (q : lendOf r z = some (c, l)) (hc : asSeqC c = some ds) (j : J K B H0 F0 F H σ r) (h : ResOk K H0 F H σ r v z) : ∃ F1 B' H0' FL, Ge true F H r F1 H r ∧ LkOk K l B H0 F0 F1 H σ r B' H0' FL ∧ SeqIs K H H0' FL v c ds := by
  cases z with
  | sh x =>
    cases q
    have h : Vp K F v x := h
    exact ⟨F, B, H0, F, .refl, .no j, .sh h j.fh hc⟩
  | fr c1 =>
    cases c1 with
    | d x =>
      cases q
      obtain ⟨F1, g, j1, d1⟩ := toSh_ok (z := .fr (.d x)) (r' := r) (x := x) rfl j h
      exact ⟨F1, B, H0, F1, g, .no j1, .sh d1 j1.fh hc⟩
    | dk _ => cases q
    | dt _ => cases q
  | fl n f =>
    have h : FldV F H n f v := h
    unfold lendOf at q
    dsimp only at q
    split at q
    · rename_i y e
      cases q
      have k : Vp K F v y := j.so.fieldV h e
      exact ⟨F, B, H0, F, .refl, .no j, .sh k j.fh hc⟩
    · rename_i y e
      cases q
      obtain ⟨q, o, FL, rfl, ho, od, fi, lk⟩ := LkOk.fieldV j h e
      refine ⟨F, B, upd H0 q o, FL, .refl, lk, ?_⟩
      have b := od.bd.priv (G := upd H0 q o) fun p' o' e' w => by
        cases e'
        rw [ho] at w; cases w
        exact upd_same
      exact .lent (b.up fi (.refl _)) (.refl _) lk.j.e0 lk.j.fh hc
    · cases q
  | sl i =>
    have h : σ[i]? = some (some v) := h
    unfold lendOf at q
    dsimp only at q
    split at q
    · rename_i y e
      cases q
      obtain ⟨v', a, b⟩ := j.sl i _ e
      rw [h] at a; cases a
      exact ⟨F, B, H0, F, .refl, .no j, .sh b j.fh hc⟩
    · rename_i y e
      cases q
      obtain ⟨v', a, b⟩ := j.sl i _ e
      rw [h] at a; cases a
      exact ⟨F, B, H0, F, .refl, .no j, .lent b j.eb j.e0 j.fh hc⟩
    · rename_i y e
      cases q
      obtain ⟨v', a, b⟩ := j.sl i _ e
      rw [h] at a; cases a
      exact ⟨F, B, H0, F, .refl, .no j, .lent b j.eb j.e0 j.fh hc⟩
    · rename_i y e
      cases q
      obtain ⟨p, o, hp, ho, od, lk⟩ := LkOk.slot j e
      rw [h] at hp; cases hp
      refine ⟨F, _, upd H0 p o, F, .refl, lk, ?_⟩
      have b := od.bd.priv (G := upd H0 p o) fun p' o' e' w => by
        cases e'
        rw [ho] at w; cases w
        exact upd_same
      exact .lent b (.refl _) lk.j.e0 lk.j.fh hc
    · cases q
end
section
variable {X : Cx} {e : Expr} {fa : EF} {pos : Pos} {q1 : Bool}
theorem pi_or {tg it : Expr} {w1 w2 : TI} (h1 : PI X tg it w1) (h2 : PI X tg it w2) : PI X tg it (fun σ H R => w1 σ H R ∨ w2 σ H R) := ⟨fun pins s σ H R I h => by
  rcases h with h | h
  · exact h1.run pins s σ H R I h
  · exact h2.run pins s σ H R I h⟩
theorem di_seq {tg : Expr} (he : DE X q1 e fa) : DI X tg e (iSeq fa) := by
  obtain ⟨t, a1, a2⟩ := he.ex
  refine ⟨_, pi_or (pi_list a1) (pi_tup a1), fun B H0 F0 F H σ r ds l r' q j R k => ?_⟩
  simp only [iSeq, Option.bind_eq_some_iff] at q
  obtain ⟨⟨z, r1⟩, q1, ⟨c, l1⟩, q2, ds1, q3, q4⟩ := q
  cases q4
  have hc : (∃ xs, c = .d (.list xs)) ∨ (∃ xs, c = .d (.tuple xs)) := by
    cases c with
    | d x =>
      cases x with
      | list xs => exact .inl ⟨xs, rfl⟩
      | tuple xs => exact .inr ⟨xs, rfl⟩
      | _ => cases q3
    | dk _ => cases q3
    | dt _ => cases q3
  rcases hc with ⟨xs, rfl⟩ | ⟨xs, rfl⟩
  · refine .inl (a2 _ _ _ _ _ _ _ _ _ q1 j _ fun F1 H1 v e1 j1 k1 => ?_)
    obtain ⟨F2, B', H0', FL, g, lk, s⟩ := lend_ok q2 q3 j1 k1
    rcases s with ⟨_, p, ys, rfl, s1, s2⟩ | ⟨⟨ys, z⟩, _⟩
    · exact ⟨p, rfl, ⟨ys, s1⟩, k F2 H1 B' H0' FL _ (e1.qt g).weak lk s2⟩
    · cases z
  · refine .inr (a2 _ _ _ _ _ _ _ _ _ q1 j _ fun F1 H1 v e1 j1 k1 => ?_)
    obtain ⟨F2, B', H0', FL, g, lk, s⟩ := lend_ok q2 q3 j1 k1
    rcases s with ⟨⟨ys, z⟩, _⟩ | ⟨_, p, ys, rfl, s1, s2⟩
    · cases z
    · exact ⟨p, rfl, ⟨ys, s1⟩, k F2 H1 B' H0' FL _ (e1.qt g).weak lk s2⟩
theorem RetOk.unlock {K : KC} {H0 H0' : Hp} {F2 F3 : Fz} {H : Hp} {v : V} {z : Res} (h : RetOk K H0' F2 H v z) (fi : FEi F2 F3) (ff : F3.f = F2.f) (w : ∀ p, H0' p = none → H0 p = none ∧ (F2.t p = none → F3.t p = none)) : RetOk K H0 F3 H v z := by
  cases z with
  | sh x => exact Vp.up fi _ _ h
  | fr c =>
    obtain ⟨p, a, b, d, t, e⟩ := h
    exact ⟨p, a, (w p b).1, by rw [ff]; exact d, (w p b).2 t, e.up fi fun _ q => q⟩
  | sl i => exact h.elim
  | fl n f => exact h.elim
theorem ds_for {tg it : Expr} {body : List Stmt} {p : Pat} {f : IF} {g : SF} (hp : PassesOwn (model X.prog X.w) X.A X.env X.xe) (hc : X.calm = true) (hi : DI X tg it f) (hg : DG X tg p) (hb : DSs X body g)
    (hs : ∀ x, foldedSetIterable it X.env x = pure x := by intro _; rfl) : DS X (.For tg it body [] pos) (sFor p f g) := by
  obtain ⟨w, a1, a2⟩ := hi.ex
  obtain ⟨tg', b1, b2⟩ := hg.ex
  obtain ⟨tb, c1, c2⟩ := hb.ex
  refine ⟨_, ps_for hp hc a1 b1 c1 hs, fun B H0 F0 F H σ r fl r' q j D a => ?_⟩
  simp only [sFor, Option.bind_eq_some_iff] at q
  obtain ⟨⟨ds, l, r1⟩, q1, ⟨fl1, r2⟩, q2, q3⟩ := q
  cases q3
  dsimp only at a q2
  refine a2 _ _ _ _ _ _ _ _ _ _ q1 j _ fun F1 H1 B' H0' FL T e1 lk ok => ?_
  have j1 := lk.j
  -- all ways out of the loop
  have out : After X.kc B' H0' F0 FL D (lock l r1) σ r2 fl1 := by
    have a := a.later e1.f e1.kp
    cases fl1 with
    | nx =>
      exact fun F' H' σ' e' k' j' => by
        obtain ⟨F3, u1, u2, u3, u4, u5, u6, _⟩ := lk.un F' H' σ' r2 e' k' j'
        exact a F3 H' σ' u1 u4 u5
    | bk =>
      exact fun F' H' σ' e' k' j' => by
        obtain ⟨F3, u1, u2, u3, u4, u5, u6, _⟩ := lk.un F' H' σ' r2 e' k' j'
        exact a F3 H' σ' u1 u4 u5
    | ct =>
      exact fun F' H' σ' e' k' j' => by
        obtain ⟨F3, u1, u2, u3, u4, u5, u6, _⟩ := lk.un F' H' σ' r2 e' k' j'
        exact a F3 H' σ' u1 u4 u5
    | rt z =>
      exact fun F' H' σ' v e' k' j' o => by
        obtain ⟨F3, u1, u2, u3, u4, u5, u6, _⟩ := lk.un F' H' σ' r2 e' k' j'
        exact a F3 H' σ' v u1 u4 u5 (o.unlock u2 u3 u6)
  refine ⟨fun i m σ' H => m = ds.length - i ∧ i ≤ ds.length ∧ ∃ F r, FEx FL F ∧ Kp (lock l r1) σ r σ' ∧ J X.kc B' H0' F0 F H σ' r ∧ runFor p g (ds.drop i) r = some (fl1, r2), ⟨ds.length, by simp, Nat.zero_le _, FL, lock l r1, .refl _, .refl, j1, q2⟩, ?_⟩
  rintro i m σ2 H2 ⟨rfl, hi, F2, r3, e2, k2, j2, q3⟩
  have oki := ok i F2 H2 e2 j2.fh j2.e0
  by_cases hlt : i < ds.length
  · obtain ⟨go, yl⟩ := oki.1 hlt
    rw [List.drop_eq_getElem_cons hlt] at q3
    simp only [runFor, Option.bind_eq_some_iff] at q3
    obtain ⟨r4, q4, ⟨fl4, r5⟩, q5, q6⟩ := q3
    refine .inr ⟨go, fun σ' H' => ∃ F r, FEx FL F ∧ Kp (lock l r1) σ r σ' ∧ J X.kc B' H0' F0 F H' σ' r ∧ runFor p g (ds.drop (i + 1)) r = some (fl1, r2), fun σ' H' ⟨F', r', h1, h2, h3, h4⟩ => ⟨ds.length - (i + 1), by omega, rfl, by omega, F', r', h1, h2, h3, h4⟩, fun x H3 y => ?_⟩
    obtain ⟨F3, gr, d, hd, dp⟩ := yl x H3 y
    rw [List.getElem?_eq_getElem hlt] at hd; cases hd
    have j3 := j2.grow gr
    refine b2 _ _ _ _ _ _ _ _ _ _ q4 j3 dp _ fun σ4 j4 kp4 _ _ => ?_
    refine c2 _ _ _ _ _ _ _ _ _ q5 j4 _ ?_
    have ee : FEx FL F3 := e2.trans gr.fe
    have kk : Kp (lock l r1) σ r4 σ4 := k2.trans kp4
    cases fl4 with
    | nx => exact fun F5 H5 σ5 e5 k5 j5 => ⟨F5, r5, ee.trans e5, kk.trans k5, j5, q6⟩
    | ct => exact fun F5 H5 σ5 e5 k5 j5 => ⟨F5, r5, ee.trans e5, kk.trans k5, j5, q6⟩
    | bk =>
      cases q6
      exact fun F5 H5 σ5 e5 k5 j5 => out F5 H5 σ5 (ee.trans e5) (kk.trans k5) j5
    | rt z =>
      cases q6
      exact fun F5 H5 σ5 v e5 k5 j5 o => out F5 H5 σ5 v (ee.trans e5) (kk.trans k5) j5 o
  · have e : i = ds.length := by omega
    subst e
    rw [List.drop_length] at q3
    cases q3
    exact .inl ⟨oki.2 (Nat.le_refl _), out F2 H2 σ2 e2 k2 j2⟩
theorem ds_while {c : Expr} {body : List Stmt} {t : TF} {g : SF} (n : Nat) (hp : PassesOwn (model X.prog X.w) X.A X.env X.xe) (hc : DT X c t) (hb : DSs X body g) : DS X (.While c body [] pos) (runWhile t g n) := by
  obtain ⟨tc, a1, a2⟩ := hc.ex
  obtain ⟨tb, c1, c2⟩ := hb.ex
  refine ⟨_, ps_while hp a1 c1, fun B H0 F0 F H σ r fl r' q j D a => ?_⟩
  refine ⟨fun m σ' H => ∃ F1 r1, FEx F F1 ∧ Kp r σ r1 σ' ∧ J X.kc B H0 F0 F1 H σ' r1 ∧ runWhile t g m r1 = some (fl, r'), ⟨n, F, r, .refl _, .refl, j, q⟩, ?_⟩
  rintro m σ1 H1 ⟨F1, r1, e1, k1, j1, q1⟩
  cases m with
  | zero => cases q1
  | succ m =>
    simp only [runWhile, Option.bind_eq_some_iff] at q1
    obtain ⟨⟨b, r2⟩, q2, q3⟩ := q1
    refine a2 _ _ _ _ _ _ _ _ _ q2 j1 _ fun F2 H2 e2 j2 => ?_
    have ee : FEx F F2 := e1.trans e2.f
    have kk : Kp r σ r2 σ1 := k1.trans e2.kp
    cases b with
    | false =>
      rw [if_neg Bool.false_ne_true] at q3 ⊢
      cases q3
      exact a F2 H2 σ1 ee kk j2
    | true =>
      rw [if_pos rfl] at q3 ⊢
      simp only [Option.bind_eq_some_iff] at q3
      obtain ⟨⟨fl4, r4⟩, q5, q6⟩ := q3
      refine ⟨fun σ' H' => ∃ F1 r1, FEx F F1 ∧ Kp r σ r1 σ' ∧ J X.kc B H0 F0 F1 H' σ' r1 ∧ runWhile t g m r1 = some (fl, r'), fun σ' H' ⟨F', r', h1, h2, h3, h4⟩ => ⟨m, Nat.lt_succ_self _, F', r', h1, h2, h3, h4⟩, ?_⟩
      refine c2 _ _ _ _ _ _ _ _ _ q5 j2 _ ?_
      cases fl4 with
      | nx => exact fun F5 H5 σ5 e5 k5 j5 => ⟨F5, r4, ee.trans e5, kk.trans k5, j5, q6⟩
      | ct => exact fun F5 H5 σ5 e5 k5 j5 => ⟨F5, r4, ee.trans e5, kk.trans k5, j5, q6⟩
      | bk =>
        cases q6
        exact fun F5 H5 σ5 e5 k5 j5 => a F5 H5 σ5 (ee.trans e5) (kk.trans k5) j5
      | rt z =>
        cases q6
        exact fun F5 H5 σ5 v e5 k5 j5 o => a F5 H5 σ5 v (ee.trans e5) (kk.trans k5) j5 o
end
end CM
end
section
set_option Elab.async false
set_option linter.all false
set_option maxRecDepth 100000
set_option autoImplicit false
namespace CM
open PySem PySem.Spec PyProof.Rows L2

/-! ### the readings of denotations themselves -/
def tD (K : KC) (b : Bool) (f : EF) : TE := fun σ H Q => ∃ (B H0 F0 : Hp) (F : Fz) (r : Env) (z : Res) (r' : Env), f r = some (z, r') ∧ J K B H0 F0 F H σ r ∧ ∀ F' H' v, Ge b F H r F' H' r' → J K B H0 F0 F' H' σ r' → ResOk K H0 F' H' σ r' v z → Q v H'
def ttD (K : KC) (f : TF) : TT := fun σ H Q => ∃ (B H0 F0 : Hp) (F : Fz) (r : Env) (b : Bool) (r' : Env), f r = some (b, r') ∧ J K B H0 F0 F H σ r ∧ ∀ F' H', Ge false F H r F' H' r' → J K B H0 F0 F' H' σ r' → Q b H'
def gD (K : KC) (q : Pat) : TG := fun v σ H Q => ∃ (B H0 F0 : Hp) (F : Fz) (r r' : Env) (x : D), bindP q x r = some r' ∧ J K B H0 F0 F H σ r ∧ Vp K F v x ∧ ∀ σ', J K B H0 F0 F H σ' r' → Kp r σ r' σ' → r'.st = r.st → (∀ vs : List Nat, (∀ i ∈ ptSlots q, i ∈ vs) → wipe σ' vs = wipe σ vs) → Q σ' H
section
variable {X : Cx} {e : Expr}
theorem DE.can {f : EF} {b : Bool} (h : DE X b e f) : PE X e (tD X.kc b f) := by
  obtain ⟨t, a, b⟩ := h.ex
  exact ⟨fun pins s σ H Q I ⟨B, H0, F0, F, r, z, r', q, j, k⟩ => a.run pins s σ H Q I (b _ _ _ _ _ _ _ _ _ q j Q k)⟩
theorem DT.can {f : TF} (h : DT X e f) : PT X e (ttD X.kc f) := by
  obtain ⟨t, a, b⟩ := h.ex
  exact ⟨fun pins s σ H Q I ⟨B, H0, F0, F, r, z, r', q, j, k⟩ => a.run pins s σ H Q I (b _ _ _ _ _ _ _ _ _ q j Q k)⟩
theorem DG.can {q : Pat} (h : DG X e q) : PG X e (gD X.kc q) := by
  obtain ⟨t, a, b⟩ := h.ex
  exact ⟨fun pins s σ H v u Q I rv ⟨B, H0, F0, F, r, r', x, q, j, d, k⟩ => a.run pins s σ H v u Q I rv (b _ _ _ _ _ _ _ _ _ _ q j d Q k)⟩
end
structure DTs (X : Cx) (es : List Expr) (f : TF) : Prop where
  can : PTs X es (ttD X.kc f)
theorem dts_nil {X : Cx} : DTs X [] tYesD := ⟨⟨fun pins s σ H Q I ⟨B, H0, F0, F, r, z, r', q, j, k⟩ => pts_nil.run pins s σ H Q I (by
  cases q
  exact k F H .refl j)⟩⟩
theorem dts_one {X : Cx} {e : Expr} {f : TF} (h : DT X e f) : DTs X [e] f := ⟨pts_one h.can⟩

section
variable {K : KC} {F F' F1 : Fz} {H H' H1 B H0 F0 : Hp} {σ : L2.St} {r r' : Env} {v : V} {c : C} {x : D} {p : Addr} {s : Slot} {o : HO}
/-- slots forgotten -/
theorem J.wipe (j : J K B H0 F0 F H σ r) : ∀ vs : List Nat, J K B H0 F0 F H (wipe σ vs) (wipeE r vs)
  | [] => j
  | i :: vs => by
    have j1 := J.wipe j vs
    unfold L2.wipe wipeE
    refine ⟨j1.eb, j1.e0, j1.ef, j1.fh, j1.nw, j1.so, by rw [List.length_set, put_len]; exact j1.len, fun k t q => ?_, fun k l c e p h1 h2 h3 h4 => ?_⟩
    · rcases put_at q with ⟨_, z, _⟩ | ⟨z, q⟩
      · subst z; trivial
      · rw [List.getElem?_set_ne z]; exact j1.sl k t q
    · have g : ∀ {k : Nat} {c : C}, ((wipeE r vs).put i .no).sl[k]? = some (.ow c) → i ≠ k ∧ (wipeE r vs).sl[k]? = some (.ow c) := fun {k c} q => by
        rcases put_at q with ⟨_, z, _⟩ | ⟨z, q⟩
        · cases z
        · exact ⟨z, q⟩
      obtain ⟨z1, g1⟩ := g h1
      obtain ⟨z2, g2⟩ := g h2
      rw [List.getElem?_set_ne z1] at h3
      rw [List.getElem?_set_ne z2] at h4
      exact j1.dj k l c e p g1 g2 h3 h4
theorem wipeE_st {r : Env} : ∀ vs : List Nat, (wipeE r vs).st = r.st
  | [] => rfl
  | i :: vs => wipeE_st vs
theorem wipe_own {r : Env} {i : Nat} {s : Slot} (hs : s ≠ .no) : ∀ {vs : List Nat}, (wipeE r vs).sl[i]? = some s → r.sl[i]? = some s ∧ i ∉ vs
  | [], q => ⟨q, by simp⟩
  | v :: vs, q => by
    unfold wipeE at q
    rcases put_at q with ⟨_, z, _⟩ | ⟨z, q⟩
    · exact absurd z hs
    · obtain ⟨a, b⟩ := wipe_own hs q
      exact ⟨a, fun h => (List.mem_cons.mp h).elim (fun y => z y.symm) b⟩
theorem Lent.ne {s : Slot} (h : Lent s) : s ≠ .no := fun z => by subst z; exact h
/-- a thing that no slot has and that is not for good may change -/
theorem J.side (j : J K B H0 F0 F H σ r) {o : HO} (hf : F.f p = none) (ht : F.t p = none) (hn : ∀ (i : Nat) (e : C), r.sl[i]? = some (.ow e) → σ[i]? ≠ some (some (.ref p))) (h0 : H0 p = none := by assumption) : J K B H0 F0 F (upd H p o) σ r := by
  refine ⟨j.eb, j.e0.side h0, j.ef, j.fh.side hf, j.nw, j.so.same (.refl _) rfl (fun q w o e => by rw [upd_ne fun z => by subst z; exact w ht]; exact e) (fun q w => ?_), j.len, fun i s q => ?_, j.dj⟩
  · cases t : F.t q with
    | none => exact absurd t w
    | some u => exact (j.so.sep q u t).1
  · have b := j.sl i s q
    cases s with
    | no => trivial
    | sh d => exact b
    | bo c => exact b
    | lk c => exact b
    | ow c =>
      obtain ⟨p', a, b, d, t, e⟩ := b
      have z : p' ≠ p := fun z => hn i c q (by rw [← z]; exact a)
      exact ⟨p', a, b, d, t, e.up (FEi.refl _) fun o q => by rw [upd_ne z]; exact q⟩
theorem wipe_len (σ : L2.St) (vs : List Nat) : (L2.wipe σ vs).length = σ.length := L2.wipe_length σ vs
theorem wipe_at {σ : L2.St} {i : Nat} : ∀ {vs : List Nat}, i ∉ vs → (L2.wipe σ vs)[i]? = σ[i]?
  | [], _ => rfl
  | v :: vs, h => by
    unfold L2.wipe
    rw [List.getElem?_set_ne (fun z => h (by rw [z]; exact List.mem_cons_self))]
    exact wipe_at fun z => h (List.mem_cons_of_mem _ z)
/-- slots as they were -/
theorem unwipe_len (old r : Env) : ∀ vs : List Nat, (unwipe old r vs).sl.length = r.sl.length
  | [] => rfl
  | i :: vs => by unfold unwipe; rw [put_len]; exact unwipe_len old r vs
theorem unwipe_st (old r : Env) : ∀ vs : List Nat, (unwipe old r vs).st = r.st
  | [] => rfl
  | i :: vs => unwipe_st old r vs
theorem unwipe_at {old r : Env} {i : Nat} : ∀ {vs : List Nat}, i ∉ vs → (unwipe old r vs).sl[i]? = r.sl[i]?
  | [], _ => rfl
  | v :: vs, h => by
    have z : v ≠ i := fun z => h (by rw [z]; exact List.mem_cons_self)
    show ((unwipe old r vs).sl.set v _)[i]? = _
    rw [List.getElem?_set_ne z]
    exact unwipe_at fun z => h (List.mem_cons_of_mem _ z)
theorem unwipe_in {old r : Env} {i : Nat} : ∀ {vs : List Nat} {s : Slot}, i ∈ vs → (unwipe old r vs).sl[i]? = some s → s = oldSlot old i
  | [], _, h, _ => by cases h
  | v :: vs, s, h, q => by
    unfold unwipe at q
    rcases put_at q with ⟨z, w, _⟩ | ⟨z, q⟩
    · subst z; exact w
    · rcases List.mem_cons.mp h with y | y
      · exact absurd y.symm z
      · exact unwipe_in y q
theorem oldSlot_lent {old : Env} {i : Nat} (h : Lent (oldSlot old i)) : old.sl[i]? = some (oldSlot old i) := by
  unfold oldSlot at h ⊢
  split
  · rename_i y e; rw [e] at h; exact h.elim
  · rename_i y e; exact e
  · rename_i n1 n2
    split at h
    · exact h.elim
    · rename_i y e; exact absurd e (n2 y)
    · exact h.elim
theorem J.unwipe (j0 : J K B H0 F0 F H σ r) (vs : List Nat) (e : FEx F F') (j : J K B H0 F0 F' H' (L2.wipe σ vs) r') : J K B H0 F0 F' H' σ (unwipe r r' vs) := by
  have own : ∀ {k : Nat} {c : C}, (CM.unwipe r r' vs).sl[k]? = some (.ow c) → k ∉ vs ∧ r'.sl[k]? = some (.ow c) := fun {k c} q => by
    by_cases z : k ∈ vs
    · have w := unwipe_in z q
      unfold oldSlot at w
      split at w <;> cases w
    · rw [unwipe_at z] at q; exact ⟨z, q⟩
  refine ⟨j.eb, j.e0, j.ef, j.fh, j.nw, by rw [unwipe_st]; exact j.so, ?_, fun k t q => ?_, fun k l c e p h1 h2 h3 h4 => ?_⟩
  · rw [unwipe_len, ← j.len, wipe_len]
  · by_cases z : k ∈ vs
    · have w := unwipe_in z q
      subst w
      unfold oldSlot
      split
      · rename_i y e'
        obtain ⟨v, a, b⟩ := j0.sl k _ e'
        exact ⟨v, a, Vp.up e _ _ b⟩
      · rename_i y e'
        obtain ⟨v, a, b⟩ := j0.sl k _ e'
        exact ⟨v, a, b.up e (.refl _)⟩
      · trivial
    · rw [unwipe_at z] at q
      have b := j.sl k t q
      rw [wipe_at z] at b
      exact b
  · obtain ⟨z1, g1⟩ := own h1
    obtain ⟨z2, g2⟩ := own h2
    exact j.dj k l c e p g1 g2 (by rw [wipe_at z1]; exact h3) (by rw [wipe_at z2]; exact h4)
end
/-- what is lent was lent -/
def Lk0 (r r' : Env) : Prop := ∀ (i : Nat) (s : Slot), Lent s → r'.sl[i]? = some s → r.sl[i]? = some s
theorem Lk0.trans {r r1 r2 : Env} (a : Lk0 r r1) (b : Lk0 r1 r2) : Lk0 r r2 := fun i s l h => a i s l (b i s l h)
theorem Kp.lk0 {r r' : Env} {σ σ' : L2.St} (k : Kp r σ r' σ') : Lk0 r r' := fun i s l h => (k i s l h).1
theorem Lk0.wipe {r : Env} {vs : List Nat} : Lk0 r (wipeE r vs) := fun i s l h => (wipe_own l.ne h).1
theorem runComp_len {vs : List Nat} {p : Pat} {t : TF} {g : EF} : ∀ {ds : List D} {r r' : Env} {ys : List D}, runComp vs p t g ds r = some (ys, r') → ys.length ≤ ds.length
  | [], _, _, _, q => by cases q; exact Nat.le_refl _
  | d :: ds, r, r', ys, q => by
    simp only [runComp, Option.bind_eq_some_iff] at q
    obtain ⟨r1, _, ⟨b, r2⟩, _, q3⟩ := q
    cases b with
    | true =>
      rw [if_pos rfl] at q3
      simp only [Option.bind_eq_some_iff] at q3
      obtain ⟨_, _, _, _, ⟨zs, r4⟩, q6, q7⟩ := q3
      cases q7
      have := runComp_len q6
      simp
      exact this
    | false =>
      rw [if_neg Bool.false_ne_true] at q3
      have := runComp_len q3
      simp
      omega
theorem wipe_wipe {σ : L2.St} {vs : List Nat} : L2.wipe (L2.wipe σ vs) vs = L2.wipe σ vs := by
  have g : ∀ (us : List Nat) (σ : L2.St), (∀ i ∈ us, ∀ x, σ[i]? = some x → x = none) → L2.wipe σ us = σ := fun us => by
    induction us with
    | nil => intro σ _; rfl
    | cons u us ih =>
      intro σ h
      unfold L2.wipe
      rw [ih σ fun i hi => h i (List.mem_cons_of_mem _ hi)]
      apply List.ext_getElem?
      intro k
      by_cases z : u = k
      · subst z
        rw [List.getElem?_set_self']
        cases w : σ[u]? with
        | none => rfl
        | some y => rw [h u List.mem_cons_self y w]; rfl
      · rw [List.getElem?_set_ne z]
  refine g vs _ fun i hi x hx => ?_
  cases x with
  | none => rfl
  | some x => exact absurd hi (L2.wipe_some hx).2
section
variable {X : Cx} {pos : Pos}
theorem re_lc {K : KC} {b : Bool} {w : TI} {p : Pat} {f : IF} {t : TF} {g : EF} {vs : List Nat} (hw : RI K w f) (hp : ∀ i ∈ ptSlots p, i ∈ vs) :
    RE K false (tLc w (gD K p) (ttD K t) (tD K b g) vs) (eLc vs p f t g) := by
  intro B H0 F0 F H σ r z r' q j Q k
  simp only [eLc, Option.bind_eq_some_iff] at q
  obtain ⟨⟨ds, l, r1⟩, q1, q⟩ := q
  split at q
  case isFalse => cases q
  rename_i hlen
  simp only [Option.bind_eq_some_iff] at q
  obtain ⟨⟨ys, r2⟩, q2, q3⟩ := q
  cases q3
  dsimp only at k q2 hlen
  have hlen : ds.length < sizeLine := by rw [sizeLine_eq]; exact hlen
  refine hw _ _ _ _ _ _ _ _ _ _ q1 j _ fun F1 H1 B' H0' FL T e1 lk ok => ?_
  have j1 := lk.j
  intro L hL
  have h0 : H0' L = none := j1.e0.back hL
  have f1 : FL.f L = none := j1.fh.back hL
  have f0 : F0 L = none := j1.ef.back f1
  have t1 : FL.t L = none := j1.tagged L hL
  have g0 : Grow FL H1 FL (upd H1 L (.lst [])) := .lay j1.fh hL
  have own0 : ∀ (i : Nat) (e : C), (wipeE (lock l r1) vs).sl[i]? = some (.ow e) → (L2.wipe σ vs)[i]? ≠ some (some (.ref L)) := fun i e q z => ((j1.wipe vs).ownH q z).1 hL
  have nolok : ∀ F2, FEx FL F2 → ∀ n f, F2.t L ≠ some (.lok n f) := fun F2 e n f z => by
    have := (e.l L n f).mpr z
    rw [t1] at this; cases this
  refine ⟨fun i m H => m = ds.length - i ∧ i ≤ ds.length ∧ ∃ F r acc av, FEx FL F ∧ Lk0 (wipeE (lock l r1) vs) r ∧ J K B' (upd H0' L (.lst av)) F0 F H (L2.wipe σ vs) r ∧ VpAll K F av acc ∧ acc.length ≤ i ∧ ∃ zs, runComp vs p t g (ds.drop i) r = some (zs, r2) ∧ ys = acc ++ zs,
    ⟨ds.length, by simp, Nat.zero_le _, FL, wipeE (lock l r1) vs, [], [], .refl _, fun _ _ _ h => h, ((j1.grow g0).wipe vs).hold h0 f1 t1 upd_same own0, .nil, Nat.le_refl _, ys, q2, rfl⟩, ?_⟩
  rintro i m H2 ⟨rfl, hi, F2, ρ, acc, av, e2, l2, j2, da, hacc, zs, q3, rfl⟩
  have eb : Ex B' H0' := j1.eb
  have oki := ok i F2 H2 e2 j2.fh ((Ex.new h0).trans j2.e0)
  by_cases hlt : i < ds.length
  · obtain ⟨go, yl⟩ := oki.1 hlt
    rw [List.drop_eq_getElem_cons hlt] at q3
    simp only [runComp, Option.bind_eq_some_iff] at q3
    obtain ⟨r3, q4, ⟨b, r4⟩, q5, q6⟩ := q3
    refine .inr ⟨go, fun H => ∃ F r acc' av, FEx FL F ∧ Lk0 (wipeE (lock l r1) vs) r ∧ J K B' (upd H0' L (.lst av)) F0 F H (L2.wipe σ vs) r ∧ VpAll K F av acc' ∧ acc'.length ≤ i + 1 ∧ ∃ zs', runComp vs p t g (ds.drop (i + 1)) r = some (zs', r2) ∧ acc ++ zs = acc' ++ zs',
      fun H' ⟨F', r', acc', av', h1, h2, h3, h4, h5, h6⟩ => ⟨ds.length - (i + 1), by omega, rfl, by omega, F', r', acc', av', h1, h2, h3, h4, h5, h6⟩, fun x H3 y => ?_⟩
    obtain ⟨F3, gr, d, hd, dp⟩ := yl x H3 y
    rw [List.getElem?_eq_getElem hlt] at hd; cases hd
    have j3 := j2.grow gr
    refine ⟨_, _, _, _, _, _, _, q4, j3, dp, fun σ4 j4 k4 _ w4 => ?_⟩
    have wv := w4 vs hp
    rw [wipe_wipe] at wv
    refine ⟨wv, ?_⟩
    refine ⟨_, _, _, _, _, _, _, q5, j4, fun F5 H5 e5 j5 => ?_⟩
    have ee : FEx FL F5 := (e2.trans gr.fe).trans e5.f
    have ll : Lk0 (wipeE (lock l r1) vs) r4 := (l2.trans k4.lk0).trans e5.k
    have lv : av.length = acc.length := VpAll.length da
    have es : (upd H0' L (HO.lst av)) L = some (.lst av) := upd_same
    cases b with
    | true =>
      show tD K _ g σ4 H5 _
      rw [if_pos rfl] at q6
      simp only [Option.bind_eq_some_iff] at q6
      obtain ⟨⟨z, r6⟩, q7, ⟨y6, r7⟩, q8, ⟨zs', r8⟩, q9, q10⟩ := q6
      cases q10
      refine ⟨_, _, _, _, _, _, _, q7, j5, fun F6 H6 v6 e6 j6 k6 => ?_⟩
      obtain ⟨F7, e7, j7, d7⟩ := toSh_ok q8 j6 k6
      have e57 : FEx FL F7 := (ee.trans e6.f).trans e7.f
      obtain ⟨j8, f8, t8, h8, n8⟩ := j7.drop h0 eb f0 (nolok _ e57) (fun ⟨_, z⟩ => by cases z)
      refine ⟨av, h8, by omega, F7, wipeE r7 vs, acc ++ [y6], av ++ [v6], e57, (((ll.trans e6.k).trans e7.k).trans .wipe), ?_, VpAll.app (VpAll.up (((gr.fe.trans e5.f).trans e6.f).trans e7.f) _ _ da) (.cons d7 .nil), by simp; omega, zs', q9, by simp⟩
      have j9 := j8.wipe vs
      rw [wv] at j9
      have n9 : ∀ (i : Nat) (e : C), (wipeE r7 vs).sl[i]? = some (.ow e) → (L2.wipe σ vs)[i]? ≠ some (some (.ref L)) := fun i e q z => by
        obtain ⟨q', z'⟩ := wipe_own (fun w => by cases w) q
        rw [← wv, wipe_at z'] at z
        exact n8 i e q' z
      exact (j9.side f8 t8 n9).hold h0 f8 t8 upd_same n9
    | false =>
      show ∃ F r acc' av, _
      rw [if_neg Bool.false_ne_true] at q6
      have j9 := j5.wipe vs
      rw [wv] at j9
      exact ⟨F5, wipeE r4 vs, acc, av, ee, ll.trans .wipe, j9, VpAll.up (gr.fe.trans e5.f) _ _ da, by omega, zs, q6, rfl⟩
  · have e : i = ds.length := by omega
    subst e
    rw [List.drop_length] at q3
    cases q3
    obtain ⟨j8, f8, t8, h8, n8⟩ := j2.drop h0 eb f0 (nolok _ e2) (fun ⟨_, z⟩ => by cases z)
    have j9 := J.unwipe j1 vs e2 j8
    have kp : Kp (lock l r1) σ (unwipe (lock l r1) r2 vs) σ := fun i s hl q => by
      refine ⟨?_, rfl⟩
      by_cases z : i ∈ vs
      · have w := unwipe_in z q
        subst w
        exact oldSlot_lent hl
      · rw [unwipe_at z] at q
        exact (wipe_own hl.ne (l2 i s hl q)).1
    obtain ⟨F3, u1, u2, u3, u4, u5, u6, u9⟩ := lk.un F2 H2 σ _ e2 kp j9
    have u7 := u6 L h0
    refine .inl ⟨oki.2 (Nat.le_refl _), k F3 H2 _ ⟨e1.f.trans u1, fun i s hl h => e1.k i s hl (u4 i s hl h).1, fun z => by cases z⟩ u5 ⟨L, rfl, u7.1, by rw [u3]; exact f8, u7.2 t8, ⟨av, h8, by rw [List.append_nil]; exact VpAll.up u2 _ _ da⟩, fun i e q z => ?_⟩⟩
    rcases u9 i e L q z with w | w
    · by_cases y : i ∈ vs
      · have w := unwipe_in y w
        unfold oldSlot at w
        split at w <;> cases w
      · rw [unwipe_at y] at w
        exact n8 i e w (by rw [wipe_at y]; exact z)
    · exact w h0
/-- [elt for p in it if t] -/
theorem de_lc {elt tg iter : Expr} {ifs : List Expr} {scope : Scope} {own : List (Str × Nat)} {p : Pat} {qb : Bool} {f : IF} {t : TF} {g : EF} (hc : X.calm = true) (hN : X.N.Nodup) (hi : DI X tg iter f) (ok : BlkOk X.N X.env.scope scope own)
    (hg : ∀ (s : Shared) (H : Hp) (C : Addr) (cl : List (Str × Addr)) (fp : List Addr), DG (X.blk s H scope (compEnvC scope cl C X.env) fp) tg p) (ht : ∀ (s : Shared) (H : Hp) (C : Addr) (cl : List (Str × Addr)) (fp : List Addr), DTs (X.blk s H scope (compEnvC scope cl C X.env) fp) ifs t)
    (he : ∀ (s : Shared) (H : Hp) (C : Addr) (cl : List (Str × Addr)) (fp : List Addr), DE (X.blk s H scope (compEnvC scope cl C X.env) fp) qb elt g) (hp : ∀ i ∈ ptSlots p, i ∈ own.map (·.2))
    (hs : ∀ x, foldedSetIterable iter X.env x = pure x := by intro _; rfl) : DE X false (.ListComp elt [⟨tg, iter, ifs, 0⟩] scope pos) (eLc (own.map (·.2)) p f t g) := by
  obtain ⟨w, a1, a2⟩ := hi.ex
  exact ⟨_, pe_lc hc hN a1 ok (fun s H C cl fp => (hg s H C cl fp).can) (fun s H C cl fp => (ht s H C cl fp).can) (fun s H C cl fp => (he s H C cl fp).can) hs, re_lc a2 hp⟩
theorem ds_setLc {i : Nat} {y : Str} {py spos : Pos} {elt tg iter : Expr} {ifs : List Expr} {scope : Scope} {own : List (Str × Nat)} {p : Pat} {qb : Bool} {f : IF} {t : TF} {g : EF} (hc : X.calm = true) (hN : X.N.Nodup) (hy : X.N[i]? = some y) (hyl : X.env.scope.names.lookup y = some .local)
    (hsw : swapsWith (.ListComp elt [⟨tg, iter, ifs, 0⟩] scope pos) (some (.Name y py)) spos.line X.env = pure true) (hi : DI X tg iter f) (ok : BlkOk X.N X.env.scope scope own)
    (hg : ∀ (s : Shared) (H : Hp) (C : Addr) (cl : List (Str × Addr)) (fp : List Addr), DG (X.blk s H scope (compEnvC scope cl C X.env) fp) tg p) (ht : ∀ (s : Shared) (H : Hp) (C : Addr) (cl : List (Str × Addr)) (fp : List Addr), DTs (X.blk s H scope (compEnvC scope cl C X.env) fp) ifs t)
    (he : ∀ (s : Shared) (H : Hp) (C : Addr) (cl : List (Str × Addr)) (fp : List Addr), DE (X.blk s H scope (compEnvC scope cl C X.env) fp) qb elt g) (hp : ∀ i ∈ ptSlots p, i ∈ own.map (·.2))
    (hs : ∀ x, foldedSetIterable iter X.env x = pure x := by intro _; rfl) : DS X (.Assign [.Name y py] (.ListComp elt [⟨tg, iter, ifs, 0⟩] scope pos) spos) (sSet i (eLc (own.map (·.2)) p f t g)) := by
  obtain ⟨w, a1, a2⟩ := hi.ex
  exact ⟨_, ps_setLc hc hN hy hyl hsw a1 ok (fun s H C cl fp => (hg s H C cl fp).can) (fun s H C cl fp => (ht s H C cl fp).can) (fun s H C cl fp => (he s H C cl fp).can) hs, rs_set (re_lc a2 hp)⟩
end
/-! ### a def -/
theorem argSlots_ok {K : KC} {F : Fz} {H : Hp} : ∀ {ms : List Bool} {vs : List V} {cs : List C} {r : List Slot}, argSlots ms cs = some r → ArgsOk K F H ms vs cs →
    r.length = vs.length ∧ ∀ (i : Nat) (s : Slot), r[i]? = some s → SlotOk K H H F H ((vs.map some)[i]?) s ∧ ∀ c, s ≠ .ow c
  | [], [], [], r, q, _ => by cases q; exact ⟨rfl, fun i s q => by simp at q⟩
  | m :: ms, v :: vs, c :: cs, r, q, h => by
    simp only [argSlots, Option.bind_eq_some_iff] at q
    obtain ⟨s0, q1, r', q2, q3⟩ := q
    cases q3
    have hh : ArgsOk K F H ms vs cs := by
      cases m
      · exact h.2
      · exact h.2
    obtain ⟨l, a⟩ := argSlots_ok q2 hh
    refine ⟨by simp [l], fun i s q => ?_⟩
    cases i with
    | succ i =>
      have q' : r'[i]? = some s := by simpa using q
      have b := a i s q'
      simpa using b
    | zero =>
      have q' : s0 = s := by simpa using q
      subst q'
      show SlotOk K H H F H (some (some v)) s0 ∧ _
      cases m with
      | true =>
        obtain ⟨⟨x, rfl, d⟩, _⟩ := h
        cases q1
        exact ⟨⟨v, rfl, d⟩, fun c z => by cases z⟩
      | false =>
        obtain ⟨d, _⟩ := h
        cases c with
        | d x =>
          simp only [argSlot] at q1
          by_cases hc : isCon x = true
          · rw [if_pos hc] at q1
            cases q1
            exact ⟨⟨v, rfl, d⟩, fun c z => by cases z⟩
          · rw [if_neg hc] at q1
            cases q1
            refine ⟨⟨v, rfl, ?_⟩, fun c z => by cases z⟩
            cases x with
            | list _ => exact absurd rfl hc
            | _ => exact d
        | dk _ => cases q1; exact ⟨⟨v, rfl, d⟩, fun c z => by cases z⟩
        | dt _ => cases q1; exact ⟨⟨v, rfl, d⟩, fun c z => by cases z⟩
  | [], [], _ :: _, _, _, h => by exact h.elim
  | [], _ :: _, _, _, _, h => by cases h
  | true :: _, [], _, _, _, h => by cases h
  | false :: _, [], _, _, _, h => by cases h
  | true :: _, _ :: _, [], _, _, h => by cases h
  | false :: _, _ :: _, [], _, _, h => by cases h
section
variable {P : Program} {w : World} {K : PySem.W.Frag} {mg : Str → Option Value} {base : Heap}
/-- THE RULE: a def whose body has a denotation -/
theorem fn_den {x qual : Str} {st : Stmt} {f : Addr} {fd : FuncData} {N ps : List Str} {k : Nat} {ms : List Bool} {body : SF} (F : Fun K x qual st f fd) (S : FnScope N ps (defScope st)) (hl : ms.length = ps.length)
    (hbody : ∀ (cdv : Value) (A : Around) (outer : List PySem.Env) (s : Shared) (H : Hp) (E : XK), Room k (A.deeper (envOfC qual (defScope st) s.heap.objs.size f cdv)) →
      DSs (cxOf CX0 P w K mg base N qual (defScope st) f cdv A outer s H E).nox (defBody st) body) : FnOk P w K mg base CX0 (k + 1) f fd ps (spD ⟨K, mg⟩ ms (dDef N.length ms body)) := by
  refine F.ok S (fun vs H Q E h => ?_) (fun cdv A outer s H vs Q E hr h => ?_)
  · obtain ⟨_, _, _, _, _, _, _, a, _⟩ := h
    rw [a.length, hl]
  · obtain ⟨F1, cs, sto, z, sto', e, so, a, q, k1⟩ := h
    obtain ⟨t, b1, b2⟩ := (hbody cdv A outer s H E hr).ex
    refine ⟨t, b1, ?_⟩
    simp only [dDef, Option.bind_eq_some_iff] at q
    obtain ⟨r, q1, ⟨fl, r'⟩, q2, q3⟩ := q
    obtain ⟨l, sl⟩ := argSlots_ok q1 a
    have lv : vs.length = ps.length := a.length.trans hl
    have ln : ps.length ≤ N.length := by
      have := congrArg List.length S.pre
      rw [List.length_take] at this
      omega
    have j : J ⟨K, mg⟩ (priv F1 H) (priv F1 H) F1.f F1 H (L2.start N vs) ⟨r ++ List.replicate (N.length - r.length) .no, sto⟩ := by
      refine ⟨.refl _, priv_ex, .refl _, e, fun a o q => .inl q, so, ?_, fun i s q => ?_, fun i j c d p h1 h2 _ _ => ?_⟩
      · unfold L2.start
        simp [l]
      · rcases Nat.lt_or_ge i r.length with w | w
        · rw [List.getElem?_append_left w] at q
          unfold L2.start
          rw [List.getElem?_append_left (by simp; omega)]
          have ok := sl i s q
          cases s with
          | ow c => exact absurd rfl (ok.2 c)
          | no => exact ok.1
          | sh _ => exact ok.1
          | bo _ => exact ok.1
          | lk _ => exact ok.1
        · rw [List.getElem?_append_right w] at q
          rw [List.getElem?_replicate] at q
          split at q
          · cases q; trivial
          · cases q
      · rcases Nat.lt_or_ge i r.length with w | w
        · rw [List.getElem?_append_left w] at h1
          exact absurd rfl ((sl i _ h1).2 c)
        · rw [List.getElem?_append_right w, List.getElem?_replicate] at h1
          split at h1 <;> cases h1
    refine b2 _ _ _ _ _ _ _ _ _ q2 j _ ?_
    have nw : ∀ {F' H' σ' r'}, J ⟨K, mg⟩ (priv F1 H) (priv F1 H) F1.f F' H' σ' r' → ∀ a o, F'.f a = some o → F1.f a = some o ∨ priv F1 H a = none ∨ TupO o := fun j' => j'.nw
    cases fl with
    | nx =>
      cases q3
      exact fun F' H' σ' e' _ j' => k1 F' H' .non ⟨e', j'.e0, j'.fh, j'.nw⟩ j'.so .non
    | rt y =>
      cases q3
      exact fun F' H' σ' v e' _ j' o => k1 F' H' v ⟨e', j'.e0, j'.fh, j'.nw⟩ j'.so o
    | bk => cases q3
    | ct => cases q3
end
end CM
end
section
set_option Elab.async false
set_option linter.all false
set_option maxRecDepth 100000
set_option autoImplicit false
namespace CM
open PySem PySem.Spec PyProof.Rows L2 PySem.SeqAt

/-! ### == of data without dicts, whatever their texts -/
mutual
theorem dp_nod {K : PySem.W.Frag} {H : Hp} : ∀ (d : D) (v : V), Dp K H v d → nod d = true
  | .none, _, _ => rfl
  | .bool _, _, _ => rfl
  | .int _, _, _ => rfl
  | .str _, _, _ => rfl
  | .list xs, _, h => by
    cases h with
    | lst _ ha => rw [nod]; exact dps_nod xs _ ha
  | .tuple xs, _, h => by
    cases h with
    | tup _ ha => rw [nod]; exact dps_nod xs _ ha
  | .dict _, _, h => by cases h
theorem dps_nod {K : PySem.W.Frag} {H : Hp} : ∀ (ds : List D) (vs : List V), DpAll K H vs ds → nods ds = true
  | [], _, _ => rfl
  | d :: ds, _, h => by
    cases h with
    | cons h1 h2 => rw [nods, dp_nod d _ h1, dps_nod ds _ h2]; rfl
end
mutual
theorem rd_one {h : Heap} : ∀ (d d' : D) (v : Value) (as bs : List Addr), nod d = true → Reads h v d as → Reads h v d' bs → d = d'
  | .none, _, _, _, _, _, r, q => by cases r; cases q; rfl
  | .bool _, _, _, _, _, _, r, q => by cases r; cases q; rfl
  | .int _, _, _, _, _, _, r, q => by cases r; cases q; rfl
  | .str _, _, _, _, _, _, r, q => by cases r; cases q; rfl
  | .list xs, d', _, _, _, hn, r, q => by
    cases r with
    | list h1 h2 h3 h4 =>
      cases q with
      | list k1 k2 k3 k4 =>
        rw [h1] at k1; cases k1
        rw [h3] at k3; cases k3
        exact congrArg PyData.list (rds_one xs _ _ _ _ (by rw [nod] at hn; exact hn) h4 k4)
      | tuple k1 k2 k3 k4 =>
        rw [h1] at k1; cases k1
        rw [h2] at k2; exact absurd k2 (by decide)
      | dict k1 k2 k3 k4 =>
        rw [h1] at k1; cases k1
        rw [h2] at k2; exact absurd k2 (by decide)
  | .tuple xs, d', _, _, _, hn, r, q => by
    cases r with
    | tuple h1 h2 h3 h4 =>
      cases q with
      | list k1 k2 k3 k4 =>
        rw [h1] at k1; cases k1
        rw [h2] at k2; exact absurd k2 (by decide)
      | tuple k1 k2 k3 k4 =>
        rw [h1] at k1; cases k1
        rw [h3] at k3; cases k3
        exact congrArg PyData.tuple (rds_one xs _ _ _ _ (by rw [nod] at hn; exact hn) h4 k4)
      | dict k1 k2 k3 k4 =>
        rw [h1] at k1; cases k1
        rw [h2] at k2; exact absurd k2 (by decide)
  | .dict _, _, _, _, _, hn, _, _ => by cases hn
theorem rds_one {h : Heap} : ∀ (xs ys : List D) (vs : List Value) (as bs : List Addr), nods xs = true → ReadsAll h vs xs as → ReadsAll h vs ys bs → xs = ys
  | [], _, _, _, _, _, r, q => by cases r; cases q; rfl
  | x :: xs, _, _, _, _, hn, r, q => by
    cases r with
    | cons r1 r2 =>
      cases q with
      | cons q1 q2 => rw [rd_one x _ _ _ _ (nods_cons hn).1 r1 q1, rds_one xs _ _ _ _ (nods_cons hn).2 r2 q2]
end
mutual
theorem eqv_self : ∀ d : D, nod d = true → PyData.eqv d d = true
  | .none, _ => by rw [PyData.eqv]
  | .bool _, _ => by rw [PyData.eqv]; exact beq_self_eq_true _
  | .int _, _ => by rw [PyData.eqv]; exact beq_self_eq_true _
  | .str _, _ => by rw [PyData.eqv]; exact beq_self_eq_true _
  | .list xs, h => by rw [PyData.eqv]; exact eqvs_self xs (by rw [nod] at h; exact h)
  | .tuple xs, h => by rw [PyData.eqv]; exact eqvs_self xs (by rw [nod] at h; exact h)
  | .dict _, h => by cases h
theorem eqvs_self : ∀ xs : List D, nods xs = true → PyData.eqvAll xs xs = true
  | [], _ => by rw [PyData.eqvAll]
  | x :: xs, h => by rw [PyData.eqvAll, eqv_self x (nods_cons h).1, eqvs_self xs (nods_cons h).2]; rfl
end
mutual
theorem eq_nod : ∀ (x y : D) (A : Around) (s : Shared) (a b : Value) (as bs : List Addr), Reads s.heap a x as → Reads s.heap b y bs → nod x = true → nod y = true → A.units + min x.depth y.depth < cLine → EqAt A s a b (PyData.eqv x y)
  | .list xs, y, A, s, a, b, as, bs, ra, rb, hx, hy, hu => by
    cases ra with
    | @list l o vs n _ as1 h1 h2 h3 h4 =>
      have hl : s.heap.IsList l vs := ⟨_, h1, h2, _, h3⟩
      cases rb with
      | none => rw [PyData.eqv]; exact EqAt.list_none hl (Nat.lt_of_le_of_lt (Nat.le_add_right _ _) hu)
      | bool c => rw [PyData.eqv]; exact EqAt.list_bool c hl (Nat.lt_of_le_of_lt (Nat.le_add_right _ _) hu)
      | int c t => rw [PyData.eqv]; exact EqAt.list_int c t hl (Nat.lt_of_le_of_lt (Nat.le_add_right _ _) hu)
      | str c t => rw [PyData.eqv]; exact EqAt.list_str c t hl (Nat.lt_of_le_of_lt (Nat.le_add_right _ _) hu)
      | tuple k1 k2 k3 k4 => rw [PyData.eqv]; exact EqAt.list_tuple hl ⟨_, k1, k2, _, k3⟩ (Nat.lt_of_le_of_lt (Nat.le_add_right _ _) hu)
      | dict k1 k2 k3 k4 => cases hy
      | @list l' o' vs' n' ys bs1 k1 k2 k3 k4 =>
        have hl' : s.heap.IsList l' vs' := ⟨_, k1, k2, _, k3⟩
        have nx : nods xs = true := by rw [nod] at hx; exact hx
        have ny : nods ys = true := by rw [nod] at hy; exact hy
        have n1 : vs.size = xs.length := by simpa using ReadsAll.length _ _ _ h4
        have n2 : vs'.size = ys.length := by simpa using ReadsAll.length _ _ _ k4
        rw [PyData.eqv]
        by_cases e : l = l'
        · subst e
          rw [h1] at k1; cases k1
          rw [h3] at k3; cases k3
          have z := rds_one xs ys _ _ _ nx h4 k4
          subst z
          rw [eqvs_self xs nx]
          exact EqAt.same _
        · by_cases hs : vs.size = vs'.size
          · have z := eqvAll_same_length (xs := xs) (ys := ys) (by omega)
            rw [← z, ← n1]
            refine EqAt.of_refs e (RcAt.lists hl hl' hs (room_here hu) fun j j1 j2 => ?_)
            have z9 := eq_nods xs ys A.in1 s vs.toList vs'.toList _ _ h4 k4 nx ny (room_in hu) j (by simpa using j1) (by simpa using j2)
            simp only [Array.getElem_toList] at z9
            exact z9
          · have z := eqvAll_other_length (xs := xs) (ys := ys) (by omega)
            rw [z]
            exact EqAt.of_refs e (RcAt.lists_lengths hl hl' (by simpa using hs) (room_here hu))
  | .tuple xs, y, A, s, a, b, as, bs, ra, rb, hx, hy, hu => by
    cases ra with
    | @tuple l o vs n _ as1 h1 h2 h3 h4 =>
      have hl : s.heap.IsTuple l vs := ⟨_, h1, h2, _, h3⟩
      cases rb with
      | none => rw [PyData.eqv]; exact EqAt.tuple_none hl (Nat.lt_of_le_of_lt (Nat.le_add_right _ _) hu)
      | bool c => rw [PyData.eqv]; exact EqAt.tuple_bool c hl (Nat.lt_of_le_of_lt (Nat.le_add_right _ _) hu)
      | int c t => rw [PyData.eqv]; exact EqAt.tuple_int c t hl (Nat.lt_of_le_of_lt (Nat.le_add_right _ _) hu)
      | str c t => rw [PyData.eqv]; exact EqAt.tuple_str c t hl (Nat.lt_of_le_of_lt (Nat.le_add_right _ _) hu)
      | list k1 k2 k3 k4 => rw [PyData.eqv]; exact EqAt.tuple_list hl ⟨_, k1, k2, _, k3⟩ (Nat.lt_of_le_of_lt (Nat.le_add_right _ _) hu)
      | dict k1 k2 k3 k4 => cases hy
      | @tuple l' o' vs' n' ys bs1 k1 k2 k3 k4 =>
        have hl' : s.heap.IsTuple l' vs' := ⟨_, k1, k2, _, k3⟩
        have nx : nods xs = true := by rw [nod] at hx; exact hx
        have ny : nods ys = true := by rw [nod] at hy; exact hy
        have n1 : vs.size = xs.length := by simpa using ReadsAll.length _ _ _ h4
        have n2 : vs'.size = ys.length := by simpa using ReadsAll.length _ _ _ k4
        rw [PyData.eqv]
        by_cases e : l = l'
        · subst e
          rw [h1] at k1; cases k1
          rw [h3] at k3; cases k3
          have z := rds_one xs ys _ _ _ nx h4 k4
          subst z
          rw [eqvs_self xs nx]
          exact EqAt.same _
        · rw [← eqvAll_eq xs ys, ← n1, ← n2]
          refine EqAt.of_refs e (RcAt.tuples hl hl' (room_here hu) fun j j1 j2 => ?_)
          have z9 := eq_nods xs ys A.in1 s vs.toList vs'.toList _ _ h4 k4 nx ny (room_in hu) j (by simpa using j1) (by simpa using j2)
          simp only [Array.getElem_toList] at z9
          exact z9
  | .none, y, A, s, a, b, as, bs, ra, rb, hx, hy, hu => by
    have hu' : A.units < cLine := Nat.lt_of_le_of_lt (Nat.le_add_right _ _) hu
    cases ra
    cases rb with
    | none => rw [PyData.eqv]; exact EqAt.same _
    | bool c => rw [PyData.eqv]; exact EqAt.none_bool c
    | int c t => rw [PyData.eqv]; exact EqAt.none_int c t
    | str c t => rw [PyData.eqv]; exact EqAt.none_str c t
    | list k1 k2 k3 k4 => rw [PyData.eqv]; exact EqAt.none_list ⟨_, k1, k2, _, k3⟩ hu'
    | tuple k1 k2 k3 k4 => rw [PyData.eqv]; exact EqAt.none_tuple ⟨_, k1, k2, _, k3⟩ hu'
    | dict k1 k2 k3 k4 => cases hy
  | .bool i, y, A, s, a, b, as, bs, ra, rb, hx, hy, hu => by
    have hu' : A.units < cLine := Nat.lt_of_le_of_lt (Nat.le_add_right _ _) hu
    cases ra
    cases rb with
    | none => rw [PyData.eqv]; exact EqAt.bool_none i
    | bool c => rw [PyData.eqv]; exact EqAt.bool_bool i c
    | int c t => rw [PyData.eqv]; exact EqAt.bool_int i c t
    | str c t => rw [PyData.eqv]; exact EqAt.bool_str i c t
    | list k1 k2 k3 k4 => rw [PyData.eqv]; exact EqAt.bool_list i ⟨_, k1, k2, _, k3⟩ hu'
    | tuple k1 k2 k3 k4 => rw [PyData.eqv]; exact EqAt.bool_tuple i ⟨_, k1, k2, _, k3⟩ hu'
    | dict k1 k2 k3 k4 => cases hy
  | .int i, y, A, s, a, b, as, bs, ra, rb, hx, hy, hu => by
    have hu' : A.units < cLine := Nat.lt_of_le_of_lt (Nat.le_add_right _ _) hu
    cases ra with
    | int _ u =>
    cases rb with
    | none => rw [PyData.eqv]; exact EqAt.int_none i u
    | bool c => rw [PyData.eqv]; exact EqAt.int_bool i u c
    | int c t => rw [PyData.eqv]; exact EqAt.int_int i u c t
    | str c t => rw [PyData.eqv]; exact EqAt.int_str i u c t
    | list k1 k2 k3 k4 => rw [PyData.eqv]; exact EqAt.int_list i u ⟨_, k1, k2, _, k3⟩ hu'
    | tuple k1 k2 k3 k4 => rw [PyData.eqv]; exact EqAt.int_tuple i u ⟨_, k1, k2, _, k3⟩ hu'
    | dict k1 k2 k3 k4 => cases hy
  | .str i, y, A, s, a, b, as, bs, ra, rb, hx, hy, hu => by
    have hu' : A.units < cLine := Nat.lt_of_le_of_lt (Nat.le_add_right _ _) hu
    cases ra with
    | str _ u =>
    cases rb with
    | none => rw [PyData.eqv]; exact EqAt.str_none i u
    | bool c => rw [PyData.eqv]; exact EqAt.str_bool i u c
    | int c t => rw [PyData.eqv]; exact EqAt.str_int i u c t
    | str c t => rw [PyData.eqv]; exact EqAt.str_str i u c t
    | list k1 k2 k3 k4 => rw [PyData.eqv]; exact EqAt.str_list i u ⟨_, k1, k2, _, k3⟩ hu'
    | tuple k1 k2 k3 k4 => rw [PyData.eqv]; exact EqAt.str_tuple i u ⟨_, k1, k2, _, k3⟩ hu'
    | dict k1 k2 k3 k4 => cases hy
  | .dict _, _, _, _, _, _, _, _, _, _, hx, _, _ => by cases hx
theorem eq_nods : ∀ (xs ys : List D) (A : Around) (s : Shared) (vs ws : List Value) (as bs : List Addr), ReadsAll s.heap vs xs as → ReadsAll s.heap ws ys bs → nods xs = true → nods ys = true →
    A.units + min (PyData.depthAll xs) (PyData.depthAll ys) < cLine → ∀ j (h1 : j < vs.length) (h2 : j < ws.length), EqAt A s vs[j] ws[j] (pairEq xs ys j)
  | [], _, _, _, _, _, _, _, ra, _, _, _, _, j, h1, _ => by cases ra; exact absurd h1 (Nat.not_lt_zero _)
  | _ :: _, [], _, _, _, _, _, _, _, rb, _, _, _, j, _, h2 => by cases rb; exact absurd h2 (Nat.not_lt_zero _)
  | x :: xs, y :: ys, A, s, _, _, _, _, ra, rb, hx, hy, hu, j, h1, h2 => by
    cases ra with
    | cons r rs =>
      cases rb with
      | cons r' rs' =>
        cases j with
        | zero => exact eq_nod x y A s _ _ _ _ r r' (nods_cons hx).1 (nods_cons hy).1 (room_head hu)
        | succ j => exact eq_nods xs ys A s _ _ _ _ rs rs' (nods_cons hx).2 (nods_cons hy).2 (room_tail hu) j (Nat.lt_of_succ_lt_succ h1) (Nat.lt_of_succ_lt_succ h2)
end
end CM
end
section
set_option Elab.async false
set_option linter.all false
set_option maxRecDepth 100000
set_option autoImplicit false
namespace CM
open PySem PySem.Spec PyProof.Rows L2 PySem.SeqAt

theorem shallow_ok {x y : D} (h : shallow x y = true) : min x.depth y.depth ≤ 60 ∧ nod x = true ∧ nod y = true := by
  unfold shallow at h
  rw [Bool.and_eq_true, Bool.and_eq_true] at h
  exact ⟨of_decide_eq_true h.1, h.2.1, h.2.2⟩
def oD (K : KC) (g : C → C → Option Res) : R2 := fun x y H Q => ∃ (F : Fz) (a b : C) (z : Res), Ex F.f H ∧ (∀ p, H p = none → F.t p = none) ∧ Bd K F H x a ∧ Bd K F H y b ∧ g a b = some z ∧ ∀ F' H' v, Grow F H F' H' → RetOk K H F' H' v z → Q v H'
theorem DOp.of {X : Cx} {f : Value → Value → Sem Value} {g : C → C → Option Res} (h : OpR X f (oD X.kc g)) : DOp X f g := ⟨_, h, fun F H x y a b z e et ba bb q Q k => ⟨F, a, b, z, e, et, ba, bb, q, k⟩⟩
theorem DIx.of {X : Cx} {g : C → C → Option Res} (h : IxR X (oD X.kc g)) : DIx X g := ⟨_, h, fun F H x y a b z e et ba bb q Q k => ⟨F, a, b, z, e, et, ba, bb, q, k⟩⟩
def lD (K : KC) (g : List C → Option Res) : List V → Hp → VK → Prop := fun xs H Q => ∃ (F : Fz) (cs : List C) (z : Res), Ex F.f H ∧ (∀ p, H p = none → F.t p = none) ∧ Paired (Bd K F H) xs cs ∧ g cs = some z ∧ ∀ F' H' v, Grow F H F' H' → RetOk K H F' H' v z → Q v H'
theorem DCl.of {X : Cx} {f : Value} {g : List C → Option Res} (h : CallR X f (lD X.kc g)) : DCl X f g := ⟨_, h, fun F H xs cs z e et b q Q k => ⟨F, cs, z, e, et, b, q, k⟩⟩
section
variable {X : Cx}
/-- an operation on ints -/
theorem dop_int {f : Value → Value → Sem Value} {Cn : Int → Int → Prop} {h : Int → Int → V} {g : C → C → Option Res} (o : OpR X f (rI Cn h)) (k : ∀ a b z, g a b = some z → ∃ i j, a = .d (.int i) ∧ b = .d (.int j) ∧ Cn i j ∧ ∃ d, z = .sh d ∧ ∀ F, Vp X.kc F (h i j) d) : DOp X f g :=
  ⟨_, o, fun F H x y a b z e et ba bb q Q kk => by
    obtain ⟨i, j, rfl, rfl, c, d, rfl, dd⟩ := k a b z q
    have h1 : Vp X.kc F x (.int i) := ba
    have h2 : Vp X.kc F y (.int j) := bb
    cases h1; cases h2
    exact ⟨i, j, rfl, rfl, c, kk F H _ (.refl e) (dd F)⟩⟩
theorem dop_sub : DOp X (binaryOp .Sub) gSub := by
  have o : OpR X (binaryOp .Sub) (rI (fun _ _ => True) fun i j => .int (i - j)) := fun pins s σ H x y v u Q I rx ry ⟨i, j, e1, e2, _, q⟩ => op_sub pins s σ H x y v u Q I rx ry ⟨i, j, e1, e2, q⟩
  refine dop_int o fun a b z q => ?_
  unfold gSub at q
  split at q
  · cases q; exact ⟨_, _, rfl, rfl, trivial, _, rfl, fun H => .int _⟩
  · cases q
theorem rep_size (m : Nat) (x : Array Nat) : ∀ acc : Array Nat, ((List.replicate m x).foldl (· ++ ·) acc).size = acc.size + m * x.size := by
  induction m with
  | zero => intro acc; simp
  | succ m ih =>
    intro acc
    rw [List.replicate_succ, List.foldl_cons, ih, Array.size_append, Nat.add_mul]
    omega
theorem dop_mul : DOp X (binaryOp .Mult) gMul := by
  refine .of fun pins s σ H x y v u Q I rx ry ⟨F, a, b, z, e, et, ba, bb, q, k⟩ => ?_
  unfold gMul at q
  split at q
  · rename_i i j
    split at q
    · rename_i c
      cases q
      have h1 : Vp X.kc F x (.int i) := ba
      have h2 : Vp X.kc F y (.int j) := bb
      cases h1; cases h2
      refine op_mul pins s σ H _ _ v u Q I rx ry ⟨i, j, rfl, rfl, ?_, k F H _ (.refl e) (.int _)⟩
      rcases c with c | c
      · exact .inl ⟨by omega, by omega⟩
      · exact .inr ⟨by omega, by omega⟩
    · cases q
  · rename_i w n
    split at q
    · rename_i c
      cases q
      obtain ⟨c1, c2, c3, c4⟩ := c
      have h1 : Vp X.kc F x (.str w) := ba
      have h2 : Vp X.kc F y (.int n) := bb
      cases h1; cases h2
      obtain ⟨t, rfl⟩ := (show ∃ t, v = Value.str w t from rx)
      obtain ⟨t', rfl⟩ := (show ∃ t, u = Value.int n t from ry)
      have fin : ∀ tk : Nat, EP X pins σ Q (.str ⟨(List.replicate n.toNat w.cps).foldl (· ++ ·) #[]⟩ s.toks) { s with toks := tk } := fun tk => ⟨.str _, H, I.tok _, ⟨_, rfl⟩, k F H _ (.refl e) (.str _)⟩
      have wl : w.length = w.cps.size := rfl
      by_cases n0 : n = 0
      · subst n0
        refine P.mul_str (by decide) (fun h => absurd (by decide) h) (fun h => absurd (by decide) h) ?_
        rw [if_pos (by decide)]
        exact ⟨by decide, fin _⟩
      refine P.mul_str (by rw [decide_eq_false (by omega), decide_eq_false (by omega)]; rfl) (fun _ _ => ?_) (fun _ _ => ?_) ?_
      · rw [wl]
        have : (1000 : Int) ≤ (2 ^ 63 - 1) / n := (Int.le_ediv_iff_mul_le (by omega)).mpr (by omega)
        omega
      · rw [wl]
        have : w.cps.size * n.toNat ≤ 1000 * 1000 := Nat.mul_le_mul c4 (by omega)
        have hz : sizeLine = 16777216 := sizeLine_eq
        show decide (w.cps.size * n.toNat > sizeLine) = false
        exact decide_eq_false (by omega)
      · rw [if_neg (by omega)]
        split
        · rename_i h
          have h : n = 1 := by
            rw [Bool.or_eq_true] at h
            rcases h with h | h
            · exact beq_iff_eq.mp h
            · have := beq_iff_eq.mp h
              rw [wl] at this
              omega
          subst h
          refine ⟨.str _, H, I, ⟨t, ?_⟩, k F H _ (.refl e) (.str _)⟩
          simp
        · refine ⟨?_, fin _⟩
          show ((List.replicate n.toNat w.cps).foldl (· ++ ·) #[]).size ≤ sizeLine
          rw [rep_size]
          have : n.toNat * w.cps.size ≤ 1000 * 1000 := Nat.mul_le_mul (by omega) c4
          have hz : sizeLine = 16777216 := sizeLine_eq
          simp only [List.size_toArray, List.length_nil]
          omega
    · cases q
  · cases q
theorem dop_div : DOp X (binaryOp .FloorDiv) gDiv := by
  refine dop_int op_fdivW fun a b z q => ?_
  unfold gDiv at q
  split at q
  · rename_i i j
    split at q
    · rename_i c
      cases q
      exact ⟨i, j, rfl, rfl, c, _, rfl, fun H => .int _⟩
    · cases q
  · cases q
theorem dop_mod : DOp X (binaryOp .Mod) gMod := by
  refine dop_int op_mod fun a b z q => ?_
  unfold gMod at q
  split at q
  · rename_i i j
    split at q
    · rename_i c
      cases q
      exact ⟨i, j, rfl, rfl, c, _, rfl, fun H => .int _⟩
    · cases q
  · cases q
theorem dop_pow : DOp X (binaryOp .Pow) gPow := by
  refine dop_int op_pow fun a b z q => ?_
  unfold gPow at q
  split at q
  · rename_i i j
    split at q
    · rename_i c
      cases q
      exact ⟨i, j, rfl, rfl, c, _, rfl, fun H => .int _⟩
    · cases q
  · cases q
/-- lists that are read -/
theorem Inv.catL {pins : List (Addr × Obj)} {σ : L2.St} {H : Hp} {s : Shared} {a b : Addr} {xs ys : List V} (I : Inv X pins σ H s) (ha : SqL X.K H a xs) (hb : SqL X.K H b ys) (hz : xs.length + ys.length ≤ sizeLine) {Q : VK}
    (q : ∀ p, H p = none → Q (.ref p) (upd H p (.lst (xs ++ ys)))) : wpAny (model X.prog X.w) X.A (binaryOp .Add (.ref a) (.ref b)) (EP X pins σ Q) X.xe s := by
  obtain ⟨its, r, ⟨o, n, ho, hc, hd, hs⟩, _⟩ := I.list ha
  obtain ⟨its2, r2, ⟨o2, n2, ho2, hc2, hd2, hs2⟩, _⟩ := I.list hb
  have l1 := r.length
  have l2 := r2.length
  obtain ⟨c1, d1, e1, t1⟩ := o
  obtain ⟨c2, d2, e2, t2⟩ := o2
  simp only at hc hd hs hc2 hd2 hs2
  subst hc hd hs hc2 hd2 hs2
  have ea : its.toArray ++ its2.toArray = (its ++ its2).toArray := by simp
  refine concat_meets ⟨_, ho, rfl⟩ ⟨_, ho2, rfl⟩ noFill_list_add seq_list_add PySem.F.slot_list_add PySem.F.entry_list_add (PySem.F.args_list_add_2 _ _) (PyProof.Rows.list_addW a b its.toArray its2.toArray n n2 none none t1 t2 (by simp; omega)) ⟨ho, ho2, ?_⟩
  rw [ea]
  exact ⟨.ref _, _, I.lnew (t' := s.toks) (r.append r2) (by rw [List.length_append]; omega), rfl, q _ I.fresh⟩
theorem dop_add : DOp X (binaryOp .Add) gAdd := by
  refine .of fun pins s σ H x y v u Q I rx ry ⟨F, a, b, z, e, et, ba, bb, q, k⟩ => ?_
  unfold gAdd at q
  split at q
  · rename_i i j
    cases q
    have h1 : Vp X.kc F x (.int i) := ba
    have h2 : Vp X.kc F y (.int j) := bb
    cases h1; cases h2
    exact op_add pins s σ H _ _ v u Q I rx ry ⟨i, j, rfl, rfl, k F H _ (.refl e) (.int _)⟩
  · rename_i i j
    split at q
    · rename_i c
      cases q
      have h1 : Vp X.kc F x (.str i) := ba
      have h2 : Vp X.kc F y (.str j) := bb
      cases h1; cases h2
      exact op_add_str pins s σ H _ _ v u Q I rx ry ⟨i, j, rfl, rfl, by rw [sizeLine_eq]; exact c, k F H _ (.refl e) (.str _)⟩
    · cases q
  · rename_i xs ys
    split at q
    · rename_i c
      cases q
      have h1 : Vp X.kc F x (.tuple xs) := ba
      have h2 : Vp X.kc F y (.tuple ys) := bb
      cases h1 with
      | tup s1 a1 =>
        cases h2 with
        | tup s2 a2 =>
          refine op_catZ pins s σ H _ _ v u Q I rx ry ⟨_, _, _, _, rfl, rfl, e.t s1.sq, e.t s2.sq, by rw [VpAll.length a1, VpAll.length a2, sizeLine_eq]; exact c, fun z => ?_, fun _ z => ?_, tuT (xs ++ ys), fun p o hp po => ?_⟩
          · subst z; cases a1
            exact k F H _ (.refl e) (.tup s2 a2)
          · subst z; cases a2
            rw [List.append_nil] at k
            exact k F H _ (.refl e) (.tup s1 a1)
          · exact k _ _ _ (.put e hp) (.tup (.inl ⟨o, po, upd_same⟩) (VpAll.app (VpAll.up (FEi.put (e.back hp)) _ _ a1) (VpAll.up (FEi.put (e.back hp)) _ _ a2)))
    · cases q
  · rename_i xs ys
    split at q
    · rename_i c
      cases q
      obtain ⟨p1, vs, rfl, s1, a1⟩ := ba
      obtain ⟨p2, ws, rfl, s2, a2⟩ := bb
      cases rx; cases ry
      refine Inv.catL I s1 s2 (by rw [VpAll.length a1, VpAll.length a2, sizeLine_eq]; exact c) fun p hp => ?_
      have g : Grow F H F (upd H p (.lst (vs ++ ws))) := .lay e hp
      exact k _ _ _ g ⟨p, rfl, hp, e.back hp, et p hp, _, upd_same, VpAll.app a1 a2⟩
    · cases q
  · cases q
theorem hu60 {A : Around} {a b : Nat} (hu : A.units + 64 < cLine) (h : min a b ≤ 60) : A.units + min a b < cLine := by omega
theorem rc_eq {A : Around} {s : Shared} {a b : Value} {x y : D} {as bs : List Addr} (ra : Reads s.heap a x as) (rb : Reads s.heap b y bs) (hx : nod x = true) (hy : nod y = true) (hu : A.units + min x.depth y.depth < cLine) :
    RcAt A s a b (PyData.eqv x y) := by
  have hu' : A.units < cLine := Nat.lt_of_le_of_lt (Nat.le_add_right _ _) hu
  cases ra with
  | none => cases rb with
    | none => rw [PyData.eqv]; exact RcAt.none_none
    | bool c => rw [PyData.eqv]; exact RcAt.none_bool c
    | int c t => rw [PyData.eqv]; exact RcAt.none_int c t
    | str c t => rw [PyData.eqv]; exact RcAt.none_str c t
    | list k1 k2 k3 k4 => rw [PyData.eqv]; exact RcAt.none_list ⟨_, k1, k2, _, k3⟩ hu'
    | tuple k1 k2 k3 k4 => rw [PyData.eqv]; exact RcAt.none_tuple ⟨_, k1, k2, _, k3⟩ hu'
    | dict k1 k2 k3 k4 => cases hy
  | bool i => cases rb with
    | none => rw [PyData.eqv]; exact RcAt.bool_none i
    | bool c => rw [PyData.eqv]; exact RcAt.bool_bool i c
    | int c t => rw [PyData.eqv]; exact RcAt.bool_int i c t
    | str c t => rw [PyData.eqv]; exact RcAt.bool_str i c t
    | list k1 k2 k3 k4 => rw [PyData.eqv]; exact RcAt.bool_list i ⟨_, k1, k2, _, k3⟩ hu'
    | tuple k1 k2 k3 k4 => rw [PyData.eqv]; exact RcAt.bool_tuple i ⟨_, k1, k2, _, k3⟩ hu'
    | dict k1 k2 k3 k4 => cases hy
  | int i u => cases rb with
    | none => rw [PyData.eqv]; exact RcAt.int_none i u
    | bool c => rw [PyData.eqv]; exact RcAt.int_bool i u c
    | int c t => rw [PyData.eqv]; exact RcAt.int_int i u c t
    | str c t => rw [PyData.eqv]; exact RcAt.int_str i u c t
    | list k1 k2 k3 k4 => rw [PyData.eqv]; exact RcAt.int_list i u ⟨_, k1, k2, _, k3⟩ hu'
    | tuple k1 k2 k3 k4 => rw [PyData.eqv]; exact RcAt.int_tuple i u ⟨_, k1, k2, _, k3⟩ hu'
    | dict k1 k2 k3 k4 => cases hy
  | str i u => cases rb with
    | none => rw [PyData.eqv]; exact RcAt.str_none i u
    | bool c => rw [PyData.eqv]; exact RcAt.str_bool i u c
    | int c t => rw [PyData.eqv]; exact RcAt.str_int i u c t
    | str c t => rw [PyData.eqv]; exact RcAt.str_str i u c t
    | list k1 k2 k3 k4 => rw [PyData.eqv]; exact RcAt.str_list i u ⟨_, k1, k2, _, k3⟩ hu'
    | tuple k1 k2 k3 k4 => rw [PyData.eqv]; exact RcAt.str_tuple i u ⟨_, k1, k2, _, k3⟩ hu'
    | dict k1 k2 k3 k4 => cases hy
  | @list l o vs n xs as1 h1 h2 h3 h4 =>
    have hl : s.heap.IsList l vs := ⟨_, h1, h2, _, h3⟩
    cases rb with
    | none => rw [PyData.eqv]; exact RcAt.list_none hl hu'
    | bool c => rw [PyData.eqv]; exact RcAt.list_bool c hl hu'
    | int c t => rw [PyData.eqv]; exact RcAt.list_int c t hl hu'
    | str c t => rw [PyData.eqv]; exact RcAt.list_str c t hl hu'
    | tuple k1 k2 k3 k4 => rw [PyData.eqv]; exact RcAt.list_tuple hl ⟨_, k1, k2, _, k3⟩ hu'
    | dict k1 k2 k3 k4 => cases hy
    | @list l' o' vs' n' ys bs1 k1 k2 k3 k4 =>
      have hl' : s.heap.IsList l' vs' := ⟨_, k1, k2, _, k3⟩
      have nx : nods xs = true := by rw [nod] at hx; exact hx
      have ny : nods ys = true := by rw [nod] at hy; exact hy
      have n1 : vs.size = xs.length := by simpa using ReadsAll.length _ _ _ h4
      have n2 : vs'.size = ys.length := by simpa using ReadsAll.length _ _ _ k4
      rw [PyData.eqv]
      by_cases hs : vs.size = vs'.size
      · have z := eqvAll_same_length (xs := xs) (ys := ys) (by omega)
        rw [← z, ← n1]
        refine RcAt.lists hl hl' hs (room_here hu) fun j j1 j2 => ?_
        have z9 := eq_nods xs ys A.in1 s vs.toList vs'.toList _ _ h4 k4 nx ny (room_in hu) j (by simpa using j1) (by simpa using j2)
        simp only [Array.getElem_toList] at z9
        exact z9
      · have z := eqvAll_other_length (xs := xs) (ys := ys) (by omega)
        rw [z]
        exact RcAt.lists_lengths hl hl' (by simpa using hs) (room_here hu)
  | @tuple l o vs n xs as1 h1 h2 h3 h4 =>
    have hl : s.heap.IsTuple l vs := ⟨_, h1, h2, _, h3⟩
    cases rb with
    | none => rw [PyData.eqv]; exact RcAt.tuple_none hl hu'
    | bool c => rw [PyData.eqv]; exact RcAt.tuple_bool c hl hu'
    | int c t => rw [PyData.eqv]; exact RcAt.tuple_int c t hl hu'
    | str c t => rw [PyData.eqv]; exact RcAt.tuple_str c t hl hu'
    | list k1 k2 k3 k4 => rw [PyData.eqv]; exact RcAt.tuple_list hl ⟨_, k1, k2, _, k3⟩ hu'
    | dict k1 k2 k3 k4 => cases hy
    | @tuple l' o' vs' n' ys bs1 k1 k2 k3 k4 =>
      have hl' : s.heap.IsTuple l' vs' := ⟨_, k1, k2, _, k3⟩
      have nx : nods xs = true := by rw [nod] at hx; exact hx
      have ny : nods ys = true := by rw [nod] at hy; exact hy
      have n1 : vs.size = xs.length := by simpa using ReadsAll.length _ _ _ h4
      have n2 : vs'.size = ys.length := by simpa using ReadsAll.length _ _ _ k4
      rw [PyData.eqv, ← eqvAll_eq xs ys, ← n1, ← n2]
      refine RcAt.tuples hl hl' (room_here hu) fun j j1 j2 => ?_
      have z9 := eq_nods xs ys A.in1 s vs.toList vs'.toList _ _ h4 k4 nx ny (room_in hu) j (by simpa using j1) (by simpa using j2)
      simp only [Array.getElem_toList] at z9
      exact z9
  | dict _ _ _ _ => cases hx
theorem rc_ne {A : Around} {s : Shared} {a b : Value} {x y : D} {as bs : List Addr} (ra : Reads s.heap a x as) (rb : Reads s.heap b y bs) (hx : nod x = true) (hy : nod y = true) (hu : A.units + min x.depth y.depth < cLine) :
    RcNeAt A s a b (!PyData.eqv x y) := by
  have hu' : A.units < cLine := Nat.lt_of_le_of_lt (Nat.le_add_right _ _) hu
  cases ra with
  | none => cases rb with
    | none => rw [PyData.eqv]; exact RcNeAt.none_none
    | bool c => rw [PyData.eqv]; exact RcNeAt.none_bool c
    | int c t => rw [PyData.eqv]; exact RcNeAt.none_int c t
    | str c t => rw [PyData.eqv]; exact RcNeAt.none_str c t
    | list k1 k2 k3 k4 => rw [PyData.eqv]; exact RcNeAt.none_list ⟨_, k1, k2, _, k3⟩ hu'
    | tuple k1 k2 k3 k4 => rw [PyData.eqv]; exact RcNeAt.none_tuple ⟨_, k1, k2, _, k3⟩ hu'
    | dict k1 k2 k3 k4 => cases hy
  | bool i => cases rb with
    | none => rw [PyData.eqv]; exact RcNeAt.bool_none i
    | bool c => rw [PyData.eqv]; exact RcNeAt.bool_bool i c
    | int c t => rw [PyData.eqv]; exact RcNeAt.bool_int i c t
    | str c t => rw [PyData.eqv]; exact RcNeAt.bool_str i c t
    | list k1 k2 k3 k4 => rw [PyData.eqv]; exact RcNeAt.bool_list i ⟨_, k1, k2, _, k3⟩ hu'
    | tuple k1 k2 k3 k4 => rw [PyData.eqv]; exact RcNeAt.bool_tuple i ⟨_, k1, k2, _, k3⟩ hu'
    | dict k1 k2 k3 k4 => cases hy
  | int i u => cases rb with
    | none => rw [PyData.eqv]; exact RcNeAt.int_none i u
    | bool c => rw [PyData.eqv]; exact RcNeAt.int_bool i u c
    | int c t => rw [PyData.eqv]; exact RcNeAt.int_int i u c t
    | str c t => rw [PyData.eqv]; exact RcNeAt.int_str i u c t
    | list k1 k2 k3 k4 => rw [PyData.eqv]; exact RcNeAt.int_list i u ⟨_, k1, k2, _, k3⟩ hu'
    | tuple k1 k2 k3 k4 => rw [PyData.eqv]; exact RcNeAt.int_tuple i u ⟨_, k1, k2, _, k3⟩ hu'
    | dict k1 k2 k3 k4 => cases hy
  | str i u => cases rb with
    | none => rw [PyData.eqv]; exact RcNeAt.str_none i u
    | bool c => rw [PyData.eqv]; exact RcNeAt.str_bool i u c
    | int c t => rw [PyData.eqv]; exact RcNeAt.str_int i u c t
    | str c t => rw [PyData.eqv]; exact RcNeAt.str_str i u c t
    | list k1 k2 k3 k4 => rw [PyData.eqv]; exact RcNeAt.str_list i u ⟨_, k1, k2, _, k3⟩ hu'
    | tuple k1 k2 k3 k4 => rw [PyData.eqv]; exact RcNeAt.str_tuple i u ⟨_, k1, k2, _, k3⟩ hu'
    | dict k1 k2 k3 k4 => cases hy
  | @list l o vs n xs as1 h1 h2 h3 h4 =>
    have hl : s.heap.IsList l vs := ⟨_, h1, h2, _, h3⟩
    cases rb with
    | none => rw [PyData.eqv]; exact RcNeAt.list_none hl hu'
    | bool c => rw [PyData.eqv]; exact RcNeAt.list_bool c hl hu'
    | int c t => rw [PyData.eqv]; exact RcNeAt.list_int c t hl hu'
    | str c t => rw [PyData.eqv]; exact RcNeAt.list_str c t hl hu'
    | tuple k1 k2 k3 k4 => rw [PyData.eqv]; exact RcNeAt.list_tuple hl ⟨_, k1, k2, _, k3⟩ hu'
    | dict k1 k2 k3 k4 => cases hy
    | @list l' o' vs' n' ys bs1 k1 k2 k3 k4 =>
      have hl' : s.heap.IsList l' vs' := ⟨_, k1, k2, _, k3⟩
      have nx : nods xs = true := by rw [nod] at hx; exact hx
      have ny : nods ys = true := by rw [nod] at hy; exact hy
      have n1 : vs.size = xs.length := by simpa using ReadsAll.length _ _ _ h4
      have n2 : vs'.size = ys.length := by simpa using ReadsAll.length _ _ _ k4
      rw [PyData.eqv]
      by_cases hs : vs.size = vs'.size
      · have z := eqvAll_same_length (xs := xs) (ys := ys) (by omega)
        rw [← z, ← n1]
        refine RcNeAt.lists hl hl' hs (room_here hu) fun j j1 j2 => ?_
        have z9 := eq_nods xs ys A.in1 s vs.toList vs'.toList _ _ h4 k4 nx ny (room_in hu) j (by simpa using j1) (by simpa using j2)
        simp only [Array.getElem_toList] at z9
        exact z9
      · have z := eqvAll_other_length (xs := xs) (ys := ys) (by omega)
        rw [z]
        exact RcNeAt.lists_lengths hl hl' (by simpa using hs) (room_here hu)
  | @tuple l o vs n xs as1 h1 h2 h3 h4 =>
    have hl : s.heap.IsTuple l vs := ⟨_, h1, h2, _, h3⟩
    cases rb with
    | none => rw [PyData.eqv]; exact RcNeAt.tuple_none hl hu'
    | bool c => rw [PyData.eqv]; exact RcNeAt.tuple_bool c hl hu'
    | int c t => rw [PyData.eqv]; exact RcNeAt.tuple_int c t hl hu'
    | str c t => rw [PyData.eqv]; exact RcNeAt.tuple_str c t hl hu'
    | list k1 k2 k3 k4 => rw [PyData.eqv]; exact RcNeAt.tuple_list hl ⟨_, k1, k2, _, k3⟩ hu'
    | dict k1 k2 k3 k4 => cases hy
    | @tuple l' o' vs' n' ys bs1 k1 k2 k3 k4 =>
      have hl' : s.heap.IsTuple l' vs' := ⟨_, k1, k2, _, k3⟩
      have nx : nods xs = true := by rw [nod] at hx; exact hx
      have ny : nods ys = true := by rw [nod] at hy; exact hy
      have n1 : vs.size = xs.length := by simpa using ReadsAll.length _ _ _ h4
      have n2 : vs'.size = ys.length := by simpa using ReadsAll.length _ _ _ k4
      rw [PyData.eqv, ← eqvAll_eq xs ys, ← n1, ← n2]
      refine RcNeAt.tuples hl hl' (room_here hu) fun j j1 j2 => ?_
      have z9 := eq_nods xs ys A.in1 s vs.toList vs'.toList _ _ h4 k4 nx ny (room_in hu) j (by simpa using j1) (by simpa using j2)
      simp only [Array.getElem_toList] at z9
      exact z9
  | dict _ _ _ _ => cases hx
theorem shB_ret {K : KC} {H0 : Hp} {F : Fz} {H : Hp} {b : Bool} {z : Res} (h : shB b = some z) : RetOk K H0 F H (.bl b) z := by
  cases h
  exact .bl b
theorem dop_eq (hu : X.A.units + 64 < cLine) : DOp X (compareOp .Eq) gEq := by
  refine .of fun pins s σ H x y v u Q I rx ry ⟨F, a, b, z, e, et, ba, bb, q, k⟩ => ?_
  unfold gEq at q
  split at q
  · rename_i dx dy
    split at q
    · rename_i c
      obtain ⟨c, c1, c2⟩ := shallow_ok c
      have da := ba.dp e c1
      have db := bb.dp e c2
      obtain ⟨as, r1⟩ := Dp.reads I dx x v da rx
      obtain ⟨bs, r2⟩ := Dp.reads I dy y u db ry
      exact rc_eq r1 r2 (dp_nod _ _ da) (dp_nod _ _ db) (hu60 hu c) _ _ _ _ ⟨.bl _, H, I, rfl, k F H _ (.refl e) (shB_ret q)⟩
    · cases q
  · cases q
theorem dop_ne (hu : X.A.units + 64 < cLine) : DOp X (compareOp .NotEq) gNe := by
  refine .of fun pins s σ H x y v u Q I rx ry ⟨F, a, b, z, e, et, ba, bb, q, k⟩ => ?_
  unfold gNe at q
  split at q
  · rename_i dx dy
    split at q
    · rename_i c
      obtain ⟨c, c1, c2⟩ := shallow_ok c
      have da := ba.dp e c1
      have db := bb.dp e c2
      obtain ⟨as, r1⟩ := Dp.reads I dx x v da rx
      obtain ⟨bs, r2⟩ := Dp.reads I dy y u db ry
      exact rc_ne r1 r2 (dp_nod _ _ da) (dp_nod _ _ db) (hu60 hu c) _ _ _ _ ⟨.bl _, H, I, rfl, k F H _ (.refl e) (shB_ret q)⟩
    · cases q
  · cases q
end
/-! ### order -/
def O4.op : O4 → CmpOp
  | .lt => .Lt
  | .le => .LtE
  | .gt => .Gt
  | .ge => .GtE
theorem rc_ints (o : O4) {A : Around} {s : Shared} (a b : Int) (t u : Tok) : Ob.RcOp o.op A s (.int a t) (.int b u) (o.int a b) := by
  cases o
  · exact Ob.RcOp.lt_int a b t u
  · exact Ob.RcOp.le_int a b t u
  · exact Ob.RcOp.gt_int a b t u
  · exact Ob.RcOp.ge_int a b t u
theorem rc_strs (o : O4) {A : Around} {s : Shared} (a b : Str) (t u : Tok) : Ob.RcOp o.op A s (.str a t) (.str b u) (o.tx a.cps.toList b.cps.toList) := by
  cases o
  · exact fun prog w E Q h => lt_str h
  · exact fun prog w E Q h => PySem.P.le_str h
  · exact fun prog w E Q h => PySem.P.gt_str h
  · exact fun prog w E Q h => PySem.P.ge_str h
theorem rc_tups (o : O4) {A : Around} {s : Shared} {l b : Addr} {vs ws : Array Value} {e r : Nat → Bool} (hl : s.heap.IsTuple l vs) (hb : s.heap.IsTuple b ws) (hu : A.units < cLine) (he : ∀ j (h1 : j < vs.size) (h2 : j < ws.size), EqAt A.in1 s vs[j] ws[j] (e j))
    (hr : ∀ j (h1 : j < vs.size) (h2 : j < ws.size), e j = false → Ob.RcOp o.op A.in1 s vs[j] ws[j] (r j)) : Ob.RcOp o.op A s (.ref l) (.ref b) (Ob.lexAt e r (o.len vs.size ws.size) 0 (min vs.size ws.size)) := by
  cases o
  · exact Ob.RcOp.tuples_lt hl hb hu he hr
  · exact Ob.RcOp.tuples_le hl hb hu he hr
  · exact Ob.RcOp.tuples_gt hl hb hu he hr
  · exact Ob.RcOp.tuples_ge hl hb hu he hr
theorem lex_shift {e r : Nat → Bool} {z : Bool} : ∀ k i, Ob.lexAt e r z (i + 1) k = Ob.lexAt (fun j => e (j + 1)) (fun j => r (j + 1)) z i k
  | 0, i => rfl
  | k + 1, i => by
    rw [Ob.lexAt_succ, Ob.lexAt_succ, lex_shift k (i + 1)]
theorem len_succ (o : O4) (m n : Nat) : o.len (m + 1) (n + 1) = o.len m n := by
  cases o <;> simp [O4.len]
theorem lex_cmp (o : O4) : ∀ (xs ys : List D) (v : Bool), cmpDs o xs ys = some v → Ob.lexAt (pairEq xs ys) (fun j => (cmpD o (xs.getD j .none) (ys.getD j .none)).getD false) (o.len xs.length ys.length) 0 (min xs.length ys.length) = v
  | [], ys, v, h => by
    simp only [cmpDs] at h
    cases h
    simp [Ob.lexAt_zero]
  | x :: xs, [], v, h => by
    simp only [cmpDs] at h
    cases h
    simp [Ob.lexAt_zero]
  | x :: xs, y :: ys, v, h => by
    have e : min (x :: xs).length (y :: ys).length = min xs.length ys.length + 1 := by rw [List.length_cons, List.length_cons]; omega
    rw [e, Ob.lexAt_succ, lex_shift]
    simp only [List.length_cons, len_succ]
    rw [cmpDs] at h
    show (if PyData.eqv x y = true then _ else _) = v
    by_cases c : PyData.eqv x y = true
    · rw [if_pos c] at h ⊢
      exact lex_cmp o xs ys v h
    · rw [if_neg c] at h ⊢
      simp only [Option.bind_eq_some_iff] at h
      obtain ⟨w, h1, _, _, h3⟩ := h
      cases h3
      show (cmpD o x y).getD false = v
      rw [h1]; rfl
mutual
theorem rc_cmp (o : O4) : ∀ (x y : D) (A : Around) (s : Shared) (a b : Value) (as bs : List Addr) (v : Bool), Reads s.heap a x as → Reads s.heap b y bs → nod x = true → nod y = true → cmpD o x y = some v → A.units + min x.depth y.depth < cLine → Ob.RcOp o.op A s a b v
  | .int i, y, A, s, a, b, as, bs, v, ra, rb, hx, hy, h, hu => by
    cases y with
    | int j =>
      simp only [cmpD] at h
      cases h
      cases ra; cases rb
      exact rc_ints o _ _ _ _
    | _ => simp [cmpD] at h
  | .str i, y, A, s, a, b, as, bs, v, ra, rb, hx, hy, h, hu => by
    cases y with
    | str j =>
      simp only [cmpD] at h
      cases h
      cases ra; cases rb
      exact rc_strs o _ _ _ _
    | _ => simp [cmpD] at h
  | .tuple xs, y, A, s, a, b, as, bs, v, ra, rb, hx, hy, h, hu => by
    cases y with
    | tuple ys =>
      simp only [cmpD] at h
      cases ra with
      | @tuple l ob vs n _ as1 h1 h2 h3 h4 =>
        cases rb with
        | @tuple l' ob' vs' n' _ bs1 k1 k2 k3 k4 =>
          have hl : s.heap.IsTuple l vs := ⟨_, h1, h2, _, h3⟩
          have hl' : s.heap.IsTuple l' vs' := ⟨_, k1, k2, _, k3⟩
          have nx : nods xs = true := by rw [nod] at hx; exact hx
          have ny : nods ys = true := by rw [nod] at hy; exact hy
          have n1 : vs.size = xs.length := by simpa using ReadsAll.length _ _ _ h4
          have n2 : vs'.size = ys.length := by simpa using ReadsAll.length _ _ _ k4
          rw [← lex_cmp o xs ys v h, ← n1, ← n2]
          refine rc_tups o hl hl' (room_here hu) (fun j j1 j2 => ?_) (fun j j1 j2 e => ?_)
          · have z9 := eq_nods xs ys A.in1 s vs.toList vs'.toList _ _ h4 k4 nx ny (room_in hu) j (by simpa using j1) (by simpa using j2)
            simp only [Array.getElem_toList] at z9
            exact z9
          · have z9 := rc_cmps o xs ys A.in1 s vs.toList vs'.toList _ _ v h4 k4 nx ny h (room_in hu) j (by simpa using j1) (by simpa using j2) e
            simp only [Array.getElem_toList] at z9
            exact z9
    | _ => simp [cmpD] at h
  | .none, y, _, _, _, _, _, _, _, _, _, _, _, h, _ => by cases y <;> simp [cmpD] at h
  | .bool _, y, _, _, _, _, _, _, _, _, _, _, _, h, _ => by cases y <;> simp [cmpD] at h
  | .list _, y, _, _, _, _, _, _, _, _, _, _, _, h, _ => by cases y <;> simp [cmpD] at h
  | .dict _, y, _, _, _, _, _, _, _, _, _, _, _, h, _ => by cases y <;> simp [cmpD] at h
theorem rc_cmps (o : O4) : ∀ (xs ys : List D) (A : Around) (s : Shared) (vs ws : List Value) (as bs : List Addr) (v : Bool), ReadsAll s.heap vs xs as → ReadsAll s.heap ws ys bs → nods xs = true → nods ys = true → cmpDs o xs ys = some v →
    A.units + min (PyData.depthAll xs) (PyData.depthAll ys) < cLine → ∀ j (h1 : j < vs.length) (h2 : j < ws.length), pairEq xs ys j = false → Ob.RcOp o.op A s vs[j] ws[j] ((cmpD o (xs.getD j .none) (ys.getD j .none)).getD false)
  | [], _, _, _, _, _, _, _, _, ra, _, _, _, _, _, j, h1, _, _ => by cases ra; exact absurd h1 (Nat.not_lt_zero _)
  | _ :: _, [], _, _, _, _, _, _, _, _, rb, _, _, _, _, j, _, h2, _ => by cases rb; exact absurd h2 (Nat.not_lt_zero _)
  | x :: xs, y :: ys, A, s, _, _, _, _, v, ra, rb, hx, hy, h, hu, j, h1, h2, e => by
    cases ra with
    | cons r rs =>
      cases rb with
      | cons r' rs' =>
        rw [cmpDs] at h
        cases j with
        | zero =>
          have e' : PyData.eqv x y = false := e
          rw [if_neg (by rw [e']; exact Bool.false_ne_true)] at h
          simp only [Option.bind_eq_some_iff] at h
          obtain ⟨w, g1, _, _, _⟩ := h
          have z := rc_cmp o x y A s _ _ _ _ w r r' (nods_cons hx).1 (nods_cons hy).1 g1 (room_head hu)
          show Ob.RcOp o.op A s _ _ ((cmpD o x y).getD false)
          rw [g1]; exact z
        | succ j =>
          have g : ∃ w, cmpDs o xs ys = some w := by
            by_cases c : PyData.eqv x y = true
            · rw [if_pos c] at h; exact ⟨_, h⟩
            · rw [if_neg c] at h
              simp only [Option.bind_eq_some_iff] at h
              obtain ⟨_, _, w, g1, _⟩ := h
              exact ⟨w, g1⟩
          obtain ⟨w, g⟩ := g
          exact rc_cmps o xs ys A s _ _ _ _ w rs rs' (nods_cons hx).2 (nods_cons hy).2 g (room_tail hu) j (Nat.lt_of_succ_lt_succ h1) (Nat.lt_of_succ_lt_succ h2) e
end
section
variable {X : Cx}
theorem dop_cmp (o : O4) (hu : X.A.units + 64 < cLine) : DOp X (compareOp o.op) (gCmp o) := by
  refine .of fun pins s σ H x y v u Q I rx ry ⟨F, a, b, z, e, et, ba, bb, q, k⟩ => ?_
  unfold gCmp at q
  split at q
  · rename_i dx dy
    split at q
    · rename_i c
      simp only [Option.bind_eq_some_iff] at q
      obtain ⟨w, q1, q2⟩ := q
      obtain ⟨c, c1, c2⟩ := shallow_ok c
      have da := ba.dp e c1
      have db := bb.dp e c2
      obtain ⟨as, r1⟩ := Dp.reads I dx x v da rx
      obtain ⟨bs, r2⟩ := Dp.reads I dy y u db ry
      have rc := rc_cmp o dx dy X.A s v u as bs w r1 r2 (dp_nod _ _ da) (dp_nod _ _ db) q1 (hu60 hu c) X.prog X.w X.xe (EP X pins σ Q) ⟨.bl _, H, I, rfl, k F H _ (.refl e) (shB_ret q2)⟩
      cases o <;> exact rc
    · cases q
  · cases q
theorem dop_lt (hu : X.A.units + 64 < cLine) : DOp X (compareOp .Lt) (gCmp .lt) := dop_cmp .lt hu
theorem dop_le (hu : X.A.units + 64 < cLine) : DOp X (compareOp .LtE) (gCmp .le) := dop_cmp .le hu
theorem dop_gt (hu : X.A.units + 64 < cLine) : DOp X (compareOp .Gt) (gCmp .gt) := dop_cmp .gt hu
theorem dop_ge (hu : X.A.units + 64 < cLine) : DOp X (compareOp .GtE) (gCmp .ge) := dop_cmp .ge hu
/-! ### is -/
theorem Bd.is_non {K : KC} {F : Fz} {H : Hp} {x : V} {c : C} (h : Bd K F H x c) : decide (x = .non) = isNonC c := by
  cases c with
  | d y =>
    cases y with
    | none => have h : Vp K F x .none := h; cases h; rfl
    | list ds => obtain ⟨p, _, rfl, _⟩ := h; rfl
    | bool b => have h : Vp K F x (.bool b) := h; cases h; rfl
    | int b => have h : Vp K F x (.int b) := h; cases h; rfl
    | str b => have h : Vp K F x (.str b) := h; cases h; rfl
    | tuple b => have h : Vp K F x (.tuple b) := h; cases h; rfl
    | dict b => have h : Vp K F x (.dict b) := h; cases h <;> rfl
  | dk _ => obtain ⟨p, _, rfl, _⟩ := h; rfl
  | dt _ => obtain ⟨p, _, rfl, _⟩ := h; rfl
theorem dop_isN : DOp X (compareOp .Is) gIsN := by
  refine .of fun pins s σ H x y v u Q I rx ry ⟨F, a, b, z, e, et, ba, bb, q, k⟩ => ?_
  unfold gIsN at q
  split at q
  · have h2 : Vp X.kc F y .none := bb
    cases h2
    refine op_isN pins s σ H x .non v u Q I rx ry ⟨rfl, ?_⟩
    rw [ba.is_non]
    exact k F H _ (.refl e) (shB_ret q)
  · cases q
theorem dop_notN : DOp X (compareOp .IsNot) gNotN := by
  refine .of fun pins s σ H x y v u Q I rx ry ⟨F, a, b, z, e, et, ba, bb, q, k⟩ => ?_
  unfold gNotN at q
  split at q
  · have h2 : Vp X.kc F y .none := bb
    cases h2
    refine op_notN pins s σ H x .non v u Q I rx ry ⟨rfl, ?_⟩
    rw [ba.is_non]
    exact k F H _ (.refl e) (shB_ret q)
  · cases q
theorem dop_isB : DOp X (compareOp .Is) gIsB := by
  refine .of fun pins s σ H x y v u Q I rx ry ⟨F, a, b, z, e, et, ba, bb, q, k⟩ => ?_
  unfold gIsB at q
  split at q
  · rename_i c d
    have h1 : Vp X.kc F x (.bool c) := ba
    have h2 : Vp X.kc F y (.bool d) := bb
    cases h1; cases h2
    exact op_is_bl pins s σ H _ _ v u Q I rx ry ⟨c, d, rfl, rfl, k F H _ (.refl e) (shB_ret q)⟩
  · cases q
theorem dop_notB : DOp X (compareOp .IsNot) gNotB := by
  refine .of fun pins s σ H x y v u Q I rx ry ⟨F, a, b, z, e, et, ba, bb, q, k⟩ => ?_
  unfold gNotB at q
  split at q
  · rename_i c d
    have h1 : Vp X.kc F x (.bool c) := ba
    have h2 : Vp X.kc F y (.bool d) := bb
    cases h1; cases h2
    exact op_isnot_bl pins s σ H _ _ v u Q I rx ry ⟨c, d, rfl, rfl, k F H _ (.refl e) (shB_ret q)⟩
  · cases q
end
end CM
end
section
set_option Elab.async false
set_option linter.all false
set_option maxRecDepth 100000
set_option autoImplicit false
namespace CM
open PySem PySem.Spec PyProof.Rows L2 PySem.SeqAt

theorem sz_ok {n : Nat} (h : n ≤ 16777216) : n ≤ sizeLine := by rw [sizeLine_eq]; exact h
section
variable {X : Cx}
/-! ### a in b -/
open Classical in
noncomputable def readOf (h : Heap) (w : Value) : D := if x : ∃ y : D, nod y = true ∧ ∃ as, Reads h w y as then Classical.choose x else .none
theorem readOf_eq {h : Heap} {w : Value} {y : D} {as : List Addr} (hn : nod y = true) (r : Reads h w y as) : readOf h w = y := by
  have x : ∃ y : D, nod y = true ∧ ∃ as, Reads h w y as := ⟨y, hn, as, r⟩
  unfold readOf
  rw [dif_pos x]
  obtain ⟨g1, bs, g2⟩ := Classical.choose_spec x
  exact rd_one _ _ _ _ _ g1 g2 r
theorem shallowAll_ok {x : D} {ys : List D} (h : shallowAll x ys = true) : nod x = true ∧ nods ys = true := by
  unfold shallowAll at h
  rw [Bool.and_eq_true] at h
  obtain ⟨h1, h2⟩ := h
  refine ⟨h1, ?_⟩
  induction ys with
  | nil => rfl
  | cons y ys ih =>
    rw [List.all_cons, Bool.and_eq_true] at h2
    unfold nods
    rw [(shallow_ok h2.1).2.1, ih h2.2]
    rfl
theorem in_each {H : Hp} {pins : List (Addr × Obj)} {σ : L2.St} {s : Shared} (I : Inv X pins σ H s) {x : V} {v : Value} {d : D} (rx : RelV x v) (dx : Dp X.K H x d) (hu : X.A.units + 64 < cLine) :
    ∀ {ys : List D} {vs : List V} {us : List Value}, DpAll X.K H vs ys → Vals vs us → shallowAll d ys = true → (∀ w ∈ us, EqAt X.A.in1 s w v (PyData.eqv (readOf s.heap w) d)) ∧ us.any (fun w => PyData.eqv (readOf s.heap w) d) = inDs d ys
  | [], _, _, h, r, _ => by
    cases h; cases r
    exact ⟨fun w hw => by simp at hw, rfl⟩
  | y :: ys, _, _, h, r, c => by
    cases h with
    | cons h1 h2 =>
      cases r with
      | @cons _ u _ us r1 r2 =>
        have c' : shallow y d = true ∧ shallowAll d ys = true := by
          unfold shallowAll at c ⊢
          rw [List.all_cons, Bool.and_eq_true, Bool.and_eq_true] at c
          rw [Bool.and_eq_true]
          exact ⟨c.2.1, c.1, c.2.2⟩
        obtain ⟨he, hs⟩ := in_each I rx dx hu h2 r2 c'.2
        obtain ⟨as, ra⟩ := Dp.reads I y _ u h1 r1
        obtain ⟨bs, rb⟩ := Dp.reads I d x v dx rx
        have hq : EqAt X.A.in1 s u v (PyData.eqv y d) := eq_nod y d X.A.in1 s u v as bs ra rb (dp_nod _ _ h1) (dp_nod _ _ dx) (by
          have z := (shallow_ok c'.1).1
          show X.A.units + 1 + min y.depth d.depth < cLine
          omega)
        have hy := readOf_eq (dp_nod _ _ h1) ra
        refine ⟨fun w hw => ?_, ?_⟩
        · rcases List.mem_cons.mp hw with z | z
          · subst z; rw [hy]; exact hq
          · exact he w z
        · rw [List.any_cons, hs, hy]; rfl
theorem dop_in (hu : X.A.units + 64 < cLine) : DOp X (compareOp .In) gIn := by
  refine .of fun pins s σ H x y v u Q I rx ry ⟨F, a, b, z, e, et, ba, bb, q, k⟩ => ?_
  unfold gIn at q
  split at q
  · rename_i d ys
    split at q
    · rename_i c
      obtain ⟨c1, c2⟩ := shallowAll_ok c
      have da := ba.dp e c1
      obtain ⟨p, vs, rfl, hs, dd⟩ := bb
      cases ry
      obtain ⟨its, r, pl, hz⟩ := I.list hs
      obtain ⟨h1, h2⟩ := in_each I rx da hu (VpAll.dp e _ _ dd c2) r c
      refine in_listAt (fun w => PyData.eqv (readOf s.heap w) _) pl.isList (fun w hw => h1 w (by simpa using hw)) ⟨.bl _, H, I, rfl, ?_⟩
      rw [List.any_toArray, h2]
      exact k F H _ (.refl e) (shB_ret q)
    · cases q
  · rename_i d ys
    split at q
    · rename_i c
      obtain ⟨c1, c2⟩ := shallowAll_ok c
      have da := ba.dp e c1
      have db := bb.dp e (by unfold nod; exact c2)
      cases db with
      | tup hs dd =>
        cases ry
        obtain ⟨its, r, pl, hz⟩ := I.tuple hs
        obtain ⟨h1, h2⟩ := in_each I rx da hu dd r c
        refine in_tupleAt (fun w => PyData.eqv (readOf s.heap w) _) pl (fun w hw => h1 w (by simpa using hw)) ⟨.bl _, H, I, rfl, ?_⟩
        rw [List.any_toArray, h2]
        exact k F H _ (.refl e) (shB_ret q)
    · cases q
  · cases q
theorem dop_notIn (hu : X.A.units + 64 < cLine) : DOp X (compareOp .NotIn) gNotIn := by
  refine .of fun pins s σ H x y v u Q I rx ry ⟨F, a, b, z, e, et, ba, bb, q, k⟩ => ?_
  unfold gNotIn at q
  split at q
  · rename_i d ys
    split at q
    · rename_i c
      obtain ⟨c1, c2⟩ := shallowAll_ok c
      have da := ba.dp e c1
      obtain ⟨p, vs, rfl, hs, dd⟩ := bb
      cases ry
      obtain ⟨its, r, pl, hz⟩ := I.list hs
      obtain ⟨h1, h2⟩ := in_each I rx da hu (VpAll.dp e _ _ dd c2) r c
      refine notIn_listAt (fun w => PyData.eqv (readOf s.heap w) _) pl.isList (fun w hw => h1 w (by simpa using hw)) ⟨.bl _, H, I, rfl, ?_⟩
      rw [List.any_toArray, h2]
      exact k F H _ (.refl e) (shB_ret q)
    · cases q
  · rename_i d ys
    split at q
    · rename_i c
      obtain ⟨c1, c2⟩ := shallowAll_ok c
      have da := ba.dp e c1
      have db := bb.dp e (by unfold nod; exact c2)
      cases db with
      | tup hs dd =>
        cases ry
        obtain ⟨its, r, pl, hz⟩ := I.tuple hs
        obtain ⟨h1, h2⟩ := in_each I rx da hu dd r c
        refine notIn_tupleAt (fun w => PyData.eqv (readOf s.heap w) _) pl (fun w hw => h1 w (by simpa using hw)) ⟨.bl _, H, I, rfl, ?_⟩
        rw [List.any_toArray, h2]
        exact k F H _ (.refl e) (shB_ret q)
    · cases q
  · cases q

/-! ### a[b] -/
theorem plc_eq (n : Nat) (i : Int) : plc n i = ixN n i := rfl
theorem at_of {α β : Type} {xs : List α} {ys : List β} {i : Int} {y : β} (h : atD ys i = some y) (hl : xs.length = ys.length) : ∃ j : Nat, ys[j]? = some y ∧ ∀ x, xs[j]? = some x → atI xs i = some x := by
  unfold atD at h
  simp only [Option.bind_eq_some_iff] at h
  obtain ⟨j, h1, h2⟩ := h
  refine ⟨j, h2, fun x hx => ?_⟩
  unfold atI
  rw [hl, ← plc_eq, h1]
  exact hx
theorem dix : DIx X gIx := by
  refine .of fun value slice pins s σ H x y v u Q I rx ry ⟨F, a, b, z, e, et, ba, bb, q, k⟩ hs => ?_
  unfold gIx at q
  split at q
  · rename_i ds i
    simp only [Option.bind_eq_some_iff] at q
    obtain ⟨d, q1, q2⟩ := q
    cases q2
    obtain ⟨p, vs, rfl, sq, dd⟩ := ba
    have h2 : Vp X.kc F y (.int i) := bb
    cases h2
    obtain ⟨j, g1, g2⟩ := at_of q1 (VpAll.length dd)
    obtain ⟨w, g3, g4⟩ := VpAll.get dd g1
    exact ix_list value slice pins s σ H _ _ v u Q I rx ry ⟨p, vs, i, w, rfl, rfl, sq, g2 w g3, k F H w (.refl e) g4⟩ hs
  · rename_i ds i
    simp only [Option.bind_eq_some_iff] at q
    obtain ⟨d, q1, q2⟩ := q
    cases q2
    have h1 : Vp X.kc F x (.tuple ds) := ba
    have h2 : Vp X.kc F y (.int i) := bb
    cases h2
    cases h1 with
    | tup sq dd =>
      obtain ⟨j, g1, g2⟩ := at_of q1 (VpAll.length dd)
      obtain ⟨w, g3, g4⟩ := VpAll.get dd g1
      exact ix_tup value slice pins s σ H _ _ v u Q I rx ry ⟨_, _, i, w, rfl, rfl, e.t sq.sq, g2 w g3, k F H w (.refl e) g4⟩ hs
  · rename_i t i
    split at q
    · rename_i c
      simp only [Option.bind_eq_some_iff] at q
      obtain ⟨d, q1, q2⟩ := q
      cases q2
      have h1 : Vp X.kc F x (.str t) := ba
      have h2 : Vp X.kc F y (.int i) := bb
      cases h1; cases h2
      obtain ⟨j, g1, g2⟩ := at_of (xs := t.cps.toList) q1 rfl
      exact ix_str value slice pins s σ H _ _ v u Q I rx ry ⟨t, i, d, rfl, rfl, sz_ok c, g2 d g1, k F H _ (.refl e) (.str _)⟩ hs
    · cases q
  · cases q

/-! ### slices -/
def RPart (K : KC) (qb : Bool) (t : TO) (f : Option EF) : Prop := ∀ (B H0 F0 : Hp) (F : Fz) (H : Hp) (σ : L2.St) (r : Env) (o : Option Int) (r' : Env), ePart f r = some (o, r') → J K B H0 F0 F H σ r →
  ∀ Q : Option Int → Hp → Prop, (∀ F' H', Ge qb F H r F' H' r' → J K B H0 F0 F' H' σ r' → Q o H') → t σ H Q
structure DPart (X : Cx) (qb : Bool) (e : Option Expr) (f : Option EF) : Prop where
  ex : ∃ t, PO X e t ∧ RPart X.kc qb t f
theorem dpart_none : DPart X true none none := ⟨_, po_none, fun B H0 F0 F H σ r o r' q j Q k => by cases q; exact k F H .refl j⟩
theorem dpart_some {e : Expr} {f : EF} {qb : Bool} (h : DE X qb e f) : DPart X qb (some e) (some f) := by
  obtain ⟨t, a1, a2⟩ := h.ex
  refine ⟨_, po_some a1, fun B H0 F0 F H σ r o r' q j Q k => ?_⟩
  simp only [ePart, Option.bind_eq_some_iff] at q
  obtain ⟨⟨z, r1⟩, q1, q2⟩ := q
  dsimp only at q2
  split at q2
  · rename_i i hi
    cases q2
    refine a2 _ _ _ _ _ _ _ _ _ q1 j _ fun F1 H1 v e1 j1 k1 => ?_
    have h1 : Vp X.kc F1 v (.int i) := k1.look j1 hi
    cases h1
    exact ⟨i, rfl, k F1 H1 e1 j1⟩
  · cases q2
theorem cut_eq {α : Type} (xs : List α) (lo hi : Option Int) : cutL xs lo hi = (xs.drop (HT.sIx xs.length 0 lo)).take (HT.sIx xs.length xs.length hi - HT.sIx xs.length 0 lo) := by
  unfold cutL
  have g : ∀ n d o, cutAt n d o = HT.sIx n d o := fun n d o => by cases o <;> rfl
  rw [g, g]
theorem cut_dp {K : KC} {F : Fz} {xs : List V} {ds : List D} (h : VpAll K F xs ds) (lo hi : Option Int) : VpAll K F (cutV xs lo hi) (cutL ds lo hi) := by
  rw [cut_eq]
  unfold cutV
  rw [VpAll.length h]
  exact VpAll.take _ (VpAll.drop _ h)
theorem slr : SlR X (fun x lo hi H Q => ∃ (F : Fz) (a : C) (z : Res), Ex F.f H ∧ (∀ p, H p = none → F.t p = none) ∧ Bd X.kc F H x a ∧ gSl a lo hi = some z ∧ ∀ F' H' v, Grow F H F' H' → RetOk X.kc H F' H' v z → Q v H') := by
  intro pins s σ H x v vl vu lo hi sl Q I rx hs pl pu ⟨F, a, z, e, et, ba, q, k⟩
  unfold gSl at q
  split at q
  · rename_i ds
    cases q
    obtain ⟨p, vs, rfl, sq, dd⟩ := ba
    exact sl_list pins s σ H _ v vl vu lo hi sl Q I rx hs pl pu ⟨p, vs, rfl, sq, fun l hl => k F _ _ (.lay e hl) ⟨l, rfl, hl, e.back hl, et l hl, _, upd_same, cut_dp dd lo hi⟩⟩
  · rename_i ds
    cases q
    have h1 : Vp X.kc F x (.tuple ds) := ba
    cases h1 with
    | tup sq dd =>
      refine sl_tupZ pins s σ H _ v vl vu lo hi sl Q I rx hs pl pu ⟨_, _, rfl, e.t sq.sq, fun ⟨w1, w2⟩ => ?_, tuT (cutL ds lo hi), fun p o hp po => ?_⟩
      · have c : cutL ds lo hi = ds := by
          rw [cut_eq, ← VpAll.length dd, w1, w2, VpAll.length dd]
          simp
        rw [c] at k
        exact k F H _ (.refl e) (.tup sq dd)
      · exact k _ _ _ (.put e hp) (.tup (.inl ⟨o, po, upd_same⟩) (VpAll.up (FEi.put (e.back hp)) _ _ (cut_dp dd lo hi)))
  · rename_i t
    split at q
    · rename_i c
      cases q
      have h1 : Vp X.kc F x (.str t) := ba
      cases h1
      refine sl_str pins s σ H _ v vl vu lo hi sl Q I rx hs pl pu ⟨t, rfl, sz_ok c, ?_⟩
      have ce : cutS t lo hi = ⟨(cutL t.cps.toList lo hi).toArray⟩ := by
        rw [cut_eq]; rfl
      rw [ce]
      exact k F H _ (.refl e) (.str _)
    · cases q
  · cases q
theorem de_slice {a : Expr} {lo hi : Option Expr} {fa : EF} {fl fh : Option EF} {p2 pos : Pos} {q1 q2 q3 : Bool} (ha : DE X q1 a fa) (hl : DPart X q2 lo fl) (hh : DPart X q3 hi fh) : DE X (q1 && q2 && q3) (.Subscript a (.Slice lo hi none p2) pos) (eSl fa fl fh) := by
  obtain ⟨t, a1, a2⟩ := ha.ex
  obtain ⟨tl, b1, b2⟩ := hl.ex
  obtain ⟨th, c1, c2⟩ := hh.ex
  refine ⟨_, pe_slice slr a1 b1 c1, fun B H0 F0 F H σ r z r' q j Q k => ?_⟩
  simp only [eSl, Option.bind_eq_some_iff] at q
  obtain ⟨⟨za, r1⟩, q1, za', q2, ⟨l, r2⟩, q3, ⟨h, r3⟩, q4, c, q5, w, q6, q7⟩ := q
  cases q7
  refine a2 _ _ _ _ _ _ _ _ _ q1 j _ fun F1 H1 x e1 j1 k1 => ?_
  obtain ⟨F2, e2, j2, k2⟩ := settle_ok q2 j1 k1
  refine b2 _ _ _ _ _ _ _ _ _ q3 j2 _ fun F3 H3 e3 j3 => ?_
  refine c2 _ _ _ _ _ _ _ _ _ q4 j3 _ fun F4 H4 e4 j4 => ?_
  refine ⟨F4, c, z, j4.fh, j4.tagged, (k2.later (settle_still q2) (e3.f.trans e4.f)).look j4 q5, q6, fun F5 H5 v g o => ?_⟩
  exact k F5 H5 v ((((e1.qt e2).trans e3).trans e4).qt g.ge) (j4.grow g) (o.res j4 g)
/-- a[::-1] -/
theorem de_rev {a : Expr} {fa : EF} {k : Nat} {p1 p2 p3 pos : Pos} {qb : Bool} (ha : DE X qb a fa) : DE X qb (.Subscript a (.Slice none none (some (.UnaryOp .USub (.Constant (.int 1) k p1) p2)) p3) pos) (eUn gRev fa) := by
  obtain ⟨t, a1, a2⟩ := ha.ex
  refine ⟨_, pe_revL a1, fun B H0 F0 F H σ r z r' q j Q kk => ?_⟩
  simp only [eUn, Option.bind_eq_some_iff] at q
  obtain ⟨⟨za, r1⟩, q1, c, q2, w, q3, q4⟩ := q
  cases q4
  refine a2 _ _ _ _ _ _ _ _ _ q1 j _ fun F1 H1 x e1 j1 k1 => ?_
  have b := k1.look j1 q2
  unfold gRev at q3
  split at q3
  · rename_i ds
    cases q3
    obtain ⟨p, vs, rfl, sq, dd⟩ := b
    refine ⟨p, vs, rfl, sq, fun l hl => ?_⟩
    have g : Grow F1 H1 F1 (upd H1 l (.lst vs.reverse)) := .lay j1.fh hl
    exact kk _ _ _ (e1.qt g.ge) (j1.grow g) (RetOk.res j1 g ⟨l, rfl, hl, j1.fh.back hl, j1.tagged l hl, _, upd_same, VpAll.rev dd⟩)
  · cases q3
end
end CM
end
section
set_option Elab.async false
set_option linter.all false
set_option maxRecDepth 100000
set_option autoImplicit false
namespace CM
open PySem PySem.Spec PyProof.Rows L2 PySem.SeqAt

/-! ### kinds -/
theorem kits : ∀ a ∈ ["NoneType", "bool", "int", "str", "list", "tuple"], ∀ b ∈ ["bool", "int", "str", "list", "tuple", "dict"], kitB a b = some (isiS a b) := by decide +kernel
theorem kind_in (d : D) (h : nod d = true) : kindD d ∈ ["NoneType", "bool", "int", "str", "list", "tuple"] := by
  cases d <;> first | (simp [kindD]; done) | cases h
section
variable {X : Cx}
theorem kit_bd {F : Fz} {H : Hp} {pins : List (Addr × Obj)} {σ : L2.St} {s : Shared} (I : Inv X pins σ H s) (e : Ex F.f H) {x : V} {v : Value} {d : D} (rx : RelV x v) (dx : Bd X.kc F H x (.d d)) (nd : ∀ z, d ≠ .dict z) :
    ∃ P : Heap → Prop, PySem.W.KitX X.K v (.type (kindD d)) P ∧ P s.heap ∧ v ≠ .builtin "__main__.__loader__#opaque" := by
  cases d with
  | none => have dx : Vp X.kc F x .none := dx; cases dx; cases (show v = Value.none from rx); exact ⟨_, PySem.W.kitx_none, True.intro, fun z => nomatch z⟩
  | bool b => have dx : Vp X.kc F x (.bool b) := dx; cases dx; cases (show v = Value.bool b from rx); exact ⟨_, PySem.W.kitx_bool, True.intro, fun z => nomatch z⟩
  | int i => have dx : Vp X.kc F x (.int i) := dx; cases dx; obtain ⟨t, q⟩ := (show ∃ t, v = Value.int i t from rx); cases q; exact ⟨_, PySem.W.kitx_int, True.intro, fun z => nomatch z⟩
  | str i => have dx : Vp X.kc F x (.str i) := dx; cases dx; obtain ⟨t, q⟩ := (show ∃ t, v = Value.str i t from rx); cases q; exact ⟨_, PySem.W.kitx_str, True.intro, fun z => nomatch z⟩
  | list ds =>
    obtain ⟨p, xs, rfl, hs, _⟩ := dx
    cases rx
    obtain ⟨its, _, ⟨o, n, h1, h2, _⟩, _⟩ := I.list hs
    exact ⟨_, PySem.W.kitx_list, ⟨o, h1, h2⟩, fun z => nomatch z⟩
  | tuple ds =>
    have dx : Vp X.kc F x (.tuple ds) := dx
    cases dx with
    | tup hs _ =>
      cases rx
      obtain ⟨its, _, ⟨o, h1, h2, _⟩, _⟩ := I.tuple (e.t hs.sq)
      exact ⟨_, PySem.W.kitx_tuple, ⟨o, h1, h2⟩, fun z => nomatch z⟩
  | dict z => exact absurd rfl (nd z)
theorem kind_in' (d : D) (h : ∀ z, d ≠ .dict z) : kindD d ∈ ["NoneType", "bool", "int", "str", "list", "tuple"] := by
  cases d <;> first | (simp [kindD]; done) | exact absurd rfl (h _)
/-- isinstance(e, T) -/
theorem de_isi {e : Expr} {fa : EF} {T : Str} {n : String} {qb : Bool} {p p2 pos : Pos} (he : DE X qb e fa) (hT : n ∈ ["bool", "int", "str", "list", "tuple", "dict"]) (hg : Gl X "isinstance") (hm : X.mg "isinstance" = none) (hg2 : Gl X T) (hm2 : X.mg T = none) (hv : bootBuiltins T = some (.type n)) (hn2 : T ≠ "__name__" := by decide)
    (hd2 : (T == ("__debug__" : Str)) = false := by decide) (h1 : starEach [e, .Name T p2] X.env = (false, eval e X.env) :: starEach [.Name T p2] X.env := by rfl) (h2 : starEach [.Name T p2] X.env = (false, eval (.Name T p2) X.env) :: starEach [] X.env := by rfl)
    (hpl : (backTo pos (starEach [.Name T p2] X.env)).any (·.1) = false := by rfl) : DE X qb (.Call (.Name "isinstance" p) [e, .Name T p2] [] pos) (eIsi n fa) := by
  obtain ⟨t, a1, a2⟩ := he.ex
  have hc : CallR X (.builtin "isinstance") (fun xs H Q => ∃ (F : Fz) (x : V) (c : C) (z : Res), Ex F.f H ∧ xs = [x, .ty n] ∧ Bd X.kc F H x c ∧ gIsi n c = some z ∧ ∀ F' H' v, Grow F H F' H' → RetOk X.kc H F' H' v z → Q v H') := by
    intro pins s σ H xs us Q I r hh
    obtain ⟨F, x, c, z, ee, rfl, b, q, k⟩ := hh
    obtain ⟨u1, u2, rfl, r1, r2⟩ := vals2 r
    cases (show u2 = Value.type n from r2)
    cases c with
    | d y =>
      have nd : ∀ z, y ≠ .dict z := fun z w => by subst w; cases q
      have q : shB (isiS (kindD y) n) = some z := by
        cases y with
        | dict w => exact absurd rfl (nd w)
        | _ => exact q
      obtain ⟨P, Z, pp, hx⟩ := kit_bd I ee r1 b nd
      have kk := kits _ (kind_in' y nd) n hT
      exact PySem.W.kia_one Z I.kIn pp (kit_ty kk) hx fun tk => ⟨.bl _, H, I.tok tk, rfl, k F H _ (.refl ee) (shB_ret q)⟩
    | dk _ => cases q
    | dt _ => cases q
  refine ⟨_, pe_callB hc hg hm boot_isinstance (pa_cons a1 (pa_cons (pe_bltn hg2 hm2 hv (v := .ty n) rfl hn2 hd2) pa_nil h2) h1) (by decide) (by decide) h1 hpl, fun B H0 F0 F H σ r z r' q j Q k => ?_⟩
  simp only [eIsi, eUn, Option.bind_eq_some_iff] at q
  obtain ⟨⟨za, r1⟩, q1, c, q2, w, q3, q4⟩ := q
  cases q4
  refine a2 _ _ _ _ _ _ _ _ _ q1 j _ fun F1 H1 x e1 j1 k1 => ?_
  exact ⟨F1, x, c, z, j1.fh, rfl, k1.look j1 q2, q3, fun F2 H2 v g o => k F2 H2 v (e1.qt g.ge) (j1.grow g) (o.res j1 g)⟩

/-! ### calls -/
theorem one_of {K : KC} {F : Fz} {H : Hp} {xs : List V} {c : C} (h : Paired (Bd K F H) xs [c]) : ∃ x, xs = [x] ∧ Bd K F H x c := by
  cases h with
  | cons h1 h2 => cases h2; exact ⟨_, rfl, h1⟩
theorem two_of {K : KC} {F : Fz} {H : Hp} {xs : List V} {c d : C} (h : Paired (Bd K F H) xs [c, d]) : ∃ x y, xs = [x, y] ∧ Bd K F H x c ∧ Bd K F H y d := by
  cases h with
  | cons h1 h2 =>
    obtain ⟨y, rfl, h3⟩ := one_of h2
    exact ⟨_, y, rfl, h1, h3⟩
theorem dcl_len : DCl X (.builtin "len") gLen := by
  refine .of fun pins s σ H xs us Q I r ⟨F, cs, z, e, et, b, q, k⟩ => ?_
  unfold gLen at q
  split at q
  · rename_i ds
    cases q
    obtain ⟨x, rfl, p, vs, rfl, sq, dd⟩ := one_of b
    refine call_len_seq pins s σ H _ us Q I r ⟨p, vs, rfl, .inl sq, ?_⟩
    rw [VpAll.length dd]
    exact k F H _ (.refl e) (.int _)
  · rename_i ds
    cases q
    obtain ⟨x, rfl, h⟩ := one_of b
    have h : Vp X.kc F x (.tuple ds) := h
    cases h with
    | tup sq dd =>
      refine call_len_seq pins s σ H _ us Q I r ⟨_, _, rfl, .inr (e.t sq.sq), ?_⟩
      rw [VpAll.length dd]
      exact k F H _ (.refl e) (.int _)
  · rename_i t
    split at q
    · rename_i c
      cases q
      obtain ⟨x, rfl, h⟩ := one_of b
      have h : Vp X.kc F x (.str t) := h
      cases h
      exact call_len_str pins s σ H _ us Q I r ⟨t, rfl, sz_ok c, k F H _ (.refl e) (.int _)⟩
    · cases q
  · rename_i kvs
    cases q
    obtain ⟨x, rfl, p, es, rfl, rd, dd⟩ := one_of b
    rw [Vals.ref1 r]
    refine d_len I rd fun t s' I' => ⟨.int _, H, I', ⟨t, rfl⟩, ?_⟩
    have hl : es.length = kvs.length := Paired.length dd
    rw [hl]
    exact k F H _ (.refl e) (.int _)
  · rename_i kvs
    cases q
    obtain ⟨x, rfl, p, es, rfl, rd, dd⟩ := one_of b
    rw [Vals.ref1 r]
    obtain ⟨z, hd, ys, rel, dk⟩ := dt_rd I.hok rd
    have hl : es.length = ys.length := Paired.length rel
    have h2 : es.length = kvs.length := Paired.length dd
    refine call_len_dictH hd dk (by rw [← hl]; rw [sizeLine_eq] at z; omega) ?_
    rw [← hl, h2]
    exact ⟨.int _, H, I.tok _, ⟨_, rfl⟩, k F H _ (.refl e) (.int _)⟩
  · cases q
theorem dcl_list : DCl X (.type "list") gList := by
  refine .of fun pins s σ H xs us Q I r ⟨F, cs, z, e, et, b, q, k⟩ => ?_
  unfold gList at q
  split at q
  · rename_i ds
    cases q
    obtain ⟨x, rfl, p, vs, rfl, sq, dd⟩ := one_of b
    exact call_list_of pins s σ H _ us Q I r ⟨p, vs, rfl, .inl sq, fun l hl => k F _ _ (.lay e hl) ⟨l, rfl, hl, e.back hl, et l hl, _, upd_same, dd⟩⟩
  · rename_i ds
    cases q
    obtain ⟨x, rfl, h⟩ := one_of b
    have h : Vp X.kc F x (.tuple ds) := h
    cases h with
    | tup sq dd => exact call_list_of pins s σ H _ us Q I r ⟨_, _, rfl, .inr (e.t sq.sq), fun l hl => k F _ _ (.lay e hl) ⟨l, rfl, hl, e.back hl, et l hl, _, upd_same, dd⟩⟩
  · cases q
theorem dcl_tuple : DCl X (.type "tuple") gTuple := by
  refine .of fun pins s σ H xs us Q I r ⟨F, cs, z, e, et, b, q, k⟩ => ?_
  unfold gTuple at q
  split at q
  · rename_i ds
    cases q
    obtain ⟨x, rfl, p, vs, rfl, sq, dd⟩ := one_of b
    exact call_tupleZ pins s σ H _ us Q I r ⟨p, vs, rfl, .inl ⟨sq, tuT ds, fun l o hl po => k _ _ _ (.put e hl) (.tup (.inl ⟨o, po, upd_same⟩) (VpAll.up (FEi.put (e.back hl)) _ _ dd))⟩⟩
  · rename_i ds
    cases q
    obtain ⟨x, rfl, h⟩ := one_of b
    have h : Vp X.kc F x (.tuple ds) := h
    cases h with
    | tup sq dd => exact call_tuple_of pins s σ H _ us Q I r ⟨_, _, rfl, .inr ⟨e.t sq.sq, k F H _ (.refl e) (.tup sq dd)⟩⟩
  · cases q
theorem dcl_max2 (hc : X.calm = true) : DCl X (.builtin "max") gMax2 := by
  refine .of fun pins s σ H xs us Q I r ⟨F, cs, z, e, et, b, q, k⟩ => ?_
  unfold gMax2 at q
  split at q
  · rename_i i j
    cases q
    obtain ⟨x, y, rfl, h1, h2⟩ := two_of b
    have h1 : Vp X.kc F x (.int i) := h1
    have h2 : Vp X.kc F y (.int j) := h2
    cases h1; cases h2
    exact call_max2 hc pins s σ H _ us Q I r ⟨i, j, rfl, k F H _ (.refl e) (.int _)⟩
  · cases q
theorem dcl_min2 (hc : X.calm = true) : DCl X (.builtin "min") gMin2 := by
  refine .of fun pins s σ H xs us Q I r ⟨F, cs, z, e, et, b, q, k⟩ => ?_
  unfold gMin2 at q
  split at q
  · rename_i i j
    cases q
    obtain ⟨x, y, rfl, h1, h2⟩ := two_of b
    have h1 : Vp X.kc F x (.int i) := h1
    have h2 : Vp X.kc F y (.int j) := h2
    cases h1; cases h2
    exact call_min2 hc pins s σ H _ us Q I r ⟨i, j, rfl, k F H _ (.refl e) (.int _)⟩
  · cases q
theorem dcl_int : DCl X (.type "int") gInt := by
  refine .of fun pins s σ H xs us Q I r ⟨F, cs, z, e, et, b, q, k⟩ => ?_
  unfold gInt at q
  split at q
  · rename_i i
    cases q
    obtain ⟨x, rfl, h1⟩ := one_of b
    have h1 : Vp X.kc F x (.int i) := h1
    cases h1
    exact call_int1 pins s σ H _ us Q I r (.inl ⟨i, rfl, k F H _ (.refl e) (.int _)⟩)
  · rename_i i
    cases q
    obtain ⟨x, rfl, h1⟩ := one_of b
    have h1 : Vp X.kc F x (.bool i) := h1
    cases h1
    exact call_int1 pins s σ H _ us Q I r (.inr ⟨i, rfl, k F H _ (.refl e) (.int _)⟩)
  · cases q
theorem ints_vs {K : KC} {F : Fz} : ∀ {ds : List D} {vs : List V} {is : List Int}, intsD ds = some is → VpAll K F vs ds → vs = is.map V.int
  | [], _, _, q, h => by cases h; cases q; rfl
  | d :: ds, _, is, q, h => by
    cases h with
    | cons h1 h2 =>
      cases d with
      | int i =>
        simp only [intsD, Option.bind_eq_some_iff] at q
        obtain ⟨js, q1, q2⟩ := q
        cases q2
        cases h1
        rw [ints_vs q1 h2]; rfl
      | _ => simp [intsD] at q
theorem bools_vs {K : KC} {F : Fz} : ∀ {ds : List D} {vs : List V} {is : List Bool}, boolsD ds = some is → VpAll K F vs ds → vs = is.map V.bl
  | [], _, _, q, h => by cases h; cases q; rfl
  | d :: ds, _, is, q, h => by
    cases h with
    | cons h1 h2 =>
      cases d with
      | bool i =>
        simp only [boolsD, Option.bind_eq_some_iff] at q
        obtain ⟨js, q1, q2⟩ := q
        cases q2
        cases h1
        rw [bools_vs q1 h2]; rfl
      | _ => simp [boolsD] at q
theorem dcl_sum (hc : X.calm = true) : DCl X (.builtin "sum") gSum := by
  refine .of fun pins s σ H xs us Q I r ⟨F, cs, z, e, et, b, q, k⟩ => ?_
  unfold gSum at q
  split at q
  · rename_i ds
    simp only [Option.bind_eq_some_iff] at q
    obtain ⟨is, q1, q2⟩ := q
    cases q2
    obtain ⟨x, rfl, p, vs, rfl, sq, dd⟩ := one_of b
    have ev := ints_vs q1 dd
    subst ev
    exact cr_sum hc pins s σ H _ us Q I r ⟨p, is, rfl, sq, k F H _ (.refl e) (.int _)⟩
  · cases q
theorem dcl_all (hc : X.calm = true) : DCl X (.builtin "all") gAll := by
  refine .of fun pins s σ H xs us Q I r ⟨F, cs, z, e, et, b, q, k⟩ => ?_
  unfold gAll at q
  split at q
  · rename_i ds
    simp only [Option.bind_eq_some_iff] at q
    obtain ⟨is, q1, q2⟩ := q
    obtain ⟨x, rfl, p, vs, rfl, sq, dd⟩ := one_of b
    have ev := bools_vs q1 dd
    subst ev
    exact cr_all hc pins s σ H _ us Q I r ⟨p, is, rfl, sq, k F H _ (.refl e) (shB_ret q2)⟩
  · cases q

/-! ### ranges -/
theorem itOk_r {K : KC} {G : Hp} {F : Fz} (lo : Int) (n : Nat) : ItOk K (Itr lo n) G F (rgD lo n) := fun i F1 H1 e1 e2 _ => by
  have hl : (rgD lo n).length = n := by simp [rgD]
  refine ⟨fun hi => ⟨by rw [hl] at hi; exact hi, fun x H2 ⟨q1, q2⟩ => ?_⟩, fun hi => by rw [hl] at hi; exact hi⟩
  subst q1 q2
  rw [hl] at hi
  refine ⟨F1, .refl e2, .int (lo + (i : Nat)), ?_, .int _⟩
  unfold rgD
  rw [List.getElem?_map, List.getElem?_range hi]
  rfl
theorem di_rg1 {tg a : Expr} {fa : EF} {p pos : Pos} (hg : Gl X "range") (hm : X.mg "range" = none) {q1 : Bool} (ha : DE X q1 a fa) (hs : starEach [a] X.env = [(false, eval a X.env)] := by rfl) : DI X tg (.Call (.Name "range" p) [a] [] pos) (iRg [fa]) := by
  have h : DA X (q1 && true) [a] [fa] := da_cons ha da_nil hs
  obtain ⟨t, a1, a2⟩ := h.ex
  refine ⟨_, pi_range1 hg hm a1 hs, fun B H0 F0 F H σ r ds l r' q j R k => ?_⟩
  simp only [iRg, Option.bind_eq_some_iff] at q
  obtain ⟨⟨zs, r1⟩, q1, cs, q2, q3⟩ := q
  refine a2 _ _ _ _ _ _ _ _ _ q1 j _ fun F1 H1 vs e1 j1 k1 => ?_
  have b := looks_ok j1 q2 k1
  have l1 := eArgs_len q1
  have l2 := Paired.length b
  have l3 : vs.length = zs.length := k1.length
  split at q3
  · rename_i i
    split at q3
    · rename_i c
      cases q3
      obtain ⟨x, rfl, h1⟩ := one_of b
      have h1 : Vp X.kc F1 x (.int i) := h1
      cases h1
      exact ⟨i, rfl, by omega, by omega, k F1 H1 _ _ F1 _ e1.weak (.no j1) (itOk_r 0 _)⟩
    · cases q3
  · rename_i i i2
    have l1 : zs.length = 1 := l1
    have l2 : vs.length = 2 := l2
    omega
  · cases q3
theorem di_rg2 {tg a b : Expr} {fa fb : EF} {p pos : Pos} (hg : Gl X "range") (hm : X.mg "range" = none) {q1 : Bool} (ha : DE X q1 a fa) {q2 : Bool} (hb : DE X q2 b fb) (hs : starEach [a, b] X.env = [(false, eval a X.env), (false, eval b X.env)] := by rfl) (hs2 : starEach [b] X.env = [(false, eval b X.env)] := by rfl) :
    DI X tg (.Call (.Name "range" p) [a, b] [] pos) (iRg [fa, fb]) := by
  have h : DA X (q1 && (q2 && true)) [a, b] [fa, fb] := da_cons ha (da_cons hb da_nil hs2) (by rw [hs, hs2])
  obtain ⟨t, a1, a2⟩ := h.ex
  refine ⟨_, pi_range2 hg hm a1 hs hs2, fun B H0 F0 F H σ r ds l r' q j R k => ?_⟩
  simp only [iRg, Option.bind_eq_some_iff] at q
  obtain ⟨⟨zs, r1⟩, q1, cs, q2, q3⟩ := q
  refine a2 _ _ _ _ _ _ _ _ _ q1 j _ fun F1 H1 vs e1 j1 k1 => ?_
  have b := looks_ok j1 q2 k1
  have l1 := eArgs_len q1
  have l2 := Paired.length b
  have l3 : vs.length = zs.length := k1.length
  split at q3
  · rename_i i
    have l1 : zs.length = 2 := l1
    have l2 : vs.length = 1 := l2
    omega
  · rename_i i i2
    split at q3
    · rename_i c
      cases q3
      obtain ⟨x, y, rfl, h1, h2⟩ := two_of b
      have h1 : Vp X.kc F1 x (.int i) := h1
      have h2 : Vp X.kc F1 y (.int i2) := h2
      cases h1; cases h2
      exact ⟨i, i2, rfl, ⟨by omega, by omega, by omega, by omega⟩, k F1 H1 _ _ F1 _ e1.weak (.no j1) (itOk_r i _)⟩
    · cases q3
  · cases q3
end
end CM
end
section
set_option Elab.async false
set_option linter.all false
set_option maxRecDepth 100000
set_option autoImplicit false
namespace CM
open PySem PySem.Spec PyProof.Rows L2 PySem.SeqAt

/-! ### sorted -/
theorem sort_each2 {K : KC} {F : Fz} : ∀ {ds : List D} {vs : List V} {us : List Value}, VpAll K F vs ds → Vals vs us → ∃ ps : List (V × D), ps.map (·.1) = vs ∧ ps.map (·.2) = ds ∧ W.EachIs (fun u p => RelV p.1 u ∧ Vp K F p.1 p.2) us ps
  | [], _, _, h, r => by cases h; cases r; exact ⟨[], rfl, rfl, .nil⟩
  | d :: ds, _, _, h, r => by
    cases h with
    | cons h1 h2 =>
      cases r with
      | cons r1 r2 =>
        obtain ⟨ps, e1, e2, e3⟩ := sort_each2 h2 r2
        refine ⟨(_, d) :: ps, ?_, ?_, .cons ⟨r1, h1⟩ e3⟩
        · rw [List.map_cons, e1]
        · rw [List.map_cons, e2]
theorem each_back {K : KC} {F : Fz} : ∀ {us : List Value} {ps : List (V × D)}, W.EachIs (fun u p => RelV p.1 u ∧ Vp K F p.1 p.2) us ps → Vals (ps.map (·.1)) us ∧ VpAll K F (ps.map (·.1)) (ps.map (·.2))
  | [], [], _ => ⟨.nil, .nil⟩
  | [], _ :: _, h => by cases h
  | _ :: _, [], h => by cases h
  | u :: us, p :: ps, h => by
    cases h with
    | cons h1 h2 =>
      obtain ⟨a, b⟩ := each_back h2
      exact ⟨.cons h1.1 a, .cons h1.2 b⟩
theorem nods_mem : ∀ {ds : List D} {d : D}, nods ds = true → d ∈ ds → nod d = true
  | [], _, _, h => by cases h
  | x :: xs, d, n, h => by
    obtain ⟨n1, n2⟩ := nods_cons n
    rcases List.mem_cons.mp h with z | z
    · rw [z]; exact n1
    · exact nods_mem n2 z
theorem each_mono {β : Type} {R R' : Value → β → Prop} : ∀ {us : List Value} {ps : List β}, W.EachIs R us ps → (∀ u p, p ∈ ps → R u p → R' u p) → W.EachIs R' us ps
  | [], [], _, _ => .nil
  | [], _ :: _, h, _ => by cases h
  | _ :: _, [], h, _ => by cases h
  | u :: us, p :: ps, h, k => by
    cases h with
    | cons h1 h2 => exact .cons (k _ _ (List.mem_cons_self) h1) (each_mono h2 fun u p hp => k u p (List.mem_cons_of_mem _ hp))
theorem alikeB_ok {ds : List D} (h : alikeB ds = true) : W.AllAlike ds := fun d hd d' hd' => by
  unfold alikeB at h
  rw [List.all_eq_true] at h
  have := h d hd
  rw [List.all_eq_true] at this
  exact this d' hd'
theorem sortable_ok {ds : List D} (h : (ds.all tupB || ds.all plainB) = true) : W.Sortable ds := by
  rw [Bool.or_eq_true] at h
  rcases h with h | h
  · left
    intro d hd
    rw [List.all_eq_true] at h
    have := h d hd
    cases d with
    | tuple xs =>
      cases xs with
      | nil => cases this
      | cons x r => exact ⟨x, r, rfl⟩
    | _ => cases this
  · right
    intro d hd
    rw [List.all_eq_true] at h
    have := h d hd
    cases d with
    | tuple xs => cases this
    | none => cases this
    | _ => exact ⟨(fun z => by cases z), (fun xs z => by cases z)⟩
theorem sortB_ok {ds : List D} (h : sortB ds = true) : nods ds = true ∧ W.AllAlike ds ∧ W.Sortable ds ∧ (∀ d ∈ ds, d.depth ≤ 60) ∧ ds.length ≤ sizeLine := by
  unfold sortB at h
  rw [Bool.and_eq_true, Bool.and_eq_true, Bool.and_eq_true, Bool.and_eq_true] at h
  obtain ⟨⟨⟨⟨h0, h1⟩, h2⟩, h3⟩, h4⟩ := h
  refine ⟨h0, alikeB_ok h1, sortable_ok h2, fun d hd => ?_, sz_ok (of_decide_eq_true h4)⟩
  rw [List.all_eq_true] at h3
  exact of_decide_eq_true (h3 d hd)
section
variable {X : Cx}
theorem dcl_sorted (hu : X.A.units + 64 < cLine) : DCl X (.builtin "sorted") gSorted := by
  refine .of fun pins s σ H xs us Q I r ⟨F, cs, z, e, et, b, q, k⟩ => ?_
  unfold gSorted at q
  split at q
  · rename_i ds
    split at q
    · rename_i c
      cases q
      obtain ⟨nd, al, so, dp, ln⟩ := sortB_ok c
      obtain ⟨x, rfl, p, vs, rfl, sq, dd⟩ := one_of b
      rw [Vals.ref1 r]
      obtain ⟨its, rv, hl, hz⟩ := I.list sq
      obtain ⟨ps, e1, e2, e3⟩ := sort_each2 dd rv
      have e4 : W.EachIs (fun v b => ∃ as, Reads s.heap v b.2 as) its ps := each_mono e3 fun u p hp ⟨g1, g2⟩ => Dp.reads I p.2 p.1 u (Vp.dp e _ _ g2 (nods_mem nd (by rw [← e2]; exact List.mem_map.mpr ⟨p, hp, rfl⟩))) g1
      have lp : ps.length = ds.length := by rw [← e2, List.length_map]
      refine W.sorted_data (enc := fun p : V × D => p.2) hl.isList e3 e4 (by rw [e2]; exact al) (by rw [e2]; exact so) (by rw [lp]; exact ln) (fun p hp => ?_) fun out ho er => ?_
      · have : p.2 ∈ ds := by rw [← e2]; exact List.mem_map.mpr ⟨p, hp, rfl⟩
        have := dp _ this
        omega
      · obtain ⟨g1, g2⟩ := each_back er
        have hm : (ps.mergeSort (W.dataLe false fun p : V × D => p.2)).map (·.2) = sortD ds := by
          rw [← e2]
          exact W.sort_maps (fun p : V × D => p.2) fun a _ b _ => rfl
        rw [hm] at g2
        obtain ⟨ep, he⟩ := PyProof.Rows.sortedAll_at s.heap its out.toArray
        have hf : H (s.heap.objs.size + 1) = none := I.hok.fresh (Nat.le_succ _)
        refine ⟨.ref _, upd H (s.heap.objs.size + 1) (.lst ((ps.mergeSort (W.dataLe false fun p : V × D => p.2)).map (·.1))), I.laid (t' := s.toks) (fun _ _ => PyProof.Rows.sortedAll_old) (Nat.le_succ _) ⟨by rw [VpAll.length g2]; unfold sortD; rw [List.length_mergeSort]; exact ln, out, ep, g1, he⟩, rfl, ?_⟩
        exact k F _ _ (.lay e hf) ⟨_, rfl, hf, e.back hf, et _ hf, _, upd_same, g2⟩
    · cases q
  · cases q
/-! ### -x, chains -/
theorem de_neg {a : Expr} {fa : EF} {pos : Pos} {qb : Bool} (ha : DE X qb a fa) : DE X qb (.UnaryOp .USub a pos) (eUn gNeg fa) := by
  obtain ⟨t, a1, a2⟩ := ha.ex
  refine ⟨_, pe_un un_neg a1, fun B H0 F0 F H σ r z r' q j Q k => ?_⟩
  simp only [eUn, Option.bind_eq_some_iff] at q
  obtain ⟨⟨za, r1⟩, q1, c, q2, w, q3, q4⟩ := q
  cases q4
  refine a2 _ _ _ _ _ _ _ _ _ q1 j _ fun F1 H1 x e1 j1 k1 => ?_
  have b := k1.look j1 q2
  unfold gNeg at q3
  split at q3
  · rename_i i
    cases q3
    have b : Vp X.kc F1 x (.int i) := b
    cases b
    exact ⟨i, rfl, k F1 H1 _ e1 j1 (.int _)⟩
  · cases q3
theorem re_chain {K : KC} {o o' : R2} {g h : C → C → Option Res} {ta tb tc : TE} {fa fb fc : EF} (ho : ROp K o g) (ho' : ROp K o' h) {q1' q2' q3' : Bool} (ha : RE K q1' ta fa) (hb : RE K q2' tb fb) (hc : RE K q3' tc fc) : RE K (q1' && q2' && q3') (tChain o o' ta tb tc) (eChain g h fa fb fc) := by
  intro B H0 F0 F H σ r z r' q j Q k
  simp only [eChain, Option.bind_eq_some_iff] at q
  obtain ⟨⟨za, r1⟩, q1, za', q2, ⟨zb, r2⟩, q3, zb', q4, u, q5, v, q6, w, q7, q8⟩ := q
  refine ha _ _ _ _ _ _ _ _ _ q1 j _ fun F1 H1 x e1 j1 k1 => ?_
  obtain ⟨F2, e2, j2, k2⟩ := settle_ok q2 j1 k1
  refine hb _ _ _ _ _ _ _ _ _ q3 j2 _ fun F3 H3 y e3 j3 k3 => ?_
  obtain ⟨F4, e4, j4, k4⟩ := settle_ok q4 j3 k3
  have ka := k2.later (F' := F4) (H' := H3) (r' := r2) (settle_still q2) (e3.f.trans e4.f)
  refine ho F4 H3 x y u v w j4.fh j4.tagged (ka.look j4 q5) (k4.look j4 q6) q7 _ fun F5 H5 y' g5 o5 => ?_
  have ee : Ge (q1' && q2') F H r F5 H5 r2 := ((e1.qt e2).trans (e3.qt e4)).qt g5.ge
  have j5 := j4.grow g5
  dsimp only at q8
  split at q8
  · have o5 : Vp K F5 y' (.bool true) := o5
    cases o5
    refine ⟨true, rfl, ?_⟩
    rw [if_pos rfl]
    simp only [Option.bind_eq_some_iff] at q8
    obtain ⟨⟨zc, r3⟩, q9, v2, q10, w2, q11, z2, q12, q13⟩ := q8
    cases q13
    refine hc _ _ _ _ _ _ _ _ _ q9 j5 _ fun F6 H6 x6 e6 j6 k6 => ?_
    have kb : ResOk K H0 F6 H6 σ r3 y zb' := k4.later (settle_still q4) (g5.fe.trans e6.f)
    refine ho' F6 H6 y x6 v2 w2 z j6.fh j6.tagged (kb.look j6 q10) (k6.look j6 q11) q12 Q fun F7 H7 y7 g7 o7 => ?_
    exact k F7 H7 y7 ((ee.trans e6).qt g7.ge) (j6.grow g7) (o7.res j6 g7)
  · have o5 : Vp K F5 y' (.bool false) := o5
    cases o5
    cases q8
    refine ⟨false, rfl, ?_⟩
    rw [if_neg Bool.false_ne_true]
    exact k F5 H5 _ ee.left j5 (.bl false)
  · cases q8
theorem de_chain {op op' : CmpOp} {a b c : Expr} {g h : C → C → Option Res} {fa fb fc : EF} {pos : Pos} (ho : DOp X (compareOp op) g) (ho' : DOp X (compareOp op') h) {q1 q2 q3 : Bool} (ha : DE X q1 a fa) (hb : DE X q2 b fb) (hc : DE X q3 c fc)
    (hm : lastMarks [op, op'] [b, c] = false := by with_unfolding_all rfl) : DE X (q1 && q2 && q3) (.Compare a [op, op'] [b, c] pos) (eChain g h fa fb fc) := by
  obtain ⟨o, h1, h2⟩ := ho.ex
  obtain ⟨o', h3, h4⟩ := ho'.ex
  obtain ⟨ta, a1, a2⟩ := ha.ex
  obtain ⟨tb, b1, b2⟩ := hb.ex
  obtain ⟨tc, c1, c2⟩ := hc.ex
  exact ⟨_, pe_chain h1 h3 a1 b1 c1 hm, re_chain h2 h4 a2 b2 c2⟩
theorem dt_chain {op op' : CmpOp} {a b c : Expr} {g h : C → C → Option Res} {fa fb fc : EF} {pos : Pos} (ho : DOp X (compareOp op) g) (ho' : DOp X (compareOp op') h) {q1 q2 q3 : Bool} (ha : DE X q1 a fa) (hb : DE X q2 b fb) (hc : DE X q3 c fc)
    (hm : lastMarks [op, op'] [b, c] = false := by with_unfolding_all rfl) : DT X (.Compare a [op, op'] [b, c] pos) (tE (eChain g h fa fb fc)) := by
  obtain ⟨o, h1, h2⟩ := ho.ex
  obtain ⟨o', h3, h4⟩ := ho'.ex
  obtain ⟨ta, a1, a2⟩ := ha.ex
  obtain ⟨tb, b1, b2⟩ := hb.ex
  obtain ⟨tc, c1, c2⟩ := hc.ex
  exact ⟨_, pt_chain h1 h3 a1 b1 c1 hm, rt_test (re_chain h2 h4 a2 b2 c2)⟩
end
end CM
end
section
set_option Elab.async false
set_option linter.all false
set_option maxRecDepth 100000
set_option autoImplicit false
namespace CM
open PySem PySem.Spec PyProof.Rows L2 PySem.SeqAt
/-! ### what is changed in its place -/
structure Chg (p : Addr) (F : Fz) (H : Hp) (F' : Fz) (H' : Hp) : Prop where
  f : Ex F.f F'.f
  t : F'.t = F.t
  fh : Ex F'.f H'
  nw : ∀ a o, F'.f a = some o → F.f a = some o ∨ H a = none ∨ TupO o
  h : ∀ a o, a ≠ p → H a = some o → H' a = some o
def OwnAt (F : Fz) (H : Hp) (σ : L2.St) (r : Env) (p : Addr) (c : C) : Pl → Prop
  | .sl i => r.sl[i]? = some (.ow c) ∧ σ[i]? = some (some (.ref p))
  | .fl _ i f => ∃ n pi C dx es, obAt r i = some n ∧ F.t pi = some (.ins n) ∧ H pi = some (.ins C dx es) ∧ es.lookup f = some (.ref p) ∧ F.t p = some (.fld n f) ∧ fldAt r.st n f = some (.ow c)
section
variable {K : KC} {F F' F1 : Fz} {H H' H1 B H0 F0 : Hp} {σ : L2.St} {r r' : Env} {v : V} {c c' : C} {x : D} {p : Addr} {s : Slot} {ds : List D} {q : Pl}
theorem OwnAt.facts (j : J K B H0 F0 F H σ r) (o : OwnAt F H σ r p c q) : H0 p = none ∧ F.f p = none ∧ Od K F H p c ∧ H p ≠ none := by
  cases q with
  | sl i =>
    obtain ⟨h1, h2⟩ := o
    obtain ⟨p', a, b1, b2, b3, b4⟩ := j.sl i _ h1
    rw [h2] at a; cases a
    exact ⟨b1, b2, b4, b4.ne⟩
  | fl cs i f =>
    obtain ⟨n, pi, C, dx, es, h1, h2, h3, h4, h5, h6⟩ := o
    obtain ⟨a, b, c⟩ := j.so.sep p _ h5
    obtain ⟨q', e, t', od⟩ := j.so.field h2 h3 h4 h6
    cases e
    exact ⟨c.elim id (fun ⟨_, _, z⟩ => by cases z), a, od, b⟩
theorem J.chg (j : J K B H0 F0 F H σ r) (o : OwnAt F H σ r p c q) (g : Chg p F H F' H') (od : Od K F' H' p c') : J K B H0 F0 F' H' σ (ownPut r c' q) := by
  obtain ⟨h0, hf, _, hp⟩ := o.facts j
  have fe : FEx F F' := .of g.f g.t
  have e0' : Ex H0 H' := fun a u w => g.h a u (fun z => by subst z; rw [h0] at w; cases w) (j.e0 _ _ w)
  have nw' : ∀ a o, F'.f a = some o → F0 a = some o ∨ H0 a = none ∨ TupO o := fun a u w => by
    rcases g.nw a u w with z | z | z
    · exact j.nw a u z
    · exact .inr (.inl (j.e0.back z))
    · exact .inr (.inr z)
  have keepF : ∀ a, H a ≠ none → F.f a = none → (∀ u, TupO u → H' a ≠ some u) → F'.f a = none := fun a h1 h2 h3 => by
    cases w : F'.f a with
    | none => rfl
    | some u =>
      rcases g.nw a u w with z | z | z
      · rw [h2] at z; cases z
      · exact absurd z h1
      · exact absurd (g.fh _ _ w) (h3 u z)
  have tagT : ∀ a t, F.t a = some t → ∀ u, TupO u → H' a ≠ some u := fun a t e u i => by
    by_cases y : a = p
    · subst y; exact od.noT i
    · exact j.so.noT' e i fun u w => g.h a u y w
  have slots : ∀ (k : Nat) (s : Slot), r.sl[k]? = some s → (∀ c1, s = .ow c1 → σ[k]? ≠ some (some (.ref p))) → SlotOk K B H0 F' H' (σ[k]?) s := fun k s w ne => by
    have b := j.sl k s w
    cases s with
    | no => trivial
    | sh d => obtain ⟨v, a, b⟩ := b; exact ⟨v, a, Vp.up fe _ _ b⟩
    | bo c => obtain ⟨v, a, b⟩ := b; exact ⟨v, a, b.up fe (.refl _)⟩
    | lk c => obtain ⟨v, a, b⟩ := b; exact ⟨v, a, b.up fe (.refl _)⟩
    | ow c1 =>
      obtain ⟨p2, a, b1, b2, b3, b4⟩ := b
      have z : p2 ≠ p := fun z => ne c1 rfl (by rw [← z]; exact a)
      exact ⟨p2, a, b1, keepF p2 b4.ne b2 (fun u i => (b4.up (F' := F') fe fun o w => g.h _ _ z w).noT i), by rw [g.t]; exact b3, b4.up fe fun o w => g.h _ _ z w⟩
  cases q with
  | sl i =>
    obtain ⟨hi, hpi⟩ := o
    have ht : F.t p = none := by
      obtain ⟨p', a, _, _, t, _⟩ := j.sl i _ hi
      rw [hpi] at a; cases a
      exact t
    refine ⟨j.eb, e0', j.ef.trans g.f, g.fh, nw', j.so.same fe g.t (fun a w o e => g.h a o (fun z => by subst z; exact w ht) e) (fun a w => ?_), by show σ.length = (r.put i _).sl.length; rw [put_len]; exact j.len, fun k s w => ?_, fun k l c1 c2 p1 h1 h2 h3 h4 => ?_⟩
    · cases t : F.t a with
      | none => exact absurd t w
      | some u =>
        obtain ⟨a1, a2, _⟩ := j.so.sep a u t
        exact keepF a a2 a1 (tagT a u t)
    · rcases put_at w with ⟨z, e, _⟩ | ⟨z, w⟩
      · subst z; subst e
        exact ⟨p, hpi, h0, keepF p hp hf (fun u i => od.noT i), by rw [g.t]; exact ht, od⟩
      · exact slots k s w fun c1 e w2 => by
          subst e
          exact z (j.dj i k _ _ p hi w hpi w2)
    · have gg : ∀ {k : Nat} {c1 : C}, (r.put i (.ow c')).sl[k]? = some (.ow c1) → ∃ c0, r.sl[k]? = some (.ow c0) := fun {k c1} w => by
        rcases put_at w with ⟨z, _, _⟩ | ⟨_, w⟩
        · subst z; exact ⟨_, hi⟩
        · exact ⟨_, w⟩
      obtain ⟨d1, g1⟩ := gg h1
      obtain ⟨d2, g2⟩ := gg h2
      exact j.dj k l d1 d2 p1 g1 g2 h3 h4
  | fl cs i f =>
    obtain ⟨n, pi, C, dx, es, h1, h2, h3, h4, h5, h6⟩ := o
    have hu : ownPut r c' (.fl cs i f) = r.putF n f (.ow c') := by
      show (match obAt r i with | some n => r.putF n f (.ow c') | none => r) = _
      rw [h1]
    rw [hu]
    have ne : ∀ {a : Addr} {u : Tg}, F.t a = some u → u ≠ .fld n f → a ≠ p := fun {a u} e z y => by subst y; rw [h5] at e; cases e; exact z rfl
    have npi : pi ≠ p := ne h2 fun z => by cases z
    have nolok : ∀ a, F.t a ≠ some (.lok n f) := fun a z => by
      obtain ⟨c', w⟩ := j.so.tl a n f z
      rw [h6] at w; cases w
    have so : StOk K H0 F' H' (stPut r.st n f (.ow c')) := by
      refine j.so.upd (fun z => by subst z; exact j.so.bi p pi n (.inl h5) h2) (p := pi) (C := C) (dx := dx) (es := es) (v' := .ref p) h2 h3 fe (fun a u _ _ => by rw [g.t]) (fun a u e z1 z2 _ o w => g.h a o (ne e z1) w) (by rw [putF_same h4]; exact g.h _ _ npi h3) ⟨p, rfl, by rw [g.t]; exact h5, od⟩ (fun a u e hu => ?_) (fun a b u _ e e' => j.so.inj a b u (by rw [← g.t]; exact e) (by rw [← g.t]; exact e')) (fun a u e z1 z2 => ?_) (fun o e => ?_)
      · rw [g.t] at e
        rcases hu with z | z
        · subst z
          have := j.so.inj _ _ _ e h5
          subst this
          exact ⟨keepF a hp hf (fun u i => od.noT i), od.ne, .inl h0, fun _ => ⟨c', rfl⟩, fun z => by cases z⟩
        · subst z; exact absurd e (nolok a)
      · obtain ⟨a1, a2, _⟩ := j.so.sep a u e
        exact ⟨keepF a a2 a1 (tagT a u e), id⟩
      · unfold fldAt at h6
        rw [e] at h6
        have h6 : o.fs.lookup f = some (.ow c) := h6
        rw [putFd_len h6]
        obtain ⟨o', a, _, _, _, _, _, _, _, _, b⟩ := j.so.ob pi n h2
        rw [e] at a; cases a
        exact b
    refine ⟨j.eb, e0', j.ef.trans g.f, g.fh, nw', so, j.len, fun k s w => slots k s w fun c1 e w2 => ?_, j.dj⟩
    subst e
    obtain ⟨p2, a, b1, b2, b3, b4⟩ := j.sl k _ w
    rw [w2] at a; cases a
    rw [h5] at b3; cases b3
theorem obAt_ok {i n : Nat} (j : J K B H0 F0 F H σ r) (h : obAt r i = some n) : ∃ pi, σ[i]? = some (some (.ref pi)) ∧ F.t pi = some (.ins n) := by
  unfold obAt at h
  split at h
  · rename_i x e
    obtain ⟨v, a, b⟩ := j.sl i _ e
    unfold obOf at h
    split at h
    · rename_i m w
      cases w
      cases b with
      | ob t =>
        have h : some (Int.toNat (Int.ofNat _)) = some n := h
        cases h
        exact ⟨_, a, t⟩
    · cases h
  · cases h
theorem obOf_ok {n : Nat} {c : C} (h : Bd K F H v c) (q : obOf c = some n) : ∃ pi, v = .ref pi ∧ F.t pi = some (.ins n) := by
  unfold obOf at q
  split at q
  · rename_i m
    have h : Vp K F v (.dict [(.int m, .none)]) := h
    cases h with
    | ob t =>
      have q : some (Int.toNat (Int.ofNat _)) = some n := q
      cases q
      exact ⟨_, rfl, t⟩
  · cases q
theorem own_sl {i : Nat} (j : J K B H0 F0 F H σ r) (h : ownAt r (.sl i) = some c) : ∃ p, σ[i]? = some (some (.ref p)) ∧ OwnAt F H σ r p c (.sl i) := by
  unfold ownAt at h
  dsimp only at h
  split at h
  · rename_i c0 e
    cases h
    obtain ⟨p, a, _⟩ := j.sl i _ e
    exact ⟨p, a, e, a⟩
  · cases h
theorem fldC_at {cs : List Str} {st : Store} {n : Nat} {f : Str} {d : Fd} (h : fldC cs st n f = some d) : fldAt st n f = some d ∧ ∃ o, st[n]? = some o ∧ o.cls ∈ cs := by
  unfold fldC at h
  simp only [Option.bind_eq_some_iff] at h
  obtain ⟨o, h1, h2⟩ := h
  split at h2
  · rename_i hc
    refine ⟨?_, o, h1, List.contains_iff_mem.mp hc⟩
    unfold fldAt
    rw [h1]
    exact h2
  · cases h2
theorem own_fl {cs : List Str} {i : Nat} {f : Str} (j : J K B H0 F0 F H σ r) (h : ownAt r (.fl cs i f) = some c) : ∃ p pi n C dx es o, σ[i]? = some (some (.ref pi)) ∧ obAt r i = some n ∧ F.t pi = some (.ins n) ∧ H pi = some (.ins C dx es) ∧ es.lookup f = some (.ref p) ∧ r.st[n]? = some o ∧ o.cls ∈ cs ∧ K.mg o.cls = some (.ref C) ∧ OwnAt F H σ r p c (.fl cs i f) := by
  unfold ownAt at h
  simp only [Option.bind_eq_some_iff] at h
  obtain ⟨n, h1, h2⟩ := h
  split at h2
  · rename_i c0 e
    cases h2
    obtain ⟨e1, o, e2, e3⟩ := fldC_at e
    obtain ⟨pi, a1, a2⟩ := obAt_ok j h1
    obtain ⟨o', b1, C, dx, es, b2, b3, b4, b5, _⟩ := j.so.ob pi n a2
    rw [e2] at b1; cases b1
    have e4 : o.fs.lookup f = some (.ow c) := by
      unfold fldAt at e1
      rw [e2] at e1
      exact e1
    obtain ⟨v, d1, q', rfl, d3, d4⟩ := b5.lookup e4
    exact ⟨q', pi, n, C, dx, es, o, a1, h1, a2, b3, d1, e2, e3, b2, n, pi, C, dx, es, h1, a2, b3, d1, d3, e1⟩
  · cases h2
end
/-- a method that changes what it is called on -/
structure DMut (X : Cx) (T : String) (name : Str) (id : String) (kd : C → Bool) (g : C → List D → Option (Res × C)) : Prop where
  ex : PlainAttrs T ∧ PySem.Slot T name id ∧ typeOf (.builtin id) = pure (.type "method_descriptor") ∧ ∃ o, MtR X id o ∧ (∀ (F : Fz) (H : Hp) p c, kd c = true → Od X.kc F H p c → tyV X.K T (.ref p) H) ∧
    ∀ (F : Fz) (H : Hp) (p : Addr) (c c' : C) (xs : List V) (ds : List D) (z : Res), Ex F.f H → (∀ p, H p = none → F.t p = none) → F.f p = none → Od X.kc F H p c → VpAll X.kc F xs ds → g c ds = some (z, c') →
      ∀ Q : VK, (∀ F' H' v, Chg p F H F' H' → Od X.kc F' H' p c' → (∃ y, z = .sh y ∧ Vp X.kc F' v y) → Q v H') → o (.ref p) xs H Q
/-- facts of the classes that have a field -/
structure ClF (X : Cx) (cs : List Str) (f : Str) : Prop where
  ok : ∀ c ∈ cs, ∀ C, X.mg c = some (.ref C) → Cls X.K C ∧ NoAttr X.K C f
  nb : f ≠ bxS
section
variable {X : Cx} {e : Expr} {es : List Expr} {fs : List EF} {T id : String} {name : Str} {kd : C → Bool} {g : C → List D → Option (Res × C)} {apos cpos npos : Pos} {qb : Bool}
theorem Chg.ge {p : Addr} {F F' : Fz} {H H' : Hp} {r r' : Env} (g : Chg p F H F' H') (k : ∀ (i : Nat) (s : Slot), Lent s → r'.sl[i]? = some s → r.sl[i]? = some s) : Ge false F H r F' H' r' := ⟨.of g.f g.t, k, fun z => by cases z⟩
theorem ownPut_lent {r : Env} {c : C} {q : Pl} : ∀ (i : Nat) (s : Slot), Lent s → (ownPut r c q).sl[i]? = some s → r.sl[i]? = some s := fun i s l h => by
  cases q with
  | sl k =>
    rcases put_at h with ⟨_, z, _⟩ | ⟨_, h⟩
    · subst z; exact l.elim
    · exact h
  | fl cs k f =>
    unfold ownPut at h
    dsimp only at h
    split at h
    · exact h
    · exact h
theorem de_mutS (i : Nat) {x : Str} (dm : DMut X T name id kd g) (hN : X.N[i]? = some x) (hv : Vis X.env.scope x) (ha : DA X qb (e :: es) fs) (hd : (x == ("__debug__" : Str)) = false := by decide) (hcd : (x == ("__classdict__" : Str)) = false := by decide)
    (hbase : attributeBase (.Name x npos) name X.env (eval (.Name x npos) X.env) = eval (.Name x npos) X.env := by rfl)
    (hfew : ((backTo cpos (starEach (e :: es) X.env)).all (fun x => !x.1) && (backToKw cpos (keywordEach [] X.env)).all (fun x => x.1.isSome)
      && decide ((e :: es).length + ([] : List Keyword).length + (if ([] : List Keyword).isEmpty then 0 else 1) < 30)) = true := by rfl)
    (hline : (apos.endLine == cpos.line) = true := by rfl) (hs : starEach (e :: es) X.env = (false, eval e X.env) :: starEach es X.env := by rfl) (hplain : (backTo cpos (starEach es X.env)).any (·.1) = false := by rfl) :
    DE X false (.Call (.Attribute (.Name x npos) name apos) (e :: es) [] cpos) (eMut kd g (.sl i) fs) := by
  obtain ⟨pa, sl, hty, o, mt, ty, op⟩ := dm.ex
  obtain ⟨t, a1, a2⟩ := ha.ex
  refine ⟨_, pe_bm pa sl hty mt (pe_var hN hv hd hcd) a1 hbase hfew hline hs hplain, fun B H0 F0 F H σ r z r' q j Q k => ?_⟩
  simp only [eMut, Option.bind_eq_some_iff] at q
  obtain ⟨c0, q0, q⟩ := q
  split at q
  · rename_i hk
    simp only [Option.bind_eq_some_iff] at q
    obtain ⟨⟨zs, r1⟩, q1, ⟨ys, r2⟩, q2, c, q3, ⟨z1, c'⟩, q4, q5⟩ := q
    cases q5
    obtain ⟨p, hp, ow⟩ := own_sl j q0
    obtain ⟨_, _, od, _⟩ := ow.facts j
    refine ⟨_, hp, ty F H p c0 hk od, ?_⟩
    refine a2 _ _ _ _ _ _ _ _ _ q1 j _ fun F1 H1 vs e1 j1 k1 => ?_
    obtain ⟨F2, e2, j2, d2⟩ := shares_ok q2 j1 k1
    obtain ⟨p2, hp2, ow2⟩ := own_sl j2 q3
    rw [hp] at hp2; cases hp2
    obtain ⟨_, f2, od2, _⟩ := ow2.facts j2
    refine op F2 H1 p c c' vs ys z1 j2.fh j2.tagged f2 od2 d2 q4 Q fun F3 H3 v ch od3 hz => ?_
    obtain ⟨y, rfl, vy⟩ := hz
    exact k F3 H3 v ((e1.qt e2).trans (ch.ge ownPut_lent)).weak (j2.chg ow2 ch od3) vy
  · cases q
theorem de_mutF (i : Nat) {cs : List Str} {x f : Str} {fpos : Pos} (dm : DMut X T name id kd g) (cl : ClF X cs f) (hN : X.N[i]? = some x) (hv : Vis X.env.scope x) (ha : DA X true (e :: es) fs) (hd : (x == ("__debug__" : Str)) = false := by decide) (hcd : (x == ("__classdict__" : Str)) = false := by decide)
    (hb0 : attributeBase (.Name x npos) f X.env (eval (.Name x npos) X.env) = eval (.Name x npos) X.env := by rfl)
    (hbase : attributeBase (.Attribute (.Name x npos) f fpos) name X.env (eval (.Attribute (.Name x npos) f fpos) X.env) = eval (.Attribute (.Name x npos) f fpos) X.env := by rfl)
    (hfew : ((backTo cpos (starEach (e :: es) X.env)).all (fun x => !x.1) && (backToKw cpos (keywordEach [] X.env)).all (fun x => x.1.isSome)
      && decide ((e :: es).length + ([] : List Keyword).length + (if ([] : List Keyword).isEmpty then 0 else 1) < 30)) = true := by rfl)
    (hline : (apos.endLine == cpos.line) = true := by rfl) (hs : starEach (e :: es) X.env = (false, eval e X.env) :: starEach es X.env := by rfl) (hplain : (backTo cpos (starEach es X.env)).any (·.1) = false := by rfl) :
    DE X false (.Call (.Attribute (.Attribute (.Name x npos) f fpos) name apos) (e :: es) [] cpos) (eMut kd g (.fl cs i f) fs) := by
  obtain ⟨pa, sl, hty, o, mt, ty, op⟩ := dm.ex
  obtain ⟨t, a1, a2⟩ := ha.ex
  refine ⟨_, pe_bm pa sl hty mt (pe_fld (pe_var hN hv hd hcd) hb0) a1 hbase hfew hline hs hplain, fun B H0 F0 F H σ r z r' q j Q k => ?_⟩
  simp only [eMut, Option.bind_eq_some_iff] at q
  obtain ⟨c0, q0, q⟩ := q
  split at q
  · rename_i hk
    simp only [Option.bind_eq_some_iff] at q
    obtain ⟨⟨zs, r1⟩, q1, ⟨ys, r2⟩, q2, c, q3, ⟨z1, c'⟩, q4, q5⟩ := q
    cases q5
    obtain ⟨p, pi, n, C, dx, fes, ob, hpi, hob, t1, h1, l1, hst, hcs, hmg, ow⟩ := own_fl j q0
    obtain ⟨_, _, od, _⟩ := ow.facts j
    obtain ⟨k1, k2⟩ := cl.ok _ hcs C hmg
    refine ⟨_, hpi, pi, C, dx, fes, _, rfl, h1, k1, k2, l1, ty F H p c0 hk od, ?_⟩
    refine a2 _ _ _ _ _ _ _ _ _ q1 j _ fun F1 H1 vs e1 j1 k1 => ?_
    obtain ⟨F2, e2, j2, d2⟩ := shares_ok q2 j1 k1
    obtain ⟨p2, pi2, n2, C2, dx2, fes2, ob2, hpi2, hob2, t2, h2, l2, hst2, hcs2, hmg2, ow2⟩ := own_fl j2 q3
    have e12 : Ge true F H r F2 H1 r2 := e1.qt e2
    obtain ⟨g1, g2, g3⟩ := e12.q rfl
    rw [hpi] at hpi2; cases hpi2
    have h3 := g1 _ _ h1
    rw [h2] at h3; cases h3
    rw [l1] at l2; cases l2
    obtain ⟨_, f2, od2, _⟩ := ow2.facts j2
    refine op F2 H1 p c c' vs ys z1 j2.fh j2.tagged f2 od2 d2 q4 Q fun F3 H3 v ch od3 hz => ?_
    obtain ⟨y, rfl, vy⟩ := hz
    exact k F3 H3 v (e12.trans (ch.ge ownPut_lent)).weak (j2.chg ow2 ch od3) vy
  · cases q
end
/-! ### lists -/
section
variable {X : Cx}
theorem Chg.at {p : Addr} {F : Fz} {H : Hp} {o : HO} (e : Ex F.f H) (f : F.f p = none) : Chg p F H F (upd H p o) := ⟨.refl _, rfl, e.side f, fun _ _ q => .inl q, fun a u z q => by rw [upd_ne z]; exact q⟩
theorem lst_ty (F : Fz) (H : Hp) (p : Addr) (c : C) (hk : isLst c = true) (od : Od X.kc F H p c) : tyV X.K "list" (.ref p) H := by
  unfold isLst at hk
  split at hk
  · obtain ⟨xs, hx, _⟩ := od
    exact .inl ⟨rfl, xs, SqL.of hx⟩
  · cases hk
theorem dm_append : DMut X "list" "append" "list.append" isLst gApp := ⟨PySem.F.plainAttrs_list, PySem.F.slot_list_append, PySem.F.type_list_append, _, mt_append, lst_ty, fun F H p c c' xs ds z e et f od dd q Q k => by
  unfold gApp at q
  split at q
  · rename_i ys y
    split at q
    · rename_i hl
      cases q
      obtain ⟨vs, hx, da⟩ := od
      cases dd with
      | cons d1 d2 =>
        cases d2
        exact ⟨p, vs, _, rfl, rfl, hx, by rw [VpAll.length da, sizeLine_eq]; exact hl, k F _ _ (.at e f) ⟨_, upd_same, VpAll.app da (.cons d1 .nil)⟩ ⟨_, rfl, .non⟩⟩
    · cases q
  · cases q⟩
end
end CM
end
section
set_option Elab.async false
set_option linter.all false
set_option maxRecDepth 100000
set_option autoImplicit false
namespace CM
open PySem PySem.Spec PyProof.Rows L2
/-! ### defs of the text -/
abbrev FnP (K : PySem.W.Frag) (x q : Str) (st : Stmt) (f : Addr) (fd : FuncData) : Prop := FunD K x q (defArgs st) (defBody st) (defScope st) [] [] f fd
section
variable {P : Program} {w : World} {K : PySem.W.Frag} {mg : Str → Option Value} {base : Heap}
theorem fn_denD {x qual : Str} {st : Stmt} {f : Addr} {fd : FuncData} {N ps : List Str} {k : Nat} {ms : List Bool} {body : SF} (F : FnP K x qual st f fd) (S : FnScope N ps (defScope st)) (hl : ms.length = ps.length)
    (hbody : ∀ (cdv : Value) (A : Around) (outer : List PySem.Env) (s : Shared) (H : Hp) (E : XK), Room k (A.deeper (envOfC qual (defScope st) s.heap.objs.size f cdv)) →
      DSs (cxOf CX0 P w K mg base N qual (defScope st) f cdv A outer s H E).nox (defBody st) body) : FnOk P w K mg base CX0 (k + 1) f fd ps (spD ⟨K, mg⟩ ms (dDef N.length ms body)) := by
  obtain ⟨oc, od, dV, kV, doc, pm, an, cdv, ct, osl, e, lk, hcd, dd, kk⟩ := F.ex
  rcases dd with ⟨_, e2⟩ | ⟨z, _⟩
  · subst e2
    have F' : Fun K x qual st f fd := ⟨⟨oc, od, kV, doc, pm, an, cdv, ct, osl, e, lk, hcd⟩, F.kp⟩
    exact fn_den F' S hl hbody
  · exact absurd rfl z
/-- a def by its name -/
structure Df (P : Program) (w : World) (K : PySem.W.Frag) (mg : Str → Option Value) (base : Heap) (k : Nat) (x : Str) (ms : List Bool) (g : DF) : Prop where
  ex : ∃ f fd ps, FnOk P w K mg base CX0 k f fd ps (spD ⟨K, mg⟩ ms g) ∧ mg x = some (.ref f) ∧ PySem.W.keepIn K (.ref f) = true ∧ Binds K fd ps []
end
section
variable {X : Cx} {e : Expr} {es : List Expr} {fs : List EF} {pos p : Pos} {q1 : Bool} {k : Nat} {x : Str} {ms : List Bool} {g : DF}
theorem de_callD (G : Df X.prog X.w X.K X.mg X.base k x ms g) (hr : Room k X.A) (hg : Gl X x) (ha : DA X q1 (e :: es) fs) (hdb : (x == ("__debug__" : Str)) = false := by decide) (he : starEach (e :: es) X.env = (false, eval e X.env) :: starEach es X.env := by rfl)
    (hpl : (backTo pos (starEach es X.env)).any (·.1) = false := by rfl) : DE X false (.Call (.Name x p) (e :: es) [] pos) (eCall g ms fs) := by
  obtain ⟨f, fd, ps, h1, h2, h3, h4⟩ := G.ex
  exact de_call h1 hr hg h2 h3 h4 pass0 ha hdb he hpl
theorem de_callD0 (G : Df X.prog X.w X.K X.mg X.base k x ms g) (hr : Room k X.A) (hg : Gl X x) (hdb : (x == ("__debug__" : Str)) = false := by decide) : DE X false (.Call (.Name x p) [] [] pos) (eCall g ms []) := by
  obtain ⟨f, fd, ps, h1, h2, h3, h4⟩ := G.ex
  exact de_call0 h1 hr hg h2 h3 h4 pass0 hdb
end
/-! ### the law's own end -/
theorem ints_vp {K : KC} {F : Fz} : ∀ ns : List Int, VpAll K F (ns.map V.int) (ns.map PyData.int)
  | [] => .nil
  | n :: ns => .cons (.int n) (ints_vp ns)
theorem law_sp {K : KC} {f : DF} (h : ∀ ns : List Int, ns.length ≤ 63 → ∃ st', f [.d (.list (ns.map PyData.int))] [] = some (.sh (.bool true), st')) (H : Hp) (a : Addr) (ns : List Int) (hl : ns.length ≤ 63) (hS : SqL K.K H a (ns.map V.int)) :
    spD K [false] f [.ref a] H (fun v _ => v = .bl true) fun _ _ _ => False := by
  obtain ⟨st', e⟩ := h ns hl
  refine ⟨⟨fun _ => none, fun _ => none⟩, [.d (.list (ns.map PyData.int))], [], _, st', (fun a o z => by cases z), ⟨?_, ?_, ?_, ?_, ?_, ?_, ?_, ?_, ?_, fun p n h => by cases h⟩, ⟨⟨a, _, rfl, ?_, ints_vp ns⟩, trivial⟩, e, fun F' H' v _ _ r => ?_⟩
  · intro p n q; cases q
  · intro p q t z _; cases z
  · intro p t q; cases q
  · intro p t q; cases q
  · intro p n f q; cases q
  · intro p n f q; cases q
  · intro p n f c q; cases q
  · intro p n f c q; cases q
  · intro p q n b w; cases w
  · exact hS
  · have r : Vp K F' v (.bool true) := r
    cases r
    rfl
end CM
end
section
set_option Elab.async false
set_option linter.all false
set_option maxRecDepth 100000
set_option autoImplicit false
namespace CM
open PySem
/-! ### evaluation of denotations by simp -/
section
variable {g h : C → C → Option Res} {a b c : EF} {r r' : Env} {t : TF} {p : Pat} {it : IF} {f f' : SF} {i : Nat} {as : List EF} {st : Store} {sl : List Slot}
@[simp] theorem ev_put (sl : List Slot) (st : Store) (i : Nat) (s : Slot) : Env.put ⟨sl, st⟩ i s = ⟨sl.set i s, st⟩ := rfl
@[simp] theorem ev_c (x : D) (r : Env) : eC x r = some (.sh x, r) := rfl
@[simp] theorem ev_op : eOp g a b r = (a r).bind fun p => (stl p.1).bind fun x => (b p.2).bind fun q => (look q.2 x).bind fun u => (look q.2 q.1).bind fun v => (g u v).bind fun z => some (z, q.2) := rfl
@[simp] theorem ev_opF : eOpF g a b r = (a r).bind fun p => (b p.2).bind fun q => (look q.2 p.1).bind fun u => (look q.2 q.1).bind fun v => (g u v).bind fun z => some (z, q.2) := rfl
@[simp] theorem ev_un (g : C → Option Res) : eUn g a r = (a r).bind fun p => (look p.2 p.1).bind fun u => (g u).bind fun z => some (z, p.2) := rfl
@[simp] theorem ev_args0 : eArgs [] r = some ([], r) := rfl
@[simp] theorem ev_args1 : eArgs (a :: as) r = (a r).bind fun p => (stl p.1).bind fun x => (eArgs as p.2).bind fun q => some (x :: q.1, q.2) := rfl
@[simp] theorem ev_looks0 : looks r [] = some [] := rfl
@[simp] theorem ev_looks1 (x : Res) (xs : List Res) : looks r (x :: xs) = (look r x).bind fun c => (looks r xs).bind fun cs => some (c :: cs) := rfl
@[simp] theorem ev_shares0 : shares r [] = some ([], r) := rfl
@[simp] theorem ev_shares1 (x : Res) (xs : List Res) : shares r (x :: xs) = (toSh r x).bind fun p => (shares p.2 xs).bind fun q => some (p.1 :: q.1, q.2) := rfl
@[simp] theorem ev_bi (g : List C → Option Res) : eBi g as r = (eArgs as r).bind fun p => (looks p.2 p.1).bind fun cs => (g cs).bind fun z => some (z, p.2) := rfl
@[simp] theorem ev_bm (g : List C → Option Res) : eBm g a as r = (a r).bind fun p => (eArgs as p.2).bind fun q => (look q.2 p.1).bind fun u => (looks q.2 q.1).bind fun cs => (g (u :: cs)).bind fun z => some (z, q.2) := rfl
@[simp] theorem ev_tup : eTup as r = (eArgs as r).bind fun p => (shares p.2 p.1).bind fun q => some (.sh (.tuple q.1), q.2) := rfl
@[simp] theorem ev_lst : eLst as r = (eArgs as r).bind fun p => (shares p.2 p.1).bind fun q => some (.fr (.d (.list q.1)), q.2) := rfl
@[simp] theorem ev_pass0 : passes r [] [] = some ([], r) := rfl
@[simp] theorem ev_passT (ms : List Bool) (x : Res) (xs : List Res) : passes r (true :: ms) (x :: xs) = (toSh r x).bind fun p => (passes p.2 ms xs).bind fun q => some (.d p.1 :: q.1, q.2) := rfl
@[simp] theorem ev_passF (ms : List Bool) (x : Res) (xs : List Res) : passes r (false :: ms) (x :: xs) = (look r x).bind fun c => (passes r ms xs).bind fun q => some (c :: q.1, q.2) := rfl
@[simp] theorem ev_call (f : DF) (ms : List Bool) : eCall f ms as r = (eArgs as r).bind fun p => (passes p.2 ms p.1).bind fun q => (f q.1 q.2.st).bind fun z => some (z.1, ⟨q.2.sl, z.2⟩) := rfl
@[simp] theorem ev_stl_sh (x : D) : stl (.sh x) = some (.sh x) := rfl
@[simp] theorem ev_stl_sl : stl (.sl i) = some (.sl i) := rfl
@[simp] theorem ev_stl_fr (x : D) : stl (.fr (.d x)) = some (.sh x) := rfl
@[simp] theorem ev_look_sh (x : D) : look r (.sh x) = some (.d x) := rfl
@[simp] theorem ev_look_fr (c : C) : look r (.fr c) = some c := rfl
@[simp] theorem ev_toSh_sh (x : D) : toSh r (.sh x) = some (x, r) := rfl
@[simp] theorem ev_toSh_fr (x : D) : toSh r (.fr (.d x)) = some (x, r) := rfl
/-- what a slot gives, what it reads as -/
def slotC : Slot → Option C
  | .sh x => some (.d x)
  | .bo c => some c
  | .ow c => some c
  | .lk c => some c
  | .no => none
@[simp] theorem slotC_sh (x : D) : slotC (.sh x) = some (.d x) := rfl
@[simp] theorem slotC_bo (x : C) : slotC (.bo x) = some x := rfl
@[simp] theorem slotC_ow (x : C) : slotC (.ow x) = some x := rfl
@[simp] theorem slotC_lk (x : C) : slotC (.lk x) = some x := rfl
@[simp] theorem ev_var : eVar i r = ((r.sl[i]?).bind slotC).bind fun _ => some (.sl i, r) := by
  unfold eVar
  cases r.sl[i]? with
  | none => rfl
  | some s => cases s <;> rfl
@[simp] theorem ev_look_sl : look r (.sl i) = (r.sl[i]?).bind slotC := by
  unfold look
  dsimp only
  cases r.sl[i]? with
  | none => rfl
  | some s => cases s <;> rfl
def slotD (r : Env) (i : Nat) : Slot → Option (D × Env)
  | .sh x => some (x, r)
  | .ow (.d x) => some (x, r.put i (.sh x))
  | _ => none
@[simp] theorem slotD_sh (x : D) : slotD r i (.sh x) = some (x, r) := rfl
@[simp] theorem slotD_ow (x : D) : slotD r i (.ow (.d x)) = some (x, r.put i (.sh x)) := rfl
@[simp] theorem ev_toSh_sl : toSh r (.sl i) = (r.sl[i]?).bind (slotD r i) := by
  unfold toSh
  dsimp only
  cases r.sl[i]? with
  | none => rfl
  | some s =>
    cases s with
    | ow c => cases c <;> rfl
    | _ => rfl
def slotK (r : Env) (i j : Nat) : Slot → Option Env
  | .sh x => some (r.put i (.sh x))
  | .ow (.d x) => some ((r.put j (.sh x)).put i (.sh x))
  | _ => none
@[simp] theorem slotK_sh (x : D) (j : Nat) : slotK r i j (.sh x) = some (r.put i (.sh x)) := rfl
@[simp] theorem slotK_ow (x : D) (j : Nat) : slotK r i j (.ow (.d x)) = some ((r.put j (.sh x)).put i (.sh x)) := rfl
@[simp] theorem ev_keep_sh (x : D) : keep i r (.sh x) = some (r.put i (.sh x)) := rfl
@[simp] theorem ev_keep_fr (c : C) : keep i r (.fr c) = some (r.put i (.ow c)) := rfl
@[simp] theorem ev_keep_sl (j : Nat) : keep i r (.sl j) = (r.sl[j]?).bind (slotK r i j) := by
  unfold keep
  dsimp only
  cases r.sl[j]? with
  | none => rfl
  | some s =>
    cases s with
    | ow c => cases c <;> rfl
    | _ => rfl
def slotG : Slot → Option Res
  | .sh x => some (.sh x)
  | .ow c => some (.fr c)
  | _ => none
@[simp] theorem slotG_sh (x : D) : slotG (.sh x) = some (.sh x) := rfl
@[simp] theorem slotG_ow (c : C) : slotG (.ow c) = some (.fr c) := rfl
@[simp] theorem ev_give_sh (x : D) : give r (.sh x) = some (.sh x) := rfl
@[simp] theorem ev_give_fr (c : C) : give r (.fr c) = some (.fr c) := rfl
@[simp] theorem ev_give_sl : give r (.sl i) = (r.sl[i]?).bind slotG := by
  unfold give
  dsimp only
  cases r.sl[i]? with
  | none => rfl
  | some s => cases s <;> rfl
/-! tests -/
def boolC : C → Option Bool
  | .d (.bool b) => some b
  | _ => none
@[simp] theorem boolC_b (b : Bool) : boolC (.d (.bool b)) = some b := rfl
@[simp] theorem ev_tE : tE a r = (a r).bind fun p => ((look p.2 p.1).bind boolC).bind fun b => some (b, p.2) := by
  unfold tE
  cases a r with
  | none => rfl
  | some p =>
    show (match look p.2 p.1 with | some (.d (.bool b)) => some (b, p.2) | _ => none) = _
    show _ = ((look p.2 p.1).bind boolC).bind fun b => some (b, p.2)
    cases look p.2 p.1 with
    | none => rfl
    | some c =>
      cases c with
      | d x => cases x <;> rfl
      | _ => rfl
@[simp] theorem ev_tAnd (t u : TF) : tAndD t u r = (t r).bind fun p => if p.1 = true then u p.2 else some (false, p.2) := rfl
@[simp] theorem ev_tOr (t u : TF) : tOrD t u r = (t r).bind fun p => if p.1 = true then some (true, p.2) else u p.2 := rfl
@[simp] theorem ev_tNot (t : TF) : tNotD t r = (t r).bind fun p => some (!p.1, p.2) := rfl
@[simp] theorem ev_tYes : tYesD r = some (true, r) := rfl
@[simp] theorem ev_and : eAnd a b r = (tE a r).bind fun p => if p.1 = true then b p.2 else some (.sh (.bool false), p.2) := rfl
@[simp] theorem ev_or : eOr a b r = (tE a r).bind fun p => if p.1 = true then some (.sh (.bool true), p.2) else b p.2 := rfl
@[simp] theorem ev_not : eNot a r = (tE a r).bind fun p => some (.sh (.bool !p.1), p.2) := rfl
@[simp] theorem ev_if (t : TF) : eIf t a b r = (t r).bind fun p => if p.1 = true then a p.2 else b p.2 := rfl
/-! statements -/
@[simp] theorem ev_next : sNext r = some (.nx, r) := rfl
@[simp] theorem ev_break : sBreak r = some (.bk, r) := rfl
@[simp] theorem ev_cont : sCont r = some (.ct, r) := rfl
def seqK (g : SF) : Flow × Env → Option (Flow × Env)
  | (.nx, r) => g r
  | (f, r) => some (f, r)
@[simp] theorem seqK_nx (g : SF) : seqK g (.nx, r) = g r := rfl
@[simp] theorem seqK_bk (g : SF) : seqK g (.bk, r) = some (.bk, r) := rfl
@[simp] theorem seqK_ct (g : SF) : seqK g (.ct, r) = some (.ct, r) := rfl
@[simp] theorem seqK_rt (g : SF) (z : Res) : seqK g (.rt z, r) = some (.rt z, r) := rfl
@[simp] theorem ev_seq : sSeq f f' r = (f r).bind (seqK f') := by
  unfold sSeq
  cases f r with
  | none => rfl
  | some p =>
    obtain ⟨fl, q⟩ := p
    cases fl <;> rfl
@[simp] theorem ev_drop : sDrop a r = (a r).bind fun p => some (.nx, p.2) := rfl
@[simp] theorem ev_set : sSet i a r = (a r).bind fun p => (keep i p.2 p.1).bind fun r' => some (.nx, r') := rfl
@[simp] theorem ev_bind : sBind p a r = (a r).bind fun q => (toSh q.2 q.1).bind fun y => (bindP p y.1 y.2).bind fun r' => some (.nx, r') := rfl
@[simp] theorem ev_ret : sRet a r = (a r).bind fun p => (give p.2 p.1).bind fun x => some (.rt x, p.2) := rfl
@[simp] theorem ev_retN : sRetN r = some (.rt (.sh .none), r) := rfl
@[simp] theorem ev_sif (t : TF) : sIf t f f' r = (t r).bind fun p => if p.1 = true then f p.2 else f' p.2 := rfl
@[simp] theorem ev_bindV (i : Nat) (x : D) : bindP (.v i) x r = some (r.put i (.sh x)) := rfl
@[simp] theorem ev_bindT (is : List Nat) (xs : List D) : bindP (.t is) (.tuple xs) r = setAll is xs r := rfl
@[simp] theorem ev_setAll0 : setAll [] [] r = some r := rfl
@[simp] theorem ev_setAll1 (i : Nat) (is : List Nat) (x : D) (xs : List D) : setAll (i :: is) (x :: xs) r = setAll is xs (r.put i (.sh x)) := rfl
@[simp] theorem ev_for : sFor p it f r = (it r).bind fun q => (runFor p f q.1 (lock q.2.1 q.2.2)).bind fun z => some (z.1, unlock q.2.1 z.2) := rfl
@[simp] theorem ev_lock0 : lock .no r = r := rfl
@[simp] theorem ev_unlock0 : unlock .no r = r := rfl
def lockS (r : Env) (i : Nat) : Option Slot → Env
  | some (.ow c) => r.put i (.lk c)
  | _ => r
@[simp] theorem lockS_ow (c : C) : lockS r i (some (.ow c)) = r.put i (.lk c) := rfl
@[simp] theorem ev_lock1 : lock (.sl i) r = lockS r i r.sl[i]? := by
  unfold lock lockS
  rfl
def unlockS (r : Env) (i : Nat) : Option Slot → Env
  | some (.lk c) => r.put i (.ow c)
  | _ => r
@[simp] theorem unlockS_lk (c : C) : unlockS r i (some (.lk c)) = r.put i (.ow c) := rfl
@[simp] theorem ev_unlock1 : unlock (.sl i) r = unlockS r i r.sl[i]? := by
  unfold unlock unlockS
  rfl
theorem runFor_nil : runFor p f [] r = some (.nx, r) := rfl
def forK (p : Pat) (f : SF) (xs : List D) : Flow × Env → Option (Flow × Env)
  | (.nx, r) => runFor p f xs r
  | (.ct, r) => runFor p f xs r
  | (.bk, r) => some (.nx, r)
  | (.rt z, r) => some (.rt z, r)
@[simp] theorem forK_nx (xs : List D) : forK p f xs (.nx, r) = runFor p f xs r := rfl
@[simp] theorem forK_ct (xs : List D) : forK p f xs (.ct, r) = runFor p f xs r := rfl
@[simp] theorem forK_bk (xs : List D) : forK p f xs (.bk, r) = some (.nx, r) := rfl
@[simp] theorem forK_rt (xs : List D) (z : Res) : forK p f xs (.rt z, r) = some (.rt z, r) := rfl
theorem runFor_cons (x : D) (xs : List D) : runFor p f (x :: xs) r = (bindP p x r).bind fun r1 => (f r1).bind (forK p f xs) := by
  rw [runFor]
  cases bindP p x r with
  | none => rfl
  | some r1 =>
    show (f r1).bind _ = (f r1).bind _
    cases f r1 with
    | none => rfl
    | some q =>
      obtain ⟨fl, q⟩ := q
      cases fl <;> rfl
@[simp] theorem ev_seqI : iSeq a r = (a r).bind fun p => (lendOf p.2 p.1).bind fun q => (asSeqC q.1).bind fun ds => some (ds, q.2, p.2) := rfl
@[simp] theorem asSeqC_l (ds : List D) : asSeqC (.d (.list ds)) = some ds := rfl
@[simp] theorem asSeqC_t (ds : List D) : asSeqC (.d (.tuple ds)) = some ds := rfl
@[simp] theorem ev_lend_sh (x : D) : lendOf r (.sh x) = some (.d x, .no) := rfl
@[simp] theorem ev_lend_fr (x : D) : lendOf r (.fr (.d x)) = some (.d x, .no) := rfl
def slotL (i : Nat) : Slot → Option (C × Lk)
  | .sh x => some (.d x, .no)
  | .bo c => some (c, .no)
  | .lk c => some (c, .no)
  | .ow c => some (c, .sl i)
  | .no => none
@[simp] theorem slotL_sh (x : D) : slotL i (.sh x) = some (.d x, .no) := rfl
@[simp] theorem slotL_bo (c : C) : slotL i (.bo c) = some (c, .no) := rfl
@[simp] theorem slotL_lk (c : C) : slotL i (.lk c) = some (c, .no) := rfl
@[simp] theorem slotL_ow (c : C) : slotL i (.ow c) = some (c, .sl i) := rfl
@[simp] theorem ev_lend_sl : lendOf r (.sl i) = (r.sl[i]?).bind (slotL i) := by
  unfold lendOf
  dsimp only
  cases r.sl[i]? with
  | none => rfl
  | some s => cases s <;> rfl
/-! comprehensions -/
def capK (ds : List D) : Option Unit := if ds.length < 16777216 then some () else none
@[simp] theorem capK_ok {ds : List D} (h : ds.length < 16777216) : capK ds = some () := if_pos h
@[simp] theorem ev_lc (own : List Nat) : eLc own p it t a r = (it r).bind fun q => (capK q.1).bind fun _ => (runComp own p t a q.1 (wipeE (lock q.2.1 q.2.2) own)).bind fun z => some (.fr (.d (.list z.1)), unlock q.2.1 (unwipe (lock q.2.1 q.2.2) z.2 own)) := by
  unfold eLc
  cases it r with
  | none => rfl
  | some q =>
    show (if q.1.length < 16777216 then _ else none) = (capK q.1).bind _
    unfold capK
    split <;> rfl
@[simp] theorem ev_wipe0 : wipeE r [] = r := rfl
@[simp] theorem ev_wipe1 (i : Nat) (is : List Nat) : wipeE r (i :: is) = (wipeE r is).put i .no := rfl
@[simp] theorem ev_unwipe0 (old : Env) : unwipe old r [] = r := rfl
@[simp] theorem ev_unwipe1 (old : Env) (i : Nat) (is : List Nat) : unwipe old r (i :: is) = (unwipe old r is).put i (oldSlot old i) := rfl
def slotO : Option Slot → Slot
  | some (.sh x) => .sh x
  | some (.bo c) => .bo c
  | _ => .no
@[simp] theorem slotO_sh (x : D) : slotO (some (.sh x)) = .sh x := rfl
@[simp] theorem slotO_bo (x : C) : slotO (some (.bo x)) = .bo x := rfl
@[simp] theorem slotO_no : slotO (some .no) = .no := rfl
@[simp] theorem slotO_ow (c : C) : slotO (some (.ow c)) = .no := rfl
@[simp] theorem slotO_lk (c : C) : slotO (some (.lk c)) = .no := rfl
@[simp] theorem slotO_none : slotO none = .no := rfl
@[simp] theorem ev_old : oldSlot r i = slotO r.sl[i]? := by
  unfold oldSlot slotO
  rfl
theorem runComp_nil (vs : List Nat) : runComp vs p t a [] r = some ([], r) := rfl
theorem runComp_cons (vs : List Nat) (x : D) (xs : List D) : runComp vs p t a (x :: xs) r = (bindP p x r).bind fun r1 => (t r1).bind fun b => if b.1 = true then
      (a b.2).bind fun p' => (toSh p'.2 p'.1).bind fun y => (runComp vs p t a xs (wipeE y.2 vs)).bind fun z => some (y.1 :: z.1, z.2)
    else runComp vs p t a xs (wipeE b.2 vs) := rfl
/-! defs -/
theorem ev_def (n : Nat) (ms : List Bool) (cs : List C) : dDef n ms f cs st = (argSlots ms cs).bind fun r => (f ⟨r ++ List.replicate (n - r.length) .no, st⟩).bind fun p => match p.1 with
    | .nx => some (.sh .none, p.2.st)
    | .rt z => some (z, p.2.st)
    | _ => none := rfl
def defK : Flow × Env → Option (Res × Store)
  | (.nx, r) => some (.sh .none, r.st)
  | (.rt z, r) => some (z, r.st)
  | _ => none
@[simp] theorem defK_nx : defK (.nx, r) = some (.sh .none, r.st) := rfl
@[simp] theorem defK_rt (z : Res) : defK (.rt z, r) = some (z, r.st) := rfl
@[simp] theorem ev_defK (n : Nat) (ms : List Bool) (cs : List C) : dDef n ms f cs st = (argSlots ms cs).bind fun r => (f ⟨r ++ List.replicate (n - r.length) .no, st⟩).bind defK := by
  rw [ev_def]
  cases argSlots ms cs with
  | none => rfl
  | some r =>
    show (f _).bind _ = (f _).bind _
    cases f ⟨r ++ List.replicate (n - r.length) .no, st⟩ with
    | none => rfl
    | some q =>
      obtain ⟨fl, q⟩ := q
      cases fl <;> rfl
@[simp] theorem ev_as0 : argSlots [] [] = some [] := rfl
@[simp] theorem ev_as1 (m : Bool) (ms : List Bool) (c : C) (cs : List C) : argSlots (m :: ms) (c :: cs) = (argSlot m c).bind fun s => (argSlots ms cs).bind fun r => some (s :: r) := rfl
@[simp] theorem ev_asT (x : D) : argSlot true (.d x) = some (.sh x) := rfl
@[simp] theorem ev_asL (x : List D) : argSlot false (.d (.list x)) = some (.bo (.d (.list x))) := rfl
@[simp] theorem ev_asT' (x : List D) : argSlot false (.d (.tuple x)) = some (.sh (.tuple x)) := rfl
@[simp] theorem ev_asI (x : Int) : argSlot false (.d (.int x)) = some (.sh (.int x)) := rfl
@[simp] theorem ev_asS (x : Str) : argSlot false (.d (.str x)) = some (.sh (.str x)) := rfl
@[simp] theorem ev_asB (x : Bool) : argSlot false (.d (.bool x)) = some (.sh (.bool x)) := rfl
@[simp] theorem ev_asN : argSlot false (.d .none) = some (.sh .none) := rfl
@[simp] theorem ev_asD (x : List (PyData × PyData)) : argSlot false (.d (.dict x)) = some (.sh (.dict x)) := rfl
@[simp] theorem ev_asK (x : List (Ky × D)) : argSlot false (.dk x) = some (.bo (.dk x)) := rfl
@[simp] theorem ev_asDT (x : List (List Ky × D)) : argSlot false (.dt x) = some (.bo (.dt x)) := rfl
/-! slices, parts -/
def intC : C → Option Int
  | .d (.int i) => some i
  | _ => none
@[simp] theorem intC_i (i : Int) : intC (.d (.int i)) = some i := rfl
@[simp] theorem ev_part0 : ePart none r = some (none, r) := rfl
@[simp] theorem ev_part1 : ePart (some a) r = (a r).bind fun p => ((look p.2 p.1).bind intC).bind fun i => some (some i, p.2) := by
  show (a r).bind _ = (a r).bind _
  cases a r with
  | none => rfl
  | some p =>
    show (match look p.2 p.1 with | some (.d (.int i)) => some (some i, p.2) | _ => none) = ((look p.2 p.1).bind intC).bind fun i => some (some i, p.2)
    cases look p.2 p.1 with
    | none => rfl
    | some c =>
      cases c with
      | d x => cases x <;> rfl
      | _ => rfl
@[simp] theorem ev_sl (lo hi : Option EF) : eSl a lo hi r = (a r).bind fun p => (stl p.1).bind fun x => (ePart lo p.2).bind fun l => (ePart hi l.2).bind fun h => (look h.2 x).bind fun c => (gSl c l.1 h.1).bind fun z => some (z, h.2) := rfl
/-! ranges -/
def rg1K (j : Int) : Option (List D) := if j.natAbs ≤ 1000000 then some (rgD 0 j.toNat) else none
@[simp] theorem rg1K_ok {j : Int} (h : -1000000 ≤ j ∧ j ≤ 1000000) : rg1K j = some (rgD 0 j.toNat) := if_pos (by omega)
def rg2K (i j : Int) : Option (List D) := if i.natAbs ≤ 1000000 ∧ j.natAbs ≤ 1000000 then some (rgD i (j - i).toNat) else none
@[simp] theorem rg2K_ok {i j : Int} (h : -1000000 ≤ i ∧ i ≤ 1000000 ∧ -1000000 ≤ j ∧ j ≤ 1000000) : rg2K i j = some (rgD i (j - i).toNat) := if_pos ⟨by omega, by omega⟩
@[simp] theorem ev_rg1 : iRg [a] r = (a r).bind fun p => (stl p.1).bind fun x => ((look p.2 x).bind intC).bind fun j => (rg1K j).bind fun ds => some (ds, .no, p.2) := by
  unfold iRg
  simp only [ev_args1, ev_args0]
  cases a r with
  | none => rfl
  | some p =>
    simp only [Option.bind_some]
    cases stl p.1 with
    | none => rfl
    | some x =>
      simp only [Option.bind_some, ev_looks1, ev_looks0]
      cases look p.2 x with
      | none => rfl
      | some c =>
        cases c with
        | d y =>
          cases y with
          | int j =>
            show (if j.natAbs ≤ 1000000 then some (rgD 0 j.toNat, Lk.no, p.2) else none) = (rg1K j).bind _
            unfold rg1K
            split <;> rfl
          | _ => rfl
        | _ => rfl
@[simp] theorem ev_rg2 : iRg [a, b] r = (a r).bind fun p => (stl p.1).bind fun x => (b p.2).bind fun q => (stl q.1).bind fun y => ((look q.2 x).bind intC).bind fun i => ((look q.2 y).bind intC).bind fun j => (rg2K i j).bind fun ds => some (ds, .no, q.2) := by
  unfold iRg
  simp only [ev_args1, ev_args0]
  cases a r with
  | none => rfl
  | some p =>
    simp only [Option.bind_some]
    cases stl p.1 with
    | none => rfl
    | some x =>
      simp only [Option.bind_some]
      cases b p.2 with
      | none => rfl
      | some q =>
        simp only [Option.bind_some]
        cases stl q.1 with
        | none => rfl
        | some y =>
          simp only [Option.bind_some, ev_looks1, ev_looks0]
          cases look q.2 x with
          | none => rfl
          | some c =>
            cases look q.2 y with
            | none => cases c with
              | d z => cases z <;> rfl
              | _ => rfl
            | some c' =>
              cases c with
              | d z =>
                cases z with
                | int i =>
                  cases c' with
                  | d z' =>
                    cases z' with
                    | int j =>
                      show (if i.natAbs ≤ 1000000 ∧ j.natAbs ≤ 1000000 then some (rgD i (j - i).toNat, Lk.no, q.2) else none) = (rg2K i j).bind _
                      unfold rg2K
                      split <;> rfl
                    | _ => rfl
                  | _ => rfl
                | _ => rfl
              | _ => rfl
/-! what changes -/
def ownS : Slot → Option C
  | .ow c => some c
  | _ => none
@[simp] theorem ownS_ow (c : C) : ownS (.ow c) = some c := rfl
@[simp] theorem ev_own : ownAt r (.sl i) = (r.sl[i]?).bind ownS := by
  unfold ownAt
  dsimp only
  cases r.sl[i]? with
  | none => rfl
  | some s => cases s <;> rfl
@[simp] theorem ev_ownPut (c : C) : ownPut r c (.sl i) = r.put i (.ow c) := rfl
@[simp] theorem ev_mut (k : C → Bool) (g : C → List D → Option (Res × C)) (q : Pl) : eMut k g q as r = (ownAt r q).bind fun c0 => if k c0 = true then
  (eArgs as r).bind fun p => (shares p.2 p.1).bind fun y => (ownAt y.2 q).bind fun c => (g c y.1).bind fun z => some (z.1, ownPut y.2 z.2 q)
  else none := rfl
@[simp] theorem isLst_l (xs : List D) : isLst (.d (.list xs)) = true := rfl
@[simp] theorem ev_app {xs : List D} {y : D} (h : xs.length < 16777216) : gApp (.d (.list xs)) [y] = some (.sh .none, .d (.list (xs ++ [y]))) := if_pos h
@[simp] theorem at0 {α : Type} (x : α) (xs : List α) : atD (x :: xs) 0 = some x := by
  unfold atD plc
  rw [if_pos (by decide), if_pos (by simp only [List.length_cons]; omega)]
  rfl
@[simp] theorem at1 {α : Type} (x y : α) (xs : List α) : atD (x :: y :: xs) 1 = some y := by
  unfold atD plc
  rw [if_pos (by decide), if_pos (by simp only [List.length_cons]; omega)]
  rfl
@[simp] theorem at2 {α : Type} (x y z : α) (xs : List α) : atD (x :: y :: z :: xs) 2 = some z := by
  unfold atD plc
  rw [if_pos (by decide), if_pos (by simp only [List.length_cons]; omega)]
  rfl
@[simp] theorem at3 {α : Type} (x y z w : α) (xs : List α) : atD (x :: y :: z :: w :: xs) 3 = some w := by
  unfold atD plc
  rw [if_pos (by decide), if_pos (by simp only [List.length_cons]; omega)]
  rfl
@[simp] theorem at4 {α : Type} (x y z w u : α) (xs : List α) : atD (x :: y :: z :: w :: u :: xs) 4 = some u := by
  unfold atD plc
  rw [if_pos (by decide), if_pos (by simp only [List.length_cons]; omega)]
  rfl
/-! operations -/
@[simp] theorem gAdd_i (i j : Int) : gAdd (.d (.int i)) (.d (.int j)) = some (.sh (.int (i + j))) := rfl
@[simp] theorem gAdd_s {x y : Str} (h : x.cps.size + y.cps.size ≤ 16777216) : gAdd (.d (.str x)) (.d (.str y)) = some (.sh (.str ⟨x.cps ++ y.cps⟩)) := if_pos h
@[simp] theorem gAdd_t {x y : List D} (h : x.length + y.length ≤ 16777216) : gAdd (.d (.tuple x)) (.d (.tuple y)) = some (.sh (.tuple (x ++ y))) := if_pos h
@[simp] theorem gAdd_l {x y : List D} (h : x.length + y.length ≤ 16777216) : gAdd (.d (.list x)) (.d (.list y)) = some (.fr (.d (.list (x ++ y)))) := if_pos h
@[simp] theorem gSub_i (i j : Int) : gSub (.d (.int i)) (.d (.int j)) = some (.sh (.int (i - j))) := rfl
@[simp] theorem gMul_i {i j : Int} (h : i.natAbs < 18446744073709551616 ∨ j.natAbs < 18446744073709551616) : gMul (.d (.int i)) (.d (.int j)) = some (.sh (.int (i * j))) := if_pos h
@[simp] theorem gMul_s {x : Str} {n : Int} (h : 0 ≤ n ∧ n ≤ 1000 ∧ 1 ≤ x.cps.size ∧ x.cps.size ≤ 1000) : gMul (.d (.str x)) (.d (.int n)) = some (.sh (.str ⟨(List.replicate n.toNat x.cps).foldl (· ++ ·) #[]⟩)) := if_pos h
theorem log2_small {n : Nat} (h : n ≤ 10 ^ 200) : n.log2 < 9000 := by
  rcases Nat.eq_zero_or_pos n with z | z
  · subst z; decide
  · refine (Nat.log2_lt (by omega)).mpr (Nat.lt_of_le_of_lt h ?_)
    exact Nat.lt_of_lt_of_le (Nat.pow_lt_pow_left (by decide : 10 < 16) (by decide)) (by
      rw [show (16 : Nat) = 2 ^ 4 from rfl, ← Nat.pow_mul]
      exact Nat.pow_le_pow_right (by decide) (by decide))
@[simp] theorem gDiv_i {i j : Int} (h0 : 0 < j) (h1 : j ≤ 10 ^ 200) : gDiv (.d (.int i)) (.d (.int j)) = some (.sh (.int (i / j))) := by
  show (if 0 < j ∧ j.natAbs.log2 < 9000 then some (Res.sh (.int (i / j))) else none) = _
  rw [if_pos ⟨h0, log2_small (by
    have e : ((10 ^ 200 : Nat) : Int) = 10 ^ 200 := by rw [Int.natCast_pow]; rfl
    generalize hN : (10 ^ 200 : Nat) = N at *
    omega)⟩]
@[simp] theorem mod_abs {i m : Int} (h0 : 0 < m) (h1 : m < 18446744073709551616) : (i % m).natAbs < 18446744073709551616 := by
  have := Int.emod_nonneg i (Int.ne_of_gt h0)
  have := Int.emod_lt_of_pos i h0
  omega
@[simp] theorem gMod_i {i j : Int} (h : 0 < j) : gMod (.d (.int i)) (.d (.int j)) = some (.sh (.int (i % j))) := if_pos h
@[simp] theorem gPow_i {i j : Int} (h : 0 ≤ j ∧ j ≤ 1000000 ∧ i.natAbs < 18446744073709551616) : gPow (.d (.int i)) (.d (.int j)) = some (.sh (.int (i ^ j.toNat))) := if_pos h
@[simp] theorem gEq_d {x y : D} (h : shallow x y = true) : gEq (.d x) (.d y) = shB (PyData.eqv x y) := if_pos h
@[simp] theorem gNe_d {x y : D} (h : shallow x y = true) : gNe (.d x) (.d y) = shB (!PyData.eqv x y) := if_pos h
@[simp] theorem gCmp_d {o : O4} {x y : D} (h : shallow x y = true) : gCmp o (.d x) (.d y) = (cmpD o x y).bind shB := if_pos h
@[simp] theorem shallow_i (i : Int) (y : D) : shallow (.int i) y = nod y := by
  unfold shallow
  rw [show decide (min (PyData.int i).depth y.depth ≤ 60) = true from decide_eq_true (by simp [PyData.depth])]
  simp [nod]
@[simp] theorem shallow_s (i : Str) (y : D) : shallow (.str i) y = nod y := by
  unfold shallow
  rw [show decide (min (PyData.str i).depth y.depth ≤ 60) = true from decide_eq_true (by simp [PyData.depth])]
  simp [nod]
@[simp] theorem shallow_b (i : Bool) (y : D) : shallow (.bool i) y = nod y := by
  unfold shallow
  rw [show decide (min (PyData.bool i).depth y.depth ≤ 60) = true from decide_eq_true (by simp [PyData.depth])]
  simp [nod]
@[simp] theorem shallow_n (y : D) : shallow .none y = nod y := by
  unfold shallow
  rw [show decide (min (PyData.none).depth y.depth ≤ 60) = true from decide_eq_true (by simp [PyData.depth])]
  simp [nod]
@[simp] theorem nod_i (i : Int) : nod (.int i) = true := rfl
@[simp] theorem nod_s (i : Str) : nod (.str i) = true := rfl
@[simp] theorem nod_b (i : Bool) : nod (.bool i) = true := rfl
@[simp] theorem nod_n : nod .none = true := rfl
@[simp] theorem eqv_ii (i j : Int) : PyData.eqv (.int i) (.int j) = (i == j) := by rw [PyData.eqv]
@[simp] theorem eqv_ss (i j : Str) : PyData.eqv (.str i) (.str j) = (i == j) := by rw [PyData.eqv]
@[simp] theorem eqv_nn : PyData.eqv .none .none = true := by rw [PyData.eqv]
@[simp] theorem cmp_ii (o : O4) (i j : Int) : cmpD o (.int i) (.int j) = some (o.int i j) := by rw [cmpD]
@[simp] theorem cmp_ss (o : O4) (i j : Str) : cmpD o (.str i) (.str j) = some (o.tx i.cps.toList j.cps.toList) := by rw [cmpD]
@[simp] theorem o4_lt (i j : Int) : O4.int .lt i j = decide (i < j) := rfl
@[simp] theorem o4_le (i j : Int) : O4.int .le i j = decide (i ≤ j) := rfl
@[simp] theorem o4_gt (i j : Int) : O4.int .gt i j = decide (j < i) := rfl
@[simp] theorem o4_ge (i j : Int) : O4.int .ge i j = decide (j ≤ i) := rfl
@[simp] theorem shB_b (b : Bool) : shB b = some (.sh (.bool b)) := rfl
@[simp] theorem gIsN_n (a : C) : gIsN a (.d .none) = shB (isNonC a) := rfl
@[simp] theorem gNotN_n (a : C) : gNotN a (.d .none) = shB (!isNonC a) := rfl
@[simp] theorem isNonC_n : isNonC (.d .none) = true := rfl
@[simp] theorem isNonC_t (x : List D) : isNonC (.d (.tuple x)) = false := rfl
@[simp] theorem isNonC_i (x : Int) : isNonC (.d (.int x)) = false := rfl
@[simp] theorem isNonC_s (x : Str) : isNonC (.d (.str x)) = false := rfl
@[simp] theorem isNonC_l (x : List D) : isNonC (.d (.list x)) = false := rfl
@[simp] theorem isNonC_d (x : List (D × D)) : isNonC (.d (.dict x)) = false := rfl
@[simp] theorem gIsB_b (a b : Bool) : gIsB (.d (.bool a)) (.d (.bool b)) = shB (decide (a = b)) := rfl
@[simp] theorem gNotB_b (a b : Bool) : gNotB (.d (.bool a)) (.d (.bool b)) = shB (!decide (a = b)) := rfl
@[simp] theorem gIn_l {x : D} {ys : List D} (h : shallowAll x ys = true) : gIn (.d x) (.d (.list ys)) = shB (inDs x ys) := if_pos h
@[simp] theorem gIn_t {x : D} {ys : List D} (h : shallowAll x ys = true) : gIn (.d x) (.d (.tuple ys)) = shB (inDs x ys) := if_pos h
@[simp] theorem gNotIn_l {x : D} {ys : List D} (h : shallowAll x ys = true) : gNotIn (.d x) (.d (.list ys)) = shB (!inDs x ys) := if_pos h
@[simp] theorem gNotIn_t {x : D} {ys : List D} (h : shallowAll x ys = true) : gNotIn (.d x) (.d (.tuple ys)) = shB (!inDs x ys) := if_pos h
@[simp] theorem gIx_l (xs : List D) (i : Int) : gIx (.d (.list xs)) (.d (.int i)) = (atD xs i).bind fun x => some (.sh x) := rfl
@[simp] theorem gIx_t (xs : List D) (i : Int) : gIx (.d (.tuple xs)) (.d (.int i)) = (atD xs i).bind fun x => some (.sh x) := rfl
@[simp] theorem gIx_s {x : Str} {i : Int} (h : x.cps.size ≤ 16777216) : gIx (.d (.str x)) (.d (.int i)) = (atD x.cps.toList i).bind fun c => some (.sh (.str ⟨#[c]⟩)) := if_pos h
@[simp] theorem gSl_l (xs : List D) (lo hi : Option Int) : gSl (.d (.list xs)) lo hi = some (.fr (.d (.list (cutL xs lo hi)))) := rfl
@[simp] theorem gSl_t (xs : List D) (lo hi : Option Int) : gSl (.d (.tuple xs)) lo hi = some (.sh (.tuple (cutL xs lo hi))) := rfl
@[simp] theorem gSl_s {x : Str} {lo hi : Option Int} (h : x.cps.size ≤ 16777216) : gSl (.d (.str x)) lo hi = some (.sh (.str ⟨(cutL x.cps.toList lo hi).toArray⟩)) := if_pos h
@[simp] theorem gRev_l (xs : List D) : gRev (.d (.list xs)) = some (.fr (.d (.list xs.reverse))) := rfl
@[simp] theorem gLen_l (xs : List D) : gLen [.d (.list xs)] = some (.sh (.int xs.length)) := rfl
@[simp] theorem gLen_t (xs : List D) : gLen [.d (.tuple xs)] = some (.sh (.int xs.length)) := rfl
@[simp] theorem gLen_s {x : Str} (h : x.cps.size ≤ 16777216) : gLen [.d (.str x)] = some (.sh (.int x.cps.size)) := if_pos h
@[simp] theorem gLen_kt (xs : List (List Ky × D)) : gLen [.dt xs] = some (.sh (.int xs.length)) := rfl
@[simp] theorem gLen_k (xs : List (Ky × D)) : gLen [.dk xs] = some (.sh (.int xs.length)) := rfl
@[simp] theorem gList_l (xs : List D) : gList [.d (.list xs)] = some (.fr (.d (.list xs))) := rfl
@[simp] theorem gList_t (xs : List D) : gList [.d (.tuple xs)] = some (.fr (.d (.list xs))) := rfl
@[simp] theorem gTuple_l (xs : List D) : gTuple [.d (.list xs)] = some (.sh (.tuple xs)) := rfl
@[simp] theorem gTuple_t (xs : List D) : gTuple [.d (.tuple xs)] = some (.sh (.tuple xs)) := rfl
@[simp] theorem gMax2_i (i j : Int) : gMax2 [.d (.int i), .d (.int j)] = some (.sh (.int (if j > i then j else i))) := rfl
@[simp] theorem gMin2_i (i j : Int) : gMin2 [.d (.int i), .d (.int j)] = some (.sh (.int (if j < i then j else i))) := rfl
@[simp] theorem gInt_i (i : Int) : gInt [.d (.int i)] = some (.sh (.int i)) := rfl
@[simp] theorem gInt_b (b : Bool) : gInt [.d (.bool b)] = some (.sh (.int (if b = true then 1 else 0))) := rfl
@[simp] theorem gSum_l (xs : List D) : gSum [.d (.list xs)] = (intsD xs).bind fun is => some (.sh (.int is.sum)) := rfl
@[simp] theorem gAll_l (xs : List D) : gAll [.d (.list xs)] = (boolsD xs).bind fun is => shB (is.all id) := rfl
@[simp] theorem gSorted_l {xs : List D} (h : sortB xs = true) : gSorted [.d (.list xs)] = some (.fr (.d (.list (sortD xs)))) := if_pos h
@[simp] theorem gNeg_i (i : Int) : gNeg (.d (.int i)) = some (.sh (.int (-i))) := rfl
@[simp] theorem ev_isi (T : String) : eIsi T a r = (a r).bind fun p => (look p.2 p.1).bind fun u => (gIsi T u).bind fun z => some (z, p.2) := rfl
@[simp] theorem gIsi_i (T : String) (i : Int) : gIsi T (.d (.int i)) = shB (isiS "int" T) := rfl
@[simp] theorem gIsi_s (T : String) (i : Str) : gIsi T (.d (.str i)) = shB (isiS "str" T) := rfl
@[simp] theorem gIsi_b (T : String) (i : Bool) : gIsi T (.d (.bool i)) = shB (isiS "bool" T) := rfl
@[simp] theorem gIsi_n (T : String) : gIsi T (.d .none) = shB (isiS "NoneType" T) := rfl
@[simp] theorem gIsi_l (T : String) (i : List D) : gIsi T (.d (.list i)) = shB (isiS "list" T) := rfl
@[simp] theorem gIsi_t (T : String) (i : List D) : gIsi T (.d (.tuple i)) = shB (isiS "tuple" T) := rfl
@[simp] theorem isi1 : isiS "int" "int" = true := by decide
@[simp] theorem isi2 : isiS "int" "bool" = false := by decide
@[simp] theorem isi3 : isiS "str" "str" = true := by decide
@[simp] theorem isi4 : isiS "tuple" "tuple" = true := by decide
@[simp] theorem isi5 : isiS "list" "list" = true := by decide
@[simp] theorem isi6 : isiS "bool" "bool" = true := by decide
@[simp] theorem isi7 : isiS "bool" "int" = true := by decide
@[simp] theorem isi8 : isiS "str" "int" = false := by decide
@[simp] theorem isi9 : isiS "tuple" "list" = false := by decide
@[simp] theorem isi10 : isiS "int" "list" = false := by decide
@[simp] theorem isi11 : isiS "NoneType" "tuple" = false := by decide
@[simp] theorem isi12 : isiS "NoneType" "list" = false := by decide
@[simp] theorem isi13 : isiS "tuple" "str" = false := by decide
@[simp] theorem isi14 : isiS "str" "tuple" = false := by decide
@[simp] theorem isi15 : isiS "int" "str" = false := by decide
@[simp] theorem isi16 : isiS "str" "bool" = false := by decide
@[simp] theorem isi17 : isiS "tuple" "int" = false := by decide
@[simp] theorem ev_chain (g h : C → C → Option Res) : eChain g h a b c r = (a r).bind fun p => (stl p.1).bind fun x => (b p.2).bind fun q => (stl q.1).bind fun y => (look q.2 x).bind fun u => (look q.2 y).bind fun v => (g u v).bind fun z => match z with
    | .sh (.bool true) => (c q.2).bind fun s => (look s.2 y).bind fun v => (look s.2 s.1).bind fun w => (h v w).bind fun z => some (z, s.2)
    | .sh (.bool false) => some (.sh (.bool false), q.2)
    | _ => none := rfl
end
end CM
end
section
set_option Elab.async false
set_option linter.all false
set_option maxRecDepth 100000
set_option autoImplicit false
namespace CM
open PySem
/-! ### plain data: no truths, no objects -/
mutual
def pln : D → Bool
  | .dict _ => false
  | .bool _ => false
  | .list xs => plns xs
  | .tuple xs => plns xs
  | _ => true
def plns : List D → Bool
  | [] => true
  | x :: xs => pln x && plns xs
end
theorem plns_iff {xs : List D} : plns xs = true ↔ ∀ x ∈ xs, pln x = true := by
  induction xs with
  | nil => simp [plns]
  | cons x xs ih => simp [plns, ih]
theorem nods_iff {xs : List D} : nods xs = true ↔ ∀ x ∈ xs, nod x = true := by
  induction xs with
  | nil => simp [nods]
  | cons x xs ih => simp [nods, ih]
mutual
theorem pln_nod : ∀ d : D, pln d = true → nod d = true
  | .none, _ => rfl
  | .int _, _ => rfl
  | .str _, _ => rfl
  | .bool _, _ => rfl
  | .dict _, h => by simp [pln] at h
  | .list xs, h => by rw [pln] at h; rw [nod]; exact plns_nods xs h
  | .tuple xs, h => by rw [pln] at h; rw [nod]; exact plns_nods xs h
theorem plns_nods : ∀ xs : List D, plns xs = true → nods xs = true
  | [], _ => rfl
  | x :: xs, h => by
    rw [plns, Bool.and_eq_true] at h
    rw [nods, pln_nod x h.1, plns_nods xs h.2]
    rfl
end
mutual
theorem eqv_pln : ∀ x y : D, pln x = true → pln y = true → (PyData.eqv x y = true ↔ x = y)
  | .none, y, _, hy => by cases y <;> simp [PyData.eqv, pln] at *
  | .bool _, _, h, _ => by simp [pln] at h
  | .dict _, _, h, _ => by simp [pln] at h
  | .int i, y, _, hy => by cases y <;> simp [PyData.eqv, pln] at *
  | .str i, y, _, hy => by cases y <;> simp [PyData.eqv, pln] at *
  | .list xs, y, hx, hy => by
    cases y with
    | list ys =>
      rw [pln] at hx hy
      rw [PyData.eqv, eqvs_pln xs ys hx hy]
      simp
    | _ => simp [PyData.eqv] at *
  | .tuple xs, y, hx, hy => by
    cases y with
    | tuple ys =>
      rw [pln] at hx hy
      rw [PyData.eqv, eqvs_pln xs ys hx hy]
      simp
    | _ => simp [PyData.eqv] at *
theorem eqvs_pln : ∀ xs ys : List D, plns xs = true → plns ys = true → (PyData.eqvAll xs ys = true ↔ xs = ys)
  | [], [], _, _ => by simp [PyData.eqvAll]
  | [], _ :: _, _, _ => by simp [PyData.eqvAll]
  | _ :: _, [], _, _ => by simp [PyData.eqvAll]
  | x :: xs, y :: ys, hx, hy => by
    rw [plns, Bool.and_eq_true] at hx hy
    rw [PyData.eqvAll, Bool.and_eq_true, eqv_pln x y hx.1 hy.1, eqvs_pln xs ys hx.2 hy.2]
    simp
end
theorem eqv_dec {x y : D} (hx : pln x = true) (hy : pln y = true) [Decidable (x = y)] : PyData.eqv x y = decide (x = y) := by
  rw [Bool.eq_iff_iff, eqv_pln x y hx hy, decide_eq_true_iff]
theorem depthAll_le {k : Nat} : ∀ {xs : List D}, (∀ x ∈ xs, x.depth ≤ k) → PyData.depthAll xs ≤ k
  | [], _ => Nat.zero_le _
  | x :: xs, h => by
    rw [PyData.depthAll]
    exact Nat.max_le.mpr ⟨h x List.mem_cons_self, depthAll_le fun y hy => h y (List.mem_cons_of_mem _ hy)⟩
/-- plain data of some depth -/
structure Fl (k : Nat) (d : D) : Prop where
  p : pln d = true
  k : d.depth ≤ k
theorem Fl.i {k : Nat} (i : Int) : Fl k (.int i) := ⟨rfl, by simp [PyData.depth]⟩
theorem Fl.s {k : Nat} (i : Str) : Fl k (.str i) := ⟨rfl, by simp [PyData.depth]⟩
theorem Fl.n {k : Nat} : Fl k .none := ⟨rfl, by simp [PyData.depth]⟩
theorem Fl.t {k : Nat} {xs : List D} (h : ∀ x ∈ xs, Fl k x) : Fl (k + 1) (.tuple xs) := ⟨by rw [pln]; exact plns_iff.mpr fun x hx => (h x hx).p, by
  rw [PyData.depth]
  exact Nat.succ_le_succ (depthAll_le fun x hx => (h x hx).k)⟩
theorem Fl.l {k : Nat} {xs : List D} (h : ∀ x ∈ xs, Fl k x) : Fl (k + 1) (.list xs) := ⟨by rw [pln]; exact plns_iff.mpr fun x hx => (h x hx).p, by
  rw [PyData.depth]
  exact Nat.succ_le_succ (depthAll_le fun x hx => (h x hx).k)⟩
theorem Fl.up {j k : Nat} {d : D} (h : Fl j d) (e : j ≤ k) : Fl k d := ⟨h.p, Nat.le_trans h.k e⟩
theorem shallow_fl {j k : Nat} {x y : D} (hx : Fl j x) (hy : Fl k y) (e : j ≤ 60 ∨ k ≤ 60) : shallow x y = true := by
  unfold shallow
  rw [pln_nod x hx.p, pln_nod y hy.p, Bool.and_self, Bool.and_true]
  have := hx.k
  have := hy.k
  exact decide_eq_true (by omega)
/-! ### lists by places -/
theorem atD_nat {α : Type} {xs : List α} {n : Nat} {x : α} (h : xs[n]? = some x) : atD xs (n : Int) = some x := by
  have hl : n < xs.length := by
    rcases Nat.lt_or_ge n xs.length with w | w
    · exact w
    · rw [List.getElem?_eq_none_iff.mpr w] at h; cases h
  unfold atD plc
  rw [if_pos (by omega), if_pos (by omega)]
  exact h
theorem atD_int {α : Type} {xs : List α} {i : Int} {x : α} (h0 : 0 ≤ i) (h : xs[i.toNat]? = some x) : atD xs i = some x := by
  have := atD_nat h
  rwa [Int.toNat_of_nonneg h0] at this
theorem atD_lt {α : Type} {xs : List α} {i : Int} (h0 : 0 ≤ i) (h : i < xs.length) : atD xs i = some (xs[i.toNat]'(by omega)) :=
  atD_int h0 (List.getElem?_eq_getElem _)
theorem atD_last {α : Type} {xs : List α} (h : xs ≠ []) : atD xs (-1) = some (xs.getLast h) := by
  have hl : 0 < xs.length := List.length_pos_iff.mpr h
  unfold atD plc
  rw [if_neg (by omega), if_pos (by omega)]
  have e : (-1 + (xs.length : Int)).toNat = xs.length - 1 := by omega
  show xs[(-1 + (xs.length : Int)).toNat]? = _
  rw [e, List.getLast_eq_getElem]
  exact List.getElem?_eq_getElem _
/-- a loop whose every turn goes on, by an invariant -/
theorem runFor_inv {p : Pat} {f : SF} (Inv : Nat → Env → Prop) : ∀ (xs : List D) (k : Nat) (r : Env), Inv k r →
    (∀ i r x, Inv (k + i) r → xs[i]? = some x → ∃ r1 fl r2, bindP p x r = some r1 ∧ f r1 = some (fl, r2) ∧ (fl = .nx ∨ fl = .ct) ∧ Inv (k + i + 1) r2) → ∃ r', runFor p f xs r = some (.nx, r') ∧ Inv (k + xs.length) r'
  | [], k, r, h, _ => ⟨r, rfl, h⟩
  | x :: xs, k, r, h, step => by
    obtain ⟨r1, fl, r2, h1, h2, h3, h4⟩ := step 0 r x h rfl
    obtain ⟨r', g1, g2⟩ := runFor_inv Inv xs (k + 1) r2 h4 fun i r y hi hx => by
      have := step (i + 1) r y (by rw [show k + (i + 1) = k + 1 + i by omega]; exact hi) (by simpa using hx)
      rw [show k + (i + 1) + 1 = k + 1 + i + 1 by omega] at this
      exact this
    refine ⟨r', ?_, by rw [List.length_cons, show k + (xs.length + 1) = k + 1 + xs.length by omega]; exact g2⟩
    rw [runFor_cons, h1, Option.bind_some, h2, Option.bind_some]
    rcases h3 with e | e <;> subst e
    · exact g1
    · exact g1
theorem runFor_inv0 {p : Pat} {f : SF} (Inv : Nat → Env → Prop) (xs : List D) (r : Env) (h : Inv 0 r)
    (step : ∀ i r x, Inv i r → xs[i]? = some x → ∃ r1 fl r2, bindP p x r = some r1 ∧ f r1 = some (fl, r2) ∧ (fl = .nx ∨ fl = .ct) ∧ Inv (i + 1) r2) : ∃ r', runFor p f xs r = some (.nx, r') ∧ Inv xs.length r' := by
  have := runFor_inv (p := p) (f := f) Inv xs 0 r h fun i r x hi hx => by
    rw [Nat.zero_add] at hi ⊢
    exact step i r x hi hx
  rwa [Nat.zero_add] at this
theorem rgD_get {a : Int} {n i : Nat} {x : D} (h : (rgD a n)[i]? = some x) : i < n ∧ x = .int (a + i) := by
  unfold rgD at h
  rw [List.getElem?_map] at h
  rcases Nat.lt_or_ge i n with w | w
  · rw [List.getElem?_range w] at h
    exact ⟨w, (Option.some.inj h).symm⟩
  · rw [List.getElem?_eq_none_iff.mpr (by simpa using w)] at h; cases h
@[simp] theorem rgD_len (a : Int) (n : Nat) : (rgD a n).length = n := by simp [rgD]
end CM
end
section
set_option Elab.async false
set_option linter.all false
set_option maxRecDepth 100000
set_option autoImplicit false
namespace CM
open PySem PySem.Spec PyProof.Rows L2
variable {X : Cx}
def gOrd : List C → Option Res
  | [.d (.str x)] => if x.cps.size = 1 then some (.sh (.int ((x.cps.getD 0 0 : Nat) : Int))) else none
  | _ => none
theorem dcl_ord : DCl X (.builtin "ord") gOrd := by
  refine .of fun pins s σ H xs us Q I r ⟨F, cs, z, e, et, b, q, k⟩ => ?_
  unfold gOrd at q
  split at q
  · rename_i t
    split at q
    · rename_i c
      cases q
      obtain ⟨x, rfl, h⟩ := one_of b
      have h : Vp X.kc F x (.str t) := h
      cases h
      exact call_ord pins s σ H _ us Q I r ⟨t, rfl, c, k F H _ (.refl e) (.int _)⟩
    · cases q
  · cases q
@[simp] theorem gOrd_s {x : Str} (h : x.cps.size = 1) : gOrd [.d (.str x)] = some (.sh (.int ((x.cps.getD 0 0 : Nat) : Int))) := if_pos h
theorem runComp_map {vs : List Nat} {p : Pat} {t : TF} {a : EF} (g : D → D) (r0 : Env) : ∀ xs : List D,
    (∀ x ∈ xs, ∃ r1 r2 r3, bindP p x r0 = some r1 ∧ t r1 = some (true, r2) ∧ a r2 = some (.sh (g x), r3) ∧ wipeE r3 vs = r0) → runComp vs p t a xs r0 = some (xs.map g, r0)
  | [], _ => rfl
  | x :: xs, h => by
    obtain ⟨r1, r2, r3, h1, h2, h3, h4⟩ := h x List.mem_cons_self
    have ih := runComp_map (vs := vs) (p := p) (t := t) (a := a) g r0 xs fun y hy => h y (List.mem_cons_of_mem _ hy)
    rw [runComp_cons, h1, Option.bind_some, h2, Option.bind_some, if_pos rfl, h3, Option.bind_some]
    show (runComp vs p t a xs (wipeE r3 vs)).bind _ = _
    rw [h4, ih]
    rfl
theorem boolsD_map {α : Type} (f : α → Bool) : ∀ xs : List α, boolsD (xs.map fun x => PyData.bool (f x)) = some (xs.map f)
  | [] => rfl
  | x :: xs => by
    rw [List.map_cons, boolsD, boolsD_map f xs]
    rfl
theorem atD_mem {α : Type} {xs : List α} {i : Int} {x : α} (h : atD xs i = some x) : x ∈ xs := by
  unfold atD at h
  cases e : plc xs.length i with
  | none => rw [e] at h; cases h
  | some n => rw [e] at h; exact List.mem_of_getElem? h
end CM
end
section
set_option Elab.async false
set_option linter.all false
set_option maxRecDepth 100000
set_option autoImplicit false
namespace CM
open PySem PySem.Spec PyProof.Rows L2 PySem.SeqAt
/-! ### dicts: keys, what they hold -/
section
variable {K : KC} {F F' : Fz} {H H' : Hp} {v y : V} {c : C} {kd d : D} {κ : Type} [DecidableEq κ]
theorem aGet_pos {e : κ × D} {r : List (κ × D)} {k : κ} (h : e.1 = k) : aGet (e :: r) k = some e.2 := by simp [aGet, List.find?_cons, h]
theorem aGet_neg {e : κ × D} {r : List (κ × D)} {k : κ} (h : ¬ e.1 = k) : aGet (e :: r) k = aGet r k := by simp [aGet, List.find?_cons, h]
theorem KVs.get {es : List (κ × V)} {kvs : List (κ × D)} (h : KVs K F es kvs) (k : κ) : (aGet kvs k = none ∧ valV es k = none) ∨ ∃ d v, aGet kvs k = some d ∧ valV es k = some v ∧ Vp K F v d := by
  induction h with
  | nil => exact .inl ⟨rfl, rfl⟩
  | @cons e q es qs h t ih =>
    obtain ⟨h1, h2⟩ := h
    by_cases z : e.1 = k
    · exact .inr ⟨q.2, e.2, aGet_pos (h1.symm.trans z), valV_pos z, h2⟩
    · rw [aGet_neg (fun w => z (h1.trans w)), valV_neg z]
      exact ih
theorem KVs.any {es : List (κ × V)} {kvs : List (κ × D)} (h : KVs K F es kvs) (k : κ) : (es.any fun e => decide (e.1 = k)) = kvs.any fun e => decide (e.1 = k) := by
  induction h with
  | nil => rfl
  | @cons e q es qs h t ih =>
    rw [List.any_cons, List.any_cons, ih, h.1]
theorem KVs.put {es : List (κ × V)} {kvs : List (κ × D)} (h : KVs K F es kvs) (k : κ) (g : Vp K F v d) : KVs K F (putK es k v) (aPut kvs k d) := by
  unfold putK aPut
  rw [h.any k]
  split
  · induction h with
    | nil => exact .nil
    | @cons e q es qs h t ih =>
      rw [List.map_cons, List.map_cons]
      refine .cons ?_ ?_
      · obtain ⟨h1, h2⟩ := h
        by_cases z : e.1 = k
        · rw [if_pos z, if_pos (h1.symm.trans z)]; exact ⟨h1, g⟩
        · rw [if_neg z, if_neg (fun w => z (h1.trans w))]; exact ⟨h1, h2⟩
      · rename_i w
        clear ih w
        induction t with
        | nil => exact .nil
        | @cons e q es qs h t ih =>
          rw [List.map_cons, List.map_cons]
          refine .cons ?_ ih
          obtain ⟨h1, h2⟩ := h
          by_cases z : e.1 = k
          · rw [if_pos z, if_pos (h1.symm.trans z)]; exact ⟨h1, g⟩
          · rw [if_neg z, if_neg (fun w => z (h1.trans w))]; exact ⟨h1, h2⟩
  · exact Paired.snoc h ⟨rfl, g⟩
theorem KVs.drop {es : List (κ × V)} {kvs : List (κ × D)} (h : KVs K F es kvs) (k : κ) : KVs K F (dropK es k) (aDrop kvs k) := by
  unfold dropK aDrop
  induction h with
  | nil => exact .nil
  | @cons e q es qs h t ih =>
    by_cases z : e.1 = k
    · rw [List.filter_cons_of_neg (by simpa using z), List.filter_cons_of_neg (by simpa using h.1.symm.trans z)]
      exact ih
    · rw [List.filter_cons_of_pos (by simpa using z), List.filter_cons_of_pos (by simpa using fun w => z (h.1.trans w))]
      exact .cons h ih
theorem KVs.length {es : List (κ × V)} {kvs : List (κ × D)} (h : KVs K F es kvs) : es.length = kvs.length := Paired.length h
theorem key_v {k : Ky} (h : kOf kd = some k) (p : Vp K F v kd) : v = kV k := by
  unfold kOf at h
  split at h
  · cases h; cases p; rfl
  · cases h; cases p; rfl
  · cases h
theorem keys_v : ∀ {ds : List D} {vs : List V} {k : List Ky}, ksOf ds = some k → VpAll K F vs ds → vs = k.map kV
  | [], _, k, h, p => by cases h; cases p; rfl
  | d :: ds, _, k, h, p => by
    cases p with
    | cons p1 p2 =>
      unfold ksOf at h
      simp only [Option.bind_eq_some_iff] at h
      obtain ⟨k1, h1, ks, h2, h3⟩ := h
      cases h3
      rw [List.map_cons, key_v h1 p1, keys_v h2 p2]
theorem keyT_v {k : List Ky} (h : kOfT kd = some k) (p : Vp K F v kd) : ∃ b, v = .ref b ∧ F.f b = some (.tup (k.map kV)) := by
  unfold kOfT at h
  split at h
  · split at h
    · cases h
    · rename_i hc
      cases p with
      | tup hs ha =>
        rw [Bool.or_eq_true] at hc
        rcases hs with ⟨o, _, hs⟩ | ⟨_, hs⟩
        · rw [Bool.eq_false_iff.mpr fun z => hc (.inr z)] at hs
          have hs : F.f _ = some (.tup _) := hs
          rw [keys_v h ha] at hs
          exact ⟨_, rfl, hs⟩
        · exact absurd (.inl hs) hc
  · cases h
/-- what a dict holds at a key -/
theorem dget_ok {o : Option D} (b : Bd K F H v c) (g : cGet c kd = some o) (p : Vp K F y kd) (e : Ex F.f H) : ∃ a r, v = .ref a ∧ DGet H a y r ∧ ((o = none ∧ r = none) ∨ ∃ d w, o = some d ∧ r = some w ∧ Vp K F w d) := by
  unfold cGet at g
  split at g
  · rename_i kvs k
    simp only [Option.bind_eq_some_iff] at g
    obtain ⟨k, h1, h2⟩ := g
    cases h2
    obtain ⟨a, es, rfl, rd, kv⟩ := b
    refine ⟨a, _, rfl, .inl ⟨es, k, rd, key_v h1 p, rfl⟩, ?_⟩
    rcases kv.get k with ⟨z1, z2⟩ | ⟨d, w, z1, z2, z3⟩
    · exact .inl ⟨z1, z2⟩
    · exact .inr ⟨d, w, z1, z2, z3⟩
  · rename_i kvs k
    simp only [Option.bind_eq_some_iff] at g
    obtain ⟨k, h1, h2⟩ := g
    cases h2
    obtain ⟨a, es, rfl, rd, kv⟩ := b
    obtain ⟨b, rfl, hb⟩ := keyT_v h1 p
    refine ⟨a, _, rfl, .inr ⟨es, k, b, rd, rfl, e _ _ hb, rfl⟩, ?_⟩
    rcases kv.get k with ⟨z1, z2⟩ | ⟨d, w, z1, z2, z3⟩
    · exact .inl ⟨z1, z2⟩
    · exact .inr ⟨d, w, z1, z2, z3⟩
  · cases g
theorem cGet_key {o : Option D} (b : Bd K F H y (.d kd)) (g : cGet c kd = some o) : Vp K F y kd := by
  cases kd with
  | list _ =>
    unfold cGet at g
    split at g
    · cases g
    · cases g
    · cases g
  | _ => exact b
end
section
variable {X : Cx}
theorem dop_din (hu : X.A.units + 64 < cLine) : DOp X (compareOp .In) gDIn := by
  refine .of fun pins s σ H x y v u Q I rx ry ⟨F, a, b, z, e, et, ba, bb, q, k⟩ => ?_
  unfold gDIn at q
  split at q
  · rename_i kd
    simp only [Option.bind_eq_some_iff] at q
    obtain ⟨o, q1, q2⟩ := q
    cases q2
    obtain ⟨p, r, rfl, g, hr⟩ := dget_ok bb q1 (cGet_key ba q1) e
    obtain rfl : u = Value.ref p := ry
    refine d_in (by omega) I g rx fun s' I' => ⟨.bl r.isSome, H, I', rfl, ?_⟩
    have : r.isSome = o.isSome := by
      rcases hr with ⟨h1, h2⟩ | ⟨d, w, h1, h2, _⟩ <;> rw [h1, h2] <;> rfl
    rw [this]
    exact k F H _ (.refl e) (.bl _)
  · cases q
theorem dop_dnotin (hu : X.A.units + 64 < cLine) : DOp X (compareOp .NotIn) gDNotIn := by
  refine .of fun pins s σ H x y v u Q I rx ry ⟨F, a, b, z, e, et, ba, bb, q, k⟩ => ?_
  unfold gDNotIn at q
  split at q
  · rename_i kd
    simp only [Option.bind_eq_some_iff] at q
    obtain ⟨o, q1, q2⟩ := q
    cases q2
    obtain ⟨p, r, rfl, g, hr⟩ := dget_ok bb q1 (cGet_key ba q1) e
    obtain rfl : u = Value.ref p := ry
    refine d_notIn (by omega) I g rx fun s' I' => ⟨.bl (!r.isSome), H, I', rfl, ?_⟩
    have : r.isSome = o.isSome := by
      rcases hr with ⟨h1, h2⟩ | ⟨d, w, h1, h2, _⟩ <;> rw [h1, h2] <;> rfl
    rw [this]
    exact k F H _ (.refl e) (.bl _)
  · cases q
theorem ddix (hu : X.A.units + 64 < cLine) : DIx X gDGet := by
  refine .of fun value slice pins s σ H x y v u Q I rx ry ⟨F, a, b, z, e, et, ba, bb, q, k⟩ hs => ?_
  unfold gDGet at q
  split at q
  · rename_i kd
    simp only [Option.bind_eq_some_iff] at q
    obtain ⟨o, q1, d, q2, q3⟩ := q
    cases q3
    subst q2
    obtain ⟨p, r, rfl, g, hr⟩ := dget_ok ba q1 (cGet_key bb q1) e
    rcases hr with ⟨h1, h2⟩ | ⟨d', w, h1, h2, h3⟩
    · cases h1
    cases h1
    subst h2
    obtain rfl : v = Value.ref p := rx
    exact tail_any (dict_typeIs I g) PySem.F.slot_dict_getitem.lookup (d_getItem (by omega) I g ry fun w' s' I' rw' => ⟨w, H, I', rw', k F H w (.refl e) h3⟩) hs
  · cases q
/-- both -/
theorem dop_ina (hu : X.A.units + 64 < cLine) : DOp X (compareOp .In) gInA := by
  obtain ⟨o1, a1, a2⟩ := (dop_in hu : DOp X (compareOp .In) gIn).ex
  obtain ⟨o2, b1, b2⟩ := (dop_din hu : DOp X (compareOp .In) gDIn).ex
  refine .of fun pins s σ H x y v u Q I rx ry ⟨F, a, b, z, e, et, ba, bb, q, k⟩ => ?_
  unfold gInA at q
  split at q
  · exact a1 pins s σ H x y v u Q I rx ry (a2 F H x y _ _ z e et ba bb q Q k)
  · exact b1 pins s σ H x y v u Q I rx ry (b2 F H x y _ _ z e et ba bb q Q k)
theorem dop_notina (hu : X.A.units + 64 < cLine) : DOp X (compareOp .NotIn) gNotInA := by
  obtain ⟨o1, a1, a2⟩ := (dop_notIn hu : DOp X (compareOp .NotIn) gNotIn).ex
  obtain ⟨o2, b1, b2⟩ := (dop_dnotin hu : DOp X (compareOp .NotIn) gDNotIn).ex
  refine .of fun pins s σ H x y v u Q I rx ry ⟨F, a, b, z, e, et, ba, bb, q, k⟩ => ?_
  unfold gNotInA at q
  split at q
  · exact a1 pins s σ H x y v u Q I rx ry (a2 F H x y _ _ z e et ba bb q Q k)
  · exact b1 pins s σ H x y v u Q I rx ry (b2 F H x y _ _ z e et ba bb q Q k)
theorem dixa (hu : X.A.units + 64 < cLine) : DIx X gIxA := by
  obtain ⟨o1, a1, a2⟩ := (dix : DIx X gIx).ex
  obtain ⟨o2, b1, b2⟩ := (ddix hu : DIx X gDGet).ex
  refine .of fun value slice pins s σ H x y v u Q I rx ry ⟨F, a, b, z, e, et, ba, bb, q, k⟩ hs => ?_
  unfold gIxA at q
  split at q
  · exact a1 value slice pins s σ H x y v u Q I rx ry (a2 F H x y _ _ z e et ba bb q Q k) hs
  · exact b1 value slice pins s σ H x y v u Q I rx ry (b2 F H x y _ _ z e et ba bb q Q k) hs
end
end CM
end
section
set_option Elab.async false
set_option linter.all false
set_option maxRecDepth 100000
set_option autoImplicit false
namespace CM
open PySem PySem.Spec PyProof.Rows L2 PySem.SeqAt
/-! ### new dicts -/
section
variable {X : Cx} {e e1 e2 : Expr} {fa fb fc : EF} {qb : Bool} {pos apos cpos npos : Pos}
theorem de_newK : DE X qb (.Dict [] [] pos) eNewK := ⟨_, pe_dnewK, fun B H0 F0 F H σ r z r' q j Q k => by
  cases q
  intro p hp
  have g : Grow F H F (upd H p (.dK [])) := .lay j.fh hp
  have ht : F.t p = none := by
    cases w : F.t p with
    | none => rfl
    | some u => exact absurd hp (j.so.sep p u w).2.1
  exact k _ _ _ g.ge (j.grow g) (RetOk.res j g ⟨p, rfl, hp, j.fh.back hp, ht, [], upd_same, .nil⟩)⟩
theorem de_newT : DE X qb (.Dict [] [] pos) eNewT := ⟨_, pe_dnewT, fun B H0 F0 F H σ r z r' q j Q k => by
  cases q
  intro p hp
  have g : Grow F H F (upd H p (.dT [])) := .lay j.fh hp
  have ht : F.t p = none := by
    cases w : F.t p with
    | none => rfl
    | some u => exact absurd hp (j.so.sep p u w).2.1
  exact k _ _ _ g.ge (j.grow g) (RetOk.res j g ⟨p, rfl, hp, j.fh.back hp, ht, [], upd_same, .nil⟩)⟩
/-! ### d[k] = v -/
def sPutD (i : Nat) (k v : EF) : SF := fun r => (v r).bind fun p => (toSh p.2 p.1).bind fun y => (ownAt y.2 (.sl i)).bind fun _ => (k y.2).bind fun s => (toSh s.2 s.1).bind fun z => (ownAt z.2 (.sl i)).bind fun c =>
  (cPut c z.1 y.1).bind fun c' => some (.nx, ownPut z.2 c' (.sl i))
theorem dput_ok {K : KC} {F : Fz} {H : Hp} {p : Addr} {c c' : C} {kd d : D} {y v : V} (od : Od K F H p c) (h : cPut c kd d = some c') (py : Vp K F y kd) (pv : Vp K F v d) (e : Ex F.f H) : ∃ o, DPut H p y v (upd H p o) ∧ Od K F (upd H p o) p c' := by
  unfold cPut at h
  split at h
  · rename_i kvs k
    split at h
    · rename_i hl
      simp only [Option.bind_eq_some_iff] at h
      obtain ⟨k, h1, h2⟩ := h
      cases h2
      obtain ⟨es, he, kv⟩ := od
      exact ⟨_, .inl ⟨es, k, he, key_v h1 py, by rw [kv.length, sizeLine_eq]; exact hl, rfl⟩, _, upd_same, kv.put k pv⟩
    · cases h
  · rename_i kvs k
    split at h
    · rename_i hl
      simp only [Option.bind_eq_some_iff] at h
      obtain ⟨k, h1, h2⟩ := h
      cases h2
      obtain ⟨es, he, kv⟩ := od
      obtain ⟨b, rfl, hb⟩ := keyT_v h1 py
      exact ⟨_, .inr ⟨es, k, b, he, rfl, e _ _ hb, by rw [kv.length, sizeLine_eq]; exact hl, rfl⟩, _, upd_same, kv.put k pv⟩
    · cases h
  · cases h
theorem ds_putD (i : Nat) {x : Str} {pos' : Pos} (hu : X.A.units + 64 < cLine) (hN : X.N[i]? = some x) (hv : Vis X.env.scope x) (hk : DE X true e1 fb) (he : DE X qb e fa)
    (hd : (x == ("__debug__" : Str)) = false := by decide) (hcd : (x == ("__classdict__" : Str)) = false := by decide)
    (hs : swapsWith e (some (.Subscript (.Name x npos) e1 pos')) pos.line X.env = pure false := by rfl) : DS X (.Assign [.Subscript (.Name x npos) e1 pos'] e pos) (sPutD i fb fa) := by
  obtain ⟨t, a1, a2⟩ := he.ex
  obtain ⟨u, b1, b2⟩ := hk.ex
  refine ⟨_, ps_dput (by omega) (pe_var hN hv hd hcd) b1 a1 hs, fun B H0 F0 F H σ r fl r' q j D a => ?_⟩
  simp only [sPutD, Option.bind_eq_some_iff] at q
  obtain ⟨⟨z1, r1⟩, q1, ⟨y, r2⟩, q2, c0, q3, ⟨z2, r3⟩, q4, ⟨kd, r4⟩, q5, c, q6, c', q7, q8⟩ := q
  cases q8
  refine a2 _ _ _ _ _ _ _ _ _ q1 j _ fun F1 H1 v g1 j1 k1 => ?_
  obtain ⟨F2, g2, j2, d2⟩ := toSh_ok q2 j1 k1
  obtain ⟨p, hp, ow⟩ := own_sl j2 q3
  refine ⟨_, hp, ?_⟩
  refine b2 _ _ _ _ _ _ _ _ _ q4 j2 _ fun F3 H3 w g3 j3 k3 => ?_
  obtain ⟨F4, g4, j4, d4⟩ := toSh_ok q5 j3 k3
  obtain ⟨p', hp', ow'⟩ := own_sl j4 q6
  rw [hp] at hp'; cases hp'
  obtain ⟨_, f4, od4, _⟩ := ow'.facts j4
  have g34 := g3.f.trans g4.f
  obtain ⟨o, dp, od⟩ := dput_ok od4 q7 d4 (Vp.up g34 _ _ d2) j4.fh
  have ch : Chg p F4 H3 F4 (upd H3 p o) := .at j4.fh f4
  refine ⟨p, _, rfl, dp, ?_⟩
  have ge : Ge false F H r F4 (upd H3 p o) (ownPut r4 c' (.sl i)) := (((g1.trans g2).trans g3).trans g4).trans (ch.ge (r := r4) (r' := ownPut r4 c' (.sl i)) ownPut_lent) |>.weak
  exact a F4 _ σ ge.f ge.kp (j4.chg ow' ch od)
/-! ### d.get -/
def stillB : Res → Bool
  | .sh _ => true
  | .sl _ => true
  | _ => false
theorem stillB_ok {z : Res} (h : stillB z = true) : Still z := by
  cases z <;> first | trivial | cases h
def isDc : C → Bool
  | .dk _ => true
  | .dt _ => true
  | .d _ => false
theorem isDc_ok {K : KC} {F : Fz} {H : Hp} {v : V} {c : C} (h : isDc c = true) (b : Bd K F H v c) : ∃ a, v = .ref a ∧ IsD H a := by
  cases c with
  | d x => cases h
  | dk kvs => obtain ⟨p, es, rfl, rd, _⟩ := b; exact ⟨p, rfl, .inl ⟨es, rd⟩⟩
  | dt kvs => obtain ⟨p, es, rfl, rd, _⟩ := b; exact ⟨p, rfl, .inr ⟨es, rd⟩⟩
def isDC (c : C) : Option Unit := if isDc c = true then some () else none
def isSt (z : Res) : Option Unit := if stillB z = true then some () else none
def cGetC : C → C → Option (Option D)
  | c, .d k => cGet c k
  | _, _ => none
def eGet2 (a b c : EF) : EF := fun r => (a r).bind fun p => (look p.2 p.1).bind fun u0 => (isDC u0).bind fun _ => (b p.2).bind fun q => (isSt q.1).bind fun _ => (c q.2).bind fun s => (isSt s.1).bind fun _ =>
  (look s.2 p.1).bind fun u => (look s.2 q.1).bind fun kd => (cGetC u kd).bind fun o => (toSh s.2 s.1).bind fun x => some (.sh (o.getD x.1), x.2)
def eGet1 (a b : EF) : EF := fun r => (a r).bind fun p => (look p.2 p.1).bind fun u0 => (isDC u0).bind fun _ => (b p.2).bind fun q => (isSt q.1).bind fun _ =>
  (look q.2 p.1).bind fun u => (look q.2 q.1).bind fun kd => (cGetC u kd).bind fun o => some (.sh (o.getD .none), q.2)
theorem isDC_ok {c : C} {u : Unit} (h : isDC c = some u) : isDc c = true := by
  unfold isDC at h
  split at h
  · assumption
  · cases h
theorem isSt_ok {z : Res} {u : Unit} (h : isSt z = some u) : Still z := by
  unfold isSt at h
  split at h
  · exact stillB_ok ‹_›
  · cases h
theorem cGetC_ok {K : KC} {F : Fz} {H : Hp} {v y : V} {c kd : C} {o : Option D} (g : cGetC c kd = some o) (b : Bd K F H v c) (by' : Bd K F H y kd) (e : Ex F.f H) :
    ∃ a r, v = .ref a ∧ DGet H a y r ∧ ((o = none ∧ r = none) ∨ ∃ d w, o = some d ∧ r = some w ∧ Vp K F w d) := by
  cases kd with
  | d k =>
    have g : cGet c k = some o := g
    exact dget_ok b g (cGet_key by' g) e
  | dk _ => cases g
  | dt _ => cases g
theorem de_get2 (hu : X.A.units + 64 < cLine) (ha : DE X qb e fa) (hb : DE X true e1 fb) (hc : DE X true e2 fc) (m : M2 X e "get" apos e1 e2 cpos) : DE X qb (.Call (.Attribute e "get" apos) [e1, e2] [] cpos) (eGet2 fa fb fc) := by
  obtain ⟨ta, a1, a2⟩ := ha.ex
  obtain ⟨tb, b1, b2⟩ := hb.ex
  obtain ⟨tc, c1, c2⟩ := hc.ex
  refine ⟨_, pe_dget2 (by omega) a1 b1 c1 m, fun B H0 F0 F H σ r z r' q j Q k => ?_⟩
  simp only [eGet2, Option.bind_eq_some_iff] at q
  obtain ⟨⟨z1, r1⟩, q1, u0, q2, ⟨⟩, q3, ⟨z2, r2⟩, q4, ⟨⟩, q5, ⟨z3, r3⟩, q6, ⟨⟩, q7, u, q8, kd, q9, o, q10, ⟨x, r4⟩, q11, q12⟩ := q
  cases q12
  refine a2 _ _ _ _ _ _ _ _ _ q1 j _ fun F1 H1 v g1 j1 k1 => ?_
  obtain ⟨p, rfl, isd⟩ := isDc_ok (isDC_ok q3) (k1.look j1 q2)
  refine ⟨p, rfl, isd, ?_⟩
  refine b2.around q4 j1 k1 _ fun F2 H2 y g2 j2 k2 o2 => ?_
  refine c2.around q6 j2 k2 _ fun F3 H3 w g3 j3 k3 o3 => ?_
  have o2' := o2.later (H' := H3) (r' := r3) (isSt_ok q5) g3.f
  obtain ⟨p', rr, e1', dg, hr⟩ := cGetC_ok q10 (k3.look j3 q8) (o2'.look j3 q9) j3.fh
  cases e1'
  obtain ⟨F4, g4, j4, d4⟩ := toSh_ok q11 j3 o3
  refine ⟨rr, dg, k F4 H3 _ (((g1.qt g2).qt g3).qt g4) j4 ?_⟩
  rcases hr with ⟨h1, h2⟩ | ⟨d, w', h1, h2, h3⟩
  · subst h1; subst h2
    exact d4
  · subst h1; subst h2
    exact Vp.up g4.f _ _ h3
theorem de_get1 (hu : X.A.units + 64 < cLine) (ha : DE X qb e fa) (hb : DE X true e1 fb) (m : M1 X e "get" apos e1 cpos) : DE X qb (.Call (.Attribute e "get" apos) [e1] [] cpos) (eGet1 fa fb) := by
  obtain ⟨ta, a1, a2⟩ := ha.ex
  obtain ⟨tb, b1, b2⟩ := hb.ex
  refine ⟨_, pe_dget1 (by omega) a1 b1 m, fun B H0 F0 F H σ r z r' q j Q k => ?_⟩
  simp only [eGet1, Option.bind_eq_some_iff] at q
  obtain ⟨⟨z1, r1⟩, q1, u0, q2, ⟨⟩, q3, ⟨z2, r2⟩, q4, ⟨⟩, q5, u, q8, kd, q9, o, q10, q12⟩ := q
  cases q12
  refine a2 _ _ _ _ _ _ _ _ _ q1 j _ fun F1 H1 v g1 j1 k1 => ?_
  obtain ⟨p, rfl, isd⟩ := isDc_ok (isDC_ok q3) (k1.look j1 q2)
  refine ⟨p, rfl, isd, ?_⟩
  refine b2.around q4 j1 k1 _ fun F2 H2 y g2 j2 k2 o2 => ?_
  obtain ⟨p', rr, e1', dg, hr⟩ := cGetC_ok q10 (k2.look j2 q8) (o2.look j2 q9) j2.fh
  cases e1'
  refine ⟨rr, dg, k F2 H2 _ (g1.qt g2) j2 ?_⟩
  rcases hr with ⟨h1, h2⟩ | ⟨d, w', h1, h2, h3⟩
  · subst h1; subst h2
    exact .non
  · subst h1; subst h2
    exact h3
end
end CM
end
section
set_option Elab.async false
set_option linter.all false
set_option maxRecDepth 100000
set_option autoImplicit false
namespace CM
open PySem PySem.Spec PyProof.Rows L2 PySem.SeqAt
/-! ### setdefault, pop: both kinds of dicts -/
section
variable {X : Cx}
def rSetdK : V → List V → Hp → VK → Prop := fun x xs H Q => ∃ (a : Addr) (y z : V), x = .ref a ∧ xs = [y, z] ∧ ∃ (kvs : List (Key × V)) (k : Key), H a = some (.dK kvs) ∧ y = kV k ∧ kvs.length < sizeLine ∧
  (∀ v, valV kvs k = some v → Q v H) ∧ (valV kvs k = none → Q z (upd H a (.dK (putK kvs k z))))
theorem mt_setdK : MtR X "dict.setdefault" rSetdK := by
  intro pins s σ H x xs v us Q I rx rxs h
  obtain ⟨a, y, z, rfl, rfl, kvs, k, ha, rfl, hl, q1, q2⟩ := h
  cases rx
  obtain ⟨u1, u2, rfl, r1, r2⟩ := vals2 rxs
  exact d_setd I ha r1 r2 hl (fun v hv w' s4 I4 rw' => ⟨v, _, I4, rw', q1 v hv⟩) fun hn w' s4 I4 rw' => ⟨z, _, I4, rw', q2 hn⟩
def rSetdT : V → List V → Hp → VK → Prop := fun x xs H Q => ∃ (a b : Addr) (z : V), x = .ref a ∧ xs = [.ref b, z] ∧ ∃ (kvs : List (List Key × V)) (k : List Key), H a = some (.dT kvs) ∧ H b = some (.tup (k.map kV)) ∧ kvs.length < sizeLine ∧
  (∀ v, valV kvs k = some v → Q v H) ∧ (valV kvs k = none → Q z (upd H a (.dT (putK kvs k z))))
theorem mt_setdT (hu : X.A.units + 1 < cLine) : MtR X "dict.setdefault" rSetdT := by
  intro pins s σ H x xs v us Q I rx rxs h
  obtain ⟨a, b, z, rfl, rfl, kvs, k, ha, hb, hl, q1, q2⟩ := h
  cases rx
  obtain ⟨u1, u2, rfl, r1, r2⟩ := vals2 rxs
  cases r1
  obtain ⟨zl, hd, xs', rel, dd⟩ := dt_of I.hok ha
  have hz : xs'.length ≤ sizeLine := by rw [← Paired.length rel]; exact zl
  refine call_meetsIn PySem.F.slot_dict_setdefault dd.typeIs PySem.F.entry_dict_setdefault (PySem.F.args_dict_setdefault_3 _ _ _) (meetsH_dict_setdefault (tupleKind (mixKind X.prog X.w)) a b hd u2)
    ⟨tupleKind_room_in1 hu, k, xs', key_of I.hok hb, dd, hz, fun p hp => ?_, fun hn h' dd' hs => ?_⟩
  · have r := rel.val k
    rw [hp] at r
    obtain ⟨v0, ev, rv⟩ : ∃ v0, valV kvs k = some v0 ∧ RelV v0 p.2 := by
      cases ev : valV kvs k with
      | none =>
        rw [ev] at r
        exact (show False from r).elim
      | some v0 =>
        rw [ev] at r
        exact ⟨v0, rfl, r⟩
    show EP X pins σ Q p.2 _
    exact ⟨v0, H, I.tok _, rv, q1 v0 ev⟩
  · have r := rel.val k
    rw [hn] at r
    have e : valV kvs k = none := by
      cases ev : valV kvs k with
      | none => rfl
      | some v0 =>
        rw [ev] at r
        exact (show False from r).elim
    obtain ⟨o, es, ep, hq, h2, h3, h4, _, h5⟩ := dd'
    have hl2 : (putK kvs k z).length ≤ sizeLine := by
      have := length_putK kvs k z
      omega
    have I2 : Inv X pins σ (upd H a (.dT (putK kvs k z))) { s with heap := h', toks := s.toks + (tupleKind (mixKind X.prog X.w)).draws k } :=
      d_write I (by rw [ha]; exact True.intro) hs ⟨o, hq⟩ ⟨hl2, hd, _, (rel.put k hb r2).keeps (fun c ys ec => (by rw [upd_ne (ne_of ec ha (fun z => nomatch z))]; exact ec)), o, es, ep, hq, h2, h3, h4, h5⟩
    show EP X pins σ Q u2 _
    exact ⟨z, _, I2, r2, q2 e⟩
def rPopK : V → List V → Hp → VK → Prop := fun x xs H Q => ∃ (a : Addr) (y z : V), x = .ref a ∧ xs = [y, z] ∧ ∃ (kvs : List (Key × V)) (k : Key), H a = some (.dK kvs) ∧ y = kV k ∧
  (∀ v, valV kvs k = some v → Q v (upd H a (.dK (dropK kvs k)))) ∧ (valV kvs k = none → Q z H)
theorem mt_popK : MtR X "dict.pop" rPopK := by
  intro pins s σ H x xs v us Q I rx rxs h
  obtain ⟨a, y, z, rfl, rfl, kvs, k, ha, rfl, q1, q2⟩ := h
  cases rx
  obtain ⟨u1, u2, rfl, r1, r2⟩ := vals2 rxs
  cases l : valV kvs k with
  | some v => exact d_pop I ha r1 l (.inr ⟨u2, rfl⟩) fun w' s4 I4 rw' => ⟨v, _, I4, rw', q1 v l⟩
  | none => exact d_popD I ha r1 l fun s4 I4 => ⟨z, H, I4, r2, q2 l⟩
/-- what they give and leave -/
def gSetd : C → List D → Option (Res × C)
  | .dk kvs, [y, z] => if kvs.length < 16777216 then (kOf y).bind fun k => match aGet kvs k with
    | some d => some (.sh d, .dk kvs)
    | none => some (.sh z, .dk (aPut kvs k z))
    else none
  | .dt kvs, [y, z] => if kvs.length < 16777216 then (kOfT y).bind fun k => match aGet kvs k with
    | some d => some (.sh d, .dt kvs)
    | none => some (.sh z, .dt (aPut kvs k z))
    else none
  | _, _ => none
def gPop : C → List D → Option (Res × C)
  | .dk kvs, [y, z] => (kOf y).bind fun k => match aGet kvs k with
    | some d => some (.sh d, .dk (aDrop kvs k))
    | none => some (.sh z, .dk kvs)
  | .dt kvs, [y, z] => (kOfT y).bind fun k => match aGet kvs k with
    | some d => some (.sh d, .dt (aDrop kvs k))
    | none => some (.sh z, .dt kvs)
  | _, _ => none
theorem dct_ty (F : Fz) (H : Hp) (p : Addr) (c : C) (hk : isDc c = true) (od : Od X.kc F H p c) : tyV X.K "dict" (.ref p) H := by
  cases c with
  | d x => cases hk
  | dk kvs => obtain ⟨es, he, _⟩ := od; exact .inr (.inr (.inl ⟨rfl, .inl ⟨es, he⟩⟩))
  | dt kvs => obtain ⟨es, he, _⟩ := od; exact .inr (.inr (.inl ⟨rfl, .inr ⟨es, he⟩⟩))
theorem Chg.same {p : Addr} {F : Fz} {H : Hp} (e : Ex F.f H) : Chg p F H F H := ⟨.refl _, rfl, e, fun _ _ q => .inl q, fun a u z q => q⟩
theorem dm_setd (hu : X.A.units + 64 < cLine) : DMut X "dict" "setdefault" "dict.setdefault" isDc gSetd :=
  ⟨PySem.F.plainAttrs_dict, PySem.F.slot_dict_setdefault, PySem.F.type_dict_setdefault, _, mt_setdK.or (mt_setdT (by omega)), dct_ty, fun F H p c c' xs ds z e et f od dd q Q k => by
    unfold gSetd at q
    split at q
    · rename_i kvs y w
      split at q
      · rename_i hl
        simp only [Option.bind_eq_some_iff] at q
        obtain ⟨ky, q1, q2⟩ := q
        obtain ⟨es, he, kv⟩ := od
        cases dd with
        | cons d1 d2 =>
          cases d2 with
          | cons d2 d3 =>
            cases d3
            refine .inl ⟨p, _, _, rfl, rfl, es, ky, he, key_v q1 d1, by rw [kv.length, sizeLine_eq]; exact hl, fun v hv => ?_, fun hv => ?_⟩
            · rcases kv.get ky with ⟨z1, z2⟩ | ⟨d, v', z1, z2, z3⟩
              · rw [z2] at hv; cases hv
              · rw [z2] at hv; cases hv
                rw [z1] at q2
                cases q2
                exact k F H _ (.same e) ⟨es, he, kv⟩ ⟨_, rfl, z3⟩
            · rcases kv.get ky with ⟨z1, z2⟩ | ⟨d, v', z1, z2, z3⟩
              · rw [z1] at q2
                cases q2
                exact k F _ _ (.at e f) ⟨_, upd_same, kv.put ky d2⟩ ⟨_, rfl, d2⟩
              · rw [z2] at hv; cases hv
      · cases q
    · rename_i kvs y w
      split at q
      · rename_i hl
        simp only [Option.bind_eq_some_iff] at q
        obtain ⟨ky, q1, q2⟩ := q
        obtain ⟨es, he, kv⟩ := od
        cases dd with
        | cons d1 d2 =>
          cases d2 with
          | cons d2 d3 =>
            cases d3
            obtain ⟨b, rfl, hb⟩ := keyT_v q1 d1
            refine .inr ⟨p, b, _, rfl, rfl, es, ky, he, e _ _ hb, by rw [kv.length, sizeLine_eq]; exact hl, fun v hv => ?_, fun hv => ?_⟩
            · rcases kv.get ky with ⟨z1, z2⟩ | ⟨d, v', z1, z2, z3⟩
              · rw [z2] at hv; cases hv
              · rw [z2] at hv; cases hv
                rw [z1] at q2
                cases q2
                exact k F H _ (.same e) ⟨es, he, kv⟩ ⟨_, rfl, z3⟩
            · rcases kv.get ky with ⟨z1, z2⟩ | ⟨d, v', z1, z2, z3⟩
              · rw [z1] at q2
                cases q2
                exact k F _ _ (.at e f) ⟨_, upd_same, kv.put ky d2⟩ ⟨_, rfl, d2⟩
              · rw [z2] at hv; cases hv
      · cases q
    · cases q⟩
theorem dm_pop (hu : X.A.units + 64 < cLine) : DMut X "dict" "pop" "dict.pop" isDc gPop :=
  ⟨PySem.F.plainAttrs_dict, PySem.F.slot_dict_pop, PySem.F.type_dict_pop, _, mt_popK.or (L2.DX.mt_popT (by omega)), dct_ty, fun F H p c c' xs ds z e et f od dd q Q k => by
    unfold gPop at q
    split at q
    · rename_i kvs y w
      simp only [Option.bind_eq_some_iff] at q
      obtain ⟨ky, q1, q2⟩ := q
      obtain ⟨es, he, kv⟩ := od
      cases dd with
      | cons d1 d2 =>
        cases d2 with
        | cons d2 d3 =>
          cases d3
          refine .inl ⟨p, _, _, rfl, rfl, es, ky, he, key_v q1 d1, fun v hv => ?_, fun hv => ?_⟩
          · rcases kv.get ky with ⟨z1, z2⟩ | ⟨d, v', z1, z2, z3⟩
            · rw [z2] at hv; cases hv
            · rw [z2] at hv; cases hv
              rw [z1] at q2
              cases q2
              exact k F _ _ (.at e f) ⟨_, upd_same, kv.drop ky⟩ ⟨_, rfl, z3⟩
          · rcases kv.get ky with ⟨z1, z2⟩ | ⟨d, v', z1, z2, z3⟩
            · rw [z1] at q2
              cases q2
              exact k F _ _ (.same e) ⟨_, he, kv⟩ ⟨_, rfl, d2⟩
            · rw [z2] at hv; cases hv
    · rename_i kvs y w
      simp only [Option.bind_eq_some_iff] at q
      obtain ⟨ky, q1, q2⟩ := q
      obtain ⟨es, he, kv⟩ := od
      cases dd with
      | cons d1 d2 =>
        cases d2 with
        | cons d2 d3 =>
          cases d3
          obtain ⟨b, rfl, hb⟩ := keyT_v q1 d1
          refine .inr ⟨p, es, ky, b, _, rfl, rfl, he, e _ _ hb, fun v hv => ?_, fun hv => ?_⟩
          · rcases kv.get ky with ⟨z1, z2⟩ | ⟨d, v', z1, z2, z3⟩
            · rw [z2] at hv; cases hv
            · rw [z2] at hv; cases hv
              rw [z1] at q2
              cases q2
              exact k F _ _ (.at e f) ⟨_, upd_same, kv.drop ky⟩ ⟨_, rfl, z3⟩
          · rcases kv.get ky with ⟨z1, z2⟩ | ⟨d, v', z1, z2, z3⟩
            · rw [z1] at q2
              cases q2
              exact k F _ _ (.same e) ⟨_, he, kv⟩ ⟨_, rfl, d2⟩
            · rw [z2] at hv; cases hv
    · cases q⟩
end
end CM
end
section
set_option Elab.async false
set_option linter.all false
set_option maxRecDepth 100000
set_option autoImplicit false
namespace CM
open PySem PySem.Spec PyProof.Rows L2 PySem.SeqAt PySem.W
/-! ### what a dict's object holds -/
section
variable {X : Cx} {pins : List (Addr × Obj)} {σ : L2.St} {H : Hp} {s : Shared} {a : Addr}
/-- the dict at a, its values -/
def ValsAt (H : Hp) (a : Addr) (vs : List V) : Prop := (∃ kvs : List (Key × V), Rd H a (.dK kvs) ∧ vs = kvs.map (·.2)) ∨ ∃ kvs : List (List Key × V), Rd H a (.dT kvs) ∧ vs = kvs.map (·.2)
theorem ValsAt.isD {vs : List V} (h : ValsAt H a vs) : IsD H a := h.imp (fun ⟨k, e, _⟩ => ⟨k, e⟩) fun ⟨k, e, _⟩ => ⟨k, e⟩
theorem ValsAt.up {H' : Hp} {vs : List V} (h : ValsAt H a vs) (e : Ex H H') : ValsAt H' a vs := h.imp (fun ⟨k, r, q⟩ => ⟨k, e.rd r, q⟩) fun ⟨k, r, q⟩ => ⟨k, e.rd r, q⟩
theorem raw_k (I : Inv X pins σ H s) {kvs : List (Key × V)} (e : Rd H a (.dK kvs)) : ∃ es ep, s.heap.DictRaw a es ep ∧ (a == sysModules) = false ∧ es.size = kvs.length ∧ es.size ≤ sizeLine ∧
    ∀ i (hi : i < es.size), ∃ p, kvs[i]? = some p ∧ RelV (kV p.1) es[i].key ∧ RelV p.2 es[i].val := by
  obtain ⟨z, hd, vs, rel, dd⟩ := dk_rd I.hok e
  obtain ⟨es, ep, raw, sz, at'⟩ := dd.raw
  have l := rel.length
  refine ⟨es, ep, raw, hd, by omega, by omega, fun i hi => ?_⟩
  have hk : kvs[i]? = some (kvs[i]'(by omega)) := List.getElem?_eq_getElem _
  obtain ⟨q, e1, e2, e3⟩ := LiI.paired_get rel hk
  obtain ⟨g1, g2⟩ := at' i hi q.1 q.2 e1
  refine ⟨_, hk, ?_, ?_⟩
  · rw [e2]; exact relV_key g1
  · rw [g2]; exact e3
theorem raw_t (I : Inv X pins σ H s) {kvs : List (List Key × V)} (e : Rd H a (.dT kvs)) : ∃ es ep, s.heap.DictRaw a es ep ∧ (a == sysModules) = false ∧ es.size = kvs.length ∧ es.size ≤ sizeLine ∧
    ∀ i (hi : i < es.size), ∃ p, kvs[i]? = some p ∧ RelV p.2 es[i].val := by
  obtain ⟨z, hd, xs, rel, o, es, ep, h1, h2, h3, h4, _⟩ := dt_rd I.hok e
  have l : kvs.length = xs.length := Paired.length rel
  have sz : es.size = xs.length := by rw [← Array.length_toList, h4, List.length_map]
  refine ⟨es, ep, ⟨o, h1, h2, h3⟩, hd, by omega, by omega, fun i hi => ?_⟩
  have hk : kvs[i]? = some (kvs[i]'(by omega)) := List.getElem?_eq_getElem _
  obtain ⟨q, e1, _, _, e3⟩ := LiI.paired_get rel hk
  have := entry_at h4 i
  rw [e1, Array.getElem?_eq_getElem hi] at this
  have this : es[i] = entryOfKey _ q := Option.some.inj this
  exact ⟨_, hk, by rw [this]; exact e3⟩
theorem vals_raw (I : Inv X pins σ H s) {vs : List V} (h : ValsAt H a vs) : ∃ es ep, s.heap.DictRaw a es ep ∧ (a == sysModules) = false ∧ es.size = vs.length ∧ es.size ≤ sizeLine ∧ ∀ i (hi : i < es.size), ∃ v, vs[i]? = some v ∧ RelV v es[i].val := by
  rcases h with ⟨kvs, e, rfl⟩ | ⟨kvs, e, rfl⟩
  · obtain ⟨es, ep, r, h1, h2, h3, h4⟩ := raw_k I e
    refine ⟨es, ep, r, h1, by rw [List.length_map]; exact h2, h3, fun i hi => ?_⟩
    obtain ⟨p, e1, _, e2⟩ := h4 i hi
    exact ⟨p.2, by rw [List.getElem?_map, e1]; rfl, e2⟩
  · obtain ⟨es, ep, r, h1, h2, h3, h4⟩ := raw_t I e
    refine ⟨es, ep, r, h1, by rw [List.length_map]; exact h2, h3, fun i hi => ?_⟩
    obtain ⟨p, e1, e2⟩ := h4 i hi
    exact ⟨p.2, by rw [List.getElem?_map, e1]; rfl, e2⟩
theorem vals_at : ∀ {vs : List V} {us : List Value}, us.length = vs.length → (∀ (i : Nat) (u : Value), us[i]? = some u → ∃ v, vs[i]? = some v ∧ RelV v u) → Vals vs us
  | [], [], _, _ => .nil
  | [], _ :: _, l, _ => by cases l
  | _ :: _, [], l, _ => by cases l
  | v :: vs, u :: us, l, h => by
    obtain ⟨v', e, r⟩ := h 0 u rfl
    cases e
    exact .cons r (vals_at (by simpa using l) fun i u q => h (i + 1) u q)
/-! ### the view d.values() -/
def valuesO (p d : Addr) : HO := .ext fun h => h.IsValuesView p d
def rValsD : V → List V → Hp → VK → Prop := fun x xs H Q => ∃ a, x = .ref a ∧ xs = [] ∧ IsD H a ∧ ∀ p, H p = none → Q (.ref p) (upd H p (valuesO p a))
theorem mt_valsD : MtR X "dict.values" rValsD := by
  intro pins s σ H x xs v us Q I rx rxs h
  obtain ⟨a, rfl, rfl, d, q⟩ := h
  cases rx
  cases rxs
  obtain ⟨t1, _, hd⟩ := isD_at I d
  have raw : ∃ es ep, s.heap.DictRaw a es ep := by
    rcases d with ⟨kvs, e⟩ | ⟨kvs, e⟩
    · obtain ⟨es, ep, r, _⟩ := raw_k I e; exact ⟨es, ep, r⟩
    · obtain ⟨es, ep, r, _⟩ := raw_t I e; exact ⟨es, ep, r⟩
  refine call_meetsIn PySem.F.slot_dict_values t1 PySem.F.entry_dict_values (PySem.F.args_dict_values_1 _) (meets_dict_values_raw a hd) ⟨raw, ?_⟩
  have hf : H s.heap.objs.size = none := I.hok.fresh (Nat.le_refl _)
  have e : (s.heap.push { cls := .type "dict_values", data := .fields #[.ref a] }).get? s.heap.objs.size = some { cls := .type "dict_values", data := .fields #[.ref a] } := Heap.get?_push_size _ rfl
  exact ⟨.ref s.heap.objs.size, upd H s.heap.objs.size (valuesO s.heap.objs.size a), I.laid (t' := s.toks) (fun b u e => Heap.get?_push_of_some _ e) (Nat.le_refl _) ⟨⟨_, e, rfl, rfl⟩, ⟨_, e⟩, fun h1 h2 x k => let ⟨o, ho, r⟩ := x; ⟨o, k o ho, r⟩⟩, rfl, q _ hf⟩
/-- a method of a dict without arguments -/
def tDM0 (r : V → List V → Hp → VK → Prop) (to : TE) : TE := fun σ H Q => to σ H fun x H1 => (∃ a, x = .ref a ∧ IsD H1 a) ∧ r x [] H1 Q
theorem pe_dm0 {name : Str} {id : String} {o : Expr} {to : TE} {r : V → List V → Hp → VK → Prop} {apos cpos : Pos} (slot : PySem.Slot "dict" name id) (hty : typeOf (.builtin id) = pure (.type "method_descriptor")) (hm : MtR X id r) (ho : PE X o to)
    (hbase : attributeBase o name X.env (eval o X.env) = eval o X.env := by rfl) (hline : (apos.endLine == cpos.line) = true := by rfl) : PE X (.Call (.Attribute o name apos) [] [] cpos) (tDM0 r to) := by
  refine ⟨fun pins s σ H Q I h => ?_⟩
  refine wpAny_Call_method0_late hbase hline (thn (ho.run pins s σ H _ I h) fun v s1 ⟨x, H1, I1, r1, ⟨a, ex, d⟩, q1⟩ => ?_)
  subst ex
  obtain rfl : v = Value.ref a := r1
  obtain ⟨t1, t2, _⟩ := isD_at I1 d
  exact ⟨"dict", id, PySem.F.plainAttrs_dict, slot, hty, t1, t2, Calls.callWith_builtin rfl (PySem.evalArgs_none (hm pins s1 σ H1 (.ref a) [] (.ref a) [] Q I1 (show RelV (.ref a) (.ref a) from rfl) .nil q1))⟩
/-- list(d.values()) -/
def rListVals : List V → Hp → VK → Prop := fun xs H Q => ∃ p a vs, xs = [.ref p] ∧ H p = some (valuesO p a) ∧ ValsAt H a vs ∧ ∀ l, H l = none → Q (.ref l) (upd H l (.lst vs))
theorem cr_listVals (hc : X.calm = true) : CallR X (.type "list") rListVals := by
  intro pins s σ H xs us Q I rxs h
  obtain ⟨p, a, vs, rfl, hp, hv, q⟩ := h
  rw [Vals.ref1 rxs]
  obtain ⟨es, ep, raw, hd, sz, sl, at'⟩ := vals_raw I hv
  have view : s.heap.IsValuesView p a := (I.hok p _ hp).1
  refine kdl_call (KdlSrc.rawValues (r := p) (d := a) (es := es) (ep := ep)) (I.ok.hd hc) ⟨view, raw⟩ sl fun h' tk acc c hk hS hi => ?_
  have hf : H s.heap.objs.size = none := I.hok.fresh (Nat.le_refl _)
  have va : Vals vs acc.toList := vals_at (by rw [Array.length_toList, hi.1, sz]) fun i u e => by
    obtain ⟨hi', e2⟩ := hi.2 i u (by rw [← Array.getElem?_toList]; exact e)
    obtain ⟨v, e3, e4⟩ := at' i hi'
    exact ⟨v, e3, by rw [e2]; exact e4⟩
  refine ⟨.ref s.heap.objs.size, upd H s.heap.objs.size (.lst vs), I.laid hk (Nat.le_refl _) ⟨by rw [← sz]; exact sl, acc.toList, c, va, by rw [Array.toArray_toList]; exact hS⟩, rfl, q _ hf⟩
end
end CM
end
section
set_option Elab.async false
set_option linter.all false
set_option maxRecDepth 100000
set_option autoImplicit false
namespace CM
open PySem PySem.Spec PyProof.Rows L2 PySem.SeqAt PySem.W
/-- the values of a dict -/
def valsC : C → Option (List D)
  | .dk kvs => some (kvs.map (·.2))
  | .dt kvs => some (kvs.map (·.2))
  | _ => none
theorem KVs.vals {K : KC} {F : Fz} {κ : Type} {es : List (κ × V)} {kvs : List (κ × D)} (h : KVs K F es kvs) : VpAll K F (es.map (·.2)) (kvs.map (·.2)) := by
  induction h with
  | nil => exact .nil
  | @cons e q es qs h t ih => rw [List.map_cons, List.map_cons]; exact .cons h.2 ih
theorem vals_bd {K : KC} {F : Fz} {H : Hp} {v : V} {c : C} {ds : List D} (b : Bd K F H v c) (q : valsC c = some ds) : ∃ a vs, v = .ref a ∧ ValsAt H a vs ∧ VpAll K F vs ds := by
  cases c with
  | d x => cases q
  | dk kvs =>
    cases q
    obtain ⟨p, es, rfl, rd, kv⟩ := b
    exact ⟨p, _, rfl, .inl ⟨es, rd, rfl⟩, kv.vals⟩
  | dt kvs =>
    cases q
    obtain ⟨p, es, rfl, rd, kv⟩ := b
    exact ⟨p, _, rfl, .inr ⟨es, rd, rfl⟩, kv.vals⟩
def gListV (c : C) : Option Res := (valsC c).bind fun ds => some (.fr (.d (.list ds)))
section
variable {X : Cx} {e : Expr} {fa : EF} {qb : Bool} {p pos apos cpos : Pos}
theorem de_listV (hc : X.calm = true) (ha : DE X qb e fa) (hg : Gl X "list") (hm : X.mg "list" = none) (hv : bootBuiltins "list" = some (.type "list"))
    (hbase : attributeBase e "values" X.env (eval e X.env) = eval e X.env := by rfl) (hline : (apos.endLine == cpos.line) = true := by rfl)
    (he : starEach [.Call (.Attribute e "values" apos) [] [] cpos] X.env = (false, eval (.Call (.Attribute e "values" apos) [] [] cpos) X.env) :: starEach [] X.env := by rfl) (hpl : (backTo pos (starEach [] X.env)).any (·.1) = false := by rfl) :
    DE X qb (.Call (.Name "list" p) [.Call (.Attribute e "values" apos) [] [] cpos] [] pos) (eUn gListV fa) := by
  obtain ⟨t, a1, a2⟩ := ha.ex
  refine ⟨_, pe_callTy (cr_listVals hc) hg hm hv (pa_cons (pe_dm0 PySem.F.slot_dict_values PySem.F.type_dict_values mt_valsD a1 hbase hline) pa_nil he) (by decide) (by decide) he hpl, fun B H0 F0 F H σ r z r' q j Q k => ?_⟩
  simp only [eUn, gListV, Option.bind_eq_some_iff] at q
  obtain ⟨⟨z1, r1⟩, q1, u, q2, w, ⟨ds, q3, q4⟩, q5⟩ := q
  cases q4
  cases q5
  refine a2 _ _ _ _ _ _ _ _ _ q1 j _ fun F1 H1 v g1 j1 k1 => ?_
  obtain ⟨a, vs, rfl, va, vp⟩ := vals_bd (k1.look j1 q2) q3
  refine ⟨⟨a, rfl, va.isD⟩, a, rfl, rfl, va.isD, fun n hn => ?_⟩
  refine ⟨n, a, vs, rfl, upd_same, va.up (.new hn), fun l hl => ?_⟩
  have ga : Grow F1 H1 F1 (upd H1 n (valuesO n a)) := .lay j1.fh hn
  have j2 := j1.grow ga
  have gb : Grow F1 (upd H1 n (valuesO n a)) F1 (upd (upd H1 n (valuesO n a)) l (.lst vs)) := .lay j2.fh hl
  have ht : F1.t l = none := by
    cases w : F1.t l with
    | none => rfl
    | some u => exact absurd hl (j2.so.sep l u w).2.1
  exact k _ _ _ ((g1.qt ga.ge).qt gb.ge) (j2.grow gb) (RetOk.res j2 gb ⟨l, rfl, hl, j2.fh.back hl, ht, vs, upd_same, vp⟩)
end
end CM
end
section
set_option Elab.async false
set_option linter.all false
set_option maxRecDepth 100000
set_option autoImplicit false
namespace CM
open PySem
section
variable {r : Env} {i : Nat} {a b c k v : EF}
@[simp] theorem ev_newK : eNewK r = some (.fr (.dk []), r) := rfl
@[simp] theorem ev_newT : eNewT r = some (.fr (.dt []), r) := rfl
@[simp] theorem ev_putD : sPutD i k v r = (v r).bind fun p => (toSh p.2 p.1).bind fun y => (ownAt y.2 (.sl i)).bind fun _ => (k y.2).bind fun s => (toSh s.2 s.1).bind fun z => (ownAt z.2 (.sl i)).bind fun c => (cPut c z.1 y.1).bind fun c' => some (.nx, ownPut z.2 c' (.sl i)) := rfl
@[simp] theorem ev_get2 : eGet2 a b c r = (a r).bind fun p => (look p.2 p.1).bind fun u0 => (isDC u0).bind fun _ => (b p.2).bind fun q => (isSt q.1).bind fun _ => (c q.2).bind fun s => (isSt s.1).bind fun _ =>
  (look s.2 p.1).bind fun u => (look s.2 q.1).bind fun kd => (cGetC u kd).bind fun o => (toSh s.2 s.1).bind fun x => some (.sh (o.getD x.1), x.2) := rfl
@[simp] theorem ev_get1 : eGet1 a b r = (a r).bind fun p => (look p.2 p.1).bind fun u0 => (isDC u0).bind fun _ => (b p.2).bind fun q => (isSt q.1).bind fun _ =>
  (look q.2 p.1).bind fun u => (look q.2 q.1).bind fun kd => (cGetC u kd).bind fun o => some (.sh (o.getD .none), q.2) := rfl
@[simp] theorem isDC_k (kvs : List (Ky × D)) : isDC (.dk kvs) = some () := rfl
@[simp] theorem isDC_t (kvs : List (List Ky × D)) : isDC (.dt kvs) = some () := rfl
@[simp] theorem isSt_sh (x : D) : isSt (.sh x) = some () := rfl
@[simp] theorem isSt_sl (i : Nat) : isSt (.sl i) = some () := rfl
@[simp] theorem cGetC_d (c : C) (x : D) : cGetC c (.d x) = cGet c x := rfl
@[simp] theorem cGet_ks (kvs : List (Ky × D)) (x : Str) : cGet (.dk kvs) (.str x) = some (aGet kvs (.inr x)) := rfl
@[simp] theorem cGet_ki (kvs : List (Ky × D)) (x : Int) : cGet (.dk kvs) (.int x) = some (aGet kvs (.inl x)) := rfl
@[simp] theorem cPut_ks {kvs : List (Ky × D)} (h : kvs.length < 16777216) (x : Str) (d : D) : cPut (.dk kvs) (.str x) d = some (.dk (aPut kvs (.inr x) d)) := if_pos h
@[simp] theorem cPut_ki {kvs : List (Ky × D)} (h : kvs.length < 16777216) (x : Int) (d : D) : cPut (.dk kvs) (.int x) d = some (.dk (aPut kvs (.inl x) d)) := if_pos h
/-- a name's key -/
def nmK (h : Str) (n : Int) : List Ky := [.inr h, .inl n]
theorem kOfT_nm {h : Str} {n : Int} (e : h.cps.size ≠ 0) : kOfT (.tuple [.str h, .int n]) = some (nmK h n) := by
  have : cstD [.str h, .int n] = false := rfl
  show (if (cstD [.str h, .int n] || false) = true then none else _) = _
  rw [this]
  rfl
@[simp] theorem cGet_tn {kvs : List (List Ky × D)} {h : Str} {n : Int} (e : h.cps.size ≠ 0) : cGet (.dt kvs) (.tuple [.str h, .int n]) = some (aGet kvs (nmK h n)) := rfl
@[simp] theorem cPut_tn {kvs : List (List Ky × D)} (hl : kvs.length < 16777216) {h : Str} {n : Int} (e : h.cps.size ≠ 0) (d : D) : cPut (.dt kvs) (.tuple [.str h, .int n]) d = some (.dt (aPut kvs (nmK h n) d)) := by
  show (if kvs.length < 16777216 then _ else none) = _
  rw [if_pos hl]
  rfl
@[simp] theorem gIxA_d (x : D) (y : C) : gIxA (.d x) y = gIx (.d x) y := rfl
@[simp] theorem gIxA_k (kvs : List (Ky × D)) (x : D) : gIxA (.dk kvs) (.d x) = (cGet (.dk kvs) x).bind fun o => o.bind fun v => some (.sh v) := rfl
@[simp] theorem gIxA_t (kvs : List (List Ky × D)) (x : D) : gIxA (.dt kvs) (.d x) = (cGet (.dt kvs) x).bind fun o => o.bind fun v => some (.sh v) := rfl
@[simp] theorem gInA_k (kvs : List (Ky × D)) (x : D) : gInA (.d x) (.dk kvs) = (cGet (.dk kvs) x).bind fun o => shB o.isSome := rfl
@[simp] theorem gInA_t (kvs : List (List Ky × D)) (x : D) : gInA (.d x) (.dt kvs) = (cGet (.dt kvs) x).bind fun o => shB o.isSome := rfl
@[simp] theorem gNotInA_k (kvs : List (Ky × D)) (x : D) : gNotInA (.d x) (.dk kvs) = (cGet (.dk kvs) x).bind fun o => shB (!o.isSome) := rfl
@[simp] theorem gNotInA_t (kvs : List (List Ky × D)) (x : D) : gNotInA (.d x) (.dt kvs) = (cGet (.dt kvs) x).bind fun o => shB (!o.isSome) := rfl
@[simp] theorem gListV_k (kvs : List (Ky × D)) : gListV (.dk kvs) = some (.fr (.d (.list (kvs.map (·.2))))) := rfl
@[simp] theorem gListV_t (kvs : List (List Ky × D)) : gListV (.dt kvs) = some (.fr (.d (.list (kvs.map (·.2))))) := rfl
@[simp] theorem isDc_k (kvs : List (Ky × D)) : isDc (.dk kvs) = true := rfl
@[simp] theorem isDc_t (kvs : List (List Ky × D)) : isDc (.dt kvs) = true := rfl
end
/-! ### tables -/
section
variable {κ : Type} [DecidableEq κ]
theorem aGet_map (k j : κ) (d : D) : ∀ kvs : List (κ × D), aGet (kvs.map fun e => if e.1 = k then (e.1, d) else e) j = (aGet kvs j).map fun x => if j = k then d else x
  | [] => rfl
  | e :: r => by
    rw [List.map_cons]
    by_cases h : e.1 = k
    · rw [if_pos h]
      by_cases h2 : e.1 = j
      · rw [aGet_pos (e := (e.1, d)) h2, aGet_pos h2, Option.map_some, if_pos (h2.symm.trans h)]
      · rw [aGet_neg (e := (e.1, d)) h2, aGet_neg h2, aGet_map k j d r]
    · rw [if_neg h]
      by_cases h2 : e.1 = j
      · rw [aGet_pos h2, aGet_pos h2, Option.map_some, if_neg (fun z => h (h2.trans z))]
      · rw [aGet_neg h2, aGet_neg h2, aGet_map k j d r]
theorem aGet_app (kvs r : List (κ × D)) (j : κ) : aGet (kvs ++ r) j = (aGet kvs j).or (aGet r j) := by
  induction kvs with
  | nil => rfl
  | cons e q ih =>
    rw [List.cons_append]
    by_cases h : e.1 = j
    · rw [aGet_pos h, aGet_pos h]; rfl
    · rw [aGet_neg h, aGet_neg h, ih]
theorem any_aGet (kvs : List (κ × D)) (k : κ) : (kvs.any fun e => decide (e.1 = k)) = (aGet kvs k).isSome := by
  induction kvs with
  | nil => rfl
  | cons e q ih =>
    rw [List.any_cons, ih]
    by_cases h : e.1 = k
    · rw [aGet_pos h]; simp [h]
    · rw [aGet_neg h]; simp [h]
theorem aGet_put (kvs : List (κ × D)) (k j : κ) (d : D) : aGet (aPut kvs k d) j = if j = k then some d else aGet kvs j := by
  unfold aPut
  rw [any_aGet]
  by_cases h : (aGet kvs k).isSome = true
  · rw [if_pos h, aGet_map]
    by_cases e : j = k
    · subst e
      obtain ⟨x, hx⟩ := Option.isSome_iff_exists.mp h
      rw [hx]; simp
    · rw [if_neg e]
      cases aGet kvs j <;> simp [e]
  · rw [if_neg h, aGet_app]
    have hn : aGet kvs k = none := by simpa using h
    by_cases e : j = k
    · subst e
      rw [hn, if_pos rfl, aGet_pos (e := (j, d)) rfl]; rfl
    · rw [if_neg e, aGet_neg (e := (k, d)) (fun z => e z.symm)]
      cases aGet kvs j <;> rfl
theorem aPut_len (kvs : List (κ × D)) (k : κ) (d : D) : (aPut kvs k d).length ≤ kvs.length + 1 := by
  unfold aPut
  split
  · simp
  · simp
end
end CM
end
section
set_option Elab.async false
set_option linter.all false
set_option maxRecDepth 100000
set_option autoImplicit false
namespace CM
open PySem PySem.Spec PyProof.Rows L2
def memK (ks : List Key) (j : Key) : Bool := ks.any fun x => decide (x = j)
theorem memK_iff {ks : List Key} {j : Key} : memK ks j = true ↔ j ∈ ks := by
  unfold memK
  rw [List.any_eq_true]
  exact ⟨fun ⟨x, h, e⟩ => by rw [← of_decide_eq_true e]; exact h, fun h => ⟨j, h, decide_eq_true rfl⟩⟩
/-! ### sets of ints and texts, by their rows -/
/-- a set's rows, as they stand; the table can be walked -/
structure RawS (w : World) (h : Heap) (a : Addr) (es : List (Int × Value)) : Prop where
  ex : ∃ o ea ep t, h.get? a = some o ∧ o.ExactSet ∧ o.data = .set ea ep t ∧ ea.toList = es ∧ t.fits ea.size = true ∧ Ris t.place.toList ∧ (w.params.followText "set-order" = true ∨ t.led = true)
  few : es.length < scanBound
/-- each row holds a key, by the key's hash -/
def RowK (w : World) (es : List (Int × Value)) (ks : List Key) : Prop := Paired (fun e k => keyIs k e.2 = true ∧ e.1 = keyH w k) es ks
section
variable {P : Program} {w : World} {A : Around} {E : Value → Shared → Prop} {s : Shared} {h h' : Heap} {a : Addr} {es : List (Int × Value)} {ks : List Key}
theorem RawS.at (R : RawS w h a es) (k : ∀ o, h.get? a = some o → h'.get? a = some o) : RawS w h' a es := by
  obtain ⟨⟨o, ea, ep, t, ho, r⟩, f⟩ := R
  exact ⟨⟨o, ea, ep, t, k o ho, r⟩, f⟩
theorem keyIs_inj {j k : Key} {v : Value} (h : keyIs j v = true) (g : keyIs k v = true) : j = k := by
  rcases keyIs_shape h with ⟨i, t, rfl, rfl⟩ | ⟨x, t, rfl, rfl⟩ <;> rcases keyIs_shape g with ⟨i', t', rfl, z⟩ | ⟨x', t', rfl, z⟩ <;> cases z <;> rfl
theorem key_scans {k : Key} {v : Value} (h : keyIs k v = true) : v.scannable = true := by
  rcases keyIs_shape h with ⟨i, t, rfl, rfl⟩ | ⟨x, t, rfl, rfl⟩
  · rfl
  · rfl
theorem RowK.elems (R : RowK w es ks) : ElemsOf (mixKind P w) es := fun e he => by
  obtain ⟨_, k, _, _, h⟩ := LiI.paired_ix R he
  exact ⟨⟨k, h⟩, key_scans h.1⟩
theorem RowK.has (R : RowK w es ks) (k : Key) : (∃ e ∈ es, keyIs k e.2 = true) ↔ k ∈ ks := by
  constructor
  · rintro ⟨e, he, q⟩
    obtain ⟨_, j, _, hj, h⟩ := LiI.paired_ix R he
    have : j = k := keyIs_inj h.1 q
    rw [← this]
    exact List.mem_of_getElem? hj
  · intro hk
    obtain ⟨i, hi⟩ := List.mem_iff_getElem?.mp hk
    have hl : es.length = ks.length := Paired.length R
    have hi' : i < es.length := by rw [hl]; exact (List.getElem?_eq_some_iff.mp hi).1
    obtain ⟨j, hj, h⟩ := LiI.paired_get R (List.getElem?_eq_getElem hi')
    rw [hi] at hj
    cases hj
    exact ⟨_, List.getElem_mem hi', h.1⟩
/-- rows in another turn -/
theorem RowK.perm {es' : List (Int × Value)} (p : es'.Perm es) : ∀ {ks : List Key}, RowK w es ks → ∃ ks', RowK w es' ks' ∧ ks'.Perm ks := by
  induction p with
  | nil => exact fun {ks} R => ⟨ks, R, .refl _⟩
  | @cons x l1 l2 _ ih =>
    intro ks R
    cases R with
    | cons h t =>
      obtain ⟨ks', r, q⟩ := ih t
      exact ⟨_, .cons h r, .cons _ q⟩
  | swap x y l =>
    intro ks R
    cases R with
    | cons h t =>
      cases t with
      | cons h' t' => exact ⟨_, .cons h' (.cons h t'), .swap _ _ _⟩
  | trans _ _ i1 i2 =>
    intro ks R
    obtain ⟨k1, r1, p1⟩ := i2 R
    obtain ⟨k2, r2, p2⟩ := i1 r1
    exact ⟨k2, r2, p2.trans p1⟩
/-- rows and a table are stored -/
theorem raw_put (R : RawS w s.heap a es) {ea : Array (Int × Value)} {t : SetTable} {Q : Unit → Shared → Prop} (few : ea.size < scanBound) (fit : t.fits ea.size = true) (ris : Ris t.place.toList) (led : w.params.followText "set-order" = true ∨ t.led = true)
    (k : ∀ h', Heap.SameBut a s.heap h' → RawS w h' a ea.toList → Q () { s with heap := h' }) : wpAny (model P w) A (storeSet a ea t) Q E s := by
  obtain ⟨⟨o, _, _, _, ho, hx, hd, _⟩, _⟩ := R
  exact wpAny_storeSet_of ho hd (k _ (Heap.SameBut.update s.heap a (Obj.putSet ea t)) ⟨⟨_, ea, _, t, store_at ho hd, hx, rfl, rfl, fit, ris, led⟩, by rw [Array.length_toList]; exact few⟩) (fits_of_scanBound few)
/-- .. and laid anew where the table has become too full -/
theorem raw_grow (R : RawS w s.heap a es) {ea : Array (Int × Value)} {t : SetTable} {c : Bool} {gave : Bool → Sem Unit} {Q : Option Bool → Shared → Prop} (few : ea.size < scanBound) (fit : t.fits ea.size = true) (ris : Ris t.place.toList) (led : w.params.followText "set-order" = true ∨ t.led = true)
    (hg : ∀ (b : Bool) (s₁ : Shared) (Z : Unit → Shared → Prop), Z () s₁ → wpAny (model P w) A (gave b) Z E s₁) (k : ∀ h' es', Heap.SameBut a s.heap h' → es'.Perm ea.toList → RawS w h' a es' → Q (some true) { s with heap := h' }) :
    wpAny (model P w) A (storeSet a ea t >>= fun _ => if c = true then (gave (relayAll t ea (SetTable.grown ea.size)).2.2 >>= fun _ => storeSet a (relayAll t ea (SetTable.grown ea.size)).1 (relayAll t ea (SetTable.grown ea.size)).2.1 >>= fun _ => pure (some true)) else pure (some true)) Q E s := by
  refine wpAny_bind (raw_put R few fit ris led fun h1 b1 R1 => ?_)
  cases c with
  | false =>
    rw [if_neg Bool.false_ne_true]
    exact wpAny_pure (k h1 _ b1 (.refl _) R1)
  | true =>
    rw [if_pos rfl]
    have p := relayAll_perm t ea (SetTable.grown ea.size)
    have z : (relayAll t ea (SetTable.grown ea.size)).1.size = ea.size := by
      have := p.length_eq
      rwa [Array.length_toList, Array.length_toList] at this
    refine wpAny_bind (hg _ _ _ (wpAny_bind (raw_put (s := { s with heap := h1 }) R1 (by rw [z]; exact few) (relayAll_fits t ea _) (relayAll_ris t ea _) (led.imp id fun y => by rw [relayAll_led]; exact y) fun h2 b2 R2 => ?_)))
    exact wpAny_pure (k h2 _ (b1.trans b2) p R2)
/-- a key is added: its row is there, or comes to it -/
theorem raw_add {k : Key} {v : Value} {Q : Bool → Shared → Prop} (hk : keyIs k v = true) (R : RawS w s.heap a es) (K : RowK w es ks) (room : es.length + 1 < scanBound)
    (here : k ∈ ks → Q false s) (more : k ∉ ks → ∀ h' es', Heap.SameBut a s.heap h' → es'.Perm ((keyH w k, v) :: es) → RawS w h' a es' → Q true { s with heap := h' }) :
    wpAny (model P w) A (setAddHashed a v (keyH w k)) Q E s := by
  have key : (mixKind P w).is k v = true := hk
  have scan := key_scans hk
  obtain ⟨⟨o, ea, ep, t, ho, hx, hd, rfl, fit, ris, led⟩, few⟩ := id R
  have few' : ea.size < scanBound := by rw [← Array.length_toList]; exact few
  have el : ElemsOf (mixKind P w) ea.toList := K.elems
  have gv : ∀ (b : Bool) (s₁ : Shared) (Z : Unit → Shared → Prop), Z () s₁ → wpAny (model P w) A (match b with | true => rule "set.scan.the-table-gave-way" | false => pure ()) Z E s₁ := by
    intro b s₁ Z z
    cases b
    · exact wpAny_pure z
    · exact wpAny_rule z
  unfold setAddHashed setAddHashedIn setAddByScan
  refine wpAny_holding (wpAny_bind (wpAny_setState_of ho hd fit ?_))
  simp only [byScan_of scan few' el, ↓reduceIte]
  refine wpAny_bind (wpAny_bind (wpAny_rule (wpAny_bind (wpAny_setScan_of key ho hd fit el ?_))))
  cases at' : ea.toList.findIdx? fun e => (mixKind P w).is k e.2 with
  | some j =>
    obtain ⟨hj, pj, _⟩ := List.findIdx?_eq_some_iff_getElem.mp at'
    exact wpAny_pure (wpAny_pure (here ((K.has k).mp ⟨_, List.getElem_mem hj, pj⟩)))
  | none =>
    have out : k ∉ ks := fun z => by
      obtain ⟨e, he, q⟩ := (K.has k).mpr z
      have c := List.findIdx?_eq_none_iff.mp at' e he
      have q : (mixKind P w).is k e.2 = true := q
      rw [q] at c
      cases c
    have pm : (layNew t ea (keyH w k) v).1.toList.Perm ((keyH w k, v) :: ea.toList) := by
      have := layNew_perm t ea (keyH w k) v
      rw [Array.toList_push] at this
      exact this.trans (List.perm_append_singleton _ _)
    have fit1 := layNew_fits t ea (keyH w k) v
    have ris1 := layNew_ris t ea (keyH w k) v ris
    have led1 : w.params.followText "set-order" = true ∨ (layNew t ea (keyH w k) v).2.1.led = true := led.imp id fun z => by rw [layNew_led]; exact z
    dsimp only at fit1 ⊢
    revert pm fit1 ris1 led1
    generalize layNew t ea (keyH w k) v = y
    obtain ⟨ea1, t1, dum, gave⟩ := y
    intro pm fit1 ris1 led1
    dsimp only at pm fit1 ris1 led1 ⊢
    have few1 : ea1.size < scanBound := by
      have := pm.length_eq
      rw [Array.length_toList, List.length_cons] at this
      omega
    refine wpAny_bind (gv _ _ _ ?_)
    split
    · refine wpAny_bind ?_
      rw [hashByValue_scannable 8 scan]
      refine wpAny_pure (raw_grow R few1 ?_ ?_ ?_ gv fun h' es' b p r => ?_)
      · first | exact fit1 | (split <;> first | exact fit1 | exact SetTable.fits_plain_off fit1)
      · first | exact ris1 | (split <;> exact ris1)
      · first | exact led1 | (split <;> exact led1)
      · exact wpAny_pure (more out h' es' b (p.trans pm) r)
    · refine wpAny_bind (wpAny_pure ?_)
      simp only [↓reduceIte]
      exact raw_grow R few1 fit1 ris1 led1 gv fun h' es' b p r => wpAny_pure (more out h' es' b (p.trans pm) r)
end
end CM
end
section
set_option Elab.async false
set_option linter.all false
set_option maxRecDepth 100000
set_option autoImplicit false
namespace CM
open PySem PySem.Spec PyProof.Rows L2
/-! ### sorted(set(list)) -/
theorem sorted_perm_eq {α : Type} {le : α → α → Bool} (anti : ∀ a b, le a b = true → le b a = true → a = b) : ∀ {l m : List α}, l.Pairwise (fun a b => le a b = true) → m.Pairwise (fun a b => le a b = true) → l.Perm m → l = m
  | [], m, _, _, p => by rw [List.Perm.nil_eq p]
  | a :: l, [], _, _, p => by cases p.length_eq
  | a :: l, b :: m, hl, hm, p => by
    obtain ⟨l1, l2⟩ := List.pairwise_cons.mp hl
    obtain ⟨m1, m2⟩ := List.pairwise_cons.mp hm
    have e : a = b := by
      have ha : a ∈ b :: m := p.mem_iff.mp List.mem_cons_self
      have hb : b ∈ a :: l := p.mem_iff.mpr List.mem_cons_self
      rcases List.mem_cons.mp ha with z | z
      · exact z
      · rcases List.mem_cons.mp hb with y | y
        · exact y.symm
        · exact anti a b (l1 b y) (m1 a z)
    subst e
    rw [sorted_perm_eq anti l2 m2 ((List.perm_cons a).mp p)]
/-- each key once -/
def dedK : List Ky → List Ky
  | [] => []
  | x :: xs => if memK xs x = true then dedK xs else x :: dedK xs
theorem dedK_mem {j : Ky} : ∀ {ks : List Ky}, j ∈ dedK ks ↔ j ∈ ks
  | [] => Iff.rfl
  | x :: xs => by
    unfold dedK
    have ih := dedK_mem (j := j) (ks := xs)
    split
    · rename_i h
      rw [ih, List.mem_cons]
      exact ⟨.inr, fun z => z.elim (fun e => by rw [e]; exact memK_iff.mp h) id⟩
    · rw [List.mem_cons, List.mem_cons, ih]
theorem dedK_nodup : ∀ {ks : List Ky}, (dedK ks).Nodup
  | [] => List.nodup_nil
  | x :: xs => by
    unfold dedK
    split
    · exact dedK_nodup
    · rename_i h
      exact List.nodup_cons.mpr ⟨fun z => h (memK_iff.mpr (dedK_mem.mp z)), dedK_nodup⟩
theorem dedK_len : ∀ {ks : List Ky}, (dedK ks).length ≤ ks.length
  | [] => Nat.le_refl _
  | x :: xs => by
    unfold dedK
    have ih := dedK_len (ks := xs)
    split
    · simp; omega
    · simp; exact ih
def isKi : Ky → Bool
  | .inl _ => true
  | .inr _ => false
/-- keys of one kind -/
def kindK (ks : List Ky) : Bool := ks.all isKi || ks.all (fun k => !isKi k)
def gSetSort : List C → Option Res
  | [.d (.list ds)] => (ksOf ds).bind fun ks => if (kindK ks && decide (ks.length ≤ 4000)) = true then some (.fr (.d (.list (sortD ((dedK ks).map kD))))) else none
  | _ => none
theorem kV_keyIs {k : Key} {v : Value} (r : RelV (kV k) v) : keyIs k v = true := by
  cases k with
  | inl i =>
    obtain ⟨t, rfl⟩ := r
    exact keyIs_int i t
  | inr x =>
    obtain ⟨t, rfl⟩ := r
    exact keyIs_str x t
theorem kV_keys : ∀ {ks : List Key} {us : List Value}, Vals (ks.map kV) us → ∀ (i : Nat) (v : Value), us[i]? = some v → ∃ k : Key, ks[i]? = some k ∧ keyIs k v = true
  | [], _, r, i, v, h => by cases r; cases h
  | k :: ks, _, r, i, v, h => by
    cases r with
    | cons r1 r2 =>
      cases i with
      | zero => cases h; exact ⟨k, rfl, kV_keyIs r1⟩
      | succ i => exact kV_keys (ks := ks) r2 i v h
/-- the set of these keys -/
def HasK (w : World) (ks : List Key) (h : Heap) (a : Addr) : Prop := ∃ es js, RawS w h a es ∧ RowK w es js ∧ js.Perm (dedK ks)
theorem HasK.at {w : World} {ks : List Key} {h h' : Heap} {a : Addr} (x : HasK w ks h a) (k : ∀ o, h.get? a = some o → h'.get? a = some o) : HasK w ks h' a := by
  obtain ⟨es, js, r, q⟩ := x
  exact ⟨es, js, r.at k, q⟩
theorem dedK_snoc_in {ks : List Key} {k : Key} (h : k ∈ ks) : (dedK ks).Perm (dedK (ks ++ [k])) := (List.perm_ext_iff_of_nodup dedK_nodup dedK_nodup).mpr fun j => by
  rw [dedK_mem, dedK_mem, List.mem_append, List.mem_singleton]
  exact ⟨.inl, fun z => z.elim id fun e => by rw [e]; exact h⟩
theorem dedK_snoc_out {ks : List Key} {k : Key} (h : k ∉ ks) : (k :: dedK ks).Perm (dedK (ks ++ [k])) := (List.perm_ext_iff_of_nodup (List.nodup_cons.mpr ⟨fun z => h (dedK_mem.mp z), dedK_nodup⟩) dedK_nodup).mpr fun j => by
  rw [List.mem_cons, dedK_mem, dedK_mem, List.mem_append, List.mem_singleton]
  exact Or.comm
section
variable {P : Program} {w : World} {A : Around} {E : Value → Shared → Prop} {s : Shared} {a : Addr} {ks : List Key}
/-- one key more -/
theorem has_more {k : Key} {v : Value} {Q : Bool → Shared → Prop} (hk : keyIs k v = true) (x : HasK w ks s.heap a) (room : ks.length + 1 < scanBound) (q : ∀ b h', Heap.SameBut a s.heap h' → HasK w (ks ++ [k]) h' a → Q b { s with heap := h', toks := s.toks + 1 }) :
    wpAny (model P w) A (setAdd a v) Q E s := by
  obtain ⟨es, js, r, row, pm⟩ := x
  have le : es.length ≤ ks.length := by
    rw [show es.length = js.length from Paired.length row, pm.length_eq]
    exact dedK_len
  unfold setAdd
  refine wpAny_holding (wpAny_bind ((mixKind P w).pyHash (k := k) hk ?_))
  have isIn : k ∈ js ↔ k ∈ ks := by rw [pm.mem_iff, dedK_mem]
  refine raw_add (s := { s with toks := s.toks + 1 }) hk r row (by omega) (fun hin => ?_) fun hout h' es' b p r' => ?_
  · exact q _ s.heap (Heap.SameBut.refl a s.heap) ⟨es, js, r, row, pm.trans (dedK_snoc_in (isIn.mp hin))⟩
  · obtain ⟨js', row', pj⟩ := RowK.perm (w := w) p (ks := k :: js) (.cons ⟨hk, rfl⟩ row)
    exact q _ h' b ⟨es', js', r', row', (pj.trans (List.Perm.cons k pm)).trans (dedK_snoc_out fun z => hout (isIn.mpr z))⟩
/-- a new set -/
theorem has_new (ho : s.heap.get? a = some { cls := .type "set", dict := none, data := .set #[] 0 (.fresh 0 0 (!w.params.followText "set-order")) }) : HasK w [] s.heap a := by
  refine ⟨[], [], ⟨⟨_, #[], 0, _, ho, ⟨rfl, rfl, rfl⟩, rfl, rfl, rfl, List.Pairwise.nil, ?_⟩, by decide⟩, .nil, .refl _⟩
  cases e : w.params.followText "set-order" with
  | true => exact .inl rfl
  | false => exact .inr (show (!false) = true from rfl)
end
/-- the keys of a walk are added one by one -/
theorem has_loop {P : Program} {w : World} {A : Around} {R : Result → Shared → Prop} {I S : Addr} {fp wr : List Addr} {G : Array GenState → Array GenState → Prop} {n : Nat} {Y : Nat → Value → Prop} {St : Nat → Shared → Prop} {ks : List Key}
    (W : WalksS P w A.in1 I fp wr G n Y St) (hS : S ∉ fp) (hn : ks.length = n) (few : n + 1 < scanBound) (val : ∀ i v, Y i v → ∃ k : Key, ks[i]? = some k ∧ keyIs k v = true) (d : Nat) :
    ∀ (i : Nat) (s : Shared), i + d = n → St i s → HasK w (ks.take i) s.heap S → (∀ s', Moved (S :: wr) G s s' → HasK w ks s'.heap S → R (.ok (.ret .none)) s') → codeAny (model P w) A (.builtin "set.update.loop" ⟨[.ref S, .ref I], []⟩) R s := by
  have hw : S ∉ wr := fun z => hS (W.sub S z)
  have sub : ∀ b ∈ wr, b ∈ S :: wr := fun b z => List.mem_cons_of_mem S z
  induction d with
  | zero =>
    intro i s e st has k
    have e : i = n := e
    subst e
    refine codeAny_builtin PyProof.Rows.F.entry_set_update_loop ?_
    rw [Around.under_plainId PyProof.Rows.F.plain_set_update_loop _]
    refine wpAny_bind (m := pyNext (.ref I)) (W.done s _ _ st fun s' mv => wpAny_pure (k s' (mv.mono sub) ?_))
    rw [List.take_of_length_le (Nat.le_of_eq hn)] at has
    exact has.at fun o ho => mv.heap S o hw ho
  | succ d ih =>
    intro i s e st has k
    refine codeAny_builtin PyProof.Rows.F.entry_set_update_loop ?_
    rw [Around.under_plainId PyProof.Rows.F.plain_set_update_loop _]
    refine wpAny_bind (m := pyNext (.ref I)) (W.item i s _ _ (by omega) st fun v s1 y st1 mv => ?_)
    obtain ⟨key, h1, h2⟩ := val i v y
    have has1 := has.at (h' := s1.heap) fun o ho => mv.heap S o hw ho
    refine wpAny_bind (m := holding [v] (setAdd S v)) (wpAny_holding (has_more h2 has1 (by rw [List.length_take]; omega) fun b h' sb has2 => ?_))
    have tk : ks.take (i + 1) = ks.take i ++ [key] := by rw [List.take_add_one, h1]; rfl
    rw [← tk] at has2
    refine wpAny_pure ⟨plainId_quiet PyProof.Rows.F.plain_set_update_loop _, ih (i + 1) _ (by omega) (W.frame _ s1 _ _ st1 (Nat.le_succ _) fun b z o q => ?_) has2 fun s2 mv2 has3 => ?_⟩
    · exact (sb.2 b fun y => hS (by rw [← y]; exact z)).trans q
    · refine k s2 (Moved.trans W.gtrans ((mv.mono sub).then_heap (Nat.le_succ _) fun b o z q => ?_) mv2) has3
      exact (sb.2 b fun y => z (by rw [y]; exact List.mem_cons_self)).trans q
/-- T(args): the new object, then its __init__, whatever that asks of its arguments -/
theorem type_call {P : Program} {w : World} {A : Around} {E : Value → Shared → Prop} {s : Shared} {T newId initId : String} {args : List Value} {Q N : Value → Shared → Prop} (ft : TypeCalled T newId initId) (hct : checkTypeCall T ⟨args, []⟩ = pure ())
    (hN : codeAny (model P w) A.in1 (.call (.builtin newId) ⟨.type T :: args, []⟩) (wants N E) s) (hT : ∀ x s1, N x s1 → s1.TypeIs x T)
    (hI : ∀ x s1, N x s1 → codeAny (model P w) A.in1 (.call (.builtin initId) ⟨x :: args, []⟩) (wants (fun r s2 => r = .none ∧ Q x s2) E) s1) : wpAny (model P w) A (call (.type T) args) Q E s := by
  have f1 := ft.made
  have f2 := ft.sub
  have f3 := ft.notType
  have f4 := ft.canCreate
  obtain ⟨m0, ms, f5⟩ := ft.mro
  refine wpAny_call (codeAny_of_tree ?_)
  change wpAny _ _ (callAny (.type T) _) _ _ _
  refine wpAny_pure (And.intro (Code.quiet_builtin _ (by decide +kernel)) (codeAny_builtin PySem.F.entry_type_call ?_))
  rw [Around.under_plain (weight_type_call_type T args []) rfl]
  repeat (any_goals (first | assumption | wp_step))
  refine codeAny_mono hN fun r s1 hr => ?_
  rcases r with e | fl
  · exact hr
  · cases fl with
    | ret x =>
      have f6 := hT x s1 hr
      have f7 := ft.init.lookup
      have f8 := ft.init.bind x
      repeat (any_goals (first | assumption | wp_step))
      refine codeAny_mono (hI x s1 hr) fun r s2 hr2 => ?_
      rcases r with e | fl
      · exact hr2
      · cases fl with
        | ret y =>
          obtain ⟨rfl, hq⟩ := hr2
          repeat (any_goals (first | assumption | wp_step))
        | _ => exact hr2.elim
    | _ => exact hr.elim
/-- set(list of keys) -/
theorem set_of_keys {P : Program} {w : World} {A : Around} {E : Value → Shared → Prop} {s : Shared} {l : Addr} {its : Array Value} {ks : List Key} {Q : Value → Shared → Prop} (hh : A.handled = none) (hl : s.heap.IsList l its) (hn : ks.length = its.size) (few : its.size + 1 < scanBound)
    (val : ∀ (i : Nat) (v : Value), its[i]? = some v → ∃ k : Key, ks[i]? = some k ∧ keyIs k v = true)
    (q : ∀ h' tk, HasK w ks h' s.heap.objs.size → (∀ b o, s.heap.get? b = some o → h'.get? b = some o) → Q (.ref s.heap.objs.size) { s with heap := h', toks := tk }) : wpAny (model P w) A (call (.type "set") [.ref l]) Q E s := by
  refine type_call PySem.F.called_set (PySem.F.typeCall_set_1 _) (code_set_led1 (.ref l) (Q₁ := fun obj s1 => obj = .ref s.heap.objs.size ∧ s1 = { s with heap := s.heap.push { cls := .type "set", dict := none, data := .set #[] 0 (.fresh 0 0 (!w.params.followText "set-order")) } }) ⟨rfl, rfl⟩) ?_ ?_
  · rintro _ _ ⟨rfl, rfl⟩
    exact ⟨_, Heap.get?_push_size _ rfl, rfl⟩
  rintro _ _ ⟨rfl, rfl⟩
  have at0 : (s.heap.push { cls := .type "set", dict := none, data := .set #[] 0 (.fresh 0 0 (!w.params.followText "set-order")) }).get? s.heap.objs.size = some { cls := .type "set", dict := none, data := .set #[] 0 (.fresh 0 0 (!w.params.followText "set-order")) } := Heap.get?_push_size _ rfl
  have kp : ∀ b o, s.heap.get? b = some o → (s.heap.push { cls := .type "set", dict := none, data := .set #[] 0 (.fresh 0 0 (!w.params.followText "set-order")) }).get? b = some o := fun b o e => Heap.get?_push_of_some _ e
  have sz : (s.heap.push { cls := .type "set", dict := none, data := .set #[] 0 (.fresh 0 0 (!w.params.followText "set-order")) }).objs.size = s.heap.objs.size + 1 := size_push' _ _
  revert at0 kp sz
  generalize s.heap.push { cls := .type "set", dict := none, data := .set #[] 0 (.fresh 0 0 (!w.params.followText "set-order")) } = h1
  intro at0 kp sz
  have hT : Shared.TypeIs { s with heap := h1 } (.ref s.heap.objs.size) "set" := ⟨_, at0, rfl⟩
  obtain ⟨ol, hol, cl, nl, dl⟩ := hl
  have ll : l < s.heap.objs.size := Heap.lt_size hol
  have ll1 : h1.IsList l its := ⟨ol, kp _ _ hol, cl, nl, dl⟩
  refine codeAny_call_builtin PySem.F.called_set.init.plain PySem.F.entry_set_init (check_set_init_1 hT ?_)
  have g1 := PySem.F.sub_list_set
  have g2 := PySem.F.sub_list_frozenset
  have g3 : (Value.type "list" == Value.type "dict") = false := by decide
  obtain ⟨oc, odd, oda, osl⟩ := ol
  simp only at cl dl
  subst cl; subst dl
  have hol1 := kp _ _ hol
  unfold Builtin.«set.__init__» noKeywords Builtin.Frozenset.updateFrom
  generalize hpi : pyIter = pi
  wp_walk
  subst hpi
  refine wpAny_pyIter_list ll1 (wpAny_bind (wpAny_runValue ?_))
  have nI : l ≠ h1.objs.size := by rw [sz]; exact Nat.ne_of_lt (Nat.lt_succ_of_lt ll)
  refine has_loop (ks := ks) ((Walks.list (A := A.in1.in1.in1) (by simp [hh]) _ l nI its).toS) (fun z => ?_) hn few val its.size 0 _ (Nat.zero_add _) ⟨⟨_, Heap.get?_push_size _ rfl, rfl, rfl⟩, ll1.push _⟩ ?_ fun s2 mv has => ?_
  · rcases List.mem_cons.mp z with y | y
    · rw [sz] at y; exact absurd y (Nat.ne_of_lt (Nat.lt_succ_self _))
    · exact absurd (List.mem_singleton.mp y) (Nat.ne_of_gt ll)
  · rw [List.take_zero]
    exact has_new (s := { s with heap := _ }) (Heap.get?_push_of_some _ at0)
  · rw [Moved.eq_with mv]
    refine wpAny_pure (wpAny_pure ⟨rfl, q s2.heap s2.toks has fun b o e => ?_⟩)
    have lb := Heap.lt_size e
    refine mv.heap b o (fun z => ?_) (Heap.get?_push_of_some _ (kp b o e))
    rcases List.mem_cons.mp z with y | y
    · exact absurd y (Nat.ne_of_lt lb)
    · rw [List.mem_singleton.mp y, sz] at lb
      exact absurd lb (Nat.not_lt.mpr (Nat.le_succ _))
/-! ### sorted(set of keys), the keys of one kind -/
theorem key_anti {a b : Ky} (h : isKi a = isKi b) (h1 : W.dataLe false kD a b = true) (h2 : W.dataLe false kD b a = true) : a = b := by
  have h1 : (!W.dataLt (kD b) (kD a)) = true := h1
  have h2 : (!W.dataLt (kD a) (kD b)) = true := h2
  cases a with
  | inl i =>
    cases b with
    | inl j =>
      rw [show kD (.inl i) = .int i from rfl, show kD (.inl j) = .int j from rfl, W.dataLt_int] at h1 h2
      simp at h1 h2
      rw [Int.le_antisymm h1 h2]
    | inr _ => cases h
  | inr i =>
    cases b with
    | inl j => cases h
    | inr j =>
      rw [show kD (.inr i) = .str i from rfl, show kD (.inr j) = .str j from rfl, W.dataLt_str] at h1 h2
      have h1 : ¬ j.cps.toList < i.cps.toList := by simpa using h1
      have h2 : ¬ i.cps.toList < j.cps.toList := by simpa using h2
      have e : i.cps.toList = j.cps.toList := List.le_antisymm (List.not_lt.mp h1) (List.not_lt.mp h2)
      rw [W.str_of_cps e]
theorem sort_keys_perm {xs ys : List Ky} (p : xs.Perm ys) (hk : ∀ x ∈ ys, ∀ y ∈ ys, isKi x = isKi y) : xs.mergeSort (W.dataLe false kD) = ys.mergeSort (W.dataLe false kD) := by
  have T : W.TotalLe (W.dataLe false kD) := W.sortLe_total _ _ _
  have mx : ∀ x, x ∈ xs.mergeSort (W.dataLe false kD) → x ∈ ys := fun x h => p.mem_iff.mp ((List.mergeSort_perm _ _).mem_iff.mp h)
  have my : ∀ x, x ∈ ys.mergeSort (W.dataLe false kD) → x ∈ ys := fun x h => (List.mergeSort_perm _ _).mem_iff.mp h
  refine sorted_perm_eq (le := fun a b => W.dataLe false kD a b && (isKi a == isKi b)) (fun a b h1 h2 => ?_) ((W.sort_pairwise T xs).imp_of_mem fun {a b} ha hb h => ?_) ((W.sort_pairwise T ys).imp_of_mem fun {a b} ha hb h => ?_) (((List.mergeSort_perm _ _).trans p).trans (List.mergeSort_perm _ _).symm)
  · rw [Bool.and_eq_true] at h1 h2
    exact key_anti (by simpa using h1.2) h1.1 h2.1
  · rw [Bool.and_eq_true]
    exact ⟨h, by simpa using hk a (mx a ha) b (mx b hb)⟩
  · rw [Bool.and_eq_true]
    exact ⟨h, by simpa using hk a (my a ha) b (my b hb)⟩
theorem kindK_same {ks : List Ky} (h : kindK ks = true) : ∀ x ∈ ks, ∀ y ∈ ks, isKi x = isKi y := fun x hx y hy => by
  unfold kindK at h
  rw [Bool.or_eq_true, List.all_eq_true, List.all_eq_true] at h
  rcases h with h | h
  · rw [h x hx, h y hy]
  · have a := h x hx
    have b := h y hy
    simp at a b
    rw [a, b]
/-- values that are keys, in their turn -/
theorem keys_of_rows {w : World} {es : List (Int × Value)} {js : List Key} (R : RowK w es js) : W.EachIs (fun v k => keyIs k v = true) (es.map (·.2)) js := by
  induction R with
  | nil => exact .nil
  | cons h _ ih => exact .cons h.1 ih
theorem each_perm {α β : Type} {R : α → β → Prop} {as as' : List α} (p : as'.Perm as) : ∀ {bs : List β}, W.EachIs R as bs → ∃ bs', W.EachIs R as' bs' ∧ bs'.Perm bs := by
  induction p with
  | nil => exact fun {bs} h => ⟨bs, h, .refl _⟩
  | cons x _ ih =>
    intro bs h
    cases h with
    | cons h1 h2 =>
      obtain ⟨b, r, q⟩ := ih h2
      exact ⟨_, .cons h1 r, .cons _ q⟩
  | swap x y l =>
    intro bs h
    cases h with
    | cons h1 h2 =>
      cases h2 with
      | cons h3 h4 => exact ⟨_, .cons h3 (.cons h1 h4), .swap _ _ _⟩
  | trans _ _ i1 i2 =>
    intro bs h
    obtain ⟨b1, r1, p1⟩ := i2 h
    obtain ⟨b2, r2, p2⟩ := i1 r1
    exact ⟨b2, r2, p2.trans p1⟩
theorem sorted_has {P : Program} {w : World} {A : Around} {E : Value → Shared → Prop} {s : Shared} {a : Addr} {ks : List Key} {Q : Value → Shared → Prop} (R : HasK w ks s.heap a) (hh : A.handled = none) (hu : A.units + 64 < cLine) (hk : kindK ks = true)
    (q : ∀ s' p (out : List Value) (c : Nat), (∀ b o, s.heap.get? b = some o → s'.heap.get? b = some o) → s'.gens = s.gens → s'.os = s.os → s.heap.objs.size ≤ p → s'.heap.get? p = some (seqObj "list" out.toArray c) →
      W.EachIs (fun v k => keyIs k v = true) out ((dedK ks).mergeSort (W.dataLe false kD)) → Q (.ref p) s') : wpAny (model P w) A (call (.builtin "sorted") [.ref a]) Q E s := by
  obtain ⟨es, js, ⟨⟨o, ea, ep, t, ho, hx, hd, rfl, fit, ris, led⟩, few⟩, row, pm⟩ := R
  have few' : ea.size < scanBound := by rw [← Array.length_toList]; exact few
  have le : ea.toList.length = js.length := Paired.length row
  have lj := pm.length_eq
  refine Calls.call_function_entry kind_sorted plain_sorted entry_sorted (args_sorted1 _) ?_
  unfold Builtin.«sorted»
  refine wpAny_bind (m := checkCount "sorted" 1 1 _) (wpAny_pure (wpAny_bind (collect_set (A := A.in1) hh ⟨o, ho, hx.1, hd⟩ fit few' ris led fun s1 vs k1 z1 g1 o1 pv => ?_)))
  obtain ⟨xs, ex, px⟩ := each_perm pv (keys_of_rows row)
  have lv : vs.length = ea.size := by rw [pv.length_eq, List.length_map, Array.length_toList]
  have lx : xs.length = ea.size := by rw [← W.EachIs.length ex, lv]
  have pxs : xs.Perm (dedK ks) := px.trans pm
  have same : ∀ x ∈ dedK ks, ∀ y ∈ dedK ks, isKi x = isKi y := fun x h y h' => kindK_same hk x (dedK_mem.mp h) y (dedK_mem.mp h')
  refine wpAny_bind (wpAny_newList ?_ (by rw [lv]; exact fits_of_scanBound few'))
  have at1 : (s1.heap.push (seqObj "list" vs.toArray 0)).get? s1.heap.objs.size = some (seqObj "list" vs.toArray 0) := Heap.get?_push_size _ rfl
  have rd : W.EachIs (fun v k => ∃ as, Reads (s1.heap.push (seqObj "list" vs.toArray 0)) v (kD k) as ∧ s1.heap.objs.size ∉ as) vs xs := ex.mono fun v k h => by
    rcases keyIs_shape h with ⟨i, t, rfl, rfl⟩ | ⟨x, t, rfl, rfl⟩
    · exact ⟨[], .int i t, by simp⟩
    · exact ⟨[], .str x t, by simp⟩
  have al : W.AllAlike (xs.map kD) := fun d hd d' hd' => by
    obtain ⟨x, hx, rfl⟩ := List.mem_map.mp hd
    obtain ⟨y, hy, rfl⟩ := List.mem_map.mp hd'
    have := same x (pxs.mem_iff.mp hx) y (pxs.mem_iff.mp hy)
    cases x <;> cases y <;> first | rfl | cases this
  have so : W.Sortable (xs.map kD) := W.Sortable.others fun k => by
    cases k
    · exact ⟨(fun z => by cases z), (fun xs z => by cases z)⟩
    · exact ⟨(fun z => by cases z), (fun xs z => by cases z)⟩
  refine wpAny_bind (wpAny_holding (W.list_sort_data (s := { s1 with heap := s1.heap.push (seqObj "list" vs.toArray 0) }) (enc := kD) at1 ex rd al so (by rw [lx]; exact fits_of_scanBound few') (fun k _ => ?_) fun out lo eo => ?_))
  · have d0 : (kD k).depth = 0 := by cases k <;> rfl
    have d1 : A.in1.units = A.units + 1 := rfl
    show A.in1.units + 1 + (kD k).depth < cLine
    omega
  · obtain ⟨c, hc⟩ := sortedHeap_at (vs := vs) (out := out.toArray) at1
    rw [sort_keys_perm pxs same] at eo
    refine wpAny_pure ⟨_, rfl, q _ s1.heap.objs.size out c (fun b u e => ?_) g1 o1 z1 hc eo⟩
    have lt := Heap.lt_size (k1 b u e)
    have old := sortedHeap_old (h := s1.heap.push (seqObj "list" vs.toArray 0)) (a := s1.heap.objs.size) (vs := vs) (out := out.toArray) (Nat.ne_of_lt lt) (by rw [size_push']; exact Nat.lt_succ_of_lt lt)
    have new : (s1.heap.push (seqObj "list" vs.toArray 0)).get? b = some u := Heap.get?_push_of_some _ (k1 b u e)
    rw [← old] at new
    exact new
/-! ### in the layer -/
def SetMO (w : World) (a : Addr) (ks : List Key) : HO := .ext fun h => HasK w ks h a
theorem vals_keys : ∀ {out : List Value} {ks : List Key}, W.EachIs (fun v k => keyIs k v = true) out ks → Vals (ks.map kV) out
  | [], [], _ => .nil
  | [], _ :: _, h => by cases h
  | _ :: _, [], h => by cases h
  | v :: out, k :: ks, h => by
    cases h with
    | cons h1 h2 => exact .cons (relV_key h1) (vals_keys h2)
theorem kys_vp {K : KC} {F : Fz} : ∀ ks : List Ky, VpAll K F (ks.map kV) (ks.map kD)
  | [] => .nil
  | .inl i :: ks => .cons (.int i) (kys_vp ks)
  | .inr x :: ks => .cons (.str x) (kys_vp ks)
section
variable {X : Cx}
def rSetM (K : PySem.W.Frag) (w : World) : List V → Hp → VK → Prop := fun xs H Q => ∃ (a : Addr) (ks : List Key), xs = [.ref a] ∧ SqL K H a (ks.map kV) ∧ ks.length ≤ 4000 ∧ ∀ p, H p = none → Q (.ref p) (upd H p (SetMO w p ks))
theorem cr_setM (hc : X.calm = true) : CallR X (.type "set") (rSetM X.K X.w) := by
  intro pins s σ H xs us Q I r h
  obtain ⟨a, ks, rfl, hl, hz, q⟩ := h
  rw [Vals.ref1 r]
  obtain ⟨its, rv, pl, hs⟩ := I.list hl
  have lk : ks.length = its.length := by rw [← rv.length, List.length_map]
  refine set_of_keys (P := X.prog) (w := X.w) (ks := ks) (I.ok.hd hc) pl.isList (by simpa using lk) (by rw [List.size_toArray]; unfold scanBound; omega) (fun i v e => kV_keys rv i v (by simpa using e)) fun h' tk R k => ?_
  exact ⟨.ref s.heap.objs.size, upd H s.heap.objs.size (SetMO X.w s.heap.objs.size ks), I.laid (t' := tk) k (Nat.le_refl _) ⟨R, let ⟨_, _, ⟨⟨o, _, _, _, ho, _⟩, _⟩, _⟩ := R; ⟨o, ho⟩, fun h1 h2 p k => HasK.at p k⟩, rfl, q _ (I.hok.fresh (Nat.le_refl _))⟩
def rSortM (w : World) : List V → Hp → VK → Prop := fun vs H Q => ∃ (a : Addr) (ks : List Key), vs = [V.ref a] ∧ H a = some (SetMO w a ks) ∧ ks.length ≤ 4000 ∧ kindK ks = true ∧
  ∀ (p : Addr) (js : List Key), js.map kD = sortD ((dedK ks).map kD) → H p = none → Q (.ref p) (upd H p (.lst (js.map kV)))
theorem cr_sortM (hc : X.calm = true) (hu : X.A.units + 64 < cLine) : CallR X (.builtin "sorted") (rSortM X.w) := by
  intro pins s σ H vs us Q I r h
  obtain ⟨a, ks, rfl, ha, few, hk, q⟩ := h
  have R : HasK X.w ks s.heap a := (I.hok a _ ha).1
  rw [Vals.ref1 r]
  refine sorted_has (P := X.prog) R (I.ok.hd hc) hu hk fun s' p out c k g o hp hg hi => ?_
  have hlen : (((dedK ks).mergeSort (W.dataLe false kD)).map kV).length ≤ sizeLine := by
    have := dedK_len (ks := ks)
    rw [List.length_map, List.length_mergeSort, sizeLine_eq]
    omega
  have hn : H p = none := I.hok.fresh hp
  have J : Inv X pins σ (upd H p (.lst (((dedK ks).mergeSort (W.dataLe false kD)).map kV))) s' :=
    Inv.call' (ch := []) I o (Un.laid k hp hn) (I.hok.laid k hp ⟨hlen, out, c, vals_keys hi, hg⟩) (by rw [g]; exact I.bare) (fun _ z => nomatch z)
  exact ⟨.ref p, _, J, rfl, q p _ (W.sort_maps kD fun a _ b _ => rfl) hn⟩
theorem de_sortSet {e : Expr} {fa : EF} {qb : Bool} {p p2 q pos : Pos} (hc : X.calm = true) (hu : X.A.units + 64 < cLine) (ha : DE X qb e fa) (hg : Gl X "sorted") (hm : X.mg "sorted" = none) (hv : bootBuiltins "sorted" = some (.builtin "sorted")) (hg2 : Gl X "set") (hm2 : X.mg "set" = none) (hv2 : bootBuiltins "set" = some (.type "set"))
    (he : starEach [e] X.env = (false, eval e X.env) :: starEach [] X.env := by rfl) (hpl : (backTo q (starEach [] X.env)).any (·.1) = false := by rfl)
    (he2 : starEach [.Call (.Name "set" p2) [e] [] q] X.env = (false, eval (.Call (.Name "set" p2) [e] [] q) X.env) :: starEach [] X.env := by rfl) (hpl2 : (backTo pos (starEach [] X.env)).any (·.1) = false := by rfl) :
    DE X qb (.Call (.Name "sorted" p) [.Call (.Name "set" p2) [e] [] q] [] pos) (eUn (fun c => gSetSort [c]) fa) := by
  obtain ⟨t, a1, a2⟩ := ha.ex
  refine ⟨_, pe_callB (cr_sortM hc hu) hg hm hv (pa_cons (pe_callTy (cr_setM hc) hg2 hm2 hv2 (pa_cons a1 pa_nil he) (by decide) (by decide) he hpl) pa_nil he2) (by decide) (by decide) he2 hpl2, fun B H0 F0 F H σ r z r' q j Q k => ?_⟩
  simp only [eUn, Option.bind_eq_some_iff] at q
  obtain ⟨⟨z1, r1⟩, q1, c, q2, w, q3, q4⟩ := q
  cases q4
  refine a2 _ _ _ _ _ _ _ _ _ q1 j _ fun F1 H1 v g1 j1 k1 => ?_
  have b := k1.look j1 q2
  unfold gSetSort at q3
  split at q3
  · rename_i ds e0
    cases e0
    simp only [Option.bind_eq_some_iff] at q3
    obtain ⟨ks, q5, q6⟩ := q3
    split at q6
    · rename_i hk
      cases q6
      rw [Bool.and_eq_true] at hk
      have hlen : ks.length ≤ 4000 := of_decide_eq_true hk.2
      obtain ⟨p0, vs, rfl, sq, dd⟩ := b
      have ev := keys_v q5 dd
      subst ev
      refine ⟨p0, ks, rfl, sq, hlen, fun n hn => ?_⟩
      refine ⟨n, ks, rfl, upd_same, hlen, hk.1, fun l ks' el hl => ?_⟩
      have ga : Grow F1 H1 F1 (upd H1 n (SetMO X.w n ks)) := .lay j1.fh hn
      have j2 := j1.grow ga
      have gb : Grow F1 (upd H1 n (SetMO X.w n ks)) F1 (upd (upd H1 n (SetMO X.w n ks)) l (.lst (ks'.map kV))) := .lay j2.fh hl
      exact k _ _ _ ((g1.qt ga.ge).qt gb.ge) (j2.grow gb) (RetOk.res j2 gb ⟨l, rfl, hl, j2.fh.back hl, j2.tagged l hl, ks'.map kV, upd_same, by rw [← el]; exact kys_vp ks'⟩)
    · cases q6
  · cases q3
end
end CM
end
section
set_option Elab.async false
set_option linter.all false
set_option maxRecDepth 100000
set_option autoImplicit false
namespace CM
open PySem PySem.Spec PyProof.Rows L2 PySem.SeqAt
/-! ### sorted(d.items()) -/
/-- what a dict's items are: keys and values -/
structure ItemsAt (X : Cx) (F : Fz) (s : Shared) (a : Addr) (ps : List (V × V)) (qs : List (D × D)) : Prop where
  raw : ∃ es ep, DT.Raw s.heap a es ep ∧ es.size = ps.length ∧ es.size ≤ sizeLine ∧ ∀ i (hi : i < es.size), ∃ p q, ps[i]? = some p ∧ qs[i]? = some q ∧ RelV p.1 es[i].key ∧ RelV p.2 es[i].val ∧ Vp X.kc F p.1 q.1 ∧ Vp X.kc F p.2 q.2
  len : ps.length = qs.length
def itemD (q : D × D) : D := .tuple [q.1, q.2]
/-- F with some of H's things -/
def Fz.more (F : Fz) (as : List Addr) (H : Hp) : Fz := ⟨fun a => (F.f a).or (if as.contains a = true then H a else none), F.t⟩
theorem Fz.more_old {F : Fz} {as : List Addr} {H : Hp} : Ex F.f (F.more as H).f := fun a o h => by
  show (F.f a).or _ = _
  rw [h]; rfl
theorem Fz.more_at {F : Fz} {as : List Addr} {H : Hp} {a : Addr} {o : HO} (e : Ex F.f H) (ha : a ∈ as) (h : H a = some o) : (F.more as H).f a = some o := by
  show (F.f a).or _ = _
  rw [if_pos (List.contains_iff_mem.mpr ha), h]
  cases w : F.f a with
  | none => rfl
  | some u =>
    have := e a u w
    rw [h] at this
    cases this
    rfl
theorem Fz.more_in {F : Fz} {as : List Addr} {H : Hp} {a : Addr} {o : HO} (h : (F.more as H).f a = some o) : F.f a = some o ∨ (a ∈ as ∧ H a = some o) := by
  have h : (F.f a).or (if as.contains a = true then H a else none) = some o := h
  cases w : F.f a with
  | some u => rw [w] at h; exact .inl h
  | none =>
    rw [w] at h
    have h : (if as.contains a = true then H a else none) = some o := h
    split at h
    · rename_i c
      exact .inr ⟨List.contains_iff_mem.mp c, h⟩
    · cases h
mutual
theorem reads_lt {h : Heap} : ∀ (d : D) (v : Value) (as : List Addr), nod d = true → Reads h v d as → ∀ a ∈ as, a < h.objs.size
  | .none, _, _, _, r, a, m => by cases r; cases m
  | .bool _, _, _, _, r, a, m => by cases r; cases m
  | .int _, _, _, _, r, a, m => by cases r; cases m
  | .str _, _, _, _, r, a, m => by cases r; cases m
  | .list xs, _, _, n, r, a, m => by
    cases r with
    | list h1 h2 h3 h4 =>
      rcases List.mem_cons.mp m with z | z
      · rw [z]; exact Heap.lt_size h1
      · exact reads_ltA xs _ _ (by unfold nod at n; exact n) h4 a z
  | .tuple xs, _, _, n, r, a, m => by
    cases r with
    | tuple h1 h2 h3 h4 => exact reads_ltA xs _ _ (by unfold nod at n; exact n) h4 a m
  | .dict _, _, _, n, r, a, m => by unfold nod at n; cases n
theorem reads_ltA {h : Heap} : ∀ (ds : List D) (vs : List Value) (as : List Addr), nods ds = true → ReadsAll h vs ds as → ∀ a ∈ as, a < h.objs.size
  | [], _, _, _, r, a, m => by cases r; cases m
  | d :: ds, _, _, n, r, a, m => by
    cases r with
    | cons h1 h2 =>
      rcases List.mem_append.mp m with z | z
      · exact reads_lt d _ _ (nods_cons n).1 h1 a z
      · exact reads_ltA ds _ _ (nods_cons n).2 h2 a z
end
section
variable {X : Cx}
def rSortItems (X : Cx) : List V → Hp → VK → Prop := fun vs H Q => ∃ (F : Fz) (p a : Addr), vs = [.ref p] ∧ Ex F.f H ∧ H p = some (L2.DX.itemsO p a) ∧ ∃ (qs : List (D × D)), (∀ pins σ s, Inv X pins σ H s → ∃ ps, ItemsAt X F s a ps qs) ∧ sortB (qs.map itemD) = true ∧ (∀ q ∈ qs, tuT [q.1, q.2] = false) ∧
  ∀ F' H' l ts, Grow F H F' H' → H l = none → F'.f l = none → H' l = some (.lst ts) → VpAll X.kc F' ts (sortD (qs.map itemD)) → Q (.ref l) H'
theorem dp_reads_nod {F : Fz} {H : Hp} {pins : List (Addr × Obj)} {σ : L2.St} {s : Shared} (I : Inv X pins σ H s) (e : Ex F.f H) {d : D} {x : V} {v : Value} (h : Vp X.kc F x d) (r : RelV x v) (n : nod d = true) : ∃ as, Reads s.heap v d as := Dp.reads I d x v (Vp.dp e _ _ h n) r
theorem cr_sortItems (hc : X.calm = true) (hu : X.A.units + 64 < cLine) : CallR X (.builtin "sorted") (rSortItems X) := by
  intro pins s σ H xs us Q I r h
  obtain ⟨F, p, a, rfl, e, hp, qs, hI, sB, nq, q⟩ := h
  obtain rfl := Vals.ref1 r
  obtain ⟨ps, ⟨es, ep, raw, sz, sl, at'⟩, lpq⟩ := hI pins σ s I
  obtain ⟨nd, al, so, dp, ln⟩ := sortB_ok sB
  rw [List.length_map] at ln
  have view : s.heap.IsItemsView p a := (show ObjOk X.prog X.w H s.heap p (L2.DX.itemsO p a) from I.hok p _ hp).1
  refine DT.sortedI (es := es) (ep := ep) (I.ok.hd hc) view raw sl fun h' tk as hk hlt hl hG => ?_
  have lak : as.length = qs.length := by omega
  have ndA : as.Nodup := List.Pairwise.imp (fun h => Nat.ne_of_lt h) hG.rise
  -- the pairs that were made
  have pr : ∀ (j : Nat) (b : Addr), as[j]? = some b → ∃ (pp : V × V) (qq : D × D) (u v : Value), ps[j]? = some pp ∧ qs[j]? = some qq ∧ RelV pp.1 u ∧ RelV pp.2 v ∧ Vp X.kc F pp.1 qq.1 ∧ Vp X.kc F pp.2 qq.2 ∧ h'.get? b = some { cls := .type "tuple", data := .seq #[u, v] } := by
    intro j b hj
    obtain ⟨en, he, hg⟩ := hG.pairs j b hj
    have hj' : j < es.size := by
      rcases Nat.lt_or_ge j es.size with w | w
      · exact w
      · rw [Array.getElem?_eq_none w] at he; cases he
    obtain ⟨pp, qq, h1, h2, h3, h4, h5, h6⟩ := at' j hj'
    rw [Array.getElem?_eq_getElem hj'] at he
    cases he
    exact ⟨pp, qq, _, _, h1, h2, h3, h4, h5, h6, hg⟩
  have nodq : ∀ (j : Nat) (qq : D × D), qs[j]? = some qq → nod qq.1 = true ∧ nod qq.2 = true := fun j qq h => by
    have m : itemD qq ∈ qs.map itemD := List.mem_map.mpr ⟨qq, List.mem_of_getElem? h, rfl⟩
    have := nods_mem nd m
    have h2 : nods [qq.1, qq.2] = true := by
      have this : nod (.tuple [qq.1, qq.2]) = true := this
      unfold nod at this
      exact this
    obtain ⟨a1, a2⟩ := nods_cons h2
    exact ⟨a1, (nods_cons a2).1⟩
  have hob : (h'.push { cls := .type "list", data := .seq (as.map Value.ref).toArray }).get? h'.objs.size = some (seqObj "list" (as.map Value.ref).toArray 0) := Heap.get?_push_size _ rfl
  have kb : ∀ b o, s.heap.get? b = some o → (h'.push { cls := .type "list", data := .seq (as.map Value.ref).toArray }).get? b = some o := fun b o e => Heap.get?_push_of_some _ (hk b o e)
  have ne0 : ∀ b o, h'.get? b = some o → b ≠ h'.objs.size := fun b o e => Nat.ne_of_lt (Heap.lt_size e)
  generalize hh2 : h'.push { cls := .type "list", data := .seq (as.map Value.ref).toArray } = h2 at hob kb ⊢
  have ka : ∀ b o, h'.get? b = some o → h2.get? b = some o := fun b o e => by rw [← hh2]; exact Heap.get?_push_of_some _ e
  have zl : (as.zip qs).length = qs.length := by rw [List.length_zip]; omega
  have zmem : ∀ z ∈ as.zip qs, ∃ j, as[j]? = some z.1 ∧ qs[j]? = some z.2 := fun z hz => by
    obtain ⟨j, hj⟩ := List.mem_iff_getElem?.mp hz
    exact ⟨j, List.getElem?_zip_eq_some.mp hj⟩
  have eR : W.EachIs (fun (v : Value) (z : Addr × D × D) => v = .ref z.1 ∧ z ∈ as.zip qs) (as.map Value.ref) (as.zip qs) := by
    have g : ∀ (as : List Addr) (qs : List (D × D)), as.length = qs.length → W.EachIs (fun (v : Value) (z : Addr × D × D) => v = .ref z.1) (as.map Value.ref) (as.zip qs) := fun as => by
      induction as with
      | nil => intro qs h; cases qs with
        | nil => exact .nil
        | cons _ _ => cases h
      | cons a as ih => intro qs h; cases qs with
        | nil => cases h
        | cons q qs => exact .cons rfl (ih qs (by simpa using h))
    exact each_mono (g as qs lak) fun u p hp h => ⟨h, hp⟩
  have eRd : W.EachIs (fun (v : Value) (z : Addr × D × D) => ∃ bs, Reads h2 v (itemD z.2) bs ∧ h'.objs.size ∉ bs) (as.map Value.ref) (as.zip qs) := each_mono eR fun u z hz ⟨h1, h2'⟩ => by
    subst h1
    obtain ⟨j, j1, j2⟩ := zmem z hz
    obtain ⟨pp, qq, u, v, g1, g2, g3, g4, g5, g6, g7⟩ := pr j z.1 j1
    rw [j2] at g2; cases g2
    obtain ⟨n1, n2⟩ := nodq j _ j2
    obtain ⟨b1, r1⟩ := dp_reads_nod I e g5 g3 n1
    obtain ⟨b2, r2⟩ := dp_reads_nod I e g6 g4 n2
    have w1 := PyProof.Rows.Reads.keeps kb r1
    have w2 := PyProof.Rows.Reads.keeps kb r2
    have lo : ∀ (d : D) (u : Value) (bs : List Addr), nod d = true → Reads s.heap u d bs → h'.objs.size ∉ bs := fun d u bs n rr z => by
      exact Nat.lt_asymm hlt (reads_lt d u bs n rr _ z)
    refine ⟨_, .tuple (ka _ _ g7) rfl rfl (.cons w1 (.cons w2 .nil)), ?_⟩
    intro z
    simp at z
    rcases z with z | z
    · exact lo _ _ _ n1 r1 z
    · exact lo _ _ _ n2 r2 z
  refine W.list_sort_data (s := { s with heap := h2, toks := tk }) (enc := fun z : Addr × D × D => itemD z.2) hob eR eRd ?_ ?_ (by rw [zl]; exact ln) (fun z hz => ?_) fun out hout eo => ?_
  · have m : (as.zip qs).map (fun z : Addr × D × D => itemD z.2) = qs.map itemD := by
      rw [show (fun z : Addr × D × D => itemD z.2) = itemD ∘ (fun z : Addr × D × D => z.2) from rfl, ← List.map_map, show (as.zip qs).map (fun z : Addr × D × D => z.2) = qs from List.map_snd_zip (by omega)]
    rw [m]; exact al
  · have m : (as.zip qs).map (fun z : Addr × D × D => itemD z.2) = qs.map itemD := by
      rw [show (fun z : Addr × D × D => itemD z.2) = itemD ∘ (fun z : Addr × D × D => z.2) from rfl, ← List.map_map, show (as.zip qs).map (fun z : Addr × D × D => z.2) = qs from List.map_snd_zip (by omega)]
    rw [m]; exact so
  · obtain ⟨j, j1, j2⟩ := zmem z hz
    have d1 := dp (itemD z.2) (List.mem_map.mpr ⟨z.2, List.mem_of_getElem? j2, rfl⟩)
    have d2 : X.A.in1.units = X.A.units + 1 := rfl
    show X.A.in1.units + 1 + (itemD z.2).depth < cLine
    omega
  · show EP X pins σ Q (.ref h'.objs.size) { s with heap := sortedHeap h2 h'.objs.size (as.map Value.ref) out.toArray, toks := tk }
    generalize hzs : (as.zip qs).mergeSort (W.dataLe false fun z : Addr × D × D => itemD z.2) = zs at eo
    have pz : zs.Perm (as.zip qs) := by rw [← hzs]; exact List.mergeSort_perm _ _
    have hm : zs.map (fun z => itemD z.2) = sortD (qs.map itemD) := by
      rw [← hzs]
      have m : (as.zip qs).map (fun z : Addr × D × D => itemD z.2) = qs.map itemD := by
        rw [show (fun z : Addr × D × D => itemD z.2) = itemD ∘ (fun z : Addr × D × D => z.2) from rfl, ← List.map_map, show (as.zip qs).map (fun z : Addr × D × D => z.2) = qs from List.map_snd_zip (by omega)]
      rw [← m]
      exact W.sort_maps (fun z : Addr × D × D => itemD z.2) fun a _ b _ => rfl
    have hvr : out = zs.map fun z => Value.ref z.1 := by
      clear hout hzs pz hm
      have g : ∀ (out : List Value) (zs : List (Addr × D × D)), W.EachIs (fun (v : Value) (z : Addr × D × D) => v = .ref z.1 ∧ z ∈ as.zip qs) out zs → out = zs.map fun z => Value.ref z.1 := fun out => by
        induction out with
        | nil => intro zs h; cases zs with
          | nil => rfl
          | cons _ _ => cases h
        | cons o out ih => intro zs h; cases zs with
          | nil => cases h
          | cons z zs => cases h with
            | cons h1 h2 => rw [List.map_cons, ih zs h2, h1.1]
      exact g out zs eo
    have kF : ∀ b o, b ≠ h'.objs.size → h2.get? b = some o → (sortedHeap h2 h'.objs.size (as.map Value.ref) out.toArray).get? b = some o := fun b o hb e => (PyProof.Rows.sortedHeap_old hb (Heap.lt_size e)).trans e
    have kS : ∀ b o, s.heap.get? b = some o → (sortedHeap h2 h'.objs.size (as.map Value.ref) out.toArray).get? b = some o := fun b o e => kF b o (ne0 _ _ (hk b o e)) (kb b o e)
    obtain ⟨eF, heF⟩ := PyProof.Rows.sortedHeap_at (vs := as.map Value.ref) (out := out.toArray) hob
    have I1 : Inv X pins σ H { s with heap := sortedHeap h2 h'.objs.size (as.map Value.ref) out.toArray, toks := tk } := I.kept (t' := tk) kS
    have hn0 : H h'.objs.size = none := I.hok.fresh (Nat.le_of_lt hlt)
    have zlen : zs.length = qs.length := by rw [pz.length_eq, zl]
    have hlen : (zs.map fun z => V.ref z.1).length ≤ sizeLine := by rw [List.length_map, zlen]; exact ln
    have rv : Vals (zs.map fun z => V.ref z.1) out := by
      rw [hvr]
      exact vals_maps (fun z : Addr × D × D => V.ref z.1) (fun z => Value.ref z.1) zs fun _ _ => rfl
    have I2 : Inv X pins σ (upd H h'.objs.size (.lst (zs.map fun z => V.ref z.1))) { s with heap := sortedHeap h2 h'.objs.size (as.map Value.ref) out.toArray, toks := tk } :=
      I1.take (h' := sortedHeap h2 h'.objs.size (as.map Value.ref) out.toArray) (t' := tk) (fun b ob _ e => e) (I.fpOk (Nat.le_of_lt hlt) hn0) ⟨hlen, out, eF, rv, heF⟩
    obtain ⟨H2, I3, g, qt⟩ := L2.DX.takeT (P := fun b vs => ∃ (j : Nat) (pp : V × V), as[j]? = some b ∧ ps[j]? = some pp ∧ vs = [pp.1, pp.2]) I as _ I2 ndA fun b hb => by
      obtain ⟨j, hj⟩ := List.mem_iff_getElem?.mp hb
      obtain ⟨pp, qq, u, v, g1, g2, g3, g4, g5, g6, g7⟩ := pr j b hj
      have hbl : s.heap.objs.size ≤ b := Nat.le_of_lt (hG.above b hb)
      refine ⟨hbl, ?_, [pp.1, pp.2], ⟨j, pp, hj, g1, rfl⟩, fun H3 => ⟨(by rw [sizeLine_eq]; show 2 ≤ 16777216; omega), [u, v], .cons g3 (.cons g4 .nil), ⟨_, kF _ _ (ne0 _ _ g7) (ka _ _ g7), rfl, 0, rfl⟩⟩⟩
      rw [upd_ne (ne0 _ _ g7)]
      exact I.hok.fresh hbl
    have gr : ∀ b o, H b = some o → H2 b = some o := fun b o e => g b o (by rw [upd_ne (ne_of_none e hn0)]; exact e)
    have newA : ∀ b ∈ as, H b = none := fun b hb => I.hok.fresh (Nat.le_of_lt (hG.above b hb))
    have lna : h'.objs.size ∉ as := fun z => by
      obtain ⟨j, hj⟩ := List.mem_iff_getElem?.mp z
      obtain ⟨_, _, _, _, _, _, _, _, _, _, g7⟩ := pr j _ hj
      exact ne0 _ _ g7 rfl
    have eF2 : Ex F.f H2 := e.trans gr
    have gw : Grow F H (F.more as H2) H2 := ⟨Fz.more_old, rfl, gr, fun a o h => by
      rcases Fz.more_in h with z | ⟨_, z⟩
      · exact eF2 a o z
      · exact z, fun a o h => by
      rcases Fz.more_in h with z | ⟨z, _⟩
      · exact .inl z
      · exact .inr (.inl (newA a z))⟩
    have fl : (F.more as H2).f h'.objs.size = none := by
      cases w : (F.more as H2).f h'.objs.size with
      | none => rfl
      | some o =>
        rcases Fz.more_in w with z | ⟨z, _⟩
        · have := e _ _ z; rw [hn0] at this; cases this
        · exact absurd z lna
    refine ⟨.ref h'.objs.size, H2, I3, rfl, q _ H2 h'.objs.size _ gw hn0 fl (g _ _ upd_same) ?_⟩
    rw [← hm]
    have fin : ∀ zs : List (Addr × D × D), (∀ z ∈ zs, z ∈ as.zip qs) → VpAll X.kc (F.more as H2) (zs.map fun z => V.ref z.1) (zs.map fun z => itemD z.2) := fun zs => by
      induction zs with
      | nil => intro _; exact .nil
      | cons z zs ih =>
        intro hz
        obtain ⟨j, j1, j2⟩ := zmem z (hz z List.mem_cons_self)
        have hza : z.1 ∈ as := List.mem_of_getElem? j1
        obtain ⟨vs, ⟨i, pp, i1, i2, ev⟩, hH⟩ := qt z.1 hza
        have eij : i = j := (List.getElem?_inj (List.getElem?_eq_some_iff.mp i1).1 ndA).mp (i1.trans j1.symm)
        subst eij
        obtain ⟨pp', qq, u, v, g1, g2, g3, g4, g5, g6, g7⟩ := pr i z.1 j1
        rw [i2] at g1; cases g1
        rw [j2] at g2; cases g2
        subst ev
        refine .cons ?_ (ih fun y hy => hz y (List.mem_cons_of_mem _ hy))
        exact .tup (.flat (nq _ (List.mem_of_getElem? j2)) (Fz.more_at eF2 hza hH)) (.cons (Vp.up gw.fe _ _ g5) (.cons (Vp.up gw.fe _ _ g6) .nil))
    exact fin zs fun z hz => pz.mem_iff.mp hz
end
end CM
end
section
set_option Elab.async false
set_option linter.all false
set_option maxRecDepth 100000
set_option autoImplicit false
namespace CM
open PySem PySem.Spec PyProof.Rows L2 PySem.SeqAt PySem.W
section
variable {X : Cx}
def rItemsD : V → List V → Hp → VK → Prop := fun x xs H Q => ∃ a, x = .ref a ∧ xs = [] ∧ IsD H a ∧ ∀ p, H p = none → Q (.ref p) (upd H p (L2.DX.itemsO p a))
theorem mt_itemsD : MtR X "dict.items" rItemsD := by
  intro pins s σ H x xs v us Q I rx rxs h
  obtain ⟨a, rfl, rfl, d, q⟩ := h
  cases rx
  cases rxs
  have raw : ∃ es ep, DT.Raw s.heap a es ep ∧ (a == sysModules) = false := by
    rcases d with ⟨kvs, e⟩ | ⟨kvs, e⟩
    · obtain ⟨es, ep, r, h, _⟩ := raw_k I e; exact ⟨es, ep, r, h⟩
    · obtain ⟨es, ep, r, h, _⟩ := raw_t I e; exact ⟨es, ep, r, h⟩
  obtain ⟨es, ep, raw, hd⟩ := raw
  refine DT.callItems (es := es) (ep := ep) hd raw ?_
  have hf : H s.heap.objs.size = none := I.hok.fresh (Nat.le_refl _)
  exact ⟨.ref s.heap.objs.size, upd H s.heap.objs.size (L2.DX.itemsO s.heap.objs.size a), I.laid (t' := s.toks) (fun b u e => Heap.get?_push_of_some _ e) (Nat.le_refl _) (L2.DX.itemsO_ok (Heap.get?_push_size _ rfl)), rfl, q _ hf⟩
/-- the items of a dict with plain keys -/
def itemsC : C → Option (List (D × D))
  | .dk kvs => some (kvs.map fun e => (kD e.1, e.2))
  | _ => none
def gSortIt (c : C) : Option Res := (itemsC c).bind fun qs => if sortB (qs.map itemD) = true then some (.fr (.d (.list (sortD (qs.map itemD))))) else none
theorem kV_vp {K : KC} {F : Fz} (k : Ky) : Vp K F (kV k) (kD k) := by
  cases k with
  | inl i => exact .int i
  | inr x => exact .str x
theorem items_at {F : Fz} {H : Hp} {a : Addr} {es : List (Key × V)} {kvs : List (Ky × D)} (rd : Rd H a (.dK es)) (kv : KVs X.kc F es kvs) {pins : List (Addr × Obj)} {σ : L2.St} {s : Shared} (I : Inv X pins σ H s) :
    ItemsAt X F s a (es.map fun e => (kV e.1, e.2)) (kvs.map fun e => (kD e.1, e.2)) := by
  obtain ⟨en, ep, raw, hd, sz, sl, at'⟩ := raw_k I rd
  refine ⟨⟨en, ep, raw, by rw [List.length_map]; exact sz, sl, fun i hi => ?_⟩, by rw [List.length_map, List.length_map]; exact kv.length⟩
  obtain ⟨p, h1, h2, h3⟩ := at' i hi
  obtain ⟨q, g1, g2, g3⟩ := LiI.paired_get kv h1
  refine ⟨(kV p.1, p.2), (kD q.1, q.2), by rw [List.getElem?_map, h1]; rfl, by rw [List.getElem?_map, g1]; rfl, h2, h3, ?_, g3⟩
  show Vp X.kc F (kV p.1) (kD q.1)
  rw [g2]
  exact kV_vp _
variable {e : Expr} {fa : EF} {qb : Bool} {p pos apos cpos : Pos}
theorem de_sortItems (hc : X.calm = true) (hu : X.A.units + 64 < cLine) (ha : DE X qb e fa) (hg : Gl X "sorted") (hm : X.mg "sorted" = none) (hv : bootBuiltins "sorted" = some (.builtin "sorted"))
    (hbase : attributeBase e "items" X.env (eval e X.env) = eval e X.env := by rfl) (hline : (apos.endLine == cpos.line) = true := by rfl)
    (he : starEach [.Call (.Attribute e "items" apos) [] [] cpos] X.env = (false, eval (.Call (.Attribute e "items" apos) [] [] cpos) X.env) :: starEach [] X.env := by rfl) (hpl : (backTo pos (starEach [] X.env)).any (·.1) = false := by rfl) :
    DE X qb (.Call (.Name "sorted" p) [.Call (.Attribute e "items" apos) [] [] cpos] [] pos) (eUn gSortIt fa) := by
  obtain ⟨t, a1, a2⟩ := ha.ex
  refine ⟨_, pe_callB (cr_sortItems hc hu) hg hm hv (pa_cons (pe_dm0 PySem.F.slot_dict_items PySem.F.type_dict_items mt_itemsD a1 hbase hline) pa_nil he) (by decide) (by decide) he hpl, fun B H0 F0 F H σ r z r' q j Q k => ?_⟩
  simp only [eUn, gSortIt, Option.bind_eq_some_iff] at q
  obtain ⟨⟨z1, r1⟩, q1, u, q2, w, ⟨qs, q3, q4⟩, q5⟩ := q
  split at q4
  · rename_i sB
    cases q4
    cases q5
    refine a2 _ _ _ _ _ _ _ _ _ q1 j _ fun F1 H1 v g1 j1 k1 => ?_
    have b := k1.look j1 q2
    cases u with
    | dk kvs =>
      cases q3
      obtain ⟨a, es, rfl, rd, kv⟩ := b
      refine ⟨⟨a, rfl, .inl ⟨es, rd⟩⟩, a, rfl, rfl, .inl ⟨es, rd⟩, fun n hn => ?_⟩
      have ga : Grow F1 H1 F1 (upd H1 n (L2.DX.itemsO n a)) := .lay j1.fh hn
      have j2 := j1.grow ga
      refine ⟨F1, n, a, rfl, j2.fh, upd_same, _, fun pins σ s I => ⟨_, items_at ((Ex.new hn).rd rd) kv I⟩, sB, (fun q hq => by obtain ⟨w, _, rfl⟩ := List.mem_map.mp hq; cases w.1 <;> rfl), fun F2 H2 l ts gw hl hf hH vp => ?_⟩
      have ht : F1.t l = none := by
        cases w : F1.t l with
        | none => rfl
        | some u => exact absurd hl (j2.so.sep l u w).2.1
      exact k _ _ _ ((g1.qt ga.ge).qt gw.ge) (j2.grow gw) (RetOk.res j2 gw ⟨l, rfl, hl, hf, by rw [gw.t]; exact ht, ts, hH, vp⟩)
    | d x => cases q3
    | dt kvs => cases q3
  · cases q4
/-! ### sum(d.values()) -/
def rSumVals : List V → Hp → VK → Prop := fun xs H Q => ∃ (p a : Addr) (is : List Int), xs = [.ref p] ∧ H p = some (valuesO p a) ∧ ValsAt H a (is.map V.int) ∧ Q (.int is.sum) H
theorem preSum_list : ∀ (is : List Int), preSum (fun i => is.getD i 0) is.length = is.sum
  | [] => rfl
  | i :: is => by
    rw [List.length_cons, kdu_shift]
    show (i :: is).getD 0 0 + preSum (fun k => (i :: is).getD (k + 1) 0) is.length = _
    have e : (fun k => (i :: is).getD (k + 1) 0) = fun k => is.getD k 0 := by funext k; rfl
    rw [e, preSum_list is]
    rfl
theorem cr_sumVals (hc : X.calm = true) : CallR X (.builtin "sum") rSumVals := by
  intro pins s σ H xs us Q I rxs h
  obtain ⟨p, a, is, rfl, hp, hv, q⟩ := h
  rw [Vals.ref1 rxs]
  obtain ⟨es, ep, raw, hd, sz, sl, at'⟩ := vals_raw I hv
  have view : s.heap.IsValuesView p a := (I.hok p _ hp).1
  have sz' : es.size = is.length := by rw [sz, List.length_map]
  refine call_sum_walkAnyS ?_
  obtain ⟨oI, St, hit, W, st⟩ := (KdlSrc.rawValues (prog := X.prog) (w := X.w) (r := p) (d := a) (es := es) (ep := ep)).iter X.A.in1 s (I.ok.hd hc) ⟨view, raw⟩
  have there := (KdlSrc.rawValues (prog := X.prog) (w := X.w) (r := p) (d := a) (es := es) (ep := ep)).there s.heap ⟨view, raw⟩
  refine hit _ _ ⟨s.heap.objs.size, _, _, _, es.size, fun i v => ∃ hi : i < es.size, v = es[i].val, _, fun i => is.getD i 0, rfl, W.toS, st, ?hb, ?hv, ?hm⟩
  case hb =>
    intro b hb
    show b < (s.heap.push oI).objs.size
    rw [size_push']
    rcases List.mem_cons.mp hb with e | hb
    · rw [e]; exact Nat.lt_succ_self _
    · rw [List.mem_singleton.mp hb]; exact Nat.lt_succ_of_lt there.2
  case hv =>
    rintro i v ⟨hi, e⟩
    obtain ⟨x, e1, e2⟩ := at' i hi
    rw [List.getElem?_map] at e1
    cases e3 : is[i]? with
    | none => rw [e3] at e1; cases e1
    | some n =>
      rw [e3] at e1
      cases e1
      obtain ⟨t, e2⟩ := e2
      exact ⟨t, by rw [e, e2]; simp [List.getD, e3]⟩
  case hm =>
    intro s' t' hm
    have hk : ∀ b o, s.heap.get? b = some o → s'.heap.get? b = some o := fun b o e =>
      hm.heap b o (fun hI => absurd (Heap.lt_size e) (by rw [List.mem_singleton.mp hI]; exact Nat.lt_irrefl _)) (Heap.get?_push_of_some _ e)
    rw [Moved.eq_with hm]
    refine ⟨.int is.sum, H, I.kept (t' := s'.toks) hk, ⟨t', ?_⟩, q⟩
    rw [sz', preSum_list]
def gSumV (c : C) : Option Res := (valsC c).bind fun ds => (intsD ds).bind fun is => some (.sh (.int is.sum))
theorem de_sumV (hc : X.calm = true) (ha : DE X qb e fa) (hg : Gl X "sum") (hm : X.mg "sum" = none) (hv : bootBuiltins "sum" = some (.builtin "sum"))
    (hbase : attributeBase e "values" X.env (eval e X.env) = eval e X.env := by rfl) (hline : (apos.endLine == cpos.line) = true := by rfl)
    (he : starEach [.Call (.Attribute e "values" apos) [] [] cpos] X.env = (false, eval (.Call (.Attribute e "values" apos) [] [] cpos) X.env) :: starEach [] X.env := by rfl) (hpl : (backTo pos (starEach [] X.env)).any (·.1) = false := by rfl) :
    DE X qb (.Call (.Name "sum" p) [.Call (.Attribute e "values" apos) [] [] cpos] [] pos) (eUn gSumV fa) := by
  obtain ⟨t, a1, a2⟩ := ha.ex
  refine ⟨_, pe_callB (cr_sumVals hc) hg hm hv (pa_cons (pe_dm0 PySem.F.slot_dict_values PySem.F.type_dict_values mt_valsD a1 hbase hline) pa_nil he) (by decide) (by decide) he hpl, fun B H0 F0 F H σ r z r' q j Q k => ?_⟩
  simp only [eUn, gSumV, Option.bind_eq_some_iff] at q
  obtain ⟨⟨z1, r1⟩, q1, u, q2, w, ⟨ds, q3, is, q4, q5⟩, q6⟩ := q
  cases q5
  cases q6
  refine a2 _ _ _ _ _ _ _ _ _ q1 j _ fun F1 H1 v g1 j1 k1 => ?_
  obtain ⟨a, vs, rfl, va, vp⟩ := vals_bd (k1.look j1 q2) q3
  refine ⟨⟨a, rfl, va.isD⟩, a, rfl, rfl, va.isD, fun n hn => ?_⟩
  have ga : Grow F1 H1 F1 (upd H1 n (valuesO n a)) := .lay j1.fh hn
  have ev := ints_vs q4 vp
  subst ev
  exact ⟨n, a, is, rfl, upd_same, va.up (.new hn), k _ _ _ (g1.qt ga.ge) (j1.grow ga) (.int _)⟩
end
end CM
end
section
set_option Elab.async false
set_option linter.all false
set_option maxRecDepth 100000
set_option autoImplicit false
namespace CM
open PySem PySem.Spec PyProof.Rows L2 PySem.SeqAt PySem.W
/-! ### sorted by a key that is a def -/
/-! ### the calls -/
mutual
theorem Vp.plain {K : KC} {F F' : Fz} (e : Ex F.f F'.f) : ∀ (d : D) (v : V), nod d = true → Vp K F v d → Vp K F' v d
  | .none, _, _, h => by cases h; exact .non
  | .bool b, _, _, h => by cases h; exact .bl b
  | .int i, _, _, h => by cases h; exact .int i
  | .str x, _, _, h => by cases h; exact .str x
  | .list ds, _, n, h => by
    cases h with
    | lst hs ha => exact .lst (e.l hs) (VpAll.plain e ds _ (by unfold nod at n; exact n) ha)
  | .tuple ds, _, n, h => by
    cases h with
    | tup hs ha => exact .tup (hs.up e) (VpAll.plain e ds _ (by unfold nod at n; exact n) ha)
  | .dict _, _, n, h => by unfold nod at n; cases n
theorem VpAll.plain {K : KC} {F F' : Fz} (e : Ex F.f F'.f) : ∀ (ds : List D) (vs : List V), nods ds = true → VpAll K F vs ds → VpAll K F' vs ds
  | [], _, _, h => by cases h; exact .nil
  | d :: ds, _, n, h => by
    cases h with
    | cons h1 h2 => exact .cons (Vp.plain e d _ (nods_cons n).1 h1) (VpAll.plain e ds _ (nods_cons n).2 h2)
end
def keysD (f : DF) : List D → Option (List D)
  | [] => some []
  | d :: ds => (f [.d d] []).bind fun p => match p.1 with
    | .sh k => (keysD f ds).bind fun ks => some (k :: ks)
    | _ => none
theorem keysD_get {f : DF} : ∀ {ds ks : List D} {i : Nat} {d : D}, keysD f ds = some ks → ds[i]? = some d → ∃ k st', ks[i]? = some k ∧ f [.d d] [] = some (.sh k, st')
  | [], _, i, d, _, h => by simp at h
  | x :: ds, ks, i, d, q, h => by
    simp only [keysD, Option.bind_eq_some_iff] at q
    obtain ⟨⟨z, st'⟩, q1, q2⟩ := q
    cases z with
    | sh k =>
      simp only [Option.bind_eq_some_iff] at q2
      obtain ⟨ks', q3, q4⟩ := q2
      cases q4
      cases i with
      | zero => cases h; exact ⟨k, st', rfl, q1⟩
      | succ i => exact keysD_get (i := i) q3 (by simpa using h)
    | _ => cases q2
theorem keysD_len {f : DF} : ∀ {ds ks : List D}, keysD f ds = some ks → ks.length = ds.length
  | [], _, q => by cases q; rfl
  | x :: ds, ks, q => by
    simp only [keysD, Option.bind_eq_some_iff] at q
    obtain ⟨⟨z, st'⟩, q1, q2⟩ := q
    cases z with
    | sh k =>
      simp only [Option.bind_eq_some_iff] at q2
      obtain ⟨ks', q3, q4⟩ := q2
      cases q4
      simp [keysD_len q3]
    | _ => cases q2
section
variable {X : Cx} {k : Nat} {f : Addr} {fd : FuncData} {ps : List Str} {m : Bool} {g : DF}
theorem key_call (F0 : FnOk X.prog X.w X.K X.mg X.base CX0 k f fd ps (spD X.kc [m] g)) (hr : Room (k + 2) X.A) (hb : Binds X.K fd ps []) {pins : List (Addr × Obj)} {σ : L2.St} {H : Hp} {s : Shared} {F : Fz} {x : V} {v : Value} {d kd : D} {st' : Store}
    (I : Inv X pins σ H s) (e : Ex F.f H) (r : RelV x v) (vd : Vp X.kc F x d) (nd : nod d = true) (nk : nod kd = true) (q : g [.d d] [] = some (.sh kd, st')) :
    wpAny (model X.prog X.w) X.A.in1.in1 (call (.ref f) [v]) (EP X pins σ fun y H' => ∃ F', Grow F H F' H' ∧ Vp X.kc F' y kd) (fun _ _ => False) s := by
  have r2 : Vals [x] [v] := .cons r .nil
  let Fe : Fz := ⟨F.f, fun _ => none⟩
  have pv : priv Fe H = H := by
    funext a
    rfl
  have vd' : Vp X.kc Fe x d := Vp.plain (F := F) (F' := Fe) (Ex.refl F.f) d x nd vd
  have hsp : spD X.kc [m] g [x] H (fun y H' => ∃ F', Grow F H F' H' ∧ Vp X.kc F' y kd) (fun _ _ _ => False) := by
    refine ⟨Fe, [.d d], [], .sh kd, st', e, ⟨?_, ?_, ?_, ?_, ?_, ?_, ?_, ?_, ?_, fun p n h => by cases h⟩, ?_, q, fun F' H' y g4 s4 o4 => ?_⟩
    · intro p n q; cases q
    · intro p q t z _; cases z
    · intro p t q; cases q
    · intro p t q; cases q
    · intro p n f q; cases q
    · intro p n f q; cases q
    · intro p n f c q; cases q
    · intro p n f c q; cases q
    · intro p q n b w; cases w
    · rw [pv]
      cases m with
      | true => exact ⟨⟨d, rfl, vd'⟩, trivial⟩
      | false => exact ⟨Bd.of vd' e, trivial⟩
    · rw [pv] at g4
      have o4 : Vp X.kc F' y kd := o4
      refine ⟨⟨F'.f, F.t⟩, ⟨g4.f.f, rfl, g4.h, g4.fh, fun a o z => g4.nw a o z⟩, Vp.plain (F := F') (F' := ⟨F'.f, F.t⟩) (Ex.refl F'.f) kd y nk o4⟩
  have hl : ([v] : List Value).length = ps.length := F0.len _ _ _ _ hsp
  have hb' := hb s [v] I.kIn (by simpa using hl)
  rw [List.append_nil] at hb'
  refine wpAny_call (codeAny_mono (F0.run X.A.in1.in1 X.stack s H ⟨[v], []⟩ [v] [x] _ _ (hr.in1.in1) I.env0.in1.in1 hb' r2 hsp) fun r s' hq => ?_)
  cases r with
  | error e => exact hq
  | ok fl =>
    cases fl with
    | ret u => exact I.after hq
    | next => exact False.elim hq
    | brk => exact False.elim hq
    | cont => exact False.elim hq
end
end CM
end
section
set_option Elab.async false
set_option linter.all false
set_option maxRecDepth 100000
set_option autoImplicit false
namespace CM
open PySem PySem.Spec PyProof.Rows L2 PySem.SeqAt PySem.W
def sortKD (rev : Bool) (ds ks : List D) : List D := ((ds.zip ks).mergeSort (W.dataLe rev fun p : D × D => p.2)).map (·.1)
section
variable {X : Cx} {k : Nat} {f : Addr} {fd : FuncData} {ps : List Str} {m : Bool} {g : DF}
/-- two records of ours have changed, the one of them is tracked from now on -/
theorem both_taken {pins : List (Addr × Obj)} {σ : L2.St} {H : Hp} {s : Shared} {h' : Heap} {tk : Nat} {a c : Addr} {ob ob' : Obj} {u : HO} (I : Inv X pins σ H s) (fa : FpOk X pins H a) (fc : FpOk X pins H c) (hac : c ≠ a) (q0 : s.heap.get? a = some ob) (q1 : h'.get? a = some ob')
    (keep : ∀ x o, x ≠ a → x ≠ c → s.heap.get? x = some o → h'.get? x = some o) (new : ObjOk X.prog X.w (upd H a u) h' a u) : Inv X pins σ (upd H a u) { s with heap := h', toks := tk } := by
  -- h' with a as it was
  have live : ob.isFreed = false := (Heap.get?_some_iff.mp q0).2
  have ha : (h'.update a fun _ => ob).get? a = some ob := Heap.get?_update_self (fun _ => ob) q1 live
  have hx : ∀ x, x ≠ a → (h'.update a fun _ => ob).get? x = h'.get? x := fun x z => Heap.get?_update_ne _ _ _ _ z
  obtain ⟨c1, c2, _, c3, c4, c5⟩ := fc
  have I1 := I.turned (t' := tk) (it := c) (h' := h'.update a fun _ => ob) (fun x o z e => by
    by_cases y : x = a
    · rw [y] at e ⊢
      rw [q0] at e
      rw [ha]
      exact e
    · rw [hx x y]; exact keep x o y z e) c1 c2 c3 c4 c5
  exact I1.take (t' := tk) (h' := h') (fun x o z e => by rw [← hx x z]; exact e) fa new
/-- what a key store holds -/
def KsOk (X : Cx) (F : Fz) (us : List Value) (ks : List D) : Prop := W.EachIs (fun u kd => ∃ kv, RelV kv u ∧ Vp X.kc F kv kd) us ks
theorem KsOk.up {F F' : Fz} (e : FEi F F') {us : List Value} {ks : List D} (h : KsOk X F us ks) : KsOk X F' us ks := h.mono fun _ _ ⟨kv, a, b⟩ => ⟨kv, a, Vp.up e _ _ b⟩
theorem get_lt_ne {h : Heap} {x : Addr} (hx : h.objs.size ≤ x) : h.get? x = none := by
  cases q : h.get? x with
  | none => rfl
  | some o => exact absurd (Heap.lt_size q) (Nat.not_lt.mpr hx)
theorem sortKey_tree (F0 : FnOk X.prog X.w X.K X.mg X.base CX0 k f fd ps (spD X.kc [m] g)) (hr : Room (k + 2) X.A) (hb : Binds X.K fd ps []) {pins : List (Addr × Obj)} {σ : L2.St} {H : Hp} {s : Shared} {F : Fz} {b : Bool} {a : Addr} {its : List Value} {xs : List V} {ds ks : List D} {n : Nat} {s0 : Shared}
    (I0 : Inv X pins σ H s0) (ha0 : s0.heap.objs.size ≤ a) (hz0 : s0.heap.objs.size ≤ s.heap.objs.size) (I : Inv X pins σ H s) (e : Ex F.f H) (ho : s.heap.get? a = some (seqObj "list" its.toArray n)) (rv : Vals xs its) (vp : VpAll X.kc F xs ds) (hn : H a = none)
    (nd : nods ds = true) (kq : keysD g ds = some ks) (sB : sortB ks = true) {E : Value → Shared → Prop} {Q : Shared → Prop}
    (h : ∀ (s' : Shared) (H' : Hp) (F' : Fz) (zs : List V), Inv X pins σ H' s' → Grow F H F' H' → H' a = some (.lst zs) → H a = none → F'.f a = none → VpAll X.kc F' zs (sortKD b ds ks) → Q s') :
    wpAny (model X.prog X.w) X.A.in1.in1 (ksk_tree a (.ref f) b) (fun fl s' => fl = .done (.ret .none) ∧ Q s') E s := by
  obtain ⟨nk, al, so, dp, ln⟩ := sortB_ok sB
  have lk := keysD_len kq
  have lx : xs.length = ds.length := VpAll.length vp
  have li : its.length = ds.length := by rw [← rv.length, lx]
  have hZ : its.length ≤ sizeLine := by omega
  have ha : a < s.heap.objs.size := Heap.lt_size ho
  obtain ⟨e1, ho1⟩ : ∃ e1, (s.heap.update a (Obj.mapSeq fun _ => (#[] : Array Value))).get? a = some (seqObj "list" #[] e1) := ⟨_, get?_update_seq ho fun _ => #[]⟩
  have hkS : ((s.heap.update a (Obj.mapSeq fun _ => (#[] : Array Value))).push (seqObj "tuple" its.toArray 0)).objs.size = s.heap.objs.size + 1 := by rw [size_push', Heap.size_update]
  unfold ksk_tree
  refine wpAny_bind (listItems_at ho rfl ?_)
  refine wpAny_bind (listUpdate_at ho rfl ?_ (by rw [List.size_toArray]; exact hZ) (Nat.zero_le _))
  refine wpAny_bind (seqEpoch_at ho1 rfl ?_)
  refine wpAny_bind (wpAny_newTuple ?_ (by show its.length ≤ _; exact hZ))
  refine wpAny_bind (wpAny_newList ?_ (Nat.zero_le _))
  refine wpAny_holding ?_
  -- the heap ahead of the calls
  have fa : FpOk X pins H a := I0.fpOk ha0 hn
  obtain ⟨_, fa2, fa3, fa4, fa5, fa6⟩ := fa
  have old : ∀ x o, x ≠ a → s.heap.get? x = some o → (sortingHeap s.heap a its).get? x = some o := fun x o hx q => sortingHeap_old hx q
  have I1 : Inv X pins σ H { s with heap := sortingHeap s.heap a its } := I.turned (t' := s.toks) (it := a) old hn fa2 fa4 fa5 fa6
  show wpAny _ _ (ksk_rest a (.ref f) b its.toArray e1 (.ref ((s.heap.update a (Obj.mapSeq fun _ => (#[] : Array Value))).push (seqObj "tuple" its.toArray 0)).objs.size)) _ _ { s with heap := sortingHeap s.heap a its }
  rw [hkS]
  have nkS : (sortingHeap s.heap a its).get? (s.heap.objs.size + 1) = some (seqObj "list" #[] 0) := by
    rw [← hkS]; exact Heap.get?_push_size _ rfl
  have na0 : (sortingHeap s.heap a its).get? a = some (seqObj "list" #[] e1) := Heap.get?_push_of_some _ (Heap.get?_push_of_some _ ho1)
  have hka : s.heap.objs.size + 1 ≠ a := Nat.ne_of_gt (Nat.lt_succ_of_lt ha)
  have hnS : H (s.heap.objs.size + 1) = none := I.hok.fresh (Nat.le_succ _)
  have sz0 : s0.heap.objs.size ≤ s.heap.objs.size + 1 := Nat.le_succ_of_le hz0
  generalize hkSd : s.heap.objs.size + 1 = kS at *
  generalize sortingHeap s.heap a its = hp0 at *
  unfold ksk_rest
  refine wpAny_bind (wpAny_rule ?_)
  first
    | rw [List.forIn_toArray]
    | (rw [← Array.forIn_toList]; simp only [List.toList_toArray])
    | rw [← Array.forIn_toList]
  refine wpAny_bind (ksk_fold (fun i s' => ∃ H' F' kA ep, Inv X pins σ H' s' ∧ Grow F H F' H' ∧ H' a = none ∧ H' kS = none ∧ s'.heap.get? kS = some (seqObj "list" kA ep) ∧ s'.heap.get? a = some (seqObj "list" #[] e1) ∧ KsOk X F' kA.toList (ks.take i)) its 0 _
    ⟨H, F, #[], 0, I1, .refl e, hn, hnS, nkS, na0, by rw [List.take_zero]; exact W.EachIs.nil⟩ ?step ?done)
  case step =>
    rintro j u s' hu ⟨H', F', kA, ep, I', gw, hn', hnS', nk', na', hk⟩
    simp only [Nat.zero_add] at hk ⊢
    have hj : j < its.length := (List.getElem?_eq_some_iff.mp hu).1
    obtain ⟨d, hd⟩ : ∃ d, ds[j]? = some d := ⟨_, List.getElem?_eq_getElem (by omega)⟩
    obtain ⟨x, hx, vx⟩ := VpAll.get vp hd
    obtain ⟨u', hu', rx⟩ := Vals.get rv hx
    rw [hu] at hu'; cases hu'
    obtain ⟨kd, st', hkd, gq⟩ := keysD_get kq hd
    have hnd : nod d = true := nods_mem nd (List.mem_of_getElem? hd)
    have hnk : nod kd = true := nods_mem nk (List.mem_of_getElem? hkd)
    have fpa : ∀ x ∈ [a, kS], FpOk X pins H' x := fun x hx => by
      rcases List.mem_cons.mp hx with z | z
      · rw [z]; exact I0.fpOk ha0 hn'
      · rw [List.mem_singleton.mp z]; exact I0.fpOk sz0 hnS'
    have Ip := I'.pinned (fp := [a, kS]) fpa fun x hx => by
      rcases List.mem_cons.mp hx with z | z
      · rw [z]; exact ⟨_, na', fun v z => by cases z⟩
      · rw [List.mem_singleton.mp z]; exact ⟨_, nk', fun v z => by cases z⟩
    refine wpAny_bind (wpAny_attempt (wpAny_mono (key_call F0 hr hb Ip gw.fh rx (Vp.up gw.fe _ _ vx) hnd hnk gq) (fun v s2 he => ?_) fun _ _ hF => hF.elim))
    obtain ⟨y, H2, I2, ry, F2, gw2, vy⟩ := he
    have pa : (a, seqObj "list" #[] e1) ∈ pinsAt [a, kS] s'.heap := by
      unfold pinsAt
      rw [List.mem_filterMap]
      exact ⟨a, by simp, by rw [na']; rfl⟩
    have pS : (kS, seqObj "list" kA ep) ∈ pinsAt [a, kS] s'.heap := by
      unfold pinsAt
      rw [List.mem_filterMap]
      exact ⟨kS, by simp, by rw [nk']; rfl⟩
    obtain ⟨na2, hn2, _⟩ := I2.pin _ (List.mem_append_right _ (List.mem_append_right _ pa))
    obtain ⟨nk2, hnS2, _⟩ := I2.pin _ (List.mem_append_right _ (List.mem_append_right _ pS))
    have I3 := I2.unpinned
    try dsimp only at *
    have hz : kA.size ≤ its.length := by
      have h1 := hk.length
      rw [Array.length_toList, List.length_take] at h1
      omega
    have s1 := Heap.SameBut.update s2.heap kS (Obj.mapSeq (·.push v))
    obtain ⟨c2, hc2⟩ : ∃ c2, (s2.heap.update kS (Obj.mapSeq (·.push v))).get? kS = some (seqObj "list" (kA.push v) c2) := ⟨_, get?_update_seq nk2 (·.push v)⟩
    have ek : ks.take (j + 1) = ks.take j ++ [kd] := by rw [List.take_add_one, hkd]; simp
    have ea : (kA.push v).toList = kA.toList ++ [v] := by simp
    refine wpAny_bind (listUpdate_at nk2 rfl ?_ (Nat.le_trans hz hZ) (Nat.le_trans (Nat.le_of_eq (Array.size_push ..)) (Nat.succ_le_succ (Nat.le_trans hz hZ))))
    obtain ⟨_, fS2, fS3, fS4, fS5, fS6⟩ : FpOk X pins H2 kS := I0.fpOk sz0 hnS2
    have I4 := I3.turned (t' := s2.toks) (it := kS) (h' := s2.heap.update kS (Obj.mapSeq (·.push v))) (fun x o hx q => (s1.2 x hx).trans q) hnS2 fS2 fS4 fS5 fS6
    refine wpAny_pure ⟨rfl, H2, F2, kA.push v, c2, I4, gw.trans gw2, hn2, hnS2, hc2, (s1.2 a hka.symm).trans na2, ?_⟩
    rw [ea, ek]
    exact each_snoc (R := fun (u : Value) (kd : D) => ∃ kv, RelV kv u ∧ Vp X.kc F2 kv kd) ⟨y, ry, vy⟩ (hk.up gw2.fe)
  case done =>
    rintro s' ⟨H', F', kA, ep, I', gw, hn', hnS', nk', na', hk⟩
    have hk' : KsOk X F' kA.toList ks := by
      have e3 : ks.take (0 + its.length) = ks := List.take_of_length_le (by omega)
      rw [e3] at hk
      exact hk
    have hsz : kA.size = its.length := by
      have h1 := W.EachIs.length hk'
      rw [Array.length_toList] at h1
      omega
    have hrd : W.EachIs (fun v kd => ∃ as, Reads s'.heap v kd as) kA.toList ks := each_mono hk' fun v kd hm ⟨kv, r1, v1⟩ => Dp.reads I' kd kv v (Vp.dp gw.fh _ _ v1 (nods_mem nk hm)) r1
    try dsimp only
    refine wpAny_bind (listItems_at nk' rfl ?_)
    have hid : (s'.heap.hide kS).get? kS = none := Heap.hide_self _ _
    have kp : KeepsBut a (s'.heap.hide kS) s'.heap := fun x o _ q => by
      by_cases z : x = kS
      · rw [z, hid] at q; cases q
      · rw [Heap.hide_ne _ z] at q; exact q
    refine keyH_end (κ := dataKind s'.heap ks) kp hid nk' na' hka (SortsAt.data (s := s') hrd al so (fun d hd => ?_)) hsz hZ fun h3 tk3 c k3 n3 => ⟨rfl, ?_⟩
    · have d1 := dp d hd
      have d2 := hr.in1.in1.units
      have d3 : X.A.in1.in1.units + 64 < cLine := d2
      show X.A.in1.in1.units + d.depth < cLine
      omega
    -- the list is tracked from now on
    have ko : KeyedOut b ks its (sortVals (dataKind s'.heap ks) b kA.toList its) := ⟨s'.heap, kA.toList, al, rfl, hrd⟩
    -- the values, with what they stand for
    have eR : W.EachIs (fun (v : Value) (z : (V × D) × D) => RelV z.1.1 v ∧ Vp X.kc F z.1.1 z.1.2) its ((xs.zip ds).zip ks) := by
      have gg : ∀ (its : List Value) (xs : List V) (ds ks : List D), Vals xs its → VpAll X.kc F xs ds → ks.length = ds.length → W.EachIs (fun (v : Value) (z : (V × D) × D) => RelV z.1.1 v ∧ Vp X.kc F z.1.1 z.1.2) its ((xs.zip ds).zip ks) := fun its => by
        induction its with
        | nil => intro xs ds ks r v l; cases r; cases v; cases ks with
          | nil => exact .nil
          | cons _ _ => cases l
        | cons i its ih => intro xs ds ks r v l; cases r with
          | cons r1 r2 => cases v with
            | cons v1 v2 => cases ks with
              | nil => cases l
              | cons kk ks => exact .cons ⟨r1, v1⟩ (ih _ _ _ r2 v2 (by simpa using l))
      exact gg its xs ds ks rv vp (by omega)
    have lz : (xs.zip ds).length = ks.length := by rw [List.length_zip]; omega
    have mk2 : ((xs.zip ds).zip ks).map (fun z : (V × D) × D => z.2) = ks := List.map_snd_zip (by omega)
    have eo := keyedOut_each (rev := b) (R := fun (v : Value) (z : (V × D) × D) => RelV z.1.1 v ∧ Vp X.kc F z.1.1 z.1.2) (fun z : (V × D) × D => z.2) (by rw [mk2]; exact ko) eR
    generalize hzs : ((xs.zip ds).zip ks).mergeSort (dataLe b fun z : (V × D) × D => z.2) = zs at eo
    have hm : zs.map (fun z => z.1.2) = sortKD b ds ks := by
      rw [← hzs]
      have e2 : ((xs.zip ds).zip ks).map (fun z : (V × D) × D => (z.1.2, z.2)) = ds.zip ks := by
        have gg : ∀ (xs : List V) (ds ks : List D), xs.length = ds.length → ((xs.zip ds).zip ks).map (fun z : (V × D) × D => (z.1.2, z.2)) = ds.zip ks := fun xs => by
          induction xs with
          | nil => intro ds ks h; cases ds with
            | nil => rfl
            | cons _ _ => cases h
          | cons x xs ih => intro ds ks h; cases ds with
            | nil => cases h
            | cons d ds => cases ks with
              | nil => rfl
              | cons kk ks => rw [List.zip_cons_cons, List.zip_cons_cons, List.map_cons, ih ds ks (by simpa using h)]; rfl
        exact gg xs ds ks lx
      unfold sortKD
      rw [← e2, ← sort_maps (r := dataLe b fun z : (V × D) × D => z.2) (fun z : (V × D) × D => (z.1.2, z.2)) (fun a _ b _ => rfl), List.map_map]
      rfl
    have zv : Vals (zs.map fun z => z.1.1) (sortVals (dataKind s'.heap ks) b kA.toList its) ∧ VpAll X.kc F' (zs.map fun z => z.1.1) (zs.map fun z => z.1.2) := by
      generalize sortVals (dataKind s'.heap ks) b kA.toList its = out at eo
      have gg : ∀ (out : List Value) (zs : List ((V × D) × D)), W.EachIs (fun (v : Value) (z : (V × D) × D) => RelV z.1.1 v ∧ Vp X.kc F z.1.1 z.1.2) out zs → Vals (zs.map fun z => z.1.1) out ∧ VpAll X.kc F' (zs.map fun z => z.1.1) (zs.map fun z => z.1.2) := fun out => by
        induction out with
        | nil => intro zs h; cases zs with
          | nil => exact ⟨.nil, .nil⟩
          | cons _ _ => cases h
        | cons o out ih => intro zs h; cases zs with
          | nil => cases h
          | cons z zs => cases h with
            | cons h1 h2 => exact ⟨.cons h1.1 (ih zs h2).1, .cons (Vp.up gw.fe _ _ h1.2) (ih zs h2).2⟩
      exact gg out zs eo
    obtain ⟨_, fS2, fS3, fS4, fS5, fS6⟩ : FpOk X pins H' kS := I0.fpOk sz0 hnS'
    have fpa : FpOk X pins H' a := I0.fpOk ha0 hn'
    obtain ⟨_, ga2, ga3, ga4, ga5, ga6⟩ := id fpa
    have hlen : (zs.map fun z => z.1.1).length ≤ sizeLine := by
      rw [List.length_map, ← hzs, List.length_mergeSort, List.length_zip]
      omega
    have I5 := both_taken I' (u := .lst (zs.map fun z => z.1.1)) (h' := h3) (tk := tk3) fpa (I0.fpOk sz0 hnS') hka na' n3 (fun x o h1 h2 q => k3 x o h1 (by rw [Heap.hide_ne _ h2]; exact q)) ⟨hlen, _, c, zv.1, n3⟩
    have gf : F'.f a = none := by
      cases w : F'.f a with
      | none => rfl
      | some o => have := gw.fh _ _ w; rw [hn'] at this; cases this
    have gw' : Grow F H F' (upd H' a (.lst (zs.map fun z => z.1.1))) := gw.trans (.lay gw.fh hn')
    exact h _ _ F' _ I5 gw' upd_same hn gf (by rw [← hm]; exact zv.2)
end
end CM
end
section
set_option Elab.async false
set_option linter.all false
set_option maxRecDepth 100000
set_option autoImplicit false
namespace CM
open PySem PySem.Spec PyProof.Rows L2 PySem.SeqAt PySem.W PySem.Calls
def gSortK (g : DF) (b : Bool) : C → Option Res
  | .d (.list ds) => if nods ds = true then (keysD g ds).bind fun ks => if sortB ks = true then some (.fr (.d (.list (sortKD b ds ks)))) else none else none
  | _ => none
def gSortKV (g : DF) (b : Bool) (c : C) : Option Res := (valsC c).bind fun ds => gSortK g b (.d (.list ds))
section
variable {X : Cx} {k : Nat} {f : Addr} {fd : FuncData} {ps : List Str} {m : Bool} {g : DF}
theorem gSortK_ok {b : Bool} {ds : List D} {z : Res} (h : gSortK g b (.d (.list ds)) = some z) : nods ds = true ∧ ∃ ks, keysD g ds = some ks ∧ sortB ks = true ∧ z = .fr (.d (.list (sortKD b ds ks))) := by
  have h : (if nods ds = true then (keysD g ds).bind fun ks => if sortB ks = true then some (Res.fr (.d (.list (sortKD b ds ks)))) else none else none) = some z := h
  by_cases n : nods ds = true
  · rw [if_pos n] at h
    obtain ⟨ks, h1, h2⟩ := Option.bind_eq_some_iff.mp h
    by_cases s : sortB ks = true
    · rw [if_pos s] at h2
      cases h2
      exact ⟨n, ks, h1, s, rfl⟩
    · rw [if_neg s] at h2; cases h2
  · rw [if_neg n] at h; cases h
/-- sorted(list, key=f ..) -/
theorem sortK_run (F0 : FnOk X.prog X.w X.K X.mg X.base CX0 k f fd ps (spD X.kc [m] g)) (hr : Room (k + 2) X.A) (hb : Binds X.K fd ps []) {b : Bool} {kw : List (Str × Value)} (ht : ∀ x, Builtin.«list.sort» ⟨[.ref x], kw⟩ = ksk_tree x (.ref f) b) (ha1 : ∀ l : Addr, argsOk "sorted" ⟨[.ref l], kw⟩) (ha2 : ∀ x : Addr, argsOk "list.sort" ⟨[.ref x], kw⟩)
    {pins : List (Addr × Obj)} {σ : L2.St} {H : Hp} {s : Shared} {F : Fz} {l : Addr} {xs : List V} {ds : List D} {z : Res} {Q : VK} (I : Inv X pins σ H s) (e : Ex F.f H) (et : ∀ p, H p = none → F.t p = none) (hl : SqL X.K H l xs) (vp : VpAll X.kc F xs ds) (q : gSortK g b (.d (.list ds)) = some z)
    (h : ∀ F' H' v, Grow F H F' H' → RetOk X.kc H F' H' v z → Q v H') :
    wpAny (model X.prog X.w) X.A (call (.builtin "sorted") [.ref l] kw) (EP X pins σ Q) X.xe s := by
  obtain ⟨nd, ks, kq, sB, rfl⟩ := gSortK_ok q
  obtain ⟨its, rv, pl, hz⟩ := I.list hl
  refine sorted_of_sort pl.isList (by rw [← rv.length]; exact hz) (ha1 l) ha2 fun E' => ?_
  rw [ht]
  have I1 : Inv X pins σ H { s with heap := copyHeap s.heap its } := I.kept (t' := s.toks) fun b o q => copyHeap_old q
  have hsz : s.heap.objs.size ≤ (copyHeap s.heap its).objs.size := Nat.le_of_lt (Nat.lt_of_succ_lt (Heap.lt_size (copyHeap_at s.heap its)))
  refine sortKey_tree (s := { s with heap := copyHeap s.heap its }) F0 hr hb I (Nat.le_succ _) hsz I1 e (copyHeap_at s.heap its) rv vp (I.hok.fresh (Nat.le_succ _)) nd kq sB fun s' H' F' zs I' gw hH hn hf vz => ?_
  exact ⟨.ref (s.heap.objs.size + 1), H', I', rfl, h F' H' _ gw ⟨_, rfl, hn, hf, by rw [gw.t]; exact et _ hn, zs, hH, vz⟩⟩
/-- sorted(d.values(), key=f ..) -/
theorem sortKV_run (hc : X.calm = true) (F0 : FnOk X.prog X.w X.K X.mg X.base CX0 k f fd ps (spD X.kc [m] g)) (hr : Room (k + 2) X.A) (hb : Binds X.K fd ps []) {b : Bool} {kw : List (Str × Value)} (ht : ∀ x, Builtin.«list.sort» ⟨[.ref x], kw⟩ = ksk_tree x (.ref f) b) (ha1 : ∀ l : Addr, argsOk "sorted" ⟨[.ref l], kw⟩) (ha2 : ∀ x : Addr, argsOk "list.sort" ⟨[.ref x], kw⟩)
    {pins : List (Addr × Obj)} {σ : L2.St} {H : Hp} {s : Shared} {F : Fz} {l a : Addr} {xs : List V} {ds : List D} {z : Res} {Q : VK} (I : Inv X pins σ H s) (e : Ex F.f H) (et : ∀ p, H p = none → F.t p = none) (hl : H l = some (valuesO l a)) (hv : ValsAt H a xs) (vp : VpAll X.kc F xs ds) (q : gSortK g b (.d (.list ds)) = some z)
    (h : ∀ F' H' v, Grow F H F' H' → RetOk X.kc H F' H' v z → Q v H') :
    wpAny (model X.prog X.w) X.A (call (.builtin "sorted") [.ref l] kw) (EP X pins σ Q) X.xe s := by
  obtain ⟨nd, ks, kq, sB, rfl⟩ := gSortK_ok q
  obtain ⟨es, ep, raw, hd, sz, sl, at'⟩ := vals_raw I hv
  have view : s.heap.IsValuesView l a := (I.hok l _ hl).1
  refine call_function_entry_kw kind_sorted plain_sorted entry_sorted (ha1 l) ?_
  unfold Builtin.«sorted»
  refine wpAny_bind (m := checkCount "sorted" 1 1 _) (wpAny_pure ?_)
  refine wpAny_bind (kdu_collect (A := X.A.in1) (KdlSrc.rawValues (r := l) (d := a) (es := es) (ep := ep)) (I.ok.hd hc) ⟨view, raw⟩ sl fun h' tk acc hk hi => ?_)
  have va : Vals xs acc.toList := vals_at (by rw [Array.length_toList, hi.1, sz]) fun i u e => by
    obtain ⟨hi', e2⟩ := hi.2 i u (by rw [← Array.getElem?_toList]; exact e)
    obtain ⟨v, e3, e4⟩ := at' i hi'
    exact ⟨v, e3, by rw [e2]; exact e4⟩
  have la : acc.toList.length ≤ sizeLine := by rw [Array.length_toList, hi.1]; exact sl
  generalize acc.toList = its at *
  refine wpAny_bind (wpAny_newList ?_ la)
  have hoL : (h'.push (seqObj "list" its.toArray 0)).get? h'.objs.size = some (seqObj "list" its.toArray 0) := Heap.get?_push_size _ rfl
  have kp : ∀ b o, s.heap.get? b = some o → (h'.push (seqObj "list" its.toArray 0)).get? b = some o := fun b o q => Heap.get?_push_of_some _ (hk b o q)
  have I2 : Inv X pins σ H { s with heap := h', toks := tk } := I.kept (t' := tk) hk
  have I1 : Inv X pins σ H { s with heap := h'.push (seqObj "list" its.toArray 0), toks := tk } := I.kept (t' := tk) kp
  refine wpAny_bind (wpAny_holding (wpAny_call_entry_kw slot_list_sort ⟨_, hoL, rfl⟩ entry_list_sort ?body (ha2 _)))
  case body =>
    show wpAny (model X.prog X.w) X.A.in1.in1 (Builtin.«list.sort» ⟨[.ref h'.objs.size], kw⟩) _ _ _
    rw [ht]
    refine wpAny_mono (sortKey_tree (s := { s with heap := h'.push (seqObj "list" its.toArray 0), toks := tk }) F0 hr hb I2 (Nat.le_refl _) (by show h'.objs.size ≤ (h'.push _).objs.size; rw [size_push']; exact Nat.le_succ _) I1 e hoL va vp (I2.hok.fresh (Nat.le_refl _)) nd kq sB
      (E := fun _ _ => False) (Q := fun s' => EP X pins σ Q (.ref h'.objs.size) s') fun s' H' F' zs I' gw hH hn hf vz => ?_) (fun fl s' hf => ?_) fun _ _ e => e.elim
    · exact ⟨.ref h'.objs.size, H', I', rfl, h F' H' _ gw ⟨_, rfl, hn, hf, by rw [gw.t]; exact et _ hn, zs, hH, vz⟩⟩
    · obtain ⟨rfl, hq⟩ := hf
      exact ⟨_, rfl, wpAny_pure ⟨_, rfl, hq⟩⟩
end
end CM
end
section
set_option Elab.async false
set_option linter.all false
set_option maxRecDepth 100000
set_option autoImplicit false
namespace CM
open PySem PySem.Spec PyProof.Rows L2 PySem.SeqAt PySem.W
section
variable {X : Cx} {k : Nat} {m : Bool} {g : DF} {e : Expr} {fa : EF} {qb : Bool} {x : Str} {p pos kpos rpos apos cpos bpos : Pos}
/-- the rule of sorted with keywords: a list -/
def rSK (X : Cx) (g : DF) (b : Bool) (zs0 : List V) : List V → List V → Hp → VK → Prop := fun vs zs H Q => ∃ (F : Fz) (l : Addr) (xs : List V) (ds : List D) (z : Res), vs = [.ref l] ∧ zs = zs0 ∧ Ex F.f H ∧ (∀ p, H p = none → F.t p = none) ∧ SqL X.K H l xs ∧ VpAll X.kc F xs ds ∧ gSortK g b (.d (.list ds)) = some z ∧
  ∀ F' H' v, Grow F H F' H' → RetOk X.kc H F' H' v z → Q v H'
def rSKV (X : Cx) (g : DF) (b : Bool) (zs0 : List V) : List V → List V → Hp → VK → Prop := fun vs zs H Q => ∃ (F : Fz) (l a : Addr) (xs : List V) (ds : List D) (z : Res), vs = [.ref l] ∧ zs = zs0 ∧ Ex F.f H ∧ (∀ p, H p = none → F.t p = none) ∧ H l = some (valuesO l a) ∧ ValsAt H a xs ∧ VpAll X.kc F xs ds ∧ gSortK g b (.d (.list ds)) = some z ∧
  ∀ F' H' v, Grow F H F' H' → RetOk X.kc H F' H' v z → Q v H'
variable {f : Addr} {fd : FuncData} {ps : List Str}
theorem cr_sk1 (F0 : FnOk X.prog X.w X.K X.mg X.base CX0 k f fd ps (spD X.kc [m] g)) (hr : Room (k + 2) X.A) (hb : Binds X.K fd ps []) : CallRK X (.builtin "sorted") [Str.ofString "key"] (rSK X g false [.ref f]) := by
  intro pins s σ H vs zs us ws Q I r rz h
  obtain ⟨F, l, xs, ds, z, rfl, rfl, e, et, hl, vp, q, k⟩ := h
  obtain rfl := Vals.ref1 r
  obtain rfl := Vals.ref1 rz
  exact sortK_run F0 hr hb (b := false) (fun x => ksk_t1 f x) (fun l => ksk_s1 _ _) (fun l => ksk_l1 _ _) I e et hl vp q k
theorem cr_skv1 (hc : X.calm = true) (F0 : FnOk X.prog X.w X.K X.mg X.base CX0 k f fd ps (spD X.kc [m] g)) (hr : Room (k + 2) X.A) (hb : Binds X.K fd ps []) : CallRK X (.builtin "sorted") [Str.ofString "key"] (rSKV X g false [.ref f]) := by
  intro pins s σ H vs zs us ws Q I r rz h
  obtain ⟨F, l, a, xs, ds, z, rfl, rfl, e, et, hl, hv, vp, q, k⟩ := h
  obtain rfl := Vals.ref1 r
  obtain rfl := Vals.ref1 rz
  exact sortKV_run hc F0 hr hb (b := false) (fun x => ksk_t1 f x) (fun l => ksk_s1 _ _) (fun l => ksk_l1 _ _) I e et hl hv vp q k
theorem cr_sk2 {b : Bool} (F0 : FnOk X.prog X.w X.K X.mg X.base CX0 k f fd ps (spD X.kc [m] g)) (hr : Room (k + 2) X.A) (hb : Binds X.K fd ps []) : CallRK X (.builtin "sorted") [Str.ofString "key", Str.ofString "reverse"] (rSK X g b [.ref f, .bl b]) := by
  intro pins s σ H vs zs us ws Q I r rz h
  obtain ⟨F, l, xs, ds, z, rfl, rfl, e, et, hl, vp, q, k⟩ := h
  obtain rfl := Vals.ref1 r
  obtain ⟨w1, w2, rfl, e1, e2⟩ := vals2 rz
  obtain rfl : w1 = Value.ref f := e1
  obtain rfl : w2 = Value.bool b := e2
  exact sortK_run F0 hr hb (b := b) (fun x => ksk_t2 f x b) (fun l => ksk_s2 _ _ _) (fun l => ksk_l2 _ _ _) I e et hl vp q k
/-- sorted(e, key=x) -/
theorem de_sortK (G : Df X.prog X.w X.K X.mg X.base k x [m] g) (hr : Room (k + 2) X.A) (hgx : Gl X x) (ha : DE X qb e fa) (hg : Gl X "sorted") (hm : X.mg "sorted" = none) (hv : bootBuiltins "sorted" = some (.builtin "sorted")) (hdx : (x == ("__debug__" : Str)) = false := by decide)
    (he : starEach [e] X.env = (false, eval e X.env) :: starEach [] X.env := by rfl) (hbk : backTo pos (starEach [e] X.env) = (false, eval e X.env) :: backTo pos (starEach [] X.env) := by rfl) (hpl : (backTo pos (starEach [e] X.env)).any (·.1) = false := by rfl)
    (hall : (backToKw pos (keywordEach [⟨some "key", .Name x bpos, kpos⟩] X.env)).all (·.1.isSome) = true := by rfl) (hnone : (backToKw pos (keywordEach [⟨some "key", .Name x bpos, kpos⟩] X.env)).any (·.1.isNone) = false := by rfl)
    (hks : (backToKw pos (keywordEach [⟨some "key", .Name x bpos, kpos⟩] X.env)).filterMap (·.1) = [Str.ofString "key"] := by rfl) :
    DE X qb (.Call (.Name "sorted" p) [e] [⟨some "key", .Name x bpos, kpos⟩] pos) (eUn (gSortK g false) fa) := by
  obtain ⟨t, a1, a2⟩ := ha.ex
  obtain ⟨f, fd, ps, h1, h2, h3, h4⟩ := G.ex
  refine ⟨_, pe_callBK (cr_sk1 h1 hr h4) hg hm hv (pa_cons a1 pa_nil he) (pk_cons (pe_glob hgx h2 (v := .ref f) rfl hdx) pk_nil) (by decide) (by decide) hbk hpl hall hnone hks, fun B H0 F0 F H σ r z r' q j Q k => ?_⟩
  simp only [eUn, Option.bind_eq_some_iff] at q
  obtain ⟨⟨z1, r1⟩, q1, c, q2, w, q3, q4⟩ := q
  cases q4
  refine a2 _ _ _ _ _ _ _ _ _ q1 j _ fun F1 H1 v g1 j1 k1 => ?_
  have b := k1.look j1 q2
  cases c with
  | d y =>
    cases y with
    | list ds =>
      obtain ⟨l, xs, rfl, sq, vp⟩ := b
      exact ⟨F1, l, xs, ds, z, rfl, rfl, j1.fh, j1.tagged, sq, vp, q3, fun F2 H2 v2 gw o => k _ _ _ (g1.qt gw.ge) (j1.grow gw) (RetOk.res j1 gw o)⟩
    | _ => cases q3
  | _ => cases q3
/-- sorted(e, key=x, reverse=b) -/
theorem de_sortK2 {b : Bool} {jj : Nat} (G : Df X.prog X.w X.K X.mg X.base k x [m] g) (hr : Room (k + 2) X.A) (hgx : Gl X x) (ha : DE X qb e fa) (hg : Gl X "sorted") (hm : X.mg "sorted" = none) (hv : bootBuiltins "sorted" = some (.builtin "sorted")) (hdx : (x == ("__debug__" : Str)) = false := by decide)
    (he : starEach [e] X.env = (false, eval e X.env) :: starEach [] X.env := by rfl) (hbk : backTo pos (starEach [e] X.env) = (false, eval e X.env) :: backTo pos (starEach [] X.env) := by rfl) (hpl : (backTo pos (starEach [e] X.env)).any (·.1) = false := by rfl)
    (hall : (backToKw pos (keywordEach [⟨some "key", .Name x bpos, kpos⟩, ⟨some "reverse", .Constant (.bool b) jj apos, rpos⟩] X.env)).all (·.1.isSome) = true := by rfl) (hnone : (backToKw pos (keywordEach [⟨some "key", .Name x bpos, kpos⟩, ⟨some "reverse", .Constant (.bool b) jj apos, rpos⟩] X.env)).any (·.1.isNone) = false := by rfl)
    (hks : (backToKw pos (keywordEach [⟨some "key", .Name x bpos, kpos⟩, ⟨some "reverse", .Constant (.bool b) jj apos, rpos⟩] X.env)).filterMap (·.1) = [Str.ofString "key", Str.ofString "reverse"] := by rfl) :
    DE X qb (.Call (.Name "sorted" p) [e] [⟨some "key", .Name x bpos, kpos⟩, ⟨some "reverse", .Constant (.bool b) jj apos, rpos⟩] pos) (eUn (gSortK g b) fa) := by
  obtain ⟨t, a1, a2⟩ := ha.ex
  obtain ⟨f, fd, ps, h1, h2, h3, h4⟩ := G.ex
  refine ⟨_, pe_callBK (cr_sk2 (b := b) h1 hr h4) hg hm hv (pa_cons a1 pa_nil he) (pk_cons (pe_glob hgx h2 (v := .ref f) rfl hdx) (pk_cons pe_bl pk_nil)) (by decide) (by decide) hbk hpl hall hnone hks, fun B H0 F0 F H σ r z r' q j Q k => ?_⟩
  simp only [eUn, Option.bind_eq_some_iff] at q
  obtain ⟨⟨z1, r1⟩, q1, c, q2, w, q3, q4⟩ := q
  cases q4
  refine a2 _ _ _ _ _ _ _ _ _ q1 j _ fun F1 H1 v g1 j1 k1 => ?_
  have b := k1.look j1 q2
  cases c with
  | d y =>
    cases y with
    | list ds =>
      obtain ⟨l, xs, rfl, sq, vp⟩ := b
      exact ⟨F1, l, xs, ds, z, rfl, rfl, j1.fh, j1.tagged, sq, vp, q3, fun F2 H2 v2 gw o => k _ _ _ (g1.qt gw.ge) (j1.grow gw) (RetOk.res j1 gw o)⟩
    | _ => cases q3
  | _ => cases q3
/-- sorted(e.values(), key=x) -/
theorem de_sortKV (hc : X.calm = true) (G : Df X.prog X.w X.K X.mg X.base k x [m] g) (hr : Room (k + 2) X.A) (hgx : Gl X x) (ha : DE X qb e fa) (hg : Gl X "sorted") (hm : X.mg "sorted" = none) (hv : bootBuiltins "sorted" = some (.builtin "sorted")) (hdx : (x == ("__debug__" : Str)) = false := by decide)
    (hbase : attributeBase e "values" X.env (eval e X.env) = eval e X.env := by rfl) (hline : (apos.endLine == cpos.line) = true := by rfl)
    (he : starEach [.Call (.Attribute e "values" apos) [] [] cpos] X.env = (false, eval (.Call (.Attribute e "values" apos) [] [] cpos) X.env) :: starEach [] X.env := by rfl)
    (hbk : backTo pos (starEach [.Call (.Attribute e "values" apos) [] [] cpos] X.env) = (false, eval (.Call (.Attribute e "values" apos) [] [] cpos) X.env) :: backTo pos (starEach [] X.env) := by rfl) (hpl : (backTo pos (starEach [.Call (.Attribute e "values" apos) [] [] cpos] X.env)).any (·.1) = false := by rfl)
    (hall : (backToKw pos (keywordEach [⟨some "key", .Name x bpos, kpos⟩] X.env)).all (·.1.isSome) = true := by rfl) (hnone : (backToKw pos (keywordEach [⟨some "key", .Name x bpos, kpos⟩] X.env)).any (·.1.isNone) = false := by rfl)
    (hks : (backToKw pos (keywordEach [⟨some "key", .Name x bpos, kpos⟩] X.env)).filterMap (·.1) = [Str.ofString "key"] := by rfl) :
    DE X qb (.Call (.Name "sorted" p) [.Call (.Attribute e "values" apos) [] [] cpos] [⟨some "key", .Name x bpos, kpos⟩] pos) (eUn (gSortKV g false) fa) := by
  obtain ⟨t, a1, a2⟩ := ha.ex
  obtain ⟨f, fd, ps, h1, h2, h3, h4⟩ := G.ex
  refine ⟨_, pe_callBK (cr_skv1 hc h1 hr h4) hg hm hv (pa_cons (pe_dm0 PySem.F.slot_dict_values PySem.F.type_dict_values mt_valsD a1 hbase hline) pa_nil he) (pk_cons (pe_glob hgx h2 (v := .ref f) rfl hdx) pk_nil) (by decide) (by decide) hbk hpl hall hnone hks, fun B H0 F0 F H σ r z r' q j Q k => ?_⟩
  simp only [eUn, gSortKV, Option.bind_eq_some_iff] at q
  obtain ⟨⟨z1, r1⟩, q1, c, q2, w, ⟨ds, q3, q4⟩, q5⟩ := q
  cases q5
  refine a2 _ _ _ _ _ _ _ _ _ q1 j _ fun F1 H1 v g1 j1 k1 => ?_
  obtain ⟨a, vs, rfl, va, vp⟩ := vals_bd (k1.look j1 q2) q3
  refine ⟨⟨a, rfl, va.isD⟩, a, rfl, rfl, va.isD, fun n hn => ?_⟩
  have ga : Grow F1 H1 F1 (upd H1 n (valuesO n a)) := .lay j1.fh hn
  have j2 := j1.grow ga
  exact ⟨F1, n, a, vs, ds, z, rfl, rfl, j2.fh, j2.tagged, upd_same, va.up (.new hn), vp, q4, fun F2 H2 v2 gw o => k _ _ _ ((g1.qt ga.ge).qt gw.ge) (j2.grow gw) (RetOk.res j2 gw o)⟩
end
end CM
end
section
set_option Elab.async false
set_option linter.all false
set_option maxRecDepth 100000
set_option autoImplicit false
namespace CM
open PySem PySem.Spec PyProof.Rows L2 PySem.SeqAt
/-! ### dict(pairs) -/
def pairD : D → Option (D × D)
  | .tuple [k, v] => if cstD [k, v] = true then none else some (k, v)
  | _ => none
def pairsD : List D → Option (List (D × D))
  | [] => some []
  | x :: xs => (pairD x).bind fun p => (pairsD xs).bind fun ps => some (p :: ps)
def keysK : List (D × D) → Option (List (Ky × D))
  | [] => some []
  | p :: ps => (kOf p.1).bind fun k => (keysK ps).bind fun r => some ((k, p.2) :: r)
def keysT : List (D × D) → Option (List (List Ky × D))
  | [] => some []
  | p :: ps => (kOfT p.1).bind fun k => (keysT ps).bind fun r => some ((k, p.2) :: r)
def putsA {κ : Type} [DecidableEq κ] (acc more : List (κ × D)) : List (κ × D) := more.foldl (fun a e => aPut a e.1 e.2) acc
section
variable {K : KC} {F : Fz} {κ : Type} [DecidableEq κ]
def putsV (acc more : List (κ × V)) : List (κ × V) := more.foldl (fun a e => putK a e.1 e.2) acc
theorem KVs.puts {es fs : List (κ × V)} {kvs lvs : List (κ × D)} (g : KVs K F fs lvs) (h : KVs K F es kvs) : KVs K F (putsV es fs) (putsA kvs lvs) := by
  unfold putsV putsA
  induction g generalizing es kvs with
  | nil => exact h
  | @cons e q es' qs' h1 _ ih =>
    rw [List.foldl_cons, List.foldl_cons]
    refine ih ?_
    rw [h1.1]
    exact h.put _ h1.2
theorem putsV_len : ∀ (more acc : List (κ × V)), (putsV acc more).length ≤ acc.length + more.length
  | [], acc => Nat.le_refl _
  | e :: more, acc => by
    have h1 := putsV_len more (putK acc e.1 e.2)
    have h2 := length_putK acc e.1 e.2
    show (putsV (putK acc e.1 e.2) more).length ≤ _
    rw [List.length_cons]
    omega
end
section
variable {X : Cx} {pins : List (Addr × Obj)} {σ : L2.St} {H : Hp} {s : Shared} {F : Fz}
/-- pairs as they stand -/
structure PrAt (X : Cx) (F : Fz) (H : Hp) (s : Shared) (t : Addr) (u : Value × Value) (e : V × V) (q : D × D) : Prop where
  tup : s.heap.IsTuple t #[u.1, u.2]
  k : RelV e.1 u.1
  v : RelV e.2 u.2
  kd : Vp X.kc F e.1 q.1
  vd : Vp X.kc F e.2 q.2
theorem pairs_at (I : Inv X pins σ H s) (e : Ex F.f H) : ∀ {xs : List V} {its : List Value} {ds : List D} {ps : List (D × D)}, pairsD ds = some ps → VpAll X.kc F xs ds → Vals xs its →
    ∃ (ts : List Addr) (us : List (Value × Value)) (es : List (V × V)), its = ts.map Value.ref ∧ ts.length = ps.length ∧ us.length = ps.length ∧ es.length = ps.length ∧
      ∀ (j : Nat) (q : D × D), ps[j]? = some q → ∃ t u e, ts[j]? = some t ∧ us[j]? = some u ∧ es[j]? = some e ∧ PrAt X F H s t u e q
  | _, _, [], _, q, v, r => by cases q; cases v; cases r; exact ⟨[], [], [], rfl, rfl, rfl, rfl, fun j q h => by simp at h⟩
  | _, _, d :: ds, ps, q, v, r => by
    simp only [pairsD, Option.bind_eq_some_iff] at q
    obtain ⟨p, q1, ps', q2, q3⟩ := q
    cases q3
    cases v with
    | cons v1 v2 =>
      cases r with
      | cons r1 r2 =>
        obtain ⟨ts, us, es, e1, l1, l2, l3, at'⟩ := pairs_at I e q2 v2 r2
        unfold pairD at q1
        split at q1
        · rename_i kd vd
          split at q1
          · cases q1
          · cases q1
            cases v1 with
            | tup hs ha =>
              cases ha with
              | @cons x1 _ _ _ a1 a2 =>
                cases a2 with
                | @cons x2 _ _ _ a2 a3 =>
                  cases a3
                  obtain ⟨jts, rv, tp, _⟩ := I.tuple (e.t hs.sq)
                  obtain ⟨u1, u2, rfl, g1, g2⟩ := vals2 rv
                  cases r1
                  refine ⟨_ :: ts, (u1, u2) :: us, (x1, x2) :: es, by rw [e1]; rfl, by simp [l1], by simp [l2], by simp [l3], fun j q h => ?_⟩
                  cases j with
                  | zero =>
                    cases h
                    obtain ⟨o, h1, h2, n, h3⟩ := tp
                    exact ⟨_, _, _, rfl, rfl, rfl, ⟨o, h1, h2, n, h3⟩, g1, g2, a1, a2⟩
                  | succ j => exact at' j q (by simpa using h)
        · cases q1
theorem keysK_get : ∀ {ps : List (D × D)} {kvs : List (Ky × D)}, keysK ps = some kvs → kvs.length = ps.length ∧ ∀ (j : Nat) (q : D × D), ps[j]? = some q → ∃ k, kvs[j]? = some (k, q.2) ∧ kOf q.1 = some k
  | [], _, q => by cases q; exact ⟨rfl, fun j q h => by simp at h⟩
  | p :: ps, _, q => by
    simp only [keysK, Option.bind_eq_some_iff] at q
    obtain ⟨k, q1, r, q2, q3⟩ := q
    cases q3
    obtain ⟨l, at'⟩ := keysK_get q2
    refine ⟨by simp [l], fun j q h => ?_⟩
    cases j with
    | zero => cases h; exact ⟨k, rfl, q1⟩
    | succ j => exact at' j q (by simpa using h)
theorem keysT_get : ∀ {ps : List (D × D)} {kvs : List (List Ky × D)}, keysT ps = some kvs → kvs.length = ps.length ∧ ∀ (j : Nat) (q : D × D), ps[j]? = some q → ∃ k, kvs[j]? = some (k, q.2) ∧ kOfT q.1 = some k
  | [], _, q => by cases q; exact ⟨rfl, fun j q h => by simp at h⟩
  | p :: ps, _, q => by
    simp only [keysT, Option.bind_eq_some_iff] at q
    obtain ⟨k, q1, r, q2, q3⟩ := q
    cases q3
    obtain ⟨l, at'⟩ := keysT_get q2
    refine ⟨by simp [l], fun j q h => ?_⟩
    cases j with
    | zero => cases h; exact ⟨k, rfl, q1⟩
    | succ j => exact at' j q (by simpa using h)
theorem paired_of {α β : Type} {R : α → β → Prop} : ∀ {as : List α} {bs : List β}, as.length = bs.length → (∀ (j : Nat) (a : α) (b : β), as[j]? = some a → bs[j]? = some b → R a b) → Paired R as bs
  | [], [], _, _ => .nil
  | [], _ :: _, l, _ => by cases l
  | _ :: _, [], l, _ => by cases l
  | a :: as, b :: bs, l, h => .cons (h 0 a b rfl rfl) (paired_of (by simpa using l) fun j x y hx hy => h (j + 1) x y (by simpa using hx) (by simpa using hy))
theorem DictOf_there {P : Program} {w : World} {h : Heap} {a : Addr} {vs : List (Key × Value)} (x : h.DictOf (mixKind P w) a vs) : ∃ o, h.get? a = some o := let ⟨o, _, _, ho, _⟩ := x; ⟨o, ho⟩
/-- the pairs of a list, for the library's rules -/
theorem list_pairs {its : List Value} {ts : List Addr} {us : List (Value × Value)} {es : List (V × V)} {ps : List (D × D)} (e1 : its = ts.map Value.ref) (l1 : ts.length = ps.length) (l2 : us.length = ps.length)
    (at' : ∀ (j : Nat) (q : D × D), ps[j]? = some q → ∃ t u e, ts[j]? = some t ∧ us[j]? = some u ∧ es[j]? = some e ∧ PrAt X F H s t u e q) : PairItems s.heap its.toArray (fun j => ts.getD j 0) us := by
  refine ⟨by simp [e1, l1, l2], fun j k v hj => ?_⟩
  have hjl : j < ps.length := by rw [← l2]; exact (List.getElem?_eq_some_iff.mp hj).1
  obtain ⟨t, u, e, h1, h2, h3, P⟩ := at' j _ (List.getElem?_eq_getElem hjl)
  rw [h2] at hj
  cases hj
  refine ⟨?_, ?_⟩
  · simp [e1, h1]
  · show PairAt s.heap (ts.getD j 0) k v
    rw [show ts.getD j 0 = t by simp [List.getD, h1]]
    exact .inl P.tup
theorem asL {x : D} {ds : List D} (z : ∃ l, x = .list l) (q : asSeq x = some ds) : x = .list ds := by
  obtain ⟨l, rfl⟩ := z
  cases q
  rfl
end
def gDictK : List C → Option Res
  | [.d (.tuple ds)] => if ds.length ≤ 16777216 then (if (tuT ds && !cstD ds) = true then (pairsD ds).bind fun ps => (keysK ps).bind fun kvs => some (.fr (.dk (putsA [] kvs))) else none) else none
  | [.d (.list ds)] => if ds.length ≤ 16777216 then (pairsD ds).bind fun ps => (keysK ps).bind fun kvs => some (.fr (.dk (putsA [] kvs))) else none
  | _ => none
def gDictT : List C → Option Res
  | [.d (.list ds)] => if ds.length ≤ 16777216 then (pairsD ds).bind fun ps => (keysT ps).bind fun kvs => some (.fr (.dt (putsA [] kvs))) else none
  | _ => none
theorem pairsD_len : ∀ {ds : List D} {ps : List (D × D)}, pairsD ds = some ps → ps.length = ds.length
  | [], _, q => by cases q; rfl
  | d :: ds, _, q => by
    simp only [pairsD, Option.bind_eq_some_iff] at q
    obtain ⟨p, _, ps, q2, q3⟩ := q
    cases q3
    simp [pairsD_len q2]
section
variable {X : Cx}
theorem dictK_at {T : String} {pins : List (Addr × Obj)} {s : Shared} {σ : L2.St} {H : Hp} {F : Fz} {a : Addr} {vs : List V} {its : List Value} {ds : List D} {ps : List (D × D)} {kvs : List (Ky × D)} {Q : VK} (hc : X.calm = true) (I : Inv X pins σ H s) (e : Ex F.f H) (et : ∀ p, H p = none → F.t p = none)
    (PA : ∀ (Ts : Nat → Addr) (us : List (Value × Value)), PairArg X.prog X.w T a (a :: (List.range us.length).map Ts) [] us.length (PairRel us) (fun h => PlainSeq T h a its.toArray ∧ PairItems h its.toArray Ts us))
    (pl : PlainSeq T s.heap a its.toArray) (rv : Vals vs its) (vp : VpAll X.kc F vs ds) (hl : ds.length ≤ 16777216) (q1 : pairsD ds = some ps) (q2 : keysK ps = some kvs)
    (k : ∀ F' H' v, Grow F H F' H' → RetOk X.kc H F' H' v (.fr (.dk (putsA [] kvs))) → Q v H') : wpAny (model X.prog X.w) X.A (call (.type "dict") [.ref a]) (EP X pins σ Q) X.xe s := by
  obtain ⟨ts, us, es, e1, l1, l2, l3, at'⟩ := pairs_at I e q1 vp rv
  obtain ⟨lk, kat⟩ := keysK_get q2
  have hpl : ps.length ≤ sizeLine := by rw [pairsD_len q1, sizeLine_eq]; exact hl
  -- keys with values, at each level
  let ek : List (Key × V) := (kvs.map (·.1)).zip (es.map (·.2))
  let eu : List (Key × Value) := (kvs.map (·.1)).zip (us.map (·.2))
  have lek : ek.length = ps.length := by simp [ek, List.length_zip]; omega
  have leu : eu.length = ps.length := by simp [eu, List.length_zip]; omega
  have kat' : ∀ j, j < ps.length → ∃ k t u e q, ps[j]? = some q ∧ kvs[j]? = some (k, q.2) ∧ kOf q.1 = some k ∧ us[j]? = some u ∧ es[j]? = some e ∧ ek[j]? = some (k, e.2) ∧ eu[j]? = some (k, u.2) ∧ PrAt X F H s t u e q := fun j hj => by
    have hq : ps[j]? = some ps[j] := List.getElem?_eq_getElem hj
    obtain ⟨t, u, e, h1, h2, h3, P⟩ := at' j _ hq
    obtain ⟨k, h4, h5⟩ := kat j _ hq
    exact ⟨k, t, u, e, _, hq, h4, h5, h2, h3, by simp [ek, List.getElem?_zip_eq_some, h4, h3], by simp [eu, List.getElem?_zip_eq_some, h4, h2], P⟩
  have kv : KV ek eu := paired_of (by omega) fun j p q hp hq => by
    obtain ⟨k, t, u, e, d, _, _, _, _, _, h6, h7, P⟩ := kat' j (by rw [← lek]; exact (List.getElem?_eq_some_iff.mp hp).1)
    rw [hp] at h6; rw [hq] at h7
    cases h6; cases h7
    exact ⟨rfl, P.v⟩
  have kd : KVs X.kc F ek kvs := paired_of (by omega) fun j p q hp hq => by
    obtain ⟨k, t, u, e, d, _, h2, _, _, _, h6, _, P⟩ := kat' j (by rw [← lek]; exact (List.getElem?_eq_some_iff.mp hp).1)
    rw [hp] at h6; rw [hq] at h2
    cases h6; cases h2
    exact ⟨rfl, P.vd⟩
  refine call_dict_pairs (knd := mixKind X.prog X.w) (kvs := eu) (PA (fun j => ts.getD j 0) us) (I.ok.hd hc) ⟨pl, list_pairs e1 l1 l2 at'⟩ ⟨by omega, fun i key v hr => ?_⟩ (by omega) fun h' tk hd' hk => ?_
  · have hi : i < ps.length := by rw [← l2]; exact (List.getElem?_eq_some_iff.mp hr).1
    obtain ⟨k, t, u, e, d, _, _, h3, h4, _, _, h7, P⟩ := kat' i hi
    have hr : us[i]? = some (key, v) := hr
    rw [hr] at h4
    cases h4
    refine ⟨k, h7, ?_⟩
    have := P.k
    rw [key_v h3 P.kd] at this
    exact kV_keyIs this
  · have hk' : ∀ b o, s.heap.get? b = some o → h'.get? b = some o := fun b o e => hk b o (by simp) e
    have hf : H s.heap.objs.size = none := I.hok.fresh (Nat.le_refl _)
    have rel := KV.merge kv (.nil : KV ([] : List (Key × V)) [])
    have hm : (s.heap.objs.size == sysModules) = false := beq_eq_false_iff_ne.mpr (Nat.ne_of_gt I.big)
    have hlen : (mergeK [] ek).length ≤ sizeLine := by
      have := length_mergeK ek []
      rw [List.length_nil] at this
      omega
    refine ⟨.ref s.heap.objs.size, upd H s.heap.objs.size (.dK (mergeK [] ek)), I.laid (t' := tk) hk' (Nat.le_refl _) (dk_new hlen hm rel hd'), rfl, ?_⟩
    exact k F _ _ (.lay e hf) ⟨_, rfl, hf, e.back hf, et _ hf, _, upd_same, KVs.puts kd .nil⟩
theorem dcl_dictK (hc : X.calm = true) : DCl X (.type "dict") gDictK := by
  refine .of fun pins s σ H xs us Q I r ⟨F, cs, z, e, et, b, q, k⟩ => ?_
  unfold gDictK at q
  split at q
  · rename_i ds
    split at q
    · rename_i hl
      split at q
      · rename_i hz
        simp only [Option.bind_eq_some_iff] at q
        obtain ⟨ps, q1, kvs, q2, q3⟩ := q
        cases q3
        obtain ⟨x, rfl, h⟩ := one_of b
        have h : Vp X.kc F x (.tuple ds) := h
        rw [Bool.and_eq_true] at hz
        cases h with
        | @tup a vs _ sq vp =>
          rw [Vals.ref1 r]
          rcases sq with ⟨o, po, fa⟩ | ⟨_, w⟩
          · rw [hz.1] at fa
            have ha : H a = some (.frz o (.tup vs)) := e _ _ fa
            obtain ⟨g0, _, its, rv, o', g1, g2, n, g3⟩ := I.hok a _ ha
            rw [g0] at g1
            cases g1
            exact dictK_at hc I e et (fun Ts us => PairArg.tuple a its.toArray Ts us) ⟨o, n, g0, po.1, po.2, g3⟩ rv vp hl q1 q2 k
          · rw [w] at hz; cases hz.2
      · cases q
    · cases q
  · rename_i ds
    split at q
    · rename_i hl
      simp only [Option.bind_eq_some_iff] at q
      obtain ⟨ps, q1, kvs, q2, q3⟩ := q
      cases q3
      obtain ⟨x, rfl, a, vs, rfl, sq, vp⟩ := one_of b
      rw [Vals.ref1 r]
      obtain ⟨its, rv, pl, hz⟩ := I.list sq
      exact dictK_at hc I e et (fun Ts us => PairArg.list a its.toArray Ts us) (let ⟨o, n, h1, h2, h3, h4⟩ := pl; ⟨o, n, h1, h2, h3, h4⟩) rv vp hl q1 q2 k
    · cases q
  · cases q
end
end CM
end
section
set_option Elab.async false
set_option linter.all false
set_option maxRecDepth 100000
set_option autoImplicit false
namespace CM
open PySem
/-! ### evaluation of the later forms -/
def aSetd {κ : Type} [DecidableEq κ] (kvs : List (κ × D)) (k : κ) (z : D) : List (κ × D) := if (aGet kvs k).isSome = true then kvs else aPut kvs k z
theorem aDrop_none {κ : Type} [DecidableEq κ] {k : κ} : ∀ {kvs : List (κ × D)}, aGet kvs k = none → aDrop kvs k = kvs
  | [], _ => rfl
  | e :: r, h => by
    by_cases q : e.1 = k
    · rw [aGet_pos q] at h; cases h
    · rw [aGet_neg q] at h
      unfold aDrop
      rw [List.filter_cons_of_pos (by simpa using q)]
      exact congrArg _ (aDrop_none h)
theorem aDrop_len {κ : Type} [DecidableEq κ] (kvs : List (κ × D)) (k : κ) : (aDrop kvs k).length ≤ kvs.length := List.length_filter_le _ _
@[simp] theorem setd_tn {kvs : List (List Ky × D)} (hl : kvs.length < 16777216) {h : Str} {n : Int} (e : h.cps.size ≠ 0) (z : D) : gSetd (.dt kvs) [.tuple [.str h, .int n], z] = some (.sh ((aGet kvs (nmK h n)).getD z), .dt (aSetd kvs (nmK h n) z)) := by
  show (if kvs.length < 16777216 then (kOfT _).bind _ else none) = _
  rw [if_pos hl, kOfT_nm e, Option.bind_some]
  unfold aSetd
  cases q : aGet kvs (nmK h n) <;> rfl
@[simp] theorem setd_ks {kvs : List (Ky × D)} (hl : kvs.length < 16777216) (h : Str) (z : D) : gSetd (.dk kvs) [.str h, z] = some (.sh ((aGet kvs (.inr h)).getD z), .dk (aSetd kvs (.inr h) z)) := by
  show (if kvs.length < 16777216 then (kOf (.str h)).bind _ else none) = _
  rw [if_pos hl]
  show (some (Sum.inr h : Ky)).bind _ = _
  rw [Option.bind_some]
  unfold aSetd
  cases q : aGet kvs (.inr h) <;> rfl
@[simp] theorem pop_ks (kvs : List (Ky × D)) (h : Str) (z : D) : gPop (.dk kvs) [.str h, z] = some (.sh ((aGet kvs (.inr h)).getD z), .dk (aDrop kvs (.inr h))) := by
  show (kOf (.str h)).bind (fun k => match aGet kvs k with | some d => some (Res.sh d, C.dk (aDrop kvs k)) | none => some (Res.sh z, C.dk kvs)) = _
  rw [show kOf (.str h) = some (.inr h) from rfl, Option.bind_some]
  cases q : aGet kvs (.inr h : Ky) with
  | none => rw [aDrop_none q]; rfl
  | some x => rfl
theorem aSetd_get {κ : Type} [DecidableEq κ] (kvs : List (κ × D)) (k j : κ) (z : D) : aGet (aSetd kvs k z) j = if j = k then some ((aGet kvs k).getD z) else aGet kvs j := by
  unfold aSetd
  by_cases h : (aGet kvs k).isSome = true
  · rw [if_pos h]
    obtain ⟨x, hx⟩ := Option.isSome_iff_exists.mp h
    by_cases e : j = k
    · subst e; rw [if_pos rfl, hx]; rfl
    · rw [if_neg e]
  · rw [if_neg h, aGet_put]
    have hn : aGet kvs k = none := by simpa using h
    rw [hn]; rfl
theorem aSetd_len {κ : Type} [DecidableEq κ] (kvs : List (κ × D)) (k : κ) (z : D) : (aSetd kvs k z).length ≤ kvs.length + 1 := by
  unfold aSetd
  split
  · omega
  · exact aPut_len _ _ _
theorem aGet_none {κ : Type} [DecidableEq κ] {k : κ} : ∀ {kvs : List (κ × D)}, aGet kvs k = none → ∀ e ∈ kvs, e.1 ≠ k
  | [], _, e, he => by cases he
  | x :: r, h, e, he => by
    by_cases q : x.1 = k
    · rw [aGet_pos q] at h; cases h
    · rw [aGet_neg q] at h
      cases he with
      | head => exact q
      | tail _ he => exact aGet_none h e he
theorem aPut_new {κ : Type} [DecidableEq κ] {kvs : List (κ × D)} {k : κ} (h : aGet kvs k = none) (z : D) : aPut kvs k z = kvs ++ [(k, z)] := by
  unfold aPut
  rw [any_aGet, h]; rfl
/-- a new key comes last; else nothing is done -/
theorem aSetd_new {κ : Type} [DecidableEq κ] {kvs : List (κ × D)} {k : κ} (h : aGet kvs k = none) (z : D) : aSetd kvs k z = kvs ++ [(k, z)] := by
  unfold aSetd
  rw [h]
  exact aPut_new h z
theorem aSetd_old {κ : Type} [DecidableEq κ] {kvs : List (κ × D)} {k : κ} {x : D} (h : aGet kvs k = some x) (z : D) : aSetd kvs k z = kvs := by
  unfold aSetd
  rw [h]; rfl
theorem gSumV_k (kvs : List (Ky × D)) : gSumV (.dk kvs) = (intsD (kvs.map (·.2))).bind fun is => some (.sh (.int is.sum)) := rfl
/-! ### dicts from texts to numbers -/
def prD (p : Str × Int) : D := .tuple [.str p.1, .int p.2]
def rowK (p : Str × Int) : Ky × D := (.inr p.1, .int p.2)
def lPut (l : List (Str × Int)) (h : Str) (n : Int) : List (Str × Int) := if (l.any fun p => decide (p.1 = h)) = true then l.map (fun p => if p.1 = h then (p.1, n) else p) else l ++ [(h, n)]
theorem rowK_ne {p : Str × Int} {h : Str} : ((rowK p).1 = (Sum.inr h : Ky)) ↔ p.1 = h := by
  unfold rowK
  constructor
  · intro z; exact Sum.inr.inj z
  · intro z; rw [z]
theorem aPut_rows (l : List (Str × Int)) (h : Str) (n : Int) : aPut (l.map rowK) (.inr h : Ky) (.int n) = (lPut l h n).map rowK := by
  unfold aPut lPut
  have e : ((l.map rowK).any fun e => decide (e.1 = (Sum.inr h : Ky))) = l.any fun p => decide (p.1 = h) := by
    rw [List.any_map]
    refine congrArg (fun f => l.any f) (funext fun p => ?_)
    exact decide_eq_decide.mpr rowK_ne
  rw [e]
  split
  · rw [List.map_map, List.map_map]
    refine List.map_congr_left fun p _ => ?_
    show (if (rowK p).1 = (Sum.inr h : Ky) then ((rowK p).1, PyData.int n) else rowK p) = rowK (if p.1 = h then (p.1, n) else p)
    by_cases q : p.1 = h
    · rw [if_pos (rowK_ne.mpr q), if_pos q]; rfl
    · rw [if_neg (fun z => q (rowK_ne.mp z)), if_neg q]
  · rw [List.map_append]; rfl
theorem aDrop_rows (l : List (Str × Int)) (h : Str) : aDrop (l.map rowK) (.inr h : Ky) = (l.filter fun p => decide (p.1 ≠ h)).map rowK := by
  unfold aDrop
  rw [List.filter_map]
  refine congrArg (List.map rowK) (List.filter_congr fun p _ => ?_)
  exact decide_eq_decide.mpr (not_congr rowK_ne)
theorem lPut_mem {l : List (Str × Int)} {h : Str} {n : Int} {p : Str × Int} (q : p ∈ lPut l h n) : p = (h, n) ∨ p ∈ l := by
  unfold lPut at q
  split at q
  · rw [List.mem_map] at q
    obtain ⟨y, hy, e⟩ := q
    split at e
    · rename_i z; subst e; left; rw [z]
    · subst e; exact .inr hy
  · rw [List.mem_append] at q
    rcases q with q | q
    · exact .inr q
    · exact .inl (List.mem_singleton.mp q)
theorem lPut_len (l : List (Str × Int)) (h : Str) (n : Int) : (lPut l h n).length ≤ l.length + 1 := by
  unfold lPut
  split <;> simp
theorem intsD_map {α : Type} (f : α → Int) : ∀ l : List α, intsD (l.map fun x => PyData.int (f x)) = some (l.map f)
  | [] => rfl
  | x :: r => by
    rw [List.map_cons, List.map_cons]
    show (intsD _).bind _ = _
    rw [intsD_map f r]; rfl
@[simp] theorem sumV_rows (l : List (Str × Int)) : gSumV (.dk (l.map rowK)) = some (.sh (.int (l.map (·.2)).sum)) := by
  rw [gSumV_k, List.map_map]
  have := intsD_map (fun p : Str × Int => p.2) l
  rw [show (List.map ((fun x : Ky × D => x.2) ∘ rowK) l) = l.map fun x => PyData.int x.2 from rfl, this]
  rfl
theorem prD_pln (p : Str × Int) : pln (prD p) = true := by simp [prD, pln, plns]
theorem sortB_of {α : Type} (f : α → D) (l : List α) (hp : ∀ x ∈ l, pln (f x) = true) (hd : ∀ x ∈ l, (f x).depth ≤ 60) (hk : (∀ x ∈ l, tupB (f x) = true) ∨ ∀ x ∈ l, plainB (f x) = true) (ha : ∀ x ∈ l, ∀ y ∈ l, W.alike (f x) (f y) = true) (hl : l.length ≤ 16777216) : sortB (l.map f) = true := by
  unfold sortB alikeB
  simp only [Bool.and_eq_true, Bool.or_eq_true, List.all_eq_true, decide_eq_true_eq, List.length_map]
  have m : ∀ x ∈ l.map f, ∃ y ∈ l, x = f y := fun x hx => by
    rw [List.mem_map] at hx
    obtain ⟨y, hy, rfl⟩ := hx
    exact ⟨y, hy, rfl⟩
  refine ⟨⟨⟨⟨nods_iff.mpr fun x hx => ?_, fun x hx y hy => ?_⟩, ?_⟩, fun x hx => ?_⟩, hl⟩
  · obtain ⟨y, hy, rfl⟩ := m x hx; exact pln_nod _ (hp y hy)
  · obtain ⟨u, hu, rfl⟩ := m x hx
    obtain ⟨v, hv, rfl⟩ := m y hy
    exact ha u hu v hv
  · rcases hk with hk | hk
    · left; intro x hx; obtain ⟨y, hy, rfl⟩ := m x hx; exact hk y hy
    · right; intro x hx; obtain ⟨y, hy, rfl⟩ := m x hx; exact hk y hy
  · obtain ⟨y, hy, rfl⟩ := m x hx; exact hd y hy
theorem sortD_map {α : Type} (f : α → D) (l : List α) : sortD (l.map f) = (l.mergeSort fun a b => leD (f a) (f b)).map f :=
  (List.map_mergeSort (r := fun a b => leD (f a) (f b)) (s := leD) (f := f) fun _ _ _ _ => rfl).symm
theorem prD_alike (p q : Str × Int) : W.alike (prD p) (prD q) = true := by simp [prD, W.alike, W.alikeAll]
theorem prD_depth (p : Str × Int) : (prD p).depth ≤ 60 := by simp [prD, PyData.depth, PyData.depthAll]
theorem sortB_prs {l : List (Str × Int)} (hl : l.length ≤ 16777216) : sortB (l.map prD) = true :=
  sortB_of prD l (fun p _ => prD_pln p) (fun p _ => prD_depth p) (.inl fun _ _ => rfl) (fun p _ q _ => prD_alike p q) hl
def sortP (l : List (Str × Int)) : List (Str × Int) := l.mergeSort fun a b => leD (prD a) (prD b)
theorem sortP_perm (l : List (Str × Int)) : (sortP l).Perm l := List.mergeSort_perm _ _
@[simp] theorem sortIt_rows {l : List (Str × Int)} (hl : l.length ≤ 16777216) : gSortIt (.dk (l.map rowK)) = some (.fr (.d (.list ((sortP l).map prD)))) := by
  show (some ((l.map rowK).map fun e => (kD e.1, e.2))).bind _ = _
  rw [Option.bind_some, List.map_map, List.map_map]
  show (if sortB (l.map prD) = true then some (Res.fr (.d (.list (sortD (l.map prD))))) else none) = _
  rw [if_pos (sortB_prs hl), sortD_map]; rfl
@[simp] theorem sorted_prs {l : List (Str × Int)} (hl : l.length ≤ 16777216) : gSorted [.d (.list (l.map prD))] = some (.fr (.d (.list ((sortP l).map prD)))) := by
  rw [gSorted_l (sortB_prs hl), sortD_map]; rfl
/-! ### sorted by a key -/
theorem keysD_of {f : DF} {g : D → D} : ∀ {ds : List D}, (∀ d ∈ ds, f [.d d] [] = some (.sh (g d), [])) → keysD f ds = some (ds.map g)
  | [], _ => rfl
  | d :: ds, h => by
    show (f [.d d] []).bind _ = _
    rw [h d List.mem_cons_self, Option.bind_some]
    show (keysD f ds).bind _ = _
    rw [keysD_of fun x hx => h x (List.mem_cons_of_mem _ hx)]; rfl
theorem zip_map {α β : Type} (f : α → β) : ∀ l : List α, l.zip (l.map f) = l.map fun x => (x, f x)
  | [] => rfl
  | x :: r => by
    rw [List.map_cons, List.zip_cons_cons, zip_map f r]; rfl
def leR (b : Bool) (x y : D) : Bool := cond b (!W.dataLt x y) (!W.dataLt y x)
theorem sortKD_map (b : Bool) (g : D → D) (ds : List D) : sortKD b ds (ds.map g) = ds.mergeSort fun x y => leR b (g x) (g y) := by
  unfold sortKD
  rw [zip_map, ← List.map_mergeSort (r := fun x y => leR b (g x) (g y)) (s := W.dataLe b fun p : D × D => p.2) (f := fun x => (x, g x)) (fun _ _ _ _ => rfl), List.map_map]
  exact (List.map_congr_left fun x _ => rfl).trans (List.map_id _)
theorem sortK_ev {f : DF} {g : D → D} {b : Bool} {ds : List D} (hn : nods ds = true) (h : ∀ d ∈ ds, f [.d d] [] = some (.sh (g d), [])) (hs : sortB (ds.map g) = true) :
    gSortK f b (.d (.list ds)) = some (.fr (.d (.list (ds.mergeSort fun x y => leR b (g x) (g y))))) := by
  show (if nods ds = true then _ else none) = _
  rw [if_pos hn, keysD_of h, Option.bind_some, if_pos hs, sortKD_map]
/-! ### comprehensions and loops, by one step -/
def compStep (vs : List Nat) (p : Pat) (t : TF) (a : EF) (x : D) (r : Env) : Option (Option D × Env) :=
  (bindP p x r).bind fun r1 => (t r1).bind fun b => if b.1 = true then (a b.2).bind fun q => (toSh q.2 q.1).bind fun y => some (some y.1, wipeE y.2 vs) else some (none, wipeE b.2 vs)
theorem comp_step {α : Type} {vs : List Nat} {p : Pat} {t : TF} {a : EF} (e : α → D) (g : α → Option D) (r0 : Env) : ∀ xs : List α,
    (∀ x ∈ xs, compStep vs p t a (e x) r0 = some (g x, r0)) → runComp vs p t a (xs.map e) r0 = some (xs.filterMap g, r0)
  | [], _ => rfl
  | x :: xs, h => by
    have ih := comp_step (vs := vs) (p := p) (t := t) (a := a) e g r0 xs fun y hy => h y (List.mem_cons_of_mem _ hy)
    have h := h x List.mem_cons_self
    unfold compStep at h
    rw [List.map_cons, runComp_cons]
    cases q1 : bindP p (e x) r0 with
    | none => rw [q1] at h; cases h
    | some r1 =>
      rw [q1, Option.bind_some] at h
      rw [Option.bind_some]
      cases q2 : t r1 with
      | none => rw [q2] at h; cases h
      | some b =>
        rw [q2, Option.bind_some] at h
        rw [Option.bind_some]
        by_cases c : b.1 = true
        · rw [if_pos c] at h ⊢
          cases q3 : a b.2 with
          | none => rw [q3] at h; cases h
          | some q =>
            rw [q3, Option.bind_some] at h
            rw [Option.bind_some]
            cases q4 : toSh q.2 q.1 with
            | none => rw [q4] at h; cases h
            | some y =>
              rw [q4, Option.bind_some] at h
              rw [Option.bind_some]
              have h1 := congrArg (fun z => z.2) (Option.some.inj h)
              have h2 := congrArg (fun z => z.1) (Option.some.inj h)
              simp only at h1 h2
              show (runComp vs p t a (xs.map e) (wipeE y.2 vs)).bind _ = _
              rw [h1, ih, List.filterMap_cons, ← h2]
              rfl
        · rw [if_neg c] at h ⊢
          have h1 := congrArg (fun z => z.2) (Option.some.inj h)
          have h2 := congrArg (fun z => z.1) (Option.some.inj h)
          simp only at h1 h2
          rw [h1, ih, List.filterMap_cons, ← h2]
theorem comp_map {α : Type} {vs : List Nat} {p : Pat} {t : TF} {a : EF} (e g : α → D) (r0 : Env) (xs : List α) (h : ∀ x ∈ xs, compStep vs p t a (e x) r0 = some (some (g x), r0)) : runComp vs p t a (xs.map e) r0 = some (xs.map g, r0) := by
  rw [comp_step e (fun x => some (g x)) r0 xs h]
  rw [show (fun x => some (g x)) = some ∘ g from rfl, List.filterMap_eq_map]
theorem comp_flt {α : Type} {vs : List Nat} {p : Pat} {t : TF} {a : EF} (e : α → D) (b : α → Bool) (g : α → D) (r0 : Env) (xs : List α) (h : ∀ x ∈ xs, compStep vs p t a (e x) r0 = some (if b x = true then some (g x) else none, r0)) : runComp vs p t a (xs.map e) r0 = some ((xs.filter b).map g, r0) := by
  rw [comp_step e (fun x => if b x = true then some (g x) else none) r0 xs h]
  clear h
  congr 2
  induction xs with
  | nil => rfl
  | cons x xs ih =>
    rw [List.filterMap_cons, ih]
    by_cases c : b x = true
    · rw [if_pos c, List.filter_cons_of_pos c]; rfl
    · rw [if_neg c, List.filter_cons_of_neg c]
/-- a loop by its invariant -/
theorem for_inv {α : Type} {p : Pat} {f : SF} (e : α → D) (Inv : Nat → Env → Prop) (xs : List α) (r : Env) (h : Inv 0 r)
    (step : ∀ i r x, Inv i r → xs[i]? = some x → ∃ r2, (bindP p (e x) r).bind f = some (.nx, r2) ∧ Inv (i + 1) r2) : ∃ r', runFor p f (xs.map e) r = some (.nx, r') ∧ Inv xs.length r' := by
  have := runFor_inv0 (p := p) (f := f) Inv (xs.map e) r h fun i r x hi hx => by
    rw [List.getElem?_map, Option.map_eq_some_iff] at hx
    obtain ⟨y, hy, rfl⟩ := hx
    obtain ⟨r2, h1, h2⟩ := step i r y hi hy
    cases q : bindP p (e y) r with
    | none => rw [q] at h1; cases h1
    | some r1 => rw [q] at h1; exact ⟨r1, .nx, r2, rfl, h1, .inl rfl, h2⟩
  rwa [List.length_map] at this
theorem rgD0 (n : Nat) : rgD 0 n = (List.range n).map fun (k : Nat) => PyData.int k := by
  unfold rgD
  refine List.map_congr_left fun k _ => ?_
  rw [Int.zero_add]
theorem for_rg {p : Pat} {f : SF} (Inv : Nat → Env → Prop) (n : Nat) (r : Env) (h : Inv 0 r)
    (step : ∀ i r, i < n → Inv i r → ∃ r2, (bindP p (.int (i : Int)) r).bind f = some (.nx, r2) ∧ Inv (i + 1) r2) : ∃ r', runFor p f (rgD 0 n) r = some (.nx, r') ∧ Inv n r' := by
  have := for_inv (p := p) (f := f) (fun (k : Nat) => PyData.int k) Inv (List.range n) r h fun i r x hi hx => by
    obtain ⟨h1, h2⟩ := List.getElem?_eq_some_iff.mp hx
    rw [List.length_range] at h1
    rw [List.getElem_range] at h2
    subst h2
    exact step i r h1 hi
  rw [List.length_range, ← rgD0] at this
  exact this
theorem comp_rg {vs : List Nat} {p : Pat} {t : TF} {a : EF} (g : Nat → D) (r0 : Env) (n : Nat) (h : ∀ k < n, compStep vs p t a (.int (k : Int)) r0 = some (some (g k), r0)) : runComp vs p t a (rgD 0 n) r0 = some ((List.range n).map g, r0) := by
  rw [rgD0]
  exact comp_map (fun (k : Nat) => PyData.int k) g r0 (List.range n) fun k hk => h k (List.mem_range.mp hk)
end CM
end
section
set_option Elab.async false
set_option linter.all false
set_option maxRecDepth 100000
set_option autoImplicit false
namespace CM
open PySem PySem.Spec PyProof.Rows L2 PySem.SeqAt PySem.W
/-! ### list(reversed(a list)) -/
section
variable {prog : Program} {w : World} {A : Around} {E : Value → Shared → Prop} {s : Shared} {it l S : Addr} {items : Array Value}
/-- the list S, still empty, is filled by the walk backwards -/
theorem rv_fill {res : Value} {c0 : Nat} {R : Result → Shared → Prop} (hh : A.handled = none) (st : s.heap.IsRevIter it l ((items.size : Int) - 1)) (hl : s.heap.IsList l items) (ne : l ≠ it) (ne1 : S ≠ it) (ne2 : S ≠ l) (hn : items.size ≤ sizeLine)
    (hS : s.heap.get? S = some { cls := .type "list", dict := none, data := .seq #[] c0, slots := #[] })
    (k : ∀ h' tk acc c, (∀ b o, b ≠ S → b ≠ it → s.heap.get? b = some o → h'.get? b = some o) → h'.get? S = some { cls := .type "list", dict := none, data := .seq acc c, slots := #[] } → ItemsOf (fun i v => items[items.size - 1 - i]? = some v) acc items.size → R (.ok (.ret res)) { s with heap := h', toks := tk }) :
    codeAny (model prog w) A (.builtin "list.extend.loop" ⟨[.ref S, .ref it, res], []⟩) R s := by
  have e0 : ((items.size : Nat) : Int) - 1 - ((0 : Nat) : Int) = (items.size : Int) - 1 := by omega
  refine codeAny_extend_loopS (Walks.listRev (prog := prog) (w := w) (A := A.in1) hh it l ne items).toS hn S (fun m => ?_) res items.size 0 s #[] c0 rfl (Nat.zero_le _) ⟨Nat.zero_le _, by rw [e0]; exact st, hl⟩ hS (ItemsOf.nil _) fun s' acc c mv e io => ?_
  · rcases List.mem_cons.mp m with m | m
    · exact ne1 m
    · exact ne2 (List.mem_singleton.mp m)
  · rw [Moved.eq_with mv]
    refine k _ _ _ _ (fun b o b1 b2 q => mv.heap b o (fun m => ?_) q) e io
    rcases List.mem_cons.mp m with m | m
    · exact b1 m
    · exact b2 (List.mem_singleton.mp m)
theorem rv_hint (st : s.heap.IsRevIter it l ((items.size : Int) - 1)) {Q : Bool → Shared → Prop} (k : Q false s) : wpAny (model prog w) A (Builtin.List.listLengthHint (.ref it)) Q E s := by
  have ty : s.TypeIs (.ref it) "list_reverseiterator" := Heap.IsRevIter.typeIs st
  unfold Builtin.List.listLengthHint
  refine wpAny_bind (wpAny_specialOf ty RT.nolen_lri ?_)
  show wpAny _ _ (specialOf (Value.ref it) (Str.ofString "__length_hint__") >>= _) _ _ _
  refine wpAny_bind (wpAny_specialOf ty RT.hint_lri ?_)
  generalize hid : ("list_reverseiterator.__length_hint__" : String) = id0
  wp_delta
  rw [show splitId id0 = some ("list_reverseiterator", "__length_hint__") from by subst hid; decide +kernel]
  subst hid
  exact wpAny_bind (wpAny_isInstance (b := true) ty (by rw [isSubtype_type]; kernel_rfl) (wpAny_pure k))
theorem rv_list {Q : Value → Shared → Prop} (hh : A.handled = none) (st : s.heap.IsRevIter it l ((items.size : Int) - 1)) (hl : s.heap.IsList l items) (ne : l ≠ it) (hn : items.size ≤ sizeLine)
    (k : ∀ h' tk acc c, (∀ b o, b ≠ it → s.heap.get? b = some o → h'.get? b = some o) → h'.get? s.heap.objs.size = some { cls := .type "list", dict := none, data := .seq acc c, slots := #[] } → ItemsOf (fun i v => items[items.size - 1 - i]? = some v) acc items.size → Q (.ref s.heap.objs.size) { s with heap := h', toks := tk }) :
    wpAny (model prog w) A (call (.type "list") [.ref it]) Q E s := by
  obtain ⟨oi, hoi, ri⟩ := id st
  obtain ⟨ol, hol, rl⟩ := id hl
  have n1 : s.heap.objs.size ≠ it := Nat.ne_of_gt (Heap.lt_size hoi)
  have n2 : s.heap.objs.size ≠ l := Nat.ne_of_gt (Heap.lt_size hol)
  refine callType_codes (Q₁ := fun y t => y = .ref s.heap.objs.size ∧ t = { s with heap := s.heap.push { cls := .type "list", data := .seq #[] } }) PySem.F.called_list (PySem.F.typeCall_list_1 _) PySem.F.entry_list_init
    (code_list_new _ ⟨rfl, rfl⟩) fun y t ht => ?_
  obtain ⟨rfl, rfl⟩ := ht
  have hS : (s.heap.push { cls := .type "list", data := .seq #[] }).get? s.heap.objs.size = some { cls := .type "list", data := .seq #[] } := Heap.get?_push_size _ rfl
  refine ⟨⟨_, hS, rfl⟩, PySem.F.args_list_init_2 _ _, ?_⟩
  show wpAny _ _ (do let old ← Builtin.List.listItems (.ref s.heap.objs.size); Builtin.List.listUpdate (.ref s.heap.objs.size) (fun _ => #[]); letGo old.toList.reverse; Builtin.List.listExtendWith (.ref s.heap.objs.size) (.ref it) .none) _ _ _
  refine wpAny_bind ?_
  unfold Builtin.List.listItems
  refine wpAny_bind (wpAny_seqItems hS rfl (wpAny_pure ?_))
  show wpAny _ _ (updateSeq s.heap.objs.size (fun _ => #[]) >>= fun _ => letGo (#[] : Array Value).toList.reverse >>= fun _ => Builtin.List.listExtendWith (.ref s.heap.objs.size) (.ref it) .none) _ _ _
  refine wpAny_bind (wpAny_updateSeq hS rfl ?_)
  generalize hh1 : (s.heap.push { cls := .type "list", data := .seq #[] }).update s.heap.objs.size (Obj.mapSeq (fun _ => (#[] : Array Value))) = h1
  have hS2 : h1.get? s.heap.objs.size = some { cls := .type "list", dict := none, data := .seq #[] , slots := #[] } := by rw [← hh1]; exact Heap.get?_update_self (Obj.mapSeq (fun _ => (#[] : Array Value))) hS rfl
  have oth : ∀ b o, s.heap.get? b = some o → h1.get? b = some o := fun b o e => by
    rw [← hh1]
    exact (Heap.get?_update_other _ _ (Nat.ne_of_gt (Heap.lt_size e))).trans (Heap.get?_push_of_some _ e)
  have st1 : h1.IsRevIter it l ((items.size : Int) - 1) := ⟨oi, oth _ _ hoi, ri⟩
  have hl1 : h1.IsList l items := ⟨ol, oth _ _ hol, rl⟩
  refine wpAny_bind (wpAny_letGo ?_)
  unfold Builtin.List.listExtendWith
  refine wpAny_bind (wpAny_typeOf (T := "list_reverseiterator") ⟨oi, oth _ _ hoi, ri.1⟩ ?_)
  have z : Builtin.List.listSameRef (.ref s.heap.objs.size) (.ref it) = false := by simp [Builtin.List.listSameRef, n1]
  rw [if_neg (by rw [z]; decide)]
  refine wpAny_bind (wpAny_pyIter_revIter (s := { s with heap := h1 }) st1 ?_)
  refine wpAny_bind (wpAny_holding (rv_hint (s := { s with heap := h1 }) st1 ?_))
  rw [if_neg (by decide)]
  refine wpAny_pure ⟨plainId_quiet PySem.F.plain_extend_loop _, rv_fill (s := { s with heap := h1 }) hh st1 hl1 ne n1 n2 hn hS2 fun h' tk acc c kp e io => ?_⟩
  exact ⟨rfl, k h' tk acc c (fun b o b1 q => kp b o (Nat.ne_of_lt (Heap.lt_size q)) b1 (oth b o q)) e io⟩
end
section
variable {X : Cx} {e : Expr} {p p2 pos pos2 : Pos}
/-- list(reversed(x)), x a list -/
def tListRev (K : PySem.W.Frag) (te : TE) : TE := fun σ H Q => te σ H fun v H1 => ∃ (a : Addr) (xs : List V), v = .ref a ∧ SqL K H1 a xs ∧ ∀ q, H1 q = none → Q (.ref q) (upd H1 q (.lst xs.reverse))
theorem pe_listRev {te : TE} (hc : X.calm = true) (hg : Gl X "list") (hm : X.mg "list" = none) (hv : bootBuiltins "list" = some (.type "list")) (hg2 : Gl X "reversed") (hm2 : X.mg "reversed" = none) (hv2 : bootBuiltins "reversed" = some (.type "reversed")) (he : PE X e te)
    (h1 : starEach [e] X.env = (false, eval e X.env) :: starEach [] X.env)
    (h2 : starEach [.Call (.Name "reversed" p2) [e] [] pos2] X.env = (false, eval (.Call (.Name "reversed" p2) [e] [] pos2) X.env) :: starEach [] X.env) :
    PE X (.Call (.Name "list" p) [.Call (.Name "reversed" p2) [e] [] pos2] [] pos) (tListRev X.K te) := by
  refine ⟨fun pins s σ H Q I h => ?_⟩
  refine Call_ (ld_blt I hg hm hv (callWith_type1 (args_cons (Call_ (ld_blt I hg2 hm2 hv2 (callWith_type1 (args_cons (thn (he.run pins s σ H _ I h) fun u s1 ⟨v, H1, I1, r1, a, xs, ev, sq, q⟩ => args_nil ?_) h1) h1 rfl))) h2) h2 rfl))
  subst ev
  obtain rfl : u = Value.ref a := r1
  obtain ⟨its, rv, pl, hz⟩ := I1.list sq
  obtain ⟨ol, hol, _⟩ := id pl.isList
  have ls : its.toArray.size = xs.length := by rw [List.size_toArray]; exact rv.length.symm
  refine call_reversed_list pl.isList (args_nil ?_)
  generalize hh2 : s1.heap.push (revObj a ((its.toArray.size : Int) - 1)) = h2'
  have up : ∀ b o, s1.heap.get? b = some o → h2'.get? b = some o := fun b o q => by rw [← hh2]; exact Heap.get?_push_of_some _ q
  have big : h2'.objs.size = s1.heap.objs.size + 1 := by rw [← hh2]; simp [Heap.push]
  have st : h2'.IsRevIter s1.heap.objs.size a ((its.toArray.size : Int) - 1) := by rw [← hh2]; exact ⟨_, Heap.get?_push_size _ rfl, rfl, rfl⟩
  refine rv_list (s := { s1 with heap := h2' }) (I1.ok.hd hc) st ⟨ol, up _ _ hol, (by obtain ⟨o, ho, r⟩ := pl.isList; rw [ho] at hol; cases hol; exact r)⟩ (Nat.ne_of_lt (Heap.lt_size hol)) (by rw [ls]; exact hz) fun h' tk acc c kp e1 io => ?_
  have va : Vals xs.reverse acc.toList := RT.vals_rev rv io
  have keep : ∀ b o, s1.heap.get? b = some o → h'.get? b = some o := fun b o q => kp b o (Nat.ne_of_lt (Heap.lt_size q)) (up b o q)
  have le : s1.heap.objs.size ≤ h2'.objs.size := by rw [big]; exact Nat.le_succ _
  exact ⟨.ref h2'.objs.size, upd H1 h2'.objs.size (.lst xs.reverse), I1.laid keep le ⟨by rw [List.length_reverse]; exact hz, acc.toList, c, va, by rw [Array.toArray_toList]; exact e1⟩, rfl, q _ (I1.hok.fresh le)⟩
def gLRev : C → Option Res
  | .d (.list ds) => some (.fr (.d (.list ds.reverse)))
  | _ => none
theorem de_listRev {fa : EF} {qb : Bool} (hc : X.calm = true) (ha : DE X qb e fa) (hg : Gl X "list") (hm : X.mg "list" = none) (hv : bootBuiltins "list" = some (.type "list")) (hg2 : Gl X "reversed") (hm2 : X.mg "reversed" = none) (hv2 : bootBuiltins "reversed" = some (.type "reversed"))
    (h1 : starEach [e] X.env = (false, eval e X.env) :: starEach [] X.env := by rfl)
    (h2 : starEach [.Call (.Name "reversed" p2) [e] [] pos2] X.env = (false, eval (.Call (.Name "reversed" p2) [e] [] pos2) X.env) :: starEach [] X.env := by rfl) :
    DE X qb (.Call (.Name "list" p) [.Call (.Name "reversed" p2) [e] [] pos2] [] pos) (eUn gLRev fa) := by
  obtain ⟨t, a1, a2⟩ := ha.ex
  refine ⟨_, pe_listRev hc hg hm hv hg2 hm2 hv2 a1 h1 h2, fun B H0 F0 F H σ r z r' q j Q kk => ?_⟩
  simp only [eUn, Option.bind_eq_some_iff] at q
  obtain ⟨⟨za, r1⟩, q1, c, q2, w, q3, q4⟩ := q
  cases q4
  refine a2 _ _ _ _ _ _ _ _ _ q1 j _ fun F1 H1 x e1 j1 k1 => ?_
  have b := k1.look j1 q2
  unfold gLRev at q3
  split at q3
  · cases q3
    obtain ⟨p, vs, rfl, sq, dd⟩ := b
    refine ⟨p, vs, rfl, sq, fun l hl => ?_⟩
    have g : Grow F1 H1 F1 (upd H1 l (.lst vs.reverse)) := .lay j1.fh hl
    exact kk _ _ _ (e1.qt g.ge) (j1.grow g) (RetOk.res j1 g ⟨l, rfl, hl, j1.fh.back hl, j1.tagged l hl, _, upd_same, VpAll.rev dd⟩)
  · cases q3
@[simp] theorem lrev_l (ds : List D) : gLRev (.d (.list ds)) = some (.fr (.d (.list ds.reverse))) := rfl
end
end CM
end
section
set_option Elab.async false
set_option linter.all false
set_option maxRecDepth 100000
set_option autoImplicit false
namespace CM
open PySem PySem.Spec PyProof.Rows L2 PySem.SeqAt
/-! ### hashes of a name: a text and a number below 2^40 -/
def lane (a x : Nat) : Nat :=
  let b := (a + x * 14029467366897019727) % 18446744073709551616
  let c := (b * 2147483648) % 18446744073709551616 + b / 8589934592
  (c * 11400714785074694791) % 18446744073709551616
theorem mod_inv {p q m b : Nat} (h : p * q % m = 1 % m) : ((b * p) % m * q) % m = b % m := by
  rw [Nat.mod_mul_mod, Nat.mul_assoc, Nat.mul_mod, h, ← Nat.mul_mod, Nat.mul_one]
theorem rot_back {b : Nat} (h : b < 18446744073709551616) {c : Nat} (e : (b * 2147483648) % 18446744073709551616 + b / 8589934592 = c) : b = c % 2147483648 * 8589934592 + c / 2147483648 ∧ c < 18446744073709551616 := by
  obtain ⟨q, hq⟩ : ∃ q, b / 8589934592 = q := ⟨_, rfl⟩
  obtain ⟨r, hr⟩ : ∃ r, b % 8589934592 = r := ⟨_, rfl⟩
  have h1 : b * 2147483648 = 18446744073709551616 * q + r * 2147483648 := by omega
  have h2 : (b * 2147483648) % 18446744073709551616 = r * 2147483648 := by
    rw [h1, Nat.mul_add_mod, Nat.mod_eq_of_lt (by omega)]
  rw [h2, hq] at e
  omega
/-- what came in tells what the lane was -/
theorem lane_back {a x y : Nat} (e : lane a x = y) : (a + x * 14029467366897019727) % 18446744073709551616 = y * 614540362697595703 % 18446744073709551616 % 2147483648 * 8589934592 + y * 614540362697595703 % 18446744073709551616 / 2147483648 := by
  unfold lane at e
  dsimp only at e
  generalize hb : (a + x * 14029467366897019727) % 18446744073709551616 = b at e
  have hb' : b < 18446744073709551616 := by rw [← hb]; exact Nat.mod_lt _ (by decide)
  generalize hc : (b * 2147483648) % 18446744073709551616 + b / 8589934592 = c at e
  obtain ⟨h1, h2⟩ := rot_back hb' hc
  have h3 : y * 614540362697595703 % 18446744073709551616 = c := by
    rw [← e, mod_inv (by decide), Nat.mod_eq_of_lt h2]
  rw [h3]
  exact h1
theorem lane_lt (a x : Nat) : lane a x < 18446744073709551616 := Nat.mod_lt _ (by decide)
theorem diff_mod {a u v b c : Nat} (h1 : (a + u) % 18446744073709551616 = b) (h2 : (a + v) % 18446744073709551616 = c) : (u + (18446744073709551616 - b)) % 18446744073709551616 = (v + (18446744073709551616 - c)) % 18446744073709551616 := by
  omega
/-- the difference of two lanes -/
theorem diff_back {a x y b c : Nat} (h1 : (a + x * 14029467366897019727) % 18446744073709551616 = b) (h2 : (a + y * 14029467366897019727) % 18446744073709551616 = c) :
    (x + (18446744073709551616 - b) * 839798700976720815) % 18446744073709551616 = (y + (18446744073709551616 - c) * 839798700976720815) % 18446744073709551616 := by
  have hb : b < 18446744073709551616 := by rw [← h1]; exact Nat.mod_lt _ (by decide)
  have hc : c < 18446744073709551616 := by rw [← h2]; exact Nat.mod_lt _ (by decide)
  -- x * p + (m - b) = y * p + (m - c) modulo m
  have e : (x * 14029467366897019727 + (18446744073709551616 - b)) % 18446744073709551616 = (y * 14029467366897019727 + (18446744073709551616 - c)) % 18446744073709551616 := by
    exact diff_mod h1 h2
  have k : ∀ z d : Nat, ((z * 14029467366897019727 + d) % 18446744073709551616 * 839798700976720815) % 18446744073709551616 = (z + d * 839798700976720815) % 18446744073709551616 := fun z d => by
    rw [Nat.mod_mul_mod, Nat.add_mul, Nat.add_mod, Nat.mul_assoc, Nat.mul_mod z, show 14029467366897019727 * 839798700976720815 % 18446744073709551616 = 1 by decide, Nat.mul_one, Nat.mod_mod, ← Nat.add_mod]
  rw [← k x, ← k y, e]
def hashE (c : Nat) : Nat := (c + 2870177450013471924) % 18446744073709551616
theorem hashE_lt (c : Nat) : hashE c < 18446744073709551616 := Nat.mod_lt _ (by decide)
def endH (acc : Nat) : Int := if acc == 18446744073709551615 then 1546275796 else if acc < 9223372036854775808 then acc else (acc : Int) - 18446744073709551616
theorem hash_two (x y : Int) : Builtin.Tuple.tupleHashOf [x, y] = endH (hashE (lane (lane 2870177450012600261 (x % 18446744073709551616).toNat) (y % 18446744073709551616).toNat)) := by
  have e64 : (2 : Nat) ^ 64 = 18446744073709551616 := by decide
  have e63 : (2 : Nat) ^ 63 = 9223372036854775808 := by decide
  have e31 : (2 : Nat) ^ 31 = 2147483648 := by decide
  have e33 : (2 : Nat) ^ 33 = 8589934592 := by decide
  have ek : (2 ^^^ (2870177450012600261 ^^^ 3527539) : Nat) = 2870177450013471924 := by decide
  have et : (18446744073709551616 - 1 : Nat) = 18446744073709551615 := by decide
  have e11 : (1 + 1 : Nat) = 2 := by decide
  have ec : ((18446744073709551616 : Nat) : Int) = 18446744073709551616 := by decide
  unfold Builtin.Tuple.tupleHashOf endH hashE lane
  simp -implicitDefEqProofs -ground only [List.foldl_cons, List.foldl_nil, List.length_cons, List.length_nil, Nat.zero_add, e64, e63, e31, e33, e11, ek, et, ec]
theorem endH_id (a : Nat) (h : a < 18446744073709551616) : reduceHash (endH a) = endH a := by
  have r : -(2 ^ 63 : Int) ≤ endH a ∧ endH a < 2 ^ 63 ∧ endH a ≠ -1 := by
    unfold endH
    by_cases q : (a == 18446744073709551615) = true
    · rw [if_pos q]; decide
    · rw [if_neg q]
      have q : a ≠ 18446744073709551615 := fun z => q (by rw [z]; rfl)
      split <;> omega
  unfold reduceHash
  rw [if_pos (by simp only [Bool.and_eq_true, decide_eq_true_eq]; exact ⟨r.1, r.2.1⟩), if_neg (by rw [beq_iff_eq]; exact r.2.2)]
theorem endH_eq {a b : Nat} (ha : a < 18446744073709551616) (hb : b < 18446744073709551616) (e : endH a = endH b) : a = b ∨ (a = 18446744073709551615 ∧ b = 1546275796) ∨ (b = 18446744073709551615 ∧ a = 1546275796) := by
  unfold endH at e
  by_cases q : (a == 18446744073709551615) = true
  · rw [if_pos q] at e
    rw [beq_iff_eq] at q
    by_cases r : (b == 18446744073709551615) = true
    · rw [beq_iff_eq] at r; exact .inl (q.trans r.symm)
    · rw [if_neg r] at e
      refine .inr (.inl ⟨q, ?_⟩)
      split at e <;> omega
  · rw [if_neg q] at e
    by_cases r : (b == 18446744073709551615) = true
    · rw [if_pos r] at e
      rw [beq_iff_eq] at r
      refine .inr (.inr ⟨r, ?_⟩)
      split at e <;> omega
    · rw [if_neg r] at e
      left
      split at e <;> split at e <;> omega
theorem hashE_inj {a b : Nat} (ha : a < 18446744073709551616) (hb : b < 18446744073709551616) (e : hashE a = hashE b) : a = b := by
  unfold hashE at e
  omega
theorem hashE_top {a : Nat} (ha : a < 18446744073709551616) (e : hashE a = 18446744073709551615) : a = 15576566623696079691 := by
  unfold hashE at e
  omega
theorem hashE_sub {a : Nat} (ha : a < 18446744073709551616) (e : hashE a = 1546275796) : a = 15576566625242355488 := by
  unfold hashE at e
  omega
theorem hash_apart (x : Int) {n k : Int} (hn : 0 ≤ n ∧ n < 1099511627776) (hk : 0 ≤ k ∧ k < 1099511627776) (e : reduceHash (Builtin.Tuple.tupleHashOf [x, n]) = reduceHash (Builtin.Tuple.tupleHashOf [x, k])) : n = k := by
  rw [hash_two, hash_two, endH_id _ (hashE_lt _), endH_id _ (hashE_lt _)] at e
  generalize lane 2870177450012600261 (x % 18446744073709551616).toNat = a at e
  have en : (n % 18446744073709551616).toNat = n.toNat := by omega
  have ek : (k % 18446744073709551616).toNat = k.toNat := by omega
  rw [en, ek] at e
  have fin : ∀ {u v : Nat}, lane a n.toNat = u → lane a k.toNat = v → (n.toNat + (18446744073709551616 - (u * 614540362697595703 % 18446744073709551616 % 2147483648 * 8589934592 + u * 614540362697595703 % 18446744073709551616 / 2147483648)) * 839798700976720815) % 18446744073709551616 = (k.toNat + (18446744073709551616 - (v * 614540362697595703 % 18446744073709551616 % 2147483648 * 8589934592 + v * 614540362697595703 % 18446744073709551616 / 2147483648)) * 839798700976720815) % 18446744073709551616 := fun h1 h2 => diff_back (lane_back h1) (lane_back h2)
  have l1 := lane_lt a n.toNat
  have l2 := lane_lt a k.toNat
  rcases endH_eq (hashE_lt _) (hashE_lt _) e with h | ⟨h, g⟩ | ⟨h, g⟩
  · have h := hashE_inj l1 l2 h
    have f := fin h rfl
    generalize (18446744073709551616 - (lane a k.toNat * 614540362697595703 % 18446744073709551616 % 2147483648 * 8589934592 + lane a k.toNat * 614540362697595703 % 18446744073709551616 / 2147483648)) * 839798700976720815 = w at f
    omega
  · have f := fin (hashE_top l1 h) (hashE_sub l2 g)
    omega
  · have f := fin (hashE_sub l1 g) (hashE_top l2 h)
    omega
end CM
end
section
set_option Elab.async false
set_option linter.all false
set_option maxRecDepth 100000
set_option autoImplicit false
namespace CM
open PySem PySem.Spec PyProof.Rows L2 PySem.SeqAt
/-! ### d.update(e): both keyed by names -/
def nmOk (h : Str) : List Ky → Bool
  | [.inr g, .inl n] => decide (g = h) && (decide (0 ≤ n) && decide (n < 1099511627776))
  | _ => false
/-- no two keys hash alike: all of one hand -/
def apartT (ks : List (List Ky)) : Bool :=
  match ks with
  | [] => true
  | [.inr h, .inl n] :: r => ([.inr h, .inl n] :: r).all (nmOk h)
  | _ => false
theorem nmOk_is {h : Str} {k : List Ky} (e : nmOk h k = true) : ∃ n : Int, k = [.inr h, .inl n] ∧ 0 ≤ n ∧ n < 1099511627776 := by
  unfold nmOk at e
  split at e
  · rename_i g n
    simp only [Bool.and_eq_true, decide_eq_true_eq] at e
    obtain ⟨rfl, h1, h2⟩ := e
    exact ⟨n, rfl, h1, h2⟩
  · cases e
theorem apart_is {ks : List (List Ky)} (e : apartT ks = true) : ∃ h : Str, ∀ k ∈ ks, ∃ n : Int, k = [.inr h, .inl n] ∧ 0 ≤ n ∧ n < 1099511627776 := by
  unfold apartT at e
  split at e
  · exact ⟨"", fun _ h => by cases h⟩
  · rename_i h n r
    rw [List.all_eq_true] at e
    exact ⟨h, fun k hk => nmOk_is (e k hk)⟩
  · cases e
theorem hashInt_id {n : Int} (h0 : 0 ≤ n) (h1 : n < 1099511627776) : hashInt n = n := by
  have r : rawHash n = n := by
    unfold rawHash
    have e : ((n.natAbs % (2 ^ 61 - 1 : Nat) : Nat) : Int) = n := by
      rw [Nat.mod_eq_of_lt (by have : (2 : Nat) ^ 61 - 1 = 2305843009213693951 := by decide
                               rw [this]; omega)]
      omega
    dsimp only
    rw [if_neg (show ¬ n < 0 by omega)]
    rw [show ((n.natAbs : Int) % (2 ^ 61 - 1 : Nat)) = n from by rw [← Int.natCast_emod]; exact e]
    rw [if_neg (by rw [beq_iff_eq]; omega)]
  unfold hashInt
  rw [r, if_neg (by rw [beq_iff_eq]; omega)]
theorem hash_nd {prog : Program} {w : World} {ks : List (List Key)} (e : apartT ks = true) (nd : ks.Nodup) : (ks.map (tupleKind (mixKind prog w)).hash).Nodup := by
  obtain ⟨h, hk⟩ := apart_is e
  unfold List.Nodup at nd ⊢
  rw [List.pairwise_map]
  refine List.Pairwise.imp_of_mem (fun {a b} ha hb ne => ?_) nd
  intro q
  obtain ⟨n, rfl, n0, n1⟩ := hk a ha
  obtain ⟨m, rfl, m0, m1⟩ := hk b hb
  have q : reduceHash (Builtin.Tuple.tupleHashOf [hashStr w h, hashInt n]) = reduceHash (Builtin.Tuple.tupleHashOf [hashStr w h, hashInt m]) := q
  rw [hashInt_id n0 n1, hashInt_id m0 m1] at q
  exact ne (by rw [hash_apart _ ⟨n0, n1⟩ ⟨m0, m1⟩ q])
theorem KT.puts {H : Hp} {fs : List (List Key × V)} {ys : List (List Key × Addr × Value)} (g : KT H fs ys) : ∀ {es : List (List Key × V)} {xs : List (List Key × Addr × Value)}, KT H es xs → KT H (putsV es fs) (storedAllH xs ys) := by
  unfold putsV storedAllH
  induction g with
  | nil => exact fun h => h
  | @cons p q ps qs h1 _ ih =>
    intro es xs h
    rw [List.foldl_cons, List.foldl_cons]
    refine ih ?_
    obtain ⟨e1, e2, e3⟩ := h1
    rw [← e1]
    exact h.put _ e2 e3
section
variable {X : Cx}
def rUpdT : V → List V → Hp → VK → Prop := fun x xs H Q => ∃ (a b : Addr) (kvs more : List (List Key × V)), x = .ref a ∧ xs = [.ref b] ∧ a ≠ b ∧ H a = some (.dT kvs) ∧ H b = some (.dT more) ∧ (kvs ≠ [] ∨ apartT (more.map (·.1)) = true) ∧ kvs.length + more.length ≤ sizeLine ∧
  Q .non (upd H a (.dT (putsV kvs more)))
theorem mt_updT (hu : X.A.units + 1 < cLine) : MtR X "dict.update" rUpdT := by
  intro pins s σ H x xs v us Q I rx rxs h
  obtain ⟨a, b, kvs, more, rfl, rfl, ne, ha, hb, hap, hl, q⟩ := h
  cases rx
  rw [Vals.ref1 rxs]
  obtain ⟨zl, hd, xs', rel, dd⟩ := dt_of I.hok ha
  obtain ⟨zl2, hd2, ys', rel2, dd2⟩ := dt_of I.hok hb
  have l1 : kvs.length = xs'.length := Paired.length rel
  have l2 : more.length = ys'.length := Paired.length rel2
  have ks : ∀ {es : List (List Key × V)} {zs : List (List Key × Addr × Value)}, KT H es zs → zs.map (·.1) = es.map (·.1) := fun r => by
    induction r with
    | nil => rfl
    | cons h _ ih => rw [List.map_cons, List.map_cons, ih, h.1]
  have ty : ∀ {es : List (List Key × V)} {zs : List (List Key × Addr × Value)}, KT H es zs → ∀ y ∈ zs, s.TypeIs (.ref y.2.1) "tuple" := fun r => by
    induction r with
    | nil => intro y h; cases h
    | @cons p q ps qs h _ ih =>
      intro y hy
      cases hy with
      | head =>
        obtain ⟨its, rv, ⟨o, e1, e2, _⟩, hz⟩ := I.tuple (show SqT X.K H q.2.1 (p.1.map kV) from .inl (.inl h.2.1))
        exact ⟨o, e1, e2⟩
      | tail _ hy => exact ih y hy
  have nd : (ys'.map (·.1)).Nodup := by obtain ⟨_, _, _, _, _, _, _, _, n⟩ := dd2; exact n
  refine call_update_dictH (knd := tupleKind (mixKind X.prog X.w)) (tupleKind_room_in1 hu) ne hd2 dd dd2 ?_ (by rw [← l1, ← l2]; exact hl) fun h' dd' _ sb => ?_
  · rcases hap with hap | hap
    · left
      intro z
      rw [z] at l1
      exact hap (List.length_eq_zero_iff.mp l1)
    · right
      refine ⟨ty rel2, ?_⟩
      have := hash_nd (prog := X.prog) (w := X.w) (ks := ys'.map (·.1)) (by rw [ks rel2]; exact hap) nd
      rw [List.map_map] at this
      exact this
  · obtain ⟨o, es, ep, hq, h2, h3, h4, _, h5⟩ := dd'
    have rel3 := KT.puts rel2 rel
    have hl2 : (putsV kvs more).length ≤ sizeLine := Nat.le_trans (putsV_len _ _) hl
    have I2 : Inv X pins σ (upd H a (.dT (putsV kvs more))) { s with heap := h', toks := s.toks } :=
      d_write I (by rw [ha]; exact True.intro) sb ⟨o, hq⟩ ⟨hl2, hd, _, rel3.keeps (fun c ys ec => (by rw [upd_ne (ne_of ec ha (fun z => nomatch z))]; exact ec)), o, es, ep, hq, h2, h3, h4, h5⟩
    exact ⟨.non, _, I2, rfl, q⟩
theorem KVs.keys {K : KC} {F : Fz} {κ : Type} {es : List (κ × V)} {kvs : List (κ × D)} (h : KVs K F es kvs) : es.map (·.1) = kvs.map (·.1) := by
  induction h with
  | nil => rfl
  | @cons e q es qs h t ih => rw [List.map_cons, List.map_cons, ih, h.1]
def gUpd (kvs more : List (List Ky × D)) : Option C := if kvs.length + more.length ≤ 16777216 ∧ (kvs ≠ [] ∨ apartT (more.map (·.1)) = true) then some (.dt (putsA kvs more)) else none
/-- a dict that is new -/
def newDt : Res → Option (List (List Ky × D))
  | .fr (.dt m) => some m
  | _ => none
def theDt : C → Option (List (List Ky × D))
  | .dt m => some m
  | _ => none
def eUpd (i : Nat) (a : EF) : EF := fun r => (ownAt r (.sl i)).bind fun c0 => (theDt c0).bind fun _ => (a r).bind fun p => (newDt p.1).bind fun more => (ownAt p.2 (.sl i)).bind fun c => (theDt c).bind fun kvs => (gUpd kvs more).bind fun c' => some (.sh .none, ownPut p.2 c' (.sl i))
theorem newDt_is {z : Res} {m : List (List Ky × D)} (h : newDt z = some m) : z = .fr (.dt m) := by
  unfold newDt at h
  split at h
  · cases h; rfl
  · cases h
theorem theDt_is {z : C} {m : List (List Ky × D)} (h : theDt z = some m) : z = .dt m := by
  unfold theDt at h
  split at h
  · cases h; rfl
  · cases h
theorem de_updT {e : Expr} {fa : EF} {x : Str} {apos cpos npos : Pos} {qb : Bool} (i : Nat) (hu : X.A.units + 64 < cLine) (hN : X.N[i]? = some x) (hv : Vis X.env.scope x) (ha : DE X qb e fa) (hd : (x == ("__debug__" : Str)) = false := by decide) (hcd : (x == ("__classdict__" : Str)) = false := by decide)
    (hbase : attributeBase (.Name x npos) "update" X.env (eval (.Name x npos) X.env) = eval (.Name x npos) X.env := by rfl)
    (hfew : ((backTo cpos (starEach [e] X.env)).all (fun x => !x.1) && (backToKw cpos (keywordEach [] X.env)).all (fun x => x.1.isSome)
      && decide ([e].length + ([] : List Keyword).length + (if ([] : List Keyword).isEmpty then 0 else 1) < 30)) = true := by rfl)
    (hline : (apos.endLine == cpos.line) = true := by rfl) (hs : starEach [e] X.env = (false, eval e X.env) :: starEach [] X.env := by rfl) (hplain : (backTo cpos (starEach [] X.env)).any (·.1) = false := by rfl) :
    DE X false (.Call (.Attribute (.Name x npos) "update" apos) [e] [] cpos) (eUpd i fa) := by
  obtain ⟨t, a1, a2⟩ := ha.ex
  refine ⟨_, pe_bm PySem.F.plainAttrs_dict PySem.F.slot_dict_update PySem.F.type_dict_update (mt_updT (by omega)) (pe_var hN hv hd hcd) (pa_cons a1 pa_nil hs) hbase hfew hline hs hplain, fun B H0 F0 F H σ r z r' q j Q k => ?_⟩
  simp only [eUpd, Option.bind_eq_some_iff] at q
  obtain ⟨c0, q0, kv0, q1, ⟨z1, r1⟩, q2, more, q3, c, q4, kvs, q5, c', q6, q7⟩ := q
  cases q7
  cases theDt_is q1
  obtain ⟨p, hp, ow⟩ := own_sl j q0
  obtain ⟨_, _, od, _⟩ := ow.facts j
  refine ⟨_, hp, dct_ty F H p _ rfl od, ?_⟩
  refine a2 _ _ _ _ _ _ _ _ _ q2 j _ fun F1 H1 v e1 j1 k1 => ?_
  cases newDt_is q3
  cases theDt_is q5
  obtain ⟨p2, hp2, ow2⟩ := own_sl j1 q4
  rw [hp] at hp2; cases hp2
  obtain ⟨_, f2, od2, _⟩ := ow2.facts j1
  obtain ⟨b, rfl, b0, b1, b2, odb, bn⟩ := k1
  obtain ⟨es, he, ke⟩ := od2
  obtain ⟨fs, hf, kf⟩ := odb
  have ne : p ≠ b := by
    intro w
    subst w
    exact bn i _ ow2.1 ow2.2
  unfold gUpd at q6
  split at q6
  · rename_i hc
    cases q6
    have lk := ke.length
    have lf := kf.length
    have kks : fs.map (·.1) = more.map (·.1) := kf.keys
    refine ⟨p, b, es, fs, rfl, rfl, ne, he, hf, ?_, by rw [lk, lf, sizeLine_eq]; exact hc.1, ?_⟩
    · rcases hc.2 with h | h
      · left
        intro w
        rw [w] at lk
        exact h (List.length_eq_zero_iff.mp lk.symm)
      · right
        rw [kks]
        exact h
    · have ch : Chg p F1 H1 F1 (upd H1 p (.dT (putsV es fs))) := .at j1.fh f2
      exact k F1 _ _ (e1.trans (ch.ge ownPut_lent)).weak (j1.chg ow2 ch ⟨_, upd_same, KVs.puts kf ke⟩) .non
  · cases q6
@[simp] theorem newDt_f (m : List (List Ky × D)) : newDt (.fr (.dt m)) = some m := rfl
@[simp] theorem theDt_d (m : List (List Ky × D)) : theDt (.dt m) = some m := rfl
@[simp] theorem ev_upd (i : Nat) (a : EF) (r : Env) : eUpd i a r = (ownAt r (.sl i)).bind fun c0 => (theDt c0).bind fun _ => (a r).bind fun p => (newDt p.1).bind fun more => (ownAt p.2 (.sl i)).bind fun c => (theDt c).bind fun kvs => (gUpd kvs more).bind fun c' => some (.sh .none, ownPut p.2 c' (.sl i)) := rfl
end
end CM
end
section
set_option Elab.async false
set_option linter.all false
set_option maxRecDepth 100000
set_option autoImplicit false
namespace CM
open PySem PySem.Spec PyProof.Rows L2 PySem.SeqAt
/-! ### dict(a list of pairs), the keys names -/
theorem list_choose {α : Type} {P : Nat → α → Prop} : ∀ n : Nat, (∀ j, j < n → ∃ y, P j y) → ∃ ys : List α, ys.length = n ∧ ∀ j y, ys[j]? = some y → P j y
  | 0, _ => ⟨[], rfl, fun j y h => by simp at h⟩
  | n + 1, h => by
    obtain ⟨ys, l, k⟩ := list_choose n fun j hj => h j (Nat.lt_succ_of_lt hj)
    obtain ⟨y, hy⟩ := h n (Nat.lt_succ_self n)
    refine ⟨ys ++ [y], by simp [l], fun j z hz => ?_⟩
    by_cases q : j < n
    · rw [List.getElem?_append_left (by omega)] at hz
      exact k j z hz
    · rw [List.getElem?_append_right (by omega), l] at hz
      have : j = n := by
        have := (List.getElem?_eq_some_iff.mp hz).1
        simp at this
        omega
      subst this
      simp at hz
      subst hz
      exact hy
section
variable {X : Cx}
theorem dcl_dictT (hc : X.calm = true) (hu : X.A.units + 64 < cLine) : DCl X (.type "dict") gDictT := by
  refine .of fun pins s σ H xs us Q I r ⟨F, cs, z, e, et, b, q, k⟩ => ?_
  unfold gDictT at q
  split at q
  · rename_i ds
    split at q
    · rename_i hl
      simp only [Option.bind_eq_some_iff] at q
      obtain ⟨ps, q1, kvs, q2, q3⟩ := q
      cases q3
      obtain ⟨x, rfl, a, vs, rfl, sq, vp⟩ := one_of b
      rw [Vals.ref1 r]
      obtain ⟨its, rv, pl, hz⟩ := I.list sq
      obtain ⟨ts, us, es, e1, l1, l2, l3, at'⟩ := pairs_at I e q1 vp rv
      obtain ⟨lk, kat⟩ := keysT_get q2
      have hpl : ps.length ≤ sizeLine := by rw [pairsD_len q1, sizeLine_eq]; exact hl
      obtain ⟨ys, ly, hy⟩ := list_choose (P := fun j (y : List Key × Addr × Value) => ∃ (u : Value × Value) (e : V × V) (d : D), us[j]? = some u ∧ es[j]? = some e ∧ kvs[j]? = some (y.1, d) ∧ u.1 = .ref y.2.1 ∧ y.2.2 = u.2 ∧ H y.2.1 = some (.tup (y.1.map kV)) ∧ RelV e.2 u.2 ∧ Vp X.kc F e.2 d) ps.length fun j hj => by
        obtain ⟨t, u, w, h1, h2, h3, P⟩ := at' j _ (List.getElem?_eq_getElem hj)
        obtain ⟨ky, h4, h5⟩ := kat j _ (List.getElem?_eq_getElem hj)
        obtain ⟨b, eb, hb⟩ := keyT_v h5 P.kd
        have pk := P.k
        rw [eb] at pk
        exact ⟨(ky, b, u.2), u, w, _, h2, h3, h4, pk, rfl, e _ _ hb, P.v, P.vd⟩
      have all : ∀ j, j < ps.length → ∃ y, ys[j]? = some y := fun j hj => ⟨_, List.getElem?_eq_getElem (by omega)⟩
      let ek : List (List Key × V) := (kvs.map (·.1)).zip (es.map (·.2))
      have lek : ek.length = ps.length := by simp [ek, List.length_zip]; omega
      have ekat : ∀ (j : Nat) (ky : List Key) (d : D) (w : V × V), kvs[j]? = some (ky, d) → es[j]? = some w → ek[j]? = some (ky, w.2) := fun j ky d w h1 h2 => by simp [ek, List.getElem?_zip_eq_some, h1, h2]
      have kt : KT H ek ys := paired_of (by omega) fun j p y hp hy' => by
        obtain ⟨u, w, d, h1, h2, h3, h4, h5, h6, h7, _⟩ := hy j y hy'
        rw [ekat j _ _ _ h3 h2] at hp
        cases hp
        exact ⟨rfl, h6, by rw [h5]; exact h7⟩
      have kd : KVs X.kc F ek kvs := paired_of (by omega) fun j p y hp hq => by
        obtain ⟨y', hy'⟩ := all j (by rw [← lek]; exact (List.getElem?_eq_some_iff.mp hp).1)
        obtain ⟨u, w, d, h1, h2, h3, h4, h5, h6, h7, h8⟩ := hy j y' hy'
        rw [ekat j _ _ _ h3 h2] at hp
        rw [hq] at h3
        cases hp; cases h3
        exact ⟨rfl, h8⟩
      refine call_dict_pairsH (knd := tupleKind (mixKind X.prog X.w)) (ps := ys) (PairArg.list a its.toArray (fun j => ts.getD j 0) us) (I.ok.hd hc) (show X.A.in1.in1.units < cLine from by have : X.A.in1.in1.units = X.A.units + 2 := rfl; omega) ⟨let ⟨o, n, h1, h2, h3, h4⟩ := pl; ⟨o, n, h1, h2, h3, h4⟩, list_pairs e1 l1 l2 at'⟩ ⟨by omega, fun i key v hr => ?_⟩ (fun h' hk y hy2 => ?_) (by omega) fun h' tk hd' hk => ?_
      · have hr : us[i]? = some (key, v) := hr
        obtain ⟨y, hy'⟩ := all i (by rw [← l2]; exact (List.getElem?_eq_some_iff.mp hr).1)
        obtain ⟨u, w, d, h1, h2, h3, h4, h5, h6, h7, h8⟩ := hy i y hy'
        rw [hr] at h1
        cases h1
        exact ⟨y.1, y.2.1, by rw [hy']; exact congrArg (fun z => some (y.1, y.2.1, z)) h5, h4⟩
      · obtain ⟨j, hj⟩ := List.mem_iff_getElem?.mp hy2
        obtain ⟨u, w, d, h1, h2, h3, h4, h5, h6, h7, h8⟩ := hy j y hj
        obtain ⟨o, jts, n, g1, g2, g3, g4⟩ := key_of I.hok h6
        exact ⟨o, jts, n, hk _ _ (Nat.ne_of_lt (Heap.lt_size g1)) (by simp) g1, g2, g3, g4⟩
      · have hk' : ∀ b o, s.heap.get? b = some o → h'.get? b = some o := fun b o e => hk b o (by simp) e
        have hf : H s.heap.objs.size = none := I.hok.fresh (Nat.le_refl _)
        have hm : (s.heap.objs.size == sysModules) = false := beq_eq_false_iff_ne.mpr (Nat.ne_of_gt I.big)
        obtain ⟨o, ees, ep, hq, h2, h3, h4, _, h5⟩ := hd'
        have rel3 : KT H (putsV [] ek) (storedAllH [] ys) := KT.puts kt .nil
        have hlen : (putsV [] ek).length ≤ sizeLine := Nat.le_trans (putsV_len _ _) (by rw [List.length_nil, lek]; omega)
        refine ⟨.ref s.heap.objs.size, upd H s.heap.objs.size (.dT (putsV [] ek)), I.laid (t' := tk) hk' (Nat.le_refl _) ⟨hlen, hm, _, rel3.keeps (fun c zs ec => (by rw [upd_ne (fun w => by rw [w, hf] at ec; cases ec)]; exact ec)), o, ees, ep, hq, h2, h3, h4, h5⟩, rfl, ?_⟩
        exact k F _ _ (.lay e hf) ⟨_, rfl, hf, e.back hf, et _ hf, _, upd_same, KVs.puts kd .nil⟩
    · cases q
  · cases q
end
end CM
end
section
set_option Elab.async false
set_option linter.all false
set_option maxRecDepth 100000
set_option autoImplicit false
namespace CM
open PySem PySem.Spec PyProof.Rows L2
/-! ### xs.clear() -/
def lstC : C → Option (List D)
  | .d (.list ds) => some ds
  | _ => none
theorem lstC_is {c : C} {ds : List D} (h : lstC c = some ds) : c = .d (.list ds) := by
  unfold lstC at h
  split at h
  · cases h; rfl
  · cases h
def eClr (i : Nat) : EF := fun r => (ownAt r (.sl i)).bind fun c => (lstC c).bind fun _ => some (.sh .none, ownPut r (.d (.list [])) (.sl i))
section
variable {X : Cx}
theorem de_clr {x : Str} {apos cpos npos : Pos} (i : Nat) (hN : X.N[i]? = some x) (hv : Vis X.env.scope x) (hd : (x == ("__debug__" : Str)) = false := by decide) (hcd : (x == ("__classdict__" : Str)) = false := by decide)
    (hbase : attributeBase (.Name x npos) "clear" X.env (eval (.Name x npos) X.env) = eval (.Name x npos) X.env := by rfl) (hline : (apos.endLine == cpos.line) = true := by rfl) :
    DE X false (.Call (.Attribute (.Name x npos) "clear" apos) [] [] cpos) (eClr i) := by
  refine ⟨_, pe_bm0 PySem.F.plainAttrs_list PySem.F.slot_list_clear PySem.F.type_list_clear mt_clear (pe_var hN hv hd hcd) hbase hline, fun B H0 F0 F H σ r z r' q j Q k => ?_⟩
  simp only [eClr, Option.bind_eq_some_iff] at q
  obtain ⟨c, q0, ds, q1, q2⟩ := q
  cases q2
  cases lstC_is q1
  obtain ⟨p, hp, ow⟩ := own_sl j q0
  obtain ⟨_, f2, od, _⟩ := ow.facts j
  have ty := lst_ty F H p _ rfl od
  obtain ⟨vs, hx, da⟩ := od
  refine ⟨_, hp, ty, p, vs, rfl, rfl, hx, ?_⟩
  have ch : Chg p F H F (upd H p (.lst [])) := .at j.fh f2
  exact k F _ _ (ch.ge ownPut_lent).weak (j.chg ow ch ⟨[], upd_same, .nil⟩) .non
@[simp] theorem ev_clr (i : Nat) (r : Env) : eClr i r = (ownAt r (.sl i)).bind fun c => (lstC c).bind fun _ => some (.sh .none, ownPut r (.d (.list [])) (.sl i)) := rfl
@[simp] theorem lstC_l (ds : List D) : lstC (.d (.list ds)) = some ds := rfl
end
/-! ### max, min of a list of numbers -/
def topI : Int → List Int → Int
  | a, [] => a
  | a, b :: r => topI (if a ≤ b then b else a) r
def lowI : Int → List Int → Int
  | a, [] => a
  | a, b :: r => lowI (if b ≤ a then b else a) r
theorem topI_is : ∀ (r : List Int) (a : Int), topI a r ∈ a :: r ∧ ∀ y ∈ a :: r, y ≤ topI a r
  | [], a => ⟨List.mem_cons_self, fun y h => by rw [List.mem_singleton.mp h]; exact Int.le_refl _⟩
  | b :: r, a => by
    obtain ⟨h1, h2⟩ := topI_is r (if a ≤ b then b else a)
    unfold topI
    generalize topI (if a ≤ b then b else a) r = t at *
    refine ⟨?_, fun y hy => ?_⟩
    · rcases List.mem_cons.mp h1 with h1 | h1
      · rw [h1]
        split
        · exact List.mem_cons_of_mem _ List.mem_cons_self
        · exact List.mem_cons_self
      · exact List.mem_cons_of_mem _ (List.mem_cons_of_mem _ h1)
    · have h0 := h2 _ List.mem_cons_self
      rcases List.mem_cons.mp hy with rfl | hy
      · split at h0 <;> omega
      · rcases List.mem_cons.mp hy with rfl | hy
        · split at h0 <;> omega
        · exact h2 y (List.mem_cons_of_mem _ hy)
theorem lowI_is : ∀ (r : List Int) (a : Int), lowI a r ∈ a :: r ∧ ∀ y ∈ a :: r, lowI a r ≤ y
  | [], a => ⟨List.mem_cons_self, fun y h => by rw [List.mem_singleton.mp h]; exact Int.le_refl _⟩
  | b :: r, a => by
    obtain ⟨h1, h2⟩ := lowI_is r (if b ≤ a then b else a)
    unfold lowI
    generalize lowI (if b ≤ a then b else a) r = t at *
    refine ⟨?_, fun y hy => ?_⟩
    · rcases List.mem_cons.mp h1 with h1 | h1
      · rw [h1]
        split
        · exact List.mem_cons_of_mem _ List.mem_cons_self
        · exact List.mem_cons_self
      · exact List.mem_cons_of_mem _ (List.mem_cons_of_mem _ h1)
    · have h0 := h2 _ List.mem_cons_self
      rcases List.mem_cons.mp hy with rfl | hy
      · split at h0 <;> omega
      · rcases List.mem_cons.mp hy with rfl | hy
        · split at h0 <;> omega
        · exact h2 y (List.mem_cons_of_mem _ hy)
def pickI (f : Int → List Int → Int) : List Int → Option Res
  | [] => none
  | a :: r => some (.sh (.int (f a r)))
def gMaxL : List C → Option Res
  | [.d (.list xs)] => (intsD xs).bind (pickI topI)
  | _ => none
def gMinL : List C → Option Res
  | [.d (.list xs)] => (intsD xs).bind (pickI lowI)
  | _ => none
section
variable {X : Cx}
theorem dcl_maxL (hc : X.calm = true) : DCl X (.builtin "max") gMaxL := by
  refine .of fun pins s σ H xs us Q I r ⟨F, cs, z, e, et, b, q, k⟩ => ?_
  unfold gMaxL at q
  split at q
  · simp only [Option.bind_eq_some_iff] at q
    obtain ⟨is, q1, q2⟩ := q
    cases is with
    | nil => cases q2
    | cons a t =>
      cases q2
      obtain ⟨x, rfl, p, vs, rfl, sq, dd⟩ := one_of b
      have ev := ints_vs q1 dd
      subst ev
      obtain ⟨t1, t2⟩ := topI_is t a
      refine cr_max hc pins s σ H _ us Q I r ⟨p, a :: t, rfl, sq, Nat.succ_pos _, fun m hm hy => ?_⟩
      have : m = topI a t := Int.le_antisymm (t2 m hm) (hy _ t1)
      rw [this]
      exact k F H _ (.refl e) (.int _)
  · cases q
theorem dcl_minL (hc : X.calm = true) : DCl X (.builtin "min") gMinL := by
  refine .of fun pins s σ H xs us Q I r ⟨F, cs, z, e, et, b, q, k⟩ => ?_
  unfold gMinL at q
  split at q
  · simp only [Option.bind_eq_some_iff] at q
    obtain ⟨is, q1, q2⟩ := q
    cases is with
    | nil => cases q2
    | cons a t =>
      cases q2
      obtain ⟨x, rfl, p, vs, rfl, sq, dd⟩ := one_of b
      have ev := ints_vs q1 dd
      subst ev
      obtain ⟨t1, t2⟩ := lowI_is t a
      refine cr_min hc pins s σ H _ us Q I r ⟨p, a :: t, rfl, sq, Nat.succ_pos _, fun m hm hy => ?_⟩
      have : m = lowI a t := Int.le_antisymm (hy _ t1) (t2 m hm)
      rw [this]
      exact k F H _ (.refl e) (.int _)
  · cases q
@[simp] theorem gMaxL_l (xs : List D) : gMaxL [.d (.list xs)] = (intsD xs).bind (pickI topI) := rfl
@[simp] theorem gMinL_l (xs : List D) : gMinL [.d (.list xs)] = (intsD xs).bind (pickI lowI) := rfl
@[simp] theorem pickI_c (f : Int → List Int → Int) (a : Int) (r : List Int) : pickI f (a :: r) = some (.sh (.int (f a r))) := rfl
end
end CM
end
section
set_option Elab.async false
set_option linter.all false
set_option maxRecDepth 100000
set_option autoImplicit false
namespace CM
open PySem PySem.Spec PyProof.Rows L2
/-! ### a field of an object -/
section
variable {X : Cx} {e : Expr} {fa : EF} {f : Str} {pos : Pos} {qb : Bool} {cs : List Str}
theorem obOf_is {K : KC} {F : Fz} {H : Hp} {v : V} {c : C} {n : Nat} (h : obOf c = some n) (b : Bd K F H v c) : ∃ p, v = .ref p ∧ F.t p = some (.ins n) := by
  unfold obOf at h
  split at h
  · rename_i m
    have b : Vp K F v (.dict [(.int m, .none)]) := b
    cases b with
    | ob t =>
      have h : some (Int.toNat (Int.ofNat _)) = some n := h
      cases h
      exact ⟨_, rfl, t⟩
  · cases h
theorem de_fld (cl : ClF X cs f) (ha : DE X qb e fa) (hb : attributeBase e f X.env (eval e X.env) = eval e X.env := by rfl) : DE X qb (.Attribute e f pos) (eFld cs f fa) := by
  obtain ⟨t, a1, a2⟩ := ha.ex
  refine ⟨_, pe_fld a1 hb, fun B H0 F0 F H σ r z r' q j Q k => ?_⟩
  simp only [eFld, Option.bind_eq_some_iff] at q
  obtain ⟨⟨z1, r1⟩, q1, c, q2, n, q3, q4⟩ := q
  refine a2 _ _ _ _ _ _ _ _ _ q1 j _ fun F1 H1 v e1 j1 k1 => ?_
  obtain ⟨p, rfl, tp⟩ := obOf_is q3 (k1.look j1 q2)
  cases hd : fldC cs r1.st n f with
  | none => rw [hd] at q4; cases q4
  | some d =>
    rw [hd] at q4
    obtain ⟨fa', o, ho, hc⟩ := fldC_at hd
    obtain ⟨o', ho', C, dx, es, hm, hp, _, fo, _⟩ := j1.so.ob p n tp
    rw [ho] at ho'
    cases ho'
    obtain ⟨c1, c2⟩ := cl.ok _ hc C hm
    unfold fldAt at fa'
    rw [ho] at fa'
    obtain ⟨v', lv, fv⟩ := fo.lookup fa'
    refine ⟨p, C, dx, es, v', rfl, hp, c1, c2, lv, ?_⟩
    have rf : ResOk X.kc H0 F1 H1 σ r1 v' (.fl n f) := .inl ⟨p, C, dx, es, tp, hp, lv⟩
    cases d with
    | d x =>
      cases q4
      exact k F1 H1 v' e1 j1 fv
    | ow c =>
      cases q4
      exact k F1 H1 v' e1 j1 rf
    | lk c =>
      cases q4
      exact k F1 H1 v' e1 j1 rf
end
end CM
end
section
set_option Elab.async false
set_option linter.all false
set_option maxRecDepth 100000
set_option autoImplicit false
namespace CM
open PySem PySem.Spec PyProof.Rows L2
/-! ### x.f = e -/
section
variable {K : KC} {B H0 F0 H : Hp} {F : Fz} {σ : L2.St} {r : Env} {n : Nat} {f : Str}
def isFld (n : Nat) (f : Str) : Option Tg → Bool
  | some (.fld m g) => decide (m = n) && decide (g = f)
  | _ => false
theorem isFld_iff {t : Option Tg} : isFld n f t = true ↔ t = some (.fld n f) := by
  constructor
  · intro h
    unfold isFld at h
    split at h
    · simp only [Bool.and_eq_true, decide_eq_true_iff] at h
      obtain ⟨rfl, rfl⟩ := h
      rfl
    · cases h
  · intro h
    rw [h]
    simp [isFld]
/-- the tags when the field f of object n is set anew -/
def Fz.reset (F : Fz) (n : Nat) (f : Str) (qn : Option Addr) : Fz := ⟨F.f, fun a => if isFld n f (F.t a) = true then none else if some a = qn then some (.fld n f) else F.t a⟩
theorem reset_it {qn : Option Addr} (hq : ∀ q, qn = some q → F.t q = none) {a : Addr} {u : Tg} (h : u ≠ .fld n f) : (F.reset n f qn).t a = some u ↔ F.t a = some u := by
  show (if isFld n f (F.t a) = true then none else if some a = qn then some (.fld n f) else F.t a) = some u ↔ _
  by_cases c' : isFld n f (F.t a) = true
  · rw [if_pos c', isFld_iff.mp c']
    exact ⟨fun z => (by cases z), fun z => absurd (Option.some.inj z).symm h⟩
  · rw [if_neg c']
    by_cases d : some a = qn
    · rw [if_pos d, hq a d.symm]
      exact ⟨fun z => absurd (Option.some.inj z).symm h, fun z => (by cases z)⟩
    · rw [if_neg d]
theorem reset_own {qn : Option Addr} {a : Addr} (h : (F.reset n f qn).t a = some (.fld n f)) : qn = some a := by
  have h : (if isFld n f (F.t a) = true then none else if some a = qn then some (.fld n f) else F.t a) = some (.fld n f) := h
  by_cases c' : isFld n f (F.t a) = true
  · rw [if_pos c'] at h; cases h
  · rw [if_neg c'] at h
    by_cases d : some a = qn
    · exact d.symm
    · rw [if_neg d] at h
      exact absurd (isFld_iff.mpr h) c'
theorem reset_ex {qn : Option Addr} (nb : f ≠ bxS) (hq : ∀ q, qn = some q → F.t q = none) : FEx F (F.reset n f qn) :=
  ⟨⟨.refl _, fun p m h => (reset_it hq (fun z => by cases z)).mpr h, fun p m h => h.imp (fun h => (reset_it hq (fun z => by cases z; exact nb rfl)).mpr h) fun h => (reset_it hq (fun z => by cases z)).mpr h⟩, fun p m g => (reset_it hq (fun z => by cases z)).symm⟩
/-- what is put into a field: data, or a container of its own -/
inductive FNew (K : KC) (H0 : Hp) (F : Fz) (H : Hp) (σ : L2.St) (r : Env) : V → Fd → Option Addr → Prop
  | d {v : V} {x : D} (h : Vp K F v x) : FNew K H0 F H σ r v (.d x) none
  | ow {q : Addr} {c : C} (h0 : H0 q = none) (hf : F.f q = none) (ht : F.t q = none) (hd : Od K F H q c) (no : ∀ (i : Nat) (e : C), r.sl[i]? = some (.ow e) → σ[i]? ≠ some (some (.ref q))) : FNew K H0 F H σ r (.ref q) (.ow c) (some q)
theorem J.fput {v' : V} {d' : Fd} {qn : Option Addr} {pi C dx : Addr} {es : List (Str × V)} (nb : f ≠ bxS) (j : J K B H0 F0 F H σ r) (new : FNew K H0 F H σ r v' d' qn) (tp : F.t pi = some (.ins n)) (hp : H pi = some (.ins C dx es))
    (nolok : ∀ a, F.t a ≠ some (.lok n f)) (ln : ∀ o, r.st[n]? = some o → (putFd f d' o.fs).length ≤ 100) : J K B H0 F0 (F.reset n f qn) (upd H pi (.ins C dx (putF f v' es))) σ (r.putF n f d') := by
  have hq : ∀ q, qn = some q → F.t q = none := fun q e => by
    cases new with
    | d h => cases e
    | ow h0 hf ht hd no => cases e; exact ht
  have fe : FEx F (F.reset n f qn) := reset_ex nb hq
  obtain ⟨s1, s2, s3⟩ := j.so.sep pi _ tp
  have h0p : H0 pi = none := s3.elim id fun ⟨_, _, z⟩ => by cases z
  have keep : ∀ a, a ≠ pi → ∀ o, H a = some o → (upd H pi (.ins C dx (putF f v' es))) a = some o := fun a ne o e => by rw [upd_ne ne]; exact e
  have fo : FdOk K (F.reset n f qn) (upd H pi (.ins C dx (putF f v' es))) n f v' d' := by
    cases new with
    | d h => exact Vp.up fe _ _ h
    | @ow q c h0 hf ht hd no =>
      have ne : q ≠ pi := fun z => by subst z; rw [ht] at tp; cases tp
      refine ⟨q, rfl, ?_, hd.up fe fun o e => keep q ne o e⟩
      show (if isFld n f (F.t q) = true then none else if some q = some q then some (.fld n f) else F.t q) = _
      rw [if_neg (by rw [ht]; exact fun z => by cases z), if_pos rfl]
  have so : StOk K H0 (F.reset n f qn) (upd H pi (.ins C dx (putF f v' es))) (stPut r.st n f d') := by
    refine j.so.upd nb (p := pi) (C := C) (dx := dx) (es := es) (v' := v') tp hp fe (fun a u z1 _ => reset_it hq z1) (fun a u e _ _ ne o w => keep a ne o w) upd_same fo (fun a u e hu => ?_) (fun a b u hu e1 e2 => ?_) (fun a u e _ _ => ⟨(j.so.sep a u e).1, id⟩) ln
    · rcases hu with rfl | rfl
      · have qa := reset_own e
        cases new with
        | d h => cases qa
        | ow h0 hf ht hd no =>
          cases qa
          have ne : a ≠ pi := fun z => by subst z; rw [ht] at tp; cases tp
          refine ⟨hf, by rw [upd_ne ne]; exact hd.ne, .inl h0, fun _ => ⟨_, rfl⟩, fun z => by cases z⟩
      · exact absurd ((reset_it hq (fun z => by cases z)).mp e) (nolok a)
    · rcases hu with rfl | rfl
      · exact Option.some.inj ((reset_own e1).symm.trans (reset_own e2))
      · exact absurd ((reset_it hq (fun z => by cases z)).mp e1) (nolok a)
  refine ⟨j.eb, fun a o e => ?_, j.ef, fun a o e => ?_, j.nw, so, j.len, fun k s w => ?_, j.dj⟩
  · exact keep a (fun z => by subst z; rw [h0p] at e; cases e) o (j.e0 _ _ e)
  · exact keep a (fun z => by subst z; have e : F.f a = some o := e; rw [s1] at e; cases e) o (j.fh _ _ e)
  · have b := j.sl k s w
    cases s with
    | no => trivial
    | sh d => obtain ⟨v, a, b⟩ := b; exact ⟨v, a, Vp.up fe _ _ b⟩
    | bo c => obtain ⟨v, a, b⟩ := b; exact ⟨v, a, b.up fe (.refl _)⟩
    | lk c => obtain ⟨v, a, b⟩ := b; exact ⟨v, a, b.up fe (.refl _)⟩
    | ow c1 =>
      obtain ⟨p2, a, b1, b2, b3, b4⟩ := b
      have ne : p2 ≠ pi := fun z => by subst z; rw [b3] at tp; cases tp
      have nq : some p2 ≠ qn := fun z => by
        cases new with
        | d h => cases z
        | ow h0 hf ht hd no => cases z; exact no k c1 w a
      refine ⟨p2, a, b1, b2, ?_, b4.up fe fun o e => keep p2 ne o e⟩
      show (if isFld n f (F.t p2) = true then none else if some p2 = qn then some (.fld n f) else F.t p2) = none
      rw [if_neg (by rw [b3]; exact fun z => by cases z), if_neg nq]
      exact b3
end
def fdNew (r : Env) : Res → Option Fd
  | .sh x => some (.d x)
  | .fr c => some (.ow c)
  | .sl i => match r.sl[i]? with
    | some (.sh x) => some (.d x)
    | _ => none
  | .fl n f => match fldAt r.st n f with
    | some (.d x) => some (.d x)
    | _ => none
/-- x.f = e, e new or data -/
def sFldN (cs : List Str) (i : Nat) (f : Str) (a : EF) : SF := fun r => (a r).bind fun p => (obAt p.2 i).bind fun n => (fdNew p.2 p.1).bind fun d => if okPut cs p.2.st n f = true then some (.nx, p.2.putF n f d) else none
section
variable {X : Cx} {e : Expr} {fa : EF} {f x : Str} {pos pos' npos : Pos} {qb : Bool} {cs : List Str}
theorem fnew_of {K : KC} {B H0 F0 H : Hp} {F : Fz} {σ : L2.St} {r : Env} {v : V} {z : Res} {d : Fd} (j : J K B H0 F0 F H σ r) (h : fdNew r z = some d) (k : ResOk K H0 F H σ r v z) : ∃ qn, FNew K H0 F H σ r v d qn := by
  cases z with
  | sh x => cases h; exact ⟨_, .d k⟩
  | fr c =>
    cases h
    obtain ⟨p, rfl, h1, h2, h3, h4, h5⟩ := k
    exact ⟨_, .ow h1 h2 h3 h4 h5⟩
  | sl i =>
    unfold fdNew at h
    dsimp only at h
    split at h
    · rename_i y e
      cases h
      have k : σ[i]? = some (some v) := k
      obtain ⟨v', a, b⟩ := j.sl i _ e
      rw [k] at a
      cases a
      exact ⟨_, .d b⟩
    · cases h
  | fl n g =>
    unfold fdNew at h
    dsimp only at h
    split at h
    · rename_i y e
      cases h
      have k : FldV F H n g v := k
      exact ⟨_, .d (j.so.fieldV k e)⟩
    · cases h
theorem ds_fldN (i : Nat) (cl : ClF X cs f) (hN : X.N[i]? = some x) (hv : Vis X.env.scope x) (he : DE X qb e fa) (hd : (x == ("__debug__" : Str)) = false := by decide) (hcd : (x == ("__classdict__" : Str)) = false := by decide)
    (hs : swapsWith e (some (.Attribute (.Name x npos) f pos')) pos.line X.env = pure false := by rfl) : DS X (.Assign [.Attribute (.Name x npos) f pos'] e pos) (sFldN cs i f fa) := by
  obtain ⟨t, a1, a2⟩ := he.ex
  refine ⟨_, ps_fld (pe_var hN hv hd hcd) a1 hs, fun B H0 F0 F H σ r fl r' q j D a => ?_⟩
  simp only [sFldN, Option.bind_eq_some_iff] at q
  obtain ⟨⟨z1, r1⟩, q1, n, q2, d, q3, q4⟩ := q
  split at q4
  · rename_i ok
    cases q4
    refine a2 _ _ _ _ _ _ _ _ _ q1 j _ fun F1 H1 v g1 j1 k1 => ?_
    obtain ⟨pi, hpi, tp⟩ := obAt_ok j1 q2
    obtain ⟨o, ho, C, dx, es, hm, hp, dt, fo, nd, len⟩ := j1.so.ob pi n tp
    obtain ⟨qn, new⟩ := fnew_of j1 q3 k1
    unfold okPut at ok
    rw [ho] at ok
    dsimp only at ok
    rw [Bool.and_eq_true] at ok
    obtain ⟨ok1, ok2⟩ := ok
    obtain ⟨c1, c2⟩ := cl.ok _ (List.contains_iff_mem.mp ok1) C hm
    have fe : fldAt r1.st n f = o.fs.lookup f := by unfold fldAt; rw [ho]; rfl
    have nolok : ∀ a, F1.t a ≠ some (.lok n f) := fun a z => by
      obtain ⟨c, w⟩ := j1.so.tl a n f z
      rw [fe] at w
      rw [w] at ok2
      cases ok2
    have ln : ∀ o', r1.st[n]? = some o' → (putFd f d o'.fs).length ≤ 100 := fun o' e' => by
      rw [ho] at e'
      cases e'
      cases lk : o.fs.lookup f with
      | none =>
        rw [lk] at ok2
        have ok2 := of_decide_eq_true ok2
        rcases putFd_keys f d o.fs with ⟨w, _⟩ | ⟨w, _⟩
        · have := congrArg List.length w
          simp only [List.length_map] at this
          omega
        · have := congrArg List.length w
          simp only [List.length_map, List.length_append, List.length_singleton] at this
          omega
      | some d0 => rw [putFd_len lk]; exact len
    have el : es.length = o.fs.length := Paired.length fo
    have hq : ∀ q, qn = some q → F1.t q = none := fun q e => by
      cases new with
      | d h => cases e
      | ow h0 hf ht hd no => cases e; exact ht
    have ge : Ge false F H r (F1.reset n f qn) (upd H1 pi (.ins C dx (putF f v es))) (r1.putF n f d) := ⟨g1.f.trans (reset_ex cl.nb hq), fun i s l h => g1.k i s l h, fun z => by cases z⟩
    refine ⟨_, hpi, pi, C, dx, es, rfl, hp, c1, c2, by rw [el]; omega, ?_⟩
    exact a (F1.reset n f qn) _ σ ge.f ge.kp (j1.fput cl.nb new tp hp nolok ln)
  · cases q4
end
end CM
end
section
set_option Elab.async false
set_option linter.all false
set_option maxRecDepth 100000
set_option autoImplicit false
namespace CM
open PySem PySem.Spec PyProof.Rows L2
/-! ### x.f += e, numbers -/
def fldInt (cs : List Str) (st : Store) (n : Nat) (f : Str) : Option Int := match fldC cs st n f with
  | some (.d (.int k)) => some k
  | _ => none
theorem fldInt_is {cs : List Str} {st : Store} {n : Nat} {f : Str} {k : Int} (h : fldInt cs st n f = some k) : fldC cs st n f = some (.d (.int k)) := by
  unfold fldInt at h
  split at h
  · rename_i e
    cases h
    exact e
  · cases h
def clsAt (st : Store) (n : Nat) : Option Str := (st[n]?).map Ob.cls
def sFldAdd (cs : List Str) (i : Nat) (f : Str) (a : EF) : SF := fun r => (obAt r i).bind fun n => (fldInt cs r.st n f).bind fun k => (a r).bind fun p => ((look p.2 p.1).bind intC).bind fun m => (fldInt cs p.2.st n f).bind fun _ => if clsAt r.st n = clsAt p.2.st n then some (.nx, p.2.putF n f (.d (.int (k + m)))) else none
section
variable {X : Cx} {e : Expr} {fa : EF} {f x : Str} {pos pos' npos : Pos} {qb : Bool} {cs : List Str}
theorem intC_is {c : C} {m : Int} (h : intC c = some m) : c = .d (.int m) := by
  unfold intC at h
  split at h
  · cases h; rfl
  · cases h
theorem ds_fldAdd (i : Nat) (cl : ClF X cs f) (hN : X.N[i]? = some x) (hv : Vis X.env.scope x) (he : DE X qb e fa) (hd : (x == ("__debug__" : Str)) = false := by decide) (hcd : (x == ("__classdict__" : Str)) = false := by decide) :
    DS X (.AugAssign (.Attribute (.Name x npos) f pos') .Add e pos) (sFldAdd cs i f fa) := by
  obtain ⟨t, a1, a2⟩ := he.ex
  refine ⟨_, ps_fldaug (pe_var hN hv hd hcd) a1 in_add, fun B H0 F0 F H σ r fl r' q j D a => ?_⟩
  simp only [sFldAdd, Option.bind_eq_some_iff] at q
  obtain ⟨n, q1, k, q2, ⟨z1, r1⟩, q3, m, ⟨c, q4, q5⟩, k', q6, q7⟩ := q
  split at q7
  case isFalse => cases q7
  rename_i same
  cases q7
  cases intC_is q5
  obtain ⟨pi, hpi, tp⟩ := obAt_ok j q1
  obtain ⟨fa1, o, ho, hc⟩ := fldC_at (fldInt_is q2)
  obtain ⟨o', ho', C, dx, es, hm, hp, _, fo, _, len⟩ := j.so.ob pi n tp
  rw [ho] at ho'
  cases ho'
  obtain ⟨c1, c2⟩ := cl.ok _ hc C hm
  unfold fldAt at fa1
  rw [ho] at fa1
  obtain ⟨v, lv, fv⟩ := fo.lookup fa1
  have fv : Vp X.kc F v (.int k) := fv
  cases fv
  refine ⟨_, hpi, pi, C, dx, es, _, rfl, hp, c1, c2, lv, ?_⟩
  refine a2 _ _ _ _ _ _ _ _ _ q3 j _ fun F1 H1 y g1 j1 k1 => ?_
  have by' : Vp X.kc F1 y (.int m) := k1.look j1 q4
  cases by'
  have tp1 := g1.f.i pi n tp
  obtain ⟨fa2, o2, ho2, hc2⟩ := fldC_at (fldInt_is q6)
  obtain ⟨o2', ho2', C', dx', es', hm', hp', _, fo', _, len'⟩ := j1.so.ob pi n tp1
  rw [ho2] at ho2'
  cases ho2'
  unfold clsAt at same
  rw [ho, ho2] at same
  have same : o.cls = o2.cls := Option.some.inj same
  rw [← same, hm] at hm'
  cases hm'
  unfold fldAt at fa2
  rw [ho2] at fa2
  have new : FNew X.kc H0 F1 H1 σ r1 (.int (k + m)) (.d (.int (k + m))) none := .d (.int _)
  have nolok : ∀ a, F1.t a ≠ some (.lok n f) := fun a z => by
    obtain ⟨c, w⟩ := j1.so.tl a n f z
    unfold fldAt at w
    rw [ho2] at w
    have w : o2.fs.lookup f = some (.lk c) := w
    have fa2 : o2.fs.lookup f = some (.d (.int k')) := fa2
    rw [w] at fa2
    cases fa2
  have ln : ∀ o', r1.st[n]? = some o' → (putFd f (.d (.int (k + m))) o'.fs).length ≤ 100 := fun o' e' => by
    rw [ho2] at e'
    cases e'
    have fa2 : o2.fs.lookup f = some (.d (.int k')) := fa2
    rw [putFd_len fa2]
    exact len'
  have el : es'.length = o2.fs.length := Paired.length fo'
  have ge : Ge false F H r (F1.reset n f none) (upd H1 pi (.ins C dx' (putF f (.int (k + m)) es'))) (r1.putF n f (.d (.int (k + m)))) := ⟨g1.f.trans (reset_ex cl.nb fun q e => by cases e), fun i s l h => g1.k i s l h, fun z => by cases z⟩
  refine ⟨k, m, rfl, rfl, dx', es', hp', by rw [el]; omega, ?_⟩
  exact a (F1.reset n f none) _ σ ge.f ge.kp (j1.fput cl.nb new tp1 hp' nolok ln)
end
end CM
end
section
set_option Elab.async false
set_option linter.all false
set_option maxRecDepth 100000
set_option autoImplicit false
namespace CM
open PySem PySem.Spec PyProof.Rows L2
/-! ### o.m(..), the class by a table -/
/-- the methods m of some classes -/
structure Mf (P : Program) (w : World) (K : PySem.W.Frag) (mg : Str → Option Value) (base : Heap) (k : Nat) (m : Str) (ms : List Bool) (tb : List (Str × DF)) : Prop where
  ok : ∀ c g, tb.lookup c = some g → ∀ C, mg c = some (.ref C) → Cls K C ∧ ∃ f fd ps, Meth K C m f ∧ FnOk P w K mg base CX0 k f fd ps (spD ⟨K, mg⟩ (false :: ms) g) ∧ Binds K fd ps []
section
variable {X : Cx} {o e : Expr} {es : List Expr} {fo : EF} {fs : List EF} {m : Str} {apos pos : Pos} {q1 q2 : Bool} {k : Nat} {ms : List Bool} {tb : List (Str × DF)} {ta : TE} {t : TA}
def tMethT (X : Cx) (k : Nat) (m : Str) (ms : List Bool) (ta : TE) (t : TA) : TE := fun σ H Q => ta σ H fun x H1 => ∃ (a C dx : Addr) (fs : List (Str × V)) (f : Addr) (fd : FuncData) (ps : List Str) (g : DF), x = .ref a ∧ H1 a = some (.ins C dx fs) ∧ fs.lookup m = none ∧
  Cls X.K C ∧ Meth X.K C m f ∧ FnOk X.prog X.w X.K X.mg X.base CX0 k f fd ps (spD X.kc (false :: ms) g) ∧ Binds X.K fd ps [] ∧ t σ H1 fun vs H2 => spD X.kc (false :: ms) g (x :: (vs ++ [])) H2 Q (fun _ _ _ => False)
theorem pe_methT {pl : Sem Bool} (hr : Room k X.A) (he : PE X o ta) (ha : PA X (e :: es) t)
    (h1 : starEach (e :: es) X.env = (false, eval e X.env) :: starEach es X.env) (h2 : (backTo pos (starEach es X.env)).any (·.1) = false)
    (ht : eval (.Call (.Attribute o m apos) (e :: es) [] pos) X.env = (do
      let ov ← eval o X.env
      standAt apos.atName
      let (f, first) ← holding [ov] (getMethod ov m pl)
      callWith pos f first (backTo pos (starEach (e :: es) X.env)) (backToKw pos (keywordEach [] X.env)))) :
    PE X (.Call (.Attribute o m apos) (e :: es) [] pos) (tMethT X k m ms ta t) := ⟨fun pins s σ H Q I h =>
  PySem.W.methodCall_KW (pl := pl) (thn (he.run pins s σ H _ I h) fun u s1 ⟨x, H1, I1, rx, a, C, dx, fs, f, fd, ps, g, ex, hi, l, c, hm, F, hb, q⟩ => by
    cases ex
    cases rx
    exact getmeth_ok I1 hi c hm l (PySem.W.callWith_K (first := [.ref a]) (h₀ := X.base) I1.ok.mod.kin hm.kp (thn (ha.run pos pins s1 σ H1 _ I1 q) fun us s2 ⟨vs, H2, I2, r, q2⟩ => ⟨I2.kIn, run_fn (us := .ref a :: us) (vs := .ref a :: vs) F hr hb .nil pass0 I2 (.cons rfl r) q2⟩) h1 h2)) ht⟩
theorem pe_methT0 {pl : Sem Bool} (hr : Room k X.A) (he : PE X o ta)
    (ht : eval (.Call (.Attribute o m apos) [] [] pos) X.env = (do
      let ov ← eval o X.env
      standAt apos.atName
      let (f, first) ← holding [ov] (getMethod ov m pl)
      callWith pos f first (backTo pos (starEach [] X.env)) (backToKw pos (keywordEach [] X.env)))) :
    PE X (.Call (.Attribute o m apos) [] [] pos) (tMethT X k m ms ta tNil) := ⟨fun pins s σ H Q I h =>
  PySem.W.methodCall_KW (pl := pl) (thn (he.run pins s σ H _ I h) fun u s1 ⟨x, H1, I1, rx, a, C, dx, fs, f, fd, ps, g, ex, hi, l, c, hm, F, hb, q⟩ => by
    cases ex
    cases rx
    exact getmeth_ok I1 hi c hm l (PySem.W.callWith_K0 (first := [.ref a]) I1.kIn hm.kp (run_fn (us := [.ref a]) (vs := [.ref a]) F hr hb .nil pass0 I1 (.cons rfl .nil) q))) ht⟩
theorem re_meth {P : Program} (M : Mf X.prog X.w X.K X.mg X.base k m ms tb) (a2 : RE X.kc q1 ta fo) (b2 : RA X.kc q2 t fs) : RE X.kc false (tMethT X k m ms ta t) (eMeth m tb ms fo fs) := by
  intro B H0 F0 F H σ r z r' q j Q kk
  simp only [eMeth, Option.bind_eq_some_iff] at q
  obtain ⟨⟨z1, r1⟩, p1, c, p2, n, p3, ob, p4, q⟩ := q
  split at q
  case isFalse => cases q
  rename_i nf
  simp only [Option.bind_eq_some_iff] at q
  obtain ⟨g, p5, ⟨zs, r2⟩, p6, ⟨cs, r3⟩, p7, ⟨w, st'⟩, p8, p9⟩ := q
  cases p9
  refine a2 _ _ _ _ _ _ _ _ _ p1 j _ fun F1 H1 v g1 j1 k1 => ?_
  obtain ⟨pi, rfl, tp⟩ := obOf_is p3 (k1.look j1 p2)
  obtain ⟨o', ho', C, dx, es, hm, hp, _, fo', _⟩ := j1.so.ob pi n tp
  rw [p4] at ho'
  cases ho'
  obtain ⟨c1, f, fd, ps, m1, m2, m3⟩ := M.ok _ g p5 C hm
  refine ⟨pi, C, dx, es, f, fd, ps, g, rfl, hp, fo'.lookup_none (Option.isNone_iff_eq_none.mp nf), c1, m1, m2, m3, ?_⟩
  refine b2 _ _ _ _ _ _ _ _ _ p6 j1 _ fun F2 H2 vs e2 j2 k2 => ?_
  obtain ⟨F3, e3, j3, d3⟩ := passes_ok p7 j2 k2
  have tp3 : F3.t pi = some (.ins n) := e3.f.i pi n (e2.f.i pi n tp)
  refine ⟨F3, .d (obD n) :: cs, r3.st, _, st', j3.fh, j3.stok, ⟨?_, by rw [List.append_nil]; exact d3⟩, p8, fun F4 H4 y' g4 s4 o4 => ?_⟩
  · show Vp X.kc F3 (.ref pi) (.dict [(.int (n : Int), .none)])
    exact .ob tp3
  · exact kk F4 H4 y' ⟨((g1.trans e2).qt e3).f.trans g4.f, ((g1.trans e2).qt e3).k, fun z => by cases z⟩ (j3.called g4 s4) (o4.called j3)
theorem de_meth {pl : Sem Bool} (M : Mf X.prog X.w X.K X.mg X.base k m ms tb) (hr : Room k X.A) (he : DE X q1 o fo) (ha : DA X q2 (e :: es) fs)
    (h1 : starEach (e :: es) X.env = (false, eval e X.env) :: starEach es X.env := by rfl) (h2 : (backTo pos (starEach es X.env)).any (·.1) = false := by rfl)
    (ht : eval (.Call (.Attribute o m apos) (e :: es) [] pos) X.env = (do
      let ov ← eval o X.env
      standAt apos.atName
      let (f, first) ← holding [ov] (getMethod ov m pl)
      callWith pos f first (backTo pos (starEach (e :: es) X.env)) (backToKw pos (keywordEach [] X.env))) := by rfl) : DE X false (.Call (.Attribute o m apos) (e :: es) [] pos) (eMeth m tb ms fo fs) := by
  obtain ⟨ta, a1, a2⟩ := he.ex
  obtain ⟨t, b1, b2⟩ := ha.ex
  exact ⟨_, pe_methT hr a1 b1 h1 h2 ht, re_meth (P := X.prog) M a2 b2⟩
theorem de_meth0 {pl : Sem Bool} (M : Mf X.prog X.w X.K X.mg X.base k m ms tb) (hr : Room k X.A) (he : DE X q1 o fo)
    (ht : eval (.Call (.Attribute o m apos) [] [] pos) X.env = (do
      let ov ← eval o X.env
      standAt apos.atName
      let (f, first) ← holding [ov] (getMethod ov m pl)
      callWith pos f first (backTo pos (starEach [] X.env)) (backToKw pos (keywordEach [] X.env))) := by rfl) : DE X false (.Call (.Attribute o m apos) [] [] pos) (eMeth m tb ms fo []) := by
  obtain ⟨ta, a1, a2⟩ := he.ex
  exact ⟨_, pe_methT0 hr a1 ht, re_meth (P := X.prog) M a2 (t := tNil) (q2 := true) fun B H0 F0 F H σ r z r' q j Q k => by cases q; exact k F H [] .refl j .nil⟩
end
end CM
end
section
set_option Elab.async false
set_option linter.all false
set_option maxRecDepth 100000
set_option autoImplicit false
namespace CM
open PySem PySem.Spec PyProof.Rows L2
/-! ### a new object -/
section
variable {K : KC} {B H0 F0 H : Hp} {F : Fz} {σ : L2.St} {r : Env} {cls : Str} {x dx C : Addr}
def Fz.made (F : Fz) (x dx : Addr) (n : Nat) : Fz := ⟨F.f, fun a => if a = x then some (.ins n) else if a = dx then some (.dic n) else F.t a⟩
theorem made_old {n : Nat} {a : Addr} (h1 : a ≠ x) (h2 : a ≠ dx) : (F.made x dx n).t a = F.t a := by
  show (if a = x then _ else if a = dx then _ else _) = _
  rw [if_neg h1, if_neg h2]
theorem made_x {n : Nat} : (F.made x dx n).t x = some (.ins n) := if_pos rfl
theorem made_dx {n : Nat} (h : dx ≠ x) : (F.made x dx n).t dx = some (.dic n) := by
  show (if dx = x then _ else if dx = dx then _ else _) = _
  rw [if_neg h, if_pos rfl]
theorem J.made (j : J K B H0 F0 F H σ r) (hx : H x = none) (hdx : H dx = none) (ne : dx ≠ x) (hm : K.mg cls = some (.ref C)) :
    FEx F (F.made x dx r.st.length) ∧ J K B H0 F0 (F.made x dx r.st.length) (upd (upd H dx (.own x)) x (.ins C dx [])) σ ⟨r.sl, r.st ++ [⟨cls, []⟩]⟩ := by
  have live : ∀ a u, F.t a = some u → a ≠ x ∧ a ≠ dx := fun a u e => by
    have h := (j.so.sep a u e).2.1
    exact ⟨fun z => h (by rw [z]; exact hx), fun z => h (by rw [z]; exact hdx)⟩
  have keep : ∀ a o, H a = some o → (upd (upd H dx (.own x)) x (.ins C dx [])) a = some o := fun a o e => by
    have h1 : a ≠ x := fun z => by rw [z, hx] at e; cases e
    have h2 : a ≠ dx := fun z => by rw [z, hdx] at e; cases e
    rw [upd_ne h1, upd_ne h2]
    exact e
  have old : ∀ a u, F.t a = some u → (F.made x dx r.st.length).t a = some u := fun a u e => by
    rw [made_old (live a u e).1 (live a u e).2]; exact e
  have back : ∀ a u, (F.made x dx r.st.length).t a = some u → (a = x ∧ u = .ins r.st.length) ∨ (a = dx ∧ u = .dic r.st.length) ∨ F.t a = some u := fun a u e => by
    by_cases h1 : a = x
    · subst h1; rw [made_x] at e; exact .inl ⟨rfl, (Option.some.inj e).symm⟩
    · by_cases h2 : a = dx
      · subst h2; rw [made_dx ne] at e; exact .inr (.inl ⟨rfl, (Option.some.inj e).symm⟩)
      · rw [made_old h1 h2] at e; exact .inr (.inr e)
  have fx : F.f x = none := by
    cases q : F.f x with
    | none => rfl
    | some o => have := j.fh _ _ q; rw [hx] at this; cases this
  have fdx : F.f dx = none := by
    cases q : F.f dx with
    | none => rfl
    | some o => have := j.fh _ _ q; rw [hdx] at this; cases this
  have fe : FEx F (F.made x dx r.st.length) := ⟨⟨.refl _, fun p n h => old p _ h, fun p n h => h.imp (old p _) (old p _)⟩, fun p n f => ⟨fun h => old p _ h, fun h => by
    rcases back p _ h with ⟨_, z⟩ | ⟨_, z⟩ | z
    · cases z
    · cases z
    · exact z⟩⟩
  have stl : ∀ n, n < r.st.length → (r.st ++ [⟨cls, []⟩])[n]? = r.st[n]? := fun n h => List.getElem?_append_left h
  have up : ∀ {n f v d}, FdOk K F H n f v d → FdOk K (F.made x dx r.st.length) (upd (upd H dx (.own x)) x (.ins C dx [])) n f v d := fun h =>
    h.up fe (fun q g e => ⟨old q _ e, fun o w => keep q o w⟩) fun q g e o w => keep q o w
  refine ⟨fe, j.eb, fun a o e => keep a o (j.e0 _ _ e), j.ef, fun a o e => keep a o (j.fh _ _ e), j.nw, ⟨fun p n e => ?_, fun p q u e1 e2 => ?_, fun p u e => ?_, fun p u e => ?_, fun p n f e => ?_, fun p n f e => ?_, fun p n f c e w => ?_, fun p n f c e w => ?_, fun p q n b e => ?_, fun p n e => ?_⟩, j.len, fun k s w => ?_, j.dj⟩
  · rcases back p _ e with ⟨rfl, z⟩ | ⟨_, z⟩ | z
    · cases z
      refine ⟨⟨cls, []⟩, by rw [List.getElem?_append_right (Nat.le_refl _)]; simp, C, dx, [], hm, upd_same, made_dx ne, .nil, by simp, by simp⟩
    · cases z
    · obtain ⟨o, ho, C', dx', es, h1, h2, h3, h4, h5⟩ := j.so.ob p n z
      exact ⟨o, by rw [stl n (j.so.ix p _ z)]; exact ho, C', dx', es, h1, keep _ _ h2, old _ _ h3, Paired.mapP h4 fun _ _ ⟨a, b⟩ => ⟨a, up b⟩, h5⟩
  · rcases back p _ e1 with ⟨rfl, z⟩ | ⟨rfl, z⟩ | z
    · subst z
      rcases back q _ e2 with ⟨rfl, _⟩ | ⟨_, w⟩ | w
      · rfl
      · cases w
      · exact absurd (j.so.ix q _ w) (Nat.lt_irrefl _)
    · subst z
      rcases back q _ e2 with ⟨_, w⟩ | ⟨rfl, _⟩ | w
      · cases w
      · rfl
      · exact absurd (j.so.ix q _ w) (Nat.lt_irrefl _)
    · rcases back q _ e2 with ⟨rfl, w⟩ | ⟨rfl, w⟩ | w
      · subst w; exact absurd (j.so.ix p _ z) (Nat.lt_irrefl _)
      · subst w; exact absurd (j.so.ix p _ z) (Nat.lt_irrefl _)
      · exact j.so.inj p q u z w
  · rcases back p _ e with ⟨rfl, z⟩ | ⟨rfl, z⟩ | z
    · exact ⟨fx, (by rw [upd_same]; exact fun w => by cases w), .inl (j.e0.back hx)⟩
    · exact ⟨fdx, (by rw [upd_ne ne, upd_same]; exact fun w => by cases w), .inl (j.e0.back hdx)⟩
    · obtain ⟨a, b, c⟩ := j.so.sep p u z
      refine ⟨a, ?_, c⟩
      cases w : H p with
      | none => exact absurd w b
      | some o => rw [keep p o w]; exact fun w => by cases w
  · show u.ix < (r.st ++ ([⟨cls, []⟩] : List Ob)).length
    rw [List.length_append]
    rcases back p _ e with ⟨_, z⟩ | ⟨_, z⟩ | z
    · subst z; exact Nat.lt_succ_self _
    · subst z; exact Nat.lt_succ_self _
    · exact Nat.lt_succ_of_lt (j.so.ix p u z)
  · rcases back p _ e with ⟨_, z⟩ | ⟨_, z⟩ | z
    · cases z
    · cases z
    · obtain ⟨c, h⟩ := j.so.tf p n f z
      refine ⟨c, ?_⟩
      unfold fldAt at h ⊢
      rw [stl n (j.so.ix p _ z)]
      exact h
  · rcases back p _ e with ⟨_, z⟩ | ⟨_, z⟩ | z
    · cases z
    · cases z
    · obtain ⟨c, h⟩ := j.so.tl p n f z
      refine ⟨c, ?_⟩
      unfold fldAt at h ⊢
      rw [stl n (j.so.ix p _ z)]
      exact h
  · rcases back p _ e with ⟨_, z⟩ | ⟨_, z⟩ | z
    · cases z
    · cases z
    · refine (j.so.od p n f c z ?_).up fe (keep p)
      unfold fldAt at w ⊢
      rw [stl n (j.so.ix p _ z)] at w
      exact w
  · rcases back p _ e with ⟨_, z⟩ | ⟨_, z⟩ | z
    · cases z
    · cases z
    · refine (j.so.odr p n f c z ?_).up fe (keep p)
      unfold fldAt at w ⊢
      rw [stl n (j.so.ix p _ z)] at w
      exact w
  · have hb : Bt F p n := b.imp (fun h => (back p _ h).elim (fun ⟨_, z⟩ => by cases z) fun h => h.elim (fun ⟨_, z⟩ => by cases z) id) fun h => (back p _ h).elim (fun ⟨_, z⟩ => by cases z) fun h => h.elim (fun ⟨_, z⟩ => by cases z) id
    rcases back q _ e with ⟨_, z⟩ | ⟨_, z⟩ | z
    · cases z
      exact hb.elim (fun h => absurd (j.so.ix p _ h) (Nat.lt_irrefl _)) fun h => absurd (j.so.ix p _ h) (Nat.lt_irrefl _)
    · cases z
    · exact j.so.bi p q n hb z
  · rcases back p _ e with ⟨_, z⟩ | ⟨rfl, _⟩ | z
    · cases z
    · intro xs w
      rw [upd_ne ne, upd_same] at w; cases w
    · exact ntKeep (j.so.sep p _ z).2.1 (j.so.dn p n z) (keep p)
  · have b := j.sl k s w
    cases s with
    | no => trivial
    | sh d => obtain ⟨v, a, b⟩ := b; exact ⟨v, a, Vp.up fe _ _ b⟩
    | bo c => obtain ⟨v, a, b⟩ := b; exact ⟨v, a, b.up fe (.refl _)⟩
    | lk c => obtain ⟨v, a, b⟩ := b; exact ⟨v, a, b.up fe (.refl _)⟩
    | ow c1 =>
      obtain ⟨p2, a, b1, b2, b3, b4⟩ := b
      have n1 : p2 ≠ x := fun z => b4.ne (by rw [z]; exact hx)
      have n2 : p2 ≠ dx := fun z => b4.ne (by rw [z]; exact hdx)
      exact ⟨p2, a, b1, b2, by rw [made_old n1 n2]; exact b3, b4.up fe fun o e => keep _ _ e⟩
end
end CM
end
section
set_option Elab.async false
set_option linter.all false
set_option maxRecDepth 100000
set_option autoImplicit false
namespace CM
open PySem PySem.Spec PyProof.Rows L2
/-! ### C(..) -/
/-- a class that is made by its __init__ -/
structure MkD (P : Program) (w : World) (K : PySem.W.Frag) (mg : Str → Option Value) (base : Heap) (k : Nat) (cls : Str) (ms : List Bool) (g : DF) : Prop where
  ex : ∃ C f fd ps, mg cls = some (.ref C) ∧ Mk K C f ∧ FnOk P w K mg base CX0 k f fd ps (spD ⟨K, mg⟩ (false :: ms) g) ∧ Binds K fd ps []
theorem made_priv {F : Fz} {H : Hp} {x dx C : Addr} {n : Nat} (hx : H x = none) (hdx : H dx = none) : Ex (priv F H) (priv (F.made x dx n) (upd (upd H dx (.own x)) x (.ins C dx []))) := fun a o q => by
  have e : H a = some o := priv_ex a o q
  have h1 : a ≠ x := fun z => by rw [z, hx] at e; cases e
  have h2 : a ≠ dx := fun z => by rw [z, hdx] at e; cases e
  unfold CM.priv at q ⊢
  rw [made_old h1 h2, upd_ne h1, upd_ne h2]
  exact q
section
variable {X : Cx} {e : Expr} {es : List Expr} {fs : List EF} {cls : Str} {p pos : Pos} {q1 : Bool} {k : Nat} {ms : List Bool} {g : DF} {ta : TA} {C : Addr}
theorem re_new {K : KC} (hm : K.mg cls = some (.ref C)) (ha : RA K q1 ta fs) : RE K false (tMake C (spD K (false :: ms) g) [] (fun _ _ _ => False) ta) (eNew cls g ms fs) := by
  intro B H0 F0 F H σ r z r' q j Q kk
  simp only [eNew, Option.bind_eq_some_iff] at q
  obtain ⟨⟨zs, r1⟩, p1, ⟨cs, r2⟩, p2, ⟨w, st'⟩, p3, p4⟩ := q
  refine ha _ _ _ _ _ _ _ _ _ p1 j _ fun F1 H1 vs e1 j1 k1 => ?_
  obtain ⟨F2, e2, j2, d2⟩ := passes_ok p2 j1 k1
  intro x dx hx hdx ne
  obtain ⟨fe, j3⟩ := j2.made (cls := cls) hx hdx ne hm
  refine ⟨F2.made x dx r2.st.length, .d (obD r2.st.length) :: cs, r2.st ++ [⟨cls, []⟩], _, st', j3.fh, j3.stok, ⟨?_, by rw [List.append_nil]; exact d2.up fe (made_priv hx hdx)⟩, p3, fun F4 H4 y' g4 s4 o4 => ?_⟩
  · show Vp K _ (.ref x) (.dict [(.int (r2.st.length : Int), .none)])
    exact .ob made_x
  · split at p4
    · rename_i hz
      cases p4
      have hz : w = .sh .none := hz
      subst hz
      have o4 : Vp K F4 y' .none := o4
      cases o4
      refine ⟨rfl, kk F4 H4 (.ref x) ⟨((e1.qt e2).f.trans fe).trans g4.f, (e1.qt e2).k, fun z => by cases z⟩ (j3.called g4 s4) ?_⟩
      show Vp K F4 (.ref x) (.dict [(.int (r2.st.length : Int), .none)])
      exact .ob (g4.f.i x _ made_x)
    · cases p4
theorem de_new (M : MkD X.prog X.w X.K X.mg X.base k cls ms g) (hr : Room (k + 1) X.A) (hg : Gl X cls) (ha : DA X q1 (e :: es) fs) (hdb : (cls == ("__debug__" : Str)) = false := by decide) (he : starEach (e :: es) X.env = (false, eval e X.env) :: starEach es X.env := by rfl)
    (hpl : (backTo pos (starEach es X.env)).any (·.1) = false := by rfl) : DE X false (.Call (.Name cls p) (e :: es) [] pos) (eNew cls g ms fs) := by
  obtain ⟨t, a1, a2⟩ := ha.ex
  obtain ⟨C, f, fd, ps, h1, h2, h3, h4⟩ := M.ex
  exact ⟨_, pe_make h2 h3 hr hg h1 h4 .nil pass0 a1 hdb he hpl, re_new h1 a2⟩
theorem de_new0 (M : MkD X.prog X.w X.K X.mg X.base k cls ms g) (hr : Room (k + 1) X.A) (hg : Gl X cls) (hdb : (cls == ("__debug__" : Str)) = false := by decide) : DE X false (.Call (.Name cls p) [] [] pos) (eNew cls g ms []) := by
  obtain ⟨C, f, fd, ps, h1, h2, h3, h4⟩ := M.ex
  exact ⟨_, pe_make0 h2 h3 hr hg h1 h4 .nil pass0 hdb, re_new h1 (ta := tNil) (q1 := true) fun B H0 F0 F H σ r z r' q j Q k => by cases q; exact k F H [] .refl j .nil⟩
end
end CM
end
section
set_option Elab.async false
set_option linter.all false
set_option maxRecDepth 100000
set_option autoImplicit false
namespace CM
open PySem PySem.Spec PyProof.Rows L2
section
variable {P : Program} {w : World} {K : PySem.W.Frag} {mg : Str → Option Value} {base : Heap} {k : Nat} {m f : Str} {ms : List Bool} {tb : List (Str × DF)} {g : DF} {c : Str} {C a : Addr} {fd : FuncData} {ps : List Str} {cs : List Str}
theorem Mf.nil : Mf P w K mg base k m ms [] := ⟨fun c g h => by cases h⟩
theorem Mf.cons {j : Nat} (hg : mg c = some (.ref C)) (cl : Cls K C) (me : Meth K C m a) (F : FnOk P w K mg base CX0 j a fd ps (spD ⟨K, mg⟩ (false :: ms) g)) (hj : j ≤ k) (hb : Binds K fd ps []) (r : Mf P w K mg base k m ms tb) : Mf P w K mg base k m ms ((c, g) :: tb) := by
  refine ⟨fun c' g' h C' hC => ?_⟩
  by_cases e : (c' == c) = true
  · have e' : c' = c := beq_iff_eq.mp e
    subst e'
    simp only [List.lookup, e] at h
    cases h
    rw [hg] at hC
    cases hC
    exact ⟨cl, a, fd, ps, me, F.mono hj, hb⟩
  · have e : (c' == c) = false := by simpa using e
    simp only [List.lookup, e] at h
    exact r.ok c' g' h C' hC
theorem cl_nil : ∀ c ∈ ([] : List Str), ∀ C, mg c = some (.ref C) → Cls K C ∧ NoAttr K C f := fun c h => by cases h
theorem cl_cons (hg : mg c = some (.ref C)) (cl : Cls K C) (na : NoAttr K C f) (r : ∀ c ∈ cs, ∀ C, mg c = some (.ref C) → Cls K C ∧ NoAttr K C f) : ∀ c' ∈ c :: cs, ∀ C, mg c' = some (.ref C) → Cls K C ∧ NoAttr K C f := fun c' h C' hC => by
  rcases List.mem_cons.mp h with rfl | h
  · rw [hg] at hC
    cases hC
    exact ⟨cl, na⟩
  · exact r c' h C' hC
end
end CM
end
section
set_option Elab.async false
set_option linter.all false
set_option maxRecDepth 100000
set_option autoImplicit false
namespace CM
open PySem PySem.Spec PyProof.Rows L2 PySem.SeqAt
/-! ### xs[i] = v, xs a list of one's own -/
def lSetC : C → C → D → Option C
  | .d (.list xs), .d (.int j), y => (plc xs.length j).bind fun n => some (.d (.list (xs.set n y)))
  | _, _, _ => none
def sPutL (i : Nat) (k v : EF) : SF := fun r => (v r).bind fun p => (toSh p.2 p.1).bind fun y => (ownAt y.2 (.sl i)).bind fun _ => (k y.2).bind fun s => (look s.2 s.1).bind fun z => (ownAt s.2 (.sl i)).bind fun c =>
  (lSetC c z y.1).bind fun c' => some (.nx, ownPut s.2 c' (.sl i))
section
variable {X : Cx} {e e1 e2 : Expr} {fa fb fc : EF} {qb : Bool} {pos apos cpos npos : Pos}
theorem ds_putL (i : Nat) {x : Str} {pos' : Pos} (hN : X.N[i]? = some x) (hv : Vis X.env.scope x) (hk : DE X true e1 fb) (he : DE X qb e fa)
    (hd : (x == ("__debug__" : Str)) = false := by decide) (hcd : (x == ("__classdict__" : Str)) = false := by decide)
    (ha : ∀ v, assign (.Subscript (.Name x npos) e1 pos') X.env v = (do
      let ov ← holding [v] (eval (.Name x npos) X.env)
      let iv ← holding [v, ov] (eval e1 X.env)
      standAt pos'
      holding [v, ov, iv] (setItem ov iv v)
      release [v, ov, iv] []) := by intro _; rfl)
    (hs : swapsWithSole [.Subscript (.Name x npos) e1 pos'] e pos.line X.env = pure false := by rfl) (hw : swappedStores [.Subscript (.Name x npos) e1 pos'] e X.env = pure none := by rfl)
    (h1 : (assignEach [.Subscript (.Name x npos) e1 pos'] X.env).map (·.2) = [assign (.Subscript (.Name x npos) e1 pos') X.env] := by rfl) : DS X (.Assign [.Subscript (.Name x npos) e1 pos'] e pos) (sPutL i fb fa) := by
  obtain ⟨t, a1, a2⟩ := he.ex
  obtain ⟨u, b1, b2⟩ := hk.ex
  refine ⟨_, ps_asg a1 (pg_sub (pe_var hN hv hd hcd) b1 set_list ha) hs hw h1, fun B H0 F0 F H σ r fl r' q j D a => ?_⟩
  simp only [sPutL, Option.bind_eq_some_iff] at q
  obtain ⟨⟨z1, r1⟩, q1, ⟨y, r2⟩, q2, c0, q3, ⟨z2, r3⟩, q4, kk, q5, c, q6, c', q7, q8⟩ := q
  cases q8
  refine a2 _ _ _ _ _ _ _ _ _ q1 j _ fun F1 H1 v g1 j1 k1 => ?_
  obtain ⟨F2, g2, j2, d2⟩ := toSh_ok q2 j1 k1
  obtain ⟨p, hp, ow⟩ := own_sl j2 q3
  refine ⟨_, hp, ?_⟩
  refine b2 _ _ _ _ _ _ _ _ _ q4 j2 _ fun F3 H3 w g3 j3 k3 => ?_
  have d4 := k3.look j3 q5
  obtain ⟨p', hp', ow'⟩ := own_sl j3 q6
  rw [hp] at hp'; cases hp'
  obtain ⟨_, f4, od4, _⟩ := ow'.facts j3
  unfold lSetC at q7
  split at q7
  · rename_i xs jj
    simp only [Option.bind_eq_some_iff] at q7
    obtain ⟨n, q7, q9⟩ := q7
    cases q9
    obtain ⟨vs, hx, dd⟩ := od4
    have h2 : Vp X.kc F3 w (.int jj) := d4
    cases h2
    have od : Od X.kc F3 (upd H3 p (.lst (vs.set n v))) p (.d (.list (xs.set n y))) := ⟨_, upd_same, VpAll.set (Vp.up g3.f _ _ d2) n dd⟩
    have ch : Chg p F3 H3 F3 (upd H3 p (.lst (vs.set n v))) := .at j3.fh f4
    refine ⟨p, vs, jj, n, rfl, rfl, hx, by rw [VpAll.length dd, ← plc_eq]; exact q7, ?_⟩
    have ge : Ge false F H r F3 (upd H3 p (.lst (vs.set n v))) (ownPut r3 (.d (.list (xs.set n y))) (.sl i)) := ((g1.trans g2).trans g3).trans (ch.ge (r := r3) (r' := ownPut r3 (.d (.list (xs.set n y))) (.sl i)) ownPut_lent) |>.weak
    exact a F3 _ σ ge.f ge.kp (j3.chg ow' ch od)
  · cases q7
end
end CM
end
section
set_option Elab.async false
set_option linter.all false
set_option maxRecDepth 100000
set_option autoImplicit false
namespace CM
open PySem
/-! ### texts written out -/
theorem ofString_inj {a b : String} (h : Str.ofString a = Str.ofString b) : a = b := by
  rw [Str.ofString_eq_toList, Str.ofString_eq_toList] at h
  have h := congrArg (fun s : Str => s.cps.toList) h
  have h : a.toList.map Char.toNat = b.toList.map Char.toNat := h
  have inj : ∀ c d : Char, c.toNat = d.toNat → c = d := fun c d e => Char.ext (UInt32.toNat_inj.mp e)
  have := List.map_inj_right (f := Char.toNat) (fun x y e => inj x y e) |>.mp h
  exact String.toList_inj.mp this
@[simp] theorem ofString_eq {a b : String} : (Str.ofString a = Str.ofString b) ↔ a = b := ⟨ofString_inj, fun h => by rw [h]⟩
@[simp] theorem ofString_beq {a b : String} : (Str.ofString a == Str.ofString b) = (a == b) := by
  rw [Bool.eq_iff_iff, beq_iff_eq, beq_iff_eq]
  exact ofString_eq
/-! ### evaluation: objects, list items -/
section
variable {a b : EF} {r : Env} {i n : Nat} {cs : List Str} {f : Str} {st : Store} {o : Ob}
@[simp] theorem obOf_ob (n : Nat) : obOf (.d (obD n)) = some n := rfl
@[simp] theorem isCon_ob (n : Nat) : isCon (obD n) = false := rfl
@[simp] theorem ev_asOb (n : Nat) : argSlot false (.d (obD n)) = some (.sh (obD n)) := rfl
def slotN : Slot → Option Nat
  | .sh x => obOf (.d x)
  | _ => none
@[simp] theorem slotN_sh (x : D) : slotN (.sh x) = obOf (.d x) := rfl
@[simp] theorem ev_obAt : obAt r i = (r.sl[i]?).bind slotN := by
  unfold obAt
  cases r.sl[i]? with
  | none => rfl
  | some s => cases s <;> rfl
def fdC : Fd → Option C
  | .d x => some (.d x)
  | .ow c => some c
  | .lk c => some c
@[simp] theorem fdC_d (x : D) : fdC (.d x) = some (.d x) := rfl
@[simp] theorem fdC_ow (c : C) : fdC (.ow c) = some c := rfl
@[simp] theorem fdC_lk (c : C) : fdC (.lk c) = some c := rfl
@[simp] theorem ev_look_fl : look r (.fl n f) = (fldAt r.st n f).bind fdC := by
  unfold look
  dsimp only
  cases fldAt r.st n f with
  | none => rfl
  | some s => cases s <;> rfl
@[simp] theorem ev_stl_fl : stl (.fl n f) = none := rfl
theorem fldAt_ob (h : st[n]? = some o) : fldAt st n f = o.fs.lookup f := by
  unfold fldAt
  rw [h]; rfl
def isOf (cs : List Str) (c : Str) : Bool := cs.contains c
@[simp] theorem isOf_0 (c : Str) : isOf [] c = false := rfl
@[simp] theorem isOf_c (a c : Str) (cs : List Str) : isOf (a :: cs) c = (c == a || isOf cs c) := List.contains_cons
@[simp] theorem lookup_c {α : Type} (k a : Str) (x : α) (l : List (Str × α)) : List.lookup k ((a, x) :: l) = if (k == a) = true then some x else List.lookup k l := by
  rw [List.lookup]
  cases k == a <;> rfl
def fldO (cs : List Str) (f : Str) (o : Ob) : Option Fd := if isOf cs o.cls = true then o.fs.lookup f else none
@[simp] theorem fldO_ok {c : Str} {fs : List (Str × Fd)} (h : isOf cs c = true) : fldO cs f ⟨c, fs⟩ = fs.lookup f := if_pos h
@[simp] theorem ev_fldC : fldC cs st n f = (st[n]?).bind (fldO cs f) := rfl
@[simp] theorem ev_fldAt : fldAt st n f = (st[n]?).bind fun o => o.fs.lookup f := rfl
def fdR (n : Nat) (f : Str) (r : Env) : Fd → Option (Res × Env)
  | .d x => some (.sh x, r)
  | _ => some (.fl n f, r)
@[simp] theorem fdR_d (x : D) : fdR n f r (.d x) = some (.sh x, r) := rfl
@[simp] theorem fdR_ow (c : C) : fdR n f r (.ow c) = some (.fl n f, r) := rfl
@[simp] theorem fdR_lk (c : C) : fdR n f r (.lk c) = some (.fl n f, r) := rfl
@[simp] theorem ev_fld : eFld cs f a r = (a r).bind fun p => (look p.2 p.1).bind fun c => (obOf c).bind fun n => (fldC cs p.2.st n f).bind (fdR n f p.2) := by
  unfold eFld
  cases a r with
  | none => rfl
  | some p =>
    simp only [Option.bind_some]
    cases look p.2 p.1 with
    | none => rfl
    | some c =>
      simp only [Option.bind_some]
      cases obOf c with
      | none => rfl
      | some n =>
        simp only [Option.bind_some]
        cases fldC cs p.2.st n f with
        | none => rfl
        | some d => cases d <;> rfl
def okFd (k : Nat) : Option Fd → Bool
  | some (.lk _) => false
  | some _ => true
  | none => decide (k < 100)
@[simp] theorem okFd_d (k : Nat) (x : D) : okFd k (some (.d x)) = true := rfl
@[simp] theorem okFd_ow (k : Nat) (x : C) : okFd k (some (.ow x)) = true := rfl
@[simp] theorem okFd_no {k : Nat} (h : k < 100) : okFd k none = true := decide_eq_true h
theorem ev_okPut {c : Str} {fs : List (Str × Fd)} (h : st[n]? = some ⟨c, fs⟩) : okPut cs st n f = (isOf cs c && okFd fs.length (fs.lookup f)) := by
  unfold okPut
  rw [h]
  show (cs.contains c && _) = (cs.contains c && _)
  cases fs.lookup f with
  | none => rfl
  | some d => cases d <;> rfl
def okPutC (cs : List Str) (f : Str) : Option Ob → Bool
  | none => false
  | some o => isOf cs o.cls && okFd o.fs.length (o.fs.lookup f)
@[simp] theorem okPutC_ok {c : Str} {fs : List (Str × Fd)} (h : isOf cs c = true) : okPutC cs f (some ⟨c, fs⟩) = okFd fs.length (fs.lookup f) := by
  show (isOf cs c && _) = _
  rw [h, Bool.true_and]
@[simp] theorem ev_okPutC : okPut cs st n f = okPutC cs f st[n]? := by
  cases h : st[n]? with
  | none => unfold okPut; rw [h]; rfl
  | some o => exact ev_okPut h
@[simp] theorem ev_putF (sl : List Slot) (v : Fd) : Env.putF ⟨sl, st⟩ n f v = ⟨sl, stPut st n f v⟩ := rfl
@[simp] theorem stPut_0 (o : Ob) (st : Store) (v : Fd) : stPut (o :: st) 0 f v = ⟨o.cls, putFd f v o.fs⟩ :: st := rfl
@[simp] theorem stPut_s (o : Ob) (st : Store) (n : Nat) (v : Fd) : stPut (o :: st) (n + 1) f v = o :: stPut st n f v := rfl
@[simp] theorem putFd_0 (v : Fd) : putFd f v [] = [(f, v)] := rfl
@[simp] theorem putFd_1 (v : Fd) (g : Str) (x : Fd) (l : List (Str × Fd)) : putFd f v ((g, x) :: l) = if g = f then (g, v) :: l else (g, x) :: putFd f v l := rfl
@[simp] theorem ev_fdNew_sh (x : D) : fdNew r (.sh x) = some (.d x) := rfl
@[simp] theorem ev_fdNew_fr (c : C) : fdNew r (.fr c) = some (.ow c) := rfl
def slotF : Slot → Option Fd
  | .sh x => some (.d x)
  | _ => none
@[simp] theorem slotF_sh (x : D) : slotF (.sh x) = some (.d x) := rfl
@[simp] theorem ev_fdNew_sl : fdNew r (.sl i) = (r.sl[i]?).bind slotF := by
  unfold fdNew
  dsimp only
  cases r.sl[i]? with
  | none => rfl
  | some s => cases s <;> rfl
@[simp] theorem ev_sFldN : sFldN cs i f a r = (a r).bind fun p => (obAt p.2 i).bind fun n => (fdNew p.2 p.1).bind fun d => if okPut cs p.2.st n f = true then some (.nx, p.2.putF n f d) else none := rfl
def fdI : Fd → Option Int
  | .d (.int k) => some k
  | _ => none
@[simp] theorem fdI_i (k : Int) : fdI (.d (.int k)) = some k := rfl
@[simp] theorem ev_fldInt : fldInt cs st n f = (fldC cs st n f).bind fdI := by
  unfold fldInt
  cases fldC cs st n f with
  | none => rfl
  | some d =>
    cases d with
    | d x => cases x <;> rfl
    | _ => rfl
@[simp] theorem ev_clsAt : clsAt st n = (st[n]?).map Ob.cls := rfl
@[simp] theorem ev_sFldAdd : sFldAdd cs i f a r = (obAt r i).bind fun n => (fldInt cs r.st n f).bind fun k => (a r).bind fun p => ((look p.2 p.1).bind intC).bind fun m => (fldInt cs p.2.st n f).bind fun _ => if clsAt r.st n = clsAt p.2.st n then some (.nx, p.2.putF n f (.d (.int (k + m)))) else none := rfl
def noFd (m : Str) (o : Ob) : Option Unit := if (o.fs.lookup m).isNone = true then some () else none
@[simp] theorem noFd_ok {c m : Str} {fs : List (Str × Fd)} (h : fs.lookup m = none) : noFd m ⟨c, fs⟩ = some () := by
  unfold noFd
  exact if_pos (by show (fs.lookup m).isNone = true; rw [h]; rfl)
@[simp] theorem ev_meth (m : Str) (tb : List (Str × DF)) (ms : List Bool) (as : List EF) : eMeth m tb ms a as r = (a r).bind fun p => (look p.2 p.1).bind fun c => (obOf c).bind fun n => (p.2.st[n]?).bind fun ob => (noFd m ob).bind fun _ => (tb.lookup ob.cls).bind fun f => (eArgs as p.2).bind fun q => (passes q.2 ms q.1).bind fun y => (f (.d (obD n) :: y.1) y.2.st).bind fun z => some (z.1, ⟨y.2.sl, z.2⟩) := by
  unfold eMeth
  cases a r with
  | none => rfl
  | some p =>
    simp only [Option.bind_some]
    cases look p.2 p.1 with
    | none => rfl
    | some c =>
      simp only [Option.bind_some]
      cases obOf c with
      | none => rfl
      | some n =>
        simp only [Option.bind_some]
        cases p.2.st[n]? with
        | none => rfl
        | some ob =>
          simp only [Option.bind_some]
          unfold noFd
          split <;> rfl
def newK (n : Nat) (sl : List Slot) : Res × Store → Option (Res × Env)
  | (.sh .none, s) => some (.sh (obD n), ⟨sl, s⟩)
  | _ => none
@[simp] theorem newK_ok (n : Nat) (sl : List Slot) (s : Store) : newK n sl (.sh .none, s) = some (.sh (obD n), ⟨sl, s⟩) := rfl
@[simp] theorem ev_new (cls : Str) (init : DF) (ms : List Bool) (as : List EF) : eNew cls init ms as r = (eArgs as r).bind fun p => (passes p.2 ms p.1).bind fun q => (init (.d (obD q.2.st.length) :: q.1) (q.2.st ++ [⟨cls, []⟩])).bind (newK q.2.st.length q.2.sl) := by
  unfold eNew
  cases eArgs as r with
  | none => rfl
  | some p =>
    simp only [Option.bind_some]
    cases passes p.2 ms p.1 with
    | none => rfl
    | some q =>
      simp only [Option.bind_some]
      cases init (.d (obD q.2.st.length) :: q.1) (q.2.st ++ [⟨cls, []⟩]) with
      | none => rfl
      | some z =>
        obtain ⟨z, s⟩ := z
        simp only [Option.bind_some]
        cases z with
        | sh x => cases x <;> rfl
        | _ => rfl
/-! list items -/
def slotW : Slot → Option C
  | .ow c => some c
  | _ => none
@[simp] theorem slotW_ow (c : C) : slotW (.ow c) = some c := rfl
theorem ownAt_sl : ownAt r (.sl i) = (r.sl[i]?).bind slotW := by
  unfold ownAt
  dsimp only
  cases r.sl[i]? with
  | none => rfl
  | some s => cases s <;> rfl
@[simp] theorem ev_putL : sPutL i a b r = (b r).bind fun p => (toSh p.2 p.1).bind fun y => (ownAt y.2 (.sl i)).bind fun _ => (a y.2).bind fun s => (look s.2 s.1).bind fun z => (ownAt s.2 (.sl i)).bind fun c => (lSetC c z y.1).bind fun c' => some (.nx, ownPut s.2 c' (.sl i)) := rfl
@[simp] theorem lSetC_ok {xs : List D} {j : Int} {k : Nat} {y : D} (h : plc xs.length j = some k) : lSetC (.d (.list xs)) (.d (.int j)) y = some (.d (.list (xs.set k y))) := by
  show (plc xs.length j).bind _ = _
  rw [h]; rfl
theorem plc_nn {n : Nat} {i : Int} (h0 : 0 ≤ i) (h : i < n) : plc n i = some i.toNat := by
  unfold plc
  rw [if_pos h0, if_pos h]
def fdW : Fd → Option C
  | .ow c => some c
  | _ => none
@[simp] theorem fdW_ow (c : C) : fdW (.ow c) = some c := rfl
@[simp] theorem ownAt_fl : ownAt r (.fl cs i f) = (obAt r i).bind fun n => (fldC cs r.st n f).bind fdW := by
  unfold ownAt
  dsimp only
  cases obAt r i with
  | none => rfl
  | some n =>
    simp only [Option.bind_some]
    cases fldC cs r.st n f with
    | none => rfl
    | some d => cases d <;> rfl
def putO (r : Env) (f : Str) (c : C) : Option Nat → Env
  | some n => r.putF n f (.ow c)
  | none => r
@[simp] theorem putO_some (c : C) : putO r f c (some n) = r.putF n f (.ow c) := rfl
@[simp] theorem ownPut_fl (c : C) : ownPut r c (.fl cs i f) = putO r f c (obAt r i) := rfl
def fdL (n : Nat) (f : Str) : Fd → Option (C × Lk)
  | .d x => some (.d x, .no)
  | .ow c => some (c, .fl n f)
  | .lk _ => none
@[simp] theorem fdL_d (x : D) : fdL n f (.d x) = some (.d x, .no) := rfl
@[simp] theorem fdL_ow (c : C) : fdL n f (.ow c) = some (c, .fl n f) := rfl
@[simp] theorem ev_lend_fl : lendOf r (.fl n f) = (fldAt r.st n f).bind (fdL n f) := by
  unfold lendOf
  dsimp only
  cases fldAt r.st n f with
  | none => rfl
  | some d => cases d <;> rfl
def lockF (r : Env) (n : Nat) (f : Str) : Option Fd → Env
  | some (.ow c) => r.putF n f (.lk c)
  | _ => r
@[simp] theorem lockF_ow (c : C) : lockF r n f (some (.ow c)) = r.putF n f (.lk c) := rfl
@[simp] theorem lockF_d (c : D) : lockF r n f (some (.d c)) = r := rfl
@[simp] theorem ev_lock_fl : lock (.fl n f) r = lockF r n f (fldAt r.st n f) := rfl
def unlockF (r : Env) (n : Nat) (f : Str) : Option Fd → Env
  | some (.lk c) => r.putF n f (.ow c)
  | _ => r
@[simp] theorem unlockF_lk (c : C) : unlockF r n f (some (.lk c)) = r.putF n f (.ow c) := rfl
@[simp] theorem ev_unlock_fl : unlock (.fl n f) r = unlockF r n f (fldAt r.st n f) := rfl
def fdG : Fd → Option Res
  | .d x => some (.sh x)
  | _ => none
@[simp] theorem fdG_d (x : D) : fdG (.d x) = some (.sh x) := rfl
@[simp] theorem ev_give_fl : give r (.fl n f) = (fldAt r.st n f).bind fdG := by
  unfold give
  dsimp only
  cases fldAt r.st n f with
  | none => rfl
  | some d => cases d <;> rfl
end
end CM
end
section
set_option Elab.async false
set_option linter.all false
set_option maxRecDepth 100000
set_option autoImplicit false
namespace CM
open PySem PySem.Spec PyProof.Rows L2
/-! ### a text is walked -/
def strC : C → Option Str
  | .d (.str x) => some x
  | _ => none
theorem strC_is {c : C} {x : Str} (h : strC c = some x) : c = .d (.str x) := by
  unfold strC at h
  split at h
  · cases h; rfl
  · cases h
def txD (x : Str) : List D := x.cps.toList.map fun c => .str ⟨#[c]⟩
def iTxt (a : EF) : IF := fun r => (a r).bind fun p => ((look p.2 p.1).bind strC).bind fun x => some (txD x, .no, p.2)
@[simp] theorem strC_s (x : Str) : strC (.d (.str x)) = some x := rfl
@[simp] theorem ev_txt (a : EF) (r : Env) : iTxt a r = (a r).bind fun p => ((look p.2 p.1).bind strC).bind fun x => some (txD x, .no, p.2) := rfl
theorem itOk_s {K : KC} {G : Hp} {F : Fz} (x : Str) : ItOk K (Its x) G F (txD x) := fun i F1 H1 e1 e2 e3 => by
  have hl : (txD x).length = x.cps.size := by simp [txD]
  refine ⟨fun hi => ⟨?_, fun y H2 h => ?_⟩, fun hi => ?_⟩
  · rw [hl] at hi; exact hi
  · obtain ⟨rfl, c, h1, rfl⟩ := h
    refine ⟨F1, .refl e2, .str ⟨#[c]⟩, ?_, .str _⟩
    unfold txD
    rw [List.getElem?_map, Array.getElem?_toList, h1]; rfl
  · rw [hl] at hi; exact hi
section
variable {X : Cx} {e : Expr} {fa : EF} {q1 : Bool}
theorem di_txt {tg : Expr} (he : DE X q1 e fa) : DI X tg e (iTxt fa) := by
  obtain ⟨t, a1, a2⟩ := he.ex
  refine ⟨_, pi_str a1, fun B H0 F0 F H σ r ds l r' q j R k => ?_⟩
  simp only [iTxt, Option.bind_eq_some_iff] at q
  obtain ⟨⟨z, r1⟩, q1, x, ⟨c, q2, q3⟩, q4⟩ := q
  cases q4
  refine a2 _ _ _ _ _ _ _ _ _ q1 j _ fun F1 H1 v e1 j1 k1 => ?_
  have b := k1.look j1 q2
  cases strC_is q3
  have b : Vp X.kc F1 v (.str x) := b
  cases b
  exact ⟨x, rfl, k F1 H1 _ _ F1 _ e1.weak (.no j1) (itOk_s x)⟩
end
end CM
end
section
set_option Elab.async false
set_option linter.all false
set_option maxRecDepth 100000
set_option autoImplicit false
namespace CM
open PySem PySem.Spec PyProof.Rows L2
/-! ### one dict locked or not: the same state -/
/-- two readings of one dict, locked or not -/
def Dl (x y : HO) : Prop := ∃ u, ((∃ es, u = HO.dK es) ∨ ∃ es, u = HO.dT es) ∧ (x = u ∨ ∃ o, x = .frz o u) ∧ (y = u ∨ ∃ o, y = .frz o u)
theorem Dl.noT {x y : HO} (h : Dl x y) : ¬ TupO x := fun ⟨_, e⟩ => by
  subst e
  obtain ⟨u, a, b, _⟩ := h
  rcases b with b | ⟨_, b⟩
  · rcases a with ⟨_, a⟩ | ⟨_, a⟩ <;> rw [a] at b <;> cases b
  · cases b
theorem Dl.symm {x y : HO} (h : Dl x y) : Dl y x := let ⟨u, a, b, c⟩ := h; ⟨u, a, c, b⟩
def sw (p : Addr) (y : HO) (G : Hp) : Hp := fun a => if a = p then (match G p with
  | some _ => some y
  | none => none) else G a
def swF (p : Addr) (y : HO) (F : Fz) : Fz := ⟨sw p y F.f, F.t⟩
section
variable {K : KC} {F F' : Fz} {H H' B H0 F0 G G' : Hp} {σ : L2.St} {r r' : Env} {v : V} {c : C} {d : D} {p q : Addr} {x y : HO} {st : Store} {n : Nat} {f : Str}
theorem sw_ne {a : Addr} (h : a ≠ p) : sw p y G a = G a := if_neg h
theorem sw_none (h : G p = none) : sw p y G p = none := by unfold sw; rw [if_pos rfl, h]
theorem sw_some {o : HO} (h : G p = some o) : sw p y G p = some y := by unfold sw; rw [if_pos rfl, h]
theorem sw_no {a : Addr} : sw p y G a = none ↔ G a = none := by
  by_cases z : a = p
  · subst z
    cases h : G a with
    | none => rw [sw_none h]
    | some o => rw [sw_some h]; exact ⟨fun z => (by cases z), fun z => (by cases z)⟩
  · rw [sw_ne z]
theorem sw_upd {o : HO} (h : G p = some o) : sw p y G = upd G p y := by
  funext a
  by_cases z : a = p
  · subst z; rw [sw_some h, upd_same]
  · rw [sw_ne z, upd_ne z]
/-- what stands at p, where anything does -/
def Pt (p : Addr) (x : HO) (G : Hp) : Prop := ∀ o, G p = some o → o = x
theorem Pt.of (e : Ex G H) (h : H p = some x) : Pt p x G := fun o w => by
  have := e _ _ w
  rw [h] at this; cases this; rfl
theorem sw_back (h : Pt p x G) : sw p x (sw p y G) = G := by
  funext a
  by_cases z : a = p
  · subst z
    cases w : G a with
    | none => rw [sw_none (sw_none w)]
    | some o => rw [sw_some (sw_some w), h o w]
  · rw [sw_ne z, sw_ne z]
theorem swF_back (h : Pt p x F.f) : swF p x (swF p y F) = F := by
  unfold swF
  dsimp only
  rw [sw_back h]
theorem Ex.sw (e : Ex G G') : Ex (sw p y G) (sw p y G') := fun a o w => by
  by_cases z : a = p
  · subst z
    cases w' : G a with
    | none => rw [sw_none w'] at w; cases w
    | some u => rw [sw_some w'] at w; rw [sw_some (e _ _ w')]; exact w
  · rw [sw_ne z] at w ⊢; exact e _ _ w
theorem FEx.sw (e : FEx F F') : FEx (swF p y F) (swF p y F') := ⟨⟨e.f.sw, e.i, e.b⟩, e.l⟩
theorem FEi.sw (e : FEi F F') : FEi (swF p y F) (swF p y F') := ⟨e.f.sw, e.i, e.b⟩
theorem Dl.at {a : Addr} {o : HO} (dl : Dl x y) (pt : Pt p x G) (h : G a = some o) (n1 : ∀ es, o ≠ .dK es) (n2 : ∀ es, o ≠ .dT es) (n3 : ∀ b u, o ≠ .frz b u) : a ≠ p := fun z => by
  subst z
  have := pt o h
  subst this
  obtain ⟨u, hu, hx, _⟩ := dl
  rcases hx with rfl | ⟨b, rfl⟩
  · rcases hu with ⟨es, rfl⟩ | ⟨es, rfl⟩
    · exact n1 _ rfl
    · exact n2 _ rfl
  · exact n3 _ _ rfl
theorem Rd.sw {a : Addr} {w : HO} (h : Rd G a w) (dl : Dl x y) (pt : Pt p x G) (nf : ∀ o u, w ≠ .frz o u) : Rd (sw p y G) a w := by
  by_cases z : a = p
  · subst z
    obtain ⟨u, hu, hx, hy⟩ := dl
    have nu : ∀ o u', u ≠ .frz o u' := fun o u' e => by
      rcases hu with ⟨es, w⟩ | ⟨es, w⟩ <;> rw [w] at e <;> cases e
    have eq : w = u := by
      rcases h with h | ⟨b, h⟩
      · have := pt _ h
        subst this
        rcases hx with e | ⟨b, e⟩
        · exact e
        · exact absurd e (nf _ _)
      · have := pt _ h
        subst this
        rcases hx with e | ⟨b', e⟩
        · exact absurd e.symm (nu _ _)
        · cases e; rfl
    subst eq
    have hy' : sw a y G a = some y := h.elim (fun h => sw_some h) fun ⟨_, h⟩ => sw_some h
    rcases hy with e | ⟨b, e⟩
    · exact .inl (by rw [hy', e])
    · exact .inr ⟨b, by rw [hy', e]⟩
  · rcases h with h | ⟨b, h⟩
    · exact .inl (by rw [sw_ne z]; exact h)
    · exact .inr ⟨b, by rw [sw_ne z]; exact h⟩
theorem SqL.sw {K : PySem.W.Frag} {a : Addr} {xs : List V} (h : SqL K G a xs) (dl : Dl x y) (pt : Pt p x G) : SqL K (sw p y G) a xs := by
  rcases h with h | h
  · exact .inl (Rd.sw h dl pt fun _ _ z => by cases z)
  · exact .inr h
theorem SqT.sw {K : PySem.W.Frag} {a : Addr} {xs : List V} (h : SqT K G a xs) (dl : Dl x y) (pt : Pt p x G) : SqT K (sw p y G) a xs := by
  rcases h with h | h
  · exact .inl (Rd.sw h dl pt fun _ _ z => by cases z)
  · exact .inr h
theorem TupAt.sw {K : PySem.W.Frag} {a : Addr} {xs : List V} {ds : List D} (h : TupAt K G a xs ds) (dl : Dl x y) (pt : Pt p x G) : TupAt K (sw p y G) a xs ds := by
  rcases h with ⟨o, po, h⟩ | h
  · refine .inl ⟨o, po, ?_⟩
    rw [sw_ne fun z => ?_]
    · exact h
    · subst z
      have e := pt _ h
      subst e
      obtain ⟨u, hu, hx, _⟩ := dl
      cases q : tuT ds <;> rw [q] at hx
      · rcases hx with e | ⟨b, e⟩
        · rcases hu with ⟨es, rfl⟩ | ⟨es, rfl⟩ <;> cases e
        · cases e
      · rcases hx with e | ⟨b, e⟩
        · rcases hu with ⟨es, rfl⟩ | ⟨es, rfl⟩ <;> cases e
        · cases e
          rcases hu with ⟨es, e⟩ | ⟨es, e⟩ <;> cases e
  · exact .inr ⟨SqT.sw h.1 dl pt, h.2⟩
mutual
theorem Vp.sw (dl : Dl x y) (pt : Pt p x F.f) : ∀ (d : D) (v : V), Vp K F v d → Vp K (swF p y F) v d
  | .none, _, h => by cases h; exact .non
  | .bool b, _, h => by cases h; exact .bl b
  | .int i, _, h => by cases h; exact .int i
  | .str x, _, h => by cases h; exact .str x
  | .list ds, _, h => by
    cases h with
    | lst hs ha => exact .lst (SqL.sw hs dl pt) (VpAll.sw dl pt ds _ ha)
  | .tuple ds, _, h => by
    cases h with
    | tup hs ha => exact .tup (TupAt.sw hs dl pt) (VpAll.sw dl pt ds _ ha)
  | .dict _, _, h => by
    cases h with
    | ob a => exact .ob a
    | bx a => exact .bx a
theorem VpAll.sw (dl : Dl x y) (pt : Pt p x F.f) : ∀ (ds : List D) (vs : List V), VpAll K F vs ds → VpAll K (swF p y F) vs ds
  | [], _, h => by cases h; exact .nil
  | d :: ds, _, h => by
    cases h with
    | cons h1 h2 => exact .cons (Vp.sw dl pt d _ h1) (VpAll.sw dl pt ds _ h2)
end
theorem KVs.sw {κ : Type} {es : List (κ × V)} {kvs : List (κ × D)} (h : KVs K F es kvs) (dl : Dl x y) (pt : Pt p x F.f) : KVs K (swF p y F) es kvs :=
  Paired.mapP h fun _ _ ⟨a, b⟩ => ⟨a, Vp.sw dl pt _ _ b⟩
theorem Bd.sw (h : Bd K F H v c) (dl : Dl x y) (pf : Pt p x F.f) (pt : Pt p x H) : Bd K (swF p y F) (sw p y H) v c := by
  cases c with
  | d x =>
    cases x with
    | list ds => obtain ⟨p, xs, r, a, b⟩ := h; exact ⟨p, xs, r, SqL.sw a dl pt, VpAll.sw dl pf _ _ b⟩
    | _ => exact Vp.sw dl pf _ _ h
  | dk kvs => obtain ⟨p, es, r, a, b⟩ := h; exact ⟨p, es, r, Rd.sw a dl pt (fun _ _ z => by cases z), KVs.sw b dl pf⟩
  | dt kvs => obtain ⟨p, es, r, a, b⟩ := h; exact ⟨p, es, r, Rd.sw a dl pt (fun _ _ z => by cases z), KVs.sw b dl pf⟩
theorem Od.sw (h : Od K F H q c) (dl : Dl x y) (pf : Pt p x F.f) (ne : q ≠ p) : Od K (swF p y F) (sw p y H) q c := by
  cases c with
  | d x =>
    cases x with
    | list ds => obtain ⟨xs, a, b⟩ := h; exact ⟨xs, by rw [sw_ne ne]; exact a, VpAll.sw dl pf _ _ b⟩
    | _ => exact h.elim
  | dk kvs => obtain ⟨es, a, b⟩ := h; exact ⟨es, by rw [sw_ne ne]; exact a, b.sw dl pf⟩
  | dt kvs => obtain ⟨es, a, b⟩ := h; exact ⟨es, by rw [sw_ne ne]; exact a, b.sw dl pf⟩
theorem OdR.sw (h : OdR K F H q c) (dl : Dl x y) (pf : Pt p x F.f) (pt : Pt p x H) : OdR K (swF p y F) (sw p y H) q c := by
  cases c with
  | d x =>
    cases x with
    | list ds =>
      obtain ⟨xs, a, b⟩ := h
      exact ⟨xs, by rw [sw_ne (dl.at pt a (fun _ z => by cases z) (fun _ z => by cases z) (fun _ _ z => by cases z))]; exact a, VpAll.sw dl pf _ _ b⟩
    | _ => exact h.elim
  | dk kvs => obtain ⟨es, a, b⟩ := h; exact ⟨es, Rd.sw a dl pt (fun _ _ z => by cases z), KVs.sw b dl pf⟩
  | dt kvs => obtain ⟨es, a, b⟩ := h; exact ⟨es, Rd.sw a dl pt (fun _ _ z => by cases z), KVs.sw b dl pf⟩
theorem FdOk.sw {w : Fd} (h : FdOk K F H n f v w) (dl : Dl x y) (pf : Pt p x F.f) (pt : Pt p x H) (no : ∀ n f, F.t p ≠ some (.fld n f)) : FdOk K (swF p y F) (sw p y H) n f v w := by
  cases w with
  | d x => exact Vp.sw dl pf _ _ h
  | ow c =>
    obtain ⟨q, a, b, c⟩ := h
    exact ⟨q, a, b, c.sw dl pf fun z => by subst z; exact no _ _ b⟩
  | lk c =>
    obtain ⟨q, a, b, c⟩ := h
    exact ⟨q, a, b, c.sw dl pf pt⟩
theorem StOk.sw (s : StOk K H0 F H st) (dl : Dl x y) (pf : Pt p x F.f) (pt : Pt p x H) (h0 : H0 p ≠ none) : StOk K (sw p y H0) (swF p y F) (sw p y H) st := by
  have no : ∀ n f, F.t p ≠ some (.fld n f) := fun n f z => by
    rcases (s.sep p _ z).2.2 with w | ⟨n', f', w⟩
    · exact h0 w
    · cases w
  refine ⟨fun q n h => ?_, s.inj, fun q t h => ?_, s.ix, s.tf, s.tl, fun q n f c h w => (s.od q n f c h w).sw dl pf fun z => by subst z; exact no _ _ h, fun q n f c h w => (s.odr q n f c h w).sw dl pf pt, s.bi, fun q n h xs e => by
    by_cases z : q = p
    · subst z
      cases w : H q with
      | none => rw [sw_none w] at e; cases e
      | some u =>
        rw [sw_some w] at e
        cases e
        exact dl.symm.noT ⟨_, rfl⟩
    · rw [sw_ne z] at e; exact s.dn q n h xs e⟩
  · obtain ⟨o, a, C, dx, es, b, c, d, g, k⟩ := s.ob q n h
    exact ⟨o, a, C, dx, es, b, by rw [sw_ne (dl.at pt c (fun _ z => by cases z) (fun _ z => by cases z) (fun _ _ z => by cases z))]; exact c, d, Paired.mapP g fun _ _ ⟨e1, e2⟩ => ⟨e1, e2.sw dl pf pt no⟩, k⟩
  · obtain ⟨a, b, c⟩ := s.sep q t h
    exact ⟨sw_no.mpr a, fun z => b (sw_no.mp z), c.imp sw_no.mpr id⟩
theorem SlotOk.sw {w : Option (Option V)} {s : Slot} (h : SlotOk K B H0 F H w s) (dl : Dl x y) (pf : Pt p x F.f) (pb : Pt p x B) (h0 : H0 p ≠ none) : SlotOk K (sw p y B) (sw p y H0) (swF p y F) (sw p y H) w s := by
  cases s with
  | no => trivial
  | sh d => obtain ⟨v, a, b⟩ := h; exact ⟨v, a, Vp.sw dl pf _ _ b⟩
  | bo c => obtain ⟨v, a, b⟩ := h; exact ⟨v, a, b.sw dl pf pb⟩
  | lk c => obtain ⟨v, a, b⟩ := h; exact ⟨v, a, b.sw dl pf pb⟩
  | ow c =>
    obtain ⟨q, a, b, d, t, e⟩ := h
    exact ⟨q, a, sw_no.mpr b, sw_no.mpr d, t, e.sw dl pf fun z => by subst z; exact h0 b⟩
theorem J.sw (j : J K B H0 F0 F H σ r) (hx : H p = some x) (h0 : H0 p ≠ none) (dl : Dl x y) : J K (sw p y B) (sw p y H0) (sw p y F0) (swF p y F) (sw p y H) σ r := by
  have pt : Pt p x H := .of (.refl H) hx
  have p0 : Pt p x H0 := .of j.e0 hx
  have pf : Pt p x F.f := .of j.fh hx
  have pb : Pt p x B := .of (j.eb.trans j.e0) hx
  refine ⟨j.eb.sw, j.e0.sw, j.ef.sw, j.fh.sw, fun a o w => ?_, j.so.sw dl pf pt h0, j.len, fun i s w => (j.sl i s w).sw dl pf pb h0, j.dj⟩
  by_cases z : a = p
  · subst z
    have w : CM.sw a y F.f a = some o := w
    cases e : F.f a with
    | none => rw [sw_none e] at w; cases w
    | some u =>
      rw [sw_some e] at w
      rcases j.nw a u e with k | k | k
      · exact .inl (by rw [sw_some k]; exact w)
      · exact absurd k h0
      · exact absurd k (by rw [pf u e]; exact dl.noT)
  · have w : CM.sw p y F.f a = some o := w
    rw [sw_ne z] at w
    rw [sw_ne z, sw_ne z]
    exact j.nw a o w
theorem RetOk.sw {z : Res} (h : RetOk K H0 F H v z) (dl : Dl x y) (pf : Pt p x F.f) (h0 : H0 p ≠ none) : RetOk K (sw p y H0) (swF p y F) (sw p y H) v z := by
  cases z with
  | sh d => exact Vp.sw dl pf _ _ h
  | fr c =>
    obtain ⟨q, a, b, d, t, e⟩ := h
    exact ⟨q, a, sw_no.mpr b, sw_no.mpr d, t, e.sw dl pf fun z => by subst z; exact h0 b⟩
  | sl i => exact h.elim
  | fl n f => exact h.elim
/-- a state with the dict locked, brought back -/
theorem J.unsw {F2 : Fz} {H2 : Hp} {σ2 : L2.St} {r2 : Env} (j : J K B H0 F0 F H σ r) (hx : H p = some x) (h0 : H0 p ≠ none) (dl : Dl x y)
    (j2 : J K (CM.sw p y B) (CM.sw p y H0) (CM.sw p y F0) F2 H2 σ2 r2) : H2 p = some y ∧ J K B H0 F0 (swF p x F2) (CM.sw p x H2) σ2 r2 := by
  have e : CM.sw p y H0 p = some y := by
    cases w : H0 p with
    | none => exact absurd w h0
    | some o => exact sw_some w
  have hy : H2 p = some y := j2.e0 _ _ e
  have k := j2.sw hy (fun z => by rw [e] at z; cases z) dl.symm
  rw [sw_back (.of (j.eb.trans j.e0) hx), sw_back (.of j.e0 hx), sw_back (.of (j.ef.trans j.fh) hx)] at k
  exact ⟨hy, k⟩
end
end CM
end
section
set_option Elab.async false
set_option linter.all false
set_option maxRecDepth 100000
set_option autoImplicit false
namespace CM
open PySem PySem.Spec PyProof.Rows L2
/-! ### a loop over a dict's view -/
def Vu (K : KC) (F : Fz) (u : HO) : C → Prop
  | .dk kvs => ∃ es, u = .dK es ∧ KVs K F es kvs
  | .dt kvs => ∃ es, u = .dT es ∧ KVs K F es kvs
  | .d _ => False
def vItems : C → Option (List D)
  | .dk kvs => some (kvs.map fun e => .tuple [kD e.1, e.2])
  | _ => none
def vVals : C → Option (List D)
  | .dk kvs => some (kvs.map (·.2))
  | _ => none
def vKeys : C → Option (List D)
  | .dk kvs => some (kvs.map fun e => kD e.1)
  | _ => none
def iDv (g : C → Option (List D)) (a : EF) : IF := fun r => (a r).bind fun p => (lendOf p.2 p.1).bind fun q => (g q.1).bind fun ds => some (ds, q.2, p.2)
section
variable {K : KC} {F F' F1 : Fz} {H H' H1 B H0 F0 : Hp} {σ : L2.St} {r r' : Env} {v : V} {c : C} {x : D} {p : Addr} {s : Slot} {ds : List D} {u : HO} {z : Res} {l : Lk}
theorem Vu.up (h : Vu K F u c) (e : FEi F F') : Vu K F' u c := by
  cases c with
  | d x => exact h.elim
  | dk kvs => obtain ⟨es, a, b⟩ := h; exact ⟨es, a, b.up e⟩
  | dt kvs => obtain ⟨es, a, b⟩ := h; exact ⟨es, a, b.up e⟩
theorem Vu.sw {a : Addr} {x y : HO} (h : Vu K F u c) (dl : Dl x y) (pf : Pt a x F.f) : Vu K (swF a y F) u c := by
  cases c with
  | d x => exact h.elim
  | dk kvs => obtain ⟨es, a, b⟩ := h; exact ⟨es, a, KVs.sw b dl pf⟩
  | dt kvs => obtain ⟨es, a, b⟩ := h; exact ⟨es, a, KVs.sw b dl pf⟩
theorem Vu.dic (h : Vu K F u c) : (∃ es, u = HO.dK es) ∨ ∃ es, u = HO.dT es := by
  cases c with
  | d x => exact h.elim
  | dk kvs => obtain ⟨es, a, b⟩ := h; exact .inl ⟨es, a⟩
  | dt kvs => obtain ⟨es, a, b⟩ := h; exact .inr ⟨es, a⟩
theorem Bd.vu (h : Bd K F B v c) (n : ∀ x, c ≠ .d x) : ∃ p x u, v = .ref p ∧ B p = some x ∧ Vu K F u c ∧ (x = u ∨ ∃ o, x = .frz o u) := by
  cases c with
  | d x => exact absurd rfl (n x)
  | dk kvs =>
    obtain ⟨p, es, rfl, a, b⟩ := h
    rcases a with a | ⟨o, a⟩
    · exact ⟨p, _, _, rfl, a, ⟨es, rfl, b⟩, .inl rfl⟩
    · exact ⟨p, _, _, rfl, a, ⟨es, rfl, b⟩, .inr ⟨o, rfl⟩⟩
  | dt kvs =>
    obtain ⟨p, es, rfl, a, b⟩ := h
    rcases a with a | ⟨o, a⟩
    · exact ⟨p, _, _, rfl, a, ⟨es, rfl, b⟩, .inl rfl⟩
    · exact ⟨p, _, _, rfl, a, ⟨es, rfl, b⟩, .inr ⟨o, rfl⟩⟩
theorem Od.vu {o : HO} (h : Od K F H p c) (n : ∀ x, c ≠ .d x) (e : H p = some o) : Vu K F o c := by
  cases c with
  | d x => exact absurd rfl (n x)
  | dk kvs => obtain ⟨es, a, b⟩ := h; rw [e] at a; cases a; exact ⟨es, rfl, b⟩
  | dt kvs => obtain ⟨es, a, b⟩ := h; rw [e] at a; cases a; exact ⟨es, rfl, b⟩
theorem lend_vu (q : lendOf r z = some (c, l)) (n : ∀ x, c ≠ .d x) (j : J K B H0 F0 F H σ r) (h : ResOk K H0 F H σ r v z) :
    ∃ B' H0' FL a x u, LkOk K l B H0 F0 F H σ r B' H0' FL ∧ FEi F FL ∧ v = .ref a ∧ H a = some x ∧ H0' a ≠ none ∧ Vu K FL u c ∧ (x = u ∨ ∃ o, x = .frz o u) := by
  cases z with
  | sh x => cases q; exact absurd rfl (n x)
  | fr c1 =>
    cases c1 with
    | d x => cases q; exact absurd rfl (n x)
    | dk _ => cases q
    | dt _ => cases q
  | fl n' f =>
    have h : FldV F H n' f v := h
    unfold lendOf at q
    dsimp only at q
    split at q
    · rename_i y e
      cases q
      exact absurd rfl (n y)
    · rename_i y e
      cases q
      obtain ⟨q, o, FL, rfl, ho, od, fi, lk⟩ := LkOk.fieldV j h e
      exact ⟨B, upd H0 q o, FL, q, o, o, lk, fi, rfl, ho, (by rw [upd_same]; exact fun z => (by cases z)), (od.vu n ho).up fi, .inl rfl⟩
    · cases q
  | sl i =>
    have h : σ[i]? = some (some v) := h
    have main : ∀ y, Bd K F B v y → y = c → l = .no → ∃ B' H0' FL a x u, LkOk K l B H0 F0 F H σ r B' H0' FL ∧ FEi F FL ∧ v = .ref a ∧ H a = some x ∧ H0' a ≠ none ∧ Vu K FL u c ∧ (x = u ∨ ∃ o, x = .frz o u) := fun y b e1 e2 => by
      subst e1; subst e2
      obtain ⟨p, x, u, b1, b2, b3, b4⟩ := b.vu n
      exact ⟨B, H0, F, p, x, u, .no j, .refl _, b1, j.e0 _ _ (j.eb _ _ b2), (by rw [j.eb _ _ b2]; exact fun z => (by cases z)), b3, b4⟩
    unfold lendOf at q
    dsimp only at q
    split at q
    · rename_i y e
      cases q
      exact absurd rfl (n y)
    · rename_i y e
      cases q
      obtain ⟨v', a, b⟩ := j.sl i _ e
      rw [h] at a; cases a
      exact main _ b rfl rfl
    · rename_i y e
      cases q
      obtain ⟨v', a, b⟩ := j.sl i _ e
      rw [h] at a; cases a
      exact main _ b rfl rfl
    · rename_i y e
      cases q
      obtain ⟨p, o, hp, ho, od, lk⟩ := LkOk.slot j e
      rw [h] at hp; cases hp
      exact ⟨_, upd H0 p o, F, p, o, o, lk, .refl _, rfl, ho, (by rw [upd_same]; exact fun z => (by cases z)), od.vu n ho, .inl rfl⟩
    · cases q
/-- a place: a name, a field -/
def isPl : Res → Prop
  | .sl _ => True
  | .fl _ _ => True
  | _ => False
theorem lend_pl (q : lendOf r z = some (c, l)) (n : ∀ x, c ≠ .d x) : isPl z := by
  cases z with
  | sh x => cases q; exact n x rfl
  | fr c1 =>
    cases c1 with
    | d x => cases q; exact n x rfl
    | dk _ => cases q
    | dt _ => cases q
  | _ => trivial
theorem ResOk.pl {B' H0' : Hp} {F2 : Fz} {r2 : Env} (h : ResOk K H0 F H σ r v z) (i : isPl z) (e : FEi F F2) : ResOk K H0' F2 H σ r2 v z := by
  cases z with
  | sh x => exact i.elim
  | fr c => exact i.elim
  | sl i => exact h
  | fl n f => exact FldV.up h e (.refl _)
theorem ResOk.plsw {a : Addr} {x y : HO} (h : ResOk K H0 F H σ r v z) (i : isPl z) (dl : Dl x y) (pt : Pt a x H) : ResOk K (CM.sw a y H0) (swF a y F) (CM.sw a y H) σ r v z := by
  cases z with
  | sh x => exact i.elim
  | fr c => exact i.elim
  | sl i => exact h
  | fl n f =>
    rcases h with ⟨p, C, dx, es, t, hp, l⟩ | h
    case inr => exact .inr h
    exact .inl ⟨p, C, dx, es, t, by rw [sw_ne (dl.at pt hp (fun _ z => by cases z) (fun _ z => by cases z) (fun _ _ z => by cases z))]; exact hp, l⟩
theorem ResOk.one {v' : V} {H0' H0'' : Hp} {F2 : Fz} {r2 : Env} {H2 : Hp} {st : Store} (h : ResOk K H0 F H σ r v z) (i : isPl z) (e : FEi F F2) (e2 : Ex H H2) (s : StOk K H0'' F2 H2 st) (h' : ResOk K H0' F2 H2 σ r2 v' z) : v' = v := by
  cases z with
  | sh x => exact i.elim
  | fr c => exact i.elim
  | sl k =>
    have h : σ[k]? = some (some v) := h
    have h' : σ[k]? = some (some v') := h'
    rw [h] at h'; cases h'; rfl
  | fl n f =>
    rcases h with ⟨p, C, dx, es, t, hp, l⟩ | ⟨a, rfl, rfl, b⟩
    case inr =>
      rcases h' with ⟨p', C', dx', es', t', hp', l'⟩ | ⟨a', rfl, _, b'⟩
      · exact absurd t' (s.bi _ _ _ (e.b _ _ b))
      · have b := e.b _ _ b
        have : a' = a := by
          rcases b with b | b <;> rcases b' with b' | b'
          · exact s.inj _ _ _ b' b
          · obtain ⟨c1, w1⟩ := s.tf _ _ _ b
            obtain ⟨c2, w2⟩ := s.tl _ _ _ b'
            rw [w1] at w2; cases w2
          · obtain ⟨c1, w1⟩ := s.tl _ _ _ b
            obtain ⟨c2, w2⟩ := s.tf _ _ _ b'
            rw [w1] at w2; cases w2
          · exact s.inj _ _ _ b' b
        rw [this]
    rcases h' with ⟨p', C', dx', es', t', hp', l'⟩ | ⟨a, rfl, rfl, b⟩
    case inr => exact absurd (e.i _ _ t) (s.bi _ _ _ b)
    have := s.inj _ _ _ t' (e.i _ _ t)
    subst this
    rw [e2 _ _ hp] at hp'; cases hp'
    rw [l] at l'; cases l'
    rfl
end
structure Plc (K : KC) (fa : EF) : Prop where
  pl : ∀ (B H0 F0 : Hp) (F : Fz) (H : Hp) (σ : L2.St) (r : Env) (z : Res) (r' : Env), fa r = some (z, r') → J K B H0 F0 F H σ r → r' = r ∧ (∀ l, fa (lock l r) = some (z, lock l r)) ∧ ∃ v, ResOk K H0 F H σ r v z
structure Vw (X : Cx) (tg it e : Expr) (g : C → Option (List D)) : Prop where
  nd : ∀ x, g (.d x) = none
  ex : ∀ td, PE X e td → ∃ w : TI, PI X tg it w ∧ ∀ (c : C) (ds : List D), g c = some ds → ∀ (σ : L2.St) (H : Hp) (R : It → Hp → Prop) (P : V → Hp → Prop), (∀ Q : VK, (∀ x H1, P x H1 → Q x H1) → td σ H Q) →
    (∀ x H1, P x H1 → ∃ d o u F, x = .ref d ∧ H1 d = some (.frz o u) ∧ Vu X.kc F u c ∧ ∀ T, (∀ G, G d = some (.frz o u) → ItOk X.kc T G F ds) → R T H1) → w σ H R
theorem lock_put {r : Env} {l : Lk} {i : Nat} : (∃ s, r.sl[i]? = some s ∧ (lock l r).sl[i]? = some s) ∨ (∃ c, r.sl[i]? = some (.ow c) ∧ (lock l r).sl[i]? = some (.lk c)) ∨ (r.sl[i]? = none ∧ (lock l r).sl[i]? = none) := by
  have same : (lock l r).sl = r.sl → _ := fun e => show (∃ s, r.sl[i]? = some s ∧ (lock l r).sl[i]? = some s) ∨ (∃ c, r.sl[i]? = some (.ow c) ∧ (lock l r).sl[i]? = some (.lk c)) ∨ (r.sl[i]? = none ∧ (lock l r).sl[i]? = none) by
    rw [e]
    cases w : r.sl[i]? with
    | none => exact .inr (.inr ⟨rfl, rfl⟩)
    | some s => exact .inl ⟨s, rfl, rfl⟩
  cases l with
  | no => exact same rfl
  | fl n f =>
    refine same ?_
    show (match fldAt r.st n f with | some (.ow c) => r.putF n f (.lk c) | _ => r).sl = r.sl
    split <;> rfl
  | sl k =>
    by_cases z : ∃ c, r.sl[k]? = some (.ow c)
    · obtain ⟨c, hc⟩ := z
      have hl : lock (.sl k) r = r.put k (.lk c) := by show (match r.sl[k]? with | some (.ow c) => r.put k (.lk c) | _ => r) = _; rw [hc]
      rw [hl]
      by_cases y : k = i
      · subst y
        refine .inr (.inl ⟨c, hc, ?_⟩)
        show (r.sl.set k (.lk c))[k]? = _
        rw [List.getElem?_set_self ((List.getElem?_eq_some_iff.mp hc).1)]
      · show _ ∨ _ ∨ _
        have : (r.put k (.lk c)).sl[i]? = r.sl[i]? := List.getElem?_set_ne y
        rw [this]
        cases w : r.sl[i]? with
        | none => exact .inr (.inr ⟨rfl, rfl⟩)
        | some s => exact .inl ⟨s, rfl, rfl⟩
    · refine same ?_
      show (match r.sl[k]? with | some (.ow c) => r.put k (.lk c) | _ => r).sl = r.sl
      split
      · rename_i c hc; exact absurd ⟨c, hc⟩ z
      · rfl
theorem plc_var {K : KC} (i : Nat) : Plc K (eVar i) := ⟨fun B H0 F0 F H σ r z r' q j => by
  have key : ∀ r : Env, (∃ s, r.sl[i]? = some s ∧ s ≠ .no) → eVar i r = some (.sl i, r) := fun r ⟨s, h, n⟩ => by
    unfold eVar
    rw [h]
    cases s with
    | no => exact absurd rfl n
    | _ => rfl
  obtain ⟨s, hs, ns⟩ : ∃ s, r.sl[i]? = some s ∧ s ≠ .no := by
    unfold eVar at q
    split at q
    · rename_i y e; exact ⟨_, e, fun z => by cases z⟩
    · rename_i y e; exact ⟨_, e, fun z => by cases z⟩
    · rename_i y e; exact ⟨_, e, fun z => by cases z⟩
    · rename_i y e; exact ⟨_, e, fun z => by cases z⟩
    · cases q
  rw [key r ⟨s, hs, ns⟩] at q
  cases q
  refine ⟨rfl, fun l => key _ ?_, ?_⟩
  · rcases lock_put (r := r) (l := l) (i := i) with ⟨s', a, b⟩ | ⟨c, a, b⟩ | ⟨a, b⟩
    · rw [hs] at a; cases a; exact ⟨s, b, ns⟩
    · exact ⟨_, b, fun z => by cases z⟩
    · rw [hs] at a; cases a
  · have b := j.sl i s hs
    cases s with
    | no => exact absurd rfl ns
    | sh d => obtain ⟨v, a, _⟩ := b; exact ⟨v, a⟩
    | bo d => obtain ⟨v, a, _⟩ := b; exact ⟨v, a⟩
    | lk d => obtain ⟨v, a, _⟩ := b; exact ⟨v, a⟩
    | ow d => obtain ⟨v, a, _⟩ := b; exact ⟨.ref v, a⟩⟩
/-! ### the views -/
theorem KVs.at {K : KC} {F : Fz} {κ : Type} : ∀ {es : List (κ × V)} {kvs : List (κ × D)} {i : Nat} {e : κ × V}, KVs K F es kvs → es[i]? = some e → ∃ d, kvs[i]? = some (e.1, d) ∧ Vp K F e.2 d
  | _, _, _, _, .nil, q => by simp at q
  | _ :: _, q :: _, 0, e, .cons ⟨h1, h2⟩ r, w => by
    simp at w; subst w
    exact ⟨q.2, by simp [h1], h2⟩
  | _ :: _, _ :: _, i + 1, e, .cons _ r, w => by
    obtain ⟨d, a, b⟩ := KVs.at (i := i) r (by simpa using w)
    exact ⟨d, by simpa using a, b⟩
theorem vp_key {K : KC} {F : Fz} (k : Ky) : Vp K F (kV k) (kD k) := by
  cases k with
  | inl i => exact .int i
  | inr s => exact .str s
section
variable {X : Cx} {tg e : Expr} {apos cpos : Pos}
theorem vw_items {elts : List Expr} {kk : Nat} {tpos : Pos} (hbase : attributeBase e "items" X.env (eval e X.env) = eval e X.env := by rfl) (hline : (apos.endLine == cpos.line) = true := by rfl) :
    Vw X (.Tuple elts kk tpos) (.Call (.Attribute e "items" apos) [] [] cpos) e vItems := ⟨fun _ => rfl, fun td h => ⟨_, pi_items h hbase hline, fun c ds g σ H R P k1 k2 => k1 _ fun x H1 px => by
  obtain ⟨d, o, u, F, rfl, hd, vu, kk⟩ := k2 x H1 px
  cases c with
  | d x => exact vu.elim
  | dt kvs => cases g
  | dk kvs =>
    cases g
    obtain ⟨es, rfl, kv⟩ := vu
    have len : es.length = kvs.length := Paired.length kv
    refine ⟨d, o, es, rfl, hd, kk _ fun G hG i F1 H1 e1 e2 e3 => ⟨fun hi => ?_, fun hi => ⟨e3 _ _ hG, by simp at hi; omega⟩⟩⟩
    rw [List.length_map] at hi
    refine ⟨⟨e3 _ _ hG, by omega⟩, fun x H2 ⟨T, k, v, q1, q2, q3, q4⟩ => ?_⟩
    subst q2; subst q4
    obtain ⟨dd, w1, w2⟩ := kv.at q1
    refine ⟨F1.put T (.tup [kV k, v]), .put e2 q3, .tuple [kD k, dd], by rw [List.getElem?_map, w1]; rfl, .tup (.flat (by cases k <;> rfl) upd_same) (.cons (vp_key k) (.cons (Vp.up ((e1.trans (FEx.put (e2.back q3))).toFEi) _ _ w2) .nil))⟩⟩⟩
theorem vw_values (hbase : attributeBase e "values" X.env (eval e X.env) = eval e X.env := by rfl) (hline : (apos.endLine == cpos.line) = true := by rfl) :
    Vw X tg (.Call (.Attribute e "values" apos) [] [] cpos) e vVals := ⟨fun _ => rfl, fun td h => ⟨_, pi_values h hbase hline, fun c ds g σ H R P k1 k2 => k1 _ fun x H1 px => by
  obtain ⟨d, o, u, F, rfl, hd, vu, kk⟩ := k2 x H1 px
  cases c with
  | d x => exact vu.elim
  | dt kvs => cases g
  | dk kvs =>
    cases g
    obtain ⟨es, rfl, kv⟩ := vu
    have len : es.length = kvs.length := Paired.length kv
    refine ⟨d, o, es, rfl, hd, kk _ fun G hG i F1 H1 e1 e2 e3 => ⟨fun hi => ?_, fun hi => ⟨e3 _ _ hG, by simp at hi; omega⟩⟩⟩
    rw [List.length_map] at hi
    refine ⟨⟨e3 _ _ hG, by omega⟩, fun x H2 ⟨q4, k, q1⟩ => ?_⟩
    subst q4
    obtain ⟨dd, w1, w2⟩ := kv.at q1
    exact ⟨F1, .refl e2, dd, by rw [List.getElem?_map, w1]; rfl, Vp.up e1 _ _ w2⟩⟩⟩
theorem vw_keysM (hbase : attributeBase e "keys" X.env (eval e X.env) = eval e X.env := by rfl) (hline : (apos.endLine == cpos.line) = true := by rfl) :
    Vw X tg (.Call (.Attribute e "keys" apos) [] [] cpos) e vKeys := ⟨fun _ => rfl, fun td h => ⟨_, pi_keysM h hbase hline, fun c ds g σ H R P k1 k2 => k1 _ fun x H1 px => by
  obtain ⟨d, o, u, F, rfl, hd, vu, kk⟩ := k2 x H1 px
  cases c with
  | d x => exact vu.elim
  | dt kvs => cases g
  | dk kvs =>
    cases g
    obtain ⟨es, rfl, kv⟩ := vu
    have len : es.length = kvs.length := Paired.length kv
    refine ⟨d, o, es, rfl, hd, kk _ fun G hG i F1 H1 e1 e2 e3 => ⟨fun hi => ?_, fun hi => ⟨e3 _ _ hG, by simp at hi; omega⟩⟩⟩
    rw [List.length_map] at hi
    refine ⟨⟨e3 _ _ hG, by omega⟩, fun x H2 ⟨q4, k, v, q1, q2⟩ => ?_⟩
    subst q4; subst q2
    obtain ⟨dd, w1, w2⟩ := kv.at q1
    exact ⟨F1, .refl e2, kD k, by rw [List.getElem?_map, w1]; rfl, vp_key k⟩⟩⟩
theorem vw_keys : Vw X tg e e vKeys := ⟨fun _ => rfl, fun td h => ⟨_, pi_keys h, fun c ds g σ H R P k1 k2 => k1 _ fun x H1 px => by
  obtain ⟨d, o, u, F, rfl, hd, vu, kk⟩ := k2 x H1 px
  cases c with
  | d x => exact vu.elim
  | dt kvs => cases g
  | dk kvs =>
    cases g
    obtain ⟨es, rfl, kv⟩ := vu
    have len : es.length = kvs.length := Paired.length kv
    refine ⟨d, o, rfl, .inl ⟨es, hd, kk _ fun G hG i F1 H1 e1 e2 e3 => ⟨fun hi => ?_, fun hi => ⟨e3 _ _ hG, by simp at hi; omega⟩⟩⟩⟩
    rw [List.length_map] at hi
    refine ⟨⟨e3 _ _ hG, by omega⟩, fun x H2 ⟨q4, k, v, q1, q2⟩ => ?_⟩
    subst q4; subst q2
    obtain ⟨dd, w1, w2⟩ := kv.at q1
    exact ⟨F1, .refl e2, kD k, by rw [List.getElem?_map, w1]; rfl, vp_key k⟩⟩⟩
end
/-! ### the loop -/
section
variable {X : Cx} {e tg it : Expr} {fa : EF} {pos : Pos} {body : List Stmt} {p : Pat} {g : SF}
theorem ps_or {st : Stmt} {t1 t2 : TS} (h1 : PS X st t1) (h2 : PS X st t2) : PS X st (fun D σ H => t1 D σ H ∨ t2 D σ H) := ⟨fun pins s σ H D I h => by
  rcases h with h | h
  · exact h1.run pins s σ H D I h
  · exact h2.run pins s σ H D I h⟩
theorem for_core {tg' : TG} {tb : TS} (b2 : RG X.kc tg' p) (c2 : RS X.kc tb g) {B H0 F0 : Hp} {F : Fz} {H : Hp} {σ : L2.St} {r r2 : Env} {ds : List D} {fl : Flow} {T : It} {D : Ends} (j : J X.kc B H0 F0 F H σ r) (ok : ItOk X.kc T H0 F ds)
    (q : runFor p g ds r = some (fl, r2)) (out : After X.kc B H0 F0 F D r σ r2 fl) :
    ∃ W : Nat → Nat → L2.St → Hp → Prop, (∃ m, W 0 m σ H) ∧ ∀ i m σ H, W i m σ H →
      (T.stop i H ∧ D.nx σ H) ∨ (T.go i H ∧ ∃ N : L2.St → Hp → Prop, (∀ σ' H', N σ' H' → ∃ m', m' < m ∧ W (i + 1) m' σ' H') ∧ ∀ x H', T.yld i H x H' → tg' x σ H' fun σ2 H2 => tb { D with nx := N, ct := N, bk := D.nx } σ2 H2) := by
  refine ⟨fun i m σ' H => m = ds.length - i ∧ i ≤ ds.length ∧ ∃ F1 r1, FEx F F1 ∧ Kp r σ r1 σ' ∧ J X.kc B H0 F0 F1 H σ' r1 ∧ runFor p g (ds.drop i) r1 = some (fl, r2), ⟨ds.length, by simp, Nat.zero_le _, F, r, .refl _, .refl, j, q⟩, ?_⟩
  rintro i m σ2 H2 ⟨rfl, hi, F2, r3, e2, k2, j2, q3⟩
  have oki := ok i F2 H2 e2 j2.fh j2.e0
  by_cases hlt : i < ds.length
  · obtain ⟨go, yl⟩ := oki.1 hlt
    rw [List.drop_eq_getElem_cons hlt] at q3
    simp only [runFor, Option.bind_eq_some_iff] at q3
    obtain ⟨r4, q4, ⟨fl4, r5⟩, q5, q6⟩ := q3
    refine .inr ⟨go, fun σ' H' => ∃ F1 r1, FEx F F1 ∧ Kp r σ r1 σ' ∧ J X.kc B H0 F0 F1 H' σ' r1 ∧ runFor p g (ds.drop (i + 1)) r1 = some (fl, r2), fun σ' H' ⟨F', r', h1, h2, h3, h4⟩ => ⟨ds.length - (i + 1), by omega, rfl, by omega, F', r', h1, h2, h3, h4⟩, fun x H3 y => ?_⟩
    obtain ⟨F3, gr, d, hd, dp⟩ := yl x H3 y
    rw [List.getElem?_eq_getElem hlt] at hd; cases hd
    have j3 := j2.grow gr
    refine b2 _ _ _ _ _ _ _ _ _ _ q4 j3 dp _ fun σ4 j4 kp4 _ _ => ?_
    refine c2 _ _ _ _ _ _ _ _ _ q5 j4 _ ?_
    have ee : FEx F F3 := e2.trans gr.fe
    have kk : Kp r σ r4 σ4 := k2.trans kp4
    cases fl4 with
    | nx => exact fun F5 H5 σ5 e5 k5 j5 => ⟨F5, r5, ee.trans e5, kk.trans k5, j5, q6⟩
    | ct => exact fun F5 H5 σ5 e5 k5 j5 => ⟨F5, r5, ee.trans e5, kk.trans k5, j5, q6⟩
    | bk =>
      cases q6
      exact fun F5 H5 σ5 e5 k5 j5 => out F5 H5 σ5 (ee.trans e5) (kk.trans k5) j5
    | rt z =>
      cases q6
      exact fun F5 H5 σ5 v e5 k5 j5 o => out F5 H5 σ5 v (ee.trans e5) (kk.trans k5) j5 o
  · have e : i = ds.length := by omega
    subst e
    rw [List.drop_length] at q3
    cases q3
    exact .inl ⟨oki.2 (Nat.le_refl _), out F2 H2 σ2 e2 k2 j2⟩
/-- the loop over a dict that is locked -/
theorem forV_core {tg' : TG} {tb : TS} {td : TE} {w : TI} {gv : C → Option (List D)} (b2 : RG X.kc tg' p) (c2 : RS X.kc tb g) (a2 : RE X.kc true td fa) {c : C} {ds : List D} (gc : gv c = some ds)
    (vw : ∀ (c : C) (ds : List D), gv c = some ds → ∀ (σ : L2.St) (H : Hp) (R : It → Hp → Prop) (P : V → Hp → Prop), (∀ Q : VK, (∀ x H1, P x H1 → Q x H1) → td σ H Q) →
      (∀ x H1, P x H1 → ∃ d o u F, x = .ref d ∧ H1 d = some (.frz o u) ∧ Vu X.kc F u c ∧ ∀ T, (∀ G, G d = some (.frz o u) → ItOk X.kc T G F ds) → R T H1) → w σ H R)
    {B H0 F0 : Hp} {F : Fz} {H : Hp} {σ : L2.St} {r r2 : Env} {fl : Flow} {D : Ends} {z : Res} {a : Addr} {o : Obj} {u : HO} (j : J X.kc B H0 F0 F H σ r) (qa : fa r = some (z, r)) (pl : isPl z) (rs : ResOk X.kc H0 F H σ r (.ref a) z)
    (ha : H a = some (.frz o u)) (h0 : H0 a ≠ none) (vu : Vu X.kc F u c) (q : runFor p g ds r = some (fl, r2)) (out : After X.kc B H0 F0 F D r σ r2 fl) : tFor w tg' tb D σ H := by
  refine vw c ds gc σ H _ (fun v H1 => ∃ F1, Ge true F H r F1 H1 r ∧ J X.kc B H0 F0 F1 H1 σ r ∧ ResOk X.kc H0 F1 H1 σ r v z) (fun Q k => a2 _ _ _ _ _ _ _ _ _ qa j Q fun F1 H1 v e1 j1 k1 => k v H1 ⟨F1, e1, j1, k1⟩) fun v H1 ⟨F1, e1, j1, k1⟩ => ?_
  have ev : v = .ref a := rs.one pl e1.f (e1.q rfl).1 j1.so k1
  have g0 : H0 a = some (.frz o u) := by
    cases w : H0 a with
    | none => exact absurd w h0
    | some x => have := j.e0 _ _ w; rw [ha] at this; cases this; rfl
  refine ⟨a, o, u, F1, ev, (e1.q rfl).1 _ _ ha, vu.up e1.f, fun T hT => ?_⟩
  exact for_core b2 c2 j1 (hT H0 g0) q (out.later e1.f .refl)
theorem ds_forV {gv : C → Option (List D)} (hp : PassesOwn (model X.prog X.w) X.A X.env X.xe) (hc : X.calm = true) (he : DE X true e fa) (pl : Plc X.kc fa) (vw : Vw X tg it e gv) (hg : DG X tg p) (hb : DSs X body g)
    (hs : ∀ x, foldedSetIterable it X.env x = pure x := by intro _; rfl) : DS X (.For tg it body [] pos) (sFor p (iDv gv fa) g) := by
  obtain ⟨td, a1, a2⟩ := he.ex
  obtain ⟨w, w1, w2⟩ := vw.ex td a1
  obtain ⟨tg', b1, b2⟩ := hg.ex
  obtain ⟨tb, c1, c2⟩ := hb.ex
  have P := ps_for (pos := pos) hp hc w1 b1 c1 hs
  refine ⟨_, ps_or (ps_lock P) P, fun B H0 F0 F H σ r fl r' q j D a => ?_⟩
  simp only [sFor, iDv, Option.bind_eq_some_iff] at q
  obtain ⟨⟨ds, l, r1⟩, ⟨⟨z, r1'⟩, q0, ⟨c, l'⟩, q1, ds', gc, q1'⟩, ⟨fl1, r2⟩, q2, q3⟩ := q
  cases q1'
  cases q3
  dsimp only at a q2 q1 gc
  obtain ⟨er, lk0, v, rv⟩ := pl.pl _ _ _ _ _ _ _ _ _ q0 j
  subst er
  have nd : ∀ x, c ≠ .d x := fun x z => by subst z; rw [vw.nd] at gc; cases gc
  have ip := lend_pl q1 nd
  obtain ⟨B', H0', FL, ad, x, u, lk, fi, ev, hx, h0, vu, xu⟩ := lend_vu q1 nd j rv
  subst ev
  have j1 := lk.j
  have out : After X.kc B' H0' F0 FL D (lock l' r1') σ r2 fl1 := by
    cases fl1 with
    | nx =>
      exact fun F' H' σ' e' k' j' => by
        obtain ⟨F3, u1, u2, u3, u4, u5, u6, _⟩ := lk.un F' H' σ' r2 e' k' j'
        exact a F3 H' σ' u1 u4 u5
    | bk =>
      exact fun F' H' σ' e' k' j' => by
        obtain ⟨F3, u1, u2, u3, u4, u5, u6, _⟩ := lk.un F' H' σ' r2 e' k' j'
        exact a F3 H' σ' u1 u4 u5
    | ct =>
      exact fun F' H' σ' e' k' j' => by
        obtain ⟨F3, u1, u2, u3, u4, u5, u6, _⟩ := lk.un F' H' σ' r2 e' k' j'
        exact a F3 H' σ' u1 u4 u5
    | rt z =>
      exact fun F' H' σ' v e' k' j' o => by
        obtain ⟨F3, u1, u2, u3, u4, u5, u6, _⟩ := lk.un F' H' σ' r2 e' k' j'
        exact a F3 H' σ' v u1 u4 u5 (o.unlock u2 u3 u6)
  have rs : ResOk X.kc H0' FL H σ (lock l' r1') (.ref ad) z := rv.pl ip fi (B' := B')
  rcases xu with rfl | ⟨o, rfl⟩
  · -- to be locked
    have mu : Mut (some x) := by
      rcases vu.dic with ⟨es, rfl⟩ | ⟨es, rfl⟩ <;> trivial
    refine .inl ⟨ad, x, hx, mu, fun od => ?_⟩
    have dl : Dl x (.frz od x) := ⟨x, vu.dic, .inl rfl, .inr ⟨od, rfl⟩⟩
    have pf : Pt ad x FL.f := .of j1.fh hx
    have pt : Pt ad x H := .of (.refl H) hx
    have js := j1.sw hx h0 dl
    have es : sw ad (.frz od x) H = upd H ad (.frz od x) := sw_upd hx
    have fe : ∀ F', FEx (swF ad (.frz od x) FL) F' → FEx FL (swF ad x F') := fun F' e' => by
      have := e'.sw (p := ad) (y := x)
      rw [swF_back pf] at this
      exact this
    have rs' := rs.plsw ip dl pt
    rw [es] at js rs'
    refine forV_core b2 c2 a2 gc w2 js (lk0 l') ip rs' upd_same (fun z => h0 (sw_no.mp z)) (vu.sw dl pf) q2 ?_
    have bk : ∀ F' H' σ', J X.kc (sw ad (.frz od x) B') (sw ad (.frz od x) H0') (sw ad (.frz od x) F0) F' H' σ' r2 → H' ad = some (.frz od x) ∧ J X.kc B' H0' F0 (swF ad x F') (upd H' ad x) σ' r2 := fun F' H' σ' j' => by
      obtain ⟨h1, h2⟩ := j1.unsw hx h0 dl j'
      rw [sw_upd h1] at h2
      exact ⟨h1, h2⟩
    cases fl1 with
    | nx => exact fun F' H' σ' e' k' j' => ⟨(bk _ _ _ j').1, out _ _ _ (fe _ e') k' (bk _ _ _ j').2⟩
    | bk => exact fun F' H' σ' e' k' j' => ⟨(bk _ _ _ j').1, out _ _ _ (fe _ e') k' (bk _ _ _ j').2⟩
    | ct => exact fun F' H' σ' e' k' j' => ⟨(bk _ _ _ j').1, out _ _ _ (fe _ e') k' (bk _ _ _ j').2⟩
    | rt z =>
      refine fun F' H' σ' v e' k' j' o => ⟨(bk _ _ _ j').1, out _ _ _ v (fe _ e') k' (bk _ _ _ j').2 ?_⟩
      have h1 := (bk _ _ _ j').1
      have := o.sw (p := ad) (y := x) dl.symm (.of j'.fh h1) (fun z => h0 (sw_no.mp z))
      rw [sw_back (.of j1.e0 hx), sw_upd h1] at this
      exact this
  · exact .inr (forV_core b2 c2 a2 gc w2 j1 (lk0 l') ip rs hx h0 vu q2 out)
end
end CM
end
section
set_option Elab.async false
set_option linter.all false
set_option maxRecDepth 100000
set_option autoImplicit false
namespace CM
open PySem PySem.Spec PyProof.Rows L2
@[simp] theorem ev_dv {g : C → Option (List D)} {a : EF} {r : Env} : iDv g a r = (a r).bind fun p => (lendOf p.2 p.1).bind fun q => (g q.1).bind fun ds => some (ds, q.2, p.2) := rfl
theorem vItems_dk (kvs : List (Ky × D)) : vItems (.dk kvs) = some (kvs.map fun e => .tuple [kD e.1, e.2]) := rfl
theorem vVals_dk (kvs : List (Ky × D)) : vVals (.dk kvs) = some (kvs.map (·.2)) := rfl
theorem vKeys_dk (kvs : List (Ky × D)) : vKeys (.dk kvs) = some (kvs.map fun e => kD e.1) := rfl
end CM
end
section
set_option Elab.async false
set_option linter.all false
set_option maxRecDepth 100000
set_option autoImplicit false
namespace CM
open PySem PySem.Spec PyProof.Rows L2
/-! ### a list that no name holds, changed and left; xs.reverse() -/
theorem J.off {K : KC} {B H0 F0 H : Hp} {F : Fz} {σ : L2.St} {r : Env} {p : Addr} {c : C} (o : HO) (j : J K B H0 F0 F H σ r) (h : ResOk K H0 F H σ r (.ref p) (.fr c)) : J K B H0 F0 F (upd H p o) σ r := by
  obtain ⟨p', e, h0, hf, ht, od, hn⟩ := h
  cases e
  have ne : ∀ a u, a ≠ p → H a = some u → upd H p o a = some u := fun a u z w => by rw [upd_ne z]; exact w
  refine ⟨j.eb, j.e0.side h0, j.ef, j.fh.side hf, j.nw, j.so.same (.refl _) rfl (fun q w u z => ne q u (fun y => by subst y; exact w ht) z) (fun q w => ?_), j.len, fun i s w => ?_, j.dj⟩
  · cases t : F.t q with
    | none => exact absurd t w
    | some u => exact (j.so.sep q u t).1
  · have b := j.sl i s w
    cases s with
    | no => trivial
    | sh d => exact b
    | bo d => exact b
    | lk d => exact b
    | ow d =>
      obtain ⟨q, b1, b2, b3, b4, b5⟩ := b
      exact ⟨q, b1, b2, b3, b4, b5.up (FEi.refl _) fun u z => ne q u (fun y => by subst y; exact hn i d w b1) z⟩
def frL : Res → Option (List D)
  | .fr (.d (.list ds)) => some ds
  | _ => none
theorem frL_is {z : Res} {ds : List D} (h : frL z = some ds) : z = .fr (.d (.list ds)) := by
  unfold frL at h
  split at h
  · cases h; rfl
  · cases h
/-- e.clear(), e.append("..") where e gives a new list -/
def eClrR (a : EF) : EF := fun r => (a r).bind fun p => (frL p.1).bind fun _ => some (.sh .none, p.2)
def eAppR (a : EF) : EF := fun r => (a r).bind fun p => (frL p.1).bind fun ds => if ds.length < 16777216 then some (.sh .none, p.2) else none
def eRevL (i : Nat) : EF := fun r => (ownAt r (.sl i)).bind fun c => (lstC c).bind fun ds => some (.sh .none, ownPut r (.d (.list ds.reverse)) (.sl i))
section
variable {X : Cx} {e : Expr} {fa : EF} {q1 : Bool}
theorem de_clrR {apos cpos : Pos} (he : DE X q1 e fa) (hbase : attributeBase e "clear" X.env (eval e X.env) = eval e X.env := by rfl) (hline : (apos.endLine == cpos.line) = true := by rfl) :
    DE X false (.Call (.Attribute e "clear" apos) [] [] cpos) (eClrR fa) := by
  obtain ⟨t, a1, a2⟩ := he.ex
  refine ⟨_, pe_bm0 PySem.F.plainAttrs_list PySem.F.slot_list_clear PySem.F.type_list_clear mt_clear a1 hbase hline, fun B H0 F0 F H σ r z r' q j Q k => ?_⟩
  simp only [eClrR, Option.bind_eq_some_iff] at q
  obtain ⟨⟨z1, r1⟩, q1, ds, q2, q3⟩ := q
  cases q3
  cases frL_is q2
  refine a2 _ _ _ _ _ _ _ _ _ q1 j _ fun F1 H1 v e1 j1 k1 => ?_
  have k2 := k1
  obtain ⟨p, rfl, h0, hf, ht, od, hn⟩ := k2
  have ty := lst_ty F1 H1 p _ rfl od
  obtain ⟨vs, hx, da⟩ := od
  exact ⟨ty, p, vs, rfl, rfl, hx, k F1 _ _ ⟨e1.f, e1.k, fun z => by cases z⟩ (j1.off _ k1) .non⟩
theorem de_appR {apos cpos : Pos} {x : Str} {jk : Nat} {kpos : Pos} (he : DE X q1 e fa)
    (hbase : attributeBase e "append" X.env (eval e X.env) = eval e X.env := by rfl)
    (hfew : ((backTo cpos (starEach [.Constant (.str x) jk kpos] X.env)).all (fun x => !x.1) && (backToKw cpos (keywordEach [] X.env)).all (fun x => x.1.isSome)
      && decide (([.Constant (.str x) jk kpos] : List Expr).length + ([] : List Keyword).length + (if ([] : List Keyword).isEmpty then 0 else 1) < 30)) = true := by rfl)
    (hline : (apos.endLine == cpos.line) = true := by rfl) (hs : starEach [.Constant (.str x) jk kpos] X.env = (false, eval (.Constant (.str x) jk kpos) X.env) :: starEach [] X.env := by rfl) (hplain : (backTo cpos (starEach [] X.env)).any (·.1) = false := by rfl) :
    DE X false (.Call (.Attribute e "append" apos) [.Constant (.str x) jk kpos] [] cpos) (eAppR fa) := by
  obtain ⟨t, a1, a2⟩ := he.ex
  refine ⟨_, pe_bm PySem.F.plainAttrs_list PySem.F.slot_list_append PySem.F.type_list_append mt_append a1 (pa_cons pe_str pa_nil) hbase hfew hline hs hplain, fun B H0 F0 F H σ r z r' q j Q k => ?_⟩
  simp only [eAppR, Option.bind_eq_some_iff] at q
  obtain ⟨⟨z1, r1⟩, q1, ds, q2, q3⟩ := q
  split at q3
  · rename_i hl
    cases q3
    cases frL_is q2
    refine a2 _ _ _ _ _ _ _ _ _ q1 j _ fun F1 H1 v e1 j1 k1 => ?_
    have k2 := k1
    obtain ⟨p, rfl, h0, hf, ht, od, hn⟩ := k2
    have ty := lst_ty F1 H1 p _ rfl od
    obtain ⟨vs, hx, da⟩ := od
    exact ⟨ty, p, vs, .str x, rfl, rfl, hx, by rw [VpAll.length da, sizeLine_eq]; exact hl, k F1 _ _ ⟨e1.f, e1.k, fun z => by cases z⟩ (j1.off _ k1) .non⟩
  · cases q3
theorem de_revL {x : Str} {apos cpos npos : Pos} (i : Nat) (hN : X.N[i]? = some x) (hv : Vis X.env.scope x) (hd : (x == ("__debug__" : Str)) = false := by decide) (hcd : (x == ("__classdict__" : Str)) = false := by decide)
    (hbase : attributeBase (.Name x npos) "reverse" X.env (eval (.Name x npos) X.env) = eval (.Name x npos) X.env := by rfl) (hline : (apos.endLine == cpos.line) = true := by rfl) :
    DE X false (.Call (.Attribute (.Name x npos) "reverse" apos) [] [] cpos) (eRevL i) := by
  refine ⟨_, pe_bm0 PySem.F.plainAttrs_list PySem.F.slot_list_reverse PySem.F.type_list_reverse mt_reverse (pe_var hN hv hd hcd) hbase hline, fun B H0 F0 F H σ r z r' q j Q k => ?_⟩
  simp only [eRevL, Option.bind_eq_some_iff] at q
  obtain ⟨c, q0, ds, q1, q2⟩ := q
  cases q2
  cases lstC_is q1
  obtain ⟨p, hp, ow⟩ := own_sl j q0
  obtain ⟨_, f2, od, _⟩ := ow.facts j
  have ty := lst_ty F H p _ rfl od
  obtain ⟨vs, hx, da⟩ := od
  refine ⟨_, hp, ty, p, vs, rfl, rfl, hx, ?_⟩
  have ch : Chg p F H F (upd H p (.lst vs.reverse)) := .at j.fh f2
  exact k F _ _ (ch.ge ownPut_lent).weak (j.chg ow ch ⟨_, upd_same, VpAll.rev da⟩) .non
@[simp] theorem ev_clrR (a : EF) (r : Env) : eClrR a r = (a r).bind fun p => (frL p.1).bind fun _ => some (.sh .none, p.2) := rfl
@[simp] theorem ev_appR (a : EF) (r : Env) : eAppR a r = (a r).bind fun p => (frL p.1).bind fun ds => if ds.length < 16777216 then some (.sh .none, p.2) else none := rfl
@[simp] theorem ev_revL (i : Nat) (r : Env) : eRevL i r = (ownAt r (.sl i)).bind fun c => (lstC c).bind fun ds => some (.sh .none, ownPut r (.d (.list ds.reverse)) (.sl i)) := rfl
@[simp] theorem frL_l (ds : List D) : frL (.fr (.d (.list ds))) = some ds := rfl
end
end CM
end
section
set_option Elab.async false
set_option linter.all false
set_option maxRecDepth 100000
set_option autoImplicit false
namespace CM
open PySem PySem.Spec PyProof.Rows L2
/-! ### self.xs.append(e) where e makes or calls: the field is locked meanwhile -/
def eMutL (kd : C → Bool) (g : C → List D → Option (Res × C)) (cs : List Str) (i : Nat) (f : Str) (fs : List EF) : EF := fun r =>
  (ownAt r (.fl cs i f)).bind fun c0 => if kd c0 = true then (obAt r i).bind fun n => (eArgs fs (lock (.fl n f) r)).bind fun p => (shares p.2 p.1).bind fun q => (ownAt (unlock (.fl n f) q.2) (.fl cs i f)).bind fun c =>
    (g c q.1).bind fun w => some (w.1, ownPut (unlock (.fl n f) q.2) w.2 (.fl cs i f)) else none
section
variable {X : Cx} {e : Expr} {es : List Expr} {fs : List EF} {T id : String} {name : Str} {kd : C → Bool} {g : C → List D → Option (Res × C)} {apos cpos npos : Pos} {qb : Bool}
theorem de_mutL (i : Nat) {cs : List Str} {x f : Str} {fpos : Pos} (dm : DMut X T name id kd g) (cl : ClF X cs f) (hN : X.N[i]? = some x) (hv : Vis X.env.scope x) (ha : DA X qb (e :: es) fs) (hd : (x == ("__debug__" : Str)) = false := by decide) (hcd : (x == ("__classdict__" : Str)) = false := by decide)
    (hb0 : attributeBase (.Name x npos) f X.env (eval (.Name x npos) X.env) = eval (.Name x npos) X.env := by rfl)
    (hbase : attributeBase (.Attribute (.Name x npos) f fpos) name X.env (eval (.Attribute (.Name x npos) f fpos) X.env) = eval (.Attribute (.Name x npos) f fpos) X.env := by rfl)
    (hfew : ((backTo cpos (starEach (e :: es) X.env)).all (fun x => !x.1) && (backToKw cpos (keywordEach [] X.env)).all (fun x => x.1.isSome)
      && decide ((e :: es).length + ([] : List Keyword).length + (if ([] : List Keyword).isEmpty then 0 else 1) < 30)) = true := by rfl)
    (hline : (apos.endLine == cpos.line) = true := by rfl) (hs : starEach (e :: es) X.env = (false, eval e X.env) :: starEach es X.env := by rfl) (hplain : (backTo cpos (starEach es X.env)).any (·.1) = false := by rfl) :
    DE X false (.Call (.Attribute (.Attribute (.Name x npos) f fpos) name apos) (e :: es) [] cpos) (eMutL kd g cs i f fs) := by
  obtain ⟨pa, sl, hty, o, mt, ty, op⟩ := dm.ex
  obtain ⟨t, a1, a2⟩ := ha.ex
  refine ⟨_, pe_bm pa sl hty mt (pe_fld (pe_var hN hv hd hcd) hb0) a1 hbase hfew hline hs hplain, fun B H0 F0 F H σ r z r' q j Q k => ?_⟩
  simp only [eMutL, Option.bind_eq_some_iff] at q
  obtain ⟨c0, q0, q⟩ := q
  split at q
  · rename_i hk
    simp only [Option.bind_eq_some_iff] at q
    obtain ⟨n, qn, ⟨zs, r1⟩, q1, ⟨ys, r2⟩, q2, c, q3, ⟨z1, c'⟩, q4, q5⟩ := q
    cases q5
    dsimp only at q1 q2 q3 q4 k
    obtain ⟨p, pi, n', C, dx, fes, ob, hpi, hob, t1, h1, l1, hst, hcs, hmg, ow⟩ := own_fl j q0
    rw [qn] at hob; cases hob
    obtain ⟨_, _, od, _⟩ := ow.facts j
    have hq : fldAt r.st n f = some (.ow c0) := by
      obtain ⟨_, _, _, _, _, w1, _, _, _, _, w2⟩ := ow
      rw [qn] at w1; cases w1; exact w2
    obtain ⟨k1, k2⟩ := cl.ok _ hcs C hmg
    refine ⟨_, hpi, pi, C, dx, fes, _, rfl, h1, k1, k2, l1, ty F H p c0 hk od, ?_⟩
    obtain ⟨p', o', FL, ep, ho, _, fi, lk⟩ := LkOk.field j t1 h1 l1 hq
    cases ep
    refine a2 _ _ _ _ _ _ _ _ _ q1 lk.j _ fun F1 H1 vs e1 j1 k1 => ?_
    obtain ⟨F2, e2, j2, d2⟩ := shares_ok q2 j1 k1
    have e12 : Ge qb FL H (lock (.fl n f) r) F2 H1 r2 := e1.qt e2
    obtain ⟨F3, u1, u2, u3, u4, u5, u6, _⟩ := lk.un F2 H1 σ r2 e12.f e12.kp j2
    obtain ⟨p2, pi2, n2, C2, dx2, fes2, ob2, hpi2, hob2, t2, h2, l2, hst2, hcs2, hmg2, ow2⟩ := own_fl u5 q3
    rw [hpi] at hpi2; cases hpi2
    -- the container is the same one
    have tp2 : F2.t pi = some (.ins n) := e12.f.i _ _ (fi.i _ _ t1)
    have tp3 := u2.i _ _ tp2
    rw [t2] at tp3; cases tp3
    have lkf : FL.t p = some (.lok n f) := by
      have hl : lock (.fl n f) r = r.putF n f (.lk c0) := by show (match fldAt r.st n f with | some (.ow c) => r.putF n f (.lk c) | _ => r) = _; rw [hq]
      have hn : n < r.st.length := j.so.ix _ _ t1
      have hfl : fldAt (lock (.fl n f) r).st n f = some (.lk c0) := by
        rw [hl]
        show fldAt (stPut r.st n f _) n f = _
        rw [fldAt_put hn, if_pos ⟨rfl, rfl⟩]
      obtain ⟨q', w1, w2, _⟩ := lk.j.so.field (fi.i _ _ t1) h1 l1 hfl
      cases w1
      exact w2
    have l2p : F2.t p = some (.lok n f) := (e12.f.l p n f).mp lkf
    obtain ⟨ob3, b1, C3, dx3, es3, b2, b3, b4, b5, _⟩ := j2.so.ob pi n tp2
    rw [h2] at b3; cases b3
    obtain ⟨c3, b6⟩ := j2.so.tl p n f l2p
    obtain ⟨q', w1, w2, _⟩ := j2.so.field tp2 h2 l2 b6
    cases w1
    have := j2.so.inj _ _ _ w2 l2p
    subst this
    obtain ⟨_, f2, od2, _⟩ := ow2.facts u5
    refine op F3 H1 p2 c c' vs ys z1 u5.fh u5.tagged f2 od2 (VpAll.up u2 _ _ d2) q4 Q fun F4 H4 v ch od3 hz => ?_
    obtain ⟨y, rfl, vy⟩ := hz
    exact k F4 H4 v ⟨u1.trans (ch.ge (r := r) (r' := r) fun _ _ _ h => h).f, fun i s l h => (u4 i s l (ownPut_lent i s l h)).1, fun z => by cases z⟩ (u5.chg ow2 ch od3) vy
  · cases q
@[simp] theorem ev_mutL (cs : List Str) (i : Nat) (f : Str) (fs : List EF) (r : Env) : eMutL kd g cs i f fs r = (ownAt r (.fl cs i f)).bind fun c0 => if kd c0 = true then (obAt r i).bind fun n => (eArgs fs (lock (.fl n f) r)).bind fun p => (shares p.2 p.1).bind fun q => (ownAt (unlock (.fl n f) q.2) (.fl cs i f)).bind fun c =>
    (g c q.1).bind fun w => some (w.1, ownPut (unlock (.fl n f) q.2) w.2 (.fl cs i f)) else none := rfl
end
end CM
end
section
set_option Elab.async false
set_option linter.all false
set_option maxRecDepth 100000
set_option autoImplicit false
namespace CM
open PySem PySem.Spec PyProof.Rows L2
/-! ### for a, b in zip(a list, a text) -/
/-- an iterator that has come to its end -/
theorem draws_end {prog : Program} {w : World} {A : Around} {it : Addr} {fp : List Addr} {n : Nat} {P : Nat → Value → Prop} {St : Nat → Heap → Prop} (D : Draws prog w A it fp n P St) (m : Nat)
    (done : ∀ (s : Shared) (Q : Value → Shared → Prop) (E : Value → Shared → Prop), St m s.heap →
      (∀ h' e, Heap.ExtBut it s.heap h' → (∃ o, h'.get? e = some o ∧ o.cls = .type "StopIteration") → E (.ref e) { s with heap := h' }) → wpAny (model prog w) A (Builtin.SmallTypes.nextOf (.ref it)) Q E s) :
    Draws prog w A it fp m P (fun j h => j = m ∧ St j h) where
  live := fun i h st => D.live i h st.2
  frame := fun i h h' st k => ⟨st.1, D.frame i h h' st.2 k⟩
  item := fun i s Q E hi st _ => absurd st.1 (Nat.ne_of_lt hi)
  done := fun s Q E st hE => done s Q E st.2 hE
def Itx (K : PySem.W.Frag) (a : Addr) (x : Str) : It :=
  ⟨fun i H => ∃ (xs : List V) (v : V), SqL K H a xs ∧ xs[i]? = some v ∧ i < x.cps.size,
    fun i H y H' => ∃ (T : Addr) (v : V) (c : Nat), y = .ref T ∧ H T = none ∧ H' = upd H T (.tup [v, .str ⟨#[c]⟩]) ∧ (∀ xs, SqL K H a xs → xs[i]? = some v) ∧ x.cps[i]? = some c,
    fun i H => ∃ xs : List V, SqL K H a xs ∧ (xs.length ≤ i ∨ x.cps.size ≤ i)⟩
section
variable {P : Program} {w : World} {K : PySem.W.Frag} {elts : List Expr} {kk : Nat} {tpos : Pos} {a n : Nat} {x : Str} {t : Tok}
theorem ne_add (n : Nat) {a b : Nat} (h : a ≠ b) : n + a ≠ n + b := by omega
theorem ne_add0 (n : Nat) {a : Nat} (h : a ≠ 0) : n + a ≠ n := by omega
theorem nm1 {x a : Nat} (h : x ≠ a) : x ∉ [a] := by simpa using h
theorem nm2 {x a b : Nat} (h : x ≠ a) (h' : x ≠ b) : x ∉ [a, b] := by simpa using ⟨h, h'⟩
theorem ne_big {n a k : Nat} (h : a < n) : n + k ≠ a := by omega
theorem zip_sep (ha : a < n) : ZipSep2 (n + 4) (n + 2) (n + 3) n (n + 1) [n, a] [n + 1] := by
  exact ⟨ne_add n (by decide), ne_add n (by decide), ne_add n (by decide), ne_add0 n (by decide), by simp, nm2 (ne_add0 n (by decide)) (ne_big ha), nm2 (ne_add0 n (by decide)) (ne_big ha), ne_add n (by decide), by simp, nm1 (ne_add n (by decide)), nm1 (ne_add n (by decide)), nm1 (Ne.symm (ne_add0 n (by decide))), nm2 (ne_add0 n (by decide)) (ne_big ha)⟩
theorem turn_zipX (ha : a < n) : Turn P w K (.Tuple elts kk tpos) (Itx K a x) [n + 4, n + 2, n + 3, n, n + 1] (n + 4)
    (fun i h => IsZip h (n + 4) (n + 2) (n + 3) .none ∧ IsTupOf2 h (n + 2) (.ref n) (.ref (n + 1)) ∧ (∃ x y, IsTupOf2 h (n + 3) x y) ∧ h.IsListIter n a i ∧ h.IsStrIter (n + 1) (strIterType x) x t i) where
  mem := by simp
  obj := fun i h st c hc => by
    obtain ⟨hz, hTI, ⟨x, y, hTO⟩, ⟨o1, e1, _, d1⟩, ⟨o2, e2, _, d2⟩⟩ := st
    have e' : c = n + 4 ∨ c = n + 2 ∨ c = n + 3 ∨ c = n ∨ c = n + 1 := by simpa using hc
    rcases e' with q | q | q | q | q
    · rw [q]; exact ⟨_, hz, fun v q => nomatch q⟩
    · rw [q]; exact ⟨_, hTI, fun v q => nomatch q⟩
    · rw [q]; exact ⟨_, hTO, fun v q => nomatch q⟩
    · rw [q]; exact ⟨o1, e1, fun v q => by rw [d1] at q; cases q⟩
    · rw [q]; exact ⟨o2, e2, fun v q => by rw [d2] at q; cases q⟩
  keep := fun i h h' st k => by
    obtain ⟨hz, hTI, ⟨x, y, hTO⟩, h1, ⟨o2, e2, r2⟩⟩ := st
    exact ⟨k (n + 4) (by simp) _ hz, k (n + 2) (by simp) _ hTI, ⟨x, y, k (n + 3) (by simp) _ hTO⟩, h1.at fun o q => k n (by simp) o q, ⟨o2, k (n + 1) (by simp) _ e2, r2⟩⟩
  item := by
    intro X hP hw hK hc i pins s σ H E I hf st hg
    subst hP hw hK
    obtain ⟨hz, hTI, ⟨x0, y0, hTO⟩, h1, h2⟩ := st
    obtain ⟨xs, v, hqx, hx, hi⟩ := hg
    obtain ⟨its, rv, p, _⟩ := I.list hqx
    obtain ⟨u, hu, ru⟩ := rv.get hx
    have hzl : n + 4 < s.heap.objs.size := Heap.lt_size hz
    have hil : i < its.toArray.size := by
      have := (List.getElem?_eq_some_iff.mp hu).1
      simpa using this
    have D1 := Draws.list (prog := X.prog) (w := X.w) (A := X.A.in1) (I.ok.hd hc) n a (show a ≠ n from Nat.ne_of_lt ha) its.toArray
    have D2 := Draws.text (prog := X.prog) (w := X.w) (A := X.A.in1) (I.ok.hd hc) (n + 1) x t
    refine wpAny_pyNext_zipD2_item (zip_sep ha) D1 D2 hz hTI hTO ⟨h1, p.isList⟩ h2 hil hi fun x1 x2 h' tk y1 y2 z' TO' st1 st2 hT hsz hk => ?_
    obtain ⟨c, tu, yc, rfl⟩ := y2
    have eu : x1 = u := by
      have y1 : its.toArray[i]? = some x1 := y1
      rw [show its.toArray[i]? = its[i]? by simp, hu] at y1
      exact (Option.some.inj y1).symm
    subst eu
    refine ⟨_, rfl, wpAny_letOwnedTupleGo_zip (s := { s with heap := h', toks := tk }) z' fun h'' z'' sb => ?_⟩
    have hT2 : h''.get? s.heap.objs.size = some { cls := .type "tuple", data := .seq #[x1, .str ⟨#[c]⟩ tu] } := (sb.2 _ (Nat.ne_of_gt hzl)).trans hT
    have new : ObjOk X.prog X.w (upd H s.heap.objs.size (.tup [v, .str ⟨#[c]⟩])) h'' s.heap.objs.size (.tup [v, .str ⟨#[c]⟩]) :=
      ⟨by show 2 ≤ sizeLine; decide, [x1, .str ⟨#[c]⟩ tu], .cons ru (.cons ⟨tu, rfl⟩ .nil), ⟨_, hT2, rfl, _, rfl⟩⟩
    have I1 : Inv X pins σ (upd H s.heap.objs.size (.tup [v, .str ⟨#[c]⟩])) { s with heap := h'', toks := tk } :=
      I.turnedNew (t' := tk) (ch := [n + 4, n + 2, n + 3, n, n + 1]) (fun c o hb q => (sb.2 c (fun q' => hb (by simp [q']))).trans (hk c o (fun q' => hb (by simp [q'])) (fun q' => hb (by simp [q'])) (fun q' => hb (by simp [q'])) (fun q' => hb (by simp [q'])) q)) hf (Nat.le_refl _) new
    have n2 := ne_add n (a := 2) (b := 4) (by decide)
    have n23 := ne_add n (a := 2) (b := 3) (by decide)
    have n20 := ne_add0 n (a := 2) (by decide)
    have n21 := ne_add n (a := 2) (b := 1) (by decide)
    refine ⟨.ref s.heap.objs.size, _, I1, rfl, ⟨_, v, c, rfl, I.hok.fresh (Nat.le_refl _), rfl, fun l hl => by rw [I.list_inj hl hqx]; exact hx, yc⟩, ⟨z'', ?_, ⟨x1, .str ⟨#[c]⟩ tu, ?_⟩, ?_, ?_⟩, fun c hcm => ?_⟩
    · exact (sb.2 _ n2).trans (hk _ _ n2 n23 n20 n21 hTI)
    · exact (sb.2 _ (ne_add n (a := 3) (b := 4) (by decide))).trans TO'
    · exact st1.1.at fun o q => (sb.2 _ (Ne.symm (ne_add0 n (a := 4) (by decide)))).trans q
    · obtain ⟨o2, e2, r2⟩ := st2
      exact ⟨o2, (sb.2 _ (ne_add n (a := 1) (b := 4) (by decide))).trans e2, r2⟩
    · have hlt : c < s.heap.objs.size := by
        have e' : c = n + 4 ∨ c = n + 2 ∨ c = n + 3 ∨ c = n ∨ c = n + 1 := by simpa using hcm
        have lz : ∀ k, k ≤ 4 → n + k < s.heap.objs.size := fun k hk => Nat.lt_of_le_of_lt (Nat.add_le_add_left hk n) hzl
        rcases e' with q | q | q | q | q <;> rw [q]
        · exact lz 4 (by decide)
        · exact lz 2 (by decide)
        · exact lz 3 (by decide)
        · exact lz 0 (by decide)
        · exact lz 1 (by decide)
      rw [upd_ne (Nat.ne_of_lt hlt)]
      exact (hf c hcm).1
  done := by
    intro X hP hw hK hc i pins s σ H E I hf st hg
    subst hP hw hK
    obtain ⟨hz, hTI, ⟨x0, y0, hTO⟩, h1, h2⟩ := st
    obtain ⟨xs, hqx, hend⟩ := hg
    obtain ⟨its, rv, p, _⟩ := I.list hqx
    have l1 := rv.length
    have hh := I.ok.hd hc
    have D1 := Draws.list (prog := X.prog) (w := X.w) (A := X.A.in1) hh n a (show a ≠ n from Nat.ne_of_lt ha) its.toArray
    have D2 := Draws.text (prog := X.prog) (w := X.w) (A := X.A.in1) hh (n + 1) x t
    have fin : ∀ h' tk, (∀ c o, c ≠ n + 4 → c ≠ n + 3 → c ≠ n → c ≠ n + 1 → s.heap.get? c = some o → h'.get? c = some o) → (none : Option Value) = none ∧ Inv X pins σ H { s with heap := h', toks := tk } := fun h' tk hk =>
      ⟨rfl, I.turnedL (t' := tk) (ch := [n + 4, n + 2, n + 3, n, n + 1]) (fun c o hb q => hk c o (fun q' => hb (by simp [q'])) (fun q' => hb (by simp [q'])) (fun q' => hb (by simp [q'])) (fun q' => hb (by simp [q'])) q) hf⟩
    have D2e : x.cps.size ≤ i → Draws X.prog X.w X.A.in1 (n + 1) [n + 1] i (fun i v => ∃ c u, x.cps[i]? = some c ∧ v = .str ⟨#[c]⟩ u) (fun j h => j = i ∧ h.IsStrIter (n + 1) (strIterType x) x t j) := fun hle =>
      draws_end D2 i fun s Q E st hE => by
        have hn : x.cps[i]? = none := by simp [hle]
        cases ha : x.cps.all (· < 128)
        · have e : strIterType x = "str_iterator" := by simp only [strIterType, ha, Bool.false_eq_true, if_false]
          rw [e] at st
          exact wpAny_nextOf_wide_end hh st hn hE
        · have e : strIterType x = "str_ascii_iterator" := by simp only [strIterType, ha, if_true]
          rw [e] at st
          exact wpAny_nextOf_ascii_end hh st hn hE
    by_cases hl : its.toArray.size ≤ i
    · have D1e := draws_end D1 i fun s Q E st hE => wpAny_nextOf_list_end hh st.1 st.2 (by simpa using hl) hE
      by_cases hx : x.cps.size ≤ i
      · exact wpAny_pyNext_zipD2_end (zip_sep ha) D1e (D2e hx) hz hTI hTO ⟨rfl, h1, p.isList⟩ ⟨rfl, h2⟩ (Nat.le_refl _) (Nat.le_refl _) (.inl rfl) fin
      · exact wpAny_pyNext_zipD2_end (zip_sep ha) D1e D2 hz hTI hTO ⟨rfl, h1, p.isList⟩ h2 (Nat.le_refl _) (by omega) (.inl rfl) fin
    · have hx : x.cps.size ≤ i := by
        rcases hend with q | q
        · exfalso; simp at hl; omega
        · exact q
      exact wpAny_pyNext_zipD2_end (zip_sep ha) D1 (D2e hx) hz hTI hTO ⟨h1, p.isList⟩ ⟨rfl, h2⟩ (by omega) (Nat.le_refl _) (.inr rfl) fin
  self := fun A i s Q E st h => wpAny_pyIter_zip st.1 h
end
def iZipS (K : PySem.W.Frag) (ta : TA) : TI := fun σ H R => ta σ H fun vs H1 => ∃ (a : Addr) (x : Str) (xs : List V), vs = [.ref a, .str x] ∧ SqL K H1 a xs ∧ R (Itx K a x) H1
theorem pi_zipS {X : Cx} {e e2 : Expr} {ta : TA} {p pos tpos : Pos} {elts : List Expr} {kk : Nat} (hg : Gl X "zip") (hm : X.mg "zip" = none) (ha : PA X [e, e2] ta)
    (hs : starEach [e, e2] X.env = (false, eval e X.env) :: starEach [e2] X.env := by rfl) (hpl : (backTo pos (starEach [e2] X.env)).any (·.1) = false := by rfl) :
    PI X (.Tuple elts kk tpos) (.Call (.Name "zip" p) [e, e2] [] pos) (iZipS X.K ta) := by
  refine ⟨fun pins s σ H R I h => ?_⟩
  refine Call_ (ld_blt I hg hm PyProof.Rows.boot_zip (PyProof.Rows.callWith_type1 (thn (ha.run pos pins s σ H _ I h) fun us s1 ⟨vs, H1, I1, r1, q1⟩ => ?_) hs hpl))
  obtain ⟨a, x, xs, ex, hqx, q⟩ := q1
  subst ex
  obtain ⟨u1, u2, rfl, r, r'⟩ := vals2 r1
  cases (show u1 = Value.ref a from r)
  obtain ⟨t, rfl⟩ := (show ∃ t, u2 = Value.str x t from r')
  obtain ⟨its, rv, p1, _⟩ := I1.list hqx
  have la : a < s1.heap.objs.size := p1.lt
  refine zip_begins2 (begins_list a its.toArray) (begins_text x t) p1.isList trivial fun h' hz hTI hTO h1 h2 hsz hk => wpAny_pyIter_zip hz ?_
  have I2 : Inv X pins σ H1 { s1 with heap := h' } := I1.kept (t' := s1.toks) hk
  refine ⟨s1.heap.objs.size + 4, [s1.heap.objs.size + 4, s1.heap.objs.size + 2, s1.heap.objs.size + 3, s1.heap.objs.size, s1.heap.objs.size + 1], _, _, H1, rfl, I2, turn_zipX (x := x) (t := t) la, ⟨hz, hTI, ⟨_, _, hTO⟩, ⟨_, h1, rfl, rfl⟩, ⟨_, h2, rfl, rfl⟩⟩, fun c hcm => ?_, q⟩
  have e' : c = s1.heap.objs.size + 4 ∨ c = s1.heap.objs.size + 2 ∨ c = s1.heap.objs.size + 3 ∨ c = s1.heap.objs.size ∨ c = s1.heap.objs.size + 1 := by simpa using hcm
  have hle : s1.heap.objs.size ≤ c := by
    rcases e' with z | z | z | z | z <;> rw [z] <;> omega
  exact I1.fpOk hle (I1.hok.fresh hle)
/-! its meaning -/
def lstE : C → Option (List D)
  | .d (.list ds) => some ds
  | _ => none
def txtC : C → Option Str
  | .d (.str x) => some x
  | _ => none
def zipX (ds : List D) (x : Str) : List D := (ds.zip (x.cps.toList)).map fun p => .tuple [p.1, .str ⟨#[p.2]⟩]
def zipK (r : Env) : List Res → Option (List D × Lk × Env)
  | [z1, z2] => (lendOf r z1).bind fun q => (lstE q.1).bind fun ds => (look r z2).bind fun u => (txtC u).bind fun x => some (zipX ds x, q.2, r)
  | _ => none
def iZipX (as : List EF) : IF := fun r => (eArgs as r).bind fun p => zipK p.2 p.1
theorem itOk_zip {K : KC} {G : Hp} {a : Addr} {F : Fz} {ds : List D} (h : ItOk K (Itl K.K a) G F ds) (hs : ∀ F1 H1, FEx F F1 → Ex F1.f H1 → Ex G H1 → ∃ xs, SqL K.K H1 a xs) (x : Str) : ItOk K (Itx K.K a x) G F (zipX ds x) := fun i F1 H1 e1 e2 e3 => by
  obtain ⟨g1, g2⟩ := h i F1 H1 e1 e2 e3
  have hl : (zipX ds x).length = min ds.length x.cps.size := by simp [zipX, List.length_zip]
  refine ⟨fun hi => ?_, fun hi => ?_⟩
  · rw [hl] at hi
    obtain ⟨⟨xs, v, q1, q2⟩, y⟩ := g1 (by omega)
    refine ⟨⟨xs, v, q1, q2, by omega⟩, fun z H2 ⟨T, v', c, p1, p2, p3, p4, p5⟩ => ?_⟩
    subst p1; subst p3
    obtain ⟨F2, gr, d, hd, dv⟩ := y v' H1 ⟨rfl, p4⟩
    have gr2 : Grow F2 H1 (F2.put T (.tup [v', .str ⟨#[c]⟩])) (upd H1 T (.tup [v', .str ⟨#[c]⟩])) := .put gr.fh p2
    refine ⟨_, gr.trans gr2, .tuple [d, .str ⟨#[c]⟩], ?_, .tup (.flat (by simp [tuT, isTupD]) upd_same) (.cons (Vp.up gr2.fe _ _ dv) (.cons (.str _) .nil))⟩
    unfold zipX
    rw [List.getElem?_map]
    have hc : x.cps.toList[i]? = some c := by rw [Array.getElem?_toList]; exact p5
    rw [show (ds.zip x.cps.toList)[i]? = some (d, c) from List.getElem?_zip_eq_some.mpr ⟨hd, hc⟩]
    rfl
  · rw [hl] at hi
    by_cases hd : ds.length ≤ i
    · obtain ⟨xs, q1, q2⟩ := g2 hd
      exact ⟨xs, q1, .inl q2⟩
    · obtain ⟨xs, q⟩ := hs F1 H1 e1 e2 e3
      exact ⟨xs, q, .inr (by omega)⟩
section
variable {X : Cx} {e1 e2 : Expr} {fs : List EF} {q1 : Bool} {elts : List Expr} {kk : Nat} {tpos p pos : Pos}
theorem di_zipS (hg : Gl X "zip") (hm : X.mg "zip" = none) (ha : DA X q1 [e1, e2] fs)
    (hs : starEach [e1, e2] X.env = (false, eval e1 X.env) :: starEach [e2] X.env := by rfl) (hpl : (backTo pos (starEach [e2] X.env)).any (·.1) = false := by rfl) :
    DI X (.Tuple elts kk tpos) (.Call (.Name "zip" p) [e1, e2] [] pos) (iZipX fs) := by
  obtain ⟨t, a1, a2⟩ := ha.ex
  refine ⟨_, pi_zipS hg hm a1 hs hpl, fun B H0 F0 F H σ r ds l r' q j R k => ?_⟩
  simp only [iZipX, Option.bind_eq_some_iff] at q
  obtain ⟨⟨zs, r1⟩, q1, q2⟩ := q
  dsimp only at q2
  unfold zipK at q2
  split at q2
  · rename_i z1 z2
    simp only [Option.bind_eq_some_iff] at q2
    obtain ⟨⟨c, l1⟩, q3, ds1, q4, u, q5, x, q6, q7⟩ := q2
    cases q7
    have hc : c = .d (.list ds1) := by
      have q4 : lstE c = some ds1 := q4
      unfold lstE at q4
      split at q4
      · cases q4; rfl
      · cases q4
    subst hc
    have hu : u = .d (.str x) := by
      unfold txtC at q6
      split at q6
      · cases q6; rfl
      · cases q6
    subst hu
    refine a2 _ _ _ _ _ _ _ _ _ q1 j _ fun F1 H1 vs e1 j1 k1 => ?_
    cases k1 with
    | @cons v1 _ vs1 _ ka kr =>
      cases kr with
      | @cons v2 _ vs2 _ kb kr2 =>
        cases kr2
        have lk2 := kb.2.look j1 q5
        have lk2 : Vp X.kc F1 v2 (.str x) := lk2
        cases lk2
        obtain ⟨F2, B', H0', FL, g, lk, s⟩ := lend_ok q3 (ds := ds1) rfl j1 ka.2
        rcases s with ⟨_, p, ys, rfl, s1, s2⟩ | ⟨⟨ys, z⟩, _⟩
        · refine ⟨p, x, ys, rfl, s1, k F2 H1 B' H0' FL _ (e1.qt g).weak lk (itOk_zip s2 (fun F3 H3 u1 u2 u3 => ?_) x)⟩
          by_cases hz : 0 < ds1.length
          · obtain ⟨xs, _, w, _⟩ := (s2 0 F3 H3 u1 u2 u3).1 hz |>.1
            exact ⟨xs, w⟩
          · obtain ⟨xs, w, _⟩ := (s2 0 F3 H3 u1 u2 u3).2 (by omega)
            exact ⟨xs, w⟩
        · cases z
  · cases q2
@[simp] theorem ev_zipX (as : List EF) (r : Env) : iZipX as r = (eArgs as r).bind fun p => zipK p.2 p.1 := rfl
@[simp] theorem zipK_2 (r : Env) (z1 z2 : Res) : zipK r [z1, z2] = (lendOf r z1).bind fun q => (lstE q.1).bind fun ds => (look r z2).bind fun u => (txtC u).bind fun x => some (zipX ds x, q.2, r) := rfl
@[simp] theorem lstE_l (ds : List D) : lstE (.d (.list ds)) = some ds := rfl
@[simp] theorem txtC_s (x : Str) : txtC (.d (.str x)) = some x := rfl
end
end CM
end
section
set_option Elab.async false
set_option linter.all false
set_option maxRecDepth 100000
set_option autoImplicit false
namespace CM
open PySem PySem.Spec PyProof.Rows L2
/-! ### xs.insert(i, x) -/
def insD (xs : List D) (i : Nat) (y : D) : List D := xs.take i ++ [y] ++ xs.drop i
def gIns : C → List D → Option (Res × C)
  | .d (.list xs), [.int i, y] => if xs.length < 16777216 ∧ 0 ≤ i ∧ i < 9223372036854775808 then some (.sh .none, .d (.list (insD xs i.toNat y))) else none
  | _, _ => none
section
variable {X : Cx}
theorem dm_insert : DMut X "list" "insert" "list.insert" isLst gIns := ⟨PySem.F.plainAttrs_list, PySem.F.slot_list_insert, PySem.F.type_list_insert, _, mt_insert, lst_ty, fun F H p c c' xs ds z e et f od dd q Q k => by
  unfold gIns at q
  split at q
  · rename_i ys i y
    split at q
    · rename_i hl
      cases q
      obtain ⟨vs, hx, da⟩ := od
      cases dd with
      | cons d1 d2 =>
        cases d2 with
        | cons d2 d3 =>
          cases d3
          cases d1
          refine ⟨p, vs, i, _, rfl, rfl, hx, by rw [VpAll.length da, sizeLine_eq]; exact hl.1, hl.2.1, hl.2.2, ?_⟩
          exact k F _ _ (.at e f) ⟨_, upd_same, VpAll.app (VpAll.app (VpAll.take _ da) (.cons d2 .nil)) (VpAll.drop _ da)⟩ ⟨_, rfl, .non⟩
    · cases q
  · cases q⟩
@[simp] theorem gIns_l (xs : List D) (i : Int) (y : D) : gIns (.d (.list xs)) [.int i, y] = if xs.length < 16777216 ∧ 0 ≤ i ∧ i < 9223372036854775808 then some (.sh .none, .d (.list (insD xs i.toNat y))) else none := rfl
end
end CM
end
section
set_option Elab.async false
set_option linter.all false
set_option maxRecDepth 100000
set_option autoImplicit false
namespace CM
open PySem PySem.Spec PyProof.Rows L2
/-! ### a statement of which nothing is claimed (it is never come to) -/
def sFail : SF := fun _ => none
theorem ds_fail {X : Cx} {st : Stmt} : DS X st sFail := ⟨fun _ _ _ => False, ⟨fun _ _ _ _ _ _ h => h.elim⟩, fun _ _ _ _ _ _ _ _ _ q => by cases q⟩
@[simp] theorem ev_fail (r : Env) : sFail r = none := rfl
end CM
end
section
set_option Elab.async false
set_option linter.all false
set_option maxRecDepth 100000
set_option autoImplicit false
namespace CM
open PySem PySem.Spec PyProof.Rows L2
/-! ### a class without __init__; isinstance of an own class; a weak name -/
structure Mk00 (K : PySem.W.Frag) (C : Addr) : Prop where
  makes : PySem.W.makesIn K C = true
  init : PySem.W.findIn K (.ref C) "__init__" = some (some (.builtin "object.__init__"))
  top : PySem.W.mroIn K C (.type "object") = some true
  kp : PySem.W.keepIn K (.ref C) = true
section
variable {X : Cx} {C : Addr} {x : Str} {p pos : Pos}
theorem run_make00 {pins : List (Addr × Obj)} {σ : L2.St} {H : Hp} {s : Shared} {Q : VK} (M : Mk00 X.K C) (I : Inv X pins σ H s)
    (h : ∀ x dx, H x = none → H dx = none → dx ≠ x → Q (.ref x) (upd (upd H dx (.own x)) x (.ins C dx []))) :
    wpAny (model X.prog X.w) X.A (call (.ref C) []) (EP X pins σ Q) X.xe s := by
  have hq := h (s.heap.objs.size + 1) s.heap.objs.size (I.hok.fresh (Nat.le_succ _)) (I.hok.fresh (Nat.le_refl _)) (Nat.ne_of_lt (Nat.lt_succ_self _))
  have I2 := Inv.made (C := C) I
  refine wpAny_call (make_map0 I.kIn M.makes M.init (fun self => PySem.W.Looks.of_pure (PySem.W.oi_bind _)) ?_)
  have ho : ((s.heap.push PySem.W.emptyDict).push (PySem.W.instObj C s.heap.objs.size)).get? (s.heap.objs.size + 1) = some (PySem.W.instObj C s.heap.objs.size) := by
    have := Heap.get?_push_size (s.heap.push PySem.W.emptyDict) (o := PySem.W.instObj C s.heap.objs.size) rfl
    rw [Heap.size_push] at this
    exact this
  have t1 := NwA.type_at (M := model X.prog X.w) (C := C) ho rfl
  have t2 : PySem.W.Looks (model X.prog X.w) ((s.heap.push PySem.W.emptyDict).push (PySem.W.instObj C s.heap.objs.size)) (isInstance (.ref (s.heap.objs.size + 1)) (.type "object")) true := t1.andThen (PySem.W.looks_mroIn I2.kIn M.top)
  refine codeAny_call_builtin PySem.W.oi_plain PySem.W.entry_oi (@PySem.W.check_slot (model X.prog X.w) _ _ _ "object.__init__" "object" "__init__" (.ref (s.heap.objs.size + 1)) [] [] _ PySem.W.oi_kind PySem.W.oi_split t2 (NwA.oi_args_any (.ref _) [] []) ?_)
  rw [PySem.W.oi_run]
  exact wpAny_pure (And.intro rfl ⟨V.ref (s.heap.objs.size + 1), _, I2, rfl, hq⟩)
def tMake00 (C : Addr) : TE := fun σ H Q => ∀ x dx, H x = none → H dx = none → dx ≠ x → Q (.ref x) (upd (upd H dx (.own x)) x (.ins C dx []))
theorem pe_make00 (M : Mk00 X.K C) (hg : Gl X x) (hm : X.mg x = some (.ref C)) (hdb : (x == ("__debug__" : Str)) = false := by decide) : PE X (.Call (.Name x p) [] [] pos) (tMake00 C) := by
  refine ⟨fun pins s σ H Q I h => ?_⟩
  refine wpAny_Call_Name_kw (ld_glob I hg hm ?_ hdb)
  exact PySem.W.callWith_K0 I.kIn M.kp (run_make00 M I h)
end
def eNewO (cls : Str) : EF := fun r => some (.sh (obD r.st.length), ⟨r.sl, r.st ++ [⟨cls, []⟩]⟩)
theorem de_new00 {X : Cx} {C : Addr} {cls : Str} {p pos : Pos} (M : Mk00 X.K C) (hg : Gl X cls) (hm : X.mg cls = some (.ref C)) (hdb : (cls == ("__debug__" : Str)) = false := by decide) : DE X false (.Call (.Name cls p) [] [] pos) (eNewO cls) :=
  ⟨_, pe_make00 M hg hm hdb, fun B H0 F0 F H σ r z r' q j Q k => by
    cases q
    intro x dx hx hdx ne
    obtain ⟨fe, j3⟩ := j.made (cls := cls) hx hdx ne hm
    refine k _ _ (.ref x) ⟨fe, fun _ _ _ h => h, fun z => by cases z⟩ j3 ?_
    show Vp X.kc _ (.ref x) (.dict [(.int (r.st.length : Int), .none)])
    exact .ob made_x⟩
/-! a name that stands for another's container for a while: nothing is claimed of it -/
def sSetW (i j : Nat) : SF := fun r => match r.sl[j]? with
  | some (.sh x) => some (.nx, r.put i (.sh x))
  | some (.ow _) => some (.nx, r.put i .no)
  | _ => none
theorem ds_setW {X : Cx} {i k : Nat} {x y : Str} {pos pos' pos2 : Pos} (hN : X.N.Nodup) (hi : X.N[i]? = some x) (hx : Loc X.env.scope x) (hk : X.N[k]? = some y) (hv : Vis X.env.scope y) (hd : (y == ("__debug__" : Str)) = false := by decide) (hcd : (y == ("__classdict__" : Str)) = false := by decide)
    (hs : swapsWith (.Name y pos2) (some (.Name x pos')) pos.line X.env = pure false := by rfl)
    (hf : X.fn x = true ∨ X.env.scope.names.lookup x = some .local := by first | exact .inl rfl | exact .inr rfl | assumption) : DS X (.Assign [.Name x pos'] (.Name y pos2) pos) (sSetW i k) :=
  ⟨_, ps_set hN hi hx (pe_var hk hv hd hcd) hs hf, fun B H0 F0 F H σ r fl r' q j D a => by
    unfold sSetW at q
    split at q
    · rename_i z e
      cases q
      obtain ⟨v, a1, b1⟩ := j.sl k _ e
      exact ⟨v, a1, a F H _ (.refl _) (.set id) (j.setSh i b1)⟩
    · rename_i z e
      cases q
      obtain ⟨p, a1, _⟩ := j.sl k _ e
      exact ⟨.ref p, a1, a F H _ (.refl _) (.set id) (j.set i trivial fun c w => by cases w)⟩
    · cases q⟩
@[simp] theorem ev_new00 (cls : Str) (r : Env) : eNewO cls r = some (.sh (obD r.st.length), ⟨r.sl, r.st ++ [⟨cls, []⟩]⟩) := rfl
end CM
end
section
set_option Elab.async false
set_option linter.all false
set_option maxRecDepth 100000
set_option autoImplicit false
namespace CM
open PySem PySem.Spec PyProof.Rows L2
/-! ### isinstance(x, C), C a class of the text, x an object of one that stands under it -/
structure IsC (K : PySem.W.Frag) (C D : Addr) : Prop where
  cl : Cls K C
  ha : PySem.W.findIn K (.ref C) "__class__" = some (some (.builtin "object.__class__"))
  hn : PySem.W.specialIn K (.builtin "object.__class__") "__get__" = some (some (.builtin "getset_descriptor.__get__"))
  htk : PySem.W.takesIn K (.builtin "object.__class__") = some true
  hm : PySem.W.mroIn K C (.type "object") = some true
  me : PySem.W.kitOne K (.ref C) (.ref D) = some true
structure IsCs (K : PySem.W.Frag) (mg : Str → Option Value) (cs : List Str) (T : Str) : Prop where
  ex : ∃ D, mg T = some (.ref D) ∧ ∀ c ∈ cs, ∀ C, mg c = some (.ref C) → IsC K C D
theorem IsCs.nil {K : PySem.W.Frag} {mg : Str → Option Value} {T : Str} {D : Addr} (h : mg T = some (.ref D)) : IsCs K mg [] T := ⟨D, h, fun c hc => by cases hc⟩
theorem IsCs.cons {K : PySem.W.Frag} {mg : Str → Option Value} {c T : Str} {cs : List Str} {C D : Addr} (hT : mg T = some (.ref D)) (hc : mg c = some (.ref C)) (i : IsC K C D) (r : IsCs K mg cs T) : IsCs K mg (c :: cs) T := by
  obtain ⟨D', h, k⟩ := r.ex
  rw [hT] at h; cases h
  refine ⟨D, hT, fun c' hc' C' hC' => ?_⟩
  rcases List.mem_cons.mp hc' with rfl | hc'
  · rw [hc] at hC'; cases hC'; exact i
  · exact k c' hc' C' hC'
def eIsO (cs : List Str) (a : EF) : EF := fun r => (a r).bind fun p => (look p.2 p.1).bind fun c => (obOf c).bind fun n => (p.2.st[n]?).bind fun o => if cs.contains o.cls = true then some (.sh (.bool true), p.2) else none
theorem de_isO {X : Cx} {e : Expr} {fa : EF} {T : Str} {cs : List Str} {qb : Bool} {p p2 pos : Pos} (he : DE X qb e fa) (k : IsCs X.K X.mg cs T) (hg : Gl X "isinstance") (hm : X.mg "isinstance" = none) (hg2 : Gl X T)
    (hd2 : (T == ("__debug__" : Str)) = false := by decide) (h1 : starEach [e, .Name T p2] X.env = (false, eval e X.env) :: starEach [.Name T p2] X.env := by rfl) (h2 : starEach [.Name T p2] X.env = (false, eval (.Name T p2) X.env) :: starEach [] X.env := by rfl)
    (hpl : (backTo pos (starEach [.Name T p2] X.env)).any (·.1) = false := by rfl) : DE X qb (.Call (.Name "isinstance" p) [e, .Name T p2] [] pos) (eIsO cs fa) := by
  obtain ⟨t, a1, a2⟩ := he.ex
  obtain ⟨D, hD, kk⟩ := k.ex
  refine ⟨_, pe_callB (call_isi (X := X)) hg hm boot_isinstance (pa_cons a1 (pa_cons (pe_glob hg2 hD (v := .ref D) rfl hd2) pa_nil h2) h1) (by decide) (by decide) h1 hpl, fun B H0 F0 F H σ r z r' q j Q k => ?_⟩
  simp only [eIsO, Option.bind_eq_some_iff] at q
  obtain ⟨⟨za, r1⟩, q1, c, q2, n, q3, o, q4, q5⟩ := q
  split at q5
  · rename_i hcs
    cases q5
    dsimp only at q2 q4 k hcs
    refine a2 _ _ _ _ _ _ _ _ _ q1 j _ fun F1 H1 x e1 j1 k1 => ?_
    obtain ⟨pi, rfl, tp⟩ := obOf_ok (k1.look j1 q2) q3
    obtain ⟨o', b1, C, dx, es, b2, b3, _⟩ := j1.so.ob pi n tp
    rw [q4] at b1; cases b1
    have i := kk _ (List.contains_iff_mem.mp hcs) C b2
    exact ⟨.ref pi, .ref D, .ref C, .ref D, true, rfl, .own D, .base (.ins b3 i.cl i.ha i.hn i.htk i.hm), i.me, k F1 H1 _ e1 j1 (.bl true)⟩
  · cases q5
@[simp] theorem ev_isO (cs : List Str) (a : EF) (r : Env) : eIsO cs a r = (a r).bind fun p => (look p.2 p.1).bind fun c => (obOf c).bind fun n => (p.2.st[n]?).bind fun o => if cs.contains o.cls = true then some (.sh (.bool true), p.2) else none := rfl
end CM
/-! ### a head with one more Bool -/
namespace He
open PySem PySem.Spec PyProof.Rows L2
def isCB (K : PySem.W.Frag) (x y : Str) : Bool := eqO (PySem.W.findIn K (.ref (ga K x)) "__class__") (some (some (.builtin "object.__class__"))) && (eqO (PySem.W.specialIn K (.builtin "object.__class__") "__get__") (some (some (.builtin "getset_descriptor.__get__"))) &&
  (decide (PySem.W.takesIn K (.builtin "object.__class__") = some true) && (decide (PySem.W.mroIn K (ga K x) (.type "object") = some true) && decide (PySem.W.kitOne K (.ref (ga K x)) (.ref (ga K y)) = some true))))
theorem isCB_ok {K : PySem.W.Frag} {x y : Str} (h : isCB K x y = true) (cl : Cls K (ga K x)) : CM.IsC K (ga K x) (ga K y) := by
  obtain ⟨h1, h⟩ := ba h
  obtain ⟨h2, h⟩ := ba h
  obtain ⟨h3, h⟩ := ba h
  obtain ⟨h4, h5⟩ := ba h
  exact ⟨cl, eqO_ok h1, eqO_ok h2, of_decide_eq_true h3, of_decide_eq_true h4, of_decide_eq_true h5⟩
def mk00B (K : PySem.W.Frag) (x : Str) : Bool := PySem.W.makesIn K (ga K x) && (eqO (PySem.W.findIn K (.ref (ga K x)) "__init__") (some (some (.builtin "object.__init__"))) && (decide (PySem.W.mroIn K (ga K x) (.type "object") = some true) && PySem.W.keepIn K (.ref (ga K x))))
theorem mk00B_ok {K : PySem.W.Frag} {x : Str} (h : mk00B K x = true) : CM.Mk00 K (ga K x) := by
  obtain ⟨h1, h⟩ := ba h
  obtain ⟨h2, h⟩ := ba h
  obtain ⟨h3, h4⟩ := ba h
  exact ⟨h1, eqO_ok h2, of_decide_eq_true h3, h4⟩
abbrev AlO : Type := AlD × Bool
def obsOG (n : Nat) (fa : List Fa) (fn : List DefD) (ex : PySem.W.Frag → Bool) (g : Addr → Option Obj) : AlO := (obsD fa fn (frG g (asD g n)), ex (frG g (asD g n)))
def valO (fn : List DefD) : AlO := (valD fn, true)
def hookO (n : Nat) (fa : List Fa) (fn : List DefD) (ex : PySem.W.Frag → Bool) : PySem.W.Hook where
  α := AlO
  obs := fun s => obsOG n fa fn ex s.heap.get?
  val := fun _ => valO fn
  says := fun _ h => ∃ K : PySem.W.Frag, K.In h ∧ SaysD fa fn K ∧ ex K = true
  of := fun _ _ e => ⟨_, frG_in, congrArg (fun z : AlO => z.1) e, congrArg (fun z : AlO => z.2) e⟩
  keeps := fun _ _ _ ⟨K, hK, c⟩ k => ⟨K, PySem.W.Frag.In.keeps hK k, c⟩
theorem obsOG_eq {n : Nat} {fa : List Fa} {fn : List DefD} {ex : PySem.W.Frag → Bool} {g : Addr → Option Obj} {s : Shared} (h : ∀ a, g a = s.heap.get? a) : obsOG n fa fn ex g = (hookO n fa fn ex).obs s := by
  have e : g = s.heap.get? := funext h
  rw [e] <;> rfl
end He
end
section
set_option Elab.async false
set_option linter.all false
set_option maxRecDepth 100000
set_option autoImplicit false
namespace CM
open PySem PySem.Spec PyProof.Rows L2
/-- a class that is made without an __init__ of its own -/
structure MkO (K : PySem.W.Frag) (mg : Str → Option Value) (cls : Str) : Prop where
  ex : ∃ C, mg cls = some (.ref C) ∧ Mk00 K C
theorem de_newO {X : Cx} {cls : Str} {p pos : Pos} (M : MkO X.K X.mg cls) (hg : Gl X cls := by rfl) (hdb : (cls == ("__debug__" : Str)) = false := by decide) : DE X false (.Call (.Name cls p) [] [] pos) (eNewO cls) := by
  obtain ⟨C, hm, m⟩ := M.ex
  exact de_new00 m hg hm hdb
end CM
end
section
set_option Elab.async false
set_option linter.all false
set_option maxRecDepth 100000
set_option autoImplicit false
namespace CM
open PySem PySem.Spec PyProof.Rows L2 PySem.SeqAt
/-! ### boxes: containers that may be named from many places -/
def bxO (c : C) : Ob := ⟨bxS, [(bxS, .ow c)]⟩
def frC : Res → Option C
  | .fr c => some c
  | _ => none
theorem frC_is {z : Res} {c : C} (h : frC z = some c) : z = .fr c := by
  unfold frC at h
  split at h
  · cases h; rfl
  · cases h
/-- a new container, boxed -/
def eBox (a : EF) : EF := fun r => (a r).bind fun p => (frC p.1).bind fun c => some (.sh (bxD p.2.st.length), ⟨p.2.sl, p.2.st ++ [bxO c]⟩)
/-- what is in the box, where it is one -/
def eUb (a : EF) : EF := fun r => (a r).bind fun p => (look p.2 p.1).bind fun c => some ((bxOf c).elim p.1 fun n => .fl n bxS, p.2)
def fdO : Fd → Option C
  | .ow c => some c
  | _ => none
def bxAt (st : Store) (n : Nat) : Option C := (fldAt st n bxS).bind fdO
def eMutB (kd : C → Bool) (g : C → List D → Option (Res × C)) (a : EF) (fs : List EF) : EF := fun r => (a r).bind fun p => (look p.2 p.1).bind fun b => (bxOf b).bind fun n => (bxAt p.2.st n).bind fun c0 => if kd c0 = true then
  (eArgs fs p.2).bind fun q => (shares q.2 q.1).bind fun y => (bxAt y.2.st n).bind fun c => (g c y.1).bind fun z => some (z.1, y.2.putF n bxS (.ow z.2)) else none
def sPutBL (a k v : EF) : SF := fun r => (v r).bind fun p => (toSh p.2 p.1).bind fun y => (a y.2).bind fun o => (look o.2 o.1).bind fun b => (bxOf b).bind fun n => (k o.2).bind fun s => (look s.2 s.1).bind fun z => (bxAt s.2.st n).bind fun c => (lSetC c z y.1).bind fun c' => some (.nx, s.2.putF n bxS (.ow c'))
def sPutBD (a k v : EF) : SF := fun r => (v r).bind fun p => (toSh p.2 p.1).bind fun y => (a y.2).bind fun o => (look o.2 o.1).bind fun b => (bxOf b).bind fun n => (k o.2).bind fun s => (toSh s.2 s.1).bind fun z => (bxAt z.2.st n).bind fun c => (cPut c z.1 y.1).bind fun c' => some (.nx, z.2.putF n bxS (.ow c'))
theorem bxAt_is {st : Store} {n : Nat} {c : C} (h : bxAt st n = some c) : fldAt st n bxS = some (.ow c) := by
  unfold bxAt at h
  cases q : fldAt st n bxS with
  | none => rw [q] at h; cases h
  | some d =>
    rw [q] at h
    cases d with
    | d x => cases h
    | lk x => cases h
    | ow x => have h : some x = some c := h; cases h; rfl
theorem fldAt_app {st : Store} {o : Ob} {n : Nat} {f : Str} (h : n < st.length) : fldAt (st ++ [o]) n f = fldAt st n f := by
  unfold fldAt
  rw [List.getElem?_append_left h]
theorem fldAt_new {st : Store} {c : C} : fldAt (st ++ [bxO c]) st.length bxS = some (.ow c) := by
  unfold fldAt
  rw [List.getElem?_append_right (Nat.le_refl _), Nat.sub_self]
  rfl
section
variable {K : KC} {F F' F1 : Fz} {H H' H1 B H0 F0 : Hp} {σ : L2.St} {r r' : Env} {v : V} {c c' : C} {x : D} {p : Addr} {n : Nat}
theorem bxOf_ok (h : Bd K F H v c) (q : bxOf c = some n) : ∃ a, v = .ref a ∧ Bt F a n := by
  unfold bxOf at q
  split at q
  · rename_i m
    have h : Vp K F v (.dict [(.int m, .bool true)]) := h
    cases h with
    | bx t =>
      have q : some (Int.toNat (Int.ofNat _)) = some n := q
      cases q
      exact ⟨_, rfl, t⟩
  · cases q
theorem StOk.lt {st : Store} {H0 : Hp} (s : StOk K H0 F H st) {a : Addr} {u : Tg} {m : Nat} (h : F.t a = some u) (e : u.ix = m) : m < st.length := by rw [← e]; exact s.ix a u h
theorem J.boxed (j : J K B H0 F0 F H σ r) (h : ResOk K H0 F H σ r v (.fr c)) : ∃ F', FEx F F' ∧ J K B H0 F0 F' H σ ⟨r.sl, r.st ++ [bxO c]⟩ ∧ Vp K F' v (bxD r.st.length) := by
  obtain ⟨p, rfl, h0, hf, ht, od, hn⟩ := h
  have ne : ∀ {a u}, F.t a = some u → a ≠ p := fun {a u} e z => by rw [z, ht] at e; cases e
  have old : ∀ {a u}, F.t a = some u → (F.tag p (.fld r.st.length bxS)).t a = some u := fun {a u} e => by rw [Fz.tag_ne (ne e)]; exact e
  have back : ∀ {a u}, (F.tag p (.fld r.st.length bxS)).t a = some u → (a = p ∧ u = .fld r.st.length bxS) ∨ (a ≠ p ∧ F.t a = some u) := fun {a u} e => by
    by_cases y : a = p
    · subst y; rw [Fz.tag_at] at e; exact .inl ⟨rfl, (Option.some.inj e).symm⟩
    · rw [Fz.tag_ne y] at e; exact .inr ⟨y, e⟩
  have fe : FEx F (F.tag p (.fld r.st.length bxS)) := ⟨⟨.refl _, fun a m e => old e, fun a m e => e.imp old old⟩, fun a m f => ⟨old, fun e => by
    rcases back e with ⟨_, z⟩ | ⟨_, z⟩
    · cases z
    · exact z⟩⟩
  have stl : ∀ {m}, m < r.st.length → (r.st ++ [bxO c])[m]? = r.st[m]? := fun h => List.getElem?_append_left h
  refine ⟨_, fe, ⟨j.eb, j.e0, j.ef, j.fh, j.nw, ⟨fun q m e => ?_, fun a b u ha hb => ?_, fun a u ha => ?_, fun a u ha => ?_, fun a m g ha => ?_, fun a m g ha => ?_, fun a m g c' ha hc => ?_, fun a m g c' ha hc => ?_, fun a q m hb hq => ?_, fun a m ha => ?_⟩, j.len, fun i s w => ?_, j.dj⟩, .bx (.inl Fz.tag_at)⟩
  · rcases back e with ⟨_, z⟩ | ⟨_, z⟩
    · cases z
    · obtain ⟨o, a, C, dx, es, b1, b2, b3, b4, b5⟩ := j.so.ob q m z
      exact ⟨o, (stl (m := m) (j.so.lt z rfl)).trans a, C, dx, es, b1, b2, old b3, b4.up fe (fun _ _ e => ⟨old e, fun _ w => w⟩) (fun _ _ _ _ w => w), b5⟩
  · rcases back ha with ⟨rfl, z⟩ | ⟨y, z⟩
    · rcases back hb with ⟨rfl, _⟩ | ⟨_, w⟩
      · rfl
      · subst z; exact absurd (j.so.ix _ _ w) (Nat.lt_irrefl _)
    · rcases back hb with ⟨rfl, w⟩ | ⟨_, w⟩
      · subst w; exact absurd (j.so.ix _ _ z) (Nat.lt_irrefl _)
      · exact j.so.inj _ _ _ z w
  · rcases back ha with ⟨rfl, z⟩ | ⟨y, z⟩
    · exact ⟨hf, od.ne, .inl h0⟩
    · exact j.so.sep _ _ z
  · rw [List.length_append]
    rcases back ha with ⟨rfl, z⟩ | ⟨y, z⟩
    · subst z; exact Nat.lt_succ_self _
    · exact Nat.lt_succ_of_lt (j.so.ix _ _ z)
  · rcases back ha with ⟨rfl, z⟩ | ⟨y, z⟩
    · cases z; exact ⟨c, fldAt_new⟩
    · obtain ⟨c', w⟩ := j.so.tf _ _ _ z
      exact ⟨c', (fldAt_app (n := m) (j.so.lt z rfl)).trans w⟩
  · rcases back ha with ⟨rfl, z⟩ | ⟨y, z⟩
    · cases z
    · obtain ⟨c', w⟩ := j.so.tl _ _ _ z
      exact ⟨c', (fldAt_app (n := m) (j.so.lt z rfl)).trans w⟩
  · rcases back ha with ⟨rfl, z⟩ | ⟨y, z⟩
    · cases z
      have hc := fldAt_new.symm.trans hc
      cases hc
      exact od.up fe fun _ w => w
    · have hc := (fldAt_app (n := m) (j.so.lt z rfl)).symm.trans hc
      exact (j.so.od _ _ _ _ z hc).up fe fun _ w => w
  · rcases back ha with ⟨rfl, z⟩ | ⟨y, z⟩
    · cases z
    · have hc := (fldAt_app (n := m) (j.so.lt z rfl)).symm.trans hc
      exact (j.so.odr _ _ _ _ z hc).up fe fun _ w => w
  · rcases back hq with ⟨_, z⟩ | ⟨_, z⟩
    · cases z
    · have hm := j.so.ix _ _ z
      have g : ∀ {u}, (F.tag p (.fld r.st.length bxS)).t a = some u → u.ix = m → F.t a = some u := fun {u} e hu => by
        rcases back e with ⟨_, w⟩ | ⟨_, w⟩
        · subst w
          have hm : m < r.st.length := hm
          have hu : r.st.length = m := hu
          omega
        · exact w
      exact j.so.bi a q m (hb.imp (fun h => g h rfl) fun h => g h rfl) z
  · rcases back ha with ⟨_, z⟩ | ⟨_, z⟩
    · cases z
    · exact j.so.dn _ _ z
  · have b := j.sl i s w
    cases s with
    | no => trivial
    | sh d => obtain ⟨v, a, b⟩ := b; exact ⟨v, a, Vp.up fe _ _ b⟩
    | bo c => obtain ⟨v, a, b⟩ := b; exact ⟨v, a, b.up fe (.refl _)⟩
    | lk c => obtain ⟨v, a, b⟩ := b; exact ⟨v, a, b.up fe (.refl _)⟩
    | ow c1 =>
      obtain ⟨p2, a, b1, b2, b3, b4⟩ := b
      have n1 : p2 ≠ p := fun z => hn i c1 w (by rw [← z]; exact a)
      exact ⟨p2, a, b1, b2, by rw [Fz.tag_ne n1]; exact b3, b4.up fe fun o e => e⟩
/-- what is in a box stands alone -/
theorem J.inBox (j : J K B H0 F0 F H σ r) (bt : Bt F p n) (h : bxAt r.st n = some c) : F.t p = some (.fld n bxS) ∧ H0 p = none ∧ F.f p = none ∧ Od K F H p c := by
  have h := bxAt_is h
  have t : F.t p = some (.fld n bxS) := bt.elim id fun w => by
    obtain ⟨c', w'⟩ := j.so.tl _ _ _ w
    rw [h] at w'; cases w'
  obtain ⟨a, b, c⟩ := j.so.sep _ _ t
  exact ⟨t, c.elim id (fun ⟨_, _, z⟩ => by cases z), a, j.so.od _ _ _ _ t h⟩
theorem J.chgB (j : J K B H0 F0 F H σ r) (bt : Bt F p n) (h : bxAt r.st n = some c) (g : Chg p F H F' H') (od : Od K F' H' p c') : J K B H0 F0 F' H' σ (r.putF n bxS (.ow c')) := by
  obtain ⟨tp, h0, hf, od0⟩ := j.inBox bt h
  have hp := od0.ne
  have fe : FEx F F' := .of g.f g.t
  have e0' : Ex H0 H' := fun a u w => g.h a u (fun z => by subst z; rw [h0] at w; cases w) (j.e0 _ _ w)
  have nw' : ∀ a o, F'.f a = some o → F0 a = some o ∨ H0 a = none ∨ TupO o := fun a u w => by
    rcases g.nw a u w with z | z | z
    · exact j.nw a u z
    · exact .inr (.inl (j.e0.back z))
    · exact .inr (.inr z)
  have keepF : ∀ a, H a ≠ none → F.f a = none → (∀ u, TupO u → H' a ≠ some u) → F'.f a = none := fun a h1 h2 h3 => by
    cases w : F'.f a with
    | none => rfl
    | some u =>
      rcases g.nw a u w with z | z | z
      · rw [h2] at z; cases z
      · exact absurd z h1
      · exact absurd (g.fh _ _ w) (h3 u z)
  have tagT : ∀ a t, F.t a = some t → ∀ u, TupO u → H' a ≠ some u := fun a t e u i => by
    by_cases y : a = p
    · subst y; exact od.noT i
    · exact j.so.noT' e i fun u w => g.h a u y w
  have ne : ∀ {a : Addr} {u : Tg}, F.t a = some u → u ≠ .fld n bxS → a ≠ p := fun {a u} e z y => by subst y; rw [tp] at e; cases e; exact z rfl
  have nolok : ∀ a, F.t a ≠ some (.lok n bxS) := fun a z => by
    obtain ⟨c', w⟩ := j.so.tl a n bxS z
    rw [bxAt_is h] at w; cases w
  have so : StOk K H0 F' H' (stPut r.st n bxS (.ow c')) := by
    refine j.so.updB (fun a => j.so.bi p a n bt) (j.so.ix _ _ tp) fe (fun a u _ _ => by rw [g.t]) (fun a u e z1 z2 o w => g.h a o (ne e z1) w) (fun a u e hu => ?_) (fun a b u _ e e' => j.so.inj a b u (by rw [← g.t]; exact e) (by rw [← g.t]; exact e')) (fun a u e z1 z2 => ?_)
    · rw [g.t] at e
      rcases hu with z | z
      · subst z
        have := j.so.inj _ _ _ e tp
        subst this
        exact ⟨keepF a hp hf (fun u i => od.noT i), od.ne, .inl h0, fun _ => ⟨c', rfl, od⟩, fun z => by cases z⟩
      · subst z; exact absurd e (nolok a)
    · obtain ⟨a1, a2, _⟩ := j.so.sep a u e
      exact ⟨keepF a a2 a1 (tagT a u e), id⟩
  refine ⟨j.eb, e0', j.ef.trans g.f, g.fh, nw', so, j.len, fun k s w => ?_, j.dj⟩
  have b := j.sl k s w
  cases s with
  | no => trivial
  | sh d => obtain ⟨v, a, b⟩ := b; exact ⟨v, a, Vp.up fe _ _ b⟩
  | bo c => obtain ⟨v, a, b⟩ := b; exact ⟨v, a, b.up fe (.refl _)⟩
  | lk c => obtain ⟨v, a, b⟩ := b; exact ⟨v, a, b.up fe (.refl _)⟩
  | ow c1 =>
    obtain ⟨p2, a, b1, b2, b3, b4⟩ := b
    have z : p2 ≠ p := fun z => by rw [z, tp] at b3; cases b3
    exact ⟨p2, a, b1, keepF p2 b4.ne b2 (fun u i => (b4.up (F' := F') fe fun o w => g.h _ _ z w).noT i), by rw [g.t]; exact b3, b4.up fe fun o w => g.h _ _ z w⟩
end
section
variable {X : Cx} {e e1 e2 e0 : Expr} {es : List Expr} {fa fb fc f0 : EF} {fs : List EF} {qb q0 q1 : Bool} {pos apos cpos npos : Pos} {T id : String} {name : Str} {kd : C → Bool} {g : C → List D → Option (Res × C)}
theorem de_box (he : DE X qb e fa) : DE X false e (eBox fa) := by
  obtain ⟨t, a1, a2⟩ := he.ex
  refine ⟨t, a1, fun B H0 F0 F H σ r z r' q j Q k => ?_⟩
  simp only [eBox, Option.bind_eq_some_iff] at q
  obtain ⟨⟨z1, r1⟩, q1, c, q2, q3⟩ := q
  cases q3
  cases frC_is q2
  refine a2 _ _ _ _ _ _ _ _ _ q1 j _ fun F1 H1 v e1 j1 k1 => ?_
  obtain ⟨F2, e2, j2, d⟩ := j1.boxed k1
  exact k F2 H1 v ⟨e1.f.trans e2, e1.k, fun z => by cases z⟩ j2 d
theorem de_ub (he : DE X qb e fa) : DE X qb e (eUb fa) := by
  obtain ⟨t, a1, a2⟩ := he.ex
  refine ⟨t, a1, fun B H0 F0 F H σ r z r' q j Q k => ?_⟩
  simp only [eUb, Option.bind_eq_some_iff] at q
  obtain ⟨⟨z1, r1⟩, q1, c, q2, q3⟩ := q
  cases q3
  refine a2 _ _ _ _ _ _ _ _ _ q1 j _ fun F1 H1 v e1 j1 k1 => k F1 H1 v e1 j1 ?_
  cases w : bxOf c with
  | none => exact k1
  | some n =>
    obtain ⟨a, rfl, bt⟩ := bxOf_ok (k1.look j1 q2) w
    exact .inr ⟨a, rfl, rfl, bt⟩
theorem de_mutB (dm : DMut X T name id kd g) (h0 : DE X q0 e0 f0) (ha : DA X qb (e :: es) fs)
    (hbase : attributeBase e0 name X.env (eval e0 X.env) = eval e0 X.env := by rfl)
    (hfew : ((backTo cpos (starEach (e :: es) X.env)).all (fun x => !x.1) && (backToKw cpos (keywordEach [] X.env)).all (fun x => x.1.isSome)
      && decide ((e :: es).length + ([] : List Keyword).length + (if ([] : List Keyword).isEmpty then 0 else 1) < 30)) = true := by rfl)
    (hline : (apos.endLine == cpos.line) = true := by rfl) (hs : starEach (e :: es) X.env = (false, eval e X.env) :: starEach es X.env := by rfl) (hplain : (backTo cpos (starEach es X.env)).any (·.1) = false := by rfl) :
    DE X false (.Call (.Attribute e0 name apos) (e :: es) [] cpos) (eMutB kd g f0 fs) := by
  obtain ⟨pa, sl, hty, o, mt, ty, op⟩ := dm.ex
  obtain ⟨t, a1, a2⟩ := ha.ex
  obtain ⟨t0, b1, b2⟩ := h0.ex
  refine ⟨_, pe_bm pa sl hty mt b1 a1 hbase hfew hline hs hplain, fun B H0 F0 F H σ r z r' q j Q k => ?_⟩
  simp only [eMutB, Option.bind_eq_some_iff] at q
  obtain ⟨⟨z0, r0⟩, p0, b, p1, n, p2, c0, p3, q⟩ := q
  split at q
  · rename_i hk
    simp only [Option.bind_eq_some_iff] at q
    obtain ⟨⟨zs, r1⟩, q1, ⟨ys, r2⟩, q2, c, q3, ⟨z1, c'⟩, q4, q5⟩ := q
    cases q5
    refine b2 _ _ _ _ _ _ _ _ _ p0 j _ fun F1 H1 v e1 j1 k1 => ?_
    obtain ⟨a, rfl, bt⟩ := bxOf_ok (k1.look j1 p1) p2
    obtain ⟨_, _, _, od⟩ := j1.inBox bt p3
    refine ⟨ty F1 H1 a c0 hk od, ?_⟩
    refine a2 _ _ _ _ _ _ _ _ _ q1 j1 _ fun F2 H2 vs e2 j2 k2 => ?_
    obtain ⟨F3, e3, j3, d3⟩ := shares_ok q2 j2 k2
    have bt3 := e3.f.b _ _ (e2.f.b _ _ bt)
    obtain ⟨_, _, f3, od3⟩ := j3.inBox bt3 q3
    refine op F3 H2 a c c' vs ys z1 j3.fh j3.tagged f3 od3 d3 q4 Q fun F4 H4 v ch od4 hz => ?_
    obtain ⟨y, rfl, vy⟩ := hz
    exact k F4 H4 v (((e1.trans e2).trans e3).trans (ch.ge (r := r2) (r' := r2.putF n bxS (.ow c')) fun _ _ _ h => h)).weak (j3.chgB bt3 q3 ch od4) vy
  · cases q
theorem ds_putBL {pos' : Pos} (h0 : DE X q0 e0 f0) (hk : DE X q1 e1 fb) (he : DE X qb e fa)
    (ha : ∀ v, assign (.Subscript e0 e1 pos') X.env v = (do
      let ov ← holding [v] (eval e0 X.env)
      let iv ← holding [v, ov] (eval e1 X.env)
      standAt pos'
      holding [v, ov, iv] (setItem ov iv v)
      release [v, ov, iv] []) := by intro _; rfl)
    (hs : swapsWithSole [.Subscript e0 e1 pos'] e pos.line X.env = pure false := by rfl) (hw : swappedStores [.Subscript e0 e1 pos'] e X.env = pure none := by rfl)
    (h1 : (assignEach [.Subscript e0 e1 pos'] X.env).map (·.2) = [assign (.Subscript e0 e1 pos') X.env] := by rfl) : DS X (.Assign [.Subscript e0 e1 pos'] e pos) (sPutBL f0 fb fa) := by
  obtain ⟨t, a1, a2⟩ := he.ex
  obtain ⟨u, b1, b2⟩ := hk.ex
  obtain ⟨t0, c1, c2⟩ := h0.ex
  refine ⟨_, ps_asg a1 (pg_sub c1 b1 set_list ha) hs hw h1, fun B H0 F0 F H σ r fl r' q j D a => ?_⟩
  simp only [sPutBL, Option.bind_eq_some_iff] at q
  obtain ⟨⟨z1, r1⟩, q1, ⟨y, r2⟩, q2, ⟨zo, ro⟩, q3, b, q4, n, q5, ⟨z2, r3⟩, q6, kk, q7, c, q8, c', q9, q10⟩ := q
  cases q10
  refine a2 _ _ _ _ _ _ _ _ _ q1 j _ fun F1 H1 v g1 j1 k1 => ?_
  obtain ⟨F2, g2, j2, d2⟩ := toSh_ok q2 j1 k1
  refine c2 _ _ _ _ _ _ _ _ _ q3 j2 _ fun Fo Ho vo go jo ko => ?_
  obtain ⟨p, rfl, bt⟩ := bxOf_ok (ko.look jo q4) q5
  refine b2 _ _ _ _ _ _ _ _ _ q6 jo _ fun F3 H3 w g3 j3 k3 => ?_
  have d4 := k3.look j3 q7
  have bt3 := g3.f.b _ _ bt
  obtain ⟨_, _, f4, od4⟩ := j3.inBox bt3 q8
  unfold lSetC at q9
  split at q9
  · rename_i xs jj
    simp only [Option.bind_eq_some_iff] at q9
    obtain ⟨m, q7, q9⟩ := q9
    cases q9
    obtain ⟨vs, hx, dd⟩ := od4
    have h2 : Vp X.kc F3 w (.int jj) := d4
    cases h2
    have od : Od X.kc F3 (upd H3 p (.lst (vs.set m v))) p (.d (.list (xs.set m y))) := ⟨_, upd_same, VpAll.set (Vp.up (go.f.trans g3.f) _ _ d2) m dd⟩
    have ch : Chg p F3 H3 F3 (upd H3 p (.lst (vs.set m v))) := .at j3.fh f4
    refine ⟨p, vs, jj, m, rfl, rfl, hx, by rw [VpAll.length dd, ← plc_eq]; exact q7, ?_⟩
    have ge : Ge false F H r F3 (upd H3 p (.lst (vs.set m v))) (r3.putF n bxS (.ow (.d (.list (xs.set m y))))) := (((g1.trans g2).trans go).trans g3).trans (ch.ge (r := r3) (r' := r3.putF n bxS (.ow (.d (.list (xs.set m y))))) fun _ _ _ h => h) |>.weak
    exact a F3 _ σ ge.f ge.kp (j3.chgB bt3 q8 ch od)
  · cases q9
theorem ds_putBD {pos' : Pos} (hu : X.A.units + 64 < cLine) (h0 : DE X q0 e0 f0) (hk : DE X q1 e1 fb) (he : DE X qb e fa)
    (hs : swapsWith e (some (.Subscript e0 e1 pos')) pos.line X.env = pure false := by rfl) : DS X (.Assign [.Subscript e0 e1 pos'] e pos) (sPutBD f0 fb fa) := by
  obtain ⟨t, a1, a2⟩ := he.ex
  obtain ⟨u, b1, b2⟩ := hk.ex
  obtain ⟨t0, c1, c2⟩ := h0.ex
  refine ⟨_, ps_dput (by omega) c1 b1 a1 hs, fun B H0 F0 F H σ r fl r' q j D a => ?_⟩
  simp only [sPutBD, Option.bind_eq_some_iff] at q
  obtain ⟨⟨z1, r1⟩, q1, ⟨y, r2⟩, q2, ⟨zo, ro⟩, q3, b, q4, n, q5, ⟨z2, r3⟩, q6, ⟨kd, r4⟩, q7, c, q8, c', q9, q10⟩ := q
  cases q10
  refine a2 _ _ _ _ _ _ _ _ _ q1 j _ fun F1 H1 v g1 j1 k1 => ?_
  obtain ⟨F2, g2, j2, d2⟩ := toSh_ok q2 j1 k1
  refine c2 _ _ _ _ _ _ _ _ _ q3 j2 _ fun Fo Ho vo go jo ko => ?_
  obtain ⟨p, rfl, bt⟩ := bxOf_ok (ko.look jo q4) q5
  refine b2 _ _ _ _ _ _ _ _ _ q6 jo _ fun F3 H3 w g3 j3 k3 => ?_
  obtain ⟨F4, g4, j4, d4⟩ := toSh_ok q7 j3 k3
  have bt4 := g4.f.b _ _ (g3.f.b _ _ bt)
  obtain ⟨_, _, f4, od4⟩ := j4.inBox bt4 q8
  obtain ⟨o, dp, od⟩ := dput_ok od4 q9 d4 (Vp.up ((go.f.trans g3.f).trans g4.f) _ _ d2) j4.fh
  have ch : Chg p F4 H3 F4 (upd H3 p o) := .at j4.fh f4
  refine ⟨p, _, rfl, dp, ?_⟩
  have ge : Ge false F H r F4 (upd H3 p o) (r4.putF n bxS (.ow c')) := ((((g1.trans g2).trans go).trans g3).trans g4).trans (ch.ge (r := r4) (r' := r4.putF n bxS (.ow c')) fun _ _ _ h => h) |>.weak
  exact a F4 _ σ ge.f ge.kp (j4.chgB bt4 q8 ch od)
end
/-! ### evaluation -/
@[simp] theorem ev_box (a : EF) (r : Env) : eBox a r = (a r).bind fun p => (frC p.1).bind fun c => some (.sh (bxD p.2.st.length), ⟨p.2.sl, p.2.st ++ [bxO c]⟩) := rfl
@[simp] theorem frC_fr (c : C) : frC (.fr c) = some c := rfl
@[simp] theorem ev_ub (a : EF) (r : Env) : eUb a r = (a r).bind fun p => (look p.2 p.1).bind fun c => some ((bxOf c).elim p.1 fun n => .fl n bxS, p.2) := rfl
@[simp] theorem bxOf_bx (n : Nat) : bxOf (.d (bxD n)) = some n := rfl
@[simp] theorem bxOf_l (xs : List D) : bxOf (.d (.list xs)) = none := rfl
@[simp] theorem bxOf_t (xs : List D) : bxOf (.d (.tuple xs)) = none := rfl
@[simp] theorem bxOf_k (xs : List (Ky × D)) : bxOf (.dk xs) = none := rfl
@[simp] theorem bxOf_kt (xs : List (List Ky × D)) : bxOf (.dt xs) = none := rfl
@[simp] theorem ev_mutB (kd : C → Bool) (g : C → List D → Option (Res × C)) (a : EF) (fs : List EF) (r : Env) : eMutB kd g a fs r = (a r).bind fun p => (look p.2 p.1).bind fun b => (bxOf b).bind fun n => (bxAt p.2.st n).bind fun c0 => if kd c0 = true then
  (eArgs fs p.2).bind fun q => (shares q.2 q.1).bind fun y => (bxAt y.2.st n).bind fun c => (g c y.1).bind fun z => some (z.1, y.2.putF n bxS (.ow z.2)) else none := rfl
@[simp] theorem ev_putBL (a k v : EF) (r : Env) : sPutBL a k v r = (v r).bind fun p => (toSh p.2 p.1).bind fun y => (a y.2).bind fun o => (look o.2 o.1).bind fun b => (bxOf b).bind fun n => (k o.2).bind fun s => (look s.2 s.1).bind fun z => (bxAt s.2.st n).bind fun c => (lSetC c z y.1).bind fun c' => some (.nx, s.2.putF n bxS (.ow c')) := rfl
@[simp] theorem ev_putBD (a k v : EF) (r : Env) : sPutBD a k v r = (v r).bind fun p => (toSh p.2 p.1).bind fun y => (a y.2).bind fun o => (look o.2 o.1).bind fun b => (bxOf b).bind fun n => (k o.2).bind fun s => (toSh s.2 s.1).bind fun z => (bxAt z.2.st n).bind fun c => (cPut c z.1 y.1).bind fun c' => some (.nx, z.2.putF n bxS (.ow c')) := rfl
/-- the box n of a store -/
theorem bxAt_fld {st : Store} {n : Nat} {c : C} (h : bxAt st n = some c) : fldAt st n bxS = some (.ow c) := bxAt_is h
theorem bxAt_lt {st : Store} {n : Nat} {c : C} (h : bxAt st n = some c) : n < st.length := by
  have h := bxAt_is h
  unfold fldAt at h
  rcases Nat.lt_or_ge n st.length with w | w
  · exact w
  · rw [List.getElem?_eq_none_iff.mpr w] at h; cases h
theorem bxAt_new {st : Store} {c : C} : bxAt (st ++ [bxO c]) st.length = some c := by unfold bxAt; rw [fldAt_new]; rfl
theorem bxAt_app {st : Store} {o : Ob} {n : Nat} (h : n < st.length) : bxAt (st ++ [o]) n = bxAt st n := by unfold bxAt; rw [fldAt_app h]
def bxPut (st : Store) (n : Nat) (c : C) : Store := stPut st n bxS (.ow c)
theorem bxPut_at {st : Store} {n m : Nat} {c : C} (h : n < st.length) : bxAt (bxPut st n c) m = if n = m then some c else bxAt st m := by
  unfold bxAt bxPut
  rw [fldAt_put h]
  by_cases z : n = m
  · rw [if_pos ⟨z, rfl⟩, if_pos z]; rfl
  · rw [if_neg (fun w => z w.1), if_neg z]
theorem bxPut_len {st : Store} {n : Nat} {c : C} : (bxPut st n c).length = st.length := stPut_len
@[simp] theorem ev_putB (sl : List Slot) (st : Store) (n : Nat) (c : C) : Env.putF ⟨sl, st⟩ n bxS (.ow c) = ⟨sl, bxPut st n c⟩ := rfl
theorem fldAt_box {st : Store} {n : Nat} : (fldAt st n bxS).bind fdO = bxAt st n := rfl
end CM
end
section
set_option Elab.async false
set_option linter.all false
set_option maxRecDepth 100000
set_option autoImplicit false
namespace CM
open PySem PySem.Spec PyProof.Rows L2 PySem.SeqAt
/-! ### xs.index(y), texts -/
def strsD : List D → Option (List Str)
  | [] => some []
  | .str i :: xs => (strsD xs).bind fun is => some (i :: is)
  | _ :: _ => none
def gIdx : C → C → Option Res
  | .d (.list xs), .d (.str y) => (strsD xs).bind fun ss => (ss.findIdx? fun s => decide (s = y)).bind fun j => some (.sh (.int (j : Nat)))
  | _, _ => none
theorem strsD_map : ∀ ss : List Str, strsD (ss.map PyData.str) = some ss
  | [] => rfl
  | s :: ss => by
    rw [List.map_cons]
    show (strsD _).bind _ = _
    rw [strsD_map ss]; rfl
theorem strsD_is : ∀ {ds : List D} {ss : List Str}, strsD ds = some ss → ds = ss.map PyData.str
  | [], ss, h => by cases h; rfl
  | d :: ds, ss, h => by
    cases d with
    | str s =>
      have h : (strsD ds).bind (fun is => some (s :: is)) = some ss := h
      rw [Option.bind_eq_some_iff] at h
      obtain ⟨is, h1, h2⟩ := h
      cases h2
      rw [strsD_is h1]; rfl
    | _ => cases h
theorem strs_vp {K : KC} {F : Fz} : ∀ {ss : List Str} {vs : List V}, VpAll K F vs (ss.map PyData.str) → vs = ss.map V.str
  | [], _, h => by cases h; rfl
  | s :: ss, _, h => by
    cases h with
    | cons h1 h2 =>
      cases h1
      rw [strs_vp h2]; rfl
theorem vp_all_flat : ∀ ss : List Str, (ss.map V.str).all flatV = true
  | [] => rfl
  | s :: ss => by rw [List.map_cons, List.all_cons, vp_all_flat ss]; rfl
section
variable {X : Cx} {e e0 : Expr} {es : List Expr} {fa f0 : EF} {qb : Bool} {apos cpos : Pos}
def eIdx (a b : EF) : EF := fun r => (a r).bind fun p => (look p.2 p.1).bind fun c => (lstC c).bind fun _ => (b p.2).bind fun q => (look q.2 p.1).bind fun u => (look q.2 q.1).bind fun w => (gIdx u w).bind fun z => some (z, q.2)
theorem de_index (h0 : DE X qb e0 f0) (he : DE X true e fa)
    (hbase : attributeBase e0 "index" X.env (eval e0 X.env) = eval e0 X.env := by rfl)
    (hfew : ((backTo cpos (starEach [e] X.env)).all (fun x => !x.1) && (backToKw cpos (keywordEach [] X.env)).all (fun x => x.1.isSome)
      && decide (([e] : List Expr).length + ([] : List Keyword).length + (if ([] : List Keyword).isEmpty then 0 else 1) < 30)) = true := by rfl)
    (hline : (apos.endLine == cpos.line) = true := by rfl) (hs : starEach [e] X.env = (false, eval e X.env) :: starEach [] X.env := by rfl) (hplain : (backTo cpos (starEach [] X.env)).any (·.1) = false := by rfl) :
    DE X qb (.Call (.Attribute e0 "index" apos) [e] [] cpos) (eIdx f0 fa) := by
  obtain ⟨t, a1, a2⟩ := he.ex
  obtain ⟨t0, b1, b2⟩ := h0.ex
  refine ⟨_, pe_bm PySem.F.plainAttrs_list PySem.F.slot_list_index PySem.F.type_list_index mt_index b1 (pa_cons a1 pa_nil hs) hbase hfew hline hs hplain, fun B H0 F0 F H σ r z r' q j Q k => ?_⟩
  simp only [eIdx, Option.bind_eq_some_iff] at q
  obtain ⟨⟨z0, r0⟩, p0, c0, p00, ls, p01, ⟨z1, r1⟩, p1, u, p2, w, p3, zz, p4, p5⟩ := q
  cases p5
  unfold gIdx at p4
  split at p4
  · rename_i xs y
    simp only [Option.bind_eq_some_iff] at p4
    obtain ⟨ss, g1, jj, g2, g3⟩ := p4
    cases g3
    refine b2 _ _ _ _ _ _ _ _ _ p0 j _ fun F1 H1 v e1 j1 k1 => ?_
    have l0 := k1.look j1 p00
    cases lstC_is p01
    obtain ⟨a, vs0, rfl, sq0, _⟩ := l0
    refine ⟨.inl ⟨rfl, _, sq0⟩, ?_⟩
    refine a2.around p1 j1 k1 _ fun F2 H2 w2 e2 j2 k2 k3 => ?_
    have l2 := k2.look j2 p2
    have l3 := k3.look j2 p3
    have l3 : Vp X.kc F2 w2 (.str y) := l3
    cases l3
    obtain ⟨a', vs, ea, sq, da⟩ := l2
    cases ea
    rw [strsD_is g1] at da
    have ev := strs_vp da
    subst ev
    obtain ⟨hlt, hp, hn⟩ := List.findIdx?_eq_some_iff_getElem.mp g2
    refine ⟨a, _, .str y, jj, .str (ss[jj]), rfl, rfl, sq, rfl, vp_all_flat ss, ?_, ?_, fun m z' hm hz => ?_, k F2 H2 _ (e1.qt e2) j2 (.int _)⟩
    · rw [List.getElem?_map, List.getElem?_eq_getElem hlt]; rfl
    · rw [of_decide_eq_true hp]
      show (y == y) = true
      exact beq_self_eq_true y
    · have hm' : m < ss.length := by omega
      rw [List.getElem?_map, List.getElem?_eq_getElem hm'] at hz
      cases hz
      have := hn m hm
      show (ss[m] == y) = false
      refine beq_eq_false_iff_ne.mpr fun z => ?_
      rw [z] at this
      simp at this
  · cases p4
@[simp] theorem ev_idx (a b : EF) (r : Env) : eIdx a b r = (a r).bind fun p => (look p.2 p.1).bind fun c => (lstC c).bind fun _ => (b p.2).bind fun q => (look q.2 p.1).bind fun u => (look q.2 q.1).bind fun w => (gIdx u w).bind fun z => some (z, q.2) := rfl
theorem gIdx_str (ss : List Str) (y : Str) : gIdx (.d (.list (ss.map PyData.str))) (.d (.str y)) = (ss.findIdx? fun s => decide (s = y)).bind fun j => some (.sh (.int (j : Nat))) := by
  show (strsD (ss.map PyData.str)).bind _ = _
  rw [strsD_map]; rfl
end
end CM
end
section
set_option Elab.async false
set_option linter.all false
set_option maxRecDepth 100000
set_option autoImplicit false
namespace CM
open PySem PySem.Spec PyProof.Rows L2
/-! ### a dict with tuple keys, walked; a box out of a list, walked -/
def vKeysT : C → Option (List D)
  | .dt kvs => if (kvs.all fun e => !e.1.isEmpty) = true then some (kvs.map fun e => .tuple (e.1.map kD)) else none
  | _ => none
section
variable {K : KC} {F F' F1 : Fz} {H H' H1 B H0 F0 : Hp} {σ : L2.St} {r r' : Env} {v : V} {c : C} {x : D} {p : Addr} {s : Slot} {ds : List D} {n : Nat}
theorem tuT_keys {k : List Ky} (h : k ≠ []) : tuT (k.map kD) = false := by
  cases k with
  | nil => exact absurd rfl h
  | cons a r =>
    unfold tuT
    rw [List.map_cons, List.all_cons]
    have : isTupD (kD a) = false := by cases a <;> rfl
    rw [this]; rfl
theorem vpAll_keys : ∀ k : List Ky, VpAll K F (k.map kV) (k.map kD)
  | [] => .nil
  | a :: r => .cons (vp_key a) (vpAll_keys r)
/-- a tuple that stands is kept for good -/
theorem Grow.tup {q : Addr} {xs : List V} (e : Ex F.f H) (h : H q = some (.tup xs)) (n : F.f q = none) : Grow F H (F.put q (.tup xs)) H := ⟨.new n, rfl, .refl _, fun a u w => by
  by_cases z : a = q
  · subst z
    rw [show (F.put a (.tup xs)).f = upd F.f a (.tup xs) from rfl, upd_same] at w
    cases w; exact h
  · rw [show (F.put q (.tup xs)).f = upd F.f q (.tup xs) from rfl, upd_ne z] at w
    exact e _ _ w, fun a u w => by
  by_cases z : a = q
  · subst z
    rw [show (F.put a (.tup xs)).f = upd F.f a (.tup xs) from rfl, upd_same] at w
    cases w; exact .inr (.inr ⟨_, rfl⟩)
  · rw [show (F.put q (.tup xs)).f = upd F.f q (.tup xs) from rfl, upd_ne z] at w
    exact .inl w⟩
end
section
variable {X : Cx} {tg e : Expr}
theorem vw_keysT : Vw X tg e e vKeysT := ⟨fun _ => rfl, fun td h => ⟨_, pi_keys h, fun c ds g σ H R P k1 k2 => k1 _ fun x H1 px => by
  obtain ⟨d, o, u, F, rfl, hd, vu, kk⟩ := k2 x H1 px
  cases c with
  | d x => exact vu.elim
  | dk kvs => cases g
  | dt kvs =>
    unfold vKeysT at g
    dsimp only at g
    split at g
    case isFalse => cases g
    rename_i ne
    cases g
    obtain ⟨es, rfl, kv⟩ := vu
    have len : es.length = kvs.length := Paired.length kv
    refine ⟨d, o, rfl, .inr ⟨es, hd, kk _ fun G hG i F1 H1 e1 e2 e3 => ⟨fun hi => ?_, fun hi => ⟨e3 _ _ hG, by simp at hi; omega⟩⟩⟩⟩
    rw [List.length_map] at hi
    refine ⟨⟨e3 _ _ hG, by omega⟩, fun x H2 ⟨q4, k, v, q, q1, q2, q3⟩ => ?_⟩
    subst q4; subst q2
    obtain ⟨dd, w1, w2⟩ := kv.at q1
    have hk : k ≠ [] := fun z => by
      have := List.all_eq_true.mp ne _ (List.mem_of_getElem? w1)
      rw [z] at this
      cases this
    have it : (kvs.map fun e => PyData.tuple (e.1.map kD))[i]? = some (.tuple (k.map kD)) := by rw [List.getElem?_map, w1]; rfl
    cases w : F1.f q with
    | none => exact ⟨F1.put q (.tup (k.map kV)), .tup e2 q3 w, _, it, .tup (.flat (tuT_keys hk) upd_same) (vpAll_keys k)⟩
    | some o =>
      have := e2 _ _ w
      rw [q3] at this; cases this
      exact ⟨F1, .refl e2, _, it, .tup (.flat (tuT_keys hk) w) (vpAll_keys k)⟩⟩⟩
end
/-- a box, or nothing -/
def eUbO (a : EF) : EF := fun r => (eUb a r).bind fun p => match p.1 with
  | .fl n f => if f = bxS then some p else none
  | _ => none
theorem DE.sub {X : Cx} {q : Bool} {e : Expr} {f g : EF} (h : DE X q e f) (k : ∀ r y, g r = some y → f r = some y) : DE X q e g := by
  obtain ⟨td, a, b⟩ := h.ex
  exact ⟨td, a, fun B H0 F0 F H σ r z r' w => b B H0 F0 F H σ r z r' (k _ _ w)⟩
theorem de_ubO {X : Cx} {q : Bool} {e : Expr} {a : EF} (h : DE X q e (eUb a)) : DE X q e (eUbO a) := h.sub fun r y w => by
  unfold eUbO at w
  rw [Option.bind_eq_some_iff] at w
  obtain ⟨p, q1, q2⟩ := w
  split at q2
  · split at q2
    · cases q2; exact q1
    · cases q2
  · cases q2
section
variable {K : KC} {F F' F1 : Fz} {H H' H1 B H0 F0 : Hp} {σ : L2.St} {r r' : Env} {v : V} {c : C} {x : D} {p : Addr} {s : Slot} {ds : List D} {n : Nat}
theorem look_lock {l : Lk} {i : Nat} (h : look r (.sl i) = some c) : look (lock l r) (.sl i) = some c := by
  unfold look at h ⊢
  dsimp only at h ⊢
  rcases lock_put (r := r) (l := l) (i := i) with ⟨s', a, b⟩ | ⟨c', a, b⟩ | ⟨a, b⟩
  · rw [a] at h; rw [b]; exact h
  · rw [a] at h; rw [b]; exact h
  · rw [a] at h; cases h
theorem eVar_some {i : Nat} {y : Res × Env} (q : eVar i r = some y) : y = (.sl i, r) ∧ ∃ s, r.sl[i]? = some s ∧ s ≠ .no := by
  unfold eVar at q
  split at q
  · rename_i y e; cases q; exact ⟨rfl, _, e, fun z => by cases z⟩
  · rename_i y e; cases q; exact ⟨rfl, _, e, fun z => by cases z⟩
  · rename_i y e; cases q; exact ⟨rfl, _, e, fun z => by cases z⟩
  · rename_i y e; cases q; exact ⟨rfl, _, e, fun z => by cases z⟩
  · cases q
theorem gIx_box (j : J K B H0 F0 F H σ r) {i : Nat} {u w : C} {z : Res} (hu : look r (.sl i) = some u) (g : gIx u w = some z) {c : C} (hc : look r z = some c) (hb : bxOf c = some n) : (∃ y, z = .sh y ∧ c = .d y) ∧ ∃ a, Bt F a n := by
  have key : ∀ (ds : List D) (k : Int) (vs : List V), VpAll K F vs ds → (atD ds k).bind (fun x => some (Res.sh x)) = some z → (∃ y, z = .sh y ∧ c = .d y) ∧ ∃ a, Bt F a n := fun ds k vs va e => by
    rw [Option.bind_eq_some_iff] at e
    obtain ⟨y, e1, e2⟩ := e
    cases e2
    have hc : some (C.d y) = some c := hc
    cases hc
    refine ⟨⟨y, rfl, rfl⟩, ?_⟩
    unfold atD at e1
    rw [Option.bind_eq_some_iff] at e1
    obtain ⟨m, _, e1⟩ := e1
    obtain ⟨v, _, vp⟩ := va.get e1
    have vb : Bd K F H v (.d y) := Bd.of vp j.fh
    obtain ⟨a, _, bt⟩ := bxOf_ok vb hb
    exact ⟨a, bt⟩
  have str : ∀ (x : Str) (k : Int), (if x.cps.size ≤ 16777216 then (atD x.cps.toList k).bind fun c => some (Res.sh (.str ⟨#[c]⟩)) else none) = some z → (∃ y, z = .sh y ∧ c = .d y) ∧ ∃ a, Bt F a n := fun x k e => by
    split at e
    · rw [Option.bind_eq_some_iff] at e
      obtain ⟨y, e1, e2⟩ := e
      cases e2
      have hc : some (C.d (.str ⟨#[y]⟩)) = some c := hc
      cases hc
      cases hb
    · cases e
  have slot : ∀ s, r.sl[i]? = some s → ∀ d, (s = .sh d ∨ s = .bo (.d d) ∨ s = .lk (.d d) ∨ s = .ow (.d d)) → (∀ ds, d = .list ds ∨ d = .tuple ds → ∃ vs, VpAll K F vs ds) := fun s hs d hd ds hds => by
    have b := j.sl i s hs
    have vp : ∀ v, Vp K F v d → ∃ vs, VpAll K F vs ds := fun v h => by
      rcases hds with rfl | rfl
      · cases h with
        | lst _ h => exact ⟨_, h⟩
      · cases h with
        | tup _ h => exact ⟨_, h⟩
    have bd : ∀ v, Bd K F B v (.d d) → ∃ vs, VpAll K F vs ds := fun v h => by
      rcases hds with rfl | rfl
      · obtain ⟨_, xs, _, _, h⟩ := h; exact ⟨xs, h⟩
      · exact vp v h
    rcases hd with rfl | rfl | rfl | rfl
    · obtain ⟨v, _, h⟩ := b; exact vp v h
    · obtain ⟨v, _, h⟩ := b; exact bd v h
    · obtain ⟨v, _, h⟩ := b; exact bd v h
    · obtain ⟨p, _, _, _, _, h⟩ := b
      rcases hds with rfl | rfl
      · obtain ⟨xs, _, h⟩ := h; exact ⟨xs, h⟩
      · exact h.elim
  have ld : ∀ d, u = .d d → ∀ ds, d = .list ds ∨ d = .tuple ds → ∃ vs, VpAll K F vs ds := fun d hd ds hds => by
    subst hd
    unfold look at hu
    dsimp only at hu
    split at hu
    · rename_i x e; cases hu; exact slot _ e d (.inl rfl) ds hds
    · rename_i x e; cases hu; exact slot _ e d (.inr (.inl rfl)) ds hds
    · rename_i x e; cases hu; exact slot _ e d (.inr (.inr (.inr rfl))) ds hds
    · rename_i x e; cases hu; exact slot _ e d (.inr (.inr (.inl rfl))) ds hds
    · cases hu
  unfold gIx at g
  split at g
  · obtain ⟨vs, va⟩ := ld _ rfl _ (.inl rfl)
    exact key _ _ _ va g
  · obtain ⟨vs, va⟩ := ld _ rfl _ (.inr rfl)
    exact key _ _ _ va g
  · exact str _ _ g
  · cases g
theorem gIx_sh {u w : C} {z : Res} (g : gIx u w = some z) : ∃ y, z = .sh y := by
  have b : ∀ {α : Type} {o : Option α} {f : α → D}, (o.bind fun x => some (Res.sh (f x))) = some z → ∃ y, z = .sh y := fun {α o f} e => by
    rw [Option.bind_eq_some_iff] at e
    obtain ⟨y, _, e⟩ := e
    cases e
    exact ⟨_, rfl⟩
  unfold gIx at g
  split at g
  · exact b (f := id) g
  · exact b (f := id) g
  · split at g
    · exact b g
    · cases g
  · cases g
theorem ubo_run {i k : Nat} {u w c : C} {y : D} (h1 : eVar i r = some (.sl i, r)) (h2 : eVar k r = some (.sl k, r)) (hu : look r (.sl i) = some u) (hw : look r (.sl k) = some w) (g : gIx u w = some (.sh y)) (hb : bxOf (.d y) = some n) : eUbO (eOp gIx (eVar i) (eVar k)) r = some (.fl n bxS, r) := by
  have e1 : eOp gIx (eVar i) (eVar k) r = some (.sh y, r) := by
    unfold eOp
    rw [h1]
    show ((eVar k r).bind fun q => (look q.2 (.sl i)).bind fun u => (look q.2 q.1).bind fun v => (gIx u v).bind fun z => some (z, q.2)) = _
    rw [h2]
    show ((look r (.sl i)).bind fun u => (look r (.sl k)).bind fun v => (gIx u v).bind fun z => some (z, r)) = _
    rw [hu, hw]
    show ((gIx u w).bind fun z => some (z, r)) = _
    rw [g]; rfl
  unfold eUbO eUb
  rw [e1]
  show ((some ((bxOf (.d y)).elim (Res.sh y) fun n => .fl n bxS, r) : Option (Res × Env)).bind _) = _
  rw [hb]
  show (if bxS = bxS then some (Res.fl n bxS, r) else none) = _
  rw [if_pos rfl]
theorem plc_ubix {i k : Nat} : Plc K (eUbO (eOp gIx (eVar i) (eVar k))) := ⟨fun B H0 F0 F H σ r z r' q j => by
  unfold eUbO at q
  rw [Option.bind_eq_some_iff] at q
  obtain ⟨p, q0, q'⟩ := q
  unfold eUb eOp at q0
  simp only [Option.bind_eq_some_iff] at q0
  obtain ⟨a, ⟨p1, a1, x, a2, p2, a3, u, a4, w, a5, zz, a6, a7⟩, c, a8, a9⟩ := q0
  obtain ⟨b1, _⟩ := eVar_some a1
  subst b1
  obtain ⟨b2, _⟩ := eVar_some a3
  subst b2
  cases a2; cases a7; cases a9
  dsimp only at a1 a3 a4 a5 a8 q'
  cases hb : bxOf c with
  | none =>
    rw [hb] at q'
    -- no box
    exfalso
    obtain ⟨y, rfl⟩ := gIx_sh a6
    cases q'
  | some n =>
    rw [hb] at q'
    have q' : (if bxS = bxS then some (Res.fl n bxS, r) else none) = some (z, r') := q'
    rw [if_pos rfl] at q'
    cases q'
    obtain ⟨⟨y, e1, e2⟩, ad, bt⟩ := gIx_box j a4 a6 a8 hb
    subst e1; subst e2
    refine ⟨rfl, fun l => ?_, .ref ad, .inr ⟨ad, rfl, rfl, bt⟩⟩
    obtain ⟨_, k1, _⟩ := (plc_var i).pl _ _ _ _ _ _ _ _ _ a1 j
    obtain ⟨_, k2, _⟩ := (plc_var k).pl _ _ _ _ _ _ _ _ _ a3 j
    exact ubo_run (c := .d y) (k1 l) (k2 l) (look_lock a4) (look_lock a5) a6 hb⟩
end
@[simp] theorem ev_ubO (a : EF) (r : Env) : eUbO a r = (eUb a r).bind fun p => match p.1 with
  | .fl n f => if f = bxS then some p else none
  | _ => none := rfl
theorem vKeysT_dt (kvs : List (List Ky × D)) (h : (kvs.all fun e => !e.1.isEmpty) = true) : vKeysT (.dt kvs) = some (kvs.map fun e => .tuple (e.1.map kD)) := if_pos h
end CM
end
section
set_option Elab.async false
set_option linter.all false
set_option maxRecDepth 100000
set_option autoImplicit false
namespace CM
open PySem PySem.Spec PyProof.Rows L2
/-! ### list(range(a, b)) -/
def gRgL : C → C → Option Res
  | .d (.int i), .d (.int j) => if i.natAbs ≤ 1000000 ∧ j.natAbs ≤ 1000000 then some (.fr (.d (.list (rgD i (j - i).toNat)))) else none
  | _, _ => none
def eLRg (fa fb : EF) : EF := fun r => (fa r).bind fun p => (look p.2 p.1).bind fun u => (fb p.2).bind fun q => (look q.2 q.1).bind fun v => (gRgL u v).bind fun z => some (z, q.2)
theorem vpAll_rg {K : KC} {F : Fz} (a : Int) : ∀ l : List Nat, VpAll K F (l.map fun i => V.int (a + (i : Nat))) (l.map fun i => .int (a + (i : Nat)))
  | [] => .nil
  | _ :: r => .cons (.int _) (vpAll_rg a r)
theorem gRgL_ok {u v : C} {z : Res} (g : gRgL u v = some z) : ∃ i j, u = .d (.int i) ∧ v = .d (.int j) ∧ i.natAbs ≤ 1000000 ∧ j.natAbs ≤ 1000000 ∧ z = .fr (.d (.list (rgD i (j - i).toNat))) := by
  unfold gRgL at g
  split at g
  · split at g
    · rename_i i j h; cases g; exact ⟨i, j, rfl, rfl, h.1, h.2, rfl⟩
    · cases g
  · cases g
theorem de_listRg {X : Cx} {a b : Expr} {p pos p2 pos2 : Pos} {fa fb : EF} {q1 q2 : Bool} (hc : X.calm = true) (ha : DE X q1 a fa) (hb : DE X q2 b fb) (hg : Gl X "list") (hm : X.mg "list" = none) (hg2 : Gl X "range") (hm2 : X.mg "range" = none)
    (na : starEach [a, b] X.env = (false, eval a X.env) :: starEach [b] X.env := by rfl) (nb : starEach [b] X.env = (false, eval b X.env) :: starEach [] X.env := by rfl) (hp : (backTo pos2 (starEach [b] X.env)).any (·.1) = false := by rfl)
    (ns : starEach [.Call (.Name "range" p2) [a, b] [] pos2] X.env = (false, eval (.Call (.Name "range" p2) [a, b] [] pos2) X.env) :: starEach [] X.env := by rfl) :
    DE X (q1 && q2) (.Call (.Name "list" p) [.Call (.Name "range" p2) [a, b] [] pos2] [] pos) (eLRg fa fb) := by
  obtain ⟨ta, a1, a2⟩ := ha.ex
  obtain ⟨tb, b1, b2⟩ := hb.ex
  refine ⟨_, pe_listRg hc hg hm (prg_2 hg2 hm2 a1 b1 na nb hp) ns, fun B H0 F0 F H σ r z r' q j Q kk => ?_⟩
  simp only [eLRg, Option.bind_eq_some_iff] at q
  obtain ⟨⟨za, r1⟩, q1, u, q2, ⟨zb, r2⟩, q3, v, q4, w, q5, q6⟩ := q
  cases q6
  obtain ⟨i, k, rfl, rfl, h1, h2, rfl⟩ := gRgL_ok q5
  refine a2 _ _ _ _ _ _ _ _ _ q1 j _ fun F1 H1 x e1 j1 k1 => ?_
  have c1 : Vp X.kc F1 x (.int i) := k1.look j1 q2
  cases c1
  refine b2 _ _ _ _ _ _ _ _ _ q3 j1 _ fun F2 H2 y e2 j2 k2 => ?_
  have c2 : Vp X.kc F2 y (.int k) := k2.look j2 q4
  cases c2
  refine ⟨i, k, rfl, rfl, ⟨by omega, by omega, by omega, by omega, by omega⟩, fun l hl => ?_⟩
  have g : Grow F2 H2 F2 (upd H2 l (.lst (rgV i k))) := .lay j2.fh hl
  exact kk _ _ _ ((e1.trans e2).qt g.ge) (j2.grow g) (RetOk.res j2 g ⟨l, rfl, hl, j2.fh.back hl, j2.tagged l hl, _, upd_same, vpAll_rg i _⟩)
@[simp] theorem ev_lrg (fa fb : EF) (r : Env) : eLRg fa fb r = (fa r).bind fun p => (look p.2 p.1).bind fun u => (fb p.2).bind fun q => (look q.2 q.1).bind fun v => (gRgL u v).bind fun z => some (z, q.2) := rfl
@[simp] theorem gRgL_i {i j : Int} (h : i.natAbs ≤ 1000000 ∧ j.natAbs ≤ 1000000) : gRgL (.d (.int i)) (.d (.int j)) = some (.fr (.d (.list (rgD i (j - i).toNat)))) := if_pos h
end CM
end
section
set_option Elab.async false
set_option linter.all false
set_option maxRecDepth 100000
set_option autoImplicit false
namespace CM
open PySem PySem.Spec PyProof.Rows L2
/-! ### "..".join(texts) -/
def gJoin (sep : Str) : C → Option Res
  | .d (.list ds) => (strsD ds).bind fun ys => if (ys.map (·.length)).sum + ys.length * sep.length ≤ 16777216 then some (.sh (.str (Txt.join sep ys))) else none
  | _ => none
def eJoin (sep : Str) (fa : EF) : EF := fun r => (fa r).bind fun p => (look p.2 p.1).bind fun c => (gJoin sep c).bind fun z => some (z, p.2)
theorem de_join {X : Cx} {q : Bool} {e o : Expr} {apos pos : Pos} {sep : Str} {fa : EF} (hc : DE X true o (eC (.str sep))) (ha : DE X q e fa) (hs : starEach [e] X.env = [(false, eval e X.env)] := by rfl)
    (hbase : attributeBase o "join" X.env (eval o X.env) = eval o X.env := by rfl) (hline : (apos.endLine == pos.line) = true := by rfl) :
    DE X q (.Call (.Attribute o "join" apos) [e] [] pos) (eJoin sep fa) := by
  obtain ⟨t, a1, a2⟩ := ha.ex
  obtain ⟨tc, c1, c2⟩ := hc.ex
  refine ⟨_, pe_join c1 a1 hs hbase hline, fun B H0 F0 F H σ r z r' q0 j Q kk => ?_⟩
  simp only [eJoin, Option.bind_eq_some_iff] at q0
  obtain ⟨⟨za, r1⟩, q1, c, q2, w, q3, q4⟩ := q0
  cases q4
  refine c2 _ _ _ _ _ _ _ _ _ (show eC (.str sep) r = some (.sh (.str sep), r) from rfl) j _ fun F0' H0' x0 e0 j0 k0 => ?_
  have s0 : Vp X.kc F0' x0 (.str sep) := k0
  cases s0
  refine ⟨⟨sep, rfl⟩, a2 _ _ _ _ _ _ _ _ _ q1 j0 _ fun F1 H1 x e1 j1 k1 => ?_⟩
  have b := k1.look j1 q2
  unfold gJoin at q3
  split at q3
  · rename_i ds
    rw [Option.bind_eq_some_iff] at q3
    obtain ⟨ys, y1, y2⟩ := q3
    split at y2
    · rename_i sz
      cases y2
      obtain ⟨p, vs, rfl, sq, dd⟩ := b
      rw [strsD_is y1] at dd
      rw [strs_vp dd] at sq
      exact ⟨sep, p, ys, rfl, rfl, .inl sq, sz, kk _ _ _ (by have := e0.trans e1; rw [Bool.true_and] at this; exact this) j1 (.str _)⟩
    · cases y2
  · cases q3
@[simp] theorem ev_join (sep : Str) (fa : EF) (r : Env) : eJoin sep fa r = (fa r).bind fun p => (look p.2 p.1).bind fun c => (gJoin sep c).bind fun z => some (z, p.2) := rfl
theorem gJoin_map {sep : Str} {ys : List Str} (h : (ys.map (·.length)).sum + ys.length * sep.length ≤ 16777216) : gJoin sep (.d (.list (ys.map PyData.str))) = some (.sh (.str (Txt.join sep ys))) := by
  show (strsD _).bind _ = _
  rw [strsD_map, Option.bind_some, if_pos h]
/-! ### list(d), d a dict with tuple keys -/
def gListKT : List C → Option Res
  | [.dt kvs] => if (kvs.all fun e => !e.1.isEmpty) = true then some (.fr (.d (.list (kvs.map fun e => .tuple (e.1.map kD))))) else none
  | _ => none
theorem isKeys_vp {K : KC} {F : Fz} {H : Hp} (e : Ex F.f H) (as : List Addr) : ∀ {es : List (List Key × V)} {bs : List Addr} {kvs : List (List Ky × D)}, IsKeys H es bs → KVs K F es kvs → (∀ b ∈ bs, b ∈ as) → (∀ e ∈ kvs, e.1 ≠ []) → VpAll K (F.more as H) (bs.map V.ref) (kvs.map fun e => .tuple (e.1.map kD))
  | _, _, _, .nil, .nil, _, _ => .nil
  | _, _, (k, d) :: kvs, .cons h1 t1, .cons h2 t2, hm, hn => by
    obtain ⟨a, b⟩ := h2
    have a : _ = k := a
    rw [a] at h1
    exact .cons (.tup (.flat (tuT_keys (hn (k, d) List.mem_cons_self)) (Fz.more_at e (hm _ List.mem_cons_self) h1)) (vpAll_keys k)) (isKeys_vp e as t1 t2 (fun b hb => hm b (List.mem_cons_of_mem _ hb)) fun e he => hn e (List.mem_cons_of_mem _ he))
theorem isKeys_tup {H : Hp} : ∀ {es : List (List Key × V)} {bs : List Addr}, IsKeys H es bs → ∀ b ∈ bs, ∃ xs, H b = some (.tup xs)
  | _, _, .nil, b, h => by cases h
  | _, _, .cons h1 t1, b, h => by
    rcases List.mem_cons.mp h with rfl | h
    · exact ⟨_, h1⟩
    · exact isKeys_tup t1 b h
theorem dcl_listKT {X : Cx} (hc : X.calm = true) : DCl X (.type "list") gListKT := by
  refine .of fun pins s σ H xs us Q I r ⟨F, cs, z, e, et, b, q, k⟩ => ?_
  unfold gListKT at q
  split at q
  case h_2 => cases q
  rename_i kvs
  split at q
  case isFalse => cases q
  rename_i ne
  cases q
  obtain ⟨x, rfl, p, es, rfl, rd, dd⟩ := one_of b
  refine call_list_dT hc pins s σ H _ us Q I r ⟨p, es, rfl, rd, fun l bs hl ik => ?_⟩
  have nek : ∀ e ∈ kvs, e.1 ≠ [] := fun e he z => by
    have := List.all_eq_true.mp ne e he
    rw [z] at this
    cases this
  have v := isKeys_vp (K := X.kc) e bs ik dd (fun _ h => h) nek
  have fl : (F.more bs H).f l = none := by
    cases w : (F.more bs H).f l with
    | none => rfl
    | some o =>
      rcases Fz.more_in w with z | ⟨_, z⟩
      · have := e _ _ z; rw [hl] at this; cases this
      · rw [hl] at z; cases z
  have g : Grow F H (F.more bs H) (upd H l (.lst (bs.map V.ref))) := ⟨Fz.more_old, rfl, .new hl, fun a o w => by
    rw [upd_ne fun z => by subst z; rw [fl] at w; cases w]
    rcases Fz.more_in w with z | ⟨_, z⟩
    · exact e _ _ z
    · exact z, fun a o w => by
    rcases Fz.more_in w with z | ⟨h, z⟩
    · exact .inl z
    · obtain ⟨xs, t⟩ := isKeys_tup ik a h
      rw [t] at z; cases z
      exact .inr (.inr ⟨_, rfl⟩)⟩
  exact k _ _ _ g ⟨l, rfl, hl, fl, et l hl, _, upd_same, v⟩
@[simp] theorem gListKT_dt (kvs : List (List Ky × D)) (h : (kvs.all fun e => !e.1.isEmpty) = true) : gListKT [.dt kvs] = some (.fr (.d (.list (kvs.map fun e => .tuple (e.1.map kD))))) := if_pos h
end CM
end
section
set_option Elab.async false
set_option linter.all false
set_option maxRecDepth 100000
set_option autoImplicit false
namespace CM
open PySem PySem.Spec PyProof.Rows L2
/-! ### {(a, b): x}: a new dict with one tuple key -/
def tDisp1T (tk tv : TE) : TE := fun σ H Q => ∀ p, H p = none → tPairs [(tk, tv)] σ (upd H p (.dT [])) fun ps H2 => H2 p = some (.dT []) ∧ ∃ (k : List Key) (b : Addr) (y : V), ps = [(.ref b, y)] ∧ H2 b = some (.tup (k.map kV)) ∧ Q (.ref p) (upd H2 p (.dT [(k, y)]))
theorem pe_disp1T {X : Cx} {pos : Pos} {k v : Expr} {tk tv : TE} (hu : X.A.units < cLine) (hk : PE X k tk) (hv : PE X v tv) : PE X (.Dict [some k] [v] pos) (tDisp1T tk tv) := by
  refine ⟨fun pins s σ H Q I q => ?_⟩
  have hn := I.hok.fresh (Nat.le_refl s.heap.objs.size)
  have I1 := I.laid (a := s.heap.objs.size) (o := .dT []) (h' := s.heap.push { cls := .type "dict", data := .dict #[] }) (t' := s.toks) (fun _ _ q => Heap.get?_push_of_some _ q) (Nat.le_refl _) (dt_empty s.heap I.big)
  have h := (pps_cons (pos := pos) hk hv pps_nil).run pins { s with heap := s.heap.push { cls := .type "dict", data := .dict #[] } } σ _ (fun ps H2 => H2 s.heap.objs.size = some (.dT []) ∧ ∃ (k : List Key) (b : Addr) (y : V), ps = [(.ref b, y)] ∧ H2 b = some (.tup (k.map kV)) ∧ Q (.ref s.heap.objs.size) (upd H2 s.heap.objs.size (.dT [(k, y)]))) I1 (q _ hn)
  · refine wpAny_Dict_any rfl rfl (by simp) (by simp) (thn h fun ws s2 ⟨ps, H2, I2, rel, e, k, b, y, ep, eb, q2⟩ => ?_)
    subst ep
    cases rel with
    | @cons _ w _ ws' rr t =>
    cases t
    obtain ⟨r1, r2⟩ := rr
    obtain ⟨w1, w2⟩ := w
    have r1 : w1 = Value.ref b := r1
    subst r1
    obtain ⟨z, hd, xs, rx, dd⟩ := dt_of I2.hok e
    cases rx
    unfold storeAll
    rw [List.forIn_cons]
    refine wpAny_bind (wpAny_bind (wpAny_dictSet_heap (hsz := Nat.zero_le _) (knd := tupleKind (mixKind X.prog X.w)) hu (key_of I2.hok eb) dd fun h' dd' hs => wpAny_pure ?_))
    show wpAny _ _ (forIn [] _ _) _ _ _
    rw [List.forIn_nil]
    refine wpAny_pure ⟨.ref s.heap.objs.size, _, ?_, rfl, q2⟩
    obtain ⟨q, es, ep, hq, h2, h3, h4, _, h5⟩ := dd'
    have r0 : KT H2 ([] : List (List Key × V)) [] := .nil
    refine d_write I2 (by rw [e]; exact True.intro) hs ⟨q, hq⟩ ⟨by rw [sizeLine_eq]; show 1 ≤ 16777216; omega, hd, _, (r0.put k eb r2).keeps fun c ys ec => ?_, q, es, ep, hq, h2, h3, h4, h5⟩
    rw [upd_ne (ne_of ec e (fun z => nomatch z))]
    exact ec
def gD1T : C → C → Option Res
  | .d kd, .d (.str x) => (kOfT kd).bind fun k => some (.fr (.dt [(k, .str x)]))
  | _, _ => none
theorem gD1T_ok {u v : C} {z : Res} (g : gD1T u v = some z) : ∃ kd x k, u = .d kd ∧ v = .d (.str x) ∧ kOfT kd = some k ∧ z = .fr (.dt [(k, .str x)]) := by
  unfold gD1T at g
  split at g
  · rw [Option.bind_eq_some_iff] at g
    obtain ⟨k, h1, h2⟩ := g
    cases h2
    exact ⟨_, _, k, rfl, rfl, h1, rfl⟩
  · cases g
theorem bd_key {K : KC} {F : Fz} {H : Hp} {v : V} {kd : D} {k : List Ky} (b : Bd K F H v (.d kd)) (h : kOfT kd = some k) : Vp K F v kd := by
  cases kd with
  | list ds => cases h
  | _ => exact b
theorem de_disp1T {X : Cx} {pos : Pos} {k v : Expr} {fk fv : EF} {q1 q2 : Bool} (hu : X.A.units + 64 < cLine) (hk : DE X q1 k fk) (hv : DE X q2 v fv) : DE X (q1 && q2) (.Dict [some k] [v] pos) (eOp gD1T fk fv) := by
  obtain ⟨tk, a1, a2⟩ := hk.ex
  obtain ⟨tv, b1, b2⟩ := hv.ex
  refine ⟨_, pe_disp1T (by omega) a1 b1, fun B H0 F0 F H σ r z r' q j Q kk => ?_⟩
  simp only [eOp, Option.bind_eq_some_iff] at q
  obtain ⟨⟨za, r1⟩, q1, za', q2, ⟨zb, r2⟩, q3, u, q4, w, q5, y, q6, q7⟩ := q
  cases q7
  obtain ⟨kd, x, ks, rfl, rfl, hks, rfl⟩ := gD1T_ok q6
  intro p hp
  have h0 : H0 p = none := j.e0.back hp
  have f0 : F.f p = none := j.fh.back hp
  have t0 := j.tagged p hp
  have n0 : ∀ (i : Nat) (e : C), r.sl[i]? = some (.ow e) → σ[i]? ≠ some (some (.ref p)) := fun i e h z => (j.ownH h z).1 hp
  have g0 : Grow F H F (upd H p (.dT [])) := .lay j.fh hp
  have jg := j.grow g0
  have jh := jg.hold h0 f0 t0 upd_same n0
  show tk σ _ fun x1 H1 => tv σ H1 fun y1 H2 => _
  refine a2 _ _ _ _ _ _ _ _ _ q1 jh _ fun F1 H1 x1 e1 j1 k1 => ?_
  obtain ⟨F2, e2, j2, k2⟩ := settle_ok q2 j1 k1
  refine b2 _ _ _ _ _ _ _ _ _ q3 j2 _ fun F3 H3 y1 e3 j3 k3 => ?_
  have l1 := (k2.later (settle_still q2) e3.f).look j3 q4
  have l2 : Vp X.kc F3 y1 (.str x) := k3.look j3 q5
  obtain ⟨b, rfl, hb⟩ := keyT_v hks (bd_key l1 hks)
  have e := (e1.qt e2).trans e3
  have nolok : ∀ n f, F3.t p ≠ some (.lok n f) := fun n f z => by
    have := (e.f.l p n f).mpr z
    rw [t0] at this
    cases this
  obtain ⟨j8, f8, t8, h8, n8⟩ := j3.drop h0 j.eb (j.ef.back f0) nolok (fun ⟨_, z⟩ => by cases z)
  refine ⟨h8, ks, b, y1, rfl, j3.fh _ _ hb, ?_⟩
  have j9 := j8.side (o := .dT [(ks, y1)]) f8 t8 n8 h0
  refine kk F3 (upd H3 p (.dT [(ks, y1)])) (.ref p) ⟨e.f, fun i s l w => e.k i s l w, fun hq => ?_⟩ j9 ⟨p, rfl, h0, f8, t8, ⟨_, upd_same, .cons ⟨rfl, l2⟩ .nil⟩, n8⟩
  obtain ⟨z1, z2, z3⟩ := e.q hq
  refine ⟨fun a o w => ?_, z2, z3⟩
  have ne : a ≠ p := fun z => by subst z; rw [hp] at w; cases w
  rw [upd_ne ne]
  exact z1 a o (by rw [upd_ne ne]; exact w)
@[simp] theorem gD1T_nm (h : Str) (n : Int) (x : Str) : gD1T (.d (.tuple [.str h, .int n])) (.d (.str x)) = some (.fr (.dt [(nmK h n, .str x)])) := rfl
end CM
end
section
set_option Elab.async false
set_option linter.all false
set_option maxRecDepth 100000
set_option autoImplicit false
namespace CM
open PySem PySem.Spec PyProof.Rows L2
/-! ### self.d[k] = v -/
def sPutDF (cs : List Str) (i : Nat) (f : Str) (k v : EF) : SF := fun r => (v r).bind fun p => (toSh p.2 p.1).bind fun y => (ownAt y.2 (.fl cs i f)).bind fun _ => (k y.2).bind fun s => (toSh s.2 s.1).bind fun z => (ownAt z.2 (.fl cs i f)).bind fun c =>
  (cPut c z.1 y.1).bind fun c' => some (.nx, ownPut z.2 c' (.fl cs i f))
theorem ds_putDF {X : Cx} {e e1 : Expr} {fa fb : EF} {qb : Bool} {pos npos fpos : Pos} (i : Nat) {cs : List Str} {x f : Str} {pos' : Pos} (hu : X.A.units + 64 < cLine) (cl : ClF X cs f) (hN : X.N[i]? = some x) (hv : Vis X.env.scope x) (hk : DE X true e1 fb) (he : DE X qb e fa)
    (hd : (x == ("__debug__" : Str)) = false := by decide) (hcd : (x == ("__classdict__" : Str)) = false := by decide)
    (hb0 : attributeBase (.Name x npos) f X.env (eval (.Name x npos) X.env) = eval (.Name x npos) X.env := by rfl)
    (hs : swapsWith e (some (.Subscript (.Attribute (.Name x npos) f fpos) e1 pos')) pos.line X.env = pure false := by rfl) : DS X (.Assign [.Subscript (.Attribute (.Name x npos) f fpos) e1 pos'] e pos) (sPutDF cs i f fb fa) := by
  obtain ⟨t, a1, a2⟩ := he.ex
  obtain ⟨u, b1, b2⟩ := hk.ex
  refine ⟨_, ps_dput (by omega) (pe_fld (pe_var hN hv hd hcd) hb0) b1 a1 hs, fun B H0 F0 F H σ r fl r' q j D a => ?_⟩
  simp only [sPutDF, Option.bind_eq_some_iff] at q
  obtain ⟨⟨z1, r1⟩, q1, ⟨y, r2⟩, q2, c0, q3, ⟨z2, r3⟩, q4, ⟨kd, r4⟩, q5, c, q6, c', q7, q8⟩ := q
  cases q8
  refine a2 _ _ _ _ _ _ _ _ _ q1 j _ fun F1 H1 v g1 j1 k1 => ?_
  obtain ⟨F2, g2, j2, d2⟩ := toSh_ok q2 j1 k1
  obtain ⟨p, pi, n, C, dx, fes, ob, hpi, hob, t1, h1, l1, hst, hcs, hmg, ow⟩ := own_fl j2 q3
  obtain ⟨c1, c2⟩ := cl.ok _ hcs C hmg
  refine ⟨_, hpi, pi, C, dx, fes, _, rfl, h1, c1, c2, l1, ?_⟩
  refine b2 _ _ _ _ _ _ _ _ _ q4 j2 _ fun F3 H3 w g3 j3 k3 => ?_
  obtain ⟨F4, g4, j4, d4⟩ := toSh_ok q5 j3 k3
  obtain ⟨p2, pi2, n2, C2, dx2, fes2, ob2, hpi2, hob2, t2, h2, l2, hst2, hcs2, hmg2, ow2⟩ := own_fl j4 q6
  obtain ⟨e1, _, _⟩ := g3.q rfl
  rw [hpi] at hpi2; cases hpi2
  have h3 := e1 _ _ h1
  rw [h2] at h3; cases h3
  rw [l1] at l2; cases l2
  obtain ⟨_, f4, od4, _⟩ := ow2.facts j4
  have g34 := g3.f.trans g4.f
  obtain ⟨o, dp, od⟩ := dput_ok od4 q7 d4 (Vp.up g34 _ _ d2) j4.fh
  have ch : Chg p F4 H3 F4 (upd H3 p o) := .at j4.fh f4
  refine ⟨p, _, rfl, dp, ?_⟩
  have ge : Ge false F H r F4 (upd H3 p o) (ownPut r4 c' (.fl cs i f)) := (((g1.trans g2).trans g3).trans g4).trans (ch.ge (r := r4) (r' := ownPut r4 c' (.fl cs i f)) ownPut_lent) |>.weak
  exact a F4 _ σ ge.f ge.kp (j4.chg ow2 ch od)
@[simp] theorem ev_putDF (cs : List Str) (i : Nat) (f : Str) (k v : EF) (r : Env) : sPutDF cs i f k v r = (v r).bind fun p => (toSh p.2 p.1).bind fun y => (ownAt y.2 (.fl cs i f)).bind fun _ => (k y.2).bind fun s => (toSh s.2 s.1).bind fun z => (ownAt z.2 (.fl cs i f)).bind fun c =>
  (cPut c z.1 y.1).bind fun c' => some (.nx, ownPut z.2 c' (.fl cs i f)) := rfl
end CM
end
section
set_option Elab.async false
set_option linter.all false
set_option maxRecDepth 100000
set_option autoImplicit false
namespace CM
open PySem PySem.Spec PyProof.Rows L2
/-! ### a module's constant tuple, compared -/
def oEqD (K : PySem.W.Frag) : R2 := fun x y H Q => ∃ dx dy : D, Dp K H x dx ∧ Dp K H y dy ∧ shallow dx dy = true ∧ Q (.bl (PyData.eqv dx dy)) H
theorem op_eqD {X : Cx} (hu : X.A.units + 64 < cLine) : OpR X (compareOp .Eq) (oEqD X.K) := fun pins s σ H x y v u Q I rx ry ⟨dx, dy, da, db, c, q⟩ => by
  obtain ⟨c, c1, c2⟩ := shallow_ok c
  obtain ⟨as, r1⟩ := Dp.reads I dx x v da rx
  obtain ⟨bs, r2⟩ := Dp.reads I dy y u db ry
  exact rc_eq r1 r2 (dp_nod _ _ da) (dp_nod _ _ db) (hu60 hu c) _ _ _ _ ⟨.bl _, H, I, rfl, q⟩
def eEqC (d : D) (fa : EF) : EF := fun r => (fa r).bind fun p => (look p.2 p.1).bind fun c => (gEq c (.d d)).bind fun z => some (z, p.2)
theorem re_eqC {X : Cx} {t : TE} {fa : EF} {q : Bool} {w : V} {d : D} (a2 : RE X.kc q t fa) (hd : ∀ H, Dp X.K H w d) : RE X.kc q (tOp (oEqD X.K) t (tC w)) (eEqC d fa) := fun B H0 F0 F H σ r z r' q j Q k => by
  simp only [eEqC, Option.bind_eq_some_iff] at q
  obtain ⟨⟨za, r1⟩, q1, c, q2, y, q3, q4⟩ := q
  cases q4
  refine a2 _ _ _ _ _ _ _ _ _ q1 j _ fun F1 H1 v e1 j1 k1 => ?_
  have b := k1.look j1 q2
  unfold gEq at q3
  split at q3
  · rename_i dx dy he
    cases he
    split at q3
    · rename_i sh
      cases q3
      obtain ⟨_, n1, _⟩ := shallow_ok sh
      exact ⟨dx, d, b.dp j1.fh n1, hd H1, sh, k F1 H1 _ e1 j1 (.bl _)⟩
    · cases q3
  · cases q3
theorem de_eqG {X : Cx} {e : Expr} {fa : EF} {q : Bool} {x : Str} {w : V} {u : Value} {d : D} {pos npos : Pos} (hu : X.A.units + 64 < cLine) (ha : DE X q e fa) (hg : Gl X x) (hm : X.mg x = some u) (rv : RelV w u) (hd : ∀ H, Dp X.K H w d)
    (hb : behindInMarks .Eq (.Name x npos) = false := by rfl) (hn : (x == ("__debug__" : Str)) = false := by decide) : DE X q (.Compare e [.Eq] [.Name x npos] pos) (eEqC d fa) := by
  obtain ⟨t, a1, a2⟩ := ha.ex
  exact ⟨_, pe_cmpR (op_eqD hu) a1 (pe_glob hg hm rv hn) hb, re_eqC a2 hd⟩
theorem dt_eqG {X : Cx} {e : Expr} {fa : EF} {q : Bool} {x : Str} {w : V} {u : Value} {d : D} {pos npos : Pos} (hu : X.A.units + 64 < cLine) (ha : DE X q e fa) (hg : Gl X x) (hm : X.mg x = some u) (rv : RelV w u) (hd : ∀ H, Dp X.K H w d)
    (hb : behindInMarks .Eq (.Name x npos) = false := by rfl) (hn : (x == ("__debug__" : Str)) = false := by decide) : DT X (.Compare e [.Eq] [.Name x npos] pos) (tE (eEqC d fa)) := by
  obtain ⟨t, a1, a2⟩ := ha.ex
  exact ⟨_, pt_cmpR (op_eqD hu) a1 (pe_glob hg hm rv hn) hb, rt_test (re_eqC a2 hd)⟩
@[simp] theorem ev_eqC (d : D) (fa : EF) (r : Env) : eEqC d fa r = (fa r).bind fun p => (look p.2 p.1).bind fun c => (gEq c (.d d)).bind fun z => some (z, p.2) := rfl
/-- the written part has this tuple at the name -/
def rootB (x s : Str) (i : Int) (K : PySem.W.Frag) : Bool := match K.lookup (He.ga K x) with
  | some ⟨.type c, _, .seq its _, _⟩ => decide (c = "tuple") && (match its.toList with
    | [.str a _, .int b _] => decide (a = s) && decide (b = i)
    | _ => false)
  | _ => false
theorem rootB_ok {K : PySem.W.Frag} {x s : Str} {i : Int} (h : rootB x s i K = true) (H : Hp) : SqT K H (He.ga K x) [.str s, .int i] := by
  unfold rootB at h
  split at h
  · rename_i c dd its n sl lk
    rw [Bool.and_eq_true] at h
    obtain ⟨h1, h2⟩ := h
    split at h2
    · rename_i a ta b tb et
      rw [Bool.and_eq_true] at h2
      have e1 := of_decide_eq_true h2.1
      have e2 := of_decide_eq_true h2.2
      subst e1; subst e2
      have hc := of_decide_eq_true h1
      refine .inr ⟨_, its, n, lk, by rw [hc], rfl, ?_, by rw [et]; exact .cons ⟨ta, rfl⟩ (.cons ⟨tb, rfl⟩ .nil)⟩
      have : its.size = its.toList.length := by simp
      rw [this, et, sizeLine_eq]
      show 2 ≤ 16777216
      omega
    · cases h2
  · cases h
theorem root_dp {K : PySem.W.Frag} {x s : Str} {i : Int} (h : rootB x s i K = true) (H : Hp) : Dp K H (.ref (He.ga K x)) (.tuple [.str s, .int i]) := .tup (rootB_ok h H) (.cons (.str s) (.cons (.int i) .nil))
/-- a module's name of a constant tuple -/
structure RootC (K : PySem.W.Frag) (mg : Str → Option Value) (x s : Str) (i : Int) : Prop where
  ex : ∃ a, mg x = some (.ref a) ∧ ∀ H, Dp K H (.ref a) (.tuple [.str s, .int i])
theorem de_eqRoot {X : Cx} {e : Expr} {fa : EF} {q : Bool} {x s : Str} {i : Int} {pos npos : Pos} (R : RootC X.K X.mg x s i) (hu : X.A.units + 64 < cLine) (ha : DE X q e fa) (hg : Gl X x)
    (hb : behindInMarks .Eq (.Name x npos) = false := by rfl) (hn : (x == ("__debug__" : Str)) = false := by decide) : DE X q (.Compare e [.Eq] [.Name x npos] pos) (eEqC (.tuple [.str s, .int i]) fa) := by
  obtain ⟨a, h1, h2⟩ := R.ex
  exact de_eqG (w := .ref a) hu ha hg h1 (show RelV (.ref a) (.ref a) from rfl) h2 hb hn
theorem dt_eqRoot {X : Cx} {e : Expr} {fa : EF} {q : Bool} {x s : Str} {i : Int} {pos npos : Pos} (R : RootC X.K X.mg x s i) (hu : X.A.units + 64 < cLine) (ha : DE X q e fa) (hg : Gl X x)
    (hb : behindInMarks .Eq (.Name x npos) = false := by rfl) (hn : (x == ("__debug__" : Str)) = false := by decide) : DT X (.Compare e [.Eq] [.Name x npos] pos) (tE (eEqC (.tuple [.str s, .int i]) fa)) := by
  obtain ⟨a, h1, h2⟩ := R.ex
  exact dt_eqG (w := .ref a) hu ha hg h1 (show RelV (.ref a) (.ref a) from rfl) h2 hb hn
/-! ### the head, with one fact more -/
def obsE (n : Nat) (fa : List He.Fa) (fn : List He.DefD) (ex : PySem.W.Frag → Bool) (g : Addr → Option Obj) : He.AlD × Bool := (He.obsD fa fn (He.frG g (He.asD g n)), ex (He.frG g (He.asD g n)))
def hookE (n : Nat) (fa : List He.Fa) (fn : List He.DefD) (ex : PySem.W.Frag → Bool) : PySem.W.Hook where
  α := He.AlD × Bool
  obs := fun s => obsE n fa fn ex s.heap.get?
  val := fun _ => (He.valD fn, true)
  says := fun _ h => ∃ K : PySem.W.Frag, K.In h ∧ He.SaysD fa fn K ∧ ex K = true
  of := fun _ _ e => ⟨_, He.frG_in, congrArg (fun z : He.AlD × Bool => z.1) e, congrArg (fun z : He.AlD × Bool => z.2) e⟩
  keeps := fun _ _ _ ⟨K, hK, c⟩ k => ⟨K, PySem.W.Frag.In.keeps hK k, c⟩
theorem obsE_eq {n : Nat} {fa : List He.Fa} {fn : List He.DefD} {ex : PySem.W.Frag → Bool} {g : Addr → Option Obj} {s : Shared} (h : ∀ a, g a = s.heap.get? a) : obsE n fa fn ex g = (hookE n fa fn ex).obs s := by
  have e : g = s.heap.get? := funext h
  rw [e] <;> rfl
/-! ### keys (text, number), whatever the text -/
theorem kOfT_any (h : Str) (n : Int) : kOfT (.tuple [.str h, .int n]) = some (nmK h n) := rfl
@[simp] theorem cGet_any (kvs : List (List Ky × D)) (h : Str) (n : Int) : cGet (.dt kvs) (.tuple [.str h, .int n]) = some (aGet kvs (nmK h n)) := rfl
@[simp] theorem cPut_any {kvs : List (List Ky × D)} (hl : kvs.length < 16777216) (h : Str) (n : Int) (d : D) : cPut (.dt kvs) (.tuple [.str h, .int n]) d = some (.dt (aPut kvs (nmK h n) d)) := by
  show (if kvs.length < 16777216 then _ else none) = _
  rw [if_pos hl]; rfl
end CM
end
section
set_option Elab.async false
set_option linter.all false
set_option maxRecDepth 100000
set_option autoImplicit false
namespace CM
open PySem PySem.Spec PyProof.Rows L2 PySem.SeqAt PySem.W
/-! ### pairs sorted by their firsts, which are apart -/
mutual
theorem alike_nod : ∀ d : D, nod d = true → W.alike d d = true
  | .none, _ => by simp [W.alike]
  | .bool _, _ => by simp [W.alike]
  | .int _, _ => by simp [W.alike]
  | .str _, _ => by simp [W.alike]
  | .list xs, n => by
    have := alike_nods xs (by unfold nod at n; exact n)
    simpa [W.alike] using this
  | .tuple xs, n => by
    have := alike_nods xs (by unfold nod at n; exact n)
    simpa [W.alike] using this
  | .dict _, n => by unfold nod at n; cases n
theorem alike_nods : ∀ ds : List D, nods ds = true → W.alikeAll ds ds = true
  | [], _ => by simp [W.alikeAll]
  | d :: ds, n => by
    obtain ⟨n1, n2⟩ := nods_cons n
    rw [W.alikeAll, alike_nod d n1, alike_nods ds n2]; rfl
end
section
variable {β : Type}
/-- the kind of keys that the firsts make -/
noncomputable def fstKind (zs : List (Value × β)) (kf : β → D) : PyProof.Rows.KeyKind where
  toKeyOrd := listOrd itemOrd
  keyOf v := open Classical in if q : ∃ z, z ∈ zs ∧ z.1 = v then some (W.keyToks (kf q.choose.2)) else none
  dflt := ([] : List (Int ⊕ List Nat))
theorem fstKind_inv {zs : List (Value × β)} {kf : β → D} {v : Value} {k : List (Int ⊕ List Nat)} (e : (fstKind zs kf).keyOf v = some k) : ∃ z, z ∈ zs ∧ z.1 = v ∧ k = W.keyToks (kf z.2) := by
  by_cases q : ∃ z, z ∈ zs ∧ z.1 = v
  · have e' : (fstKind zs kf).keyOf v = some (W.keyToks (kf q.choose.2)) := by
      show (open Classical in if q : ∃ z, z ∈ zs ∧ z.1 = v then some (W.keyToks (kf q.choose.2)) else none) = _
      rw [dif_pos q]
    rw [e'] at e
    exact ⟨_, q.choose_spec.1, q.choose_spec.2, (Option.some.inj e).symm⟩
  · have e' : (fstKind zs kf).keyOf v = none := by
      show (open Classical in if q : ∃ z, z ∈ zs ∧ z.1 = v then some (W.keyToks (kf q.choose.2)) else none) = _
      rw [dif_neg q]; rfl
    rw [e'] at e; cases e
theorem fst_uniq : ∀ {zs : List (Value × β)}, (zs.map (·.1)).Nodup → ∀ {a b : Value × β}, a ∈ zs → b ∈ zs → a.1 = b.1 → a = b
  | [], _, _, _, h, _, _ => by cases h
  | z :: zs, nd, a, b, ha, hb, e => by
    rw [List.map_cons] at nd
    obtain ⟨n1, n2⟩ := List.nodup_cons.mp nd
    rcases List.mem_cons.mp ha with x | x <;> rcases List.mem_cons.mp hb with y | y
    · rw [x, y]
    · exact absurd (List.mem_map.mpr ⟨b, y, by rw [← e, x]⟩) n1
    · exact absurd (List.mem_map.mpr ⟨a, x, by rw [e, y]⟩) n1
    · exact fst_uniq n2 x y e
theorem fstKind_some {zs : List (Value × β)} {kf : β → D} (nd : (zs.map (·.1)).Nodup) {z : Value × β} (h : z ∈ zs) : (fstKind zs kf).keyOf z.1 = some (W.keyToks (kf z.2)) := by
  have q : ∃ y, y ∈ zs ∧ y.1 = z.1 := ⟨z, h, rfl⟩
  have e' : (fstKind zs kf).keyOf z.1 = some (W.keyToks (kf q.choose.2)) := by
    show (open Classical in if q : ∃ y, y ∈ zs ∧ y.1 = z.1 then some (W.keyToks (kf q.choose.2)) else none) = _
    rw [dif_pos q]
  rw [e', fst_uniq nd q.choose_spec.1 h q.choose_spec.2]
theorem each_zip {R : Value → β → Prop} : ∀ {vs : List Value} {bs : List β}, W.EachIs R vs bs → (∀ z ∈ vs.zip bs, R z.1 z.2) ∧ W.EachIs (fun v b => (v, b) ∈ vs.zip bs) vs bs
  | _, _, .nil => ⟨(fun z h => by cases h), .nil⟩
  | _, _, .cons h t => by
    obtain ⟨i1, i2⟩ := each_zip t
    refine ⟨fun z hz => ?_, .cons (by rw [List.zip_cons_cons]; exact List.mem_cons_self) (i2.mono fun v b q => by rw [List.zip_cons_cons]; exact List.mem_cons_of_mem _ q)⟩
    rw [List.zip_cons_cons] at hz
    rcases List.mem_cons.mp hz with e | hz
    · rw [e]; exact h
    · exact i1 z hz
variable {prog : Program} {w : World} {A : Around} {s : Shared} {E : Value → Shared → Prop}
/-- values that read as pairs with alike firsts, apart, can be sorted -/
theorem sortsAt_fst {vs : List Value} {bs : List β} {kf : β → D} {enc : β → D} (e : W.EachIs (fun v b => ∃ as, Reads s.heap v (enc b) as) vs bs) (nd : vs.Nodup) (he : ∀ b ∈ bs, ∃ r, enc b = .tuple (kf b :: r)) (hn : ∀ b ∈ bs, nod (enc b) = true) (hal : W.AllAlike (bs.map kf)) (ap : ∀ z ∈ vs.zip bs, ∀ y ∈ vs.zip bs, PyData.eqv (kf z.2) (kf y.2) = true → z = y)
    (hu : ∀ b ∈ bs, A.units + (enc b).depth < cLine) : W.SortsAt prog w A s (fstKind (vs.zip bs) kf) vs := by
  obtain ⟨rd, ez⟩ := each_zip e
  have len := e.length
  have z1 : (vs.zip bs).map (·.1) = vs := List.map_fst_zip (by omega)
  have ndz : ((vs.zip bs).map (·.1)).Nodup := by rw [z1]; exact nd
  have mb : ∀ z ∈ vs.zip bs, z.2 ∈ bs := fun z hz => by
    obtain ⟨j, hj⟩ := List.mem_iff_getElem?.mp hz
    exact List.mem_of_getElem? (List.getElem?_zip_eq_some.mp hj).2
  refine ⟨fun v hv => ?_, ?_⟩
  · rw [← z1] at hv
    obtain ⟨z, hz, rfl⟩ := List.mem_map.mp hv
    exact ⟨_, fstKind_some ndz hz⟩
  · cases bs with
    | nil =>
      cases e
      exact ⟨general', fun E x y a b Q ha _ _ => (by
        obtain ⟨z, hz, _⟩ := fstKind_inv ha
        cases hz), fun h2 => absurd h2 (by simp)⟩
    | cons d₀ ds₀ =>
      have hfirst : ∀ b ∈ d₀ :: ds₀, W.alike (kf b) (kf d₀) = true := fun b hb => hal _ (List.mem_map_of_mem hb) _ (List.mem_map_of_mem List.mem_cons_self)
      refine ⟨tuples' (W.dataType (kf d₀) != Value.type "tuple"), ?_, fun h2 E Q hq => ?_⟩
      · intro E x y a b Q ha hb hq
        obtain ⟨z, hz, hx, rfl⟩ := fstKind_inv ha
        obtain ⟨z', hz', hy, rfl⟩ := fstKind_inv hb
        obtain ⟨as, ra⟩ := rd z hz
        obtain ⟨as', rb⟩ := rd z' hz'
        rw [hx] at ra
        rw [hy] at rb
        have mz := mb z hz
        have mz' := mb z' hz'
        have hh := hal _ (List.mem_map_of_mem (f := kf) mz) _ (List.mem_map_of_mem (f := kf) mz')
        have nz := hn _ mz
        have uz := hu _ mz
        have hq' : Q (PyProof.Rows.lexLt itemOrd (W.keyToks (kf z.2)) (W.keyToks (kf z'.2))) s := hq
        obtain ⟨r1, e1⟩ := he _ mz
        obtain ⟨r2, e2⟩ := he _ mz'
        have hfz := hfirst _ mz
        by_cases eq : PyData.eqv (kf z.2) (kf z'.2) = true
        · -- the same
          have zz := ap z hz z' hz' eq
          rw [← zz] at rb hq'
          have al : W.alike (enc z.2) (enc z.2) = true := alike_nod _ nz
          rw [lex_irrefl] at hq'
          rw [e1] at ra rb al uz
          cases ra with
          | @tuple l o xs n _ _ h1 h2 h3 h4 =>
            cases rb with
            | @tuple l' o' xs' n' _ _ k1 k2 k3 k4 =>
              have n1 : xs.size = (kf z.2 :: r1).length := by simpa using SeqAt.ReadsAll.length _ _ _ h4
              have n2 : xs'.size = (kf z.2 :: r1).length := by simpa using SeqAt.ReadsAll.length _ _ _ k4
              have room : A.units + min (PyData.tuple (kf z.2 :: r1)).depth (PyData.tuple (kf z.2 :: r1)).depth < cLine := by omega
              refine kat_lt h1 h3 k1 k3 (W.katLex_alike (kf z.2 :: r1) (kf z.2 :: r1) 0 _ _ _ _ h4 k4 (by simpa [W.alike] using al) (by have q := SeqAt.room_in room; omega) (fun hb _ x r t ex => ?_) (by rw [n1, n2]) (by rw [lex_irrefl]; exact hq'))
              obtain ⟨rfl, rfl⟩ := List.cons.inj ex
              have q := W.dataType_alike hfz
              rw [← q] at hb
              exact W.dataType_tuple hb t
        · -- apart
          have eq : PyData.eqv (kf z.2) (kf z'.2) = false := by simpa using eq
          rw [e1] at ra uz
          rw [e2] at rb
          cases ra with
          | @tuple l o xs n _ _ h1 h2 h3 h4 =>
            cases rb with
            | @tuple l' o' xs' n' _ _ k1 k2 k3 k4 =>
              refine kat_lt h1 h3 k1 k3 ?_
              cases hl : xs.toList with
              | nil => rw [hl] at h4; cases h4
              | cons p ps =>
                cases hl' : xs'.toList with
                | nil => rw [hl'] at k4; cases k4
                | cons p' ps' =>
                  rw [hl] at h4
                  rw [hl'] at k4
                  cases h4 with
                  | cons g1 g2 =>
                    cases k4 with
                    | cons j1 j2 =>
                      have room : A.units + min (kf z.2).depth (kf z'.2).depth < cLine := by
                        have : (kf z.2).depth ≤ (PyData.tuple (kf z.2 :: r1)).depth := by
                          simp only [PyData.depth, PyData.depthAll]; omega
                        omega
                      rw [List.zip_cons_cons]
                      refine kat_cons (W.eqAt_alike (kf z.2) (kf z'.2) A s _ _ _ _ g1 j1 hh room prog w _ _ ?_)
                      rw [eq]
                      refine kat_no (W.oneLt_alike (fun hbi t ex => ?_) g1 j1 hh (W.ne_none_of hh eq) room hq')
                      rw [Bool.and_eq_true] at hbi
                      have q := W.dataType_alike hfz
                      rw [← q] at hbi
                      exact W.dataType_tuple hbi.1 t ex
      · obtain ⟨fs, t1, t2, t3⟩ := W.each_katTups (W.each_map (R := fun v d => ∃ as, Reads s.heap v d as) enc e) (fun d hd => by
          obtain ⟨b, hb, rfl⟩ := List.mem_map.mp hd
          obtain ⟨r, h⟩ := he b hb
          exact ⟨_, _, h⟩)
        refine kat_kind (T := W.dataType (kf d₀)) t1 (by omega) (fun f hf => ?_) (beq_self_eq_true _) hq
        obtain ⟨x, r, as, m1, m2⟩ := t3 f hf
        obtain ⟨b, hb, eb⟩ := List.mem_map.mp m1
        obtain ⟨r', h'⟩ := he b hb
        rw [h'] at eb
        have ex : kf b = x := by injection eb with eb; exact (List.cons.inj eb).1
        rw [← W.dataType_alike (hfirst b hb), ex]
        exact W.looks_reads m2
theorem sortVals_fst {h' : Heap} {R : Value → β → Prop} {kf : β → D} {vs : List Value} {bs : List β} (e : W.EachIs R vs bs) (nd : vs.Nodup) : W.EachIs R (W.sortVals (fstKind (vs.zip bs) kf) false vs vs) (bs.mergeSort (W.dataLe false kf)) := by
  have z1 : (vs.zip bs).map (·.1) = vs := List.map_fst_zip (by have := e.length; omega)
  exact W.sortVals_each (κ := fstKind (vs.zip bs) kf) (fun b => W.keyToks (kf b)) e ((each_zip e).2.mono fun v b h => fstKind_some (z := (v, b)) (by rw [z1]; exact nd) h)
theorem list_sort_fst {vs : List Value} {bs : List β} {kf : β → D} {enc : β → D} {R : Value → β → Prop} {a : Addr} {n : Nat} {Q : Value → Shared → Prop} (ho : s.heap.get? a = some (seqObj "list" vs.toArray n)) (e : W.EachIs R vs bs) (er : W.EachIs (fun v b => ∃ as, Reads s.heap v (enc b) as ∧ a ∉ as) vs bs) (nd : vs.Nodup) (he : ∀ b ∈ bs, ∃ r, enc b = .tuple (kf b :: r)) (hn : ∀ b ∈ bs, nod (enc b) = true) (hal : W.AllAlike (bs.map kf)) (ap : ∀ z ∈ vs.zip bs, ∀ y ∈ vs.zip bs, PyData.eqv (kf z.2) (kf y.2) = true → z = y) (hL : bs.length ≤ sizeLine)
    (hu : ∀ b ∈ bs, A.units + 1 + (enc b).depth < cLine) (h : ∀ out, out.length = bs.length → W.EachIs R out (bs.mergeSort (W.dataLe false kf)) → Q .none { s with heap := sortedHeap s.heap a vs (List.toArray out) }) :
    wpAny (model prog w) A (call (.builtin "list.sort") [.ref a]) Q E s := by
  have er' : W.EachIs (fun v b => ∃ as, Reads (W.sortingHeap s.heap a vs) v (enc b) as) vs bs := (W.each_mem er).mono fun v b ⟨⟨as, r, hna⟩, hb⟩ => ⟨as, W.Reads.keepBut (h' := W.sortingHeap s.heap a vs) (fun _ _ hb q => W.sortingHeap_old hb q) (fun o q => by rw [ho] at q; rw [← Option.some.inj q]) _ _ _ (alike_nod _ (hn b hb)) r hna⟩
  refine wpAny_call_entry slot_list_sort ⟨_, ho, rfl⟩ entry_list_sort (W.list_sort_vals (κ := fstKind (vs.zip bs) kf) ho (sortsAt_fst (s := { s with heap := W.sortingHeap s.heap a vs }) er' nd he hn hal ap hu) (by rw [e.length]; exact hL) ⟨.none, rfl, ?_⟩) (args_list_sort _)
  exact h _ (by rw [W.sortVals_length false rfl]; exact e.length) (sortVals_fst (h' := s.heap) e nd)
end
end CM
end
section
set_option Elab.async false
set_option linter.all false
set_option maxRecDepth 100000
set_option autoImplicit false
namespace CM
open PySem PySem.Spec PyProof.Rows L2 PySem.SeqAt
/-! ### sorted(d.items()), the keys tuples -/
def sortF (qs : List (D × D)) : List (D × D) := qs.mergeSort fun a b => leD a.1 b.1
def apartB : List (D × D) → Bool
  | [] => true
  | q :: r => (r.all fun x => !PyData.eqv q.1 x.1) && apartB r
def fstB (qs : List (D × D)) : Bool := nods (qs.map itemD) && alikeB (qs.map (·.1)) && apartB qs && ((qs.map itemD).all fun x => decide (x.depth ≤ 60)) && (qs.all fun q => !tuT [q.1, q.2]) && decide (qs.length ≤ 16777216)
theorem apartB_ok : ∀ {qs : List (D × D)}, apartB qs = true → ∀ (i j : Nat) (x y : D × D), i < j → qs[i]? = some x → qs[j]? = some y → PyData.eqv x.1 y.1 = false
  | [], _, i, j, x, y, _, h, _ => by cases h
  | q :: r, h, i, j, x, y, l, hi, hj => by
    unfold apartB at h
    rw [Bool.and_eq_true] at h
    obtain ⟨h1, h2⟩ := h
    cases j with
    | zero => omega
    | succ j =>
      have hj : r[j]? = some y := hj
      cases i with
      | zero =>
        cases hi
        have := List.all_eq_true.mp h1 y (List.mem_of_getElem? hj)
        simpa using this
      | succ i => exact apartB_ok h2 i j x y (by omega) hi hj
theorem fstB_ok {qs : List (D × D)} (h : fstB qs = true) : nods (qs.map itemD) = true ∧ W.AllAlike (qs.map (·.1)) ∧ (∀ (i j : Nat) (x y : D × D), i < j → qs[i]? = some x → qs[j]? = some y → PyData.eqv x.1 y.1 = false) ∧ (∀ d ∈ qs.map itemD, d.depth ≤ 60) ∧ (∀ q ∈ qs, tuT [q.1, q.2] = false) ∧ qs.length ≤ sizeLine := by
  unfold fstB at h
  simp only [Bool.and_eq_true] at h
  obtain ⟨⟨⟨⟨⟨h0, h1⟩, h2⟩, h3⟩, h4⟩, h5⟩ := h
  refine ⟨h0, alikeB_ok h1, apartB_ok h2, fun d hd => ?_, fun q hq => ?_, sz_ok (of_decide_eq_true h5)⟩
  · exact of_decide_eq_true (List.all_eq_true.mp h3 d hd)
  · have := List.all_eq_true.mp h4 q hq
    simpa using this
section
variable {X : Cx}
theorem more_grow {F : Fz} {H : Hp} {bs : List Addr} (e : Ex F.f H) (tb : ∀ b ∈ bs, ∃ xs, H b = some (.tup xs)) : Grow F H (F.more bs H) H := ⟨Fz.more_old, rfl, .refl _, fun a o w => by
    rcases Fz.more_in w with z | ⟨_, z⟩
    · exact e _ _ z
    · exact z, fun a o w => by
    rcases Fz.more_in w with z | ⟨h, z⟩
    · exact .inl z
    · obtain ⟨xs, t⟩ := tb a h
      rw [t] at z; cases z
      exact .inr (.inr ⟨_, rfl⟩)⟩
theorem items_atT {F : Fz} {H : Hp} {a : Addr} {es : List (List Key × V)} {kvs : List (List Ky × D)} (e : Ex F.f H) (rd : Rd H a (.dT es)) (kv : KVs X.kc F es kvs) (nek : ∀ e ∈ kvs, e.1 ≠ []) {pins : List (Addr × Obj)} {σ : L2.St} {s : Shared} (I : Inv X pins σ H s) :
    ∃ bs ps, (∀ b ∈ bs, ∃ xs, H b = some (.tup xs)) ∧ ItemsAt X (F.more bs H) s a ps (kvs.map fun e => (PyData.tuple (e.1.map kD), e.2)) := by
  obtain ⟨z, hd, xs, rel, o, en, ep, h1, h2, h3, h4, _⟩ := dt_rd I.hok rd
  have l : es.length = xs.length := Paired.length rel
  have sz : en.size = xs.length := by rw [← Array.length_toList, h4, List.length_map]
  have lk : es.length = kvs.length := Paired.length kv
  have tb : ∀ b ∈ xs.map (·.2.1), ∃ ys, H b = some (.tup ys) := fun b hb => by
    obtain ⟨x, hx, rfl⟩ := List.mem_map.mp hb
    obtain ⟨i, hi⟩ := List.mem_iff_getElem?.mp hx
    have il := (List.getElem?_eq_some_iff.mp hi).1
    obtain ⟨q, e1, _, g2, _⟩ := LiI.paired_get rel (List.getElem?_eq_getElem (show i < es.length by omega))
    rw [hi] at e1
    cases e1
    exact ⟨_, g2⟩
  refine ⟨xs.map (·.2.1), (xs.zip es).map fun y => (V.ref y.1.2.1, y.2.2), tb, ⟨⟨en, ep, ⟨o, h1, h2, h3⟩, by simp; omega, by omega, fun i hi => ?_⟩, by simp; omega⟩⟩
  have hk : es[i]? = some (es[i]'(by omega)) := List.getElem?_eq_getElem _
  obtain ⟨q, e1, g1, g2, g3⟩ := LiI.paired_get rel hk
  obtain ⟨p, w1, w2, w3⟩ := LiI.paired_get kv hk
  have at_ := entry_at h4 i
  rw [e1, Array.getElem?_eq_getElem hi] at at_
  have at_ : en[i] = entryOfKey _ q := Option.some.inj at_
  refine ⟨(V.ref q.2.1, (es[i]'(by omega)).2), (PyData.tuple (p.1.map kD), p.2), ?_, by rw [List.getElem?_map, w1]; rfl, ?_, ?_, ?_, ?_⟩
  · have hz : (xs.zip es)[i]? = some (q, es[i]'(by omega)) := List.getElem?_zip_eq_some.mpr ⟨e1, hk⟩
    rw [List.getElem?_map, hz]; rfl
  · rw [at_]; exact rfl
  · rw [at_]; exact g3
  · refine .tup (.flat (tuT_keys (nek p (List.mem_of_getElem? w1))) (Fz.more_at e (List.mem_map_of_mem (List.mem_of_getElem? e1)) (by rw [← w2]; exact g2))) (vpAll_keys p.1)
  · exact Vp.up (more_grow e tb).fe _ _ w3
def rSortItemsT (X : Cx) : List V → Hp → VK → Prop := fun vs H Q => ∃ (F : Fz) (p a : Addr), vs = [.ref p] ∧ Ex F.f H ∧ H p = some (L2.DX.itemsO p a) ∧ ∃ (es : List (List Key × V)) (kvs : List (List Ky × D)), Rd H a (.dT es) ∧ KVs X.kc F es kvs ∧ (∀ e ∈ kvs, e.1 ≠ []) ∧ fstB (kvs.map fun e => (PyData.tuple (e.1.map kD), e.2)) = true ∧
  ∀ F' H' l ts, Grow F H F' H' → H l = none → F'.f l = none → H' l = some (.lst ts) → VpAll X.kc F' ts ((sortF (kvs.map fun e => (PyData.tuple (e.1.map kD), e.2))).map itemD) → Q (.ref l) H'
theorem cr_sortItemsT (hc : X.calm = true) (hu : X.A.units + 64 < cLine) : CallR X (.builtin "sorted") (rSortItemsT X) := by
  intro pins s σ H xs us Q I r h
  obtain ⟨F0, p, a, rfl, e0, hp, es0, kvs, rd, kv, nek, sB, q⟩ := h
  obtain rfl := Vals.ref1 r
  obtain ⟨bs, ps, tb, ⟨es, ep, raw, sz, sl, at'⟩, lpq⟩ := items_atT e0 rd kv nek I
  generalize hF : F0.more bs H = F at *
  have g0 : Grow F0 H F H := by rw [← hF]; exact more_grow e0 tb
  have e : Ex F.f H := g0.fh
  generalize hqs : (kvs.map fun e => (PyData.tuple (e.1.map kD), e.2)) = qs at *
  obtain ⟨nd, al, ap, dp, nq, ln⟩ := fstB_ok sB
  have view : s.heap.IsItemsView p a := (show ObjOk X.prog X.w H s.heap p (L2.DX.itemsO p a) from I.hok p _ hp).1
  refine DT.sortedI (es := es) (ep := ep) (I.ok.hd hc) view raw sl fun h' tk as hk hlt hl hG => ?_
  have lak : as.length = qs.length := by omega
  have ndA : as.Nodup := List.Pairwise.imp (fun h => Nat.ne_of_lt h) hG.rise
  -- the pairs that were made
  have pr : ∀ (j : Nat) (b : Addr), as[j]? = some b → ∃ (pp : V × V) (qq : D × D) (u v : Value), ps[j]? = some pp ∧ qs[j]? = some qq ∧ RelV pp.1 u ∧ RelV pp.2 v ∧ Vp X.kc F pp.1 qq.1 ∧ Vp X.kc F pp.2 qq.2 ∧ h'.get? b = some { cls := .type "tuple", data := .seq #[u, v] } := by
    intro j b hj
    obtain ⟨en, he, hg⟩ := hG.pairs j b hj
    have hj' : j < es.size := by
      rcases Nat.lt_or_ge j es.size with w | w
      · exact w
      · rw [Array.getElem?_eq_none w] at he; cases he
    obtain ⟨pp, qq, h1, h2, h3, h4, h5, h6⟩ := at' j hj'
    rw [Array.getElem?_eq_getElem hj'] at he
    cases he
    exact ⟨pp, qq, _, _, h1, h2, h3, h4, h5, h6, hg⟩
  have nodq : ∀ (j : Nat) (qq : D × D), qs[j]? = some qq → nod qq.1 = true ∧ nod qq.2 = true := fun j qq h => by
    have m : itemD qq ∈ qs.map itemD := List.mem_map.mpr ⟨qq, List.mem_of_getElem? h, rfl⟩
    have := nods_mem nd m
    have h2 : nods [qq.1, qq.2] = true := by
      have this : nod (.tuple [qq.1, qq.2]) = true := this
      unfold nod at this
      exact this
    obtain ⟨a1, a2⟩ := nods_cons h2
    exact ⟨a1, (nods_cons a2).1⟩
  have hob : (h'.push { cls := .type "list", data := .seq (as.map Value.ref).toArray }).get? h'.objs.size = some (seqObj "list" (as.map Value.ref).toArray 0) := Heap.get?_push_size _ rfl
  have kb : ∀ b o, s.heap.get? b = some o → (h'.push { cls := .type "list", data := .seq (as.map Value.ref).toArray }).get? b = some o := fun b o e => Heap.get?_push_of_some _ (hk b o e)
  have ne0 : ∀ b o, h'.get? b = some o → b ≠ h'.objs.size := fun b o e => Nat.ne_of_lt (Heap.lt_size e)
  generalize hh2 : h'.push { cls := .type "list", data := .seq (as.map Value.ref).toArray } = h2 at hob kb ⊢
  have ka : ∀ b o, h'.get? b = some o → h2.get? b = some o := fun b o e => by rw [← hh2]; exact Heap.get?_push_of_some _ e
  have zl : (as.zip qs).length = qs.length := by rw [List.length_zip]; omega
  have zmem : ∀ z ∈ as.zip qs, ∃ j, as[j]? = some z.1 ∧ qs[j]? = some z.2 := fun z hz => by
    obtain ⟨j, hj⟩ := List.mem_iff_getElem?.mp hz
    exact ⟨j, List.getElem?_zip_eq_some.mp hj⟩
  have eR : W.EachIs (fun (v : Value) (z : Addr × D × D) => v = .ref z.1 ∧ z ∈ as.zip qs) (as.map Value.ref) (as.zip qs) := by
    have g : ∀ (as : List Addr) (qs : List (D × D)), as.length = qs.length → W.EachIs (fun (v : Value) (z : Addr × D × D) => v = .ref z.1) (as.map Value.ref) (as.zip qs) := fun as => by
      induction as with
      | nil => intro qs h; cases qs with
        | nil => exact .nil
        | cons _ _ => cases h
      | cons a as ih => intro qs h; cases qs with
        | nil => cases h
        | cons q qs => exact .cons rfl (ih qs (by simpa using h))
    exact each_mono (g as qs lak) fun u p hp h => ⟨h, hp⟩
  have eRd : W.EachIs (fun (v : Value) (z : Addr × D × D) => ∃ bs, Reads h2 v (itemD z.2) bs ∧ h'.objs.size ∉ bs) (as.map Value.ref) (as.zip qs) := each_mono eR fun u z hz ⟨h1, h2'⟩ => by
    subst h1
    obtain ⟨j, j1, j2⟩ := zmem z hz
    obtain ⟨pp, qq, u, v, g1, g2, g3, g4, g5, g6, g7⟩ := pr j z.1 j1
    rw [j2] at g2; cases g2
    obtain ⟨n1, n2⟩ := nodq j _ j2
    obtain ⟨b1, r1⟩ := dp_reads_nod I e g5 g3 n1
    obtain ⟨b2, r2⟩ := dp_reads_nod I e g6 g4 n2
    have w1 := PyProof.Rows.Reads.keeps kb r1
    have w2 := PyProof.Rows.Reads.keeps kb r2
    have lo : ∀ (d : D) (u : Value) (bs : List Addr), nod d = true → Reads s.heap u d bs → h'.objs.size ∉ bs := fun d u bs n rr z => by
      exact Nat.lt_asymm hlt (reads_lt d u bs n rr _ z)
    refine ⟨_, .tuple (ka _ _ g7) rfl rfl (.cons w1 (.cons w2 .nil)), ?_⟩
    intro z
    simp at z
    rcases z with z | z
    · exact lo _ _ _ n1 r1 z
    · exact lo _ _ _ n2 r2 z
  have m1 : (as.zip qs).map (fun z : Addr × D × D => z.2.1) = qs.map (·.1) := by
    rw [show (fun z : Addr × D × D => z.2.1) = (·.1) ∘ (fun z : Addr × D × D => z.2) from rfl, ← List.map_map, show (as.zip qs).map (fun z : Addr × D × D => z.2) = qs from List.map_snd_zip (by omega)]
  refine list_sort_fst (s := { s with heap := h2, toks := tk }) (kf := fun z : Addr × D × D => z.2.1) (enc := fun z : Addr × D × D => itemD z.2) hob eR eRd ?_ (fun z _ => ⟨[z.2.2], rfl⟩) (fun z hz => ?_) (by rw [m1]; exact al) ?_ (by rw [zl]; exact ln) (fun z hz => ?_) fun out hout eo => ?_
  · exact List.Pairwise.map _ (fun a b h z => h (by injection z)) ndA
  · obtain ⟨j, j1, j2⟩ := zmem z hz
    exact nods_mem nd (List.mem_map.mpr ⟨z.2, List.mem_of_getElem? j2, rfl⟩)
  · have zz : ∀ y ∈ (as.map Value.ref).zip (as.zip qs), ∃ j : Nat, ((as.map Value.ref).zip (as.zip qs))[j]? = some y ∧ qs[j]? = some y.2.2 := fun y hy => by
      obtain ⟨j, hj⟩ := List.mem_iff_getElem?.mp hy
      obtain ⟨_, h2⟩ := List.getElem?_zip_eq_some.mp hj
      exact ⟨j, hj, (List.getElem?_zip_eq_some.mp h2).2⟩
    intro y hy x hx eq
    obtain ⟨i, i1, i2⟩ := zz y hy
    obtain ⟨j, j1, j2⟩ := zz x hx
    have ij : i = j := by
      rcases Nat.lt_trichotomy i j with l | l | l
      · have := ap i j _ _ l i2 j2
        rw [eq] at this; cases this
      · exact l
      · have := ap j i _ _ l j2 i2
        rw [PySem.W.eqv_comm] at this
        rw [eq] at this; cases this
    rw [ij] at i1
    rw [i1] at j1
    exact Option.some.inj j1
  · obtain ⟨j, j1, j2⟩ := zmem z hz
    have d1 := dp (itemD z.2) (List.mem_map.mpr ⟨z.2, List.mem_of_getElem? j2, rfl⟩)
    have d2 : X.A.in1.units = X.A.units + 1 := rfl
    show X.A.in1.units + 1 + (itemD z.2).depth < cLine
    omega
  · show EP X pins σ Q (.ref h'.objs.size) { s with heap := sortedHeap h2 h'.objs.size (as.map Value.ref) out.toArray, toks := tk }
    generalize hzs : (as.zip qs).mergeSort (W.dataLe false fun z : Addr × D × D => z.2.1) = zs at eo
    have pz : zs.Perm (as.zip qs) := by rw [← hzs]; exact List.mergeSort_perm _ _
    have hm : zs.map (fun z => itemD z.2) = (sortF qs).map itemD := by
      rw [← hzs]
      have m : (as.zip qs).map (fun z : Addr × D × D => z.2) = qs := List.map_snd_zip (by omega)
      rw [show (fun z : Addr × D × D => itemD z.2) = itemD ∘ (fun z : Addr × D × D => z.2) from rfl, ← List.map_map]
      refine congrArg (List.map itemD) ?_
      rw [← m]
      unfold sortF
      rw [m]
      have w := W.sort_maps (r := W.dataLe false fun z : Addr × D × D => z.2.1) (s := fun a b : D × D => leD a.1 b.1) (l := as.zip qs) (fun z : Addr × D × D => z.2) fun a _ b _ => rfl
      rw [w, m]
    have hvr : out = zs.map fun z => Value.ref z.1 := by
      clear hout hzs pz hm
      have g : ∀ (out : List Value) (zs : List (Addr × D × D)), W.EachIs (fun (v : Value) (z : Addr × D × D) => v = .ref z.1 ∧ z ∈ as.zip qs) out zs → out = zs.map fun z => Value.ref z.1 := fun out => by
        induction out with
        | nil => intro zs h; cases zs with
          | nil => rfl
          | cons _ _ => cases h
        | cons o out ih => intro zs h; cases zs with
          | nil => cases h
          | cons z zs => cases h with
            | cons h1 h2 => rw [List.map_cons, ih zs h2, h1.1]
      exact g out zs eo
    have kF : ∀ b o, b ≠ h'.objs.size → h2.get? b = some o → (sortedHeap h2 h'.objs.size (as.map Value.ref) out.toArray).get? b = some o := fun b o hb e => (PyProof.Rows.sortedHeap_old hb (Heap.lt_size e)).trans e
    have kS : ∀ b o, s.heap.get? b = some o → (sortedHeap h2 h'.objs.size (as.map Value.ref) out.toArray).get? b = some o := fun b o e => kF b o (ne0 _ _ (hk b o e)) (kb b o e)
    obtain ⟨eF, heF⟩ := PyProof.Rows.sortedHeap_at (vs := as.map Value.ref) (out := out.toArray) hob
    have I1 : Inv X pins σ H { s with heap := sortedHeap h2 h'.objs.size (as.map Value.ref) out.toArray, toks := tk } := I.kept (t' := tk) kS
    have hn0 : H h'.objs.size = none := I.hok.fresh (Nat.le_of_lt hlt)
    have zlen : zs.length = qs.length := by rw [pz.length_eq, zl]
    have hlen : (zs.map fun z => V.ref z.1).length ≤ sizeLine := by rw [List.length_map, zlen]; exact ln
    have rv : Vals (zs.map fun z => V.ref z.1) out := by
      rw [hvr]
      exact vals_maps (fun z : Addr × D × D => V.ref z.1) (fun z => Value.ref z.1) zs fun _ _ => rfl
    have I2 : Inv X pins σ (upd H h'.objs.size (.lst (zs.map fun z => V.ref z.1))) { s with heap := sortedHeap h2 h'.objs.size (as.map Value.ref) out.toArray, toks := tk } :=
      I1.take (h' := sortedHeap h2 h'.objs.size (as.map Value.ref) out.toArray) (t' := tk) (fun b ob _ e => e) (I.fpOk (Nat.le_of_lt hlt) hn0) ⟨hlen, out, eF, rv, heF⟩
    obtain ⟨H2, I3, g, qt⟩ := L2.DX.takeT (P := fun b vs => ∃ (j : Nat) (pp : V × V), as[j]? = some b ∧ ps[j]? = some pp ∧ vs = [pp.1, pp.2]) I as _ I2 ndA fun b hb => by
      obtain ⟨j, hj⟩ := List.mem_iff_getElem?.mp hb
      obtain ⟨pp, qq, u, v, g1, g2, g3, g4, g5, g6, g7⟩ := pr j b hj
      have hbl : s.heap.objs.size ≤ b := Nat.le_of_lt (hG.above b hb)
      refine ⟨hbl, ?_, [pp.1, pp.2], ⟨j, pp, hj, g1, rfl⟩, fun H3 => ⟨(by rw [sizeLine_eq]; show 2 ≤ 16777216; omega), [u, v], .cons g3 (.cons g4 .nil), ⟨_, kF _ _ (ne0 _ _ g7) (ka _ _ g7), rfl, 0, rfl⟩⟩⟩
      rw [upd_ne (ne0 _ _ g7)]
      exact I.hok.fresh hbl
    have gr : ∀ b o, H b = some o → H2 b = some o := fun b o e => g b o (by rw [upd_ne (ne_of_none e hn0)]; exact e)
    have newA : ∀ b ∈ as, H b = none := fun b hb => I.hok.fresh (Nat.le_of_lt (hG.above b hb))
    have lna : h'.objs.size ∉ as := fun z => by
      obtain ⟨j, hj⟩ := List.mem_iff_getElem?.mp z
      obtain ⟨_, _, _, _, _, _, _, _, _, _, g7⟩ := pr j _ hj
      exact ne0 _ _ g7 rfl
    have eF2 : Ex F.f H2 := e.trans gr
    have gw : Grow F H (F.more as H2) H2 := ⟨Fz.more_old, rfl, gr, fun a o h => by
      rcases Fz.more_in h with z | ⟨_, z⟩
      · exact eF2 a o z
      · exact z, fun a o h => by
      rcases Fz.more_in h with z | ⟨z, _⟩
      · exact .inl z
      · exact .inr (.inl (newA a z))⟩
    have fl : (F.more as H2).f h'.objs.size = none := by
      cases w : (F.more as H2).f h'.objs.size with
      | none => rfl
      | some o =>
        rcases Fz.more_in w with z | ⟨z, _⟩
        · have := e _ _ z; rw [hn0] at this; cases this
        · exact absurd z lna
    refine ⟨.ref h'.objs.size, H2, I3, rfl, q _ H2 h'.objs.size _ (g0.trans gw) hn0 fl (g _ _ upd_same) ?_⟩
    rw [← hm]
    have fin : ∀ zs : List (Addr × D × D), (∀ z ∈ zs, z ∈ as.zip qs) → VpAll X.kc (F.more as H2) (zs.map fun z => V.ref z.1) (zs.map fun z => itemD z.2) := fun zs => by
      induction zs with
      | nil => intro _; exact .nil
      | cons z zs ih =>
        intro hz
        obtain ⟨j, j1, j2⟩ := zmem z (hz z List.mem_cons_self)
        have hza : z.1 ∈ as := List.mem_of_getElem? j1
        obtain ⟨vs, ⟨i, pp, i1, i2, ev⟩, hH⟩ := qt z.1 hza
        have eij : i = j := (List.getElem?_inj (List.getElem?_eq_some_iff.mp i1).1 ndA).mp (i1.trans j1.symm)
        subst eij
        obtain ⟨pp', qq, u, v, g1, g2, g3, g4, g5, g6, g7⟩ := pr i z.1 j1
        rw [i2] at g1; cases g1
        rw [j2] at g2; cases g2
        subst ev
        refine .cons ?_ (ih fun y hy => hz y (List.mem_cons_of_mem _ hy))
        exact .tup (.flat (nq _ (List.mem_of_getElem? j2)) (Fz.more_at eF2 hza hH)) (.cons (Vp.up gw.fe _ _ g5) (.cons (Vp.up gw.fe _ _ g6) .nil))
    exact fin zs fun z hz => pz.mem_iff.mp hz
def itemsT : C → Option (List (D × D))
  | .dt kvs => if (kvs.all fun e => !e.1.isEmpty) = true then some (kvs.map fun e => (.tuple (e.1.map kD), e.2)) else none
  | _ => none
def gSortItT (c : C) : Option Res := (itemsT c).bind fun qs => if fstB qs = true then some (.fr (.d (.list ((sortF qs).map itemD)))) else none
variable {e : Expr} {fa : EF} {qb : Bool} {p pos apos cpos : Pos}
theorem de_sortItemsT (hc : X.calm = true) (hu : X.A.units + 64 < cLine) (ha : DE X qb e fa) (hg : Gl X "sorted") (hm : X.mg "sorted" = none) (hv : bootBuiltins "sorted" = some (.builtin "sorted"))
    (hbase : attributeBase e "items" X.env (eval e X.env) = eval e X.env := by rfl) (hline : (apos.endLine == cpos.line) = true := by rfl)
    (he : starEach [.Call (.Attribute e "items" apos) [] [] cpos] X.env = (false, eval (.Call (.Attribute e "items" apos) [] [] cpos) X.env) :: starEach [] X.env := by rfl) (hpl : (backTo pos (starEach [] X.env)).any (·.1) = false := by rfl) :
    DE X qb (.Call (.Name "sorted" p) [.Call (.Attribute e "items" apos) [] [] cpos] [] pos) (eUn gSortItT fa) := by
  obtain ⟨t, a1, a2⟩ := ha.ex
  refine ⟨_, pe_callB (cr_sortItemsT hc hu) hg hm hv (pa_cons (pe_dm0 PySem.F.slot_dict_items PySem.F.type_dict_items mt_itemsD a1 hbase hline) pa_nil he) (by decide) (by decide) he hpl, fun B H0 F0 F H σ r z r' q j Q k => ?_⟩
  simp only [eUn, gSortItT, Option.bind_eq_some_iff] at q
  obtain ⟨⟨z1, r1⟩, q1, u, q2, w, ⟨qs, q3, q4⟩, q5⟩ := q
  split at q4
  · rename_i sB
    cases q4
    cases q5
    refine a2 _ _ _ _ _ _ _ _ _ q1 j _ fun F1 H1 v g1 j1 k1 => ?_
    have b := k1.look j1 q2
    cases u with
    | dt kvs =>
      unfold itemsT at q3
      dsimp only at q3
      split at q3
      case isFalse => cases q3
      rename_i ne
      cases q3
      have nek : ∀ e ∈ kvs, e.1 ≠ [] := fun e he z => by
        have := List.all_eq_true.mp ne e he
        rw [z] at this
        cases this
      obtain ⟨a, es, rfl, rd, kv⟩ := b
      refine ⟨⟨a, rfl, .inr ⟨es, rd⟩⟩, a, rfl, rfl, .inr ⟨es, rd⟩, fun n hn => ?_⟩
      have ga : Grow F1 H1 F1 (upd H1 n (L2.DX.itemsO n a)) := .lay j1.fh hn
      have j2 := j1.grow ga
      refine ⟨F1, n, a, rfl, j2.fh, upd_same, es, kvs, (Ex.new hn).rd rd, kv, nek, sB, fun F2 H2 l ts gw hl hf hH vp => ?_⟩
      have ht : F1.t l = none := by
        cases w : F1.t l with
        | none => rfl
        | some u => exact absurd hl (j2.so.sep l u w).2.1
      exact k _ _ _ ((g1.qt ga.ge).qt gw.ge) (j2.grow gw) (RetOk.res j2 gw ⟨l, rfl, hl, hf, by rw [gw.t]; exact ht, ts, hH, vp⟩)
    | d x => cases q3
    | dk kvs => cases q3
  · cases q4
end
end CM
end
section
set_option Elab.async false
set_option linter.all false
set_option maxRecDepth 100000
set_option autoImplicit false
namespace CM
open PySem PySem.Spec PyProof.Rows L2
/-! ### e.append(x), e a new list that no name holds -/
def eAppX (a x : EF) : EF := fun r => (a r).bind fun p => (frL p.1).bind fun ds => if ds.length < 16777216 then (x p.2).bind fun q => some (.sh .none, q.2) else none
section
variable {X : Cx} {e e1 : Expr} {fa fx : EF} {q1 : Bool}
theorem de_appX {apos cpos : Pos} (he : DE X q1 e fa) (hx : DE X true e1 fx)
    (hbase : attributeBase e "append" X.env (eval e X.env) = eval e X.env := by rfl)
    (hfew : ((backTo cpos (starEach [e1] X.env)).all (fun x => !x.1) && (backToKw cpos (keywordEach [] X.env)).all (fun x => x.1.isSome)
      && decide (([e1] : List Expr).length + ([] : List Keyword).length + (if ([] : List Keyword).isEmpty then 0 else 1) < 30)) = true := by rfl)
    (hline : (apos.endLine == cpos.line) = true := by rfl) (hs : starEach [e1] X.env = (false, eval e1 X.env) :: starEach [] X.env := by rfl) (hplain : (backTo cpos (starEach [] X.env)).any (·.1) = false := by rfl) :
    DE X false (.Call (.Attribute e "append" apos) [e1] [] cpos) (eAppX fa fx) := by
  obtain ⟨t, a1, a2⟩ := he.ex
  obtain ⟨t1, b1, b2⟩ := hx.ex
  refine ⟨_, pe_bm PySem.F.plainAttrs_list PySem.F.slot_list_append PySem.F.type_list_append mt_append a1 (pa_cons b1 pa_nil hs) hbase hfew hline hs hplain, fun B H0 F0 F H σ r z r' q j Q k => ?_⟩
  simp only [eAppX, Option.bind_eq_some_iff] at q
  obtain ⟨⟨z1, r1⟩, q1, ds, q2, q3⟩ := q
  split at q3
  · rename_i hl
    simp only [Option.bind_eq_some_iff] at q3
    obtain ⟨⟨z2, r2⟩, q4, q5⟩ := q3
    cases q5
    cases frL_is q2
    refine a2 _ _ _ _ _ _ _ _ _ q1 j _ fun F1 H1 v e1 j1 k1 => ?_
    have k2 := k1
    obtain ⟨p, rfl, h0, hf, ht, od, hn⟩ := k2
    have ty := lst_ty F1 H1 p _ rfl od
    refine ⟨ty, b2.around q4 j1 k1 _ fun F2 H2 u g j2 k3 k4 => ?_⟩
    have k5 := k3
    obtain ⟨p', e', h0', hf', ht', od', hn'⟩ := k5
    cases e'
    obtain ⟨vs, hx, da⟩ := od'
    exact ⟨p, vs, u, rfl, rfl, hx, by rw [VpAll.length da, sizeLine_eq]; exact hl, k F2 _ _ ⟨(e1.qt g).f, (e1.qt g).k, fun z => by cases z⟩ (j2.off _ k3) .non⟩
  · cases q3
@[simp] theorem ev_appX (a x : EF) (r : Env) : eAppX a x r = (a r).bind fun p => (frL p.1).bind fun ds => if ds.length < 16777216 then (x p.2).bind fun q => some (.sh .none, q.2) else none := rfl
/-! ### sorted items of a dict with names for keys -/
def nmRow (e : (Str × Int) × D) : List Ky × D := (nmK e.1.1 e.1.2, e.2)
def srtN (R : List ((Str × Int) × D)) : List ((Str × Int) × D) := R.mergeSort fun a b => leD (prD a.1) (prD b.1)
def nmItem (e : (Str × Int) × D) : D := .tuple [prD e.1, e.2]
theorem prD_apart {p q : Str × Int} (h : p ≠ q) : PyData.eqv (prD p) (prD q) = false := by
  rw [Bool.eq_false_iff]
  intro z
  have := (eqv_pln _ _ (prD_pln p) (prD_pln q)).mp z
  unfold prD at this
  simp at this
  exact h (Prod.ext this.1 this.2)
theorem alikeB_prD (R : List ((Str × Int) × D)) : alikeB ((R.map fun e => (prD e.1, e.2)).map (·.1)) = true := by
  unfold alikeB
  rw [List.all_eq_true]
  intro x hx
  rw [List.all_eq_true]
  intro y hy
  simp only [List.map_map, List.mem_map, Function.comp] at hx hy
  obtain ⟨a, _, rfl⟩ := hx
  obtain ⟨b, _, rfl⟩ := hy
  simp [prD, W.alike, W.alikeAll]
theorem apartB_prD : ∀ R : List ((Str × Int) × D), (R.map (·.1)).Nodup → apartB (R.map fun e => (prD e.1, e.2)) = true
  | [], _ => rfl
  | e :: R, nd => by
    rw [List.map_cons] at nd ⊢
    obtain ⟨n1, n2⟩ := List.nodup_cons.mp nd
    unfold apartB
    rw [Bool.and_eq_true, List.all_eq_true]
    refine ⟨fun x hx => ?_, apartB_prD R n2⟩
    obtain ⟨y, hy, rfl⟩ := List.mem_map.mp hx
    have : e.1 ≠ y.1 := fun z => n1 (List.mem_map.mpr ⟨y, hy, z.symm⟩)
    show (!PyData.eqv (prD e.1) (prD y.1)) = true
    rw [prD_apart this]; rfl
theorem nods_all : ∀ {ds : List D}, (∀ d ∈ ds, nod d = true) → nods ds = true
  | [], _ => by unfold nods; rfl
  | d :: ds, h => by
    unfold nods
    rw [h d List.mem_cons_self, nods_all fun x hx => h x (List.mem_cons_of_mem _ hx)]; rfl
theorem gSortItT_nm {R : List ((Str × Int) × D)} (nd : (R.map (·.1)).Nodup) (hl : R.length ≤ 16777216) (hn : ∀ e ∈ R, nod e.2 = true ∧ e.2.depth ≤ 50 ∧ isTupD e.2 = false) : gSortItT (.dt (R.map nmRow)) = some (.fr (.d (.list ((srtN R).map nmItem)))) := by
  have e1 : itemsT (.dt (R.map nmRow)) = some (R.map fun e => (prD e.1, e.2)) := by
    unfold itemsT
    dsimp only
    rw [if_pos (by
      rw [List.all_eq_true]
      intro x hx
      obtain ⟨y, _, rfl⟩ := List.mem_map.mp hx
      rfl), List.map_map]
    rfl
  have e2 : fstB (R.map fun e => (prD e.1, e.2)) = true := by
    unfold fstB
    rw [alikeB_prD, apartB_prD R nd]
    simp only [Bool.and_true, Bool.and_eq_true]
    refine ⟨⟨⟨?_, ?_⟩, ?_⟩, decide_eq_true (by rw [List.length_map]; exact hl)⟩
    · refine nods_all fun d hd => ?_
      rw [List.map_map] at hd
      obtain ⟨y, hy, rfl⟩ := List.mem_map.mp hd
      show nod (.tuple [prD y.1, y.2]) = true
      unfold nod
      refine nods_all fun z hz => ?_
      rcases List.mem_cons.mp hz with rfl | hz
      · exact pln_nod _ (prD_pln _)
      · rw [List.mem_singleton.mp hz]; exact (hn y hy).1
    · rw [List.all_eq_true]
      intro d hd
      rw [List.map_map] at hd
      obtain ⟨y, hy, rfl⟩ := List.mem_map.mp hd
      refine decide_eq_true ?_
      show (PyData.tuple [prD y.1, y.2]).depth ≤ 60
      have := (hn y hy).2.1
      simp only [prD, PyData.depth, PyData.depthAll]
      omega
    · rw [List.all_eq_true]
      intro q hq
      obtain ⟨y, hy, rfl⟩ := List.mem_map.mp hq
      show (!tuT [prD y.1, y.2]) = true
      have := (hn y hy).2.2
      unfold tuT
      simp [this]
  unfold gSortItT
  rw [e1, Option.bind_some, if_pos e2]
  refine congrArg (fun x => some (Res.fr (C.d (PyData.list x)))) ?_
  unfold sortF srtN
  have w := W.sort_maps (r := fun a b : (Str × Int) × D => leD (prD a.1) (prD b.1)) (s := fun a b : D × D => leD a.1 b.1) (l := R) (fun e => (prD e.1, e.2)) fun a _ b _ => rfl
  rw [← w, List.map_map]
  rfl
end
end CM
end
section
set_option Elab.async false
set_option linter.all false
set_option maxRecDepth 100000
set_option autoImplicit false
namespace CM
open PySem PySem.Spec PyProof.Rows L2 PySem.SeqAt PySem.W PySem.Calls
/-! ### sorted(d.keys()), the keys tuples -/
def keysO (p d : Addr) : HO := .ext fun h => KdlKeysView h p d
def rKeysD : V → List V → Hp → VK → Prop := fun x xs H Q => ∃ a, x = .ref a ∧ xs = [] ∧ IsD H a ∧ ∀ p, H p = none → Q (.ref p) (upd H p (keysO p a))
section
variable {X : Cx}
theorem mt_keysD : MtR X "dict.keys" rKeysD := by
  intro pins s σ H x xs v us Q I rx rxs h
  obtain ⟨a, rfl, rfl, d, q⟩ := h
  cases rx
  cases rxs
  obtain ⟨t1, _, hd⟩ := isD_at I d
  have raw : ∃ es ep, s.heap.DictRaw a es ep := by
    rcases d with ⟨kvs, e⟩ | ⟨kvs, e⟩
    · obtain ⟨es, ep, r, _⟩ := raw_k I e; exact ⟨es, ep, r⟩
    · obtain ⟨es, ep, r, _⟩ := raw_t I e; exact ⟨es, ep, r⟩
  refine call_meetsIn PySem.F.slot_dict_keys t1 PySem.F.entry_dict_keys (PySem.F.args_dict_keys_1 _) (meets_dict_keys_raw a hd) ⟨raw, ?_⟩
  have hf : H s.heap.objs.size = none := I.hok.fresh (Nat.le_refl _)
  have e : (s.heap.push { cls := .type "dict_keys", data := .fields #[.ref a] }).get? s.heap.objs.size = some { cls := .type "dict_keys", data := .fields #[.ref a] } := Heap.get?_push_size _ rfl
  exact ⟨.ref s.heap.objs.size, upd H s.heap.objs.size (keysO s.heap.objs.size a), I.laid (t' := s.toks) (fun b u e => Heap.get?_push_of_some _ e) (Nat.le_refl _) ⟨⟨_, e, rfl, rfl⟩, ⟨_, e⟩, fun h1 h2 x k => let ⟨o, ho, r⟩ := x; ⟨o, k o ho, r⟩⟩, rfl, q _ hf⟩
def rSortKeysT (X : Cx) : List V → Hp → VK → Prop := fun vs H Q => ∃ (F : Fz) (p a : Addr), vs = [.ref p] ∧ Ex F.f H ∧ H p = some (keysO p a) ∧ ∃ (es : List (List Key × V)) (kvs : List (List Ky × D)), Rd H a (.dT es) ∧ KVs X.kc F es kvs ∧ (∀ e ∈ kvs, e.1 ≠ []) ∧ sortB (kvs.map fun e => PyData.tuple (e.1.map kD)) = true ∧
  ∀ F' H' l ts, Grow F H F' H' → H l = none → F'.f l = none → H' l = some (.lst ts) → VpAll X.kc F' ts (sortD (kvs.map fun e => PyData.tuple (e.1.map kD))) → Q (.ref l) H'
theorem items_vps {K : KC} {F : Fz} : ∀ {ps : List (V × V)} {qs : List (D × D)}, ps.length = qs.length → (∀ (i : Nat) (p : V × V) (q : D × D), ps[i]? = some p → qs[i]? = some q → Vp K F p.1 q.1) → VpAll K F (ps.map (·.1)) (qs.map (·.1))
  | [], [], _, _ => .nil
  | [], _ :: _, l, _ => by cases l
  | _ :: _, [], l, _ => by cases l
  | p :: ps, q :: qs, l, h => .cons (h 0 p q rfl rfl) (items_vps (by simpa using l) fun i p q hp hq => h (i + 1) p q hp hq)
theorem cr_sortKeysT (hc : X.calm = true) (hu : X.A.units + 64 < cLine) : CallR X (.builtin "sorted") (rSortKeysT X) := by
  intro pins s σ H xs us Q I r h
  obtain ⟨F0, p, a, rfl, e0, hp, es0, kvs, rd, kv, nek, sB, q⟩ := h
  obtain rfl := Vals.ref1 r
  obtain ⟨bs, ps, tb, ⟨es, ep, raw, sz, sl, at'⟩, lpq⟩ := items_atT e0 rd kv nek I
  generalize hF : F0.more bs H = F at *
  have g0 : Grow F0 H F H := by rw [← hF]; exact more_grow e0 tb
  have e : Ex F.f H := g0.fh
  obtain ⟨nd, al, so, dp, ln⟩ := sortB_ok sB
  have mk : (kvs.map fun e => PyData.tuple (e.1.map kD)) = (kvs.map fun e => (PyData.tuple (e.1.map kD), e.2)).map (·.1) := by rw [List.map_map]; rfl
  have dd : VpAll X.kc F (ps.map (·.1)) (kvs.map fun e => PyData.tuple (e.1.map kD)) := by
    rw [mk]
    refine items_vps lpq fun i p q hp hq => ?_
    have il := (List.getElem?_eq_some_iff.mp hp).1
    obtain ⟨p', q', h1, h2, _, _, h5, _⟩ := at' i (by omega)
    rw [hp] at h1; cases h1
    rw [hq] at h2; cases h2
    exact h5
  have view : KdlKeysView s.heap p a := (I.hok p _ hp).1
  generalize (kvs.map fun e => PyData.tuple (e.1.map kD)) = ds at *
  refine call_function_entry kind_sorted plain_sorted entry_sorted (args_sorted1 _) ?_
  unfold Builtin.«sorted»
  refine wpAny_bind (m := checkCount "sorted" 1 1 _) (wpAny_pure ?_)
  refine wpAny_bind (kdu_collect (A := X.A.in1) (KdlSrc.rawKeys (r := p) (d := a) (es := es) (ep := ep)) (I.ok.hd hc) ⟨view, raw⟩ sl fun h' tk acc hk hi => ?_)
  have va : Vals (ps.map (·.1)) acc.toList := vals_at (by rw [Array.length_toList, hi.1, sz, List.length_map]) fun i u e => by
    obtain ⟨hi', e2⟩ := hi.2 i u (by rw [← Array.getElem?_toList]; exact e)
    obtain ⟨p', q', h1, h2, h3, _⟩ := at' i hi'
    exact ⟨p'.1, by rw [List.getElem?_map, h1]; rfl, by rw [e2]; exact h3⟩
  have la : acc.toList.length ≤ sizeLine := by rw [Array.length_toList, hi.1]; exact sl
  generalize acc.toList = its at *
  refine wpAny_bind (wpAny_newList ?_ la)
  have hob : (h'.push (seqObj "list" its.toArray 0)).get? h'.objs.size = some (seqObj "list" its.toArray 0) := Heap.get?_push_size _ rfl
  have kb : ∀ b o, s.heap.get? b = some o → (h'.push (seqObj "list" its.toArray 0)).get? b = some o := fun b o q => Heap.get?_push_of_some _ (hk b o q)
  have ne0 : ∀ b o, h'.get? b = some o → b ≠ h'.objs.size := fun b o e => Nat.ne_of_lt (Heap.lt_size e)
  have I0 : Inv X pins σ H { s with heap := h', toks := tk } := I.kept (t' := tk) hk
  have hn0 : H h'.objs.size = none := I0.hok.fresh (Nat.le_refl _)
  generalize hh2 : h'.push (seqObj "list" its.toArray 0) = h2 at hob kb
  obtain ⟨zs, e1, e2, e3⟩ := sort_each2 dd va
  have mem2 : ∀ z ∈ zs, z.2 ∈ ds := fun z hz => by rw [← e2]; exact List.mem_map_of_mem hz
  have eRd : W.EachIs (fun (v : Value) (z : V × D) => ∃ bs, Reads h2 v z.2 bs ∧ h'.objs.size ∉ bs) its zs := each_mono e3 fun u z hz ⟨g1, g2⟩ => by
    have n := nods_mem nd (mem2 z hz)
    obtain ⟨b, r⟩ := Dp.reads I z.2 z.1 u (Vp.dp e _ _ g2 n) g1
    refine ⟨b, PyProof.Rows.Reads.keeps kb r, fun m => ?_⟩
    have := reads_lt z.2 u b n (PyProof.Rows.Reads.keeps hk r) _ m
    exact absurd this (Nat.lt_irrefl _)
  have lz : zs.length = ds.length := by rw [← e2, List.length_map]
  refine wpAny_bind (wpAny_holding ?_)
  refine W.list_sort_data (s := { s with heap := h2, toks := tk }) (enc := fun z : V × D => z.2) hob e3 eRd (by rw [e2]; exact al) (by rw [e2]; exact so) (by rw [lz]; exact ln) (fun z hz => ?_) fun out hout er => ?_
  · have := dp _ (mem2 z hz)
    have d2 : X.A.in1.units = X.A.units + 1 := rfl
    show X.A.in1.units + 1 + z.2.depth < cLine
    omega
  · refine wpAny_pure ⟨_, rfl, ?_⟩
    obtain ⟨g1, g2⟩ := each_back er
    have hm : (zs.mergeSort (W.dataLe false fun z : V × D => z.2)).map (·.2) = sortD ds := by
      rw [← e2]
      exact W.sort_maps (fun z : V × D => z.2) fun a _ b _ => rfl
    rw [hm] at g2
    have kF : ∀ b o, b ≠ h'.objs.size → h2.get? b = some o → (sortedHeap h2 h'.objs.size its out.toArray).get? b = some o := fun b o hb e => (PyProof.Rows.sortedHeap_old hb (Heap.lt_size e)).trans e
    have kS : ∀ b o, s.heap.get? b = some o → (sortedHeap h2 h'.objs.size its out.toArray).get? b = some o := fun b o e => kF b o (ne0 _ _ (hk b o e)) (kb b o e)
    obtain ⟨eF, heF⟩ := PyProof.Rows.sortedHeap_at (vs := its) (out := out.toArray) hob
    have I1 : Inv X pins σ H { s with heap := sortedHeap h2 h'.objs.size its out.toArray, toks := tk } := I.kept (t' := tk) kS
    have hlen : ((zs.mergeSort (W.dataLe false fun z : V × D => z.2)).map (·.1)).length ≤ sizeLine := by rw [VpAll.length g2]; unfold sortD; rw [List.length_mergeSort]; exact ln
    have I2 : Inv X pins σ (upd H h'.objs.size (.lst ((zs.mergeSort (W.dataLe false fun z : V × D => z.2)).map (·.1)))) { s with heap := sortedHeap h2 h'.objs.size its out.toArray, toks := tk } :=
      I1.take (h' := sortedHeap h2 h'.objs.size its out.toArray) (t' := tk) (fun b ob _ e => e) (I0.fpOk (Nat.le_refl _) hn0) ⟨hlen, out, eF, g1, heF⟩
    have fl : F.f h'.objs.size = none := e.back hn0
    exact ⟨.ref h'.objs.size, _, I2, rfl, q F _ _ _ (g0.trans (.lay e hn0)) hn0 fl upd_same g2⟩
def keysOfT : C → Option (List D)
  | .dt kvs => if (kvs.all fun e => !e.1.isEmpty) = true then some (kvs.map fun e => .tuple (e.1.map kD)) else none
  | _ => none
def gSortKT (c : C) : Option Res := (keysOfT c).bind fun ds => if sortB ds = true then some (.fr (.d (.list (sortD ds)))) else none
variable {e : Expr} {fa : EF} {qb : Bool} {p pos apos cpos : Pos}
theorem de_sortKeysT (hc : X.calm = true) (hu : X.A.units + 64 < cLine) (ha : DE X qb e fa) (hg : Gl X "sorted") (hm : X.mg "sorted" = none) (hv : bootBuiltins "sorted" = some (.builtin "sorted"))
    (hbase : attributeBase e "keys" X.env (eval e X.env) = eval e X.env := by rfl) (hline : (apos.endLine == cpos.line) = true := by rfl)
    (he : starEach [.Call (.Attribute e "keys" apos) [] [] cpos] X.env = (false, eval (.Call (.Attribute e "keys" apos) [] [] cpos) X.env) :: starEach [] X.env := by rfl) (hpl : (backTo pos (starEach [] X.env)).any (·.1) = false := by rfl) :
    DE X qb (.Call (.Name "sorted" p) [.Call (.Attribute e "keys" apos) [] [] cpos] [] pos) (eUn gSortKT fa) := by
  obtain ⟨t, a1, a2⟩ := ha.ex
  refine ⟨_, pe_callB (cr_sortKeysT hc hu) hg hm hv (pa_cons (pe_dm0 PySem.F.slot_dict_keys PySem.F.type_dict_keys mt_keysD a1 hbase hline) pa_nil he) (by decide) (by decide) he hpl, fun B H0 F0 F H σ r z r' q j Q k => ?_⟩
  simp only [eUn, gSortKT, Option.bind_eq_some_iff] at q
  obtain ⟨⟨z1, r1⟩, q1, u, q2, w, ⟨ds, q3, q4⟩, q5⟩ := q
  split at q4
  · rename_i sB
    cases q4
    cases q5
    refine a2 _ _ _ _ _ _ _ _ _ q1 j _ fun F1 H1 v g1 j1 k1 => ?_
    have b := k1.look j1 q2
    cases u with
    | dt kvs =>
      unfold keysOfT at q3
      dsimp only at q3
      split at q3
      case isFalse => cases q3
      rename_i ne
      cases q3
      have nek : ∀ e ∈ kvs, e.1 ≠ [] := fun e he z => by
        have := List.all_eq_true.mp ne e he
        rw [z] at this
        cases this
      obtain ⟨a, es, rfl, rd, kv⟩ := b
      refine ⟨⟨a, rfl, .inr ⟨es, rd⟩⟩, a, rfl, rfl, .inr ⟨es, rd⟩, fun n hn => ?_⟩
      have ga : Grow F1 H1 F1 (upd H1 n (keysO n a)) := .lay j1.fh hn
      have j2 := j1.grow ga
      refine ⟨F1, n, a, rfl, j2.fh, upd_same, es, kvs, (Ex.new hn).rd rd, kv, nek, sB, fun F2 H2 l ts gw hl hf hH vp => ?_⟩
      have ht : F1.t l = none := by
        cases w : F1.t l with
        | none => rfl
        | some u => exact absurd hl (j2.so.sep l u w).2.1
      exact k _ _ _ ((g1.qt ga.ge).qt gw.ge) (j2.grow gw) (RetOk.res j2 gw ⟨l, rfl, hl, hf, by rw [gw.t]; exact ht, ts, hH, vp⟩)
    | d x => cases q3
    | dk kvs => cases q3
  · cases q4
theorem gSortKT_nm {R : List ((Str × Int) × D)} (hl : R.length ≤ 16777216) : gSortKT (.dt (R.map nmRow)) = some (.fr (.d (.list ((srtN R).map fun e => prD e.1)))) := by
  have e1 : keysOfT (.dt (R.map nmRow)) = some (R.map fun e => prD e.1) := by
    unfold keysOfT
    dsimp only
    rw [if_pos (by
      rw [List.all_eq_true]
      intro x hx
      obtain ⟨y, _, rfl⟩ := List.mem_map.mp hx
      rfl), List.map_map]
    rfl
  have e2 : sortB (R.map fun e => prD e.1) = true := by
    unfold sortB
    simp only [Bool.and_eq_true]
    refine ⟨⟨⟨⟨?_, ?_⟩, ?_⟩, ?_⟩, decide_eq_true (by rw [List.length_map]; exact hl)⟩
    · refine nods_all fun d hd => ?_
      obtain ⟨y, hy, rfl⟩ := List.mem_map.mp hd
      exact pln_nod _ (prD_pln _)
    · have := alikeB_prD R
      rw [List.map_map] at this
      exact this
    · rw [Bool.or_eq_true]
      left
      rw [List.all_eq_true]
      intro d hd
      obtain ⟨y, hy, rfl⟩ := List.mem_map.mp hd
      rfl
    · rw [List.all_eq_true]
      intro d hd
      obtain ⟨y, hy, rfl⟩ := List.mem_map.mp hd
      refine decide_eq_true ?_
      simp [prD, PyData.depth, PyData.depthAll]
  unfold gSortKT
  rw [e1, Option.bind_some, if_pos e2]
  refine congrArg (fun x => some (Res.fr (C.d (PyData.list x)))) ?_
  unfold sortD srtN
  exact (W.sort_maps (r := fun a b : (Str × Int) × D => leD (prD a.1) (prD b.1)) (s := leD) (l := R) (fun e => prD e.1) fun a _ b _ => rfl).symm
end
end CM
end
section

end
section
set_option Elab.async false
set_option linter.all false
set_option maxRecDepth 100000
set_option maxHeartbeats 0
set_option autoImplicit false
namespace CML
open PySem PySem.Spec PyProof.Rows L2 CM
def topS (i : Nat) : Stmt := PySem.Challenge.pw_copymeet_k55_where_it_was_put.main.body.getD i (.Pass ⟨0, 0, 0, 0⟩)
def clsS (i j : Nat) : Stmt := match topS i with
  | .ClassDef _ _ _ b _ _ _ _ _ _ _ => b.getD j (.Pass ⟨0, 0, 0, 0⟩)
  | s => s
def str1 : Str := "abcdefghijklmnopqrstuvwxyz"
/-- what is left of the built-ins -/
structure TX (mg : Str → Option Value) : Prop where
  isinstance : mg "isinstance" = none
  len : mg "len" = none
  list : mg "list" = none
  range : mg "range" = none
  sorted : mg "sorted" = none
  str : mg "str" = none
section
variable {P : Program} {w : World} {K : PySem.W.Frag} {mg : Str → Option Value} {base : Heap}
/-! ### _law_cell_at -/
abbrev s__law_cell_at : Stmt := topS 7
abbrev N__law_cell_at : List Str := ["_law_script", "_law_k"]
theorem sc__law_cell_at : FnScope N__law_cell_at ["_law_script", "_law_k"] (defScope s__law_cell_at) := ⟨rfl, rfl, rfl, by decide +kernel, rfl, by decide +kernel, by decide +kernel⟩
abbrev m__law_cell_at : List Bool := [false, false]
def b__law_cell_at : SF :=
  (sSeq (sIf ((tE (eOp (gCmp .lt) (eVar 1) ((eUn (fun c => gLen [c]) (eVar 0)))))) (sRet ((eOp gIx (eVar 0) (eVar 1)))) sNext)
  (sRet (eC (.int 0))))
def d__law_cell_at : DF := dDef 2 m__law_cell_at b__law_cell_at
theorem ok__law_cell_at {f : Addr} {fd : FuncData} (T : TX mg)  (F : FnP K "_law_cell_at" "_law_cell_at" s__law_cell_at f fd) : FnOk P w K mg base CX0 1 f fd ["_law_script", "_law_k"] (spD ⟨K, mg⟩ m__law_cell_at d__law_cell_at) := by
  refine fn_denD F sc__law_cell_at rfl fun cdv A outer s H E hr => ?_
  exact (dss_cons (ds_if (dt_cmp (dop_lt hr.units) (de_var 1) ((de_bi1 dcl_len (by rfl) T.len (by decide +kernel) (de_var 0)))) (dss_one (ds_ret ((de_ix dix (de_var 0) (de_var 1))))) dss_nil)
  (dss_one (ds_ret (de_int))))
theorem df__law_cell_at {f : Addr} {fd : FuncData} (T : TX mg)  (F : FnP K "_law_cell_at" "_law_cell_at" s__law_cell_at f fd) (hm : mg "_law_cell_at" = some (.ref f)) : Df P w K mg base 1 "_law_cell_at" m__law_cell_at d__law_cell_at :=
  ⟨f, fd, _, ok__law_cell_at T  F, hm, F.kp, FunD.bindsN F fun _ _ _ _ _ _ us hl => match us, hl with | [_, _], _ => rfl⟩
/-! ### _law_stream -/
abbrev s__law_stream : Stmt := topS 8
abbrev N__law_stream : List Str := ["_law_cell", "_law_many", "_law_found", "_law_number", "_law_k"]
theorem sc__law_stream : FnScope N__law_stream ["_law_cell", "_law_many"] (defScope s__law_stream) := ⟨rfl, rfl, rfl, by decide +kernel, rfl, by decide +kernel, by decide +kernel⟩
abbrev m__law_stream : List Bool := [false, false]
def l1__law_stream : SF :=
  (sSeq (sSet 3 ((eOp gMod ((eOp gAdd ((eOp gAdd ((eOp gMul (eVar 3) (eVar 3))) ((eOp gMul (eC (.int 48271)) (eVar 3))))) (eVar 4))) (eC (.int 2147483647)))))
  (sDrop ((eMut isLst gApp (.sl 2) [eVar 3]))))
def b__law_stream : SF :=
  (sSeq (sSet 2 ((eLst [])))
  (sSeq (sSet 3 ((eOp gAdd ((eOp gMod (eVar 0) (eC (.int 2147483647)))) (eC (.int 48271)))))
  (sSeq (sFor (.v 4) (iRg [(eOp gAdd (eVar 1) (eC (.int 1)))]) l1__law_stream)
  (sRet ((eSl (eVar 2) (some (eC (.int 1))) none))))))
def d__law_stream : DF := dDef 5 m__law_stream b__law_stream
theorem ok__law_stream {f : Addr} {fd : FuncData} (T : TX mg)  (F : FnP K "_law_stream" "_law_stream" s__law_stream f fd) : FnOk P w K mg base CX0 1 f fd ["_law_cell", "_law_many"] (spD ⟨K, mg⟩ m__law_stream d__law_stream) := by
  refine fn_denD F sc__law_stream rfl fun cdv A outer s H E hr => ?_
  exact (dss_cons (ds_set (i := 2) sc__law_stream.nd rfl (Or.inl rfl) ((de_lst da_nil)))
  (dss_cons (ds_set (i := 3) sc__law_stream.nd rfl (Or.inl rfl) ((de_op dop_add ((de_op dop_mod (de_var 0) (de_int))) (de_int))))
  (dss_cons (ds_for PassesOwn.never rfl (di_rg1 (by rfl) T.range ((de_op dop_add (de_var 1) (de_int)))) (dg_name sc__law_stream.nd rfl (Or.inl rfl)) (dss_cons (ds_set (i := 3) sc__law_stream.nd rfl (Or.inl rfl) ((de_op dop_mod ((de_op dop_add ((de_op dop_add ((de_op dop_mul (de_var 3) (de_var 3))) ((de_op dop_mul (de_int) (de_var 3))))) (de_var 4))) (de_int))))
  (dss_one (ds_expr ((de_mutS 2 dm_append rfl (by first | exact Or.inl rfl | exact Or.inr (Or.inl rfl) | exact Or.inr (Or.inr rfl)) (da_cons (de_var 3) da_nil)))))))
  (dss_one (ds_ret ((de_slice (de_var 2) (dpart_some (de_int)) dpart_none)))))))
theorem df__law_stream {f : Addr} {fd : FuncData} (T : TX mg)  (F : FnP K "_law_stream" "_law_stream" s__law_stream f fd) (hm : mg "_law_stream" = some (.ref f)) : Df P w K mg base 1 "_law_stream" m__law_stream d__law_stream :=
  ⟨f, fd, _, ok__law_stream T  F, hm, F.kp, FunD.bindsN F fun _ _ _ _ _ _ us hl => match us, hl with | [_, _], _ => rfl⟩
/-! ### _law_hands -/
abbrev s__law_hands : Stmt := topS 9
abbrev N__law_hands : List Str := ["_law_cell", "_law_many", "_law_letters", "_law_xs", "_law_stem", "_law_at", "_law_x", "_law_k"]
theorem sc__law_hands : FnScope N__law_hands ["_law_cell", "_law_many"] (defScope s__law_hands) := ⟨rfl, rfl, rfl, by decide +kernel, rfl, by decide +kernel, by decide +kernel⟩
abbrev m__law_hands : List Bool := [false, false]
def ce1__law_hands : EF :=
  (eOp gIx (eVar 2) ((eOp gMod (eVar 6) (eC (.int 26)))))
def ce2__law_hands : EF :=
  (eSl (eVar 4) none (some ((eOp gAdd (eC (.int 1)) ((eOp gMod ((eOp gAdd (eVar 7) ((eOp gIx (eVar 3) (eC (.int 8)))))) (eC (.int 8))))))))
def ce3__law_hands : EF :=
  (eOp gAdd ((eOp gAdd ((eSl (eVar 4) none (some (eVar 5)))) ((eOp gIx (eVar 2) ((eOp gMod ((eOp gAdd ((eOp gDiv ((eOp gIx (eVar 3) (eC (.int 9)))) (eC (.int 8)))) ((eOp gMul (eC (.int 5)) (eVar 7))))) (eC (.int 26)))))))) ((eSl (eVar 4) (some ((eOp gAdd (eVar 5) (eC (.int 1))))) none)))
def b__law_hands : SF :=
  (sSeq (sSet 2 (eC (.str str1)))
  (sSeq (sSet 3 ((eCall d__law_stream m__law_stream [eVar 0, eC (.int 10)])))
  (sSeq (sSet 4 ((eJoin "" ((eLc [6] (.v 6) (iSeq ((eSl (eVar 3) none (some (eC (.int 8)))))) (tYesD) (ce1__law_hands))))))
  (sSeq (sIf ((tE (eOp gEq ((eOp gMod (eVar 0) (eC (.int 3)))) (eC (.int 0))))) (sRet ((eLc [7] (.v 7) (iRg [eVar 1]) (tYesD) (ce2__law_hands)))) sNext)
  (sSeq (sSet 4 ((eSl (eVar 4) none (some ((eOp gAdd (eC (.int 1)) ((eOp gMod ((eOp gIx (eVar 3) (eC (.int 8)))) (eC (.int 8))))))))))
  (sSeq (sSet 5 ((eOp gMod ((eOp gIx (eVar 3) (eC (.int 9)))) ((eUn (fun c => gLen [c]) (eVar 4))))))
  (sRet ((eLc [7] (.v 7) (iRg [eVar 1]) (tYesD) (ce3__law_hands))))))))))
def d__law_hands : DF := dDef 8 m__law_hands b__law_hands
theorem ok__law_hands {f : Addr} {fd : FuncData} (T : TX mg) (G__law_stream : Df P w K mg base 1 "_law_stream" m__law_stream d__law_stream) (F : FnP K "_law_hands" "_law_hands" s__law_hands f fd) : FnOk P w K mg base CX0 2 f fd ["_law_cell", "_law_many"] (spD ⟨K, mg⟩ m__law_hands d__law_hands) := by
  refine fn_denD F sc__law_hands rfl fun cdv A outer s H E hr => ?_
  exact (dss_cons (ds_set (i := 2) sc__law_hands.nd rfl (Or.inr rfl) (de_str))
  (dss_cons (ds_set (i := 3) sc__law_hands.nd rfl (Or.inr rfl) ((de_callD G__law_stream (hr.mono (by decide)) (by rfl) (da_cons (de_var 0) (da_cons (de_int) da_nil)))))
  (dss_cons (ds_set (i := 4) sc__law_hands.nd rfl (Or.inr rfl) ((de_join (de_str) ((de_lc (own := [("_law_x", 6)]) rfl sc__law_hands.nd (di_seq ((de_slice (de_var 3) dpart_none (dpart_some (de_int))))) (blkOk_by (sc := defScope s__law_hands) (own := [("_law_x", 6)]) (N := N__law_hands) (by decide +kernel)) (fun _ _ _ _ _ => (dg_name sc__law_hands.nd rfl (Or.inl rfl))) (fun _ _ _ _ _ => dts_nil) (fun _ _ _ _ _ => (de_ix dix (de_var 2) ((de_op dop_mod (de_var 6) (de_int))))) (by decide))))))
  (dss_cons (ds_if (dt_cmp (dop_eq hr.units) ((de_op dop_mod (de_var 0) (de_int))) (de_int)) (dss_one (ds_ret ((de_lc (own := [("_law_k", 7)]) rfl sc__law_hands.nd (di_rg1 (by rfl) T.range (de_var 1)) (blkOk_by (sc := defScope s__law_hands) (own := [("_law_k", 7)]) (N := N__law_hands) (by decide +kernel)) (fun _ _ _ _ _ => (dg_name sc__law_hands.nd rfl (Or.inl rfl))) (fun _ _ _ _ _ => dts_nil) (fun _ _ _ _ _ => (de_slice (de_var 4) dpart_none (dpart_some ((de_op dop_add (de_int) ((de_op dop_mod ((de_op dop_add (de_var 7) ((de_ix dix (de_var 3) (de_int))))) (de_int)))))))) (by decide))))) dss_nil)
  (dss_cons (ds_set (i := 4) sc__law_hands.nd rfl (Or.inr rfl) ((de_slice (de_var 4) dpart_none (dpart_some ((de_op dop_add (de_int) ((de_op dop_mod ((de_ix dix (de_var 3) (de_int))) (de_int)))))))))
  (dss_cons (ds_set (i := 5) sc__law_hands.nd rfl (Or.inr rfl) ((de_op dop_mod ((de_ix dix (de_var 3) (de_int))) ((de_bi1 dcl_len (by rfl) T.len (by decide +kernel) (de_var 4))))))
  (dss_one (ds_ret ((de_lc (own := [("_law_k", 7)]) rfl sc__law_hands.nd (di_rg1 (by rfl) T.range (de_var 1)) (blkOk_by (sc := defScope s__law_hands) (own := [("_law_k", 7)]) (N := N__law_hands) (by decide +kernel)) (fun _ _ _ _ _ => (dg_name sc__law_hands.nd rfl (Or.inl rfl))) (fun _ _ _ _ _ => dts_nil) (fun _ _ _ _ _ => (de_op dop_add ((de_op dop_add ((de_slice (de_var 4) dpart_none (dpart_some (de_var 5)))) ((de_ix dix (de_var 2) ((de_op dop_mod ((de_op dop_add ((de_op dop_div ((de_ix dix (de_var 3) (de_int))) (de_int))) ((de_op dop_mul (de_int) (de_var 7))))) (de_int))))))) ((de_slice (de_var 4) (dpart_some ((de_op dop_add (de_var 5) (de_int)))) dpart_none)))) (by decide)))))))))))
theorem df__law_hands {f : Addr} {fd : FuncData} (T : TX mg) (G__law_stream : Df P w K mg base 1 "_law_stream" m__law_stream d__law_stream) (F : FnP K "_law_hands" "_law_hands" s__law_hands f fd) (hm : mg "_law_hands" = some (.ref f)) : Df P w K mg base 2 "_law_hands" m__law_hands d__law_hands :=
  ⟨f, fd, _, ok__law_hands T G__law_stream F, hm, F.kp, FunD.bindsN F fun _ _ _ _ _ _ us hl => match us, hl with | [_, _], _ => rfl⟩
/-! ### _law_spot -/
abbrev s__law_spot : Stmt := topS 10
abbrev N__law_spot : List Str := ["_law_x", "_law_y", "_law_kind", "_law_hands_here", "_law_letters", "_law_place", "_law_step", "_law_k"]
theorem sc__law_spot : FnScope N__law_spot ["_law_x", "_law_y", "_law_kind", "_law_hands_here"] (defScope s__law_spot) := ⟨rfl, rfl, rfl, by decide +kernel, rfl, by decide +kernel, by decide +kernel⟩
abbrev m__law_spot : List Bool := [false, false, false, false]
def ce1__law_spot : EF :=
  (eOp gIx (eVar 4) ((eOp gMod ((eOp gAdd (eVar 0) ((eOp gMul (eVar 7) ((eOp gMod (eVar 1) (eC (.int 7)))))))) (eC (.int 26)))))
def b__law_spot : SF :=
  (sSeq (sIf ((tE (eOp gNe (eVar 2) (eC (.str "row"))))) (sSeq (sSet 4 (eC (.str str1)))
  (sRet ((eJoin "" ((eLc [7] (.v 7) (iRg [(eOp gAdd (eC (.int 1)) ((eOp gMod (eVar 1) (eC (.int 12)))))]) (tYesD) (ce1__law_spot))))))) sNext)
  (sSeq (sIf ((tE (eOp gEq ((eOp gMod (eVar 0) (eC (.int 4)))) (eC (.int 0))))) (sRet ((eTup [(eTup []), eC (.int 1)]))) sNext)
  (sSeq (sSet 5 ((eTup [(eTup [eC (.int 1), (eOp gIx (eVar 3) ((eOp gMod (eVar 0) ((eUn (fun c => gLen [c]) (eVar 3)))))), (eOp gAdd (eC (.int 1)) ((eOp gMod ((eOp gDiv (eVar 0) (eC (.int 4)))) (eC (.int 9))))), (eOp gMod (eVar 1) (eC (.int 12)))])])))
  (sSeq (sIf ((tE (eOp gEq ((eOp gMod ((eOp gDiv (eVar 0) (eC (.int 64)))) (eC (.int 2)))) (eC (.int 0))))) (sSeq (sSet 6 ((eTup [(eOp gSub ((eOp gMul ((eOp gMod ((eOp gDiv (eVar 1) (eC (.int 16)))) (eC (.int 2)))) (eC (.int 2)))) (eC (.int 1))), (eOp gIx (eVar 3) ((eOp gMod (eVar 1) ((eUn (fun c => gLen [c]) (eVar 3)))))), (eOp gAdd (eC (.int 1)) ((eOp gMod ((eOp gDiv (eVar 1) (eC (.int 32)))) ((eOp gPow (eC (.int 10)) (eC (.int 9))))))), eC (.int 0)])))
  (sSet 5 ((eOp gAdd (eVar 5) ((eTup [eVar 6])))))) sNext)
  (sRet ((eTup [eVar 5, (eOp gSub ((eOp gMul ((eOp gMod ((eOp gDiv (eVar 1) (eC (.int 8)))) (eC (.int 2)))) (eC (.int 2)))) (eC (.int 1)))])))))))
def d__law_spot : DF := dDef 8 m__law_spot b__law_spot
theorem ok__law_spot {f : Addr} {fd : FuncData} (T : TX mg)  (F : FnP K "_law_spot" "_law_spot" s__law_spot f fd) : FnOk P w K mg base CX0 1 f fd ["_law_x", "_law_y", "_law_kind", "_law_hands_here"] (spD ⟨K, mg⟩ m__law_spot d__law_spot) := by
  refine fn_denD F sc__law_spot rfl fun cdv A outer s H E hr => ?_
  exact (dss_cons (ds_if (dt_cmp (dop_ne hr.units) (de_var 2) (de_str)) (dss_cons (ds_set (i := 4) sc__law_spot.nd rfl (Or.inr rfl) (de_str))
  (dss_one (ds_ret ((de_join (de_str) ((de_lc (own := [("_law_k", 7)]) rfl sc__law_spot.nd (di_rg1 (by rfl) T.range ((de_op dop_add (de_int) ((de_op dop_mod (de_var 1) (de_int)))))) (blkOk_by (sc := defScope s__law_spot) (own := [("_law_k", 7)]) (N := N__law_spot) (by decide +kernel)) (fun _ _ _ _ _ => (dg_name sc__law_spot.nd rfl (Or.inl rfl))) (fun _ _ _ _ _ => dts_nil) (fun _ _ _ _ _ => (de_ix dix (de_var 4) ((de_op dop_mod ((de_op dop_add (de_var 0) ((de_op dop_mul (de_var 7) ((de_op dop_mod (de_var 1) (de_int))))))) (de_int))))) (by decide)))))))) dss_nil)
  (dss_cons (ds_if (dt_cmp (dop_eq hr.units) ((de_op dop_mod (de_var 0) (de_int))) (de_int)) (dss_one (ds_ret ((de_tup (da_cons ((de_tup da_nil)) (da_cons (de_int) da_nil)))))) dss_nil)
  (dss_cons (ds_set (i := 5) sc__law_spot.nd rfl (Or.inl rfl) ((de_tup (da_cons ((de_tup (da_cons (de_int) (da_cons ((de_ix dix (de_var 3) ((de_op dop_mod (de_var 0) ((de_bi1 dcl_len (by rfl) T.len (by decide +kernel) (de_var 3))))))) (da_cons ((de_op dop_add (de_int) ((de_op dop_mod ((de_op dop_div (de_var 0) (de_int))) (de_int))))) (da_cons ((de_op dop_mod (de_var 1) (de_int))) da_nil)))))) da_nil))))
  (dss_cons (ds_if (dt_cmp (dop_eq hr.units) ((de_op dop_mod ((de_op dop_div (de_var 0) (de_int))) (de_int))) (de_int)) (dss_cons (ds_set (i := 6) sc__law_spot.nd rfl (Or.inl rfl) ((de_tup (da_cons ((de_op dop_sub ((de_op dop_mul ((de_op dop_mod ((de_op dop_div (de_var 1) (de_int))) (de_int))) (de_int))) (de_int))) (da_cons ((de_ix dix (de_var 3) ((de_op dop_mod (de_var 1) ((de_bi1 dcl_len (by rfl) T.len (by decide +kernel) (de_var 3))))))) (da_cons ((de_op dop_add (de_int) ((de_op dop_mod ((de_op dop_div (de_var 1) (de_int))) ((de_op dop_pow (de_int) (de_int))))))) (da_cons (de_int) da_nil)))))))
  (dss_one (ds_set (i := 5) sc__law_spot.nd rfl (Or.inl rfl) ((de_op dop_add (de_var 5) ((de_tup (da_cons (de_var 6) da_nil)))))))) dss_nil)
  (dss_one (ds_ret ((de_tup (da_cons (de_var 5) (da_cons ((de_op dop_sub ((de_op dop_mul ((de_op dop_mod ((de_op dop_div (de_var 1) (de_int))) (de_int))) (de_int))) (de_int))) da_nil))))))))))
theorem df__law_spot {f : Addr} {fd : FuncData} (T : TX mg)  (F : FnP K "_law_spot" "_law_spot" s__law_spot f fd) (hm : mg "_law_spot" = some (.ref f)) : Df P w K mg base 1 "_law_spot" m__law_spot d__law_spot :=
  ⟨f, fd, _, ok__law_spot T  F, hm, F.kp, FunD.bindsN F fun _ _ _ _ _ _ us hl => match us, hl with | [_, _, _, _], _ => rfl⟩
/-! ### _law_act -/
abbrev s__law_act : Stmt := topS 11
abbrev N__law_act : List Str := ["_law_xs", "_law_kinds", "_law_hands_here", "_law_names", "_law_thing", "_law_holder", "_law_spot_here", "_law_kind"]
theorem sc__law_act : FnScope N__law_act ["_law_xs", "_law_kinds", "_law_hands_here"] (defScope s__law_act) := ⟨rfl, rfl, rfl, by decide +kernel, rfl, by decide +kernel, by decide +kernel⟩
abbrev m__law_act : List Bool := [false, false, false]
def b__law_act : SF :=
  (sSeq (sSet 3 ((eUn (fun c => gListKT [c]) (eVar 1))))
  (sSeq (sSet 4 ((eOp gIx (eVar 3) ((eOp gMod ((eOp gIx (eVar 0) (eC (.int 2)))) ((eUn (fun c => gLen [c]) (eVar 3))))))))
  (sSeq (sSet 5 ((eOp gIx (eVar 3) ((eOp gMod ((eOp gIx (eVar 0) (eC (.int 3)))) ((eUn (fun c => gLen [c]) (eVar 3))))))))
  (sSeq (sSet 6 ((eCall d__law_spot m__law_spot [(eOp gIx (eVar 0) (eC (.int 4))), (eOp gIx (eVar 0) (eC (.int 5))), (eOp gIxA (eVar 1) (eVar 5)), eVar 2])))
  (sSeq (sIf ((tE (eOp (gCmp .lt) ((eOp gMod ((eOp gIx (eVar 0) (eC (.int 1)))) (eC (.int 8)))) (eC (.int 3))))) (sSeq (sSet 7 ((eOp gIx ((eLst [eC (.str "map"), eC (.str "row"), eC (.str "map"), eC (.str "row"), eC (.str "count"), eC (.str "choice"), eC (.str "bag"), eC (.str "text")])) ((eOp gMod ((eOp gIx (eVar 0) (eC (.int 2)))) (eC (.int 8)))))))
  (sRet ((eTup [eC (.str "make"), eVar 7, eVar 5, eVar 6])))) sNext)
  (sSeq (sIf ((tE (eOp (gCmp .lt) ((eOp gMod ((eOp gIx (eVar 0) (eC (.int 1)))) (eC (.int 8)))) (eC (.int 7))))) (sRet ((eTup [eC (.str "move"), eVar 4, eVar 5, eVar 6]))) sNext)
  (sRet ((eTup [eC (.str "drop"), eVar 4])))))))))
def d__law_act : DF := dDef 8 m__law_act b__law_act
theorem ok__law_act {f : Addr} {fd : FuncData} (T : TX mg) (G__law_spot : Df P w K mg base 1 "_law_spot" m__law_spot d__law_spot) (F : FnP K "_law_act" "_law_act" s__law_act f fd) : FnOk P w K mg base CX0 2 f fd ["_law_xs", "_law_kinds", "_law_hands_here"] (spD ⟨K, mg⟩ m__law_act d__law_act) := by
  refine fn_denD F sc__law_act rfl fun cdv A outer s H E hr => ?_
  exact (dss_cons (ds_set (i := 3) sc__law_act.nd rfl (Or.inl rfl) ((de_ty1 (dcl_listKT rfl) (by rfl) T.list (by decide +kernel) (de_var 1))))
  (dss_cons (ds_set (i := 4) sc__law_act.nd rfl (Or.inl rfl) ((de_ix dix (de_var 3) ((de_op dop_mod ((de_ix dix (de_var 0) (de_int))) ((de_bi1 dcl_len (by rfl) T.len (by decide +kernel) (de_var 3))))))))
  (dss_cons (ds_set (i := 5) sc__law_act.nd rfl (Or.inl rfl) ((de_ix dix (de_var 3) ((de_op dop_mod ((de_ix dix (de_var 0) (de_int))) ((de_bi1 dcl_len (by rfl) T.len (by decide +kernel) (de_var 3))))))))
  (dss_cons (ds_set (i := 6) sc__law_act.nd rfl (Or.inl rfl) ((de_callD G__law_spot (hr.mono (by decide)) (by rfl) (da_cons ((de_ix dix (de_var 0) (de_int))) (da_cons ((de_ix dix (de_var 0) (de_int))) (da_cons ((de_ix (dixa hr.units) (de_var 1) (de_var 5))) (da_cons (de_var 2) da_nil)))))))
  (dss_cons (ds_if (dt_cmp (dop_lt hr.units) ((de_op dop_mod ((de_ix dix (de_var 0) (de_int))) (de_int))) (de_int)) (dss_cons (ds_set (i := 7) sc__law_act.nd rfl (Or.inl rfl) ((de_ix dix ((de_lst (da_cons (de_str) (da_cons (de_str) (da_cons (de_str) (da_cons (de_str) (da_cons (de_str) (da_cons (de_str) (da_cons (de_str) (da_cons (de_str) da_nil)))))))))) ((de_op dop_mod ((de_ix dix (de_var 0) (de_int))) (de_int))))))
  (dss_one (ds_ret ((de_tup (da_cons (de_str) (da_cons (de_var 7) (da_cons (de_var 5) (da_cons (de_var 6) da_nil))))))))) dss_nil)
  (dss_cons (ds_if (dt_cmp (dop_lt hr.units) ((de_op dop_mod ((de_ix dix (de_var 0) (de_int))) (de_int))) (de_int)) (dss_one (ds_ret ((de_tup (da_cons (de_str) (da_cons (de_var 4) (da_cons (de_var 5) (da_cons (de_var 6) da_nil)))))))) dss_nil)
  (dss_one (ds_ret ((de_tup (da_cons (de_str) (da_cons (de_var 4) da_nil))))))))))))
theorem df__law_act {f : Addr} {fd : FuncData} (T : TX mg) (G__law_spot : Df P w K mg base 1 "_law_spot" m__law_spot d__law_spot) (F : FnP K "_law_act" "_law_act" s__law_act f fd) (hm : mg "_law_act" = some (.ref f)) : Df P w K mg base 2 "_law_act" m__law_act d__law_act :=
  ⟨f, fd, _, ok__law_act T G__law_spot F, hm, F.kp, FunD.bindsN F fun _ _ _ _ _ _ us hl => match us, hl with | [_, _, _], _ => rfl⟩
/-! ### _law_deeds -/
abbrev s__law_deeds : Stmt := topS 12
abbrev N__law_deeds : List Str := ["_law_cells", "_law_hands_here", "_law_kinds", "_law_rows", "_law_cell", "_law_xs", "_law_hand", "_law_name", "_law_seen", "_law_act_here", "_law_deed"]
theorem sc__law_deeds : FnScope N__law_deeds ["_law_cells", "_law_hands_here"] (defScope s__law_deeds) := ⟨rfl, rfl, rfl, by decide +kernel, rfl, by decide +kernel, by decide +kernel⟩
abbrev m__law_deeds : List Bool := [false, false]
def ce1__law_deeds : EF :=
  eVar 10
def ct1__law_deeds : TF :=
  (tE (eOp gEq ((eOp gIx ((eOp gIx (eVar 10) (eC (.int 0)))) (eC (.int 0)))) (eVar 6)))
def l1__law_deeds : SF :=
  (sSeq (sSet 5 ((eCall d__law_stream m__law_stream [eVar 4, eC (.int 6)])))
  (sSeq (sSet 6 ((eOp gIx (eVar 1) ((eOp gMod ((eOp gIx (eVar 5) (eC (.int 0)))) ((eUn (fun c => gLen [c]) (eVar 1))))))))
  (sSeq (sSet 7 ((eTup [eVar 6, (eOp gAdd (eC (.int 1)) ((eUn (fun c => gLen [c]) ((eLc [10] (.v 10) (iSeq (eVar 3)) (ct1__law_deeds) (ce1__law_deeds))))))])))
  (sSeq (sSet 8 ((eTup [])))
  (sSeq (sIf ((tE (eOp (gCmp .gt) ((eOp gIx (eVar 7) (eC (.int 1)))) (eC (.int 1))))) (sSet 8 ((eTup [(eTup [eVar 6, (eOp gSub ((eOp gIx (eVar 7) (eC (.int 1)))) (eC (.int 1)))])]))) sNext)
  (sSeq (sSet 9 ((eCall d__law_act m__law_act [eVar 5, eVar 2, eVar 1])))
  (sSeq (sIf ((tE (eOp gEq ((eOp gIx (eVar 9) (eC (.int 0)))) (eC (.str "make"))))) (sPutD 2 (eVar 7) ((eOp gIx (eVar 9) (eC (.int 1))))) sNext)
  (sDrop ((eMut isLst gApp (.sl 3) [(eTup [eVar 7, eVar 8, eVar 9])]))))))))))
def b__law_deeds : SF :=
  (sSeq (sSet 2 ((eOp gD1T ((eTup [eC (.str ""), eC (.int 0)])) (eC (.str "map")))))
  (sSeq (sSet 3 ((eLst [])))
  (sSeq (sFor (.v 4) (iSeq (eVar 0)) l1__law_deeds)
  (sRet (eVar 3)))))
def d__law_deeds : DF := dDef 11 m__law_deeds b__law_deeds
theorem ok__law_deeds {f : Addr} {fd : FuncData} (T : TX mg) (G__law_stream : Df P w K mg base 1 "_law_stream" m__law_stream d__law_stream) (G__law_act : Df P w K mg base 2 "_law_act" m__law_act d__law_act) (F : FnP K "_law_deeds" "_law_deeds" s__law_deeds f fd) : FnOk P w K mg base CX0 3 f fd ["_law_cells", "_law_hands_here"] (spD ⟨K, mg⟩ m__law_deeds d__law_deeds) := by
  refine fn_denD F sc__law_deeds rfl fun cdv A outer s H E hr => ?_
  exact (dss_cons (ds_set (i := 2) sc__law_deeds.nd rfl (Or.inl rfl) ((de_disp1T hr.units ((de_tup (da_cons (de_str) (da_cons (de_int) da_nil)))) (de_str))))
  (dss_cons (ds_set (i := 3) sc__law_deeds.nd rfl (Or.inl rfl) ((de_lst da_nil)))
  (dss_cons (ds_for PassesOwn.never rfl (di_seq (de_var 0)) (dg_name sc__law_deeds.nd rfl (Or.inl rfl)) (dss_cons (ds_set (i := 5) sc__law_deeds.nd rfl (Or.inl rfl) ((de_callD G__law_stream (hr.mono (by decide)) (by rfl) (da_cons (de_var 4) (da_cons (de_int) da_nil)))))
  (dss_cons (ds_set (i := 6) sc__law_deeds.nd rfl (Or.inr rfl) ((de_ix dix (de_var 1) ((de_op dop_mod ((de_ix dix (de_var 5) (de_int))) ((de_bi1 dcl_len (by rfl) T.len (by decide +kernel) (de_var 1))))))))
  (dss_cons (ds_set (i := 7) sc__law_deeds.nd rfl (Or.inl rfl) ((de_tup (da_cons (de_var 6) (da_cons ((de_op dop_add (de_int) ((de_bi1 dcl_len (by rfl) T.len (by decide +kernel) ((de_lc (own := [("_law_deed", 10)]) rfl sc__law_deeds.nd (di_seq (de_var 3)) (blkOk_by (sc := defScope s__law_deeds) (own := [("_law_deed", 10)]) (N := N__law_deeds) (by decide +kernel)) (fun _ _ _ _ _ => (dg_name sc__law_deeds.nd rfl (Or.inl rfl))) (fun _ _ _ _ _ => (dts_one ((dt_cmp (dop_eq hr.units) ((de_ix dix ((de_ix dix (de_var 10) (de_int))) (de_int))) (de_var 6))))) (fun _ _ _ _ _ => de_var 10) (by decide))))))) da_nil)))))
  (dss_cons (ds_set (i := 8) sc__law_deeds.nd rfl (Or.inl rfl) ((de_tup da_nil)))
  (dss_cons (ds_if (dt_cmp (dop_gt hr.units) ((de_ix dix (de_var 7) (de_int))) (de_int)) (dss_one (ds_set (i := 8) sc__law_deeds.nd rfl (Or.inl rfl) ((de_tup (da_cons ((de_tup (da_cons (de_var 6) (da_cons ((de_op dop_sub ((de_ix dix (de_var 7) (de_int))) (de_int))) da_nil)))) da_nil))))) dss_nil)
  (dss_cons (ds_set (i := 9) sc__law_deeds.nd rfl (Or.inl rfl) ((de_callD G__law_act (hr.mono (by decide)) (by rfl) (da_cons (de_var 5) (da_cons (de_var 2) (da_cons (de_var 1) da_nil))))))
  (dss_cons (ds_if (dt_cmp (dop_eq hr.units) ((de_ix dix (de_var 9) (de_int))) (de_str)) (dss_one (ds_putD 2 hr.units rfl (by first | exact Or.inl rfl | exact Or.inr (Or.inl rfl) | exact Or.inr (Or.inr rfl)) (de_var 7) ((de_ix dix (de_var 9) (de_int))))) dss_nil)
  (dss_one (ds_expr ((de_mutS 3 dm_append rfl (by first | exact Or.inl rfl | exact Or.inr (Or.inl rfl) | exact Or.inr (Or.inr rfl)) (da_cons ((de_tup (da_cons (de_var 7) (da_cons (de_var 8) (da_cons (de_var 9) da_nil))))) da_nil)))))))))))))
  (dss_one (ds_ret (de_var 3))))))
theorem df__law_deeds {f : Addr} {fd : FuncData} (T : TX mg) (G__law_stream : Df P w K mg base 1 "_law_stream" m__law_stream d__law_stream) (G__law_act : Df P w K mg base 2 "_law_act" m__law_act d__law_act) (F : FnP K "_law_deeds" "_law_deeds" s__law_deeds f fd) (hm : mg "_law_deeds" = some (.ref f)) : Df P w K mg base 3 "_law_deeds" m__law_deeds d__law_deeds :=
  ⟨f, fd, _, ok__law_deeds T G__law_stream G__law_act F, hm, F.kp, FunD.bindsN F fun _ _ _ _ _ _ us hl => match us, hl with | [_, _], _ => rfl⟩
/-! ### _law_put -/
abbrev s__law_put : Stmt := topS 13
abbrev N__law_put : List Str := ["_law_due", "_law_deed", "_law_act_here", "_law_thing", "_law_kind", "_law_place"]
theorem sc__law_put : FnScope N__law_put ["_law_due", "_law_deed"] (defScope s__law_put) := ⟨rfl, rfl, rfl, by decide +kernel, rfl, by decide +kernel, by decide +kernel⟩
abbrev m__law_put : List Bool := [false, false]
def b__law_put : SF :=
  (sSeq (sSet 2 ((eOp gIx (eVar 1) (eC (.int 2)))))
  (sSeq (sSet 3 ((eOp gIx (eVar 2) (eC (.int 1)))))
  (sSeq (sSet 4 ((eOp gIx (eVar 2) (eC (.int 1)))))
  (sSeq (sIf ((tE (eOp gEq ((eOp gIx (eVar 2) (eC (.int 0)))) (eC (.str "make"))))) (sSet 3 ((eOp gIx (eVar 1) (eC (.int 0))))) (sSet 4 ((eOp gIx ((eOpF gIxA ((eUb (eVar 0))) (eVar 3))) (eC (.int 1))))))
  (sIf ((tE (eOp gEq ((eOp gIx (eVar 2) (eC (.int 0)))) (eC (.str "drop"))))) (sPutBD (eVar 0) (eVar 3) ((eTup [eVar 3, eVar 4, eC .none, eC .none]))) (sIf ((tE ((eIsi "str" ((eOp gIx (eVar 2) (eC (.int 3)))))))) (sPutBD (eVar 0) (eVar 3) ((eTup [eVar 3, eVar 4, (eOp gIx (eVar 2) (eC (.int 2))), (eOp gIx (eVar 2) (eC (.int 3)))]))) (sSeq (sSet 5 ((eOp gAdd ((eOp gIx ((eOp gIx (eVar 2) (eC (.int 3)))) (eC (.int 0)))) ((eTup [(eTup [(eOp gIx ((eOp gIx (eVar 2) (eC (.int 3)))) (eC (.int 1))), (eOp gIx ((eOp gIx (eVar 1) (eC (.int 0)))) (eC (.int 0))), (eOp gIx ((eOp gIx (eVar 1) (eC (.int 0)))) (eC (.int 1))), eC (.int 0)])])))))
  (sPutBD (eVar 0) (eVar 3) ((eTup [eVar 3, eVar 4, (eOp gIx (eVar 2) (eC (.int 2))), eVar 5]))))))))))
def d__law_put : DF := dDef 6 m__law_put b__law_put
theorem ok__law_put {f : Addr} {fd : FuncData} (T : TX mg)  (F : FnP K "_law_put" "_law_put" s__law_put f fd) : FnOk P w K mg base CX0 1 f fd ["_law_due", "_law_deed"] (spD ⟨K, mg⟩ m__law_put d__law_put) := by
  refine fn_denD F sc__law_put rfl fun cdv A outer s H E hr => ?_
  exact (dss_cons (ds_set (i := 2) sc__law_put.nd rfl (Or.inl rfl) ((de_ix dix (de_var 1) (de_int))))
  (dss_cons (ds_set (i := 3) sc__law_put.nd rfl (Or.inl rfl) ((de_ix dix (de_var 2) (de_int))))
  (dss_cons (ds_set (i := 4) sc__law_put.nd rfl (Or.inl rfl) ((de_ix dix (de_var 2) (de_int))))
  (dss_cons (ds_if (dt_cmp (dop_eq hr.units) ((de_ix dix (de_var 2) (de_int))) (de_str)) (dss_one (ds_set (i := 3) sc__law_put.nd rfl (Or.inl rfl) ((de_ix dix (de_var 1) (de_int))))) (dss_one (ds_set (i := 4) sc__law_put.nd rfl (Or.inl rfl) ((de_ix dix ((de_ixF (dixa hr.units) ((de_ub (de_var 0))) (de_var 3))) (de_int))))))
  (dss_one (ds_if (dt_cmp (dop_eq hr.units) ((de_ix dix (de_var 2) (de_int))) (de_str)) (dss_one (ds_putBD hr.units (de_var 0) (de_var 3) ((de_tup (da_cons (de_var 3) (da_cons (de_var 4) (da_cons (de_non) (da_cons (de_non) da_nil)))))))) (dss_one (ds_if (dt_val ((de_isi ((de_ix dix (de_var 2) (de_int))) (by decide) (by rfl) T.isinstance (by rfl) T.str (by decide +kernel)))) (dss_one (ds_putBD hr.units (de_var 0) (de_var 3) ((de_tup (da_cons (de_var 3) (da_cons (de_var 4) (da_cons ((de_ix dix (de_var 2) (de_int))) (da_cons ((de_ix dix (de_var 2) (de_int))) da_nil)))))))) (dss_cons (ds_set (i := 5) sc__law_put.nd rfl (Or.inl rfl) ((de_op dop_add ((de_ix dix ((de_ix dix (de_var 2) (de_int))) (de_int))) ((de_tup (da_cons ((de_tup (da_cons ((de_ix dix ((de_ix dix (de_var 2) (de_int))) (de_int))) (da_cons ((de_ix dix ((de_ix dix (de_var 1) (de_int))) (de_int))) (da_cons ((de_ix dix ((de_ix dix (de_var 1) (de_int))) (de_int))) (da_cons (de_int) da_nil)))))) da_nil))))))
  (dss_one (ds_putBD hr.units (de_var 0) (de_var 3) ((de_tup (da_cons (de_var 3) (da_cons (de_var 4) (da_cons ((de_ix dix (de_var 2) (de_int))) (da_cons (de_var 5) da_nil)))))))))))))))))
theorem df__law_put {f : Addr} {fd : FuncData} (T : TX mg)  (F : FnP K "_law_put" "_law_put" s__law_put f fd) (hm : mg "_law_put" = some (.ref f)) : Df P w K mg base 1 "_law_put" m__law_put d__law_put :=
  ⟨f, fd, _, ok__law_put T  F, hm, F.kp, FunD.bindsN F fun _ _ _ _ _ _ us hl => match us, hl with | [_, _], _ => rfl⟩
/-! ### Tree.__init__ -/
abbrev s_Tree___init__ : Stmt := clsS 5 0
abbrev N_Tree___init__ : List Str := ["self"]
theorem sc_Tree___init__ : FnScope N_Tree___init__ ["self"] (defScope s_Tree___init__) := ⟨rfl, rfl, rfl, by decide +kernel, rfl, by decide +kernel, by decide +kernel⟩
abbrev m_Tree___init__ : List Bool := [false]
def b_Tree___init__ : SF :=
  (sSeq (sFldN ["Tree"] 0 "spots" (eNewT))
  (sFldN ["Tree"] 0 "losers" ((eLst []))))
def d_Tree___init__ : DF := dDef 1 m_Tree___init__ b_Tree___init__
theorem ok_Tree___init__ {f : Addr} {fd : FuncData} (T : TX mg) (C_Tree_spots : ∀ c ∈ (["Tree"] : List Str), ∀ C, mg c = some (.ref C) → Cls K C ∧ NoAttr K C "spots") (C_Tree_losers : ∀ c ∈ (["Tree"] : List Str), ∀ C, mg c = some (.ref C) → Cls K C ∧ NoAttr K C "losers") (F : FnP K "__init__" "Tree.__init__" s_Tree___init__ f fd) : FnOk P w K mg base CX0 1 f fd ["self"] (spD ⟨K, mg⟩ m_Tree___init__ d_Tree___init__) := by
  refine fn_denD F sc_Tree___init__ rfl fun cdv A outer s H E hr => ?_
  exact (dss_cons (ds_fldN 0 ⟨C_Tree_spots, by decide⟩ rfl (by first | exact Or.inl rfl | exact Or.inr (Or.inl rfl) | exact Or.inr (Or.inr rfl)) ((de_newT (qb := true))))
  (dss_one (ds_fldN 0 ⟨C_Tree_losers, by decide⟩ rfl (by first | exact Or.inl rfl | exact Or.inr (Or.inl rfl) | exact Or.inr (Or.inr rfl)) ((de_lst da_nil)))))
/-! ### Tree.kind_of -/
abbrev s_Tree_kind_of : Stmt := clsS 5 4
abbrev N_Tree_kind_of : List Str := ["self", "thing"]
theorem sc_Tree_kind_of : FnScope N_Tree_kind_of ["self", "thing"] (defScope s_Tree_kind_of) := ⟨rfl, rfl, rfl, by decide +kernel, rfl, by decide +kernel, by decide +kernel⟩
abbrev m_Tree_kind_of : List Bool := [false, false]
def b_Tree_kind_of : SF :=
  (sSeq (sIf ((tE ((eEqC (.tuple [.str "", .int 0]) (eVar 1))))) (sRet (eC (.str "map"))) sNext)
  (sSeq (sIf ((tE (eOp gInA (eVar 1) ((eFld ["Tree"] "spots" (eVar 0)))))) (sRet ((eOp gIx ((eOpF gIxA ((eFld ["Tree"] "spots" (eVar 0))) (eVar 1))) (eC (.int 0))))) sNext)
  (sRet (eC .none))))
def d_Tree_kind_of : DF := dDef 2 m_Tree_kind_of b_Tree_kind_of
theorem ok_Tree_kind_of {f : Addr} {fd : FuncData} (T : TX mg) (C_Tree_spots : ∀ c ∈ (["Tree"] : List Str), ∀ C, mg c = some (.ref C) → Cls K C ∧ NoAttr K C "spots") (R_ROOT : RootC K mg "ROOT" "" 0) (F : FnP K "kind_of" "Tree.kind_of" s_Tree_kind_of f fd) : FnOk P w K mg base CX0 1 f fd ["self", "thing"] (spD ⟨K, mg⟩ m_Tree_kind_of d_Tree_kind_of) := by
  refine fn_denD F sc_Tree_kind_of rfl fun cdv A outer s H E hr => ?_
  exact (dss_cons (ds_if (dt_eqRoot R_ROOT hr.units (de_var 1) rfl) (dss_one (ds_ret (de_str))) dss_nil)
  (dss_cons (ds_if (dt_cmp (dop_ina hr.units) (de_var 1) ((de_fld ⟨C_Tree_spots, by decide⟩ (de_var 0)))) (dss_one (ds_ret ((de_ix dix ((de_ixF (dixa hr.units) ((de_fld ⟨C_Tree_spots, by decide⟩ (de_var 0))) (de_var 1))) (de_int))))) dss_nil)
  (dss_one (ds_ret (de_non)))))
/-! ### Tree.fits -/
abbrev tb_Tree_kind_of : List (Str × DF) := [("Tree", d_Tree_kind_of)]
abbrev s_Tree_fits : Stmt := clsS 5 8
abbrev N_Tree_fits : List Str := ["self", "holder", "spot"]
theorem sc_Tree_fits : FnScope N_Tree_fits ["self", "holder", "spot"] (defScope s_Tree_fits) := ⟨rfl, rfl, rfl, by decide +kernel, rfl, by decide +kernel, by decide +kernel⟩
abbrev m_Tree_fits : List Bool := [false, false, false]
def b_Tree_fits : SF :=
  (sSeq (sIf ((tE ((eIsi "str" (eVar 2))))) (sRet ((eOp gEq ((eMeth "kind_of" tb_Tree_kind_of [false] (eVar 0) [eVar 1])) (eC (.str "map"))))) sNext)
  (sRet ((eOp gEq ((eMeth "kind_of" tb_Tree_kind_of [false] (eVar 0) [eVar 1])) (eC (.str "row"))))))
def d_Tree_fits : DF := dDef 3 m_Tree_fits b_Tree_fits
theorem ok_Tree_fits {f : Addr} {fd : FuncData} (T : TX mg) (M_Tree_kind_of : Mf P w K mg base 1 "kind_of" [false] tb_Tree_kind_of) (F : FnP K "fits" "Tree.fits" s_Tree_fits f fd) : FnOk P w K mg base CX0 2 f fd ["self", "holder", "spot"] (spD ⟨K, mg⟩ m_Tree_fits d_Tree_fits) := by
  refine fn_denD F sc_Tree_fits rfl fun cdv A outer s H E hr => ?_
  exact (dss_cons (ds_if (dt_val ((de_isi (de_var 2) (by decide) (by rfl) T.isinstance (by rfl) T.str (by decide +kernel)))) (dss_one (ds_ret ((de_cmp (dop_eq hr.units) ((de_meth M_Tree_kind_of (hr.mono (by decide)) (de_var 0) (da_cons (de_var 1) da_nil))) (de_str))))) dss_nil)
  (dss_one (ds_ret ((de_cmp (dop_eq hr.units) ((de_meth M_Tree_kind_of (hr.mono (by decide)) (de_var 0) (da_cons (de_var 1) da_nil))) (de_str))))))
/-! ### place_of -/
abbrev s_place_of : Stmt := topS 3
abbrev N_place_of : List Str := ["spot", "name", "under", "side"]
theorem sc_place_of : FnScope N_place_of ["spot", "name"] (defScope s_place_of) := ⟨rfl, rfl, rfl, by decide +kernel, rfl, by decide +kernel, by decide +kernel⟩
abbrev m_place_of : List Bool := [false, false]
def b_place_of : SF :=
  (sSeq (sBind (.t [2, 3]) (eVar 0))
  (sRet ((eOp gAdd (eVar 2) ((eTup [(eTup [eVar 3, (eOp gIx (eVar 1) (eC (.int 0))), (eOp gIx (eVar 1) (eC (.int 1))), eC (.int 0)])]))))))
def d_place_of : DF := dDef 4 m_place_of b_place_of
theorem ok_place_of {f : Addr} {fd : FuncData} (T : TX mg)  (F : FnP K "place_of" "place_of" s_place_of f fd) : FnOk P w K mg base CX0 1 f fd ["spot", "name"] (spD ⟨K, mg⟩ m_place_of d_place_of) := by
  refine fn_denD F sc_place_of rfl fun cdv A outer s H E hr => ?_
  exact (dss_cons (ds_bind (dg_tup rfl (dgs_cons sc_place_of.nd rfl (Or.inl rfl) (dgs_cons sc_place_of.nd rfl (Or.inl rfl) dgs_nil))) (de_var 0))
  (dss_one (ds_ret ((de_op dop_add (de_var 2) ((de_tup (da_cons ((de_tup (da_cons (de_var 3) (da_cons ((de_ix dix (de_var 1) (de_int))) (da_cons ((de_ix dix (de_var 1) (de_int))) (da_cons (de_int) da_nil)))))) da_nil))))))))
theorem df_place_of {f : Addr} {fd : FuncData} (T : TX mg)  (F : FnP K "place_of" "place_of" s_place_of f fd) (hm : mg "place_of" = some (.ref f)) : Df P w K mg base 1 "place_of" m_place_of d_place_of :=
  ⟨f, fd, _, ok_place_of T  F, hm, F.kp, FunD.bindsN F fun _ _ _ _ _ _ us hl => match us, hl with | [_, _], _ => rfl⟩
/-! ### Tree.put_at -/
abbrev s_Tree_put_at : Stmt := clsS 5 9
abbrev N_Tree_put_at : List Str := ["self", "thing", "kind", "holder", "spot", "name"]
theorem sc_Tree_put_at : FnScope N_Tree_put_at ["self", "thing", "kind", "holder", "spot", "name"] (defScope s_Tree_put_at) := ⟨rfl, rfl, rfl, by decide +kernel, rfl, by decide +kernel, by decide +kernel⟩
abbrev m_Tree_put_at : List Bool := [false, false, false, false, false, false]
def b_Tree_put_at : SF :=
  (sSeq (sIf ((tNotD ((tE ((eIsi "str" (eVar 4))))))) (sSet 4 ((eCall d_place_of m_place_of [eVar 4, eVar 5]))) sNext)
  (sPutDF ["Tree"] 0 "spots" (eVar 1) ((eTup [eVar 2, eVar 3, eVar 4]))))
def d_Tree_put_at : DF := dDef 6 m_Tree_put_at b_Tree_put_at
theorem ok_Tree_put_at {f : Addr} {fd : FuncData} (T : TX mg) (G_place_of : Df P w K mg base 1 "place_of" m_place_of d_place_of) (C_Tree_spots : ∀ c ∈ (["Tree"] : List Str), ∀ C, mg c = some (.ref C) → Cls K C ∧ NoAttr K C "spots") (F : FnP K "put_at" "Tree.put_at" s_Tree_put_at f fd) : FnOk P w K mg base CX0 2 f fd ["self", "thing", "kind", "holder", "spot", "name"] (spD ⟨K, mg⟩ m_Tree_put_at d_Tree_put_at) := by
  refine fn_denD F sc_Tree_put_at rfl fun cdv A outer s H E hr => ?_
  exact (dss_cons (ds_if (dt_not ((dt_val ((de_isi (de_var 4) (by decide) (by rfl) T.isinstance (by rfl) T.str (by decide +kernel)))))) (dss_one (ds_set (i := 4) sc_Tree_put_at.nd rfl (Or.inl rfl) ((de_callD G_place_of (hr.mono (by decide)) (by rfl) (da_cons (de_var 4) (da_cons (de_var 5) da_nil)))))) dss_nil)
  (dss_one (ds_putDF 0 hr.units ⟨C_Tree_spots, by decide⟩ rfl (by first | exact Or.inl rfl | exact Or.inr (Or.inl rfl) | exact Or.inr (Or.inr rfl)) (de_var 1) ((de_tup (da_cons (de_var 2) (da_cons (de_var 3) (da_cons (de_var 4) da_nil))))))))
/-! ### Tree.ring -/
abbrev s_Tree_ring : Stmt := clsS 5 6
abbrev N_Tree_ring : List Str := ["self", "thing", "holder", "way"]
theorem sc_Tree_ring : FnScope N_Tree_ring ["self", "thing", "holder"] (defScope s_Tree_ring) := ⟨rfl, rfl, rfl, by decide +kernel, rfl, by decide +kernel, by decide +kernel⟩
abbrev m_Tree_ring : List Bool := [false, false, false]
def w1_Tree_ring : SF :=
  (sSeq (sDrop ((eMut isLst gApp (.sl 3) [eVar 2])))
  (sSeq (sIf ((tE (eOp gEq (eVar 2) (eVar 1)))) (sRet (eVar 3)) sNext)
  (sSeq (sIf ((tE (eOp gNotInA (eVar 2) ((eFld ["Tree"] "spots" (eVar 0)))))) (sRet ((eLst []))) sNext)
  (sSet 2 ((eOp gIx ((eOpF gIxA ((eFld ["Tree"] "spots" (eVar 0))) (eVar 2))) (eC (.int 1))))))))
def wt1_Tree_ring : TF :=
  (tE (eOp gNotN (eVar 2) (eC .none)))
def b_Tree_ring : SF :=
  (sSeq (sSet 3 ((eLst [])))
  (sSeq (runWhile (wt1_Tree_ring) w1_Tree_ring 1000000)
  (sRet ((eLst [])))))
def d_Tree_ring : DF := dDef 4 m_Tree_ring b_Tree_ring
theorem ok_Tree_ring {f : Addr} {fd : FuncData} (T : TX mg) (C_Tree_spots : ∀ c ∈ (["Tree"] : List Str), ∀ C, mg c = some (.ref C) → Cls K C ∧ NoAttr K C "spots") (F : FnP K "ring" "Tree.ring" s_Tree_ring f fd) : FnOk P w K mg base CX0 1 f fd ["self", "thing", "holder"] (spD ⟨K, mg⟩ m_Tree_ring d_Tree_ring) := by
  refine fn_denD F sc_Tree_ring rfl fun cdv A outer s H E hr => ?_
  exact (dss_cons (ds_set (i := 3) sc_Tree_ring.nd rfl (Or.inl rfl) ((de_lst da_nil)))
  (dss_cons (ds_while 1000000 PassesOwn.never (dt_cmp dop_notN (de_var 2) (de_non)) (dss_cons (ds_expr ((de_mutS 3 dm_append rfl (by first | exact Or.inl rfl | exact Or.inr (Or.inl rfl) | exact Or.inr (Or.inr rfl)) (da_cons (de_var 2) da_nil))))
  (dss_cons (ds_if (dt_cmp (dop_eq hr.units) (de_var 2) (de_var 1)) (dss_one (ds_ret (de_var 3))) dss_nil)
  (dss_cons (ds_if (dt_cmp (dop_notina hr.units) (de_var 2) ((de_fld ⟨C_Tree_spots, by decide⟩ (de_var 0)))) (dss_one (ds_ret ((de_lst da_nil)))) dss_nil)
  (dss_one (ds_set (i := 2) sc_Tree_ring.nd rfl (Or.inl rfl) ((de_ix dix ((de_ixF (dixa hr.units) ((de_fld ⟨C_Tree_spots, by decide⟩ (de_var 0))) (de_var 2))) (de_int)))))))))
  (dss_one (ds_ret ((de_lst da_nil))))))
/-! ### Tree.hear -/
abbrev tb_Tree_fits : List (Str × DF) := [("Tree", d_Tree_fits)]
abbrev tb_Tree_put_at : List (Str × DF) := [("Tree", d_Tree_put_at)]
abbrev tb_Tree_ring : List (Str × DF) := [("Tree", d_Tree_ring)]
abbrev s_Tree_hear : Stmt := clsS 5 10
abbrev N_Tree_hear : List Str := ["self", "deed", "name", "act", "kind"]
theorem sc_Tree_hear : FnScope N_Tree_hear ["self", "deed"] (defScope s_Tree_hear) := ⟨rfl, rfl, rfl, by decide +kernel, rfl, by decide +kernel, by decide +kernel⟩
abbrev m_Tree_hear : List Bool := [false, false]
def b_Tree_hear : SF :=
  (sSeq (sSet 2 ((eOp gIx (eVar 1) (eC (.int 0)))))
  (sSeq (sSet 3 ((eOp gIx (eVar 1) (eC (.int 2)))))
  (sSeq (sIf ((tE (eOp gEq ((eOp gIx (eVar 3) (eC (.int 0)))) (eC (.str "make"))))) (sSeq (sIf ((tNotD ((tE ((eMeth "fits" tb_Tree_fits [false, false] (eVar 0) [(eOp gIx (eVar 3) (eC (.int 2))), (eOp gIx (eVar 3) (eC (.int 3)))])))))) (sRet (eC (.str "idle"))) sNext)
  (sSeq (sDrop ((eMeth "put_at" tb_Tree_put_at [false, false, false, false, false] (eVar 0) [eVar 2, (eOp gIx (eVar 3) (eC (.int 1))), (eOp gIx (eVar 3) (eC (.int 2))), (eOp gIx (eVar 3) (eC (.int 3))), eVar 2])))
  (sRet (eC (.str "done"))))) sNext)
  (sSeq (sIf ((tE (eOp gNotInA ((eOp gIx (eVar 3) (eC (.int 1)))) ((eFld ["Tree"] "spots" (eVar 0)))))) (sRet (eC (.str "idle"))) sNext)
  (sSeq (sSet 4 ((eOp gIx ((eOpF gIxA ((eFld ["Tree"] "spots" (eVar 0))) ((eOp gIx (eVar 3) (eC (.int 1)))))) (eC (.int 0)))))
  (sSeq (sIf ((tE (eOp gEq ((eOp gIx (eVar 3) (eC (.int 0)))) (eC (.str "drop"))))) (sSeq (sPutDF ["Tree"] 0 "spots" ((eOp gIx (eVar 3) (eC (.int 1)))) ((eTup [eVar 4, eC .none, eC .none])))
  (sRet (eC (.str "done")))) sNext)
  (sSeq (sIf ((tNotD ((tE ((eMeth "fits" tb_Tree_fits [false, false] (eVar 0) [(eOp gIx (eVar 3) (eC (.int 2))), (eOp gIx (eVar 3) (eC (.int 3)))])))))) (sRet (eC (.str "idle"))) sNext)
  (sSeq (sIf ((tE (eOp gNe ((eMeth "ring" tb_Tree_ring [false, false] (eVar 0) [(eOp gIx (eVar 3) (eC (.int 1))), (eOp gIx (eVar 3) (eC (.int 2)))])) ((eLst []))))) (sSeq (sDrop ((eMut isLst gApp (.fl ["Tree"] 0 "losers") [eVar 2])))
  (sRet (eC (.str "lost")))) sNext)
  (sSeq (sDrop ((eMeth "put_at" tb_Tree_put_at [false, false, false, false, false] (eVar 0) [(eOp gIx (eVar 3) (eC (.int 1))), eVar 4, (eOp gIx (eVar 3) (eC (.int 2))), (eOp gIx (eVar 3) (eC (.int 3))), eVar 2])))
  (sRet (eC (.str "done"))))))))))))
def d_Tree_hear : DF := dDef 5 m_Tree_hear b_Tree_hear
theorem ok_Tree_hear {f : Addr} {fd : FuncData} (T : TX mg) (C_Tree_spots : ∀ c ∈ (["Tree"] : List Str), ∀ C, mg c = some (.ref C) → Cls K C ∧ NoAttr K C "spots") (C_Tree_losers : ∀ c ∈ (["Tree"] : List Str), ∀ C, mg c = some (.ref C) → Cls K C ∧ NoAttr K C "losers") (M_Tree_fits : Mf P w K mg base 2 "fits" [false, false] tb_Tree_fits) (M_Tree_put_at : Mf P w K mg base 2 "put_at" [false, false, false, false, false] tb_Tree_put_at) (M_Tree_ring : Mf P w K mg base 1 "ring" [false, false] tb_Tree_ring) (F : FnP K "hear" "Tree.hear" s_Tree_hear f fd) : FnOk P w K mg base CX0 3 f fd ["self", "deed"] (spD ⟨K, mg⟩ m_Tree_hear d_Tree_hear) := by
  refine fn_denD F sc_Tree_hear rfl fun cdv A outer s H E hr => ?_
  exact (dss_cons (ds_set (i := 2) sc_Tree_hear.nd rfl (Or.inl rfl) ((de_ix dix (de_var 1) (de_int))))
  (dss_cons (ds_set (i := 3) sc_Tree_hear.nd rfl (Or.inl rfl) ((de_ix dix (de_var 1) (de_int))))
  (dss_cons (ds_if (dt_cmp (dop_eq hr.units) ((de_ix dix (de_var 3) (de_int))) (de_str)) (dss_cons (ds_if (dt_not ((dt_val ((de_meth M_Tree_fits (hr.mono (by decide)) (de_var 0) (da_cons ((de_ix dix (de_var 3) (de_int))) (da_cons ((de_ix dix (de_var 3) (de_int))) da_nil))))))) (dss_one (ds_ret (de_str))) dss_nil)
  (dss_cons (ds_expr ((de_meth M_Tree_put_at (hr.mono (by decide)) (de_var 0) (da_cons (de_var 2) (da_cons ((de_ix dix (de_var 3) (de_int))) (da_cons ((de_ix dix (de_var 3) (de_int))) (da_cons ((de_ix dix (de_var 3) (de_int))) (da_cons (de_var 2) da_nil))))))))
  (dss_one (ds_ret (de_str))))) dss_nil)
  (dss_cons (ds_if (dt_cmp (dop_notina hr.units) ((de_ix dix (de_var 3) (de_int))) ((de_fld ⟨C_Tree_spots, by decide⟩ (de_var 0)))) (dss_one (ds_ret (de_str))) dss_nil)
  (dss_cons (ds_set (i := 4) sc_Tree_hear.nd rfl (Or.inl rfl) ((de_ix dix ((de_ixF (dixa hr.units) ((de_fld ⟨C_Tree_spots, by decide⟩ (de_var 0))) ((de_ix dix (de_var 3) (de_int))))) (de_int))))
  (dss_cons (ds_if (dt_cmp (dop_eq hr.units) ((de_ix dix (de_var 3) (de_int))) (de_str)) (dss_cons (ds_putDF 0 hr.units ⟨C_Tree_spots, by decide⟩ rfl (by first | exact Or.inl rfl | exact Or.inr (Or.inl rfl) | exact Or.inr (Or.inr rfl)) ((de_ix dix (de_var 3) (de_int))) ((de_tup (da_cons (de_var 4) (da_cons (de_non) (da_cons (de_non) da_nil))))))
  (dss_one (ds_ret (de_str)))) dss_nil)
  (dss_cons (ds_if (dt_not ((dt_val ((de_meth M_Tree_fits (hr.mono (by decide)) (de_var 0) (da_cons ((de_ix dix (de_var 3) (de_int))) (da_cons ((de_ix dix (de_var 3) (de_int))) da_nil))))))) (dss_one (ds_ret (de_str))) dss_nil)
  (dss_cons (ds_if (dt_cmp (dop_ne hr.units) ((de_meth M_Tree_ring (hr.mono (by decide)) (de_var 0) (da_cons ((de_ix dix (de_var 3) (de_int))) (da_cons ((de_ix dix (de_var 3) (de_int))) da_nil)))) ((de_lst da_nil))) (dss_cons (ds_expr ((de_mutF 0 dm_append ⟨C_Tree_losers, by decide⟩ rfl (by first | exact Or.inl rfl | exact Or.inr (Or.inl rfl) | exact Or.inr (Or.inr rfl)) (da_cons (de_var 2) da_nil))))
  (dss_one (ds_ret (de_str)))) dss_nil)
  (dss_cons (ds_expr ((de_meth M_Tree_put_at (hr.mono (by decide)) (de_var 0) (da_cons ((de_ix dix (de_var 3) (de_int))) (da_cons (de_var 4) (da_cons ((de_ix dix (de_var 3) (de_int))) (da_cons ((de_ix dix (de_var 3) (de_int))) (da_cons (de_var 2) da_nil))))))))
  (dss_one (ds_ret (de_str))))))))))))
/-! ### Tree.rows -/
abbrev s_Tree_rows : Stmt := clsS 5 2
abbrev N_Tree_rows : List Str := ["self", "thing", "row"]
theorem sc_Tree_rows : FnScope N_Tree_rows ["self"] (defScope s_Tree_rows) := ⟨rfl, rfl, rfl, by decide +kernel, rfl, by decide +kernel, by decide +kernel⟩
abbrev m_Tree_rows : List Bool := [false]
def ce1_Tree_rows : EF :=
  (eTup [eVar 1, (eOp gIx (eVar 2) (eC (.int 0))), (eOp gIx (eVar 2) (eC (.int 1))), (eOp gIx (eVar 2) (eC (.int 2)))])
def b_Tree_rows : SF :=
  (sRet ((eLc [1, 2] (.t [1, 2]) (iSeq ((eUn gSortItT ((eFld ["Tree"] "spots" (eVar 0)))))) (tYesD) (ce1_Tree_rows))))
def d_Tree_rows : DF := dDef 3 m_Tree_rows b_Tree_rows
theorem ok_Tree_rows {f : Addr} {fd : FuncData} (T : TX mg) (C_Tree_spots : ∀ c ∈ (["Tree"] : List Str), ∀ C, mg c = some (.ref C) → Cls K C ∧ NoAttr K C "spots") (F : FnP K "rows" "Tree.rows" s_Tree_rows f fd) : FnOk P w K mg base CX0 1 f fd ["self"] (spD ⟨K, mg⟩ m_Tree_rows d_Tree_rows) := by
  refine fn_denD F sc_Tree_rows rfl fun cdv A outer s H E hr => ?_
  exact (dss_one (ds_ret ((de_lc (own := [("thing", 1), ("row", 2)]) rfl sc_Tree_rows.nd (di_seq ((de_sortItemsT rfl hr.units ((de_fld ⟨C_Tree_spots, by decide⟩ (de_var 0))) (by rfl) T.sorted (by decide +kernel)))) (blkOk_by (sc := defScope s_Tree_rows) (own := [("thing", 1), ("row", 2)]) (N := N_Tree_rows) (by decide +kernel)) (fun _ _ _ _ _ => (dg_tup rfl (dgs_cons sc_Tree_rows.nd rfl (Or.inl rfl) (dgs_cons sc_Tree_rows.nd rfl (Or.inl rfl) dgs_nil)))) (fun _ _ _ _ _ => dts_nil) (fun _ _ _ _ _ => (de_tup (da_cons (de_var 1) (da_cons ((de_ix dix (de_var 2) (de_int))) (da_cons ((de_ix dix (de_var 2) (de_int))) (da_cons ((de_ix dix (de_var 2) (de_int))) da_nil)))))) (by decide)))))
/-! ### Tree.held -/
abbrev s_Tree_held : Stmt := clsS 5 5
abbrev N_Tree_held : List Str := ["self", "thing"]
theorem sc_Tree_held : FnScope N_Tree_held ["self", "thing"] (defScope s_Tree_held) := ⟨rfl, rfl, rfl, by decide +kernel, rfl, by decide +kernel, by decide +kernel⟩
abbrev m_Tree_held : List Bool := [false, false]
def b_Tree_held : SF :=
  (sSeq (sIf ((tE (eOp gNotInA (eVar 1) ((eFld ["Tree"] "spots" (eVar 0)))))) (sRet (eC .none)) sNext)
  (sRet ((eTup [(eOp gIx ((eOpF gIxA ((eFld ["Tree"] "spots" (eVar 0))) (eVar 1))) (eC (.int 1))), (eOp gIx ((eOpF gIxA ((eFld ["Tree"] "spots" (eVar 0))) (eVar 1))) (eC (.int 2)))]))))
def d_Tree_held : DF := dDef 2 m_Tree_held b_Tree_held
theorem ok_Tree_held {f : Addr} {fd : FuncData} (T : TX mg) (C_Tree_spots : ∀ c ∈ (["Tree"] : List Str), ∀ C, mg c = some (.ref C) → Cls K C ∧ NoAttr K C "spots") (F : FnP K "held" "Tree.held" s_Tree_held f fd) : FnOk P w K mg base CX0 1 f fd ["self", "thing"] (spD ⟨K, mg⟩ m_Tree_held d_Tree_held) := by
  refine fn_denD F sc_Tree_held rfl fun cdv A outer s H E hr => ?_
  exact (dss_cons (ds_if (dt_cmp (dop_notina hr.units) (de_var 1) ((de_fld ⟨C_Tree_spots, by decide⟩ (de_var 0)))) (dss_one (ds_ret (de_non))) dss_nil)
  (dss_one (ds_ret ((de_tup (da_cons ((de_ix dix ((de_ixF (dixa hr.units) ((de_fld ⟨C_Tree_spots, by decide⟩ (de_var 0))) (de_var 1))) (de_int))) (da_cons ((de_ix dix ((de_ixF (dixa hr.units) ((de_fld ⟨C_Tree_spots, by decide⟩ (de_var 0))) (de_var 1))) (de_int))) da_nil)))))))
/-! ### law -/
abbrev tb_Tree_hear : List (Str × DF) := [("Tree", d_Tree_hear)]
abbrev tb_Tree_rows : List (Str × DF) := [("Tree", d_Tree_rows)]
abbrev tb_Tree_held : List (Str × DF) := [("Tree", d_Tree_held)]
abbrev s_law : Stmt := topS 14
abbrev N_law : List Str := ["_law_script", "_law_first", "_law_hands_here", "_law_tree", "_law_due", "_law_deed", "_law_rows", "_law_found", "_law_thing", "_law_kind", "_law_holder", "_law_spot_here"]
theorem sc_law : FnScope N_law ["_law_script"] (defScope s_law) := ⟨rfl, rfl, rfl, by decide +kernel, rfl, by decide +kernel, by decide +kernel⟩
abbrev m_law : List Bool := [false]
def l1_law : SF :=
  (sIf ((tE (eOp gEq ((eMeth "hear" tb_Tree_hear [false] (eVar 3) [eVar 5])) (eC (.str "done"))))) (sSeq (sIf ((tAndD ((tE (eOp gNe ((eOp gIx ((eOp gIx (eVar 5) (eC (.int 2)))) (eC (.int 0)))) (eC (.str "make"))))) ((tE (eOp gNotInA ((eOp gIx ((eOp gIx (eVar 5) (eC (.int 2)))) (eC (.int 1)))) ((eUb (eVar 4)))))))) (sRet (eC (.bool false))) sNext)
  (sDrop ((eCall d__law_put m__law_put [eVar 4, eVar 5])))) sNext)
def ce1_law : EF :=
  (eOpF gIxA ((eUb (eVar 4))) (eVar 8))
def l2_law : SF :=
  (sIf ((tOrD ((tE (eOp gNe ((eMeth "held" tb_Tree_held [false] (eVar 3) [eVar 8])) ((eTup [eVar 10, eVar 11]))))) ((tE (eOp gNe ((eMeth "kind_of" tb_Tree_kind_of [false] (eVar 3) [eVar 8])) (eVar 9)))))) (sRet (eC (.bool false))) sNext)
def b_law : SF :=
  (sSeq (sSet 1 ((eCall d__law_cell_at m__law_cell_at [eVar 0, eC (.int 0)])))
  (sSeq (sSet 2 ((eCall d__law_hands m__law_hands [eVar 1, (eOp gAdd (eC (.int 1)) ((eOp gMod ((eOp gDiv (eVar 1) (eC (.int 24)))) (eC (.int 3)))))])))
  (sSeq (sSet 3 ((eNew "Tree" d_Tree___init__ [] [])))
  (sSeq (sSet 4 ((eBox (eNewT))))
  (sSeq (sFor (.v 5) (iSeq ((eCall d__law_deeds m__law_deeds [(eSl (eVar 0) (some (eC (.int 1))) (some (eC (.int 41)))), eVar 2]))) l1_law)
  (sSeq (sSet 6 (eLc [8] (.v 8) (iSeq ((eUn gSortKT ((eUb (eVar 4)))))) (tYesD) (ce1_law)))
  (sSeq (sSet 7 ((eMeth "rows" tb_Tree_rows [] (eVar 3) [])))
  (sSeq (sIf ((tOrD ((tNotD ((tE ((eIsi "list" (eVar 7))))))) ((tE (eOp gNe (eVar 7) (eVar 6)))))) (sRet (eC (.bool false))) sNext)
  (sSeq (sDrop ((eMut isLst gApp (.sl 7) [(eTup [])])))
  (sSeq (sFor (.t [8, 9, 10, 11]) (iSeq (eVar 6)) l2_law)
  (sRet ((eOp gEq ((eMeth "rows" tb_Tree_rows [] (eVar 3) [])) (eVar 6))))))))))))))
def d_law : DF := dDef 12 m_law b_law
theorem ok_law {f : Addr} {fd : FuncData} (T : TX mg) (G__law_cell_at : Df P w K mg base 1 "_law_cell_at" m__law_cell_at d__law_cell_at) (G__law_hands : Df P w K mg base 2 "_law_hands" m__law_hands d__law_hands) (G__law_deeds : Df P w K mg base 3 "_law_deeds" m__law_deeds d__law_deeds) (G__law_put : Df P w K mg base 1 "_law_put" m__law_put d__law_put) (K_Tree : MkD P w K mg base 1 "Tree" [] d_Tree___init__) (M_Tree_hear : Mf P w K mg base 3 "hear" [false] tb_Tree_hear) (M_Tree_rows : Mf P w K mg base 1 "rows" [] tb_Tree_rows) (M_Tree_held : Mf P w K mg base 1 "held" [false] tb_Tree_held) (M_Tree_kind_of : Mf P w K mg base 1 "kind_of" [false] tb_Tree_kind_of) (F : FnP K "law" "law" s_law f fd) : FnOk P w K mg base CX0 4 f fd ["_law_script"] (spD ⟨K, mg⟩ m_law d_law) := by
  refine fn_denD F sc_law rfl fun cdv A outer s H E hr => ?_
  exact (dss_cons (ds_set (i := 1) sc_law.nd rfl (Or.inl rfl) ((de_callD G__law_cell_at (hr.mono (by decide)) (by rfl) (da_cons (de_var 0) (da_cons (de_int) da_nil)))))
  (dss_cons (ds_set (i := 2) sc_law.nd rfl (Or.inl rfl) ((de_callD G__law_hands (hr.mono (by decide)) (by rfl) (da_cons (de_var 1) (da_cons ((de_op dop_add (de_int) ((de_op dop_mod ((de_op dop_div (de_var 1) (de_int))) (de_int))))) da_nil)))))
  (dss_cons (ds_set (i := 3) sc_law.nd rfl (Or.inl rfl) ((de_new0 K_Tree (hr.mono (by decide)) (by rfl))))
  (dss_cons (ds_set (i := 4) sc_law.nd rfl (Or.inr rfl) ((de_box ((de_newT (qb := true))))))
  (dss_cons (ds_for PassesOwn.never rfl (di_seq ((de_callD G__law_deeds (hr.mono (by decide)) (by rfl) (da_cons ((de_slice (de_var 0) (dpart_some (de_int)) (dpart_some (de_int)))) (da_cons (de_var 2) da_nil))))) (dg_name sc_law.nd rfl (Or.inl rfl)) (dss_one (ds_if (dt_cmp (dop_eq hr.units) ((de_meth M_Tree_hear (hr.mono (by decide)) (de_var 3) (da_cons (de_var 5) da_nil))) (de_str)) (dss_cons (ds_if (dw_dt (dw_and ((dt_cmp (dop_ne hr.units) ((de_ix dix ((de_ix dix (de_var 5) (de_int))) (de_int))) (de_str))) (dw_and1 ((dt_cmp (dop_notina hr.units) ((de_ix dix ((de_ix dix (de_var 5) (de_int))) (de_int))) ((de_ub (de_var 4)))))))) (dss_one (ds_ret (de_bl))) dss_nil)
  (dss_one (ds_expr ((de_callD G__law_put (hr.mono (by decide)) (by rfl) (da_cons (de_var 4) (da_cons (de_var 5) da_nil))))))) dss_nil)))
  (dss_cons (ds_setLc (i := 6) (own := [("_law_thing", 8)]) rfl sc_law.nd rfl rfl (sw_true rfl rfl rfl (by decide +kernel)) (di_seq ((de_sortKeysT rfl hr.units ((de_ub (de_var 4))) (by rfl) T.sorted (by decide +kernel)))) (blkOk_by (sc := defScope s_law) (own := [("_law_thing", 8)]) (N := N_law) (by decide +kernel)) (fun _ _ _ _ _ => (dg_name sc_law.nd rfl (Or.inl rfl))) (fun _ _ _ _ _ => dts_nil) (fun _ _ _ _ _ => (de_ixF (dixa hr.units) ((de_ub (de_var 4))) (de_var 8))) (by decide))
  (dss_cons (ds_set (i := 7) sc_law.nd rfl (Or.inl rfl) ((de_meth0 M_Tree_rows (hr.mono (by decide)) (de_var 3))))
  (dss_cons (ds_if (dw_dt (dw_or ((dt_not ((dt_val ((de_isi (de_var 7) (by decide) (by rfl) T.isinstance (by rfl) T.list (by decide +kernel))))))) (dw_or1 ((dt_cmp (dop_ne hr.units) (de_var 7) (de_var 6)))))) (dss_one (ds_ret (de_bl))) dss_nil)
  (dss_cons (ds_expr ((de_mutS 7 dm_append rfl (by first | exact Or.inl rfl | exact Or.inr (Or.inl rfl) | exact Or.inr (Or.inr rfl)) (da_cons ((de_tup da_nil)) da_nil))))
  (dss_cons (ds_for PassesOwn.never rfl (di_seq (de_var 6)) (dg_tup rfl (dgs_cons sc_law.nd rfl (Or.inl rfl) (dgs_cons sc_law.nd rfl (Or.inl rfl) (dgs_cons sc_law.nd rfl (Or.inl rfl) (dgs_cons sc_law.nd rfl (Or.inl rfl) dgs_nil))))) (dss_one (ds_if (dw_dt (dw_or ((dt_cmp (dop_ne hr.units) ((de_meth M_Tree_held (hr.mono (by decide)) (de_var 3) (da_cons (de_var 8) da_nil))) ((de_tup (da_cons (de_var 10) (da_cons (de_var 11) da_nil)))))) (dw_or1 ((dt_cmp (dop_ne hr.units) ((de_meth M_Tree_kind_of (hr.mono (by decide)) (de_var 3) (da_cons (de_var 8) da_nil))) (de_var 9)))))) (dss_one (ds_ret (de_bl))) dss_nil)))
  (dss_one (ds_ret ((de_cmp (dop_eq hr.units) ((de_meth0 M_Tree_rows (hr.mono (by decide)) (de_var 3))) (de_var 6)))))))))))))))
theorem df_law {f : Addr} {fd : FuncData} (T : TX mg) (G__law_cell_at : Df P w K mg base 1 "_law_cell_at" m__law_cell_at d__law_cell_at) (G__law_hands : Df P w K mg base 2 "_law_hands" m__law_hands d__law_hands) (G__law_deeds : Df P w K mg base 3 "_law_deeds" m__law_deeds d__law_deeds) (G__law_put : Df P w K mg base 1 "_law_put" m__law_put d__law_put) (K_Tree : MkD P w K mg base 1 "Tree" [] d_Tree___init__) (M_Tree_hear : Mf P w K mg base 3 "hear" [false] tb_Tree_hear) (M_Tree_rows : Mf P w K mg base 1 "rows" [] tb_Tree_rows) (M_Tree_held : Mf P w K mg base 1 "held" [false] tb_Tree_held) (M_Tree_kind_of : Mf P w K mg base 1 "kind_of" [false] tb_Tree_kind_of) (F : FnP K "law" "law" s_law f fd) (hm : mg "law" = some (.ref f)) : Df P w K mg base 4 "law" m_law d_law :=
  ⟨f, fd, _, ok_law T G__law_cell_at G__law_hands G__law_deeds G__law_put K_Tree M_Tree_hear M_Tree_rows M_Tree_held M_Tree_kind_of F, hm, F.kp, FunD.bindsN F fun _ _ _ _ _ _ us hl => match us, hl with | [_], _ => rfl⟩
end
/-! ### the head -/
def D__law_cell_at : He.DefD := ⟨("_law_cell_at", none), "_law_cell_at", "_law_cell_at", defArgs s__law_cell_at, defBody s__law_cell_at, defScope s__law_cell_at, [], []⟩
def D__law_stream : He.DefD := ⟨("_law_stream", none), "_law_stream", "_law_stream", defArgs s__law_stream, defBody s__law_stream, defScope s__law_stream, [], []⟩
def D__law_hands : He.DefD := ⟨("_law_hands", none), "_law_hands", "_law_hands", defArgs s__law_hands, defBody s__law_hands, defScope s__law_hands, [], []⟩
def D__law_spot : He.DefD := ⟨("_law_spot", none), "_law_spot", "_law_spot", defArgs s__law_spot, defBody s__law_spot, defScope s__law_spot, [], []⟩
def D__law_act : He.DefD := ⟨("_law_act", none), "_law_act", "_law_act", defArgs s__law_act, defBody s__law_act, defScope s__law_act, [], []⟩
def D__law_deeds : He.DefD := ⟨("_law_deeds", none), "_law_deeds", "_law_deeds", defArgs s__law_deeds, defBody s__law_deeds, defScope s__law_deeds, [], []⟩
def D__law_put : He.DefD := ⟨("_law_put", none), "_law_put", "_law_put", defArgs s__law_put, defBody s__law_put, defScope s__law_put, [], []⟩
def D_place_of : He.DefD := ⟨("place_of", none), "place_of", "place_of", defArgs s_place_of, defBody s_place_of, defScope s_place_of, [], []⟩
def D_law : He.DefD := ⟨("law", none), "law", "law", defArgs s_law, defBody s_law, defScope s_law, [], []⟩
def D_Tree_kind_of : He.DefD := ⟨("Tree", some "kind_of"), "kind_of", "Tree.kind_of", defArgs s_Tree_kind_of, defBody s_Tree_kind_of, defScope s_Tree_kind_of, [], []⟩
def D_Tree_fits : He.DefD := ⟨("Tree", some "fits"), "fits", "Tree.fits", defArgs s_Tree_fits, defBody s_Tree_fits, defScope s_Tree_fits, [], []⟩
def D_Tree_put_at : He.DefD := ⟨("Tree", some "put_at"), "put_at", "Tree.put_at", defArgs s_Tree_put_at, defBody s_Tree_put_at, defScope s_Tree_put_at, [], []⟩
def D_Tree_ring : He.DefD := ⟨("Tree", some "ring"), "ring", "Tree.ring", defArgs s_Tree_ring, defBody s_Tree_ring, defScope s_Tree_ring, [], []⟩
def D_Tree___init__ : He.DefD := ⟨("Tree", some "__init__"), "__init__", "Tree.__init__", defArgs s_Tree___init__, defBody s_Tree___init__, defScope s_Tree___init__, [], []⟩
def D_Tree_hear : He.DefD := ⟨("Tree", some "hear"), "hear", "Tree.hear", defArgs s_Tree_hear, defBody s_Tree_hear, defScope s_Tree_hear, [], []⟩
def D_Tree_rows : He.DefD := ⟨("Tree", some "rows"), "rows", "Tree.rows", defArgs s_Tree_rows, defBody s_Tree_rows, defScope s_Tree_rows, [], []⟩
def D_Tree_held : He.DefD := ⟨("Tree", some "held"), "held", "Tree.held", defArgs s_Tree_held, defBody s_Tree_held, defScope s_Tree_held, [], []⟩
def fn : List He.DefD := [D__law_cell_at, D__law_stream, D__law_hands, D__law_spot, D__law_act, D__law_deeds, D__law_put, D_place_of, D_law, D_Tree_kind_of, D_Tree_fits, D_Tree_put_at, D_Tree_ring, D_Tree___init__, D_Tree_hear, D_Tree_rows, D_Tree_held]
def fa : List He.Fa := [.glo "_law_cell_at", .glo "_law_stream", .glo "_law_hands", .glo "_law_spot", .glo "_law_act", .glo "_law_deeds", .glo "_law_put", .glo "place_of", .glo "law", .free "isinstance", .free "len", .free "list", .free "range", .free "sorted", .free "str", .glo "Tree", .cls "Tree", .noat "Tree" "spots", .noat "Tree" "losers", .meth "Tree" "kind_of", .meth "Tree" "fits", .meth "Tree" "put_at", .meth "Tree" "ring", .mkr "Tree", .meth "Tree" "hear", .meth "Tree" "rows", .meth "Tree" "held", .glo "ROOT"]
abbrev R : PySem.W.OpenRow := PySem.W.OpenLaw.row PySem.Challenge.rw_copymeet_k55_where_it_was_put
def exB (K : PySem.W.Frag) : List Bool := [rootB "ROOT" "" 0 K]
def exA (K : PySem.W.Frag) : Bool := (exB K).all id
theorem ex_at {K : PySem.W.Frag} (h : exA K = true) (i : Nat) {b : Bool} (e : (exB K)[i]? = some b := by rfl) : b = true := List.all_eq_true.mp h b (List.mem_of_getElem? e)
abbrev hk : PySem.W.Hook := He.hookO 4 fa fn exA
def ob (s : PySem.W.SharedT) : He.AlO := He.obsOG 4 fa fn exA (HandSHeadRun.getT s)
theorem ob_eq (s : PySem.W.SharedT) : ob s = hk.obs s.abs := He.obsOG_eq (HandSHeadRun.getT_eq s)
def names : List PySem.Str := ["ROOT", "_wall", "place_of", "_law_cell_at", "_law_stream", "_law_hands", "_law_spot", "_law_act", "_law_deeds", "_law_put", "Tree"]
theorem run (w : World) : HandSHeadRun.RunEq R (PySem.W.view R.prog [14]) hk ob 4000 names w := by
  intro os
  kernel_rfl
theorem facts {P : Program} {w : World} {K : PySem.W.Frag} {h : Heap} {mg : Str → Option Value} {f : Addr} (X : K.In h) (G : h.Ns mainGlobals mg) (hfa : mg ("law" : Str) = some (.ref f)) (c : He.SaysD fa fn K) (cx : exA K = true) :
    ∃ fd : FuncData, (∀ (s : Shared) (v : Value), BindsTo s fd ⟨[v], []⟩ [("_law_script", v)]) ∧ ∀ base : Heap, K.In base → base.Ns mainGlobals mg → FnOk P w K mg base CX0 4 f fd ["_law_script"] (spD ⟨K, mg⟩ m_law d_law) := by
  obtain ⟨fd0, F0⟩ := c.def_ 0 (d := D__law_cell_at) rfl
  obtain ⟨fd1, F1⟩ := c.def_ 1 (d := D__law_stream) rfl
  obtain ⟨fd2, F2⟩ := c.def_ 2 (d := D__law_hands) rfl
  obtain ⟨fd3, F3⟩ := c.def_ 3 (d := D__law_spot) rfl
  obtain ⟨fd4, F4⟩ := c.def_ 4 (d := D__law_act) rfl
  obtain ⟨fd5, F5⟩ := c.def_ 5 (d := D__law_deeds) rfl
  obtain ⟨fd6, F6⟩ := c.def_ 6 (d := D__law_put) rfl
  obtain ⟨fd7, F7⟩ := c.def_ 7 (d := D_place_of) rfl
  obtain ⟨fd8, F8⟩ := c.def_ 8 (d := D_law) rfl
  obtain ⟨fd9, F9⟩ := c.def_ 9 (d := D_Tree_kind_of) rfl
  obtain ⟨fd10, F10⟩ := c.def_ 10 (d := D_Tree_fits) rfl
  obtain ⟨fd11, F11⟩ := c.def_ 11 (d := D_Tree_put_at) rfl
  obtain ⟨fd12, F12⟩ := c.def_ 12 (d := D_Tree_ring) rfl
  obtain ⟨fd13, F13⟩ := c.def_ 13 (d := D_Tree___init__) rfl
  obtain ⟨fd14, F14⟩ := c.def_ 14 (d := D_Tree_hear) rfl
  obtain ⟨fd15, F15⟩ := c.def_ 15 (d := D_Tree_rows) rfl
  obtain ⟨fd16, F16⟩ := c.def_ 16 (d := D_Tree_held) rfl
  have T : TX mg := ⟨He.free_ok X G (c.fact 9 (f := .free "isinstance") rfl), He.free_ok X G (c.fact 10 (f := .free "len") rfl), He.free_ok X G (c.fact 11 (f := .free "list") rfl), He.free_ok X G (c.fact 12 (f := .free "range") rfl), He.free_ok X G (c.fact 13 (f := .free "sorted") rfl), He.free_ok X G (c.fact 14 (f := .free "str") rfl)⟩
  have e := hfa.symm.trans (He.glo_ok X G (c.fact 8 (f := .glo "law") rfl))
  cases e
  have b := FunD.bindsA (ps := ["_law_script"]) F8 fun _ _ _ _ _ _ us hl => match us, hl with | [_], _ => rfl
  refine ⟨fd8, fun s v => b s [v] rfl, fun base _ _ => ?_⟩
  have G__law_cell_at : Df P w K mg base 1 "_law_cell_at" m__law_cell_at d__law_cell_at := df__law_cell_at T  F0 (He.glo_ok X G (c.fact 0 (f := .glo "_law_cell_at") rfl))
  have G__law_stream : Df P w K mg base 1 "_law_stream" m__law_stream d__law_stream := df__law_stream T  F1 (He.glo_ok X G (c.fact 1 (f := .glo "_law_stream") rfl))
  have G__law_hands : Df P w K mg base 2 "_law_hands" m__law_hands d__law_hands := df__law_hands T G__law_stream F2 (He.glo_ok X G (c.fact 2 (f := .glo "_law_hands") rfl))
  have G__law_spot : Df P w K mg base 1 "_law_spot" m__law_spot d__law_spot := df__law_spot T  F3 (He.glo_ok X G (c.fact 3 (f := .glo "_law_spot") rfl))
  have G__law_act : Df P w K mg base 2 "_law_act" m__law_act d__law_act := df__law_act T G__law_spot F4 (He.glo_ok X G (c.fact 4 (f := .glo "_law_act") rfl))
  have G__law_deeds : Df P w K mg base 3 "_law_deeds" m__law_deeds d__law_deeds := df__law_deeds T G__law_stream G__law_act F5 (He.glo_ok X G (c.fact 5 (f := .glo "_law_deeds") rfl))
  have G__law_put : Df P w K mg base 1 "_law_put" m__law_put d__law_put := df__law_put T  F6 (He.glo_ok X G (c.fact 6 (f := .glo "_law_put") rfl))
  have C_Tree_spots : ∀ c ∈ (["Tree"] : List Str), ∀ C, mg c = some (.ref C) → Cls K C ∧ NoAttr K C "spots" := (cl_cons (He.glo_ok X G (c.fact 15 (f := .glo "Tree") rfl)) (He.cls_ok (c.fact 16 (f := .cls "Tree") rfl)) (He.noat_ok (c.fact 17 (f := .noat "Tree" "spots") rfl)) cl_nil)
  have C_Tree_losers : ∀ c ∈ (["Tree"] : List Str), ∀ C, mg c = some (.ref C) → Cls K C ∧ NoAttr K C "losers" := (cl_cons (He.glo_ok X G (c.fact 15 (f := .glo "Tree") rfl)) (He.cls_ok (c.fact 16 (f := .cls "Tree") rfl)) (He.noat_ok (c.fact 18 (f := .noat "Tree" "losers") rfl)) cl_nil)
  have O_Tree___init__ := ok_Tree___init__ (P := P) (w := w) (mg := mg) (base := base) T C_Tree_spots C_Tree_losers F13
  have R_ROOT : RootC K mg "ROOT" "" 0 := ⟨_, He.glo_ok X G (c.fact 27 (f := .glo "ROOT") rfl), root_dp (ex_at cx 0)⟩
  have O_Tree_kind_of := ok_Tree_kind_of (P := P) (w := w) (mg := mg) (base := base) T C_Tree_spots R_ROOT F9
  have M_Tree_kind_of : Mf P w K mg base 1 "kind_of" [false] tb_Tree_kind_of := (Mf.cons (He.glo_ok X G (c.fact 15 (f := .glo "Tree") rfl)) (He.cls_ok (c.fact 16 (f := .cls "Tree") rfl)) (He.meth_ok (c.fact 19 (f := .meth "Tree" "kind_of") rfl)) O_Tree_kind_of (by decide) (FunD.bindsN F9 fun _ _ _ _ _ _ us hl => match us, hl with | [_, _], _ => rfl) Mf.nil)
  have O_Tree_fits := ok_Tree_fits (P := P) (w := w) (mg := mg) (base := base) T M_Tree_kind_of F10
  have G_place_of : Df P w K mg base 1 "place_of" m_place_of d_place_of := df_place_of T  F7 (He.glo_ok X G (c.fact 7 (f := .glo "place_of") rfl))
  have O_Tree_put_at := ok_Tree_put_at (P := P) (w := w) (mg := mg) (base := base) T G_place_of C_Tree_spots F11
  have O_Tree_ring := ok_Tree_ring (P := P) (w := w) (mg := mg) (base := base) T C_Tree_spots F12
  have M_Tree_fits : Mf P w K mg base 2 "fits" [false, false] tb_Tree_fits := (Mf.cons (He.glo_ok X G (c.fact 15 (f := .glo "Tree") rfl)) (He.cls_ok (c.fact 16 (f := .cls "Tree") rfl)) (He.meth_ok (c.fact 20 (f := .meth "Tree" "fits") rfl)) O_Tree_fits (by decide) (FunD.bindsN F10 fun _ _ _ _ _ _ us hl => match us, hl with | [_, _, _], _ => rfl) Mf.nil)
  have M_Tree_put_at : Mf P w K mg base 2 "put_at" [false, false, false, false, false] tb_Tree_put_at := (Mf.cons (He.glo_ok X G (c.fact 15 (f := .glo "Tree") rfl)) (He.cls_ok (c.fact 16 (f := .cls "Tree") rfl)) (He.meth_ok (c.fact 21 (f := .meth "Tree" "put_at") rfl)) O_Tree_put_at (by decide) (FunD.bindsN F11 fun _ _ _ _ _ _ us hl => match us, hl with | [_, _, _, _, _, _], _ => rfl) Mf.nil)
  have M_Tree_ring : Mf P w K mg base 1 "ring" [false, false] tb_Tree_ring := (Mf.cons (He.glo_ok X G (c.fact 15 (f := .glo "Tree") rfl)) (He.cls_ok (c.fact 16 (f := .cls "Tree") rfl)) (He.meth_ok (c.fact 22 (f := .meth "Tree" "ring") rfl)) O_Tree_ring (by decide) (FunD.bindsN F12 fun _ _ _ _ _ _ us hl => match us, hl with | [_, _, _], _ => rfl) Mf.nil)
  have O_Tree_hear := ok_Tree_hear (P := P) (w := w) (mg := mg) (base := base) T C_Tree_spots C_Tree_losers M_Tree_fits M_Tree_put_at M_Tree_ring F14
  have O_Tree_rows := ok_Tree_rows (P := P) (w := w) (mg := mg) (base := base) T C_Tree_spots F15
  have O_Tree_held := ok_Tree_held (P := P) (w := w) (mg := mg) (base := base) T C_Tree_spots F16
  have K_Tree : MkD P w K mg base 1 "Tree" [] d_Tree___init__ := ⟨_, _, _, _, He.glo_ok X G (c.fact 15 (f := .glo "Tree") rfl), He.mkr_ok (c.fact 23 (f := .mkr "Tree") rfl), O_Tree___init__, (FunD.bindsN F13 fun _ _ _ _ _ _ us hl => match us, hl with | [_], _ => rfl)⟩
  have M_Tree_hear : Mf P w K mg base 3 "hear" [false] tb_Tree_hear := (Mf.cons (He.glo_ok X G (c.fact 15 (f := .glo "Tree") rfl)) (He.cls_ok (c.fact 16 (f := .cls "Tree") rfl)) (He.meth_ok (c.fact 24 (f := .meth "Tree" "hear") rfl)) O_Tree_hear (by decide) (FunD.bindsN F14 fun _ _ _ _ _ _ us hl => match us, hl with | [_, _], _ => rfl) Mf.nil)
  have M_Tree_rows : Mf P w K mg base 1 "rows" [] tb_Tree_rows := (Mf.cons (He.glo_ok X G (c.fact 15 (f := .glo "Tree") rfl)) (He.cls_ok (c.fact 16 (f := .cls "Tree") rfl)) (He.meth_ok (c.fact 25 (f := .meth "Tree" "rows") rfl)) O_Tree_rows (by decide) (FunD.bindsN F15 fun _ _ _ _ _ _ us hl => match us, hl with | [_], _ => rfl) Mf.nil)
  have M_Tree_held : Mf P w K mg base 1 "held" [false] tb_Tree_held := (Mf.cons (He.glo_ok X G (c.fact 15 (f := .glo "Tree") rfl)) (He.cls_ok (c.fact 16 (f := .cls "Tree") rfl)) (He.meth_ok (c.fact 26 (f := .meth "Tree" "held") rfl)) O_Tree_held (by decide) (FunD.bindsN F16 fun _ _ _ _ _ _ us hl => match us, hl with | [_, _], _ => rfl) Mf.nil)
  exact ok_law T G__law_cell_at G__law_hands G__law_deeds G__law_put K_Tree M_Tree_hear M_Tree_rows M_Tree_held M_Tree_kind_of F8
end CML
end
section
set_option linter.all false
set_option maxRecDepth 100000
set_option maxHeartbeats 0
set_option autoImplicit false
namespace CML
open PySem CM
/-! slices -/
theorem cutL_up {α : Type} (xs : List α) {i : Int} (h : 0 ≤ i) : cutL xs none (some i) = xs.take i.toNat := by
  unfold cutL cutAt
  simp [h]
  rw [if_neg (by omega)]
  omega
theorem cutL_from {α : Type} (xs : List α) {i : Int} (h : 0 ≤ i) : cutL xs (some i) none = xs.drop i.toNat := by
  unfold cutL cutAt
  simp [h]
  rw [if_neg (by omega)]
  rcases Nat.le_total i.toNat xs.length with w | w
  · rw [show min i.toNat xs.length = i.toNat by omega]
    exact List.take_of_length_le (by rw [List.length_drop]; omega)
  · rw [show min i.toNat xs.length = xs.length by omega, List.drop_eq_nil_of_le (Nat.le_refl _), List.drop_eq_nil_of_le w]
    simp
theorem str_at {x : Str} {i : Int} {n : Nat} (hx : x.cps.size = n) (hn : 0 < n) : ∃ c, atD x.cps.toList (i % (n : Int)) = some c := by
  have h0 := Int.emod_nonneg i (show (n : Int) ≠ 0 by omega)
  have h1 := Int.emod_lt_of_pos i (show 0 < (n : Int) by omega)
  exact ⟨_, atD_lt h0 (by rw [Array.length_toList, hx]; exact h1)⟩
theorem alpha_size : str1.cps.size = 26 := by decide +kernel
theorem alpha_nd : str1.cps.toList.Nodup := by decide +kernel
theorem nd_range {α : Type} (f : Nat → α) (m : Nat) (h : ∀ i j, i < m → j < m → f i = f j → i = j) : ((List.range m).map f).Nodup := by
  unfold List.Nodup
  rw [List.pairwise_map]
  refine List.Pairwise.imp_of_mem (fun {a b} ha hb ne e => ?_) (List.nodup_range (n := m))
  exact ne (h a b (List.mem_range.mp ha) (List.mem_range.mp hb) e)
theorem atD_idx {α : Type} {xs : List α} (nd : xs.Nodup) {i j : Int} {x : α} (hi : 0 ≤ i) (hj : 0 ≤ j) (e1 : atD xs i = some x) (e2 : atD xs j = some x) : i = j := by
  have g : ∀ {k : Int}, 0 ≤ k → atD xs k = some x → xs[k.toNat]? = some x := fun {k} hk e => by
    by_cases q : k < xs.length
    · rw [atD_lt hk q] at e
      rw [List.getElem?_eq_getElem (by omega)]
      exact e
    · exfalso
      unfold atD plc at e
      rw [Option.bind_eq_some_iff] at e
      obtain ⟨p, hp, hx⟩ := e
      have := (List.getElem?_eq_some_iff.mp hx).1
      split at hp <;> first | (cases hp; omega) | (split at hp <;> first | (cases hp; omega) | (cases hp) | omega) | cases hp
  have a := g hi e1
  have b := g hj e2
  have := (List.getElem?_inj (List.getElem?_eq_some_iff.mp a).1 nd).mp (a.trans b.symm)
  omega
/-- a cell of the script -/
theorem cell_ev (ns : List Int) (k : Nat) (st : Store) : d__law_cell_at [.d (.list (ns.map PyData.int)), .d (.int (k : Int))] st = some (.sh (.int (ns.getD k 0)), st) := by
  by_cases h : k < ns.length
  · have e := atD_nat (xs := ns.map PyData.int) (n := k) (x := .int ns[k]) (by rw [List.getElem?_map, List.getElem?_eq_getElem h]; rfl)
    have g : ns.getD k 0 = ns[k] := by simp [List.getD, List.getElem?_eq_getElem h]
    have hl : (ns.map PyData.int).length = ns.length := List.length_map ..
    rw [g]
    generalize ns.map PyData.int = nn at *
    have h2 : (k : Int) < (ns.length : Int) := by omega
    simp -implicitDefEqProofs (disch := first | omega | (simp; done) | (simp; omega)) [d__law_cell_at, b__law_cell_at, hl, h2, h, e]
  · have g : ns.getD k 0 = 0 := by simp [List.getD, List.getElem?_eq_none (Nat.le_of_not_lt h)]
    have hl : (ns.map PyData.int).length = ns.length := List.length_map ..
    rw [g]
    generalize ns.map PyData.int = nn at *
    simp -implicitDefEqProofs (disch := first | omega | (simp; done) | (simp; omega)) [d__law_cell_at, b__law_cell_at, hl, h]
/-- a text changed by its places -/
def stD (f : Int → Str) : D → D
  | .int i => .str (f i)
  | _ => .none
structure Hd (h : Str) : Prop where
  ne : 1 ≤ h.cps.size
  le : h.cps.size ≤ 8
/-! the stream of numbers -/
theorem stream_ev (c : Int) (m : Nat) (hm : m ≤ 100) (st : Store) : ∃ xs : List Int, xs.length = m ∧ (∀ x ∈ xs, 0 ≤ x) ∧ d__law_stream [.d (.int c), .d (.int (m : Int))] st = some (.fr (.d (.list (xs.map PyData.int))), st) := by
  have n0 := Int.emod_nonneg c (show (2147483647 : Int) ≠ 0 by decide)
  have n1 := Int.emod_lt_of_pos c (show (0 : Int) < 2147483647 by decide)
  generalize hn : c % 2147483647 = n at *
  obtain ⟨r', f1, xs, z, s4, rfl, xl, xp, _, _⟩ := for_rg (p := .v 4) (f := l1__law_stream) (fun k r => ∃ (xs : List Int) (z : Int) (s4 : CM.Slot), r = ⟨[.sh (.int c), .sh (.int (m : Int)), .ow (.d (.list (xs.map PyData.int))), .sh (.int z), s4], st⟩ ∧ xs.length = k ∧ (∀ x ∈ xs, 0 ≤ x) ∧ 0 ≤ z ∧ z < 3000000000) (m + 1)
    ⟨[.sh (.int c), .sh (.int (m : Int)), .ow (.d (.list [])), .sh (.int (n + 48271)), .no], st⟩ ⟨[], n + 48271, .no, rfl, rfl, fun x h => (by cases h), by omega, by omega⟩ fun k r hk hi => by
    obtain ⟨xs, z, s4, rfl, xl, xp, z0, z1⟩ := hi
    have b0 := Int.emod_nonneg (z * z + 48271 * z + k) (show (2147483647 : Int) ≠ 0 by decide)
    have b1 := Int.emod_lt_of_pos (z * z + 48271 * z + k) (show (0 : Int) < 2147483647 by decide)
    have m1 : gMul (.d (.int z)) (.d (.int z)) = some (.sh (.int (z * z))) := gMul_i (.inl (by omega))
    have m2 : gMul (.d (.int 48271)) (.d (.int z)) = some (.sh (.int (48271 * z))) := gMul_i (.inl (by decide))
    have xll : (xs.map PyData.int).length < 16777216 := by rw [List.length_map]; omega
    refine ⟨_, ?_, xs ++ [(z * z + 48271 * z + k) % 2147483647], (z * z + 48271 * z + k) % 2147483647, .sh (.int (k : Int)), rfl, by rw [List.length_append, List.length_singleton, xl], fun x hx => ?_, b0, by omega⟩
    rotate_left 1
    · rw [List.mem_append, List.mem_singleton] at hx
      rcases hx with hx | rfl
      · exact xp x hx
      · exact b0
    rw [List.map_append, List.map_singleton]
    generalize xs.map PyData.int = xm at *
    generalize hzz : z * z = zz at *
    generalize hz2 : 48271 * z = z2 at *
    simp -implicitDefEqProofs (maxSteps := 2000000) (disch := first | omega | assumption | (simp; done) | (simp; omega)) [l1__law_stream, m1, m2]
  have cut : cutL (xs.map PyData.int) (some 1) none = (xs.drop 1).map PyData.int := by rw [cutL_from _ (by decide), List.map_drop]; rfl
  refine ⟨xs.drop 1, by rw [List.length_drop]; omega, fun x hx => xp x (List.mem_of_mem_drop hx), ?_⟩
  have rk : rg1K ((m : Int) + 1) = some (rgD 0 (m + 1)) := by
    have := rg1K_ok (j := (m : Int) + 1) (by omega)
    rw [this]
    congr 2
  have rll : (rgD 0 (m + 1)).length < 16777216 := by rw [rgD_len]; omega
  have md0 : gMod (.d (.int c)) (.d (.int 2147483647)) = some (.sh (.int n)) := by rw [← hn]; exact gMod_i (by decide)
  generalize (xs.drop 1).map PyData.int = out at *
  generalize xs.map PyData.int = xm at *
  simp -implicitDefEqProofs (maxSteps := 2000000) (disch := first | omega | assumption | (simp; done) | (simp; omega)) [d__law_stream, b__law_stream, md0, rk, f1, cut]
theorem jsize : ∀ ys : List Str, (∀ y ∈ ys, y.cps.size = 1) → (Txt.join "" ys).cps.size = ys.length := fun ys => by
  rw [show Txt.join "" ys = PySem.Str.join "" ys by first | exact L2.TL.join_eq "" ys | exact TL.join_eq "" ys | exact PySem.TL.join_eq "" ys]
  induction ys with
  | nil => intro _; rfl
  | cons x r ih =>
    intro h
    have hx := h x List.mem_cons_self
    have hr := ih fun y hy => h y (List.mem_cons_of_mem _ hy)
    cases r with
    | nil => exact hx
    | cons y r =>
      show (x ++ "" ++ PySem.Str.join "" (y :: r)).cps.size = _
      show ((x.cps ++ ("" : Str).cps) ++ (PySem.Str.join "" (y :: r)).cps).size = _
      rw [Array.size_append, Array.size_append, hr, hx]
      have e : ("" : Str).cps.size = 0 := by decide
      rw [e, List.length_cons, List.length_cons, List.length_cons]
      omega
theorem hands_ev (c : Int) (m : Nat) (hm : m ≤ 8) (st : Store) : ∃ hs : List Str, hs.Nodup ∧ hs.length = m ∧ (∀ h ∈ hs, Hd h) ∧ d__law_hands [.d (.int c), .d (.int m)] st = some (.fr (.d (.list (hs.map PyData.str))), st) := by
  have z1 := alpha_size
  have z2 := alpha_nd
  generalize hs1 : str1 = s1 at *
  obtain ⟨xs, xl, xp, es⟩ := stream_ev c 10 (by decide) st
  have es : d__law_stream [.d (.int c), .d (.int 10)] st = some (.fr (.d (.list (xs.map PyData.int))), st) := es
  obtain ⟨n8, a8⟩ : ∃ n8 : Int, atD (xs.map PyData.int) 8 = some (.int n8) := ⟨xs[8], atD_nat (n := 8) (by rw [List.getElem?_map, List.getElem?_eq_getElem (by omega)]; rfl)⟩
  obtain ⟨n9, a9⟩ : ∃ n9 : Int, atD (xs.map PyData.int) 9 = some (.int n9) := ⟨xs[9], atD_nat (n := 9) (by rw [List.getElem?_map, List.getElem?_eq_getElem (by omega)]; rfl)⟩
  have let0 : ∀ k : Int, ∃ d, atD s1.cps.toList (k % 26) = some d := fun k => str_at (i := k) z1 (by decide)
  obtain ⟨G, hG⟩ : ∃ G : Int → Nat, ∀ k, atD s1.cps.toList (k % 26) = some (G k) := ⟨fun k => Classical.choose (let0 k), fun k => Classical.choose_spec (let0 k)⟩
  have cut8 : cutL (xs.map PyData.int) none (some 8) = (xs.take 8).map PyData.int := by rw [cutL_up _ (by decide), List.map_take]; rfl
  have cj := comp_map (vs := [6]) (p := .v 6) (t := tYesD) (a := ce1__law_hands) PyData.int (fun x => .str ⟨#[G x]⟩) ⟨[.sh (.int c), .sh (.int m), .sh (.str s1), .ow (.d (.list (xs.map PyData.int))), .no, .no, .no, .no], st⟩ (xs.take 8) fun x _ => by
    have g := hG x
    generalize xs.map PyData.int = xm at *
    have sz : s1.cps.size ≤ 16777216 := by omega
    simp -implicitDefEqProofs (maxSteps := 2000000) (disch := first | omega | assumption | (simp; done) | (simp; omega)) [compStep, ce1__law_hands, g]
  have l8 : ((xs.take 8).map PyData.int).length < 16777216 := by rw [List.length_map, List.length_take]; omega
  have em : ((xs.take 8).map fun x => PyData.str ⟨#[G x]⟩) = ((xs.take 8).map fun x => (⟨#[G x]⟩ : Str)).map PyData.str := by rw [List.map_map]; rfl
  rw [em] at cj
  have y1 : ∀ y ∈ (xs.take 8).map fun x => (⟨#[G x]⟩ : Str), y.cps.size = 1 := fun y hy => by
    obtain ⟨x, _, rfl⟩ := List.mem_map.mp hy
    rfl
  have yl : ((xs.take 8).map fun x => (⟨#[G x]⟩ : Str)).length = 8 := by rw [List.length_map, List.length_take]; omega
  generalize ((xs.take 8).map fun x => (⟨#[G x]⟩ : Str)) = ys at *
  have jz := jsize ys y1
  have jn := gJoin_map (sep := "") (ys := ys) (by
    have : ∀ l : List Str, (∀ y ∈ l, y.cps.size = 1) → (l.map (·.length)).sum = l.length := fun l => by
      induction l with
      | nil => intro _; rfl
      | cons a r ih =>
        intro h
        rw [List.map_cons, List.sum_cons, ih fun y hy => h y (List.mem_cons_of_mem _ hy), List.length_cons]
        have : a.length = 1 := h a List.mem_cons_self
        omega
    rw [this ys y1, yl]
    have e : ("" : Str).length = 0 := by decide
    rw [e]; decide)
  generalize (xs.take 8).map PyData.int = x8 at *
  generalize hw' : Txt.join "" ys = w at *
  have hw : w.cps.size = 8 := by rw [jz, yl]
  have hwl : w.cps.toList.length = 8 := by rw [Array.length_toList, hw]
  have lst : ∀ f : Int → Str, (rgD 0 m).map (stD f) = ((List.range m).map fun (i : Nat) => f (i : Int)).map PyData.str := fun f => by
    unfold rgD
    rw [List.map_map, List.map_map]
    refine List.map_congr_left fun i _ => ?_
    simp [stD, Function.comp]
  have mc : (rgD 0 m).length < 16777216 := by rw [rgD_len]; omega
  by_cases c3 : c % 3 = 0
  · have hb : ∀ i : Int, 0 ≤ (i + n8) % 8 ∧ (i + n8) % 8 < 8 := fun i => ⟨Int.emod_nonneg _ (by decide), Int.emod_lt_of_pos _ (by decide)⟩
    have cm := runComp_map (vs := [7]) (p := .v 7) (t := tYesD) (a := ce2__law_hands) (stD fun i => ⟨(w.cps.toList.take (1 + (i + n8) % 8).toNat).toArray⟩)
      ⟨[.sh (.int c), .sh (.int m), .sh (.str s1), .ow (.d (.list (xs.map PyData.int))), .sh (.str w), .no, .no, .no], st⟩ (rgD 0 m) fun x hx => by
        obtain ⟨k, hk⟩ := List.mem_iff_getElem?.mp hx
        obtain ⟨hi, rfl⟩ := rgD_get hk
        refine ⟨_, _, ⟨[.sh (.int c), .sh (.int m), .sh (.str s1), .ow (.d (.list (xs.map PyData.int))), .sh (.str w), .no, .no, .sh (.int (0 + k))], st⟩, rfl, rfl, ?_, rfl⟩
        have b := hb (0 + k)
        have cu := cutL_up w.cps.toList (i := 1 + ((0 + (k : Int)) + n8) % 8) (by omega)
        simp only [stD]
        rw [show (0 : Int) + (k : Int) = (k : Int) by omega] at cu b ⊢
        simp -implicitDefEqProofs (disch := first | omega | (simp; done) | (simp; omega)) [ce2__law_hands, a8, cu]
    refine ⟨(List.range m).map fun (i : Nat) => ⟨(w.cps.toList.take (1 + ((i : Int) + n8) % 8).toNat).toArray⟩, nd_range _ _ fun i j hi hj e => ?_, by simp, fun h hh => ?_, ?_⟩
    · have e := congrArg (fun s : Str => s.cps.size) e
      have bi := hb i
      have bj := hb j
      simp [hw] at e
      omega
    · rw [List.mem_map] at hh
      obtain ⟨i, _, rfl⟩ := hh
      have := hb i
      constructor
      · simp; omega
      · simp; omega
    · rw [lst] at cm
      simp -implicitDefEqProofs (disch := first | omega | assumption | (simp; done) | (simp; omega)) [d__law_hands, b__law_hands, hs1, es, cut8, cj, jn, c3, cm]
  · have g0 := Int.emod_nonneg n8 (show (8 : Int) ≠ 0 by decide)
    have g1 := Int.emod_lt_of_pos n8 (show (0 : Int) < 8 by decide)
    have cu := cutL_up w.cps.toList (i := 1 + n8 % 8) (by omega)
    obtain ⟨v, hv⟩ : ∃ v : Str, (⟨(w.cps.toList.take (1 + n8 % 8).toNat).toArray⟩ : Str) = v := ⟨_, rfl⟩
    have vs : v.cps.size = (1 + n8 % 8).toNat := by rw [← hv]; simp; omega
    have vl : v.cps.toList.length = v.cps.size := Array.length_toList
    have p0 := Int.emod_nonneg n9 (show (v.cps.size : Int) ≠ 0 by omega)
    have p1 := Int.emod_lt_of_pos n9 (show 0 < (v.cps.size : Int) by omega)
    generalize hA : n9 % (v.cps.size : Int) = A at *
    have t1 := cutL_up v.cps.toList (i := A) p0
    have t2 := cutL_from v.cps.toList (i := A + 1) (by omega)
    have let1 : ∀ k : Int, ∃ d, atD s1.cps.toList ((n9 / 8 + 5 * k) % 26) = some d := fun k => str_at (i := n9 / 8 + 5 * k) z1 (by decide)
    have let2 : ∃ L : Int → Nat, ∀ k, atD s1.cps.toList ((n9 / 8 + 5 * k) % 26) = some (L k) := ⟨fun k => Classical.choose (let1 k), fun k => Classical.choose_spec (let1 k)⟩
    obtain ⟨L, hL⟩ := let2
    have cm := runComp_map (vs := [7]) (p := .v 7) (t := tYesD) (a := ce3__law_hands) (stD fun i => ⟨(v.cps.toList.take A.toNat).toArray ++ #[L i] ++ (v.cps.toList.drop (A + 1).toNat).toArray⟩)
      ⟨[.sh (.int c), .sh (.int m), .sh (.str s1), .ow (.d (.list (xs.map PyData.int))), .sh (.str v), .sh (.int A), .no, .no], st⟩ (rgD 0 m) fun x hx => by
        obtain ⟨k, hk⟩ := List.mem_iff_getElem?.mp hx
        obtain ⟨hi, rfl⟩ := rgD_get hk
        refine ⟨_, _, ⟨[.sh (.int c), .sh (.int m), .sh (.str s1), .ow (.d (.list (xs.map PyData.int))), .sh (.str v), .sh (.int A), .no, .sh (.int (0 + k))], st⟩, rfl, rfl, ?_, rfl⟩
        have hLk := hL (k : Int)
        simp only [stD]
        rw [show (0 : Int) + (k : Int) = (k : Int) by omega]
        simp -implicitDefEqProofs (disch := first | omega | (simp; done) | (simp; omega)) [ce3__law_hands, a9, t1, t2, hLk]
    refine ⟨(List.range m).map fun (i : Nat) => ⟨(v.cps.toList.take A.toNat).toArray ++ #[L i] ++ (v.cps.toList.drop (A + 1).toNat).toArray⟩, nd_range _ _ fun i j hi hj e => ?_, by simp, fun h hh => ?_, ?_⟩
    · have e := congrArg (fun s : Str => s.cps.toList) e
      simp at e
      have l1 := hL i
      have l2 := hL j
      rw [e] at l1
      have b1 := Int.emod_nonneg (n9 / 8 + 5 * (i : Int)) (show (26 : Int) ≠ 0 by decide)
      have b2 := Int.emod_nonneg (n9 / 8 + 5 * (j : Int)) (show (26 : Int) ≠ 0 by decide)
      have := atD_idx z2 b1 b2 l1 l2
      omega
    · rw [List.mem_map] at hh
      obtain ⟨i, _, rfl⟩ := hh
      constructor
      · simp; omega
      · simp; omega
    · rw [lst] at cm
      simp -implicitDefEqProofs (disch := first | omega | assumption | (simp; done) | (simp; omega)) [d__law_hands, b__law_hands, hs1, es, cut8, cj, jn, c3, a8, a9, cu, hv, hA, cm]
/-! the tree's object -/
def trO (kvs : List (List Ky × D)) (ls : List D) : Ob := ⟨"Tree", [("spots", .ow (.dt kvs)), ("losers", .ow (.d (.list ls)))]⟩
def rootN : Str × Int := (Str.ofString "", 0)
def nmD (p : Str × Int) : D := .tuple [.str p.1, .int p.2]
def kindD (kvs : List (List Ky × D)) (p : Str × Int) : Option D := if p = rootN then some (.str "map") else match aGet kvs (nmK p.1 p.2) with
  | some (.tuple (k :: _)) => some k
  | some _ => none
  | none => some .none
theorem eqv_nm (p q : Str × Int) : PyData.eqv (nmD p) (nmD q) = decide (p = q) := by
  have fl : ∀ p : Str × Int, Fl 1 (nmD p) := fun p => Fl.t (k := 0) fun x hx => by
    rcases List.mem_cons.mp hx with rfl | hx
    · exact Fl.s _
    · rw [List.mem_singleton.mp hx]; exact Fl.i _
  rw [Bool.eq_iff_iff, eqv_pln _ _ (fl p).p (fl q).p, decide_eq_true_iff]
  constructor
  · intro e
    unfold nmD at e
    simp only [PyData.tuple.injEq, List.cons.injEq, PyData.str.injEq, PyData.int.injEq, and_true] at e
    exact Prod.ext e.1 e.2
  · intro e; rw [e]
theorem geq_nm (p q : Str × Int) : gEq (.d (nmD p)) (.d (nmD q)) = some (.sh (.bool (decide (p = q)))) := by
  have fl : ∀ p : Str × Int, Fl 1 (nmD p) := fun p => Fl.t (k := 0) fun x hx => by
    rcases List.mem_cons.mp hx with rfl | hx
    · exact Fl.s _
    · rw [List.mem_singleton.mp hx]; exact Fl.i _
  show (if shallow (nmD p) (nmD q) = true then _ else none) = _
  rw [if_pos (shallow_fl (fl p) (fl q) (.inl (by omega))), eqv_nm]; rfl
theorem kind_ev {st : Store} {i : Nat} {kvs : List (List Ky × D)} {ls : List D} (h : st[i]? = some (trO kvs ls)) (p : Str × Int) {k : D} (e : kindD kvs p = some k) : d_Tree_kind_of [.d (obD i), .d (nmD p)] st = some (.sh k, st) := by
  have r0 := geq_nm p rootN
  have r0 : gEq (.d (nmD p)) (.d (.tuple [.str "", .int 0])) = some (.sh (.bool (decide (p = rootN)))) := r0
  have am : argSlot false (.d (nmD p)) = some (.sh (nmD p)) := rfl
  have ia : gInA (.d (nmD p)) (.dt kvs) = some (.sh (.bool (aGet kvs (nmK p.1 p.2)).isSome)) := rfl
  have ga : gIxA (.dt kvs) (.d (nmD p)) = (aGet kvs (nmK p.1 p.2)).bind fun v => some (.sh v) := rfl
  unfold kindD at e
  by_cases q : p = rootN
  · rw [if_pos q] at e
    cases e
    rw [decide_eq_true q] at r0
    generalize nmD p = x at *
    simp -implicitDefEqProofs (maxSteps := 2000000) (disch := first | omega | assumption | (simp; done) | (simp; omega)) [d_Tree_kind_of, b_Tree_kind_of, am, r0]
  · rw [if_neg q] at e
    rw [decide_eq_false q] at r0
    generalize aGet kvs (nmK p.1 p.2) = o at *
    generalize nmD p = x at *
    unfold trO at h
    cases o with
    | none =>
      cases e
      simp -implicitDefEqProofs (maxSteps := 2000000) (disch := first | omega | assumption | (simp; done) | (simp; omega)) [d_Tree_kind_of, b_Tree_kind_of, am, r0, h, ia]
    | some row =>
      cases row with
      | tuple ds =>
        cases ds with
        | nil => cases e
        | cons a r =>
          cases e
          have a0 : gIx (.d (.tuple (k :: r))) (.d (.int 0)) = some (.sh k) := by
            show (atD (k :: r) 0).bind _ = _
            rw [at0]; rfl
          simp -implicitDefEqProofs (maxSteps := 2000000) (disch := first | omega | assumption | (simp; done) | (simp; omega)) [d_Tree_kind_of, b_Tree_kind_of, am, r0, h, ia, ga, a0]
      | _ => cases e
/-! what a thing holds, what fits -/
def Rows3 (kvs : List (List Ky × D)) : Prop := ∀ k row, aGet kvs k = some row → ∃ a b c, row = .tuple [a, b, c]
def heldD (kvs : List (List Ky × D)) (p : Str × Int) : D := match aGet kvs (nmK p.1 p.2) with
  | some (.tuple [_, b, c]) => .tuple [b, c]
  | _ => .none
theorem held_ev {st : Store} {i : Nat} {kvs : List (List Ky × D)} {ls : List D} (h : st[i]? = some (trO kvs ls)) (p : Str × Int) (r3 : ∀ row, aGet kvs (nmK p.1 p.2) = some row → ∃ a b c, row = .tuple [a, b, c]) : d_Tree_held [.d (obD i), .d (nmD p)] st = some (.sh (heldD kvs p), st) := by
  have am : argSlot false (.d (nmD p)) = some (.sh (nmD p)) := rfl
  have ia : gNotInA (.d (nmD p)) (.dt kvs) = some (.sh (.bool (!(aGet kvs (nmK p.1 p.2)).isSome))) := rfl
  have ga : gIxA (.dt kvs) (.d (nmD p)) = (aGet kvs (nmK p.1 p.2)).bind fun v => some (.sh v) := rfl
  unfold heldD
  generalize aGet kvs (nmK p.1 p.2) = o at *
  generalize nmD p = x at *
  unfold trO at h
  cases o with
  | none => simp -implicitDefEqProofs (maxSteps := 2000000) (disch := first | omega | assumption | (simp; done) | (simp; omega)) [d_Tree_held, b_Tree_held, am, h, ia]
  | some row =>
    obtain ⟨a, b, c, rfl⟩ := r3 row rfl
    have a1 : gIx (.d (.tuple [a, b, c])) (.d (.int 1)) = some (.sh b) := rfl
    have a2 : gIx (.d (.tuple [a, b, c])) (.d (.int 2)) = some (.sh c) := rfl
    simp -implicitDefEqProofs (maxSteps := 2000000) (disch := first | omega | assumption | (simp; done) | (simp; omega)) [d_Tree_held, b_Tree_held, am, h, ia, ga, a1, a2]
def isW (k : D) (w : Str) : Bool := match k with
  | .str x => x == w
  | _ => false
theorem geq_kind {k : D} (hk : k = .none ∨ ∃ w, k = .str w) (w : Str) : gEq (.d k) (.d (.str w)) = some (.sh (.bool (isW k w))) := by
  rcases hk with rfl | ⟨x, rfl⟩
  · show (if shallow .none (.str w) = true then shB (PyData.eqv .none (.str w)) else none) = _
    rw [if_pos (by rfl)]
    have : PyData.eqv .none (.str w) = false := by rw [PyData.eqv]
    rw [this]; rfl
  · show (if shallow (.str x) (.str w) = true then shB (PyData.eqv (.str x) (.str w)) else none) = _
    rw [if_pos (by rfl)]
    have : PyData.eqv (.str x) (.str w) = (x == w) := by rw [PyData.eqv]
    rw [this]; rfl
theorem fits_str {st : Store} {i : Nat} {kvs : List (List Ky × D)} {ls : List D} (h : st[i]? = some (trO kvs ls)) (p : Str × Int) {k : D} (e : kindD kvs p = some k) (hk : k = .none ∨ ∃ w, k = .str w) (w : Str) :
    d_Tree_fits [.d (obD i), .d (nmD p), .d (.str w)] st = some (.sh (.bool (isW k "map")), st) := by
  have am : argSlot false (.d (nmD p)) = some (.sh (nmD p)) := rfl
  have ke := kind_ev h p e
  have g := geq_kind hk "map"
  generalize isW k "map" = b at *
  generalize nmD p = x at *
  unfold trO at h
  simp -implicitDefEqProofs (maxSteps := 2000000) (disch := first | omega | assumption | (simp; done) | (simp; omega)) [d_Tree_fits, b_Tree_fits, am, h, ke, g]
theorem fits_row {st : Store} {i : Nat} {kvs : List (List Ky × D)} {ls : List D} (h : st[i]? = some (trO kvs ls)) (p : Str × Int) {k : D} (e : kindD kvs p = some k) (hk : k = .none ∨ ∃ w, k = .str w) (ds : List D) :
    d_Tree_fits [.d (obD i), .d (nmD p), .d (.tuple ds)] st = some (.sh (.bool (isW k "row")), st) := by
  have am : argSlot false (.d (nmD p)) = some (.sh (nmD p)) := rfl
  have ke := kind_ev h p e
  have g := geq_kind hk "row"
  generalize isW k "row" = b at *
  generalize nmD p = x at *
  unfold trO at h
  simp -implicitDefEqProofs (maxSteps := 2000000) (disch := first | omega | assumption | (simp; done) | (simp; omega)) [d_Tree_fits, b_Tree_fits, am, h, ke, g]
/-! the way up -/
def hD : Option (Str × Int) → D
  | none => .none
  | some q => nmD q
def RowsH (kvs : List (List Ky × D)) : Prop := ∀ k row, aGet kvs k = some row → ∃ a o c, row = .tuple [a, hD o, c]
def hOf (kvs : List (List Ky × D)) (q : Str × Int) : Option D := aGet kvs (nmK q.1 q.2)
/-- the way from a holder up to a thing: told by the holders' table -/
def walk (up : Str × Int → Option (Option (Str × Int))) (t : Str × Int) : Nat → Option (Str × Int) → List (Str × Int) → Option (List (Str × Int))
  | 0, _, _ => none
  | _ + 1, none, _ => some []
  | n + 1, some q, way => if q = t then some (way ++ [q]) else match up q with
    | none => some []
    | some o => walk up t n o (way ++ [q])
/-- the table, as holders -/
def Ups (kvs : List (List Ky × D)) (up : Str × Int → Option (Option (Str × Int))) : Prop := ∀ q, (up q = none ∧ aGet kvs (nmK q.1 q.2) = none) ∨ ∃ a o c, up q = some o ∧ aGet kvs (nmK q.1 q.2) = some (.tuple [a, hD o, c])
theorem rw_succT (t : TF) (g : SF) (n : Nat) (r : CM.Env) : runWhile t g (n + 1) r = (t r).bind fun b => if b.1 = true then (g b.2).bind fun p => match p.1 with
      | .nx => runWhile t g n p.2
      | .ct => runWhile t g n p.2
      | .bk => some (.nx, p.2)
      | .rt z => some (.rt z, p.2)
    else some (.nx, b.2) := rfl
theorem ring_loop {st : Store} {i : Nat} {kvs : List (List Ky × D)} {ls : List D} (h : st[i]? = some (trO kvs ls)) {up : Str × Int → Option (Option (Str × Int))} (U : Ups kvs up) (t : Str × Int) : ∀ (n m : Nat) (o : Option (Str × Int)) (way res : List (Str × Int)), walk up t n o way = some res → n ≤ m → way.length + n ≤ 1000 →
    ∃ fl r', r'.st = st ∧ runWhile wt1_Tree_ring w1_Tree_ring m ⟨[.sh (obD i), .sh (nmD t), .sh (hD o), .ow (.d (.list (way.map nmD)))], st⟩ = some (fl, r') ∧ (fl = .rt (.fr (.d (.list (res.map nmD)))) ∨ (fl = .nx ∧ res = []))
  | 0, _, _, _, _, w, _, _ => by cases w
  | n + 1, m, o, way, res, w, hm, hl => by
    obtain ⟨m, rfl⟩ : ∃ k, m = k + 1 := ⟨m - 1, by omega⟩
    rw [rw_succT]
    cases o with
    | none =>
      have w : some [] = some res := w
      cases w
      refine ⟨.nx, ⟨[.sh (obD i), .sh (nmD t), .sh (hD none), .ow (.d (.list (way.map nmD)))], st⟩, rfl, ?_, .inr ⟨rfl, rfl⟩⟩
      have hn : hD none = .none := rfl
      rw [hn]
      generalize way.map nmD = wm at *
      generalize nmD t = td at *
      simp -implicitDefEqProofs (maxSteps := 2000000) (disch := first | omega | assumption | (simp; done) | (simp; omega)) [wt1_Tree_ring]
    | some q =>
      have ho : hD (some q) = nmD q := rfl
      have ge := geq_nm q t
      have wl : (way.map nmD).length < 16777216 := by rw [List.length_map]; omega
      have nn : isNonC (.d (nmD q)) = false := rfl
      have w : (if q = t then some (way ++ [q]) else match up q with
        | none => some []
        | some o => walk up t n o (way ++ [q])) = some res := w
      have ma : (way ++ [q]).map nmD = way.map nmD ++ [nmD q] := by rw [List.map_append]; rfl
      by_cases e : q = t
      · rw [if_pos e] at w
        cases w
        rw [decide_eq_true e] at ge
        refine ⟨.rt (.fr (.d (.list ((way ++ [q]).map nmD)))), ⟨[.sh (obD i), .sh (nmD t), .sh (nmD q), .ow (.d (.list ((way ++ [q]).map nmD)))], st⟩, rfl, ?_, .inl rfl⟩
        rw [ho, ma]
        generalize way.map nmD = wm at *
        generalize nmD t = td at *
        generalize nmD q = qd at *
        simp -implicitDefEqProofs (maxSteps := 2000000) (disch := first | omega | assumption | (simp; done) | (simp; omega)) [wt1_Tree_ring, w1_Tree_ring, nn, ge]
      · rw [if_neg e] at w
        rw [decide_eq_false e] at ge
        have ia : gNotInA (.d (nmD q)) (.dt kvs) = some (.sh (.bool (!(aGet kvs (nmK q.1 q.2)).isSome))) := rfl
        have ga : gIxA (.dt kvs) (.d (nmD q)) = (aGet kvs (nmK q.1 q.2)).bind fun v => some (.sh v) := rfl
        rcases U q with ⟨u1, u2⟩ | ⟨a, o, c, u1, u2⟩
        · rw [u1] at w
          have w : some [] = some res := w
          cases w
          rw [u2] at ia
          refine ⟨.rt (.fr (.d (.list []))), ⟨[.sh (obD i), .sh (nmD t), .sh (nmD q), .ow (.d (.list ((way ++ [q]).map nmD)))], st⟩, rfl, ?_, .inl rfl⟩
          rw [ho, ma]
          unfold trO at h
          generalize way.map nmD = wm at *
          generalize nmD t = td at *
          generalize nmD q = qd at *
          simp -implicitDefEqProofs (maxSteps := 2000000) (disch := first | omega | assumption | (simp; done) | (simp; omega)) [wt1_Tree_ring, w1_Tree_ring, nn, ge, h, ia]
        · rw [u1] at w
          have w : walk up t n o (way ++ [q]) = some res := w
          rw [u2] at ia ga
          have a1 : gIx (.d (.tuple [a, hD o, c])) (.d (.int 1)) = some (.sh (hD o)) := rfl
          obtain ⟨fl, r', j1, j2, j3⟩ := ring_loop h U t n m o (way ++ [q]) res w (by omega) (by rw [List.length_append, List.length_singleton]; omega)
          refine ⟨fl, r', j1, ?_, j3⟩
          rw [ma] at j2
          rw [← j2, ho]
          unfold trO at h
          clear j2 j3
          generalize way.map nmD = wm at *
          generalize nmD t = td at *
          generalize nmD q = qd at *
          generalize hD o = od at *
          simp -implicitDefEqProofs (maxSteps := 2000000) (disch := first | omega | assumption | (simp; done) | (simp; omega)) [wt1_Tree_ring, w1_Tree_ring, nn, ge, h, ia, ga, a1]
theorem ring_ev {st : Store} {i : Nat} {kvs : List (List Ky × D)} {ls : List D} (h : st[i]? = some (trO kvs ls)) {up : Str × Int → Option (Option (Str × Int))} (U : Ups kvs up) (t : Str × Int) (n : Nat) (o : Option (Str × Int)) (res : List (Str × Int)) (w : walk up t n o [] = some res) (hn : n ≤ 1000) :
    d_Tree_ring [.d (obD i), .d (nmD t), .d (hD o)] st = some (.fr (.d (.list (res.map nmD))), st) := by
  obtain ⟨fl, r', j1, j2, j3⟩ := ring_loop h U t n 1000000 o [] res w (by omega) (by simp; omega)
  have am : argSlot false (.d (nmD t)) = some (.sh (nmD t)) := rfl
  have ao : argSlot false (.d (hD o)) = some (.sh (hD o)) := by cases o <;> rfl
  rw [List.map_nil] at j2
  generalize hD o = od at *
  generalize nmD t = td at *
  rcases j3 with rfl | ⟨rfl, rfl⟩
  · generalize res.map nmD = rm at *
    simp -implicitDefEqProofs (maxSteps := 2000000) (disch := first | omega | assumption | (simp; done) | (simp; omega)) [d_Tree_ring, b_Tree_ring, am, ao, j2, j1]
  · simp -implicitDefEqProofs (maxSteps := 2000000) (disch := first | omega | assumption | (simp; done) | (simp; omega)) [d_Tree_ring, b_Tree_ring, am, ao, j2, j1]
/-! a place of one's own, and putting -/
def trS (st : Store) (i : Nat) (kvs : List (List Ky × D)) : Store := stPut st i "spots" (.ow (.dt kvs))
theorem trS_at {st : Store} {i : Nat} {kvs kvs' : List (List Ky × D)} {ls : List D} (h : st[i]? = some (trO kvs ls)) : (trS st i kvs')[i]? = some (trO kvs' ls) := by
  unfold trS
  rw [stPut_at, h, Option.map_some, if_pos rfl]
  rfl
theorem trS_ne {st : Store} {i j : Nat} {kvs' : List (List Ky × D)} (ne : i ≠ j) : (trS st i kvs')[j]? = st[j]? := by
  unfold trS
  rw [stPut_at]
  cases st[j]? with
  | none => rfl
  | some o => rw [Option.map_some, if_neg ne]
@[simp] theorem trS_is (st : Store) (i : Nat) (kvs : List (List Ky × D)) : stPut st i "spots" (.ow (.dt kvs)) = trS st i kvs := rfl
theorem place_ev (us : List D) (side : Int) (p : Str × Int) (hl : us.length ≤ 1000) (st : Store) : d_place_of [.d (.tuple [.tuple us, .int side]), .d (nmD p)] st = some (.sh (.tuple (us ++ [.tuple [.int side, .str p.1, .int p.2, .int 0]])), st) := by
  have n0 : gIx (.d (nmD p)) (.d (.int 0)) = some (.sh (.str p.1)) := rfl
  have n1 : gIx (.d (nmD p)) (.d (.int 1)) = some (.sh (.int p.2)) := rfl
  have am : argSlot false (.d (nmD p)) = some (.sh (nmD p)) := rfl
  generalize nmD p = x at *
  simp -implicitDefEqProofs (maxSteps := 2000000) (disch := first | omega | assumption | (simp; done) | (simp; omega)) [d_place_of, b_place_of, am, n0, n1]
theorem put_str {st : Store} {i : Nat} {kvs : List (List Ky × D)} {ls : List D} (h : st[i]? = some (trO kvs ls)) (kl : kvs.length ≤ 1000) (t q nm : Str × Int) (kd : Str) (w : Str) :
    d_Tree_put_at [.d (obD i), .d (nmD t), .d (.str kd), .d (nmD q), .d (.str w), .d (nmD nm)] st = some (.sh .none, trS st i (aPut kvs (nmK t.1 t.2) (.tuple [.str kd, nmD q, .str w]))) := by
  have a1 : argSlot false (.d (nmD t)) = some (.sh (nmD t)) := rfl
  have a2 : argSlot false (.d (nmD q)) = some (.sh (nmD q)) := rfl
  have a3 : argSlot false (.d (nmD nm)) = some (.sh (nmD nm)) := rfl
  have cp : cPut (.dt kvs) (nmD t) (.tuple [.str kd, nmD q, .str w]) = some (.dt (aPut kvs (nmK t.1 t.2) (.tuple [.str kd, nmD q, .str w]))) := cPut_any (by omega) _ _ _
  generalize aPut kvs (nmK t.1 t.2) (.tuple [.str kd, nmD q, .str w]) = kv2 at *
  generalize nmD t = td at *
  generalize nmD q = qd at *
  generalize nmD nm = nd at *
  unfold trO at h
  simp -implicitDefEqProofs (maxSteps := 2000000) (disch := first | omega | assumption | (simp; done) | (simp; omega)) [d_Tree_put_at, b_Tree_put_at, a1, a2, a3, h, cp]
theorem put_row {st : Store} {i : Nat} {kvs : List (List Ky × D)} {ls : List D} (h : st[i]? = some (trO kvs ls)) (kl : kvs.length ≤ 1000) (t q nm : Str × Int) (kd : Str) (us : List D) (side : Int) (hl : us.length ≤ 1000) :
    d_Tree_put_at [.d (obD i), .d (nmD t), .d (.str kd), .d (nmD q), .d (.tuple [.tuple us, .int side]), .d (nmD nm)] st = some (.sh .none, trS st i (aPut kvs (nmK t.1 t.2) (.tuple [.str kd, nmD q, .tuple (us ++ [.tuple [.int side, .str nm.1, .int nm.2, .int 0]])]))) := by
  have a1 : argSlot false (.d (nmD t)) = some (.sh (nmD t)) := rfl
  have a2 : argSlot false (.d (nmD q)) = some (.sh (nmD q)) := rfl
  have a3 : argSlot false (.d (nmD nm)) = some (.sh (nmD nm)) := rfl
  have pl := place_ev us side nm hl st
  generalize us ++ [.tuple [.int side, .str nm.1, .int nm.2, .int 0]] = u2 at *
  have cp : cPut (.dt kvs) (nmD t) (.tuple [.str kd, nmD q, .tuple u2]) = some (.dt (aPut kvs (nmK t.1 t.2) (.tuple [.str kd, nmD q, .tuple u2]))) := cPut_any (by omega) _ _ _
  generalize aPut kvs (nmK t.1 t.2) (.tuple [.str kd, nmD q, .tuple u2]) = kv2 at *
  generalize nmD t = td at *
  generalize nmD q = qd at *
  generalize nmD nm = nd at *
  unfold trO at h
  simp -implicitDefEqProofs (maxSteps := 2000000) (disch := first | omega | assumption | (simp; done) | (simp; omega)) [d_Tree_put_at, b_Tree_put_at, a1, a2, a3, h, pl, cp]
/-! hearing a deed -/
/-- a spot, as deeds tell it, and as it is put -/
inductive Spt : D → (Str × Int) → D → Prop
  | w (x : Str) (nm : Str × Int) : Spt (.str x) nm (.str x)
  | r (us : List D) (side : Int) (nm : Str × Int) (h : us.length ≤ 1000) : Spt (.tuple [.tuple us, .int side]) nm (.tuple (us ++ [.tuple [.int side, .str nm.1, .int nm.2, .int 0]]))
def fitsB (k sp : D) : Bool := match sp with
  | .str _ => isW k "map"
  | _ => isW k "row"
theorem fits_any {st : Store} {i : Nat} {kvs : List (List Ky × D)} {ls : List D} (h : st[i]? = some (trO kvs ls)) (p : Str × Int) {k : D} (e : kindD kvs p = some k) (hk : k = .none ∨ ∃ w, k = .str w) {sp sp' : D} {nm : Str × Int} (s : Spt sp nm sp') :
    d_Tree_fits [.d (obD i), .d (nmD p), .d sp] st = some (.sh (.bool (fitsB k sp)), st) := by
  cases s with
  | w x => exact fits_str h p e hk x
  | r us side => exact fits_row h p e hk _
theorem put_any {st : Store} {i : Nat} {kvs : List (List Ky × D)} {ls : List D} (h : st[i]? = some (trO kvs ls)) (kl : kvs.length ≤ 1000) (t q nm : Str × Int) (kd : Str) {sp sp' : D} (s : Spt sp nm sp') :
    d_Tree_put_at [.d (obD i), .d (nmD t), .d (.str kd), .d (nmD q), .d sp, .d (nmD nm)] st = some (.sh .none, trS st i (aPut kvs (nmK t.1 t.2) (.tuple [.str kd, nmD q, sp']))) := by
  cases s with
  | w x => exact put_str h kl t q nm kd x
  | r us side _ hl => exact put_row h kl t q nm kd us side hl
theorem hear_make {st : Store} {i : Nat} {kvs : List (List Ky × D)} {ls : List D} (h : st[i]? = some (trO kvs ls)) (kl : kvs.length ≤ 1000) (nm q : Str × Int) (sn : D) (kd : Str) {k : D} (e : kindD kvs q = some k) (hk : k = .none ∨ ∃ w, k = .str w) {sp sp' : D} (s : Spt sp nm sp') :
    d_Tree_hear [.d (obD i), .d (.tuple [nmD nm, sn, .tuple [.str "make", .str kd, nmD q, sp]])] st = some (if fitsB k sp = true then (.sh (.str "done"), trS st i (aPut kvs (nmK nm.1 nm.2) (.tuple [.str kd, nmD q, sp']))) else (.sh (.str "idle"), st)) := by
  have f := fits_any h q e hk s
  have pu := put_any h kl nm q nm kd s
  have g0 : gIx (.d (.tuple [nmD nm, sn, .tuple [.str "make", .str kd, nmD q, sp]])) (.d (.int 0)) = some (.sh (nmD nm)) := rfl
  have g2 : gIx (.d (.tuple [nmD nm, sn, .tuple [.str "make", .str kd, nmD q, sp]])) (.d (.int 2)) = some (.sh (.tuple [.str "make", .str kd, nmD q, sp])) := rfl
  have b0 : gIx (.d (.tuple [.str "make", .str kd, nmD q, sp])) (.d (.int 0)) = some (.sh (.str "make")) := rfl
  have b1 : gIx (.d (.tuple [.str "make", .str kd, nmD q, sp])) (.d (.int 1)) = some (.sh (.str kd)) := rfl
  have b2 : gIx (.d (.tuple [.str "make", .str kd, nmD q, sp])) (.d (.int 2)) = some (.sh (nmD q)) := rfl
  have b3 : gIx (.d (.tuple [.str "make", .str kd, nmD q, sp])) (.d (.int 3)) = some (.sh sp) := rfl
  have ad : argSlot false (.d (.tuple [nmD nm, sn, .tuple [.str "make", .str kd, nmD q, sp]])) = some (.sh (.tuple [nmD nm, sn, .tuple [.str "make", .str kd, nmD q, sp]])) := rfl
  generalize trS st i (aPut kvs (nmK nm.1 nm.2) (.tuple [.str kd, nmD q, sp'])) = st2 at *
  generalize hdd : PyData.tuple [nmD nm, sn, .tuple [.str "make", .str kd, nmD q, sp]] = dd at *
  generalize hda : PyData.tuple [.str "make", .str kd, nmD q, sp] = da at *
  generalize nmD nm = nd at *
  generalize nmD q = qd at *
  unfold trO at h
  cases hb : fitsB k sp with
  | true =>
    rw [hb] at f
    simp -implicitDefEqProofs (maxSteps := 2000000) (disch := first | omega | assumption | (simp; done) | (simp; omega)) [d_Tree_hear, b_Tree_hear, ad, g0, g2, b0, b1, b2, b3, h, f, pu]
  | false =>
    rw [hb] at f
    simp -implicitDefEqProofs (maxSteps := 2000000) (disch := first | omega | assumption | (simp; done) | (simp; omega)) [d_Tree_hear, b_Tree_hear, ad, g0, g2, b0, b1, b2, b3, h, f]
/-! moves and drops -/
def trL (st : Store) (i : Nat) (ls : List D) : Store := stPut st i "losers" (.ow (.d (.list ls)))
theorem trL_at {st : Store} {i : Nat} {kvs : List (List Ky × D)} {ls ls' : List D} (h : st[i]? = some (trO kvs ls)) : (trL st i ls')[i]? = some (trO kvs ls') := by
  unfold trL
  rw [stPut_at, h, Option.map_some, if_pos rfl]
  rfl
@[simp] theorem trL_is (st : Store) (i : Nat) (ls : List D) : stPut st i "losers" (.ow (.d (.list ls))) = trL st i ls := rfl
theorem hear_drop {st : Store} {i : Nat} {kvs : List (List Ky × D)} {ls : List D} (h : st[i]? = some (trO kvs ls)) (kl : kvs.length ≤ 1000) (nm t : Str × Int) (sn : D) :
    d_Tree_hear [.d (obD i), .d (.tuple [nmD nm, sn, .tuple [.str "drop", nmD t]])] st = some (match aGet kvs (nmK t.1 t.2) with
      | none => (.sh (.str "idle"), st)
      | some row => (.sh (.str "done"), trS st i (aPut kvs (nmK t.1 t.2) (.tuple [match row with | .tuple (k :: _) => k | _ => .none, .none, .none])))) ∨ ∃ row, aGet kvs (nmK t.1 t.2) = some row ∧ ∀ a b c, row ≠ .tuple [a, b, c] := by
  have am : ∀ row, aGet kvs (nmK t.1 t.2) = some row → (∃ a b c, row = .tuple [a, b, c]) ∨ ∀ a b c, row ≠ .tuple [a, b, c] := fun row _ => by
    by_cases z : ∃ a b c, row = .tuple [a, b, c]
    · exact .inl z
    · exact .inr fun a b c e => z ⟨a, b, c, e⟩
  have g0 : gIx (.d (.tuple [nmD nm, sn, .tuple [.str "drop", nmD t]])) (.d (.int 0)) = some (.sh (nmD nm)) := rfl
  have g2 : gIx (.d (.tuple [nmD nm, sn, .tuple [.str "drop", nmD t]])) (.d (.int 2)) = some (.sh (.tuple [.str "drop", nmD t])) := rfl
  have b0 : gIx (.d (.tuple [.str "drop", nmD t])) (.d (.int 0)) = some (.sh (.str "drop")) := rfl
  have b1 : gIx (.d (.tuple [.str "drop", nmD t])) (.d (.int 1)) = some (.sh (nmD t)) := rfl
  have ad : argSlot false (.d (.tuple [nmD nm, sn, .tuple [.str "drop", nmD t]])) = some (.sh (.tuple [nmD nm, sn, .tuple [.str "drop", nmD t]])) := rfl
  have ia : gNotInA (.d (nmD t)) (.dt kvs) = some (.sh (.bool (!(aGet kvs (nmK t.1 t.2)).isSome))) := rfl
  have ga : gIxA (.dt kvs) (.d (nmD t)) = (aGet kvs (nmK t.1 t.2)).bind fun v => some (.sh v) := rfl
  have cp : ∀ x, cPut (.dt kvs) (nmD t) x = some (.dt (aPut kvs (nmK t.1 t.2) x)) := fun x => cPut_any (by omega) _ _ _
  generalize hdd : PyData.tuple [nmD nm, sn, .tuple [.str "drop", nmD t]] = dd at *
  generalize hda : PyData.tuple [.str "drop", nmD t] = da at *
  generalize nmD nm = nd at *
  cases o : aGet kvs (nmK t.1 t.2) with
  | none =>
    left
    rw [o] at ia
    generalize nmD t = td at *
    unfold trO at h
    simp -implicitDefEqProofs (maxSteps := 2000000) (disch := first | omega | assumption | (simp; done) | (simp; omega)) [d_Tree_hear, b_Tree_hear, ad, g0, g2, b0, b1, h, ia]
  | some row =>
    rcases am row o with ⟨a, b, c, rfl⟩ | z
    · left
      rw [o] at ia ga
      have r0 : gIx (.d (.tuple [a, b, c])) (.d (.int 0)) = some (.sh a) := rfl
      have cp := cp (.tuple [a, .none, .none])
      dsimp only
      generalize aPut kvs (nmK t.1 t.2) (.tuple [a, .none, .none]) = kv2 at *
      generalize nmD t = td at *
      unfold trO at h
      simp -implicitDefEqProofs (maxSteps := 2000000) (disch := first | omega | assumption | (simp; done) | (simp; omega)) [d_Tree_hear, b_Tree_hear, ad, g0, g2, b0, b1, h, ia, ga, r0, cp]
    · exact .inr ⟨row, rfl, z⟩
/-- what hearing a move leaves and tells -/
noncomputable def movR (st : Store) (i : Nat) (kvs : List (List Ky × D)) (ls : List D) (nm t q : Str × Int) (sp sp' : D) (k : D) (res : List (Str × Int)) : Res × Store := match aGet kvs (nmK t.1 t.2) with
  | some (.tuple (.str kd :: _)) => if fitsB k sp = true then (if res = [] then (.sh (.str "done"), trS st i (aPut kvs (nmK t.1 t.2) (.tuple [.str kd, nmD q, sp']))) else (.sh (.str "lost"), trL st i (ls ++ [nmD nm]))) else (.sh (.str "idle"), st)
  | _ => (.sh (.str "idle"), st)
theorem gne_nil (res : List (Str × Int)) : gNe (.d (.list (res.map nmD))) (.d (.list [])) = some (.sh (.bool (!res.isEmpty))) := by
  have fl : ∀ x ∈ res.map nmD, Fl 1 x := fun x hx => by
    obtain ⟨p, _, rfl⟩ := List.mem_map.mp hx
    exact Fl.t (k := 0) fun y hy => by
      rcases List.mem_cons.mp hy with rfl | hy
      · exact Fl.s _
      · rw [List.mem_singleton.mp hy]; exact Fl.i _
  have f0 : Fl 1 (.list ([] : List D)) := Fl.l (k := 0) fun x hx => by cases hx
  rw [gNe_d (shallow_fl (Fl.l fl) f0 (.inl (by decide)))]
  have : PyData.eqv (.list (res.map nmD)) (.list []) = res.isEmpty := by
    rw [Bool.eq_iff_iff, eqv_pln _ _ (Fl.l fl).p f0.p, List.isEmpty_iff]
    constructor
    · intro e
      simp only [PyData.list.injEq, List.map_eq_nil_iff] at e
      exact e
    · intro e; rw [e]; rfl
  rw [this]; rfl
theorem hear_move {st : Store} {i : Nat} {kvs : List (List Ky × D)} {ls : List D} (h : st[i]? = some (trO kvs ls)) (kl : kvs.length ≤ 1000) (ll : ls.length ≤ 1000) {up : Str × Int → Option (Option (Str × Int))} (U : Ups kvs up) (nm t q : Str × Int) (sn : D) {k : D} (e : kindD kvs q = some k) (hk : k = .none ∨ ∃ w, k = .str w) {sp sp' : D} (s : Spt sp nm sp')
    (ht : ∀ row, aGet kvs (nmK t.1 t.2) = some row → ∃ kd b c, row = .tuple [.str kd, b, c]) (n : Nat) (hn : n ≤ 1000) (res : List (Str × Int)) (w : walk up t n (some q) [] = some res) :
    d_Tree_hear [.d (obD i), .d (.tuple [nmD nm, sn, .tuple [.str "move", nmD t, nmD q, sp]])] st = some (movR st i kvs ls nm t q sp sp' k res) := by
  have f := fits_any h q e hk s
  have rg := ring_ev h U t n (some q) res w hn
  have rg : d_Tree_ring [.d (obD i), .d (nmD t), .d (nmD q)] st = some (.fr (.d (.list (res.map nmD))), st) := rg
  have gn := gne_nil res
  have g0 : gIx (.d (.tuple [nmD nm, sn, .tuple [.str "move", nmD t, nmD q, sp]])) (.d (.int 0)) = some (.sh (nmD nm)) := rfl
  have g2 : gIx (.d (.tuple [nmD nm, sn, .tuple [.str "move", nmD t, nmD q, sp]])) (.d (.int 2)) = some (.sh (.tuple [.str "move", nmD t, nmD q, sp])) := rfl
  have b0 : gIx (.d (.tuple [.str "move", nmD t, nmD q, sp])) (.d (.int 0)) = some (.sh (.str "move")) := rfl
  have b1 : gIx (.d (.tuple [.str "move", nmD t, nmD q, sp])) (.d (.int 1)) = some (.sh (nmD t)) := rfl
  have b2 : gIx (.d (.tuple [.str "move", nmD t, nmD q, sp])) (.d (.int 2)) = some (.sh (nmD q)) := rfl
  have b3 : gIx (.d (.tuple [.str "move", nmD t, nmD q, sp])) (.d (.int 3)) = some (.sh sp) := rfl
  have ad : argSlot false (.d (.tuple [nmD nm, sn, .tuple [.str "move", nmD t, nmD q, sp]])) = some (.sh (.tuple [nmD nm, sn, .tuple [.str "move", nmD t, nmD q, sp]])) := rfl
  have ia : gNotInA (.d (nmD t)) (.dt kvs) = some (.sh (.bool (!(aGet kvs (nmK t.1 t.2)).isSome))) := rfl
  have ga : gIxA (.dt kvs) (.d (nmD t)) = (aGet kvs (nmK t.1 t.2)).bind fun v => some (.sh v) := rfl
  have pu := fun kd => put_any h kl t q nm kd s
  unfold movR
  generalize hdd : PyData.tuple [nmD nm, sn, .tuple [.str "move", nmD t, nmD q, sp]] = dd at *
  generalize hda : PyData.tuple [.str "move", nmD t, nmD q, sp] = da at *
  cases o : aGet kvs (nmK t.1 t.2) with
  | none =>
    rw [o] at ia
    generalize nmD nm = nd at *
    generalize nmD t = td at *
    generalize nmD q = qd at *
    unfold trO at h
    simp -implicitDefEqProofs (maxSteps := 2000000) (disch := first | omega | assumption | (simp; done) | (simp; omega)) [d_Tree_hear, b_Tree_hear, ad, g0, g2, b0, b1, h, ia]
  | some row =>
    obtain ⟨kd, b, c, rfl⟩ := ht row o
    rw [o] at ia ga
    have r0 : gIx (.d (.tuple [.str kd, b, c])) (.d (.int 0)) = some (.sh (.str kd)) := rfl
    have pu := pu kd
    dsimp only
    generalize trS st i (aPut kvs (nmK t.1 t.2) (.tuple [.str kd, nmD q, sp'])) = st2 at *
    cases hb : fitsB k sp with
    | false =>
      rw [hb] at f
      generalize nmD nm = nd at *
      generalize nmD t = td at *
      generalize nmD q = qd at *
      unfold trO at h
      simp -implicitDefEqProofs (maxSteps := 2000000) (disch := first | omega | assumption | (simp; done) | (simp; omega)) [d_Tree_hear, b_Tree_hear, ad, g0, g2, b0, b1, b2, b3, h, ia, ga, r0, f]
    | true =>
      rw [hb] at f
      cases res with
      | nil =>
        generalize nmD nm = nd at *
        generalize nmD t = td at *
        generalize nmD q = qd at *
        unfold trO at h
        simp only [List.map_nil, List.isEmpty_nil] at rg gn
        simp -implicitDefEqProofs (maxSteps := 2000000) (disch := first | omega | assumption | (simp; done) | (simp; omega)) [d_Tree_hear, b_Tree_hear, ad, g0, g2, b0, b1, b2, b3, h, ia, ga, r0, f, rg, gn, pu]
      | cons x r =>
        have gn : gNe (.d (.list ((x :: r).map nmD))) (.d (.list [])) = some (.sh (.bool true)) := gn
        have rne : ¬ (x :: r : List (Str × Int)) = [] := fun z => by cases z
        rw [if_pos rfl, if_neg rne]
        generalize (x :: r).map nmD = rm at *
        generalize nmD nm = nd at *
        generalize nmD t = td at *
        generalize nmD q = qd at *
        unfold trO at h
        simp -implicitDefEqProofs (maxSteps := 2000000) (disch := first | omega | assumption | (simp; done) | (simp; omega)) [d_Tree_hear, b_Tree_hear, ad, g0, g2, b0, b1, b2, b3, h, ia, ga, r0, f, rg, gn]
/-! the way up ends -/
abbrev Nm := Str × Int
def climb (up : Nm → Option (Option Nm)) : Nat → Option Nm → Prop
  | 0, _ => False
  | _ + 1, none => True
  | n + 1, some q => match up q with
    | none => True
    | some o => climb up n o
theorem climb_step {up : Nm → Option (Option Nm)} {n : Nat} {q : Nm} {o : Option Nm} (h : up q = some o) : climb up (n + 1) (some q) ↔ climb up n o := by
  show (match up q with | none => True | some o => climb up n o) ↔ _
  rw [h]
theorem climb_out {up : Nm → Option (Option Nm)} {n : Nat} {q : Nm} (h : up q = none) : climb up (n + 1) (some q) := by
  show (match up q with | none => True | some o => climb up n o)
  rw [h]; trivial
theorem climb_mono {up : Nm → Option (Option Nm)} : ∀ {n m : Nat} {o : Option Nm}, climb up n o → n ≤ m → climb up m o
  | 0, _, _, h, _ => h.elim
  | n + 1, 0, _, _, l => absurd l (by omega)
  | n + 1, m + 1, none, _, _ => trivial
  | n + 1, m + 1, some q, h, l => by
    cases u : up q with
    | none => exact climb_out u
    | some o => exact (climb_step u).mpr (climb_mono ((climb_step u).mp h) (by omega))
theorem climb_walk {up : Nm → Option (Option Nm)} (t : Nm) : ∀ {n : Nat} {o : Option Nm} (way : List Nm), climb up n o → ∃ res, walk up t n o way = some res
  | 0, _, _, h => h.elim
  | n + 1, none, _, _ => ⟨[], rfl⟩
  | n + 1, some q, way, h => by
    show ∃ res, (if q = t then some (way ++ [q]) else match up q with | none => some [] | some o => walk up t n o (way ++ [q])) = some res
    by_cases e : q = t
    · rw [if_pos e]; exact ⟨_, rfl⟩
    · rw [if_neg e]
      cases u : up q with
      | none => exact ⟨[], rfl⟩
      | some o => exact climb_walk t (way ++ [q]) ((climb_step u).mp h)
/-- the table with one name's holder told anew -/
def upSet (up : Nm → Option (Option Nm)) (t : Nm) (o : Option Nm) : Nm → Option (Option Nm) := fun x => if x = t then some o else up x
/-- a way that does not meet the thing stays as it was -/
theorem walk_climb {up : Nm → Option (Option Nm)} {t : Nm} {o' : Option Nm} : ∀ {n : Nat} {o : Option Nm} {way : List Nm}, walk up t n o way = some [] → climb (upSet up t o') n o
  | 0, _, _, h => by cases h
  | n + 1, none, _, _ => trivial
  | n + 1, some q, way, h => by
    have h : (if q = t then some (way ++ [q]) else match up q with | none => some [] | some o => walk up t n o (way ++ [q])) = some [] := h
    by_cases e : q = t
    · rw [if_pos e] at h
      have h := Option.some.inj h
      simp at h
    · rw [if_neg e] at h
      have us : upSet up t o' q = up q := if_neg e
      cases u : up q with
      | none => exact climb_out (us.trans u)
      | some o =>
        rw [u] at h
        exact (climb_step (us.trans u)).mpr (walk_climb h)
def Ends (up : Nm → Option (Option Nm)) : Prop := ∀ q, ∃ n, climb up n (some q)
theorem ends_set {up : Nm → Option (Option Nm)} (E : Ends up) (t : Nm) (o' : Option Nm) (h : ∀ q, o' = some q → ∃ n, climb (upSet up t o') n (some q)) : Ends (upSet up t o') := by
  have key : ∀ (n : Nat) (x : Nm), climb up n (some x) → ∃ m, climb (upSet up t o') m (some x) := fun n => by
    induction n with
    | zero => intro x h; exact h.elim
    | succ n ih =>
      intro x hx
      by_cases e : x = t
      · have us : upSet up t o' x = some o' := if_pos e
        cases o' with
        | none => exact ⟨2, (climb_step us).mpr trivial⟩
        | some q =>
          obtain ⟨m, hm⟩ := h q rfl
          exact ⟨m + 1, (climb_step us).mpr hm⟩
      · have us : upSet up t o' x = up x := if_neg e
        cases u : up x with
        | none => exact ⟨1, climb_out (us.trans u)⟩
        | some o =>
          have hx := (climb_step u).mp hx
          cases o with
          | none => exact ⟨2, (climb_step (us.trans u)).mpr trivial⟩
          | some y =>
            obtain ⟨m, hm⟩ := ih y hx
            exact ⟨m + 1, (climb_step (us.trans u)).mpr hm⟩
  exact fun x => let ⟨n, hn⟩ := E x; key n x hn
theorem leastN {p : Nat → Prop} : ∀ n, p n → ∃ k, p k ∧ ∀ m, p m → k ≤ m := fun n => by
  induction n using Nat.strongRecOn with
  | ind n ih =>
    intro h
    by_cases q : ∃ m, m < n ∧ p m
    · obtain ⟨m, lt, hm⟩ := q
      exact ih m lt hm
    · exact ⟨n, h, fun m hm => by
        rcases Nat.lt_or_ge m n with z | z
        · exact absurd ⟨m, z, hm⟩ q
        · exact z⟩
theorem Ends.rank {up : Nm → Option (Option Nm)} (E : Ends up) : ∃ r : Nm → Nat, ∀ q o, up q = some (some o) → r o < r q := by
  have h : ∀ q, ∃ k, climb up k (some q) ∧ ∀ m, climb up m (some q) → k ≤ m := fun q => let ⟨n, hn⟩ := E q; leastN n hn
  obtain ⟨r, hr⟩ : ∃ r : Nm → Nat, ∀ q, climb up (r q) (some q) ∧ ∀ m, climb up m (some q) → r q ≤ m := ⟨fun q => Classical.choose (h q), fun q => Classical.choose_spec (h q)⟩
  refine ⟨r, fun q o u => ?_⟩
  obtain ⟨h1, _⟩ := hr q
  obtain ⟨_, h2⟩ := hr o
  cases e : r q with
  | zero => rw [e] at h1; exact h1.elim
  | succ a => rw [e] at h1; exact Nat.lt_succ_of_le (h2 a ((climb_step u).mp h1))
/-- the way up is no longer than the things are many -/
theorem climb_bound {up : Nm → Option (Option Nm)} {r : Nm → Nat} (hr : ∀ q o, up q = some (some o) → r o < r q) : ∀ (n : Nat) (D : List Nm) (q : Nm), r q ≤ n → (∀ x, r x ≤ r q → up x ≠ none → x ∈ D) → climb up (D.length + 2) (some q) := fun n => by
  induction n with
  | zero =>
    intro D q hq _
    cases u : up q with
    | none => exact climb_out u
    | some o =>
      cases o with
      | none => exact (climb_step u).mpr trivial
      | some y => exact absurd (hr q y u) (by omega)
  | succ n ih =>
    intro D q hq hD
    cases u : up q with
    | none => exact climb_out u
    | some o =>
      cases o with
      | none => exact (climb_step u).mpr trivial
      | some y =>
        have lt := hr q y u
        have mq := hD q (Nat.le_refl _) (by rw [u]; exact fun z => by cases z)
        have le := List.length_erase_of_mem mq
        have p := List.length_pos_of_mem mq
        refine (climb_step u).mpr (climb_mono (ih (D.erase q) y (by omega) fun x hx hu => ?_) (by omega))
        exact (List.mem_erase_of_ne fun e => by subst e; omega).mpr (hD x (by omega) hu)
theorem Ends.bound {up : Nm → Option (Option Nm)} (E : Ends up) (D : List Nm) (hD : ∀ x, up x ≠ none → x ∈ D) (q : Nm) : climb up (D.length + 2) (some q) := by
  obtain ⟨r, hr⟩ := E.rank
  exact climb_bound hr (r q) D q (Nat.le_refl _) fun x _ h => hD x h
/-- a thing's own way to itself is itself alone; every way is told -/
theorem walk_self (up : Nm → Option (Option Nm)) (t : Nm) (n : Nat) : walk up t (n + 1) (some t) [] = some [t] := by
  show (if t = t then some ([] ++ [t]) else _) = _
  rw [if_pos rfl]; rfl
/-! the tree as a plain table: kind, holder, spot -/
theorem nmK_inj {a b : Str} {m n : Int} (e : nmK a m = nmK b n) : a = b ∧ m = n := by
  unfold nmK at e
  simp at e
  exact e
theorem nmK_ne {p q : Nm} (h : p ≠ q) : nmK p.1 p.2 ≠ nmK q.1 q.2 := fun e => h (Prod.ext (nmK_inj e).1 (nmK_inj e).2)
/-- a way that never comes to the thing ends as before -/
theorem climb_avoid {up : Nm → Option (Option Nm)} {t : Nm} {o' : Option Nm} (h : ∀ x o, up x = some (some o) → o ≠ t) : ∀ {n : Nat} {q : Nm}, q ≠ t → climb up n (some q) → climb (upSet up t o') n (some q)
  | 0, _, _, c => c.elim
  | n + 1, q, ne, c => by
    have us : upSet up t o' q = up q := if_neg ne
    cases u : up q with
    | none => exact climb_out (us.trans u)
    | some o =>
      refine (climb_step (us.trans u)).mpr ?_
      have c := (climb_step u).mp c
      cases o with
      | none => cases n with
        | zero => exact c.elim
        | succ n => trivial
      | some y => exact climb_avoid h (h q y u) c
abbrev Rw := Str × Option Nm × D
abbrev Tb := Nm → Option Rw
def rwD (r : Rw) : D := .tuple [.str r.1, hD r.2.1, r.2.2]
def Tk (kvs : List (List Ky × D)) (S : Tb) : Prop := ∀ q, aGet kvs (nmK q.1 q.2) = (S q).map rwD
def upS (S : Tb) : Nm → Option (Option Nm) := fun q => (S q).map (·.2.1)
def sPut (S : Tb) (t : Nm) (r : Rw) : Tb := fun q => if q = t then some r else S q
def kS (S : Tb) (q : Nm) : Option Str := if q = rootN then some "map" else (S q).map (·.1)
def kD : Option Str → D
  | none => .none
  | some w => .str w
theorem kD_ok (k : Option Str) : kD k = .none ∨ ∃ w, kD k = .str w := by
  cases k with
  | none => exact .inl rfl
  | some w => exact .inr ⟨w, rfl⟩
def fitS (S : Tb) (q : Nm) (sp : D) : Bool := fitsB (kD (kS S q)) sp
theorem tk_kind {kvs : List (List Ky × D)} {S : Tb} (T : Tk kvs S) (q : Nm) : kindD kvs q = some (kD (kS S q)) := by
  unfold kindD kS
  by_cases e : q = rootN
  · rw [if_pos e, if_pos e]; rfl
  · rw [if_neg e, if_neg e, T q]
    cases S q <;> rfl
theorem tk_ups {kvs : List (List Ky × D)} {S : Tb} (T : Tk kvs S) : Ups kvs (upS S) := fun q => by
  have t := T q
  unfold upS
  cases h : S q with
  | none => rw [h] at t; exact .inl ⟨rfl, t⟩
  | some r => rw [h] at t; exact .inr ⟨_, r.2.1, _, rfl, t⟩
theorem tk_put {kvs : List (List Ky × D)} {S : Tb} (T : Tk kvs S) (t : Nm) (r : Rw) : Tk (aPut kvs (nmK t.1 t.2) (rwD r)) (sPut S t r) := fun q => by
  unfold sPut
  by_cases e : q = t
  · subst e
    rw [aGet_put, if_pos rfl, if_pos rfl]; rfl
  · rw [aGet_put, if_neg (nmK_ne e), if_neg e]; exact T q
theorem upS_put (S : Tb) (t : Nm) (r : Rw) : upS (sPut S t r) = upSet (upS S) t r.2.1 := by
  funext q
  unfold upS sPut upSet
  by_cases e : q = t
  · rw [if_pos e, if_pos e]; rfl
  · rw [if_neg e, if_neg e]
structure TS (st : Store) (i : Nat) (kvs : List (List Ky × D)) (ls : List D) (S : Tb) : Prop where
  at_ : st[i]? = some (trO kvs ls)
  tk : Tk kvs S
  root : S rootN = none
  ends : Ends (upS S)
  hold : ∀ (q o : Nm), upS S q = some (some o) → o = rootN ∨ S o ≠ none
theorem TS.wk {st : Store} {i : Nat} {kvs : List (List Ky × D)} {ls : List D} {S : Tb} (T : TS st i kvs ls S) {N : List Nm} (hN : ∀ x, S x ≠ none → x ∈ N) (t q : Nm) : ∃ res, walk (upS S) t (N.length + 2) (some q) [] = some res :=
  climb_walk t [] (T.ends.bound N (fun x h => hN x fun z => h (by unfold upS; rw [z]; rfl)) q)
theorem TS.start (st : Store) (i : Nat) (h : st[i]? = some (trO [] [])) : TS st i [] [] (fun _ => none) where
  at_ := h
  tk := fun q => rfl
  root := rfl
  ends := fun q => ⟨1, climb_out rfl⟩
  hold := fun q o u => by cases u
theorem fit_holder {S : Tb} {q : Nm} {sp : D} (h : fitS S q sp = true) : q = rootN ∨ S q ≠ none := by
  by_cases e : q = rootN
  · exact .inl e
  · refine .inr fun z => ?_
    have : kS S q = none := by unfold kS; rw [if_neg e, z]; rfl
    unfold fitS at h
    rw [this] at h
    unfold fitsB at h
    split at h <;> cases h
theorem TS.put {st st' : Store} {i : Nat} {kvs : List (List Ky × D)} {ls : List D} {S : Tb} (T : TS st i kvs ls S) (t : Nm) (r : Rw) (h : st'[i]? = some (trO (aPut kvs (nmK t.1 t.2) (rwD r)) ls)) (nr : t ≠ rootN) (ho : ∀ q, r.2.1 = some q → (q = rootN ∨ S q ≠ none ∨ q = t) ∧ ∃ n, climb (upSet (upS S) t r.2.1) n (some q)) :
    TS st' i (aPut kvs (nmK t.1 t.2) (rwD r)) ls (sPut S t r) where
  at_ := h
  tk := tk_put T.tk t r
  root := by unfold sPut; rw [if_neg fun z => nr z.symm]; exact T.root
  ends := by rw [upS_put]; exact ends_set T.ends t _ fun q e => (ho q e).2
  hold := fun q y u => by
    have up' : ∀ z, S z ≠ none ∨ z = t → sPut S t r z ≠ none := fun z hz => by
      unfold sPut
      split
      · exact fun w => by cases w
      · rename_i ne
        rcases hz with hz | hz
        · exact hz
        · exact absurd hz ne
    rw [upS_put] at u
    unfold upSet at u
    split at u
    · rcases (ho y (Option.some.inj u)).1 with w | w | w
      · exact .inl w
      · exact .inr (up' y (.inl w))
      · exact .inr (up' y (.inr w))
    · rcases T.hold q y u with w | w
      · exact .inl w
      · exact .inr (up' y (.inl w))
theorem ts_make {st : Store} {i : Nat} {kvs : List (List Ky × D)} {ls : List D} {S : Tb} (T : TS st i kvs ls S) (kl : kvs.length ≤ 900) (nm q : Nm) (sn : D) (w : Str) {sp sp' : D} (s : Spt sp nm sp') (fr : S nm = none) (nr : nm ≠ rootN) :
    ∃ wd st' kvs' S', d_Tree_hear [.d (obD i), .d (.tuple [nmD nm, sn, .tuple [.str "make", .str w, nmD q, sp]])] st = some (.sh (.str wd), st') ∧ TS st' i kvs' ls S' ∧ kvs'.length ≤ kvs.length + 1 ∧ (∀ j, j ≠ i → st'[j]? = st[j]?) ∧ ((fitS S q sp = true ∧ wd = "done" ∧ S' = sPut S nm (w, some q, sp') ∧ kvs' = aPut kvs (nmK nm.1 nm.2) (rwD (w, some q, sp'))) ∨ (fitS S q sp = false ∧ wd = "idle" ∧ S' = S ∧ st' = st ∧ kvs' = kvs)) := by
  have hm := hear_make T.at_ (by omega) nm q sn w (tk_kind T.tk q) (kD_ok _) s
  cases f : fitS S q sp with
  | true =>
    rw [if_pos (show fitsB (kD (kS S q)) sp = true from f)] at hm
    refine ⟨_, _, _, _, hm, T.put nm (w, some q, sp') (trS_at T.at_) nr (fun y ey => ?_), aPut_len _ _ _, fun j hj => trS_ne (Ne.symm hj), .inl ⟨rfl, rfl, rfl, rfl⟩⟩
    cases ey
    obtain ⟨n, hn⟩ := T.ends q
    refine ⟨?_, n, climb_avoid (t := nm) (fun x o u z => ?_) (fun z => ?_) hn⟩
    · rcases fit_holder f with g | g
      · exact .inl g
      · exact .inr (.inl g)
    · rcases T.hold x o u with g | g
      · exact nr (z.symm.trans g)
      · exact g (z ▸ fr)
    · rcases fit_holder f with g | g
      · exact nr (z.symm.trans g)
      · exact g (z ▸ fr)
  | false =>
    rw [if_neg (show ¬ fitsB (kD (kS S q)) sp = true from fun z => by rw [show fitsB (kD (kS S q)) sp = false from f] at z; cases z)] at hm
    exact ⟨_, _, _, _, hm, T, by omega, fun _ _ => rfl, .inr ⟨rfl, rfl, rfl, rfl, rfl⟩⟩
theorem ts_drop {st : Store} {i : Nat} {kvs : List (List Ky × D)} {ls : List D} {S : Tb} (T : TS st i kvs ls S) (kl : kvs.length ≤ 900) (nm t : Nm) (sn : D) :
    ∃ wd st' kvs' S', d_Tree_hear [.d (obD i), .d (.tuple [nmD nm, sn, .tuple [.str "drop", nmD t]])] st = some (.sh (.str wd), st') ∧ TS st' i kvs' ls S' ∧ kvs'.length ≤ kvs.length + 1 ∧ (∀ j, j ≠ i → st'[j]? = st[j]?) ∧ ((∃ r, S t = some r ∧ wd = "done" ∧ S' = sPut S t (r.1, none, .none) ∧ kvs' = aPut kvs (nmK t.1 t.2) (rwD (r.1, none, .none))) ∨ (S t = none ∧ wd = "idle" ∧ S' = S ∧ st' = st ∧ kvs' = kvs)) := by
  have tt := T.tk t
  rcases hear_drop T.at_ (by omega) nm t sn with hm | ⟨row, g, ne⟩
  · cases h : S t with
    | none =>
      rw [h] at tt
      rw [tt] at hm
      exact ⟨_, _, _, _, hm, T, by omega, fun _ _ => rfl, .inr ⟨rfl, rfl, rfl, rfl, rfl⟩⟩
    | some r =>
      rw [h] at tt
      rw [tt] at hm
      have nr : t ≠ rootN := fun z => by rw [z, T.root] at h; cases h
      exact ⟨_, _, _, _, hm, T.put t (r.1, none, .none) (trS_at T.at_) nr (fun y ey => by cases ey), aPut_len _ _ _, fun j hj => trS_ne (Ne.symm hj), .inl ⟨r, rfl, rfl, rfl, rfl⟩⟩
  · rw [g] at tt
    cases h : S t with
    | none => rw [h] at tt; cases tt
    | some r => rw [h] at tt; exact absurd (Option.some.inj tt) (ne _ _ _)
theorem trL_ne {st : Store} {i j : Nat} {ls' : List D} (ne : i ≠ j) : (trL st i ls')[j]? = st[j]? := by
  unfold trL
  rw [stPut_at]
  cases st[j]? with
  | none => rfl
  | some o => rw [Option.map_some, if_neg ne]
theorem ts_move {st : Store} {i : Nat} {kvs : List (List Ky × D)} {ls : List D} {S : Tb} (T : TS st i kvs ls S) (kl : kvs.length ≤ 900) (ll : ls.length ≤ 900) {N : List Nm} (hN : ∀ x, S x ≠ none → x ∈ N) (nl : N.length ≤ 900) (nm t q : Nm) (sn : D) {sp sp' : D} (s : Spt sp nm sp') :
    ∃ wd st' kvs' ls' S' res, d_Tree_hear [.d (obD i), .d (.tuple [nmD nm, sn, .tuple [.str "move", nmD t, nmD q, sp]])] st = some (.sh (.str wd), st') ∧ TS st' i kvs' ls' S' ∧ kvs'.length ≤ kvs.length + 1 ∧ (∀ j, j ≠ i → st'[j]? = st[j]?) ∧ walk (upS S) t (N.length + 2) (some q) [] = some res ∧
      ((S t = none ∧ wd = "idle" ∧ S' = S ∧ ls' = ls ∧ kvs' = kvs ∧ st' = st) ∨ ∃ r, S t = some r ∧ ((fitS S q sp = false ∧ wd = "idle" ∧ S' = S ∧ ls' = ls ∧ kvs' = kvs ∧ st' = st) ∨ (fitS S q sp = true ∧ res = [] ∧ wd = "done" ∧ S' = sPut S t (r.1, some q, sp') ∧ ls' = ls ∧ kvs' = aPut kvs (nmK t.1 t.2) (rwD (r.1, some q, sp'))) ∨ (fitS S q sp = true ∧ res ≠ [] ∧ wd = "lost" ∧ S' = S ∧ ls' = ls ++ [nmD nm] ∧ kvs' = kvs))) := by
  obtain ⟨res, w⟩ := T.wk hN t q
  have tt := T.tk t
  have hm := hear_move T.at_ (by omega) (by omega) (tk_ups T.tk) nm t q sn (tk_kind T.tk q) (kD_ok _) s (fun row g => by
    rw [g] at tt
    cases h : S t with
    | none => rw [h] at tt; cases tt
    | some r => rw [h] at tt; exact ⟨_, _, _, Option.some.inj tt⟩) _ (by omega) res w
  unfold movR at hm
  cases h : S t with
  | none =>
    rw [h] at tt
    rw [tt] at hm
    exact ⟨_, _, _, _, _, res, hm, T, by omega, fun _ _ => rfl, w, .inl ⟨rfl, rfl, rfl, rfl, rfl, rfl⟩⟩
  | some r =>
    have nr : t ≠ rootN := fun z => by rw [z, T.root] at h; cases h
    rw [h] at tt
    rw [tt] at hm
    simp only [Option.map_some, rwD] at hm
    cases f : fitS S q sp with
    | false =>
      rw [if_neg (show ¬ fitsB (kD (kS S q)) sp = true from fun z => by rw [show fitsB (kD (kS S q)) sp = false from f] at z; cases z)] at hm
      exact ⟨_, _, _, _, _, res, hm, T, by omega, fun _ _ => rfl, w, .inr ⟨r, rfl, .inl ⟨rfl, rfl, rfl, rfl, rfl, rfl⟩⟩⟩
    | true =>
      rw [if_pos (show fitsB (kD (kS S q)) sp = true from f)] at hm
      by_cases z : res = []
      · rw [if_pos z] at hm
        subst z
        refine ⟨_, _, _, _, _, [], hm, T.put t (r.1, some q, sp') (trS_at T.at_) nr (fun y ey => ?_), aPut_len _ _ _, fun j hj => trS_ne (Ne.symm hj), w, .inr ⟨r, rfl, .inr (.inl ⟨rfl, rfl, rfl, rfl, rfl, rfl⟩)⟩⟩
        cases ey
        refine ⟨?_, _, walk_climb w⟩
        rcases fit_holder f with g | g
        · exact .inl g
        · exact .inr (.inl g)
      · rw [if_neg z] at hm
        exact ⟨_, _, _, _, _, res, hm, ⟨trL_at T.at_, T.tk, T.root, T.ends, T.hold⟩, by omega, fun j hj => trL_ne (Ne.symm hj), w, .inr ⟨r, rfl, .inr (.inr ⟨rfl, z, rfl, rfl, rfl, rfl⟩)⟩⟩
theorem cutL_lh {α : Type} (xs : List α) {i j : Int} (hi : 0 ≤ i) (hj : 0 ≤ j) : cutL xs (some i) (some j) = (xs.drop i.toNat).take (j.toNat - i.toNat) := by
  unfold cutL cutAt
  simp only [if_neg (show ¬ i < 0 by omega), if_neg (show ¬ j < 0 by omega)]
  rcases Nat.le_total i.toNat xs.length with w | w
  · rw [Nat.min_eq_left w]
    rcases Nat.le_total j.toNat xs.length with v | v
    · rw [Nat.min_eq_left v]
    · rw [Nat.min_eq_right v, List.take_of_length_le (by rw [List.length_drop]; exact Nat.le_refl _), List.take_of_length_le (by rw [List.length_drop]; omega)]
  · rw [Nat.min_eq_right w, List.drop_eq_nil_of_le (Nat.le_refl _), List.drop_eq_nil_of_le w]
    simp
theorem gne_self {k : Nat} {d : D} (h : Fl k d) (hk : k ≤ 60) : gNe (.d d) (.d d) = some (.sh (.bool false)) := by
  rw [gNe_d (shallow_fl h h (.inl hk)), (eqv_pln d d h.p h.p).mpr rfl]; rfl
theorem geq_self {k : Nat} {d : D} (h : Fl k d) (hk : k ≤ 60) : gEq (.d d) (.d d) = some (.sh (.bool true)) := by
  rw [gEq_d (shallow_fl h h (.inl hk)), (eqv_pln d d h.p h.p).mpr rfl]; rfl
theorem fl_nm (p : Nm) : Fl 1 (nmD p) := Fl.t (k := 0) fun x hx => by
  rcases List.mem_cons.mp hx with rfl | hx
  · exact Fl.s _
  · rw [List.mem_singleton.mp hx]; exact Fl.i _
theorem fl_nms (res : List Nm) : Fl 2 (.list (res.map nmD)) := Fl.l (k := 1) fun x hx => by
  obtain ⟨p, _, rfl⟩ := List.mem_map.mp hx
  exact fl_nm p
/-! the rows of a tree (sorted) -/
abbrev NR := (Str × Int) × D
/-- the dict's rows: kept in turn, each name once -/
structure RwI (kvs : List (List Ky × D)) (R : List NR) : Prop where
  eq : kvs = R.map nmRow
  nd : (R.map (·.1)).Nodup
  ok : ∀ e ∈ R, ∃ (k : Str) (o : Option Nm) (c : D), e.2 = .tuple [.str k, hD o, c] ∧ Fl 4 c
def rPut (R : List NR) (t : Nm) (v : D) : List NR := if t ∈ R.map (·.1) then R.map (fun e => if e.1 = t then (e.1, v) else e) else R ++ [(t, v)]
theorem nmRow_key (R : List NR) (t : Nm) : (R.map nmRow).any (fun e => decide (e.1 = nmK t.1 t.2)) = decide (t ∈ R.map (·.1)) := by
  rw [Bool.eq_iff_iff, List.any_eq_true, decide_eq_true_iff]
  constructor
  · rintro ⟨x, hx, e⟩
    obtain ⟨y, hy, rfl⟩ := List.mem_map.mp hx
    have e := of_decide_eq_true e
    have := nmK_inj (show nmK y.1.1 y.1.2 = nmK t.1 t.2 from e)
    exact List.mem_map.mpr ⟨y, hy, Prod.ext this.1 this.2⟩
  · intro h
    obtain ⟨y, hy, rfl⟩ := List.mem_map.mp h
    exact ⟨_, List.mem_map_of_mem hy, decide_eq_true rfl⟩
theorem aPut_nmRow (R : List NR) (t : Nm) (v : D) : aPut (R.map nmRow) (nmK t.1 t.2) v = (rPut R t v).map nmRow := by
  unfold aPut rPut
  rw [nmRow_key]
  by_cases h : t ∈ R.map (·.1)
  · rw [if_pos (decide_eq_true h), if_pos h, List.map_map, List.map_map]
    refine List.map_congr_left fun e _ => ?_
    show (if (nmRow e).1 = nmK t.1 t.2 then ((nmRow e).1, v) else nmRow e) = nmRow (if e.1 = t then (e.1, v) else e)
    by_cases z : e.1 = t
    · rw [if_pos z, if_pos (by rw [← z]; rfl)]; rfl
    · rw [if_neg z, if_neg fun w => z (by have := nmK_inj (show nmK e.1.1 e.1.2 = nmK t.1 t.2 from w); exact Prod.ext this.1 this.2)]
  · rw [if_neg (by rw [decide_eq_false h]; decide), if_neg h, List.map_append]; rfl
theorem fl_hD (o : Option Nm) : Fl 1 (hD o) := by
  cases o with
  | none => exact Fl.n
  | some q => exact fl_nm q
theorem RwI.put {kvs : List (List Ky × D)} {R : List NR} (I : RwI kvs R) (t : Nm) (r : Rw) (f : Fl 4 r.2.2) : RwI (aPut kvs (nmK t.1 t.2) (rwD r)) (rPut R t (rwD r)) where
  eq := by rw [I.eq, aPut_nmRow]
  nd := by
    unfold rPut
    by_cases h : t ∈ R.map (·.1)
    · rw [if_pos h, List.map_map]
      rw [show R.map ((·.1) ∘ fun e => if e.1 = t then (e.1, rwD r) else e) = R.map (·.1) from List.map_congr_left fun e _ => by
        show (if e.1 = t then (e.1, rwD r) else e).1 = e.1
        split <;> rfl]
      exact I.nd
    · rw [if_neg h, List.map_append, List.nodup_append]
      refine ⟨I.nd, by simp, fun a ha b hb => ?_⟩
      rw [List.map_singleton, List.mem_singleton] at hb
      rw [hb]
      exact fun z => h (by have z : a = t := z; rw [← z]; exact ha)
  ok := fun e he => by
    unfold rPut at he
    split at he
    · obtain ⟨y, hy, rfl⟩ := List.mem_map.mp he
      by_cases z : y.1 = t
      · rw [if_pos z]; exact ⟨_, _, _, rfl, f⟩
      · rw [if_neg z]; exact I.ok y hy
    · rcases List.mem_append.mp he with he | he
      · exact I.ok e he
      · rw [List.mem_singleton.mp he]; exact ⟨_, _, _, rfl, f⟩
def rowL (e : NR) : D := match e.2 with
  | .tuple [a, b, c] => .tuple [nmD e.1, a, b, c]
  | _ => .none
theorem srtN_mem {R : List NR} {e : NR} : e ∈ srtN R ↔ e ∈ R := (List.mergeSort_perm _ _).mem_iff
theorem rows_ev {st : Store} {i : Nat} {kvs : List (List Ky × D)} {ls : List D} (h : st[i]? = some (trO kvs ls)) {R : List NR} (I : RwI kvs R) (Rl : R.length ≤ 900) : d_Tree_rows [.d (obD i)] st = some (.fr (.d (.list ((srtN R).map rowL))), st) := by
  have flr : ∀ e ∈ R, Fl 5 e.2 := fun e he => by
    obtain ⟨k, o, c, e2, f⟩ := I.ok e he
    rw [e2]
    exact Fl.t (k := 4) fun x hx => by
      rcases List.mem_cons.mp hx with rfl | hx
      · exact Fl.s _
      · rcases List.mem_cons.mp hx with rfl | hx
        · exact (fl_hD o).up (by decide)
        · rw [List.mem_singleton.mp hx]; exact f
  have gs := gSortItT_nm I.nd (by omega) fun e he => ⟨pln_nod _ (flr e he).p, Nat.le_trans (flr e he).k (by decide), by
    obtain ⟨k, o, c, e2, f⟩ := I.ok e he
    rw [e2]
    cases o <;> rfl⟩
  rw [← I.eq] at gs
  have sl : (srtN R).length = R.length := (List.mergeSort_perm _ _).length_eq
  have cj := comp_map (vs := [1, 2]) (p := .t [1, 2]) (t := tYesD) (a := ce1_Tree_rows) nmItem rowL ⟨[.sh (obD i), .no, .no], st⟩ (srtN R) fun e he => by
    obtain ⟨k, o, c, e2, f⟩ := I.ok e (srtN_mem.mp he)
    have r0 : gIx (.d (.tuple [.str k, hD o, c])) (.d (.int 0)) = some (.sh (.str k)) := rfl
    have r1 : gIx (.d (.tuple [.str k, hD o, c])) (.d (.int 1)) = some (.sh (hD o)) := rfl
    have r2 : gIx (.d (.tuple [.str k, hD o, c])) (.d (.int 2)) = some (.sh c) := rfl
    have er : rowL e = .tuple [nmD e.1, .str k, hD o, c] := by unfold rowL; rw [e2]
    have ei : nmItem e = .tuple [nmD e.1, .tuple [.str k, hD o, c]] := by unfold nmItem; rw [e2]; rfl
    rw [er, ei]
    generalize hD o = od at *
    generalize nmD e.1 = x at *
    generalize hy : PyData.tuple [.str k, od, c] = y at *
    simp -implicitDefEqProofs (maxSteps := 2000000) (disch := first | omega | assumption | (simp; done) | (simp; omega)) [compStep, ce1_Tree_rows, r0, r1, r2]
  have ml : ((srtN R).map nmItem).length < 16777216 := by rw [List.length_map]; omega
  have ml2 : ((srtN R).map rowL).length < 16777216 := by rw [List.length_map]; omega
  unfold trO at h
  generalize (srtN R).map nmItem = im at *
  generalize (srtN R).map rowL = rm at *
  simp -implicitDefEqProofs (maxSteps := 2000000) (disch := first | omega | assumption | (simp; done) | (simp; omega)) [d_Tree_rows, b_Tree_rows, h, gs, cj]
theorem fl_rows {kvs : List (List Ky × D)} {R : List NR} (I : RwI kvs R) : Fl 6 (.list ((srtN R).map rowL)) := Fl.l (k := 5) fun x hx => by
  obtain ⟨e, he, rfl⟩ := List.mem_map.mp hx
  obtain ⟨k, o, c, e2, f⟩ := I.ok e (srtN_mem.mp he)
  have er : rowL e = .tuple [nmD e.1, .str k, hD o, c] := by unfold rowL; rw [e2]
  rw [er]
  exact Fl.t (k := 4) fun x hx => by
    rcases List.mem_cons.mp hx with rfl | hx
    · exact (fl_nm _).up (by decide)
    · rcases List.mem_cons.mp hx with rfl | hx
      · exact Fl.s _
      · rcases List.mem_cons.mp hx with rfl | hx
        · exact (fl_hD o).up (by decide)
        · rw [List.mem_singleton.mp hx]; exact f
def kdT (e : Nm × Str) : List Ky × D := (nmK e.1.1 e.1.2, .str e.2)
theorem pick {α : Type} {xs : List α} (f : α → D) (hx : 0 < xs.length) (x : Int) : ∃ a ∈ xs, ∃ k : Int, gMod (.d (.int x)) (.d (.int ((xs.map f).length : Nat))) = some (.sh (.int k)) ∧ atD (xs.map f) k = some (f a) := by
  have l : (((xs.map f).length : Nat) : Int) = (xs.length : Int) := by rw [List.length_map]
  have h0 := Int.emod_nonneg x (show (xs.length : Int) ≠ 0 by omega)
  have h1 := Int.emod_lt_of_pos x (show 0 < (xs.length : Int) by omega)
  obtain ⟨k, hk⟩ : ∃ k : Nat, x % (xs.length : Int) = (k : Int) := ⟨_, (Int.toNat_of_nonneg h0).symm⟩
  have kl : k < xs.length := by omega
  refine ⟨xs[k], List.getElem_mem kl, k, ?_, atD_nat (by rw [List.getElem?_map, List.getElem?_eq_getElem kl]; rfl)⟩
  rw [l, ← hk]
  exact gMod_i (by omega)
theorem kinds_all (L : List (Nm × Str)) : ((L.map kdT).all fun e => !e.1.isEmpty) = true := by
  rw [List.all_eq_true]
  intro e he
  obtain ⟨p, _, rfl⟩ := List.mem_map.mp he
  rfl
theorem kinds_list (L : List (Nm × Str)) : gListKT [.dt (L.map kdT)] = some (.fr (.d (.list ((L.map (·.1)).map nmD)))) := by
  rw [gListKT_dt _ (kinds_all L), List.map_map, List.map_map]; rfl
theorem kinds_get (L : List (Nm × Str)) {q : Nm} (hq : q ∈ L.map (·.1)) : ∃ w, aGet (L.map kdT) (nmK q.1 q.2) = some (.str w) := by
  induction L with
  | nil => cases hq
  | cons e r ih =>
    rw [List.map_cons]
    by_cases z : (kdT e).1 = nmK q.1 q.2
    · exact ⟨e.2, aGet_pos z⟩
    · rw [aGet_neg z]
      refine ih ?_
      rcases List.mem_cons.mp hq with h | h
      · exact absurd (by rw [h]; rfl) z
      · exact h
/-! a turn of the law's loop -/
def Cn (mm : List (Ky × D)) (cnt : Str → Int) : Prop := ∀ h, (aGet mm (.inr h) = none ∧ cnt h = 0) ∨ aGet mm (.inr h) = some (.int (cnt h))
theorem cn_put {mm : List (Ky × D)} {cnt : Str → Int} (H : Cn mm cnt) (h : Str) (n : Int) : Cn (aPut mm (.inr h) (.int n)) (fun x => if x = h then n else cnt x) := fun x => by
  by_cases e : x = h
  · subst e
    right
    rw [aGet_put, if_pos rfl]; simp
  · have ne : ¬ (Sum.inr x : Ky) = Sum.inr h := fun z => e (Sum.inr.inj z)
    rw [aGet_put, if_neg ne]
    simp only [e, if_false]
    exact H x
/-- the kinds' rows: the root, and names told once -/
structure KiI (L : List (Nm × Str)) (cnt : Str → Int) (hs : List Str) (k : Nat) : Prop where
  root : ∃ L', L = (rootN, ("map" : Str)) :: L' ∧ ∀ p ∈ L', p.1.1 ∈ hs ∧ 1 ≤ p.1.2 ∧ p.1.2 ≤ cnt p.1.1
  len : L.length ≤ k + 1
  nd : (L.map (·.1)).Nodup
theorem KiI.mono {L : List (Nm × Str)} {cnt cnt' : Str → Int} {hs : List Str} {k : Nat} (I : KiI L cnt hs k) (h : ∀ x, cnt x ≤ cnt' x) : KiI L cnt' hs (k + 1) := by
  obtain ⟨L', e, f⟩ := I.root
  exact ⟨⟨L', e, fun p hp => ⟨(f p hp).1, (f p hp).2.1, Int.le_trans (f p hp).2.2 (h _)⟩⟩, by have := I.len; omega, I.nd⟩
theorem KiI.fresh {L : List (Nm × Str)} {cnt : Str → Int} {hs : List Str} {k : Nat} (I : KiI L cnt hs k) {h : Str} {n : Int} (hn : cnt h < n) (h0 : 0 ≤ cnt h) : (h, n) ∉ L.map (·.1) := fun z => by
  obtain ⟨L', e, f⟩ := I.root
  rw [e, List.map_cons] at z
  rcases List.mem_cons.mp z with z | z
  · have : n = 0 := congrArg Prod.snd z
    omega
  · obtain ⟨p, hp, ep⟩ := List.mem_map.mp z
    have := (f p hp).2.2
    rw [ep] at this
    exact absurd this (by show ¬ n ≤ cnt h; omega)
theorem KiI.add {L : List (Nm × Str)} {cnt cnt' : Str → Int} {hs : List Str} {k : Nat} (I : KiI L cnt hs k) (h : ∀ x, cnt x ≤ cnt' x) {g : Str} {n : Int} {w : Str} (hg : g ∈ hs) (h1 : 1 ≤ n) (h2 : n ≤ cnt' g) (fr : (g, n) ∉ L.map (·.1)) : KiI (L ++ [((g, n), w)]) cnt' hs (k + 1) := by
  obtain ⟨L', e, f⟩ := (I.mono h).root
  refine ⟨⟨L' ++ [((g, n), w)], by rw [e]; rfl, fun p hp => ?_⟩, by rw [List.length_append, List.length_singleton]; have := I.len; omega, ?_⟩
  · rcases List.mem_append.mp hp with hp | hp
    · exact f p hp
    · rw [List.mem_singleton.mp hp]; exact ⟨hg, h1, h2⟩
  · rw [List.map_append, List.nodup_append]
    refine ⟨I.nd, by simp, fun a ha b hb => ?_⟩
    rw [List.map_singleton, List.mem_singleton] at hb
    rw [hb]
    exact fun z => fr (by have z : a = (g, n) := z; rw [← z]; exact ha)
theorem kinds_none (L : List (Nm × Str)) {q : Nm} (hq : q ∉ L.map (·.1)) : aGet (L.map kdT) (nmK q.1 q.2) = none := by
  induction L with
  | nil => rfl
  | cons e r ih =>
    rw [List.map_cons, aGet_neg (fun z => hq ?_)]
    · exact ih fun z => hq (List.mem_cons_of_mem _ z)
    · have := nmK_inj z
      rw [List.map_cons]
      exact List.mem_cons.mpr (.inl (Prod.ext this.1.symm this.2.symm))
theorem kinds_put {L : List (Nm × Str)} {h : Str} {n : Int} (fr : (h, n) ∉ L.map (·.1)) (Ll : L.length ≤ 900) (w : Str) : cPut (.dt (L.map kdT)) (.tuple [.str h, .int n]) (.str w) = some (.dt ((L ++ [((h, n), w)]).map kdT)) := by
  rw [cPut_any (by rw [List.length_map]; omega), aPut_new (kinds_none L fr), List.map_append]; rfl
/-! spots, acts, deeds (k51, k55, k57) -/
def SptF (sp : D) : Prop := (∃ w, sp = .str w) ∨ ∃ us side, sp = .tuple [.tuple us, .int side] ∧ us.length ≤ 900 ∧ ∀ u ∈ us, Fl 2 u
theorem SptF.spt {sp : D} (h : SptF sp) (nm : Nm) : ∃ sp', Spt sp nm sp' ∧ Fl 4 sp' := by
  rcases h with ⟨w, rfl⟩ | ⟨us, side, rfl, l, f⟩
  · exact ⟨_, .w w nm, Fl.s _⟩
  · refine ⟨_, .r us side nm (by omega), (Fl.t (k := 2) fun x hx => ?_).up (by decide)⟩
    rcases List.mem_append.mp hx with hx | hx
    · exact f x hx
    · rw [List.mem_singleton.mp hx]
      exact Fl.t (k := 1) fun y hy => by
        rcases List.mem_cons.mp hy with rfl | hy
        · exact Fl.i _
        · rcases List.mem_cons.mp hy with rfl | hy
          · exact Fl.s _
          · rcases List.mem_cons.mp hy with rfl | hy
            · exact Fl.i _
            · rw [List.mem_singleton.mp hy]; exact Fl.i _
theorem ten9 (r : CM.Env) : (eOp gPow (eC (.int 10)) (eC (.int 9))) r = some (Res.sh (.int 1000000000), r) := by
  simp -implicitDefEqProofs (maxSteps := 2000000) (disch := first | omega | assumption | (simp; done) | (simp; omega)) []
theorem fl_step (a : Int) (h : Str) (b c : Int) : Fl 2 (.tuple [.int a, .str h, .int b, .int c]) := Fl.t (k := 1) fun y hy => by
  rcases List.mem_cons.mp hy with rfl | hy
  · exact Fl.i _
  · rcases List.mem_cons.mp hy with rfl | hy
    · exact Fl.s _
    · rcases List.mem_cons.mp hy with rfl | hy
      · exact Fl.i _
      · rw [List.mem_singleton.mp hy]; exact Fl.i _
theorem spot_ev (x y : Int) (kind : Str) (hs : List Str) (h1 : 1 ≤ hs.length) (h2 : hs.length ≤ 6) (st : Store) : ∃ sp, SptF sp ∧ d__law_spot [.d (.int x), .d (.int y), .d (.str kind), .d (.list (hs.map PyData.str))] st = some (.sh sp, st) := by
  by_cases e : kind = "row"
  · subst e
    have kr : (("row" : Str) == "row") = true := by decide
    obtain ⟨g, hg, ig, mg, ag⟩ := pick PyData.str (show 0 < hs.length by omega) x
    obtain ⟨g', hg', ig', mg', ag'⟩ := pick PyData.str (show 0 < hs.length by omega) y
    have lh : (hs.map PyData.str).length < 1000 := by rw [List.length_map]; omega
    have d4 : gDiv (.d (.int x)) (.d (.int 4)) = some (.sh (.int (x / 4))) := gDiv_i (by decide) (by decide)
    have d64 : gDiv (.d (.int x)) (.d (.int 64)) = some (.sh (.int (x / 64))) := gDiv_i (by decide) (by decide)
    have d16 : gDiv (.d (.int y)) (.d (.int 16)) = some (.sh (.int (y / 16))) := gDiv_i (by decide) (by decide)
    have d32 : gDiv (.d (.int y)) (.d (.int 32)) = some (.sh (.int (y / 32))) := gDiv_i (by decide) (by decide)
    have d8 : gDiv (.d (.int y)) (.d (.int 8)) = some (.sh (.int (y / 8))) := gDiv_i (by decide) (by decide)
    generalize hs.map PyData.str = hm at *
    by_cases c1 : x % 4 = 0
    · exact ⟨.tuple [.tuple [], .int 1], .inr ⟨[], 1, rfl, by simp, fun u hu => by cases hu⟩, by simp -implicitDefEqProofs (maxSteps := 2000000) (disch := first | omega | assumption | (simp; done) | (simp; omega)) [d__law_spot, b__law_spot, kr, c1]⟩
    · by_cases c2 : x / 64 % 2 = 0
      · refine ⟨.tuple [.tuple [.tuple [.int 1, .str g, .int (1 + x / 4 % 9), .int (y % 12)], .tuple [.int (y / 16 % 2 * 2 - 1), .str g', .int (1 + y / 32 % 1000000000), .int 0]], .int (y / 8 % 2 * 2 - 1)], .inr ⟨_, _, rfl, by simp, fun u hu => ?_⟩, ?_⟩
        · rcases List.mem_cons.mp hu with rfl | hu
          · exact fl_step _ _ _ _
          · rw [List.mem_singleton.mp hu]; exact fl_step _ _ _ _
        · simp -implicitDefEqProofs (maxSteps := 2000000) (disch := first | omega | assumption | (simp; done) | (simp; omega)) [d__law_spot, b__law_spot, ↓ten9, kr, c1, c2, mg, ag, mg', ag', d4, d64, d16, d32, d8]
      · refine ⟨.tuple [.tuple [.tuple [.int 1, .str g, .int (1 + x / 4 % 9), .int (y % 12)]], .int (y / 8 % 2 * 2 - 1)], .inr ⟨_, _, rfl, by simp, fun u hu => ?_⟩, ?_⟩
        · rw [List.mem_singleton.mp hu]; exact fl_step _ _ _ _
        · simp -implicitDefEqProofs (maxSteps := 2000000) (disch := first | omega | assumption | (simp; done) | (simp; omega)) [d__law_spot, b__law_spot, ↓ten9, kr, c1, c2, mg, ag, d4, d64, d8]
  · have kr : (kind == ("row" : Str)) = false := by rw [Bool.eq_false_iff]; exact fun z => e (beq_iff_eq.mp z)
    have z1 := alpha_size
    generalize hs1 : str1 = s1 at *
    have let0 : ∀ k : Int, ∃ d, atD s1.cps.toList (k % 26) = some d := fun k => str_at (i := k) z1 (by decide)
    obtain ⟨G, hG⟩ : ∃ G : Int → Nat, ∀ k, atD s1.cps.toList (k % 26) = some (G k) := ⟨fun k => Classical.choose (let0 k), fun k => Classical.choose_spec (let0 k)⟩
    have sz : s1.cps.size ≤ 16777216 := by omega
    have m0 := Int.emod_nonneg y (show (12 : Int) ≠ 0 by decide)
    have m1 := Int.emod_lt_of_pos y (show (0 : Int) < 12 by decide)
    obtain ⟨n, hn⟩ : ∃ n : Nat, 1 + y % 12 = n := ⟨_, (Int.toNat_of_nonneg (by omega)).symm⟩
    have cj := comp_rg (vs := [7]) (p := .v 7) (t := tYesD) (a := ce1__law_spot) (fun k => PyData.str ⟨#[G (x + (k : Int) * (y % 7))]⟩) ⟨[.sh (.int x), .sh (.int y), .sh (.str kind), .bo (.d (.list (hs.map PyData.str))), .sh (.str s1), .no, .no, .no], st⟩ n fun k hk => by
      have g := hG (x + (k : Int) * (y % 7))
      generalize hs.map PyData.str = hm at *
      simp -implicitDefEqProofs (maxSteps := 2000000) (disch := first | omega | assumption | (simp; done) | (simp; omega)) [compStep, ce1__law_spot, g]
    have em : ((List.range n).map fun (k : Nat) => PyData.str ⟨#[G (x + (k : Int) * (y % 7))]⟩) = ((List.range n).map fun (k : Nat) => (⟨#[G (x + (k : Int) * (y % 7))]⟩ : Str)).map PyData.str := by rw [List.map_map]; rfl
    rw [em] at cj
    have y1 : ∀ z ∈ (List.range n).map fun (k : Nat) => (⟨#[G (x + (k : Int) * (y % 7))]⟩ : Str), z.cps.size = 1 := fun z hz => by
      obtain ⟨k, _, rfl⟩ := List.mem_map.mp hz
      rfl
    have yl : ((List.range n).map fun (k : Nat) => (⟨#[G (x + (k : Int) * (y % 7))]⟩ : Str)).length = n := by rw [List.length_map, List.length_range]
    generalize ((List.range n).map fun (k : Nat) => (⟨#[G (x + (k : Int) * (y % 7))]⟩ : Str)) = ys at *
    have jn := gJoin_map (sep := "") (ys := ys) (by
      have : ∀ l : List Str, (∀ y ∈ l, y.cps.size = 1) → (l.map (·.length)).sum = l.length := fun l => by
        induction l with
        | nil => intro _; rfl
        | cons a r ih =>
          intro h
          rw [List.map_cons, List.sum_cons, ih fun y hy => h y (List.mem_cons_of_mem _ hy), List.length_cons]
          have : a.length = 1 := h a List.mem_cons_self
          omega
      rw [this ys y1, yl]
      have e : ("" : Str).length = 0 := by decide
      rw [e]; omega)
    have rk : rg1K (n : Int) = some (rgD 0 n) := by
      have := rg1K_ok (j := (n : Int)) (by omega)
      rw [this]; congr 2
    have yl2 : (ys.map PyData.str).length < 1000 := by rw [List.length_map]; omega
    have rk2 : rgD 0 (n : Int).toNat = rgD 0 n := rfl
    refine ⟨_, .inl ⟨Txt.join "" ys, rfl⟩, ?_⟩
    generalize ys.map PyData.str = ym at *
    generalize hs.map PyData.str = hm at *
    simp -implicitDefEqProofs (maxSteps := 2000000) (disch := first | omega | assumption | (simp; done) | (simp; omega)) [d__law_spot, b__law_spot, hs1, kr, hn, rk, rk2, cj, jn]
inductive ActF : D → Prop
  | mv (t q : Nm) (sp : D) : SptF sp → ActF (.tuple [.str "move", nmD t, nmD q, sp])
  | mk (k : Str) (q : Nm) (sp : D) : SptF sp → ActF (.tuple [.str "make", .str k, nmD q, sp])
  | dr (t : Nm) : ActF (.tuple [.str "drop", nmD t])
theorem kind8 (x : Int) : ∃ kw : Str, atD [PyData.str "map", .str "row", .str "map", .str "row", .str "count", .str "choice", .str "bag", .str "text"] (x % 8) = some (.str kw) := by
  have h0 := Int.emod_nonneg x (show (8 : Int) ≠ 0 by decide)
  have h1 := Int.emod_lt_of_pos x (show (0 : Int) < 8 by decide)
  have : x % 8 = 0 ∨ x % 8 = 1 ∨ x % 8 = 2 ∨ x % 8 = 3 ∨ x % 8 = 4 ∨ x % 8 = 5 ∨ x % 8 = 6 ∨ x % 8 = 7 := by omega
  rcases this with e | e | e | e | e | e | e | e <;> rw [e] <;> exact ⟨_, rfl⟩
theorem at6 {xs : List Int} (xl : 6 ≤ xs.length) : ∃ x0 x1 x2 x3 x4 x5 : Int, atD (xs.map PyData.int) 0 = some (.int x0) ∧ atD (xs.map PyData.int) 1 = some (.int x1) ∧ atD (xs.map PyData.int) 2 = some (.int x2) ∧ atD (xs.map PyData.int) 3 = some (.int x3) ∧ atD (xs.map PyData.int) 4 = some (.int x4) ∧ atD (xs.map PyData.int) 5 = some (.int x5) := by
  have at_ : ∀ j : Nat, j < 6 → ∃ x : Int, atD (xs.map PyData.int) (j : Int) = some (.int x) := fun j hj => ⟨xs[j], atD_nat (by rw [List.getElem?_map, List.getElem?_eq_getElem (by omega)]; rfl)⟩
  obtain ⟨x0, a0⟩ := at_ 0 (by decide)
  obtain ⟨x1, a1⟩ := at_ 1 (by decide)
  obtain ⟨x2, a2⟩ := at_ 2 (by decide)
  obtain ⟨x3, a3⟩ := at_ 3 (by decide)
  obtain ⟨x4, a4⟩ := at_ 4 (by decide)
  obtain ⟨x5, a5⟩ := at_ 5 (by decide)
  exact ⟨x0, x1, x2, x3, x4, x5, a0, a1, a2, a3, a4, a5⟩
/-- the deeds told -/
structure TDd where
  nm : Nm
  sn : D
  act : D
def TDd.d (x : TDd) : D := .tuple [nmD x.nm, x.sn, x.act]
def cntT (rs : List TDd) (h : Str) : Nat := (rs.filter fun x => decide (x.nm.1 = h)).length
theorem cntT_app (rs : List TDd) (x : TDd) (h : Str) : cntT (rs ++ [x]) h = cntT rs h + if x.nm.1 = h then 1 else 0 := by
  unfold cntT
  rw [List.filter_append, List.length_append, List.filter_cons]
  by_cases e : x.nm.1 = h
  · rw [if_pos (decide_eq_true e), if_pos e]; rfl
  · rw [if_neg (by rw [decide_eq_false e]; decide), if_neg e]; rfl
structure DdOk (rs : List TDd) : Prop where
  nd : (rs.map (·.nm)).Nodup
  no : ∀ x ∈ rs, 1 ≤ x.nm.2 ∧ x.nm.2 ≤ (cntT rs x.nm.1 : Int)
  act : ∀ x ∈ rs, ActF x.act
theorem DdOk.add {rs : List TDd} (O : DdOk rs) (h : Str) (sn act : D) (a : ActF act) : DdOk (rs ++ [⟨(h, 1 + (cntT rs h : Int)), sn, act⟩]) ∧ (h, 1 + (cntT rs h : Int)) ∉ rs.map (·.nm) := by
  have fr : (h, 1 + (cntT rs h : Int)) ∉ rs.map (·.nm) := fun z => by
    obtain ⟨x, hx, e⟩ := List.mem_map.mp z
    have := (O.no x hx).2
    rw [e] at this
    simp at this
    omega
  refine ⟨⟨?_, fun x hx => ?_, fun x hx => ?_⟩, fr⟩
  · rw [List.map_append, List.nodup_append]
    refine ⟨O.nd, by simp, fun a ha b hb => ?_⟩
    rw [List.map_singleton, List.mem_singleton] at hb
    rw [hb]
    exact fun z => fr (by have z : a = (h, 1 + (cntT rs h : Int)) := z; rw [← z]; exact ha)
  · rw [cntT_app]
    rcases List.mem_append.mp hx with hx | hx
    · have := O.no x hx
      split <;> omega
    · rw [List.mem_singleton.mp hx]
      simp
      omega
  · rcases List.mem_append.mp hx with hx | hx
    · exact O.act x hx
    · rw [List.mem_singleton.mp hx]; exact a
theorem act_ev (xs : List Int) (xl : xs.length = 6) (L : List (Nm × Str)) (hL : 0 < L.length) (hl : L.length ≤ 100) (hs : List Str) (h1 : 1 ≤ hs.length) (h2 : hs.length ≤ 6) (st : Store) : ∃ act, ActF act ∧ d__law_act [.d (.list (xs.map PyData.int)), .dt (L.map kdT), .d (.list (hs.map PyData.str))] st = some (.sh act, st) := by
  obtain ⟨x0, x1, x2, x3, x4, x5, a0, a1, a2, a3, a4, a5⟩ := at6 (xs := xs) (by omega)
  have gl := kinds_list L
  have gll : ((L.map (·.1)).map nmD).length < 1000 := by simp; omega
  have nl : 0 < (L.map (·.1)).length := by rw [List.length_map]; exact hL
  obtain ⟨t, tm, kt, gt, at1⟩ := pick nmD nl x2
  obtain ⟨q, qm, kq, gq, aq⟩ := pick nmD nl x3
  obtain ⟨hk, gk⟩ := kinds_get L qm
  have gc : cGet (.dt (L.map kdT)) (nmD q) = some (some (.str hk)) := by
    show some (aGet (L.map kdT) (nmK q.1 q.2)) = _
    rw [gk]
  obtain ⟨sp, hsp, es⟩ := spot_ev x4 x5 hk hs h1 h2 st
  obtain ⟨kw, ak⟩ := kind8 x2
  by_cases c1 : x1 % 8 < 3
  · refine ⟨_, .mk kw q sp hsp, ?_⟩
    generalize xs.map PyData.int = xm at *
    generalize hs.map PyData.str = hm at *
    generalize (L.map (·.1)).map nmD = NL at *
    generalize L.map kdT = kv at *
    generalize nmD t = td at *
    generalize nmD q = qd at *
    simp -implicitDefEqProofs (maxSteps := 2000000) (disch := first | omega | assumption | (simp; done) | (simp; omega)) [d__law_act, b__law_act, gl, a0, a1, a2, a3, a4, a5, gt, at1, gq, aq, gc, es, c1, ak]
  · by_cases c2 : x1 % 8 < 7
    · refine ⟨_, .mv t q sp hsp, ?_⟩
      generalize xs.map PyData.int = xm at *
      generalize hs.map PyData.str = hm at *
      generalize (L.map (·.1)).map nmD = NL at *
      generalize L.map kdT = kv at *
      generalize nmD t = td at *
      generalize nmD q = qd at *
      simp -implicitDefEqProofs (maxSteps := 2000000) (disch := first | omega | assumption | (simp; done) | (simp; omega)) [d__law_act, b__law_act, gl, a0, a1, a2, a3, a4, a5, gt, at1, gq, aq, gc, es, c1, c2]
    · refine ⟨_, .dr t, ?_⟩
      generalize xs.map PyData.int = xm at *
      generalize hs.map PyData.str = hm at *
      generalize (L.map (·.1)).map nmD = NL at *
      generalize L.map kdT = kv at *
      generalize nmD t = td at *
      generalize nmD q = qd at *
      simp -implicitDefEqProofs (maxSteps := 2000000) (disch := first | omega | assumption | (simp; done) | (simp; omega)) [d__law_act, b__law_act, gl, a0, a1, a2, a3, a4, a5, gt, at1, gq, aq, gc, es, c1, c2]
/-! the deeds of the cells -/
theorem td_0 (x : TDd) : gIx (.d x.d) (.d (.int 0)) = some (.sh (nmD x.nm)) := rfl
theorem td_2 (x : TDd) : gIx (.d x.d) (.d (.int 2)) = some (.sh x.act) := rfl
theorem nm_0 (p : Nm) : gIx (.d (nmD p)) (.d (.int 0)) = some (.sh (.str p.1)) := rfl
theorem nm_1 (p : Nm) : gIx (.d (nmD p)) (.d (.int 1)) = some (.sh (.int p.2)) := rfl
theorem seq_b (a b : Str) : (a == b) = decide (a = b) := by rw [Bool.eq_iff_iff, beq_iff_eq, decide_eq_true_iff]
def IDd (cn : List D) (hs : List Str) (st : Store) (k : Nat) (r : CM.Env) : Prop := ∃ (L : List (Nm × Str)) (rs : List TDd) (s4 s5 s6 s7 s8 s9 s10 : CM.Slot), r = ⟨[.bo (.d (.list cn)), .bo (.d (.list (hs.map PyData.str))), .ow (.dt (L.map kdT)), .ow (.d (.list (rs.map TDd.d))), s4, s5, s6, s7, s8, s9, .no], st⟩ ∧ DdOk rs ∧ rs.length = k ∧ 0 < L.length ∧ L.length ≤ k + 1 ∧ (∀ x ∈ L.map (·.1), x = rootN ∨ x ∈ rs.map (·.nm))
theorem dd_turn (cn : List D) (hs : List Str) (h1 : 1 ≤ hs.length) (h2 : hs.length ≤ 6) (st : Store) (k : Nat) (kl : k ≤ 60) (r : CM.Env) (x : Int) (hi : IDd cn hs st k r) : ∃ r2, (bindP (.v 4) (.int x) r).bind l1__law_deeds = some (.nx, r2) ∧ IDd cn hs st (k + 1) r2 := by
  obtain ⟨L, rs, s4, s5, s6, s7, s8, s9, s10, rfl, O, rl, L0, Ll, Ln⟩ := hi
  obtain ⟨xs, xl, xp, es⟩ := stream_ev x 6 (by decide) st
  have es : d__law_stream [.d (.int x), .d (.int 6)] st = some (.fr (.d (.list (xs.map PyData.int))), st) := es
  obtain ⟨x0, x1, x2, x3, x4, x5, a0, _⟩ := at6 (xs := xs) (by omega)
  obtain ⟨h, hh, ix, gx, ax⟩ := pick PyData.str (show 0 < hs.length by omega) x0
  obtain ⟨act, af, ea⟩ := act_ev xs xl L L0 (by omega) hs h1 h2 st
  obtain ⟨sn, hsn⟩ : ∃ sn : D, sn = (if 1 < 1 + (cntT rs h : Int) then .tuple [.tuple [.str h, .int (1 + (cntT rs h : Int) - 1)]] else .tuple []) := ⟨_, rfl⟩
  obtain ⟨O', fr⟩ := O.add h sn act af
  have frL : (h, 1 + (cntT rs h : Int)) ∉ L.map (·.1) := fun z => by
    rcases Ln _ z with e | e
    · have : 1 + (cntT rs h : Int) = 0 := congrArg Prod.snd e
      omega
    · exact fr e
  have cf := fun s7 s8 s9 => comp_flt (vs := [10]) (p := .v 10) (t := ct1__law_deeds) (a := ce1__law_deeds) TDd.d (fun y => decide (y.nm.1 = h)) TDd.d ⟨[.bo (.d (.list cn)), .bo (.d (.list (hs.map PyData.str))), .ow (.dt (L.map kdT)), .lk (.d (.list (rs.map TDd.d))), .sh (.int x), .ow (.d (.list (xs.map PyData.int))), .sh (.str h), s7, s8, s9, .no], st⟩ rs fun y _ => by
    have t0 := td_0 y
    have n0 := nm_0 y.nm
    have sb := seq_b y.nm.1 h
    generalize rs.map TDd.d = rm at *
    generalize hs.map PyData.str = hm at *
    generalize xs.map PyData.int = xm at *
    generalize L.map kdT = kv at *
    generalize nmD y.nm = nd at *
    generalize y.d = yd at *
    by_cases e : y.nm.1 = h
    · rw [decide_eq_true e] at sb
      rw [decide_eq_true e, if_pos rfl]
      simp -implicitDefEqProofs (maxSteps := 2000000) (disch := first | omega | assumption | (simp; done) | (simp; omega)) [compStep, ct1__law_deeds, ce1__law_deeds, t0, n0, sb]
    · rw [decide_eq_false e] at sb
      rw [decide_eq_false e, if_neg (by decide)]
      simp -implicitDefEqProofs (maxSteps := 2000000) (disch := first | omega | assumption | (simp; done) | (simp; omega)) [compStep, ct1__law_deeds, ce1__law_deeds, t0, n0, sb]
  have cl : ((((rs.filter fun y => decide (y.nm.1 = h)).map TDd.d).length : Nat) : Int) = (cntT rs h : Int) := by rw [List.length_map]; rfl
  have clb : ((rs.filter fun y => decide (y.nm.1 = h)).map TDd.d).length < 1000 := by
    rw [List.length_map]
    have := List.length_filter_le (fun y : TDd => decide (y.nm.1 = h)) rs
    omega
  have rlb : (rs.map TDd.d).length < 1000 := by rw [List.length_map]; omega
  have ma : (rs ++ [TDd.mk (h, 1 + (cntT rs h : Int)) sn act]).map TDd.d = rs.map TDd.d ++ [.tuple [.tuple [.str h, .int (1 + (cntT rs h : Int))], sn, act]] := by rw [List.map_append]; rfl
  have c0 : (0 : Int) ≤ (cntT rs h : Int) := Int.natCast_nonneg _
  have lhs : (hs.map PyData.str).length < 1000 := by rw [List.length_map]; omega
  have cn' : ∃ v rest, act = .tuple (.str v :: rest) := by cases af <;> exact ⟨_, _, rfl⟩
  have mkk : (∃ w q sp, act = .tuple [.str "make", .str w, q, sp]) ∨ ∃ v rest, act = .tuple (.str v :: rest) ∧ v ≠ "make" := by
    cases af with
    | mv t q sp _ => exact .inr ⟨_, _, rfl, by decide⟩
    | mk k q sp _ => exact .inl ⟨_, _, _, rfl⟩
    | dr t => exact .inr ⟨_, _, rfl, by decide⟩
  clear cn'
  have Ln' : ∀ y ∈ L.map (·.1), y = rootN ∨ y ∈ (rs ++ [TDd.mk (h, 1 + (cntT rs h : Int)) sn act]).map (·.nm) := fun y hy => (Ln y hy).imp id fun z => by rw [List.map_append]; exact List.mem_append_left _ z
  rcases mkk with ⟨w, q, sp, rfl⟩ | ⟨v, rest, rfl, vne⟩
  · have kp := kinds_put frL (by omega) w
    refine ⟨_, ?_, L ++ [((h, 1 + (cntT rs h : Int)), w)], _, .sh (.int x), .ow (.d (.list (xs.map PyData.int))), .sh (.str h), .sh (.tuple [.str h, .int (1 + (cntT rs h : Int))]), .sh sn, .sh (.tuple [.str "make", .str w, q, sp]), .no, rfl, O', by simp; omega, by simp, by simp; omega, fun y hy => ?_⟩
    · have j0 : gIx (.d (.tuple [.str "make", .str w, q, sp])) (.d (.int 0)) = some (.sh (.str "make")) := rfl
      have j1 : gIx (.d (.tuple [.str "make", .str w, q, sp])) (.d (.int 1)) = some (.sh (.str w)) := rfl
      rw [ma]
      generalize (L ++ [((h, 1 + (cntT rs h : Int)), w)]).map kdT = kv2 at *
      generalize L.map kdT = kv at *
      generalize PyData.tuple [.str "make", .str w, q, sp] = ac at *
      generalize (rs.filter fun y => decide (y.nm.1 = h)).map TDd.d = fm at *
      generalize rs.map TDd.d = rm at *
      generalize hs.map PyData.str = hm at *
      generalize xs.map PyData.int = xm at *
      generalize (cntT rs h : Int) = c at *
      by_cases c1 : 1 < 1 + c
      · rw [if_pos c1] at hsn
        subst hsn
        simp -implicitDefEqProofs (maxSteps := 2000000) (disch := first | omega | assumption | (simp; done) | (simp; omega)) [l1__law_deeds, es, a0, gx, ax, cf, cl, ea, c1, j0, j1, kp]
      · rw [if_neg c1] at hsn
        subst hsn
        simp -implicitDefEqProofs (maxSteps := 2000000) (disch := first | omega | assumption | (simp; done) | (simp; omega)) [l1__law_deeds, es, a0, gx, ax, cf, cl, ea, c1, j0, j1, kp]
    · rw [List.map_append] at hy
      rcases List.mem_append.mp hy with hy | hy
      · exact Ln' y hy
      · rw [List.map_singleton, List.mem_singleton] at hy
        rw [hy]
        right
        simp
  · have vb : (v == ("make" : Str)) = false := by rw [Bool.eq_false_iff]; exact fun z => vne (beq_iff_eq.mp z)
    refine ⟨_, ?_, L, _, .sh (.int x), .ow (.d (.list (xs.map PyData.int))), .sh (.str h), .sh (.tuple [.str h, .int (1 + (cntT rs h : Int))]), .sh sn, .sh (.tuple (.str v :: rest)), .no, rfl, O', by simp; omega, L0, by omega, Ln'⟩
    have j0 : gIx (.d (.tuple (.str v :: rest))) (.d (.int 0)) = some (.sh (.str v)) := by
      show (atD (PyData.str v :: rest) 0).bind _ = _
      rw [at0]; rfl
    rw [ma]
    generalize L.map kdT = kv at *
    generalize PyData.tuple (.str v :: rest) = ac at *
    generalize (rs.filter fun y => decide (y.nm.1 = h)).map TDd.d = fm at *
    generalize rs.map TDd.d = rm at *
    generalize hs.map PyData.str = hm at *
    generalize xs.map PyData.int = xm at *
    generalize (cntT rs h : Int) = c at *
    by_cases c1 : 1 < 1 + c
    · rw [if_pos c1] at hsn
      subst hsn
      simp -implicitDefEqProofs (maxSteps := 2000000) (disch := first | omega | assumption | (simp; done) | (simp; omega)) [l1__law_deeds, es, a0, gx, ax, cf, cl, ea, c1, j0, vb]
    · rw [if_neg c1] at hsn
      subst hsn
      simp -implicitDefEqProofs (maxSteps := 2000000) (disch := first | omega | assumption | (simp; done) | (simp; omega)) [l1__law_deeds, es, a0, gx, ax, cf, cl, ea, c1, j0, vb]
theorem deeds_ev (cs : List Int) (hc : cs.length ≤ 60) (hs : List Str) (h1 : 1 ≤ hs.length) (h2 : hs.length ≤ 6) (st : Store) : ∃ rs : List TDd, DdOk rs ∧ rs.length = cs.length ∧ d__law_deeds [.d (.list (cs.map PyData.int)), .d (.list (hs.map PyData.str))] st = some (.fr (.d (.list (rs.map TDd.d))), st) := by
  obtain ⟨r, f, L, rs, s4, s5, s6, s7, s8, s9, s10, rfl, O, rl, _⟩ := for_inv (p := .v 4) (f := l1__law_deeds) PyData.int (IDd (cs.map PyData.int) hs st) cs
    ⟨[.bo (.d (.list (cs.map PyData.int))), .bo (.d (.list (hs.map PyData.str))), .ow (.dt ([(rootN, ("map" : Str))].map kdT)), .ow (.d (.list [])), .no, .no, .no, .no, .no, .no, .no], st⟩
    ⟨_, [], .no, .no, .no, .no, .no, .no, .no, rfl, ⟨by simp, (fun x hx => by cases hx), (fun x hx => by cases hx)⟩, rfl, by simp, by simp, fun x hx => .inl (by simpa using hx)⟩
    fun k r x hi e => dd_turn (cs.map PyData.int) hs h1 h2 st k (by have := (List.getElem?_eq_some_iff.mp e).1; omega) r x hi
  refine ⟨rs, O, rl, ?_⟩
  have kr : [(rootN, ("map" : Str))].map kdT = [(nmK "" 0, .str "map")] := rfl
  rw [kr] at f
  have cl : (cs.map PyData.int).length < 1000 := by rw [List.length_map]; omega
  generalize rs.map TDd.d = rm at *
  generalize L.map kdT = kv at *
  generalize cs.map PyData.int = cm at *
  generalize hs.map PyData.str = hm at *
  simp -implicitDefEqProofs (maxSteps := 2000000) (disch := first | omega | assumption | (simp; done) | (simp; omega)) [d__law_deeds, b__law_deeds, f]
/-! hearing a deed told: what is done (k51, k55, k57) -/
inductive Done (x : TDd) (S : Tb) : Nm → Rw → Prop
  | mk (k : Str) (q : Nm) (sp sp' : D) : x.act = .tuple [.str "make", .str k, nmD q, sp] → Spt sp x.nm sp' → Fl 4 sp' → Done x S x.nm (k, some q, sp')
  | mv (t q : Nm) (r : Rw) (sp sp' : D) : x.act = .tuple [.str "move", nmD t, nmD q, sp] → S t = some r → Spt sp x.nm sp' → Fl 4 sp' → Done x S t (r.1, some q, sp')
  | dr (t : Nm) (r : Rw) : x.act = .tuple [.str "drop", nmD t] → S t = some r → Done x S t (r.1, none, .none)
theorem Done.fl {x : TDd} {S : Tb} {t : Nm} {r : Rw} (h : Done x S t r) : Fl 4 r.2.2 := by
  cases h with
  | mk k q sp sp' _ _ f => exact f
  | mv t q r sp sp' _ _ _ f => exact f
  | dr t r _ _ => exact Fl.n
theorem Done.dom {x : TDd} {S : Tb} {t : Nm} {r : Rw} (h : Done x S t r) : t = x.nm ∨ S t ≠ none := by
  cases h with
  | mk k q sp sp' _ _ f => exact .inl rfl
  | mv t q r sp sp' _ e _ f => exact .inr (by rw [e]; exact fun z => by cases z)
  | dr t r _ e => exact .inr (by rw [e]; exact fun z => by cases z)
theorem hear_step {st : Store} {i : Nat} {kvs : List (List Ky × D)} {ls : List D} {S : Tb} {R : List NR} (T : TS st i kvs ls S) (I : RwI kvs R) (kl : kvs.length ≤ 900) (ll : ls.length ≤ 900) {N : List Nm} (hN : ∀ x, S x ≠ none → x ∈ N) (nl : N.length ≤ 900) (x : TDd) (fr : S x.nm = none) (nr : x.nm ≠ rootN) (a : ActF x.act) :
    ∃ wd st' kvs' ls' S' R', d_Tree_hear [.d (obD i), .d x.d] st = some (.sh (.str wd), st') ∧ TS st' i kvs' ls' S' ∧ RwI kvs' R' ∧ kvs'.length ≤ kvs.length + 1 ∧ ls'.length ≤ ls.length + 1 ∧ (∀ j, j ≠ i → st'[j]? = st[j]?) ∧
      ((wd = "done" ∧ ∃ t row, Done x S t row ∧ S' = sPut S t row ∧ R' = rPut R t (rwD row) ∧ ls' = ls) ∨ (wd ≠ "done" ∧ S' = S ∧ R' = R ∧ kvs' = kvs ∧ ((wd = "idle" ∧ ls' = ls ∧ st' = st) ∨ (wd = "lost" ∧ ls' = ls ++ [nmD x.nm] ∧ ∃ t q sp, x.act = .tuple [.str "move", nmD t, nmD q, sp])))) := by
  obtain ⟨nm, sn, act⟩ := x
  have a : ActF act := a
  cases a with
  | mv t q sp hsp =>
    obtain ⟨sp', s, f⟩ := hsp.spt nm
    obtain ⟨wd, st', kvs', ls', S', res, e, T', k', ot, wk, o⟩ := ts_move T kl ll hN nl nm t q sn s
    rcases o with ⟨_, rfl, rfl, rfl, rfl, rfl⟩ | ⟨r, h, o⟩
    · exact ⟨_, _, _, _, _, R, e, T', I, k', by omega, ot, .inr ⟨by decide, rfl, rfl, rfl, .inl ⟨rfl, rfl, rfl⟩⟩⟩
    · rcases o with ⟨_, rfl, rfl, rfl, rfl, rfl⟩ | ⟨_, _, rfl, rfl, rfl, rfl⟩ | ⟨_, _, rfl, rfl, rfl, rfl⟩
      · exact ⟨_, _, _, _, _, R, e, T', I, k', by omega, ot, .inr ⟨by decide, rfl, rfl, rfl, .inl ⟨rfl, rfl, rfl⟩⟩⟩
      · exact ⟨_, _, _, _, _, _, e, T', I.put t (r.1, some q, sp') f, k', by omega, ot, .inl ⟨rfl, t, _, .mv t q r sp sp' rfl h s f, rfl, rfl, rfl⟩⟩
      · exact ⟨_, _, _, _, _, R, e, T', I, k', by rw [List.length_append, List.length_singleton]; omega, ot, .inr ⟨by decide, rfl, rfl, rfl, .inr ⟨rfl, rfl, t, q, sp, rfl⟩⟩⟩
  | mk k q sp hsp =>
    obtain ⟨sp', s, f⟩ := hsp.spt nm
    obtain ⟨wd, st', kvs', S', e, T', k', ot, o⟩ := ts_make T kl nm q sn k s fr nr
    rcases o with ⟨_, rfl, rfl, rfl⟩ | ⟨_, rfl, rfl, rfl, rfl⟩
    · exact ⟨_, _, _, _, _, _, e, T', I.put nm (k, some q, sp') f, k', by omega, ot, .inl ⟨rfl, nm, _, .mk k q sp sp' rfl s f, rfl, rfl, rfl⟩⟩
    · exact ⟨_, _, _, _, _, R, e, T', I, k', by omega, ot, .inr ⟨by decide, rfl, rfl, rfl, .inl ⟨rfl, rfl, rfl⟩⟩⟩
  | dr t =>
    obtain ⟨wd, st', kvs', S', e, T', k', ot, o⟩ := ts_drop T kl nm t sn
    rcases o with ⟨r, h, rfl, rfl, rfl⟩ | ⟨_, rfl, rfl, rfl, rfl⟩
    · exact ⟨_, _, _, _, _, _, e, T', I.put t (r.1, none, .none) Fl.n, k', by omega, ot, .inl ⟨rfl, t, _, .dr t r rfl h, rfl, rfl, rfl⟩⟩
    · exact ⟨_, _, _, _, _, R, e, T', I, k', by omega, ot, .inr ⟨by decide, rfl, rfl, rfl, .inl ⟨rfl, rfl, rfl⟩⟩⟩
/-- a deed's name is not yet in the tree -/
theorem name_new {rs : List TDd} (O : DdOk rs) {k : Nat} {x : TDd} (e : rs[k]? = some x) : x.nm ∉ (rs.take k).map (·.nm) := fun z => by
  obtain ⟨y, hy, ey⟩ := List.mem_map.mp z
  obtain ⟨i, hi⟩ := List.mem_iff_getElem?.mp hy
  rw [List.getElem?_take] at hi
  split at hi
  · rename_i l
    have h1 : (rs.map (·.nm))[i]? = some y.nm := by rw [List.getElem?_map, hi]; rfl
    have h2 : (rs.map (·.nm))[k]? = some x.nm := by rw [List.getElem?_map, e]; rfl
    rw [ey] at h1
    have := (List.getElem?_inj (List.getElem?_eq_some_iff.mp h1).1 O.nd).mp (h1.trans h2.symm)
    omega
  · cases hi
theorem take_succ {rs : List TDd} {k : Nat} {x : TDd} (e : rs[k]? = some x) : (rs.take (k + 1)).map (·.nm) = (rs.take k).map (·.nm) ++ [x.nm] := by
  rw [List.take_add_one, e, List.map_append]; rfl
/-! the law's own table (k55) -/
def gD (e : NR) : NR := (e.1, rowL e)
def dueD (R : List NR) : List (List Ky × D) := (R.map gD).map nmRow
theorem rPut_g (R : List NR) (t : Nm) (r : Rw) : rPut (R.map gD) t (rowL (t, rwD r)) = (rPut R t (rwD r)).map gD := by
  unfold rPut
  have e : (R.map gD).map (·.1) = R.map (·.1) := by rw [List.map_map]; rfl
  rw [e]
  by_cases h : t ∈ R.map (·.1)
  · rw [if_pos h, if_pos h, List.map_map, List.map_map]
    refine List.map_congr_left fun x _ => ?_
    show (if (gD x).1 = t then ((gD x).1, rowL (t, rwD r)) else gD x) = gD (if x.1 = t then (x.1, rwD r) else x)
    by_cases z : x.1 = t
    · rw [if_pos z, if_pos (show (gD x).1 = t from z)]
      show (x.1, rowL (t, rwD r)) = (x.1, rowL (x.1, rwD r))
      rw [z]
    · rw [if_neg z, if_neg (show ¬ (gD x).1 = t from z)]
  · rw [if_neg h, if_neg h, List.map_append]; rfl
theorem dueD_put (R : List NR) (t : Nm) (r : Rw) : aPut (dueD R) (nmK t.1 t.2) (rowL (t, rwD r)) = dueD (rPut R t (rwD r)) := by
  unfold dueD
  rw [aPut_nmRow, rPut_g]
theorem dueD_get {kvs : List (List Ky × D)} {R : List NR} (I : RwI kvs R) (t : Nm) : aGet (dueD R) (nmK t.1 t.2) = (aGet kvs (nmK t.1 t.2)).map fun v => rowL (t, v) := by
  rw [I.eq]
  unfold dueD
  clear I
  induction R with
  | nil => rfl
  | cons e r ih =>
    rw [List.map_cons, List.map_cons, List.map_cons]
    by_cases z : e.1 = t
    · rw [aGet_pos (e := nmRow (gD e)) (show nmK e.1.1 e.1.2 = nmK t.1 t.2 by rw [z]), aGet_pos (e := nmRow e) (show nmK e.1.1 e.1.2 = nmK t.1 t.2 by rw [z])]
      show some (rowL e) = some (rowL (t, e.2))
      rw [← z]
    · rw [aGet_neg (e := nmRow (gD e)) (show ¬ nmK e.1.1 e.1.2 = nmK t.1 t.2 from nmK_ne z), aGet_neg (e := nmRow e) (show ¬ nmK e.1.1 e.1.2 = nmK t.1 t.2 from nmK_ne z)]
      exact ih
theorem bxAt_same {st st' : Store} {n : Nat} (h : st'[n]? = st[n]?) : bxAt st' n = bxAt st n := by
  unfold bxAt fldAt
  rw [h]
theorem bxPut_ne {st : Store} {i j : Nat} {c : C} (ne : i ≠ j) : (bxPut st i c)[j]? = st[j]? := by
  unfold bxPut
  rw [stPut_at]
  cases st[j]? with
  | none => rfl
  | some o => rw [Option.map_some, if_neg ne]
theorem rPut_len (R : List NR) (t : Nm) (v : D) : (rPut R t v).length ≤ R.length + 1 := by
  unfold rPut
  split <;> simp
theorem put_ev {st : Store} {kvs : List (List Ky × D)} {S : Tb} {R : List NR} (K : Tk kvs S) (I : RwI kvs R) (Rl : R.length ≤ 900) (b : bxAt st 1 = some (.dt (dueD R))) (x : TDd) {t : Nm} {row : Rw} (dn : Done x S t row) : d__law_put [.d (bxD 1), .d x.d] st = some (.sh .none, bxPut st 1 (.dt (dueD (rPut R t (rwD row))))) := by
  have dl : (dueD R).length < 1000 := by unfold dueD; rw [List.length_map, List.length_map]; omega
  have g0 := td_0 x
  have g2 := td_2 x
  have am : argSlot false (.d x.d) = some (.sh x.d) := rfl
  have ab : argSlot false (.d (bxD 1)) = some (.sh (bxD 1)) := rfl
  have bf : (st[1]?.bind fun o => List.lookup bxS o.fs) = some (.ow (.dt (dueD R))) := bxAt_fld b
  have bp : ∀ c, stPut st 1 bxS (.ow c) = bxPut st 1 c := fun _ => rfl
  have dp := dueD_put R t row
  have cp : cPut (.dt (dueD R)) (nmD t) (rowL (t, rwD row)) = some (.dt (dueD (rPut R t (rwD row)))) := by
    rw [← dp]
    exact cPut_any (by omega) _ _ _
  have n0 := nm_0 x.nm
  have n1 := nm_1 x.nm
  generalize dueD (rPut R t (rwD row)) = dd2 at *
  cases dn with
  | mk k q sp sp' ea s f =>
    have er : rowL (x.nm, rwD (k, some q, sp')) = .tuple [nmD x.nm, .str k, nmD q, sp'] := rfl
    rw [er] at cp
    rw [ea] at g2
    have b0 : gIx (.d (.tuple [.str "make", .str k, nmD q, sp])) (.d (.int 0)) = some (.sh (.str "make")) := rfl
    have b1 : gIx (.d (.tuple [.str "make", .str k, nmD q, sp])) (.d (.int 1)) = some (.sh (.str k)) := rfl
    have b2 : gIx (.d (.tuple [.str "make", .str k, nmD q, sp])) (.d (.int 2)) = some (.sh (nmD q)) := rfl
    have b3 : gIx (.d (.tuple [.str "make", .str k, nmD q, sp])) (.d (.int 3)) = some (.sh sp) := rfl
    generalize PyData.tuple [.str "make", .str k, nmD q, sp] = ac at *
    generalize dueD R = dd at *
    generalize x.d = xd at *
    cases s with
    | w w =>
      generalize nmD x.nm = nd at *
      generalize nmD q = qd at *
      simp -implicitDefEqProofs (maxSteps := 2000000) (disch := first | omega | assumption | (simp; done) | (simp; omega)) [d__law_put, b__law_put, ab, am, b, bf, bp, g0, g2, b0, b1, b2, b3, cp]
    | r us side _ hl =>
      generalize nmD x.nm = nd at *
      generalize nmD q = qd at *
      simp -implicitDefEqProofs (maxSteps := 2000000) (disch := first | omega | assumption | (simp; done) | (simp; omega)) [d__law_put, b__law_put, ab, am, b, bf, bp, g0, g2, b0, b1, b2, b3, n0, n1, cp]
  | mv t q r sp sp' ea hS s f =>
    have er : rowL (t, rwD (r.1, some q, sp')) = .tuple [nmD t, .str r.1, nmD q, sp'] := rfl
    rw [er] at cp
    rw [ea] at g2
    have dg := dueD_get I t
    rw [K t, hS] at dg
    have gc : cGet (.dt (dueD R)) (nmD t) = some (some (.tuple [nmD t, .str r.1, hD r.2.1, r.2.2])) := by
      show some (aGet (dueD R) (nmK t.1 t.2)) = _
      rw [dg]; rfl
    have k1 : gIx (.d (.tuple [nmD t, .str r.1, hD r.2.1, r.2.2])) (.d (.int 1)) = some (.sh (.str r.1)) := rfl
    have b0 : gIx (.d (.tuple [.str "move", nmD t, nmD q, sp])) (.d (.int 0)) = some (.sh (.str "move")) := rfl
    have b1 : gIx (.d (.tuple [.str "move", nmD t, nmD q, sp])) (.d (.int 1)) = some (.sh (nmD t)) := rfl
    have b2 : gIx (.d (.tuple [.str "move", nmD t, nmD q, sp])) (.d (.int 2)) = some (.sh (nmD q)) := rfl
    have b3 : gIx (.d (.tuple [.str "move", nmD t, nmD q, sp])) (.d (.int 3)) = some (.sh sp) := rfl
    generalize PyData.tuple [.str "move", nmD t, nmD q, sp] = ac at *
    generalize PyData.tuple [nmD t, .str r.1, hD r.2.1, r.2.2] = rw_ at *
    generalize dueD R = dd at *
    generalize x.d = xd at *
    cases s with
    | w w =>
      generalize nmD x.nm = nd at *
      generalize nmD t = td at *
      generalize nmD q = qd at *
      simp -implicitDefEqProofs (maxSteps := 2000000) (disch := first | omega | assumption | (simp; done) | (simp; omega)) [d__law_put, b__law_put, ab, am, b, bf, bp, g0, g2, b0, b1, b2, b3, gc, k1, cp]
    | r us side _ hl =>
      generalize nmD x.nm = nd at *
      generalize nmD t = td at *
      generalize nmD q = qd at *
      simp -implicitDefEqProofs (maxSteps := 2000000) (disch := first | omega | assumption | (simp; done) | (simp; omega)) [d__law_put, b__law_put, ab, am, b, bf, bp, g0, g2, b0, b1, b2, b3, n0, n1, gc, k1, cp]
  | dr t r ea hS =>
    have er : rowL (t, rwD (r.1, none, .none)) = .tuple [nmD t, .str r.1, .none, .none] := rfl
    rw [er] at cp
    rw [ea] at g2
    have dg := dueD_get I t
    rw [K t, hS] at dg
    have gc : cGet (.dt (dueD R)) (nmD t) = some (some (.tuple [nmD t, .str r.1, hD r.2.1, r.2.2])) := by
      show some (aGet (dueD R) (nmK t.1 t.2)) = _
      rw [dg]; rfl
    have k1 : gIx (.d (.tuple [nmD t, .str r.1, hD r.2.1, r.2.2])) (.d (.int 1)) = some (.sh (.str r.1)) := rfl
    have b0 : gIx (.d (.tuple [.str "drop", nmD t])) (.d (.int 0)) = some (.sh (.str "drop")) := rfl
    have b1 : gIx (.d (.tuple [.str "drop", nmD t])) (.d (.int 1)) = some (.sh (nmD t)) := rfl
    generalize PyData.tuple [.str "drop", nmD t] = ac at *
    generalize PyData.tuple [nmD t, .str r.1, hD r.2.1, r.2.2] = rw_ at *
    generalize dueD R = dd at *
    generalize x.d = xd at *
    generalize nmD x.nm = nd at *
    generalize nmD t = td at *
    simp -implicitDefEqProofs (maxSteps := 2000000) (disch := first | omega | assumption | (simp; done) | (simp; omega)) [d__law_put, b__law_put, ab, am, b, bf, bp, g0, g2, b0, b1, gc, k1, cp]
/-! a turn of the law's loop, and its end (k55) -/
theorem hear_sp {x : TDd} {S : Tb} {t : Nm} {r : Rw} (h : Done x S t r) : (∃ rest, x.act = .tuple (.str "make" :: rest)) ∨ ∃ v rest, x.act = .tuple (.str v :: nmD t :: rest) ∧ v ≠ "make" ∧ ∃ r0, S t = some r0 := by
  cases h with
  | mk k q sp sp' e _ _ => exact .inl ⟨_, e⟩
  | mv t q r sp sp' e hS _ _ => exact .inr ⟨_, _, e, by decide, _, hS⟩
  | dr t r e hS => exact .inr ⟨_, _, e, by decide, _, hS⟩
def I55 (nn : List D) (c : Int) (hs : List Str) (rs : List TDd) (k : Nat) (r : CM.Env) : Prop := ∃ (kvs : List (List Ky × D)) (ls : List D) (S : Tb) (R : List NR) (st : Store) (s5 : CM.Slot), r = ⟨[.bo (.d (.list nn)), .sh (.int c), .ow (.d (.list (hs.map PyData.str))), .sh (obD 0), .sh (bxD 1), s5, .no, .no, .no, .no, .no, .no], st⟩ ∧ TS st 0 kvs ls S ∧ RwI kvs R ∧ bxAt st 1 = some (.dt (dueD R)) ∧ (∀ x, S x ≠ none → x ∈ (rs.take k).map (·.nm)) ∧ kvs.length ≤ k ∧ ls.length ≤ k
theorem RwI.len {kvs : List (List Ky × D)} {R : List NR} (I : RwI kvs R) : R.length = kvs.length := by
  have := congrArg List.length I.eq
  rw [List.length_map] at this
  exact this.symm
theorem turn55 (nn : List D) (c : Int) (hs : List Str) (rs : List TDd) (O : DdOk rs) (rl : rs.length ≤ 60) (k : Nat) (r : CM.Env) (x : TDd) (hi : I55 nn c hs rs k r) (ex : rs[k]? = some x) : ∃ r2, (bindP (.v 5) x.d r).bind l1_law = some (.nx, r2) ∧ I55 nn c hs rs (k + 1) r2 := by
  obtain ⟨kvs, ls, S, R, st, s5, rfl, T, I, b, dom, kl, ll⟩ := hi
  have kk := (List.getElem?_eq_some_iff.mp ex).1
  have nw := name_new O ex
  have fr : S x.nm = none := by
    cases h : S x.nm with
    | none => rfl
    | some r => exact absurd (dom x.nm (by rw [h]; exact fun z => by cases z)) nw
  have xo := O.no x (List.mem_of_getElem? ex)
  have nr : x.nm ≠ rootN := fun z => by
    have : x.nm.2 = 0 := by rw [z]; rfl
    omega
  obtain ⟨wd, st', kvs', ls', S', R', eh, T', I', k', l', ot, o⟩ := hear_step T I (by omega) (by omega) dom (by rw [List.length_map, List.length_take]; omega) x fr nr (O.act x (List.mem_of_getElem? ex))
  have b' : bxAt st' 1 = some (.dt (dueD R)) := by rw [bxAt_same (ot 1 (by decide))]; exact b
  have bl : 1 < st'.length := bxAt_lt b'
  have am : argSlot false (.d x.d) = some (.sh x.d) := rfl
  have ab : argSlot false (.d (bxD 1)) = some (.sh (bxD 1)) := rfl
  have sa := T.at_
  unfold trO at sa
  have g2 := td_2 x
  have dom1 : ∀ y, S y ≠ none → y ∈ (rs.take (k + 1)).map (·.nm) := fun y hy => by
    rw [take_succ ex]
    exact List.mem_append_left _ (dom y hy)
  rcases o with ⟨rfl, t, row, dn, rfl, rfl, rfl⟩ | ⟨nd, rfl, rfl, rfl, o⟩
  · have pe := put_ev (st := st') (R := R) T.tk I (by rw [I.len]; omega) b' x dn
    have b2 : bxAt (bxPut st' 1 (.dt (dueD (rPut R t (rwD row))))) 1 = some (.dt (dueD (rPut R t (rwD row)))) := by rw [bxPut_at bl, if_pos rfl]
    have T2 : TS (bxPut st' 1 (.dt (dueD (rPut R t (rwD row))))) 0 kvs' ls' (sPut S t row) := ⟨by rw [bxPut_ne (by decide)]; exact T'.at_, T'.tk, T'.root, T'.ends, T'.hold⟩
    refine ⟨_, ?_, kvs', ls', _, _, _, .sh x.d, rfl, T2, I', b2, fun y hy => ?_, by omega, by omega⟩
    · have bf : (st'[1]?.bind fun o => List.lookup bxS o.fs) = some (.ow (.dt (dueD R))) := bxAt_fld b'
      clear bl
      rcases hear_sp dn with ⟨rest, ea⟩ | ⟨v, rest, ea, vne, r0, hS⟩
      · have j0 : gIx (.d (.tuple (.str "make" :: rest))) (.d (.int 0)) = some (.sh (.str "make")) := by
          show (atD (PyData.str "make" :: rest) 0).bind _ = _
          rw [at0]; rfl
        have mb : (("make" : Str) == "make") = true := by decide
        rw [ea] at g2
        generalize PyData.tuple (.str "make" :: rest) = ac at *
        generalize bxPut st' 1 (.dt (dueD (rPut R t (rwD row)))) = st2 at *
        generalize dueD R = dd at *
        generalize x.d = xd at *
        generalize hs.map PyData.str = hm at *
        simp -implicitDefEqProofs (maxSteps := 2000000) (disch := first | omega | assumption | (simp; done) | (simp; omega)) [l1_law, sa, am, ab, eh, g2, j0, mb, b', bf, pe]
      · have j0 : gIx (.d (.tuple (.str v :: nmD t :: rest))) (.d (.int 0)) = some (.sh (.str v)) := by
          show (atD (PyData.str v :: nmD t :: rest) 0).bind _ = _
          rw [at0]; rfl
        have j1 : gIx (.d (.tuple (.str v :: nmD t :: rest))) (.d (.int 1)) = some (.sh (nmD t)) := by
          show (atD (PyData.str v :: nmD t :: rest) ((1 : Nat) : Int)).bind _ = _
          rw [atD_nat (n := 1) (x := nmD t) rfl]; rfl
        have vb : (v == ("make" : Str)) = false := by rw [Bool.eq_false_iff]; exact fun z => vne (beq_iff_eq.mp z)
        have dg := dueD_get I t
        rw [T.tk t, hS] at dg
        have gn : gNotInA (.d (nmD t)) (.dt (dueD R)) = some (.sh (.bool false)) := by
          show shB (!(aGet (dueD R) (nmK t.1 t.2)).isSome) = _
          rw [dg]; rfl
        rw [ea] at g2
        generalize PyData.tuple (.str v :: nmD t :: rest) = ac at *
        generalize bxPut st' 1 (.dt (dueD (rPut R t (rwD row)))) = st2 at *
        generalize dueD R = dd at *
        generalize x.d = xd at *
        generalize nmD t = td at *
        generalize hs.map PyData.str = hm at *
        simp -implicitDefEqProofs (maxSteps := 2000000) (disch := first | omega | assumption | (simp; done) | (simp; omega)) [l1_law, sa, am, ab, eh, g2, j0, j1, vb, gn, b', bf, pe]
    · unfold sPut at hy
      split at hy
      · rename_i z
        rw [z, take_succ ex]
        rcases dn.dom with w | w
        · rw [w]; simp
        · exact List.mem_append_left _ (dom t w)
      · exact dom1 y hy
  · have wb : ((wd : Str) == "done") = false := by rw [Bool.eq_false_iff]; exact fun z => nd (beq_iff_eq.mp z)
    have ll' : ls'.length ≤ k + 1 := by omega
    refine ⟨_, ?_, kvs', ls', _, _, st', .sh x.d, rfl, T', I', b', dom1, by omega, ll'⟩
    generalize x.d = xd at *
    generalize hs.map PyData.str = hm at *
    simp -implicitDefEqProofs (maxSteps := 2000000) (disch := first | omega | assumption | (simp; done) | (simp; omega)) [l1_law, sa, am, eh, wb]
/-- the table's rows, by their keys in order -/
theorem due_rows {R : List NR} {kvs : List (List Ky × D)} (I : RwI kvs R) : (srtN (R.map gD)).map (·.2) = (srtN R).map rowL := by
  unfold srtN
  have w := W.sort_maps (r := fun a b : NR => leD (prD a.1) (prD b.1)) (s := fun a b : NR => leD (prD a.1) (prD b.1)) (l := R) gD fun a _ b _ => rfl
  rw [← w, List.map_map]
  rfl
theorem due_at {R : List NR} {kvs : List (List Ky × D)} (I : RwI kvs R) {e : NR} (he : e ∈ R.map gD) : aGet (dueD R) (nmK e.1.1 e.1.2) = some e.2 := by
  have nd : ((R.map gD).map (·.1)).Nodup := by rw [List.map_map]; exact I.nd
  unfold dueD
  clear I
  generalize R.map gD = Q at *
  induction Q with
  | nil => cases he
  | cons x r ih =>
    rw [List.map_cons] at nd ⊢
    obtain ⟨n1, n2⟩ := List.nodup_cons.mp nd
    rcases List.mem_cons.mp he with rfl | he
    · exact aGet_pos rfl
    · rw [aGet_neg (e := nmRow x) (show ¬ nmK x.1.1 x.1.2 = nmK e.1.1 e.1.2 from nmK_ne fun z => n1 (List.mem_map.mpr ⟨e, he, z.symm⟩))]
      exact ih he n2
theorem init_ev : d_Tree___init__ [.d (obD 0)] [⟨"Tree", []⟩] = some (.sh .none, [trO [] []]) := by
  have s1 : trS [⟨"Tree", []⟩] 0 [] = [⟨"Tree", [("spots", .ow (.dt []))]⟩] := rfl
  have s2 : trL [⟨"Tree", [("spots", .ow (.dt []))]⟩] 0 [] = [⟨"Tree", [("spots", .ow (.dt [])), ("losers", .ow (.d (.list [])))]⟩] := rfl
  unfold trO
  simp -implicitDefEqProofs (maxSteps := 2000000) (disch := first | omega | assumption | (simp; done) | (simp; omega)) [d_Tree___init__, b_Tree___init__, s1, s2]
theorem fl_rowL {R : List NR} {kvs : List (List Ky × D)} (I : RwI kvs R) {e : NR} (he : e ∈ R) : ∃ (k : Str) (o : Option Nm) (c : D), e.2 = .tuple [.str k, hD o, c] ∧ rowL e = .tuple [nmD e.1, .str k, hD o, c] ∧ Fl 4 c := by
  obtain ⟨k, o, c, e2, f⟩ := I.ok e he
  exact ⟨k, o, c, e2, by unfold rowL; rw [e2], f⟩
theorem l2_turn55 {st : Store} {kvs : List (List Ky × D)} {ls : List D} {S : Tb} {R : List NR} (T : TS st 0 kvs ls S) (I : RwI kvs R) (s0 s1 s2 s4 s5 s6 s7 s8 s9 s10 s11 : CM.Slot) {e : NR} (he : e ∈ R) : ∃ s8' s9' s10' s11', (bindP (.t [8, 9, 10, 11]) (rowL e) ⟨[s0, s1, s2, .sh (obD 0), s4, s5, s6, s7, s8, s9, s10, s11], st⟩).bind l2_law = some (.nx, ⟨[s0, s1, s2, .sh (obD 0), s4, s5, s6, s7, s8', s9', s10', s11'], st⟩) := by
  obtain ⟨k, o, c, e2, er, f⟩ := fl_rowL I he
  have ag : aGet kvs (nmK e.1.1 e.1.2) = some e.2 := by
    have nd := I.nd
    rw [I.eq]
    clear I T
    induction R with
    | nil => cases he
    | cons x r ih =>
      rw [List.map_cons] at nd ⊢
      obtain ⟨n1, n2⟩ := List.nodup_cons.mp nd
      rcases List.mem_cons.mp he with rfl | he
      · exact aGet_pos rfl
      · rw [aGet_neg (e := nmRow x) (show ¬ nmK x.1.1 x.1.2 = nmK e.1.1 e.1.2 from nmK_ne fun z => n1 (List.mem_map.mpr ⟨e, he, z.symm⟩))]
        exact ih he n2
  have hv := held_ev T.at_ e.1 fun row g => by rw [ag, e2] at g; exact ⟨_, _, _, (Option.some.inj g).symm⟩
  have hd : heldD kvs e.1 = .tuple [hD o, c] := by unfold heldD; rw [ag, e2]
  rw [hd] at hv
  have kv : kindD kvs e.1 = some (.str k) := by
    have tt := T.tk e.1
    rw [ag, e2] at tt
    have nr : e.1 ≠ rootN := fun z => by rw [z, T.root] at tt; cases tt
    unfold kindD
    rw [if_neg nr, ag, e2]
  have ke := kind_ev T.at_ e.1 kv
  have am : argSlot false (.d (nmD e.1)) = some (.sh (nmD e.1)) := rfl
  have n1 : gNe (.d (.tuple [hD o, c])) (.d (.tuple [hD o, c])) = some (.sh (.bool false)) := gne_self (Fl.t (k := 4) fun x hx => by
    rcases List.mem_cons.mp hx with rfl | hx
    · exact (fl_hD o).up (by decide)
    · rw [List.mem_singleton.mp hx]; exact f) (by decide)
  have n2 : gNe (.d (.str k)) (.d (.str k)) = some (.sh (.bool false)) := gne_self (k := 0) (Fl.s k) (by decide)
  have sa := T.at_
  unfold trO at sa
  rw [er]
  refine ⟨.sh (nmD e.1), .sh (.str k), .sh (hD o), .sh c, ?_⟩
  generalize hD o = od at *
  generalize nmD e.1 = ed at *
  simp -implicitDefEqProofs (maxSteps := 2000000) (disch := first | omega | assumption | (simp; done) | (simp; omega)) [l2_law, sa, am, hv, ke, n1, n2]
theorem law_true : ∀ ns : List Int, ns.length ≤ 63 → ∃ st', d_law [.d (.list (ns.map PyData.int))] [] = some (.sh (.bool true), st') := by
  intro ns _
  have c0 := cell_ev ns 0 []
  have g0 := Int.emod_nonneg (ns.getD 0 0 / 24) (show (3 : Int) ≠ 0 by decide)
  have g1 := Int.emod_lt_of_pos (ns.getD 0 0 / 24) (show (0 : Int) < 3 by decide)
  obtain ⟨m, hm⟩ : ∃ m : Nat, 1 + ns.getD 0 0 / 24 % 3 = m := ⟨_, (Int.toNat_of_nonneg (by omega)).symm⟩
  obtain ⟨hs, nd, hl, ok, eh⟩ := hands_ev (ns.getD 0 0) m (by omega) []
  simp only [Int.natCast_zero] at c0
  have cut : cutL (ns.map PyData.int) (some 1) (some 41) = ((ns.drop 1).take 40).map PyData.int := by
    rw [cutL_lh _ (by decide) (by decide), List.map_take, List.map_drop]; rfl
  have xl : ((ns.drop 1).take 40).length ≤ 40 := by rw [List.length_take]; omega
  generalize (ns.drop 1).take 40 = cs at *
  generalize ns.getD 0 0 = c at *
  generalize ns.map PyData.int = nn at *
  obtain ⟨rs, O, rl, ed⟩ := deeds_ev cs (by omega) hs (by omega) (by omega) ([trO [] []] ++ [bxO (.dt [])])
  obtain ⟨r, f, kvs, ls, S, R, st, s5, rfl, T, I, b, dom, kl, ll⟩ := for_inv (p := .v 5) (f := l1_law) TDd.d (I55 nn c hs rs) rs
    ⟨[.bo (.d (.list nn)), .sh (.int c), .ow (.d (.list (hs.map PyData.str))), .sh (obD 0), .sh (bxD 1), .no, .no, .no, .no, .no, .no, .no], [trO [] []] ++ [bxO (.dt [])]⟩
    ⟨[], [], fun _ => none, [], _, .no, rfl, TS.start _ 0 rfl, ⟨rfl, by simp, fun e he => by cases he⟩, rfl, fun x hx => absurd rfl hx, by simp, by simp⟩
    fun k r x hi e => turn55 nn c hs rs O (by omega) k r x hi e
  have Rl := I.len
  have gk := gSortKT_nm (R := R.map gD) (by rw [List.length_map]; omega)
  have gk : gSortKT (.dt (dueD R)) = some (.fr (.d (.list ((srtN (R.map gD)).map fun e => nmD e.1)))) := gk
  have bf : (st[1]?.bind fun o => List.lookup bxS o.fs) = some (.ow (.dt (dueD R))) := bxAt_fld b
  have cj := fun s5 => comp_map (vs := [8]) (p := .v 8) (t := tYesD) (a := ce1_law) (fun e : NR => nmD e.1) (fun e : NR => e.2) ⟨[.bo (.d (.list nn)), .sh (.int c), .ow (.d (.list (hs.map PyData.str))), .sh (obD 0), .sh (bxD 1), s5, .no, .no, .no, .no, .no, .no], st⟩ (srtN (R.map gD)) fun e he => by
    have da := due_at I (srtN_mem.mp he)
    have gx : gIxA (.dt (dueD R)) (.d (nmD e.1)) = some (.sh e.2) := by
      show ((aGet (dueD R) (nmK e.1.1 e.1.2)).bind fun v => some (Res.sh v)) = _
      rw [da]; rfl
    have gc : cGet (.dt (dueD R)) (nmD e.1) = some (some e.2) := by
      show some (aGet (dueD R) (nmK e.1.1 e.1.2)) = _
      rw [da]
    generalize dueD R = dd at *
    generalize nmD e.1 = ed at *
    generalize hs.map PyData.str = hm at *
    simp -implicitDefEqProofs (maxSteps := 2000000) (disch := first | omega | assumption | (simp; done) | (simp; omega)) [compStep, ce1_law, bf, gc]
  have kx : ((srtN (R.map gD)).map fun e => nmD e.1).length < 1000 := by
    rw [List.length_map, show (srtN (R.map gD)).length = (R.map gD).length from (List.mergeSort_perm _ _).length_eq, List.length_map]; omega
  have rx : ((srtN R).map rowL).length < 1000 := by
    rw [List.length_map, show (srtN R).length = R.length from (List.mergeSort_perm _ _).length_eq]; omega
  have dr := due_rows I
  rw [dr] at cj
  have rw1 := rows_ev T.at_ I (by omega)
  have ne := gne_self (fl_rows I) (by decide)
  have eq := geq_self (fl_rows I) (by decide)
  have sa := T.at_
  unfold trO at sa
  have lp := fun s4 s5 s7 => for_inv (p := .t [8, 9, 10, 11]) (f := l2_law) rowL (fun _ r => ∃ s8 s9 s10 s11, r = ⟨[.bo (.d (.list nn)), .sh (.int c), .ow (.d (.list (hs.map PyData.str))), .sh (obD 0), s4, s5, .lk (.d (.list ((srtN R).map rowL))), s7, s8, s9, s10, s11], st⟩) (srtN R)
    ⟨[.bo (.d (.list nn)), .sh (.int c), .ow (.d (.list (hs.map PyData.str))), .sh (obD 0), s4, s5, .lk (.d (.list ((srtN R).map rowL))), s7, .no, .no, .no, .no], st⟩ ⟨_, _, _, _, rfl⟩ fun k r e hi he => by
    obtain ⟨s8, s9, s10, s11, rfl⟩ := hi
    obtain ⟨a, b, c, d, g⟩ := l2_turn55 T I (.bo (.d (.list nn))) (.sh (.int c)) (.ow (.d (.list (hs.map PyData.str)))) s4 s5 (.lk (.d (.list ((srtN R).map rowL)))) s7 s8 s9 s10 s11 (srtN_mem.mp (List.mem_of_getElem? he))
    exact ⟨_, g, a, b, c, d, rfl⟩
  obtain ⟨r2, f2, t8, t9, t10, t11, rfl⟩ := lp (.sh (bxD 1)) s5 (.ow (.d (.list ((srtN R).map rowL ++ [.tuple []]))))
  have e24 : gDiv (.d (.int c)) (.d (.int 24)) = some (.sh (.int (c / 24))) := gDiv_i (by decide) (by decide)
  have ob1 : [trO [] []] ++ [bxO (.dt [])] = [trO [] [], bxO (.dt [])] := rfl
  rw [ob1] at f ed
  have rsl : (rs.map TDd.d).length < 1000 := by rw [List.length_map]; omega
  have csl : (cs.map PyData.int).length < 1000 := by rw [List.length_map]; omega
  have hsl : (hs.map PyData.str).length < 1000 := by rw [List.length_map]; omega
  refine ⟨st, ?_⟩
  clear T I dom lp O
  generalize ((srtN (R.map gD)).map fun e => nmD e.1) = km at *
  generalize (srtN R).map rowL = rm at *
  generalize dueD R = dd at *
  generalize rs.map TDd.d = dm at *
  generalize cs.map PyData.int = cm' at *
  generalize hs.map PyData.str = hm' at *
  simp -implicitDefEqProofs (maxSteps := 2000000) (disch := first | omega | assumption | (simp; done) | (simp; omega)) [d_law, b_law, init_ev, c0, e24, hm, eh, cut, ed, f, bf, gk, cj, sa, rw1, ne, eq, f2]
end CML
end
open PySem PySem.W PySem.Calls PyProof.Rows
theorem PySem.Challenge.cw_copymeet_k55_where_it_was_put_holds : PySem.Challenge.rw_copymeet_k55_where_it_was_put.Holds := by
  w_on; o_law
  refine HandSHeadRun.head_any (r := OpenLaw.row PySem.Challenge.rw_copymeet_k55_where_it_was_put) (q := view (OpenLaw.row PySem.Challenge.rw_copymeet_k55_where_it_was_put).prog [14]) (H := CML.hk) (ob := CML.ob) (M := 4000) (loose := CML.names) (d := HandSHeadRun.topDef (OpenLaw.row PySem.Challenge.rw_copymeet_k55_where_it_was_put).prog 14) (kwd := []) CML.ob_eq
    (by kernel_rfl) (fun s => by kernel_rfl) CML.run (by kernel_rfl) (by kernel_rfl) (by kernel_rfl) (by rfl) (by first | assumption | decide +kernel) (by decide +kernel) ⟨rfl, rfl, rfl, rfl, rfl, by decide +kernel⟩ ?hw ?hc
  case hw => w_witness2
  case hc =>
    refine L2.walk_ofE (l := PySem.Challenge.rw_copymeet_k55_where_it_was_put) (n := 63) (k := 4) (x := "_law_script") (CX := L2.CX0) rfl (by decide) (by kernel_rfl) ⟨rfl, by decide, by decide⟩ ?F (fun _ _ _ _ z => z)
    intro w mg fa h Y G hmg0
    obtain ⟨K, KX, c, cx⟩ := Y
    have hmg : mg ("law" : PySem.Str) = some (.ref fa) := by
      have e : (HandSHeadRun.topDef (OpenLaw.row PySem.Challenge.rw_copymeet_k55_where_it_was_put).prog 14).name = ("law" : PySem.Str) := by kernel_rfl
      rw [← e]
      exact hmg0
    obtain ⟨fd, hb, hF⟩ := CML.facts (P := (PySem.Challenge.rw_copymeet_k55_where_it_was_put).prog) (w := w) KX G hmg c cx
    exact ⟨K, fd, _, KX, hb, fun H a ns hl _ hS => CM.law_sp (K := ⟨K, mg⟩) CML.law_true H a ns hl hS, hF⟩
