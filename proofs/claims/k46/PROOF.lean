import PyProof.Rows.All
import PySem.PyData
import PyProof.P3Statements
import KE.LtData
import KE.KeyNested
import Wide.All
import OpenK.AllK
import Wide.FinOn
import HandS.ForMost
import HandS.Wide
import KE.SortKeyHeap
import HandS.TupAny
import PyProof.P3Eq
import HandS.TupLe
import HandS.IsInst
import HandS.Style
import HandS.TupLen
import HandS.Defaults
import HandS.Head0
import HandS.Head1
import HandS.Head2
import HandS.HeadEnd
import HandS.HeadHook1
import HandS.HeadHook2
import HandS.SetKeys
import HandS.DictTup
import PyProof.DictMoreH
import HandS.Iter
import KE.KDictSum
import KE.KDictCopyH
import HandS.ListItems
import HandS.SetFor
import HandS.Set
import HandS.Keys
import HandS.SortKw
import HandS.Codes
import KE.KDictPairs
import HandS.Rev
import PyProof.FactsAll.dict_3
import HandS.List
import KE.GoesMore
import KE.GoesZip
import HandS.New0
import HandS.Conv
import PyProof.Rows.TupDisplay
import KE.DataCmp
import KE.KDictWalk
import HandS.TupSets
import PyProof.ListMulAny
import HandS.Finally
import KE.DataMinMax
import KE.KDictKeyed
import PySem.Challenge.RW_copymeet_k46_whole_texts_apart
section
set_option autoImplicit false
set_option linter.all false
namespace CM
open PySem
abbrev D := PyData
abbrev Ky := Sum Int Str
inductive C where
  | d (x : D)
  | dk (kvs : List (Ky × D))
  | dt (kvs : List (List Ky × D))
  | dn (kvs : List (NestedKey × D))
def obD (n : Nat) : D := .dict [(.int n, .none)]
def bxD (n : Nat) : D := .dict [(.int n, .bool true)]
def bxS : Str := ""
inductive Fd where
  | d (x : D)
  | ow (c : C)
  | lk (c : C)
structure Ob where
  cls : Str
  fs : List (Str × Fd)
abbrev Store := List Ob
inductive Slot where
  | no
  | sh (x : D)
  | bo (c : C)
  | ow (c : C)
  | lk (c : C)
def Lent : Slot → Prop
  | .bo _ => True
  | .lk _ => True
  | _ => False
structure Env where
  sl : List Slot
  st : Store
def Env.put (r : Env) (i : Nat) (s : Slot) : Env := ⟨r.sl.set i s, r.st⟩
inductive Res where
  | sh (x : D)
  | fr (c : C)
  | sl (i : Nat)
  | fl (n : Nat) (f : Str)
inductive Flow where
  | nx
  | bk
  | ct
  | rt (r : Res)
abbrev EF := Env → Option (Res × Env)
abbrev TF := Env → Option (Bool × Env)
abbrev SF := Env → Option (Flow × Env)
inductive Lk where
  | no
  | sl (i : Nat)
  | fl (n : Nat) (f : Str)
abbrev IF := Env → Option (List D × Lk × Env)
abbrev DF := List C → Store → Option (Res × Store)

def bxOf : C → Option Nat
  | .d (.dict [(.int n, .bool true)]) => some n.toNat
  | _ => none

def isTupD : D → Bool
  | .tuple [.str _, .int _] => true
  | _ => false
def tuT (ds : List D) : Bool := ds.all isTupD
def isCon : D → Bool
  | .list _ => true
  | _ => false

def putFd (f : Str) (v : Fd) : List (Str × Fd) → List (Str × Fd)
  | [] => [(f, v)]
  | (g, x) :: r => if g = f then (g, v) :: r else (g, x) :: putFd f v r
def fldAt (st : Store) (n : Nat) (f : Str) : Option Fd := (st[n]?).bind fun o => o.fs.lookup f
def stPut (st : Store) (n : Nat) (f : Str) (v : Fd) : Store := st.modify n fun o => ⟨o.cls, putFd f v o.fs⟩
def Env.putF (r : Env) (n : Nat) (f : Str) (v : Fd) : Env := ⟨r.sl, stPut r.st n f v⟩

def look (r : Env) : Res → Option C
  | .sh x => some (.d x)
  | .fr c => some c
  | .sl i => match r.sl[i]? with
    | some (.sh x) => some (.d x)
    | some (.bo c) => some c
    | some (.ow c) => some c
    | some (.lk c) => some c
    | _ => none
  | .fl n f => match fldAt r.st n f with
    | some (.d x) => some (.d x)
    | some (.ow c) => some c
    | some (.lk c) => some c
    | none => none
def stl : Res → Option Res
  | .fr (.d x) => some (.sh x)
  | .sl i => some (.sl i)
  | .sh x => some (.sh x)
  | _ => none
def toSh (r : Env) : Res → Option (D × Env)
  | .sh x => some (x, r)
  | .fr (.d x) => some (x, r)
  | .fr _ => none
  | .sl i => match r.sl[i]? with
    | some (.sh x) => some (x, r)
    | some (.ow (.d x)) => some (x, r.put i (.sh x))
    | _ => none
  | .fl n f => match fldAt r.st n f with
    | some (.d x) => some (x, r)
    | _ => none

def eVar (i : Nat) : EF := fun r => match r.sl[i]? with
  | some (.sh _) => some (.sl i, r)
  | some (.bo _) => some (.sl i, r)
  | some (.ow _) => some (.sl i, r)
  | some (.lk _) => some (.sl i, r)
  | _ => none
def eC (x : D) : EF := fun r => some (.sh x, r)
def eOp (g : C → C → Option Res) (a b : EF) : EF := fun r =>
  (a r).bind fun p => (stl p.1).bind fun x => (b p.2).bind fun q => (look q.2 x).bind fun u => (look q.2 q.1).bind fun v => (g u v).bind fun z => some (z, q.2)
def eOpF (g : C → C → Option Res) (a b : EF) : EF := fun r =>
  (a r).bind fun p => (b p.2).bind fun q => (look q.2 p.1).bind fun u => (look q.2 q.1).bind fun v => (g u v).bind fun z => some (z, q.2)
def eUn (g : C → Option Res) (a : EF) : EF := fun r =>
  (a r).bind fun p => (look p.2 p.1).bind fun u => (g u).bind fun z => some (z, p.2)
def eArgs : List EF → Env → Option (List Res × Env)
  | [], r => some ([], r)
  | a :: as, r => (a r).bind fun p => (stl p.1).bind fun x => (eArgs as p.2).bind fun q => some (x :: q.1, q.2)
def looks (r : Env) : List Res → Option (List C)
  | [] => some []
  | x :: xs => (look r x).bind fun c => (looks r xs).bind fun cs => some (c :: cs)
def shares : Env → List Res → Option (List D × Env)
  | r, [] => some ([], r)
  | r, x :: xs => (toSh r x).bind fun p => (shares p.2 xs).bind fun q => some (p.1 :: q.1, q.2)
def eTup (as : List EF) : EF := fun r => (eArgs as r).bind fun p => (shares p.2 p.1).bind fun q => some (.sh (.tuple q.1), q.2)
def eLst (as : List EF) : EF := fun r => (eArgs as r).bind fun p => (shares p.2 p.1).bind fun q => some (.fr (.d (.list q.1)), q.2)
def passes : Env → List Bool → List Res → Option (List C × Env)
  | r, [], [] => some ([], r)
  | r, true :: ms, x :: xs => (toSh r x).bind fun p => (passes p.2 ms xs).bind fun q => some (.d p.1 :: q.1, q.2)
  | r, false :: ms, x :: xs => (look r x).bind fun c => (passes r ms xs).bind fun q => some (c :: q.1, q.2)
  | _, _, _ => none
def eCall (f : DF) (ms : List Bool) (as : List EF) : EF := fun r =>
  (eArgs as r).bind fun p => (passes p.2 ms p.1).bind fun q => (f q.1 q.2.st).bind fun z => some (z.1, ⟨q.2.sl, z.2⟩)
def tE (a : EF) : TF := fun r => (a r).bind fun p => match look p.2 p.1 with
  | some (.d (.bool b)) => some (b, p.2)
  | _ => none
def tAndD (a b : TF) : TF := fun r => (a r).bind fun p => if p.1 = true then b p.2 else some (false, p.2)
def tOrD (a b : TF) : TF := fun r => (a r).bind fun p => if p.1 = true then some (true, p.2) else b p.2
def tNotD (a : TF) : TF := fun r => (a r).bind fun p => some (!p.1, p.2)
def tYesD : TF := fun r => some (true, r)
def eAnd (a b : EF) : EF := fun r => (tE a r).bind fun p => if p.1 = true then b p.2 else some (.sh (.bool false), p.2)
def eNot (a : EF) : EF := fun r => (tE a r).bind fun p => some (.sh (.bool !p.1), p.2)
inductive Pat where
  | v (i : Nat)
  | t (is : List Nat)
def setAll : List Nat → List D → Env → Option Env
  | [], [], r => some r
  | i :: is, x :: xs, r => setAll is xs (r.put i (.sh x))
  | _, _, _ => none
def bindP : Pat → D → Env → Option Env
  | .v i, x, r => some (r.put i (.sh x))
  | .t is, .tuple xs, r => setAll is xs r
  | _, _, _ => none
def asSeq : D → Option (List D)
  | .list ds => some ds
  | .tuple ds => some ds
  | _ => none
def asSeqC : C → Option (List D)
  | .d x => asSeq x
  | _ => none
def lendOf (r : Env) : Res → Option (C × Lk)
  | .sh x => some (.d x, .no)
  | .fr (.d x) => some (.d x, .no)
  | .fr _ => none
  | .sl i => match r.sl[i]? with
    | some (.sh x) => some (.d x, .no)
    | some (.bo c) => some (c, .no)
    | some (.lk c) => some (c, .no)
    | some (.ow c) => some (c, .sl i)
    | _ => none
  | .fl n f => match fldAt r.st n f with
    | some (.d x) => some (.d x, .no)
    | some (.ow c) => some (c, .fl n f)
    | _ => none
def iSeq (a : EF) : IF := fun r => (a r).bind fun p => (lendOf p.2 p.1).bind fun q => (asSeqC q.1).bind fun ds => some (ds, q.2, p.2)
def lock (l : Lk) (r : Env) : Env := match l with
  | .no => r
  | .sl i => match r.sl[i]? with
    | some (.ow c) => r.put i (.lk c)
    | _ => r
  | .fl n f => match fldAt r.st n f with
    | some (.ow c) => r.putF n f (.lk c)
    | _ => r
def unlock (l : Lk) (r : Env) : Env := match l with
  | .no => r
  | .sl i => match r.sl[i]? with
    | some (.lk c) => r.put i (.ow c)
    | _ => r
  | .fl n f => match fldAt r.st n f with
    | some (.lk c) => r.putF n f (.ow c)
    | _ => r

def sNext : SF := fun r => some (.nx, r)
def sSeq (a b : SF) : SF := fun r => (a r).bind fun p => match p.1 with
  | .nx => b p.2
  | f => some (f, p.2)
def sDrop (a : EF) : SF := fun r => (a r).bind fun p => some (.nx, p.2)
def keep (i : Nat) (r : Env) : Res → Option Env
  | .sh x => some (r.put i (.sh x))
  | .fr c => some (r.put i (.ow c))
  | .sl j => match r.sl[j]? with
    | some (.sh x) => some (r.put i (.sh x))
    | some (.ow (.d x)) => some ((r.put j (.sh x)).put i (.sh x))
    | _ => none
  | .fl n f => match fldAt r.st n f with
    | some (.d x) => some (r.put i (.sh x))
    | _ => none
def sSet (i : Nat) (a : EF) : SF := fun r => (a r).bind fun p => (keep i p.2 p.1).bind fun r' => some (.nx, r')
def sBind (q : Pat) (a : EF) : SF := fun r => (a r).bind fun p => (toSh p.2 p.1).bind fun y => (bindP q y.1 y.2).bind fun r' => some (.nx, r')
def give (r : Env) : Res → Option Res
  | .sh x => some (.sh x)
  | .fr c => some (.fr c)
  | .sl j => match r.sl[j]? with
    | some (.sh x) => some (.sh x)
    | some (.ow c) => some (.fr c)
    | _ => none
  | .fl n f => match fldAt r.st n f with
    | some (.d x) => some (.sh x)
    | _ => none
def sRet (a : EF) : SF := fun r => (a r).bind fun p => (give p.2 p.1).bind fun x => some (.rt x, p.2)
def sIf (t : TF) (a b : SF) : SF := fun r => (t r).bind fun p => if p.1 = true then a p.2 else b p.2
def runFor (q : Pat) (body : SF) : List D → Env → Option (Flow × Env)
  | [], r => some (.nx, r)
  | x :: xs, r => (bindP q x r).bind fun r1 => (body r1).bind fun p => match p.1 with
    | .nx => runFor q body xs p.2
    | .ct => runFor q body xs p.2
    | .bk => some (.nx, p.2)
    | .rt z => some (.rt z, p.2)
def sFor (q : Pat) (it : IF) (body : SF) : SF := fun r => (it r).bind fun p => (runFor q body p.1 (lock p.2.1 p.2.2)).bind fun z => some (z.1, unlock p.2.1 z.2)
def runWhile (t : TF) (body : SF) : Nat → Env → Option (Flow × Env)
  | 0, _ => none
  | n + 1, r => (t r).bind fun b => if b.1 = true then (body b.2).bind fun p => match p.1 with
      | .nx => runWhile t body n p.2
      | .ct => runWhile t body n p.2
      | .bk => some (.nx, p.2)
      | .rt z => some (.rt z, p.2)
    else some (.nx, b.2)
def wipeE (r : Env) : List Nat → Env
  | [] => r
  | i :: is => (wipeE r is).put i .no
def runComp (vs : List Nat) (q : Pat) (t : TF) (e : EF) : List D → Env → Option (List D × Env)
  | [], r => some ([], r)
  | x :: xs, r => (bindP q x r).bind fun r1 => (t r1).bind fun b => if b.1 = true then
      (e b.2).bind fun p => (toSh p.2 p.1).bind fun y => (runComp vs q t e xs (wipeE y.2 vs)).bind fun z => some (y.1 :: z.1, z.2)
    else runComp vs q t e xs (wipeE b.2 vs)
def oldSlot (r : Env) (i : Nat) : Slot := match r.sl[i]? with
  | some (.sh x) => .sh x
  | some (.bo c) => .bo c
  | _ => .no
def unwipe (old r : Env) : List Nat → Env
  | [] => r
  | i :: is => (unwipe old r is).put i (oldSlot old i)
def eLc (own : List Nat) (q : Pat) (it : IF) (t : TF) (e : EF) : EF := fun r =>
  (it r).bind fun p => if p.1.length < 16777216 then (runComp own q t e p.1 (wipeE (lock p.2.1 p.2.2) own)).bind fun z => some (.fr (.d (.list z.1)), unlock p.2.1 (unwipe (lock p.2.1 p.2.2) z.2 own)) else none

def argSlot : Bool → C → Option Slot
  | true, .d x => some (.sh x)
  | true, _ => none
  | false, .d x => some (if isCon x = true then .bo (.d x) else .sh x)
  | false, c => some (.bo c)
def argSlots : List Bool → List C → Option (List Slot)
  | [], [] => some []
  | m :: ms, c :: cs => (argSlot m c).bind fun s => (argSlots ms cs).bind fun r => some (s :: r)
  | _, _ => none
def dDef (n : Nat) (ms : List Bool) (body : SF) : DF := fun cs st =>
  (argSlots ms cs).bind fun r => (body ⟨r ++ List.replicate (n - r.length) .no, st⟩).bind fun p => match p.1 with
    | .nx => some (.sh .none, p.2.st)
    | .rt z => some (z, p.2.st)
    | _ => none

def gAdd : C → C → Option Res
  | .d (.int i), .d (.int j) => some (.sh (.int (i + j)))
  | .d (.str x), .d (.str y) => if x.cps.size + y.cps.size ≤ 16777216 then some (.sh (.str ⟨x.cps ++ y.cps⟩)) else none
  | .d (.tuple xs), .d (.tuple ys) => if xs.length + ys.length ≤ 16777216 then some (.sh (.tuple (xs ++ ys))) else none
  | .d (.list xs), .d (.list ys) => if xs.length + ys.length ≤ 16777216 then some (.fr (.d (.list (xs ++ ys)))) else none
  | _, _ => none
def gSub : C → C → Option Res
  | .d (.int i), .d (.int j) => some (.sh (.int (i - j)))
  | _, _ => none
def gMul : C → C → Option Res
  | .d (.int i), .d (.int j) => if i.natAbs < 2 ^ 64 ∨ j.natAbs < 2 ^ 64 then some (.sh (.int (i * j))) else none
  | .d (.str x), .d (.int n) => if 0 ≤ n ∧ n ≤ 1000 ∧ 1 ≤ x.cps.size ∧ x.cps.size ≤ 1000 then some (.sh (.str ⟨(List.replicate n.toNat x.cps).foldl (· ++ ·) #[]⟩)) else none
  | _, _ => none
def gDiv : C → C → Option Res
  | .d (.int i), .d (.int j) => if 0 < j ∧ j.natAbs.log2 < 9000 then some (.sh (.int (i / j))) else none
  | _, _ => none
def gMod : C → C → Option Res
  | .d (.int i), .d (.int j) => if 0 < j then some (.sh (.int (i % j))) else none
  | _, _ => none
def gPow : C → C → Option Res
  | .d (.int i), .d (.int j) => if 0 ≤ j ∧ j ≤ 1000000 ∧ i.natAbs < 2 ^ 64 then some (.sh (.int (i ^ j.toNat))) else none
  | _, _ => none
def shB (b : Bool) : Option Res := some (.sh (.bool b))
mutual
def nod : D → Bool
  | .dict _ => false
  | .list xs => nods xs
  | .tuple xs => nods xs
  | _ => true
def nods : List D → Bool
  | [] => true
  | x :: xs => nod x && nods xs
end
def shallow (a b : D) : Bool := decide (min a.depth b.depth ≤ 60) && (nod a && nod b)
def gEq : C → C → Option Res
  | .d x, .d y => if shallow x y = true then shB (PyData.eqv x y) else none
  | _, _ => none
def gNe : C → C → Option Res
  | .d x, .d y => if shallow x y = true then shB (!PyData.eqv x y) else none
  | _, _ => none

inductive O4 where
  | lt | le | gt | ge
def O4.int : O4 → Int → Int → Bool
  | .lt, i, j => decide (i < j)
  | .le, i, j => decide (i ≤ j)
  | .gt, i, j => decide (j < i)
  | .ge, i, j => decide (j ≤ i)
def O4.tx : O4 → List Nat → List Nat → Bool
  | .lt, i, j => decide (i < j)
  | .le, i, j => !decide (j < i)
  | .gt, i, j => decide (j < i)
  | .ge, i, j => !decide (i < j)
def O4.len : O4 → Nat → Nat → Bool
  | .lt, i, j => decide (i < j)
  | .le, i, j => decide (i ≤ j)
  | .gt, i, j => decide (i > j)
  | .ge, i, j => decide (i ≥ j)
mutual
def cmpD (o : O4) : D → D → Option Bool
  | .int i, .int j => some (o.int i j)
  | .str x, .str y => some (o.tx x.cps.toList y.cps.toList)
  | .tuple xs, .tuple ys => cmpDs o xs ys
  | _, _ => none
def cmpDs (o : O4) : List D → List D → Option Bool
  | x :: xs, y :: ys => if PyData.eqv x y = true then cmpDs o xs ys else (cmpD o x y).bind fun v => (cmpDs o xs ys).bind fun _ => some v
  | xs, ys => some (o.len xs.length ys.length)
end
def gCmp (o : O4) : C → C → Option Res
  | .d x, .d y => if shallow x y = true then (cmpD o x y).bind shB else none
  | _, _ => none
def isNonC : C → Bool
  | .d .none => true
  | _ => false
def gIsN (a : C) : C → Option Res
  | .d .none => shB (isNonC a)
  | _ => none
def kOf : D → Option Ky
  | .int i => some (.inl i)
  | .str x => some (.inr x)
  | _ => none
def ksOf : List D → Option (List Ky)
  | [] => some []
  | x :: xs => (kOf x).bind fun k => (ksOf xs).bind fun ks => some (k :: ks)
def cstD : List D → Bool
  | [.str _, .str _, .str _, .str _, .str _, .str _] => true
  | _ => false
def kOfT : D → Option (List Ky)
  | .tuple xs => if (cstD xs || tuT xs) = true then none else ksOf xs
  | _ => none
def kD : Ky → D
  | .inl i => .int i
  | .inr x => .str x
def aGet {κ : Type} [DecidableEq κ] (kvs : List (κ × D)) (k : κ) : Option D := (kvs.find? fun e => decide (e.1 = k)).map (·.2)
def aPut {κ : Type} [DecidableEq κ] (kvs : List (κ × D)) (k : κ) (v : D) : List (κ × D) :=
  if (kvs.any fun e => decide (e.1 = k)) = true then kvs.map (fun e => if e.1 = k then (e.1, v) else e) else kvs ++ [(k, v)]
def aDrop {κ : Type} [DecidableEq κ] (kvs : List (κ × D)) (k : κ) : List (κ × D) := kvs.filter fun e => decide (e.1 ≠ k)
def cGet : C → D → Option (Option D)
  | .dk kvs, k => (kOf k).bind fun k => some (aGet kvs k)
  | .dt kvs, k => (kOfT k).bind fun k => some (aGet kvs k)
  | _, _ => none
def inDs (x : D) (ys : List D) : Bool := ys.any fun y => PyData.eqv y x
def shallowAll (x : D) (ys : List D) : Bool := nod x && ys.all fun y => shallow y x
def gIn : C → C → Option Res
  | .d x, .d (.list ys) => if shallowAll x ys = true then shB (inDs x ys) else none
  | .d x, .d (.tuple ys) => if shallowAll x ys = true then shB (inDs x ys) else none
  | _, _ => none
def gNotIn : C → C → Option Res
  | .d x, .d (.list ys) => if shallowAll x ys = true then shB (!inDs x ys) else none
  | .d x, .d (.tuple ys) => if shallowAll x ys = true then shB (!inDs x ys) else none
  | _, _ => none
def plc (n : Nat) (i : Int) : Option Nat := if 0 ≤ i then (if i < n then some i.toNat else none) else if -(n : Int) ≤ i then some (i + n).toNat else none
def atD {α : Type} (xs : List α) (i : Int) : Option α := (plc xs.length i).bind fun j => xs[j]?
def gIx : C → C → Option Res
  | .d (.list xs), .d (.int i) => (atD xs i).bind fun x => some (.sh x)
  | .d (.tuple xs), .d (.int i) => (atD xs i).bind fun x => some (.sh x)
  | .d (.str x), .d (.int i) => if x.cps.size ≤ 16777216 then (atD x.cps.toList i).bind fun c => some (.sh (.str ⟨#[c]⟩)) else none
  | _, _ => none
def cutAt (n d : Nat) : Option Int → Nat
  | none => d
  | some i => if i < 0 then (i + (n : Int)).toNat else min i.toNat n
def cutL {α : Type} (xs : List α) (lo hi : Option Int) : List α := (xs.drop (cutAt xs.length 0 lo)).take (cutAt xs.length xs.length hi - cutAt xs.length 0 lo)
def ePart : Option EF → Env → Option (Option Int × Env)
  | none, r => some (none, r)
  | some a, r => (a r).bind fun p => match look p.2 p.1 with
    | some (.d (.int i)) => some (some i, p.2)
    | _ => none
def gSl : C → Option Int → Option Int → Option Res
  | .d (.list xs), lo, hi => some (.fr (.d (.list (cutL xs lo hi))))
  | .d (.tuple xs), lo, hi => some (.sh (.tuple (cutL xs lo hi)))
  | .d (.str x), lo, hi => if x.cps.size ≤ 16777216 then some (.sh (.str ⟨(cutL x.cps.toList lo hi).toArray⟩)) else none
  | _, _, _ => none
def eSl (a : EF) (lo hi : Option EF) : EF := fun r =>
  (a r).bind fun p => (stl p.1).bind fun x => (ePart lo p.2).bind fun l => (ePart hi l.2).bind fun h => (look h.2 x).bind fun c => (gSl c l.1 h.1).bind fun z => some (z, h.2)
def gLen : List C → Option Res
  | [.d (.list xs)] => some (.sh (.int xs.length))
  | [.d (.tuple xs)] => some (.sh (.int xs.length))
  | [.d (.str x)] => if x.cps.size ≤ 16777216 then some (.sh (.int x.cps.size)) else none
  | [.dk kvs] => some (.sh (.int kvs.length))
  | [.dt kvs] => some (.sh (.int kvs.length))
  | _ => none
def gList : List C → Option Res
  | [.d (.list xs)] => some (.fr (.d (.list xs)))
  | [.d (.tuple xs)] => some (.fr (.d (.list xs)))
  | _ => none
def gTuple : List C → Option Res
  | [.d (.list xs)] => some (.sh (.tuple xs))
  | [.d (.tuple xs)] => some (.sh (.tuple xs))
  | _ => none
def rgD (a : Int) (n : Nat) : List D := (List.range n).map fun i => .int (a + (i : Nat))
def iRg (as : List EF) : IF := fun r => (eArgs as r).bind fun p => (looks p.2 p.1).bind fun cs => match cs with
  | [.d (.int j)] => if j.natAbs ≤ 1000000 then some (rgD 0 j.toNat, .no, p.2) else none
  | [.d (.int i), .d (.int j)] => if i.natAbs ≤ 1000000 ∧ j.natAbs ≤ 1000000 then some (rgD i (j - i).toNat, .no, p.2) else none
  | _ => none
inductive Pl where
  | sl (i : Nat)
  | fl (cs : List Str) (i : Nat) (f : Str)
def obOf : C → Option Nat
  | .d (.dict [(.int n, .none)]) => some n.toNat
  | _ => none
def obAt (r : Env) (i : Nat) : Option Nat := match r.sl[i]? with
  | some (.sh x) => obOf (.d x)
  | _ => none
def fldC (cs : List Str) (st : Store) (n : Nat) (f : Str) : Option Fd := (st[n]?).bind fun o => if cs.contains o.cls = true then o.fs.lookup f else none
def ownAt (r : Env) : Pl → Option C
  | .sl i => match r.sl[i]? with
    | some (.ow c) => some c
    | _ => none
  | .fl cs i f => (obAt r i).bind fun n => match fldC cs r.st n f with
    | some (.ow c) => some c
    | _ => none
def ownPut (r : Env) (c : C) : Pl → Env
  | .sl i => r.put i (.ow c)
  | .fl _ i f => match obAt r i with
    | some n => r.putF n f (.ow c)
    | none => r
def isLst : C → Bool
  | .d (.list _) => true
  | _ => false
def eMut (k : C → Bool) (g : C → List D → Option (Res × C)) (q : Pl) (as : List EF) : EF := fun r => (ownAt r q).bind fun c0 => if k c0 = true then
  (eArgs as r).bind fun p => (shares p.2 p.1).bind fun y => (ownAt y.2 q).bind fun c => (g c y.1).bind fun z => some (z.1, ownPut y.2 z.2 q)
  else none
def gApp : C → List D → Option (Res × C)
  | .d (.list xs), [y] => if xs.length < 16777216 then some (.sh .none, .d (.list (xs ++ [y]))) else none
  | _, _ => none
def gDGet : C → C → Option Res
  | c, .d k => (cGet c k).bind fun o => o.bind fun v => some (.sh v)
  | _, _ => none
def gIxA : C → C → Option Res
  | .d x, y => gIx (.d x) y
  | c, y => gDGet c y

def eFld (cs : List Str) (f : Str) (a : EF) : EF := fun r => (a r).bind fun p => (look p.2 p.1).bind fun c => (obOf c).bind fun n => match fldC cs p.2.st n f with
  | some (.d x) => some (.sh x, p.2)
  | some _ => some (.fl n f, p.2)
  | none => none
def okPut (cs : List Str) (st : Store) (n : Nat) (f : Str) : Bool := match st[n]? with
  | none => false
  | some o => cs.contains o.cls && match o.fs.lookup f with
    | some (.lk _) => false
    | some _ => true
    | none => decide (o.fs.length < 100)
def eMeth (m : Str) (tb : List (Str × DF)) (ms : List Bool) (o : EF) (as : List EF) : EF := fun r => (o r).bind fun p => (look p.2 p.1).bind fun c => (obOf c).bind fun n => (p.2.st[n]?).bind fun ob =>
  if (ob.fs.lookup m).isNone = true then (tb.lookup ob.cls).bind fun f => (eArgs as p.2).bind fun q => (passes q.2 ms q.1).bind fun y => (f (.d (obD n) :: y.1) y.2.st).bind fun z => some (z.1, ⟨y.2.sl, z.2⟩) else none
def eNew (cls : Str) (init : DF) (ms : List Bool) (as : List EF) : EF := fun r => (eArgs as r).bind fun p => (passes p.2 ms p.1).bind fun q =>
  (init (.d (obD q.2.st.length) :: q.1) (q.2.st ++ [⟨cls, []⟩])).bind fun z => match z.1 with
    | .sh .none => some (.sh (obD q.2.st.length), ⟨q.2.sl, z.2⟩)
    | _ => none
def leD (a b : D) : Bool := !W.dataLt b a
def sortD (ds : List D) : List D := ds.mergeSort leD
def alikeB (ds : List D) : Bool := ds.all fun x => ds.all fun y => W.alike x y
def tupB : D → Bool
  | .tuple (_ :: _) => true
  | _ => false
def plainB : D → Bool
  | .tuple _ => false
  | .none => false
  | _ => true
def sortB (ds : List D) : Bool := nods ds && alikeB ds && (ds.all tupB || ds.all plainB) && (ds.all fun x => decide (x.depth ≤ 60)) && decide (ds.length ≤ 16777216)
def gSorted : List C → Option Res
  | [.d (.list ds)] => if sortB ds = true then some (.fr (.d (.list (sortD ds)))) else none
  | _ => none
def gNeg : C → Option Res
  | .d (.int i) => some (.sh (.int (-i)))
  | _ => none
def eChain (g h : C → C → Option Res) (a b c : EF) : EF := fun r =>
  (a r).bind fun p => (stl p.1).bind fun x => (b p.2).bind fun q => (stl q.1).bind fun y => (look q.2 x).bind fun u => (look q.2 y).bind fun v => (g u v).bind fun z => match z with
    | .sh (.bool true) => (c q.2).bind fun s => (look s.2 y).bind fun v => (look s.2 s.1).bind fun w => (h v w).bind fun z => some (z, s.2)
    | .sh (.bool false) => some (.sh (.bool false), q.2)
    | _ => none
end CM
end
section
set_option Elab.async false
set_option linter.all false
set_option maxRecDepth 100000
set_option autoImplicit false
namespace CM
open PySem PySem.Spec PyProof.Rows L2

def Ex (H H' : Hp) : Prop := ∀ a o, H a = some o → H' a = some o
theorem Ex.refl (H : Hp) : Ex H H := fun _ _ h => h
theorem Ex.trans {H H1 H2 : Hp} (a : Ex H H1) (b : Ex H1 H2) : Ex H H2 := fun x o h => b x o (a x o h)
theorem Ex.new {H : Hp} {p : Addr} {o : HO} (h : H p = none) : Ex H (upd H p o) := fun a u e => by
  rw [upd_ne (ne_of_none e h)]; exact e
theorem Ex.back {H H' : Hp} {p : Addr} (e : Ex H H') (h : H' p = none) : H p = none := by
  cases h1 : H p with
  | none => rfl
  | some o => rw [e p o h1] at h; cases h
theorem Ex.up2 {H H' : Hp} {p : Addr} {o : HO} (e : Ex H H') (h : H' p = none) : Ex (upd H p o) (upd H' p o) := fun a u q => by
  by_cases z : a = p
  · subst z; rw [upd_same] at q ⊢; exact q
  · rw [upd_ne z] at q ⊢; exact e a u q
theorem Ex.side {H H' : Hp} {p : Addr} {o : HO} (e : Ex H H') (h : H p = none) : Ex H (upd H' p o) := fun a u q => by
  rw [upd_ne (ne_of_none q h)]; exact e a u q
theorem Ex.rd {H H' : Hp} {a : Addr} {u : HO} (e : Ex H H') (h : Rd H a u) : Rd H' a u := by
  rcases h with h | ⟨o, h⟩
  · exact Or.inl (e a _ h)
  · exact Or.inr ⟨o, e a _ h⟩
theorem Ex.l {K : PySem.W.Frag} {H H' : Hp} {a : Addr} {xs : List V} (e : Ex H H') (h : SqL K H a xs) : SqL K H' a xs := by
  rcases h with h | h
  · exact Or.inl (e.rd h)
  · exact Or.inr h
theorem Ex.t {K : PySem.W.Frag} {H H' : Hp} {a : Addr} {xs : List V} (e : Ex H H') (h : SqT K H a xs) : SqT K H' a xs := by
  rcases h with h | h
  · exact Or.inl (e.rd h)
  · exact Or.inr h

inductive Tg where
  | ins (n : Nat)
  | dic (n : Nat)
  | fld (n : Nat) (f : Str)
  | lok (n : Nat) (f : Str)
def Tg.ix : Tg → Nat
  | .ins n => n
  | .dic n => n
  | .fld n _ => n
  | .lok n _ => n
structure KC where
  K : PySem.W.Frag
  mg : Str → Option Value
  w : World
structure Fz where
  f : Hp
  t : Addr → Option Tg
def Fz.put (F : Fz) (p : Addr) (o : HO) : Fz := ⟨upd F.f p o, F.t⟩
def Bt (F : Fz) (p : Addr) (n : Nat) : Prop := F.t p = some (.fld n bxS) ∨ F.t p = some (.lok n bxS)
structure FEi (F F' : Fz) : Prop where
  f : Ex F.f F'.f
  i : ∀ p n, F.t p = some (.ins n) → F'.t p = some (.ins n)
  b : ∀ p n, Bt F p n → Bt F' p n
theorem Bt.same {F F' : Fz} {p : Addr} {n : Nat} (h : Bt F p n) (t : F'.t p = F.t p) : Bt F' p n := by unfold Bt; rw [t]; exact h
theorem FEi.refl (F : Fz) : FEi F F := ⟨.refl _, fun _ _ h => h, fun _ _ h => h⟩
structure FEx (F F' : Fz) : Prop extends FEi F F' where
  l : ∀ p n f, F.t p = some (.lok n f) ↔ F'.t p = some (.lok n f)
theorem FEx.refl (F : Fz) : FEx F F := ⟨.refl F, fun _ _ _ => Iff.rfl⟩
theorem FEx.trans {F F1 F2 : Fz} (a : FEx F F1) (b : FEx F1 F2) : FEx F F2 := ⟨⟨a.f.trans b.f, fun p n h => b.i p n (a.i p n h), fun p n h => b.b p n (a.b p n h)⟩, fun p n f => (a.l p n f).trans (b.l p n f)⟩
theorem FEx.of {F F' : Fz} (f : Ex F.f F'.f) (t : F'.t = F.t) : FEx F F' := ⟨⟨f, fun p n h => by rw [t]; exact h, fun p n h => h.same (by rw [t])⟩, fun p n f => by rw [t]⟩
instance {F F' : Fz} : Coe (FEx F F') (FEi F F') := ⟨FEx.toFEi⟩
theorem FEi.put {F : Fz} {p : Addr} {o : HO} (h : F.f p = none) : FEi F (F.put p o) := ⟨.new h, fun _ _ q => q, fun _ _ q => q⟩
theorem FEx.put {F : Fz} {p : Addr} {o : HO} (h : F.f p = none) : FEx F (F.put p o) := .of (.new h) rfl

def PlT (o : Obj) : Prop := o.cls = .type "tuple" ∧ o.dict = none
def tupO (b : Bool) (o : Obj) (xs : List V) : HO := if b = true then .frz o (.tup xs) else .tup xs
theorem tupO_rd {H : Hp} {a : Addr} {b : Bool} {o : Obj} {xs : List V} (h : H a = some (tupO b o xs)) : Rd H a (.tup xs) := by
  cases b
  · exact Or.inl h
  · exact Or.inr ⟨o, h⟩
def TupAt (K : PySem.W.Frag) (F : Hp) (a : Addr) (xs : List V) (ds : List D) : Prop := (∃ o, PlT o ∧ F a = some (tupO (tuT ds) o xs)) ∨ (SqT K F a xs ∧ cstD ds = true)
theorem TupAt.sq {K : PySem.W.Frag} {F : Hp} {a : Addr} {xs : List V} {ds : List D} (h : TupAt K F a xs ds) : SqT K F a xs := h.elim (fun ⟨_, _, e⟩ => Or.inl (tupO_rd e)) And.left
theorem TupAt.up {K : PySem.W.Frag} {F F' : Hp} {a : Addr} {xs : List V} {ds : List D} (e : Ex F F') (h : TupAt K F a xs ds) : TupAt K F' a xs ds := h.imp (fun ⟨o, p, q⟩ => ⟨o, p, e _ _ q⟩) fun h => ⟨e.t h.1, h.2⟩
theorem TupAt.flat {K : PySem.W.Frag} {F : Hp} {a : Addr} {xs : List V} {ds : List D} (n : tuT ds = false) (h : F a = some (.tup xs)) : TupAt K F a xs ds := .inl ⟨{ cls := .type "tuple", data := .cell none }, ⟨rfl, rfl⟩, by rw [n]; exact h⟩
mutual
inductive Vp (K : KC) (F : Fz) : V → D → Prop
  | non : Vp K F .non .none
  | bl (b : Bool) : Vp K F (.bl b) (.bool b)
  | int (i : Int) : Vp K F (.int i) (.int i)
  | str (x : Str) : Vp K F (.str x) (.str x)
  | lst {a : Addr} {xs : List V} {ds : List D} : SqL K.K F.f a xs → VpAll K F xs ds → Vp K F (.ref a) (.list ds)
  | tup {a : Addr} {xs : List V} {ds : List D} : TupAt K.K F.f a xs ds → VpAll K F xs ds → Vp K F (.ref a) (.tuple ds)
  | ob {p : Addr} {n : Nat} : F.t p = some (.ins n) → Vp K F (.ref p) (.dict [(.int (Int.ofNat n), .none)])
  | bx {p : Addr} {n : Nat} : Bt F p n → Vp K F (.ref p) (.dict [(.int (Int.ofNat n), .bool true)])
  | rt {a : Addr} {s : Str} {i : Int} : (∀ H, SqT K.K H a [.str s, .int i]) → Vp K F (.ref a) (.dict [(.str s, .int i)])
inductive VpAll (K : KC) (F : Fz) : List V → List D → Prop
  | nil : VpAll K F [] []
  | cons {v : V} {vs : List V} {d : D} {ds : List D} : Vp K F v d → VpAll K F vs ds → VpAll K F (v :: vs) (d :: ds)
end
theorem nods_cons {x : D} {xs : List D} (h : nods (x :: xs) = true) : nod x = true ∧ nods xs = true := by
  unfold nods at h
  exact Bool.and_eq_true_iff.mp h
mutual
theorem Vp.up {K : KC} {F F' : Fz} (e : FEi F F') : ∀ (d : D) (v : V), Vp K F v d → Vp K F' v d
  | .none, _, h => by cases h; exact .non
  | .bool b, _, h => by cases h; exact .bl b
  | .int i, _, h => by cases h; exact .int i
  | .str x, _, h => by cases h; exact .str x
  | .list ds, _, h => by
    cases h with
    | lst hs ha => exact .lst (e.f.l hs) (VpAll.up e ds _ ha)
  | .tuple ds, _, h => by
    cases h with
    | tup hs ha => exact .tup (hs.up e.f) (VpAll.up e ds _ ha)
  | .dict _, _, h => by
    cases h with
    | ob a => exact .ob (e.i _ _ a)
    | bx a => exact .bx (e.b _ _ a)
    | rt a => exact .rt a
theorem VpAll.up {K : KC} {F F' : Fz} (e : FEi F F') : ∀ (ds : List D) (vs : List V), VpAll K F vs ds → VpAll K F' vs ds
  | [], _, h => by cases h; exact .nil
  | d :: ds, _, h => by
    cases h with
    | cons h1 h2 => exact .cons (Vp.up e d _ h1) (VpAll.up e ds _ h2)
end
mutual
theorem Vp.dp {K : KC} {F : Fz} {H : Hp} (e : Ex F.f H) : ∀ (d : D) (v : V), Vp K F v d → nod d = true → Dp K.K H v d
  | .none, _, h, _ => by cases h; exact .non
  | .bool b, _, h, _ => by cases h; exact .bl b
  | .int i, _, h, _ => by cases h; exact .int i
  | .str x, _, h, _ => by cases h; exact .str x
  | .list ds, _, h, n => by
    cases h with
    | lst hs ha => exact .lst (e.l hs) (VpAll.dp e ds _ ha (by unfold nod at n; exact n))
  | .tuple ds, _, h, n => by
    cases h with
    | tup hs ha => exact .tup (e.t hs.sq) (VpAll.dp e ds _ ha (by unfold nod at n; exact n))
  | .dict _, _, h, n => by unfold nod at n; cases n
theorem VpAll.dp {K : KC} {F : Fz} {H : Hp} (e : Ex F.f H) : ∀ (ds : List D) (vs : List V), VpAll K F vs ds → nods ds = true → DpAll K.K H vs ds
  | [], _, h, _ => by cases h; exact .nil
  | d :: ds, _, h, n => by
    cases h with
    | cons h1 h2 => exact .cons (Vp.dp e d _ h1 (nods_cons n).1) (VpAll.dp e ds _ h2 (nods_cons n).2)
end
theorem VpAll.length {K : KC} {F : Fz} : ∀ {ds : List D} {vs : List V}, VpAll K F vs ds → vs.length = ds.length
  | [], _, h => by cases h; rfl
  | d :: ds, _, h => by
    cases h with
    | cons h1 h2 => simp [VpAll.length h2]
theorem VpAll.get {K : KC} {F : Fz} : ∀ {ds : List D} {vs : List V} {i : Nat} {d : D}, VpAll K F vs ds → ds[i]? = some d → ∃ v, vs[i]? = some v ∧ Vp K F v d
  | [], _, _, _, h, e => by simp at e
  | d :: ds, _, 0, _, h, e => by
    cases h with
    | cons h1 h2 => simp at e; subst e; exact ⟨_, rfl, h1⟩
  | d :: ds, _, i + 1, _, h, e => by
    cases h with
    | cons h1 h2 =>
      obtain ⟨v, q, r⟩ := VpAll.get (i := i) h2 (by simpa using e)
      exact ⟨v, by simpa using q, r⟩
theorem VpAll.app {K : KC} {F : Fz} : ∀ {ds es : List D} {vs ws : List V}, VpAll K F vs ds → VpAll K F ws es → VpAll K F (vs ++ ws) (ds ++ es)
  | [], _, _, _, h, g => by cases h; exact g
  | d :: ds, _, _, _, h, g => by
    cases h with
    | cons h1 h2 => exact .cons h1 (VpAll.app h2 g)
theorem VpAll.take {K : KC} {F : Fz} : ∀ {ds : List D} {vs : List V} (n : Nat), VpAll K F vs ds → VpAll K F (vs.take n) (ds.take n)
  | [], _, n, h => by cases h; simp; exact .nil
  | d :: ds, _, 0, h => .nil
  | d :: ds, _, n + 1, h => by
    cases h with
    | cons h1 h2 => exact .cons h1 (VpAll.take n h2)
theorem VpAll.drop {K : KC} {F : Fz} : ∀ {ds : List D} {vs : List V} (n : Nat), VpAll K F vs ds → VpAll K F (vs.drop n) (ds.drop n)
  | [], _, n, h => by cases h; simp; exact .nil
  | d :: ds, _, 0, h => h
  | d :: ds, _, n + 1, h => by
    cases h with
    | cons h1 h2 => exact VpAll.drop n h2
theorem VpAll.set {K : KC} {F : Fz} {v : V} {d : D} (g : Vp K F v d) : ∀ {ds : List D} {vs : List V} (n : Nat), VpAll K F vs ds → VpAll K F (vs.set n v) (ds.set n d)
  | [], _, n, h => by cases h; exact .nil
  | e :: ds, _, 0, h => by
    cases h with
    | cons h1 h2 => exact .cons g h2
  | e :: ds, _, n + 1, h => by
    cases h with
    | cons h1 h2 => exact .cons h1 (VpAll.set g n h2)
theorem VpAll.rev {K : KC} {F : Fz} : ∀ {ds : List D} {vs : List V}, VpAll K F vs ds → VpAll K F vs.reverse ds.reverse
  | [], _, h => by cases h; exact .nil
  | d :: ds, _, h => by
    cases h with
    | cons h1 h2 =>
      rw [List.reverse_cons, List.reverse_cons]
      exact VpAll.app (VpAll.rev h2) (.cons h1 .nil)

def KVs (K : KC) (F : Fz) {κ : Type} (es : List (κ × V)) (kvs : List (κ × D)) : Prop := Paired (fun (e : κ × V) (q : κ × D) => e.1 = q.1 ∧ Vp K F e.2 q.2) es kvs
theorem KVs.up {K : KC} {F F' : Fz} (e : FEi F F') {κ : Type} {es : List (κ × V)} {kvs : List (κ × D)} (h : KVs K F es kvs) : KVs K F' es kvs :=
  Paired.mapP h fun a b ⟨h1, h2⟩ => ⟨h1, Vp.up e _ _ h2⟩

abbrev dnO (w : World) (p : Addr) (es : List (NestedKey × Addr × V)) : HO := .ext fun h => es.length ≤ sizeLine ∧ (p == sysModules) = false ∧ ∃ xs : List (NestedKey × Addr × Value), Paired (fun (e : NestedKey × Addr × V) (x : NestedKey × Addr × Value) => e.1 = x.1 ∧ e.2.1 = x.2.1 ∧ RelV e.2.2 x.2.2) es xs ∧
  ∃ o des ep, h.get? p = some o ∧ o.ExactDict ∧ o.data = .dict des ep ∧ des.toList = xs.map (fun x => (⟨x.1.hash w, .ref x.2.1, x.2.2⟩ : DictEntry)) ∧ (xs.map (·.1)).Nodup
def nkT : NestedKey → Bool
  | .tup _ => true
  | _ => false
def NVs (K : KC) (F : Fz) (es : List (NestedKey × Addr × V)) (kvs : List (NestedKey × D)) : Prop := Paired (fun (e : NestedKey × Addr × V) (q : NestedKey × D) => e.1 = q.1 ∧ Vp K F (.ref e.2.1) q.1.data ∧ q.1.depth ≤ 8 ∧ nkT q.1 = true ∧ Vp K F e.2.2 q.2) es kvs
theorem NVs.up {K : KC} {F F' : Fz} (e : FEi F F') {es : List (NestedKey × Addr × V)} {kvs : List (NestedKey × D)} (h : NVs K F es kvs) : NVs K F' es kvs :=
  Paired.mapP h fun a b ⟨h1, h2, h3, h4, h5⟩ => ⟨h1, Vp.up e _ _ h2, h3, h4, Vp.up e _ _ h5⟩
def Bd (K : KC) (F : Fz) (H : Hp) (v : V) : C → Prop
  | .d (.list ds) => ∃ p xs, v = .ref p ∧ SqL K.K H p xs ∧ VpAll K F xs ds
  | .d x => Vp K F v x
  | .dk kvs => ∃ p es, v = .ref p ∧ Rd H p (.dK es) ∧ KVs K F es kvs
  | .dt kvs => ∃ p es, v = .ref p ∧ Rd H p (.dT es) ∧ KVs K F es kvs
  | .dn kvs => ∃ p es, v = .ref p ∧ Rd H p (dnO K.w p es) ∧ NVs K F es kvs
def Od (K : KC) (F : Fz) (H : Hp) (p : Addr) : C → Prop
  | .d (.list ds) => ∃ xs, H p = some (.lst xs) ∧ VpAll K F xs ds
  | .d _ => False
  | .dk kvs => ∃ es, H p = some (.dK es) ∧ KVs K F es kvs
  | .dt kvs => ∃ es, H p = some (.dT es) ∧ KVs K F es kvs
  | .dn kvs => ∃ es, H p = some (dnO K.w p es) ∧ NVs K F es kvs
def OdR (K : KC) (F : Fz) (H : Hp) (p : Addr) : C → Prop
  | .d (.list ds) => ∃ xs, H p = some (.lst xs) ∧ VpAll K F xs ds
  | .d _ => False
  | .dk kvs => ∃ es, Rd H p (.dK es) ∧ KVs K F es kvs
  | .dt kvs => ∃ es, Rd H p (.dT es) ∧ KVs K F es kvs
  | .dn kvs => ∃ es, Rd H p (dnO K.w p es) ∧ NVs K F es kvs
section
variable {K : KC} {F F' : Fz} {H H' B H0 F0 : Hp} {v : V} {c : C} {x : D} {p : Addr}
theorem Bd.of (h : Vp K F v x) (e : Ex F.f H) : Bd K F H v (.d x) := by
  cases x with
  | list ds =>
    cases h with
    | lst hs ha => exact ⟨_, _, rfl, e.l hs, ha⟩
  | _ => exact h
theorem Bd.up (h : Bd K F H v c) (e : FEi F F') (e' : Ex H H') : Bd K F' H' v c := by
  cases c with
  | d x =>
    cases x with
    | list ds => obtain ⟨p, xs, r, a, b⟩ := h; exact ⟨p, xs, r, e'.l a, VpAll.up e _ _ b⟩
    | _ => exact Vp.up e _ _ h
  | dk kvs => obtain ⟨p, es, r, a, b⟩ := h; exact ⟨p, es, r, e'.rd a, b.up e⟩
  | dt kvs => obtain ⟨p, es, r, a, b⟩ := h; exact ⟨p, es, r, e'.rd a, b.up e⟩
  | dn kvs => obtain ⟨p, es, r, a, b⟩ := h; exact ⟨p, es, r, e'.rd a, b.up e⟩
theorem Od.bd (h : Od K F H p c) : Bd K F H (.ref p) c := by
  cases c with
  | d x =>
    cases x with
    | list ds => obtain ⟨xs, a, b⟩ := h; exact ⟨p, xs, rfl, SqL.of a, b⟩
    | _ => exact h.elim
  | dk kvs => obtain ⟨es, a, b⟩ := h; exact ⟨p, es, rfl, .inl a, b⟩
  | dt kvs => obtain ⟨es, a, b⟩ := h; exact ⟨p, es, rfl, .inl a, b⟩
  | dn kvs => obtain ⟨es, a, b⟩ := h; exact ⟨p, es, rfl, .inl a, b⟩
theorem Od.up (h : Od K F H p c) (e : FEi F F') (e' : ∀ o, H p = some o → H' p = some o) : Od K F' H' p c := by
  cases c with
  | d x =>
    cases x with
    | list ds => obtain ⟨xs, a, b⟩ := h; exact ⟨xs, e' _ a, VpAll.up e _ _ b⟩
    | _ => exact h.elim
  | dk kvs => obtain ⟨es, a, b⟩ := h; exact ⟨es, e' _ a, b.up e⟩
  | dt kvs => obtain ⟨es, a, b⟩ := h; exact ⟨es, e' _ a, b.up e⟩
  | dn kvs => obtain ⟨es, a, b⟩ := h; exact ⟨es, e' _ a, b.up e⟩
theorem Od.ne (h : Od K F H p c) : H p ≠ none := by
  cases c with
  | d x =>
    cases x with
    | list ds => obtain ⟨xs, a, b⟩ := h; rw [a]; exact fun z => by cases z
    | _ => exact h.elim
  | dk kvs => obtain ⟨es, a, b⟩ := h; rw [a]; exact fun z => by cases z
  | dt kvs => obtain ⟨es, a, b⟩ := h; rw [a]; exact fun z => by cases z
  | dn kvs => obtain ⟨es, a, b⟩ := h; rw [a]; exact fun z => by cases z
theorem Od.nfz {o : Obj} {u : HO} (h : Od K F H p c) (e : H p = some (.frz o u)) : False := by
  cases c with
  | d x =>
    cases x with
    | list ds => obtain ⟨xs, a, b⟩ := h; rw [e] at a; cases a
    | _ => exact h.elim
  | dk kvs => obtain ⟨es, a, b⟩ := h; rw [e] at a; cases a
  | dt kvs => obtain ⟨es, a, b⟩ := h; rw [e] at a; cases a
  | dn kvs => obtain ⟨es, a, b⟩ := h; rw [e] at a; cases a
theorem Od.r (h : Od K F H p c) : OdR K F H p c := by
  cases c with
  | d x =>
    cases x with
    | list ds => exact h
    | _ => exact h.elim
  | dk kvs => obtain ⟨es, a, b⟩ := h; exact ⟨es, .inl a, b⟩
  | dt kvs => obtain ⟨es, a, b⟩ := h; exact ⟨es, .inl a, b⟩
  | dn kvs => obtain ⟨es, a, b⟩ := h; exact ⟨es, .inl a, b⟩
theorem OdR.od (h : OdR K F H p c) (n : ∀ o u, H p ≠ some (.frz o u)) : Od K F H p c := by
  cases c with
  | d x =>
    cases x with
    | list ds => exact h
    | _ => exact h.elim
  | dk kvs =>
    obtain ⟨es, a, b⟩ := h
    exact ⟨es, a.elim id fun ⟨o, w⟩ => absurd w (n _ _), b⟩
  | dt kvs =>
    obtain ⟨es, a, b⟩ := h
    exact ⟨es, a.elim id fun ⟨o, w⟩ => absurd w (n _ _), b⟩
  | dn kvs =>
    obtain ⟨es, a, b⟩ := h
    exact ⟨es, a.elim id fun ⟨o, w⟩ => absurd w (n _ _), b⟩
theorem OdR.bd (h : OdR K F H p c) : Bd K F H (.ref p) c := by
  cases c with
  | d x =>
    cases x with
    | list ds => obtain ⟨xs, a, b⟩ := h; exact ⟨p, xs, rfl, SqL.of a, b⟩
    | _ => exact h.elim
  | dk kvs => obtain ⟨es, a, b⟩ := h; exact ⟨p, es, rfl, a, b⟩
  | dt kvs => obtain ⟨es, a, b⟩ := h; exact ⟨p, es, rfl, a, b⟩
  | dn kvs => obtain ⟨es, a, b⟩ := h; exact ⟨p, es, rfl, a, b⟩
theorem OdR.up (h : OdR K F H p c) (e : FEi F F') (e' : ∀ o, H p = some o → H' p = some o) : OdR K F' H' p c := by
  cases c with
  | d x =>
    cases x with
    | list ds => obtain ⟨xs, a, b⟩ := h; exact ⟨xs, e' _ a, VpAll.up e _ _ b⟩
    | _ => exact h.elim
  | dk kvs => obtain ⟨es, a, b⟩ := h; exact ⟨es, a.imp (e' _) fun ⟨o, w⟩ => ⟨o, e' _ w⟩, b.up e⟩
  | dt kvs => obtain ⟨es, a, b⟩ := h; exact ⟨es, a.imp (e' _) fun ⟨o, w⟩ => ⟨o, e' _ w⟩, b.up e⟩
  | dn kvs => obtain ⟨es, a, b⟩ := h; exact ⟨es, a.imp (e' _) fun ⟨o, w⟩ => ⟨o, e' _ w⟩, b.up e⟩
theorem Bd.dp (h : Bd K F H v (.d x)) (e : Ex F.f H) (n : nod x = true) : Dp K.K H v x := by
  cases x with
  | list ds => obtain ⟨p, xs, rfl, a, b⟩ := h; exact .lst a (VpAll.dp e _ _ b (by unfold nod at n; exact n))
  | _ => exact Vp.dp e _ _ h n
end

def FdOk (K : KC) (F : Fz) (H : Hp) (n : Nat) (f : Str) (v : V) : Fd → Prop
  | .d x => Vp K F v x
  | .ow c => ∃ q, v = .ref q ∧ F.t q = some (.fld n f) ∧ Od K F H q c
  | .lk c => ∃ q, v = .ref q ∧ F.t q = some (.lok n f) ∧ OdR K F H q c
def FdsOk (K : KC) (F : Fz) (H : Hp) (n : Nat) (es : List (Str × V)) (fs : List (Str × Fd)) : Prop := Paired (fun (e : Str × V) (q : Str × Fd) => e.1 = q.1 ∧ FdOk K F H n e.1 e.2 q.2) es fs
def ObOk (K : KC) (F : Fz) (H : Hp) (p : Addr) (n : Nat) (o : Ob) : Prop :=
  ∃ C dx es, K.mg o.cls = some (.ref C) ∧ H p = some (.ins C dx es) ∧ F.t dx = some (.dic n) ∧ FdsOk K F H n es o.fs ∧ (o.fs.map (·.1)).Nodup ∧ o.fs.length ≤ 100
def TupO (o : HO) : Prop := ∃ xs, o = .tup xs
theorem Od.noT {K : KC} {F : Fz} {H : Hp} {p : Addr} {c : C} {o : HO} (h : Od K F H p c) (t : TupO o) : H p ≠ some o := fun e => by
  obtain ⟨xs, rfl⟩ := t
  cases c with
  | d x => cases x with
    | list ds => obtain ⟨ys, a, _⟩ := h; rw [e] at a; cases a
    | _ => exact h
  | dk kvs => obtain ⟨es, a, _⟩ := h; rw [e] at a; cases a
  | dt kvs => obtain ⟨es, a, _⟩ := h; rw [e] at a; cases a
  | dn kvs => obtain ⟨es, a, _⟩ := h; rw [e] at a; cases a
theorem OdR.noT {K : KC} {F : Fz} {H : Hp} {p : Addr} {c : C} {o : HO} (h : OdR K F H p c) (t : TupO o) : H p ≠ some o := fun e => by
  obtain ⟨xs, rfl⟩ := t
  cases c with
  | d x => cases x with
    | list ds => obtain ⟨ys, a, _⟩ := h; rw [e] at a; cases a
    | _ => exact h
  | dk kvs => obtain ⟨es, a, _⟩ := h; rcases a with a | ⟨_, a⟩ <;> rw [e] at a <;> cases a
  | dt kvs => obtain ⟨es, a, _⟩ := h; rcases a with a | ⟨_, a⟩ <;> rw [e] at a <;> cases a
  | dn kvs => obtain ⟨es, a, _⟩ := h; rcases a with a | ⟨_, a⟩ <;> rw [e] at a <;> cases a
structure StOk (K : KC) (H0 : Hp) (F : Fz) (H : Hp) (st : Store) : Prop where
  ob : ∀ p n, F.t p = some (.ins n) → ∃ o, st[n]? = some o ∧ ObOk K F H p n o
  inj : ∀ p q t, F.t p = some t → F.t q = some t → p = q
  sep : ∀ p t, F.t p = some t → F.f p = none ∧ H p ≠ none ∧ (H0 p = none ∨ ∃ n f, t = .lok n f)
  ix : ∀ p t, F.t p = some t → t.ix < st.length
  tf : ∀ p n f, F.t p = some (.fld n f) → ∃ c, fldAt st n f = some (.ow c)
  tl : ∀ p n f, F.t p = some (.lok n f) → ∃ c, fldAt st n f = some (.lk c)
  od : ∀ p n f c, F.t p = some (.fld n f) → fldAt st n f = some (.ow c) → Od K F H p c
  odr : ∀ p n f c, F.t p = some (.lok n f) → fldAt st n f = some (.lk c) → OdR K F H p c
  bi : ∀ p q n, Bt F p n → F.t q ≠ some (.ins n)
  dn : ∀ p n, F.t p = some (.dic n) → ∀ xs, H p ≠ some (.tup xs)
theorem ntKeep {H H' : Hp} {p : Addr} (b : H p ≠ none) (n : ∀ xs, H p ≠ some (.tup xs)) (k : ∀ o, H p = some o → H' p = some o) : ∀ xs, H' p ≠ some (.tup xs) := fun xs e => by
  cases w : H p with
  | none => exact b w
  | some u =>
    have := k u w
    rw [e] at this
    cases this
    exact n xs w
section
variable {K : KC} {F F' : Fz} {H H' B H0 : Hp} {n : Nat} {f : Str} {v : V} {p : Addr} {st : Store}
theorem StOk.noT {H0 : Hp} {t : Tg} {o : HO} (s : StOk K H0 F H st) (h : F.t p = some t) (i : TupO o) : H p ≠ some o := by
  cases t with
  | ins n =>
    obtain ⟨o', _, _, _, _, _, b, _⟩ := s.ob p n h
    intro e
    obtain ⟨xs, rfl⟩ := i
    rw [e] at b; cases b
  | dic n =>
    obtain ⟨xs, rfl⟩ := i
    exact s.dn p n h xs
  | fld n f =>
    obtain ⟨c, e⟩ := s.tf p n f h
    exact (s.od p n f c h e).noT i
  | lok n f =>
    obtain ⟨c, e⟩ := s.tl p n f h
    exact (s.odr p n f c h e).noT i
theorem StOk.noT' {H0 : Hp} {t : Tg} {o : HO} (s : StOk K H0 F H st) (h : F.t p = some t) (i : TupO o) (k : ∀ u, H p = some u → H' p = some u) : H' p ≠ some o := fun e => by
  cases w : H p with
  | none => exact (s.sep p t h).2.1 w
  | some u =>
    have := k u w
    rw [e] at this
    cases this
    exact s.noT h i w
theorem FdOk.up {d : Fd} (h : FdOk K F H n f v d) (e : FEx F F') (t : ∀ q g, F.t q = some (.fld n g) → F'.t q = some (.fld n g) ∧ ∀ o, H q = some o → H' q = some o) (l : ∀ q g, F.t q = some (.lok n g) → ∀ o, H q = some o → H' q = some o) : FdOk K F' H' n f v d := by
  cases d with
  | d x => exact Vp.up e _ _ h
  | ow c =>
    obtain ⟨q, a, b, c⟩ := h
    exact ⟨q, a, (t q f b).1, c.up e (t q f b).2⟩
  | lk c =>
    obtain ⟨q, a, b, c⟩ := h
    exact ⟨q, a, (e.l q n f).mp b, c.up e (l q f b)⟩
theorem FdsOk.up {es : List (Str × V)} {fs : List (Str × Fd)} (h : FdsOk K F H n es fs) (e : FEx F F') (t : ∀ q g, F.t q = some (.fld n g) → F'.t q = some (.fld n g) ∧ ∀ o, H q = some o → H' q = some o) (l : ∀ q g, F.t q = some (.lok n g) → ∀ o, H q = some o → H' q = some o) : FdsOk K F' H' n es fs :=
  Paired.mapP h fun _ _ ⟨a, b⟩ => ⟨a, b.up e t l⟩
theorem FdsOk.lookup : ∀ {es : List (Str × V)} {fs : List (Str × Fd)} {d : Fd}, FdsOk K F H n es fs → fs.lookup f = some d → ∃ v, es.lookup f = some v ∧ FdOk K F H n f v d
  | _, _, _, .nil, q => by cases q
  | (g, v) :: es, (g', w) :: fs, d, .cons ⟨h1, h2⟩ r, q => by
    have h1 : g = g' := h1
    subst h1
    by_cases z : (f == g) = true
    · have e : f = g := beq_iff_eq.mp z
      subst e
      simp only [List.lookup, z] at q ⊢
      cases q
      exact ⟨v, rfl, h2⟩
    · have z : (f == g) = false := by simpa using z
      simp only [List.lookup, z] at q ⊢
      exact FdsOk.lookup r q
theorem FdsOk.lookup_none : ∀ {es : List (Str × V)} {fs : List (Str × Fd)}, FdsOk K F H n es fs → fs.lookup f = none → es.lookup f = none
  | _, _, .nil, q => rfl
  | (g, v) :: es, (g', w) :: fs, .cons ⟨h1, h2⟩ r, q => by
    have h1 : g = g' := h1
    subst h1
    by_cases z : (f == g) = true
    · simp only [List.lookup, z] at q
      cases q
    · have z : (f == g) = false := by simpa using z
      simp only [List.lookup, z] at q ⊢
      exact FdsOk.lookup_none r q
theorem StOk.same (s : StOk K H0 F H st) (e : FEx F F') (t : F'.t = F.t) (h : ∀ q, F.t q ≠ none → ∀ o, H q = some o → H' q = some o) (f : ∀ q, F.t q ≠ none → F'.f q = none) : StOk K H0 F' H' st := by
  refine ⟨fun p n q => ?_, fun p q u a b => s.inj p q u (by rw [← t]; exact a) (by rw [← t]; exact b), fun p u q => ?_, fun p u q => s.ix p u (by rw [← t]; exact q), fun p n f q => s.tf p n f (by rw [← t]; exact q), fun p n f q => s.tl p n f (by rw [← t]; exact q), fun p n f c q w => ?_, fun p n f c q w => ?_, fun p q n b w => s.bi p q n (b.same (by rw [t])) (by rw [← t]; exact w), fun p n q => by rw [t] at q; exact ntKeep (s.sep p _ q).2.1 (s.dn p n q) (h p (by rw [q]; exact fun z => by cases z))⟩
  · rw [t] at q
    obtain ⟨o, a, C, dx, es, b, c, d, g, k⟩ := s.ob p n q
    refine ⟨o, a, C, dx, es, b, h p (by rw [q]; exact fun z => by cases z) _ c, by rw [t]; exact d, g.up e (fun q g w => ⟨by rw [t]; exact w, h q (by rw [w]; exact fun z => by cases z)⟩) (fun q g w => h q (by rw [w]; exact fun z => by cases z)), k⟩
  · rw [t] at q
    obtain ⟨a, b, c⟩ := s.sep p u q
    refine ⟨f p (by rw [q]; exact fun z => by cases z), ?_, c⟩
    cases w : H p with
    | none => exact absurd w b
    | some o => rw [h p (by rw [q]; exact fun z => by cases z) _ w]; exact fun z => by cases z
  · rw [t] at q
    exact (s.od p n f c q w).up e (h p (by rw [q]; exact fun z => by cases z))
  · rw [t] at q
    exact (s.odr p n f c q w).up e (h p (by rw [q]; exact fun z => by cases z))
theorem StOk.weak {H1 : Hp} (s : StOk K H0 F H st) (h : ∀ p t, F.t p = some t → H0 p = none → H1 p = none) : StOk K H1 F H st :=
  ⟨s.ob, s.inj, fun p t q => let ⟨a, b, c⟩ := s.sep p t q; ⟨a, b, c.imp (h p t q) id⟩, s.ix, s.tf, s.tl, s.od, s.odr, s.bi, s.dn⟩
end

def SlotOk (K : KC) (B H0 : Hp) (F : Fz) (H : Hp) (x : Option (Option V)) : Slot → Prop
  | .no => True
  | .sh d => ∃ v, x = some (some v) ∧ Vp K F v d
  | .bo c => ∃ v, x = some (some v) ∧ Bd K F B v c
  | .lk c => ∃ v, x = some (some v) ∧ Bd K F B v c
  | .ow c => ∃ p, x = some (some (.ref p)) ∧ H0 p = none ∧ F.f p = none ∧ F.t p = none ∧ Od K F H p c

structure J (K : KC) (B H0 F0 : Hp) (F : Fz) (H : Hp) (σ : L2.St) (r : Env) : Prop where
  eb : Ex B H0
  e0 : Ex H0 H
  ef : Ex F0 F.f
  fh : Ex F.f H
  nw : ∀ a o, F.f a = some o → F0 a = some o ∨ H0 a = none ∨ TupO o
  so : StOk K H0 F H r.st
  len : σ.length = r.sl.length
  sl : ∀ (i : Nat) (s : Slot), r.sl[i]? = some s → SlotOk K B H0 F H (σ[i]?) s
  dj : ∀ (i j : Nat) (c e : C) (p : Addr), r.sl[i]? = some (.ow c) → r.sl[j]? = some (.ow e) → σ[i]? = some (some (.ref p)) → σ[j]? = some (some (.ref p)) → i = j

structure Grow (F : Fz) (H : Hp) (F' : Fz) (H' : Hp) : Prop where
  f : Ex F.f F'.f
  t : F'.t = F.t
  h : Ex H H'
  fh : Ex F'.f H'
  nw : ∀ a o, F'.f a = some o → F.f a = some o ∨ H a = none ∨ TupO o
structure Ge (b : Bool) (F : Fz) (H : Hp) (r : Env) (F' : Fz) (H' : Hp) (r' : Env) : Prop where
  f : FEx F F'
  k : ∀ (i : Nat) (s : Slot), Lent s → r'.sl[i]? = some s → r.sl[i]? = some s
  q : b = true → Ex H H' ∧ F'.t = F.t ∧ r'.st = r.st

section
variable {K : KC} {F F' F1 : Fz} {H H' H1 B H0 F0 : Hp} {σ : L2.St} {r r' : Env} {v : V} {c : C} {x : D} {p : Addr} {s : Slot} {y : Option (Option V)} {b b' : Bool} {st : Store} {r1 : Env}
theorem Ge.refl : Ge b F H r F H r := ⟨.refl _, fun _ _ _ h => h, fun _ => ⟨.refl _, rfl, rfl⟩⟩
theorem Ge.trans (a : Ge b F H r F1 H1 r1) (g : Ge b' F1 H1 r1 F' H' r') : Ge (b && b') F H r F' H' r' := ⟨a.f.trans g.f, fun i c l h => a.k i c l (g.k i c l h), fun h => by
  rw [Bool.and_eq_true] at h
  obtain ⟨a1, a2, a3⟩ := a.q h.1
  obtain ⟨b1, b2, b3⟩ := g.q h.2
  exact ⟨a1.trans b1, b2.trans a2, b3.trans a3⟩⟩
theorem Ge.weak (a : Ge b F H r F' H' r') : Ge false F H r F' H' r' := ⟨a.f, a.k, fun h => by cases h⟩
theorem Ge.qt (a : Ge b F H r F1 H1 r1) (g : Ge true F1 H1 r1 F' H' r') : Ge b F H r F' H' r' := by
  have := a.trans g
  rw [Bool.and_true] at this
  exact this
theorem Ge.tq (a : Ge true F H r F1 H1 r1) (g : Ge b F1 H1 r1 F' H' r') : Ge b F H r F' H' r' := by
  have := a.trans g
  rw [Bool.true_and] at this
  exact this
theorem Grow.fe (g : Grow F H F' H') : FEx F F' := .of g.f g.t
theorem Grow.ge (g : Grow F H F' H') : Ge b F H r F' H' r := ⟨g.fe, fun _ _ _ h => h, fun _ => ⟨g.h, g.t, rfl⟩⟩
theorem Ge.fr (e : Ex F.f F'.f) (t : F'.t = F.t) : Ge b F H r F' H r := ⟨.of e t, fun _ _ _ h => h, fun _ => ⟨.refl _, t, rfl⟩⟩
theorem Grow.refl (h : Ex F.f H) : Grow F H F H := ⟨.refl _, rfl, .refl _, h, fun _ _ q => .inl q⟩
theorem Grow.trans (a : Grow F H F1 H1) (b : Grow F1 H1 F' H') : Grow F H F' H' := ⟨a.f.trans b.f, b.t.trans a.t, a.h.trans b.h, b.fh, fun z o q => by
  rcases b.nw z o q with h | h | h
  · exact a.nw z o h
  · exact .inr (.inl (a.h.back h))
  · exact .inr (.inr h)⟩
theorem Grow.put {o : HO} (e : Ex F.f H) (h : H p = none) : Grow F H (F.put p o) (upd H p o) := ⟨.new (e.back h), rfl, .new h, e.up2 h, fun a u q => by
  by_cases z : a = p
  · subst z; exact .inr (.inl h)
  · rw [show (F.put p o).f = upd F.f p o from rfl, upd_ne z] at q; exact .inl q⟩
theorem Grow.lay {o : HO} (e : Ex F.f H) (h : H p = none) : Grow F H F (upd H p o) := ⟨.refl _, rfl, .new h, e.side (e.back h), fun _ _ q => .inl q⟩
theorem SlotOk.up (h : SlotOk K B H0 F H y s) (g : Grow F H F' H') : SlotOk K B H0 F' H' y s := by
  cases s with
  | no => trivial
  | sh d => obtain ⟨v, a, b⟩ := h; exact ⟨v, a, Vp.up g.fe _ _ b⟩
  | bo c => obtain ⟨v, a, b⟩ := h; exact ⟨v, a, b.up g.fe (.refl _)⟩
  | lk c => obtain ⟨v, a, b⟩ := h; exact ⟨v, a, b.up g.fe (.refl _)⟩
  | ow c =>
    obtain ⟨p, a, b, d, t, e⟩ := h
    refine ⟨p, a, b, ?_, by rw [g.t]; exact t, e.up g.fe fun o q => g.h _ _ q⟩
    cases q : F'.f p with
    | none => rfl
    | some o =>
      rcases g.nw p o q with z | z | z
      · rw [d] at z; cases z
      · exact absurd z e.ne
      · exact absurd (g.fh _ _ q) ((e.up (F' := F') g.fe fun o q => g.h _ _ q).noT z)
theorem J.grow (j : J K B H0 F0 F H σ r) (g : Grow F H F' H') : J K B H0 F0 F' H' σ r :=
  ⟨j.eb, j.e0.trans g.h, j.ef.trans g.f, g.fh, fun a o q => by
    rcases g.nw a o q with z | z | z
    · exact j.nw a o z
    · exact .inr (.inl (j.e0.back z))
    · exact .inr (.inr z), j.so.same g.fe g.t (fun q _ o w => g.h _ _ w) (fun q w => by
      cases t : F.t q with
      | none => exact absurd t w
      | some u =>
        obtain ⟨a, b, _⟩ := j.so.sep q u t
        cases z : F'.f q with
        | none => rfl
        | some o =>
          rcases g.nw q o z with y | y | y
          · rw [a] at y; cases y
          · exact absurd y b
          · exact absurd (g.fh _ _ z) (j.so.noT' t y fun u w => g.h _ _ w)), j.len, fun i s q => (j.sl i s q).up g, j.dj⟩
def FldV (F : Fz) (H : Hp) (n : Nat) (f : Str) (v : V) : Prop := (∃ p C dx es, F.t p = some (.ins n) ∧ H p = some (.ins C dx es) ∧ es.lookup f = some v) ∨ ∃ q, v = .ref q ∧ f = bxS ∧ Bt F q n
theorem FldV.up {n : Nat} {f : Str} (h : FldV F H n f v) (e : FEi F F') (g : Ex H H') : FldV F' H' n f v := by
  rcases h with ⟨p, C, dx, es, t, hp, l⟩ | ⟨a, h1, h2, b⟩
  · exact .inl ⟨p, C, dx, es, e.i _ _ t, g _ _ hp, l⟩
  · exact .inr ⟨a, h1, h2, e.b _ _ b⟩
def ResOk (K : KC) (H0 : Hp) (F : Fz) (H : Hp) (σ : L2.St) (r : Env) (v : V) : Res → Prop
  | .sh x => Vp K F v x
  | .fr c => ∃ p, v = .ref p ∧ H0 p = none ∧ F.f p = none ∧ F.t p = none ∧ Od K F H p c ∧ ∀ (i : Nat) (e : C), r.sl[i]? = some (.ow e) → σ[i]? ≠ some (some (.ref p))
  | .sl i => σ[i]? = some (some v)
  | .fl n f => FldV F H n f v
def RetOk (K : KC) (H0 : Hp) (F : Fz) (H : Hp) (v : V) : Res → Prop
  | .sh x => Vp K F v x
  | .fr c => ∃ p, v = .ref p ∧ H0 p = none ∧ F.f p = none ∧ F.t p = none ∧ Od K F H p c
  | .sl _ => False
  | .fl _ _ => False
theorem J.ownH (j : J K B H0 F0 F H σ r) {i : Nat} {e : C} (h : r.sl[i]? = some (.ow e)) (q : σ[i]? = some (some (.ref p))) : H p ≠ none ∧ F.t p = none := by
  obtain ⟨p', a, _, _, t, d⟩ := j.sl i _ h
  rw [q] at a; cases a
  exact ⟨d.ne, t⟩
theorem RetOk.res {z : Res} (j : J K B H0 F0 F H σ r) (g : Grow F H F' H') (h : RetOk K H F' H' v z) : ResOk K H0 F' H' σ r v z := by
  cases z with
  | sh x => exact h
  | fr c =>
    obtain ⟨p, a, b, d, t, e⟩ := h
    exact ⟨p, a, j.e0.back b, d, t, e, fun i e q z => (j.ownH q z).1 b⟩
  | sl i => exact h.elim
  | fl n f => exact h.elim

theorem StOk.field {n : Nat} {f : Str} {d : Fd} {C dx : Addr} {es : List (Str × V)} (s : StOk K H0 F H st) (t : F.t p = some (.ins n)) (h : H p = some (.ins C dx es)) (l : es.lookup f = some v) (q : fldAt st n f = some d) : FdOk K F H n f v d := by
  obtain ⟨o, a, C', dx', es', _, c, _, g, _⟩ := s.ob p n t
  rw [h] at c; cases c
  unfold fldAt at q
  rw [a] at q
  obtain ⟨v', b, k⟩ := g.lookup q
  rw [l] at b; cases b
  exact k
theorem StOk.fieldV {n : Nat} {f : Str} {d : Fd} (s : StOk K H0 F H st) (h : FldV F H n f v) (q : fldAt st n f = some d) : FdOk K F H n f v d := by
  rcases h with ⟨p, C, dx, es, t, hp, l⟩ | ⟨a, rfl, rfl, b⟩
  · exact s.field t hp l q
  · rcases b with b | b
    · obtain ⟨c, w⟩ := s.tf _ _ _ b
      rw [w] at q; cases q
      exact ⟨a, rfl, b, s.od _ _ _ _ b w⟩
    · obtain ⟨c, w⟩ := s.tl _ _ _ b
      rw [w] at q; cases q
      exact ⟨a, rfl, b, s.odr _ _ _ _ b w⟩
theorem ResOk.look {z : Res} (j : J K B H0 F0 F H σ r) (h : ResOk K H0 F H σ r v z) (q : look r z = some c) : Bd K F H v c := by
  cases z with
  | sh x => cases q; exact Bd.of h j.fh
  | fr c =>
    cases q
    obtain ⟨p, rfl, _, _, _, o, _⟩ := h
    exact o.bd
  | fl n f =>
    have h : FldV F H n f v := h
    unfold CM.look at q
    dsimp only at q
    split at q
    · rename_i x e
      cases q
      have k : Vp K F v x := j.so.fieldV h e
      exact Bd.of k j.fh
    · rename_i x e
      cases q
      obtain ⟨q', rfl, _, o⟩ := j.so.fieldV h e
      exact o.bd
    · rename_i x e
      cases q
      obtain ⟨q', rfl, _, o⟩ := j.so.fieldV h e
      exact o.bd
    · cases q
  | sl i =>
    have h : σ[i]? = some (some v) := h
    unfold CM.look at q
    dsimp only at q
    split at q
    · rename_i x e
      cases q
      obtain ⟨v', a, b⟩ := j.sl i _ e
      rw [h] at a; cases a
      exact Bd.of b j.fh
    · rename_i x e
      cases q
      obtain ⟨v', a, b⟩ := j.sl i _ e
      rw [h] at a; cases a
      exact b.up (.refl _) (j.eb.trans j.e0)
    · rename_i x e
      cases q
      obtain ⟨p, a, _, _, _, o⟩ := j.sl i _ e
      rw [h] at a; cases a
      exact o.bd
    · rename_i x e
      cases q
      obtain ⟨v', a, b⟩ := j.sl i _ e
      rw [h] at a; cases a
      exact b.up (.refl _) (j.eb.trans j.e0)
    · cases q
end
end CM
end
section
set_option Elab.async false
set_option linter.all false
set_option maxRecDepth 100000
set_option autoImplicit false
namespace CM
open PySem PySem.Spec PyProof.Rows L2
section
variable {X : Cx} {pins : List (Addr × Obj)} {σ : L2.St} {H : Hp} {s : Shared} {h' : Heap}
theorem laidZ {tk : Nat} {xs : List V} {us : List Value} {b : Bool} {o : Obj} {Q : VK} (I : Inv X pins σ H s) (kp : ∀ c u, s.heap.get? c = some u → h'.get? c = some u) (hz : xs.length ≤ sizeLine) (r : Vals xs us) {n : Nat} (ho : o = { cls := .type "tuple", data := .seq us.toArray n })
    (q : ∀ p o, H p = none → PlT o → Q (.ref p) (upd H p (tupO b o xs))) : EP X pins σ Q (.ref h'.objs.size) { s with heap := h'.push o, toks := tk } := by
  have I1 : Inv X pins σ H { s with heap := h', toks := tk } := I.kept kp
  have f : H h'.objs.size = none := I1.hok.fresh (Nat.le_refl _)
  subst ho
  have at' : (h'.push { cls := .type "tuple", data := .seq us.toArray n }).get? h'.objs.size = some { cls := .type "tuple", data := .seq us.toArray n } := Heap.get?_push_size _ rfl
  refine ⟨.ref h'.objs.size, upd H h'.objs.size (tupO b { cls := .type "tuple", data := .seq us.toArray n } xs), I1.laid (t' := tk) (fun c u e => Heap.get?_push_of_some _ e) (Nat.le_refl _) ?_, rfl, q _ _ f ⟨rfl, rfl⟩⟩
  cases b
  · exact ⟨hz, us, r, ⟨_, at', rfl, n, rfl⟩⟩
  · exact ⟨at', hz, us, r, ⟨_, at', rfl, n, rfl⟩⟩
end
def tTupZ (t : TA) : TE := fun σ H Q => t σ H fun xs H1 => xs.length ≤ sizeLine ∧ ∃ b : Bool, ∀ p o, H1 p = none → PlT o → Q (.ref p) (upd H1 p (tupO b o xs))
section
variable {X : Cx} {es : List Expr} {t : TA} {pos : Pos}
theorem pe_tupZ {x1} (h : PA X es t) : PE X (.Tuple es x1 pos) (tTupZ t) := by
  refine ⟨fun pins s σ H Q I hq => wpAny_Tuple_spliced (thn (h.run pos pins s σ H _ I hq) fun us s1 ⟨xs, H1, I1, r, z, b, q⟩ => ⟨by rw [← r.length]; exact z, ?_⟩)⟩
  exact laidZ (tk := s1.toks) I1 (fun _ _ e => e) z r (n := _) rfl q
theorem op_catZ : OpR X (binaryOp .Add) (fun x y H Q => ∃ a b xs ys, x = .ref a ∧ y = .ref b ∧ SqT X.K H a xs ∧ SqT X.K H b ys ∧ xs.length + ys.length ≤ sizeLine ∧
    (xs = [] → Q (.ref b) H) ∧ (xs ≠ [] → ys = [] → Q (.ref a) H) ∧ (∃ c : Bool, ∀ p o, H p = none → PlT o → Q (.ref p) (upd H p (tupO c o (xs ++ ys))))) := by
  intro pins s σ H x y v u Q I rx ry h
  obtain ⟨a, b, xs, ys, rfl, rfl, ha, hb, hz, q0, q1, c, q2⟩ := h
  by_cases hx : xs = []
  · exact op_catA pins s σ H _ _ v u Q I rx ry ⟨a, b, xs, ys, rfl, rfl, ha, hb, hz, q0, fun z => absurd hx z, fun z => absurd hx z⟩
  · cases rx
    cases ry
    obtain ⟨i1, r1, p1, _⟩ := I.tuple ha
    obtain ⟨i2, r2, p2, _⟩ := I.tuple hb
    refine HT.cat_tup p1 p2 (fun z => hx (r1.nil_iff.mp z)) (fun z => ⟨.ref a, H, I, rfl, q1 hx (r2.nil_iff.mp z)⟩) (fun z => ?_) (by rw [← r1.length, ← r2.length]; exact hz)
    exact laidZ (tk := s.toks) I (fun _ _ e => e) (by rw [List.length_append]; exact hz) (r1.append r2) (n := _) rfl q2
theorem sl_tupZ : SlR X (fun x lo hi H Q => ∃ a xs, x = .ref a ∧ SqT X.K H a xs ∧ (HT.sIx xs.length 0 lo = 0 ∧ HT.sIx xs.length xs.length hi = xs.length → Q (.ref a) H) ∧
    (∃ c : Bool, ∀ p o, H p = none → PlT o → Q (.ref p) (upd H p (tupO c o (cutV xs lo hi))))) := by
  intro pins s σ H x v vl vu lo hi sl Q I rx hs pl pu h
  obtain ⟨a, xs, e, hx, q1, c, q2⟩ := h
  by_cases hw : HT.sIx xs.length 0 lo = 0 ∧ HT.sIx xs.length xs.length hi = xs.length
  · exact sl_tupA pins s σ H _ v vl vu lo hi sl Q I rx hs pl pu ⟨a, xs, e, hx, q1, fun z => absurd hw z⟩
  · subst e
    cases rx
    obtain ⟨its, r, ht, hz⟩ := I.tuple hx
    have hl : its.toArray.size = xs.length := by rw [List.size_toArray, r.length]
    refine ⟨"tuple", _, PyProof.Rows.slot_tuple_getitem.lookup, ht.typeIs, HT.getItem_tuple_cut ht hs pl pu (by rw [hl]; exact hw) ?_ (by rw [hl]; exact hz)⟩
    rw [hl]
    exact laidZ (tk := s.toks) I (fun _ _ e => e) (Nat.le_trans (cutV_length xs lo hi) hz) ((r.drop _).take _) (n := _) rfl q2
theorem call_tupleZ : CallR X (.type "tuple") (fun xs H Q => ∃ p ys, xs = [.ref p] ∧ ((SqL X.K H p ys ∧ ∃ c : Bool, ∀ l o, H l = none → PlT o → Q (.ref l) (upd H l (tupO c o ys))) ∨ (SqT X.K H p ys ∧ Q (.ref p) H))) := by
  intro pins s σ H xs us Q I r h
  obtain ⟨p, ys, e, h⟩ := h
  rcases h with ⟨hq, c, q⟩ | h
  · subst e
    obtain ⟨u, rfl, rx⟩ := vals1 r
    cases rx
    obtain ⟨its, r', pl, hz⟩ := I.list hq
    exact call_tuple_list pl.isList (fun h' kp => laidZ (tk := s.toks) I kp hz r' (n := _) rfl q) (by rw [List.size_toArray, ← r'.length]; exact hz)
  · exact call_tuple_of pins s σ H xs us Q I r ⟨p, ys, e, .inr h⟩
end
end CM
end
section
set_option Elab.async false
set_option linter.all false
set_option maxRecDepth 100000
set_option autoImplicit false
namespace L2
abbrev Cx.kc (X : Cx) : CM.KC := ⟨X.K, X.mg, X.w⟩
end L2
namespace CM
open PySem PySem.Spec PyProof.Rows L2

section
variable {K : KC} {F F' F1 : Fz} {H H' H1 B H0 F0 : Hp} {σ : L2.St} {r r' : Env} {v : V} {c : C} {x : D} {p : Addr} {s : Slot}

theorem J.freeze (j : J K B H0 F0 F H σ r) {o : HO} (h0 : H0 p = none) (hf : F.f p = none) (ht : F.t p = none) (hh : H p = some o) (hn : ∀ (i : Nat) (e : C), r.sl[i]? = some (.ow e) → σ[i]? ≠ some (some (.ref p))) :
    J K B H0 F0 (F.put p o) H σ r := by
  have ef : FEx F (F.put p o) := .put hf
  refine ⟨j.eb, j.e0, j.ef.trans ef.f, fun a u q => ?_, fun a u q => ?_, j.so.same ef rfl (fun _ _ _ w => w) (fun q w => ?_), j.len, fun i s q => ?_, j.dj⟩
  · by_cases z : a = p
    · subst z; rw [show (F.put a o).f = upd F.f a o from rfl, upd_same] at q; rw [hh]; exact q
    · rw [show (F.put p o).f = upd F.f p o from rfl, upd_ne z] at q; exact j.fh a u q
  · by_cases z : a = p
    · subst z; exact .inr (.inl h0)
    · rw [show (F.put p o).f = upd F.f p o from rfl, upd_ne z] at q; exact j.nw a u q
  · have z : q ≠ p := fun z => by subst z; exact w ht
    cases t : F.t q with
    | none => exact absurd t w
    | some u =>
      show upd F.f p o q = none
      rw [upd_ne z]
      exact (j.so.sep q u t).1
  · have b := j.sl i s q
    cases s with
    | no => trivial
    | sh d => obtain ⟨v, a, b⟩ := b; exact ⟨v, a, Vp.up ef _ _ b⟩
    | bo c => obtain ⟨v, a, b⟩ := b; exact ⟨v, a, b.up ef (.refl _)⟩
    | lk c => obtain ⟨v, a, b⟩ := b; exact ⟨v, a, b.up ef (.refl _)⟩
    | ow c =>
      obtain ⟨p', a, b, d, t, e⟩ := b
      refine ⟨p', a, b, ?_, t, e.up ef fun _ q => q⟩
      have ne : p' ≠ p := fun z => hn i c q (by rw [← z]; exact a)
      show upd F.f p o p' = none
      rw [upd_ne ne]; exact d
theorem put_at {r : Env} {i k : Nat} {s t : Slot} (q : (r.put i s).sl[k]? = some t) : (i = k ∧ t = s ∧ i < r.sl.length) ∨ (i ≠ k ∧ r.sl[k]? = some t) := by
  have q : (r.sl.set i s)[k]? = some t := q
  by_cases z : i = k
  · subst z
    rw [List.getElem?_set_self'] at q
    cases w : r.sl[i]? with
    | none => rw [w] at q; cases q
    | some t' =>
      rw [w] at q; cases q
      refine .inl ⟨rfl, rfl, ?_⟩
      rcases Nat.lt_or_ge i r.sl.length with y | y
      · exact y
      · rw [List.getElem?_eq_none_iff.mpr y] at w; cases w
  · rw [List.getElem?_set_ne z] at q; exact .inr ⟨z, q⟩
theorem put_len {r : Env} {i : Nat} {s : Slot} : (r.put i s).sl.length = r.sl.length := List.length_set
theorem J.put (j : J K B H0 F0 F H σ r) {i : Nat} (h : SlotOk K B H0 F H (σ[i]?) s) (hs : ∀ c, s ≠ .ow c) : J K B H0 F0 F H σ (r.put i s) := by
  refine ⟨j.eb, j.e0, j.ef, j.fh, j.nw, j.so, by rw [put_len]; exact j.len, fun k t q => ?_, fun k l c e p h1 h2 h3 h4 => ?_⟩
  · rcases put_at q with ⟨rfl, rfl, _⟩ | ⟨_, q⟩
    · exact h
    · exact j.sl k t q
  · have g : ∀ {k : Nat} {c : C}, (r.put i s).sl[k]? = some (.ow c) → r.sl[k]? = some (.ow c) := fun {k c} q => by
      rcases put_at q with ⟨rfl, z, _⟩ | ⟨_, q⟩
      · exact absurd z.symm (hs c)
      · exact q
    exact j.dj k l c e p (g h1) (g h2) h3 h4

theorem toSh_ok {z : Res} (q : toSh r z = some (x, r')) (j : J K B H0 F0 F H σ r) (h : ResOk K H0 F H σ r v z) : ∃ F', Ge true F H r F' H r' ∧ J K B H0 F0 F' H σ r' ∧ Vp K F' v x := by
  cases z with
  | sh y => cases q; exact ⟨F, .refl, j, h⟩
  | fr c =>
    cases c with
    | d y =>
      cases q
      obtain ⟨p, rfl, h0, hf, ht, o, hn⟩ := h
      cases x with
      | list ds =>
        obtain ⟨xs, a, b⟩ := o
        exact ⟨F.put p (.lst xs), .fr (.new hf) rfl, j.freeze h0 hf ht a hn, .lst (SqL.of upd_same) (VpAll.up (.put hf) _ _ b)⟩
      | _ => exact o.elim
    | dk _ => cases q
    | dt _ => cases q
    | dn _ => cases q
  | fl n f =>
    have h : FldV F H n f v := h
    unfold toSh at q
    dsimp only at q
    split at q
    · rename_i y e
      cases q
      exact ⟨F, .refl, j, j.so.fieldV h e⟩
    · cases q
  | sl i =>
    have h : σ[i]? = some (some v) := h
    unfold toSh at q
    dsimp only at q
    split at q
    · rename_i y e
      cases q
      obtain ⟨v', a, b⟩ := j.sl i _ e
      rw [h] at a; cases a
      exact ⟨F, .refl, j, b⟩
    · rename_i y e
      cases q
      obtain ⟨p, a, h0, hf, ht, o⟩ := j.sl i _ e
      rw [h] at a; cases a
      cases x with
      | list ds =>
        obtain ⟨xs, a, b⟩ := o
        have dp : Vp K (F.put p (.lst xs)) (.ref p) (.list ds) := .lst (SqL.of upd_same) (VpAll.up (.put hf) _ _ b)
        have j1 : J K B H0 F0 F H σ (r.put i .no) := j.put trivial (fun c z => by cases z)
        have hn : ∀ (k : Nat) (e : C), (r.put i .no).sl[k]? = some (.ow e) → σ[k]? ≠ some (some (.ref p)) := fun k c q z => by
          rcases put_at q with ⟨_, w, _⟩ | ⟨w, q⟩
          · cases w
          · exact w (j.dj i k _ _ p e q h z)
        have j2 := j1.freeze h0 hf ht a hn
        have j3 := j2.put (i := i) (s := .sh (.list ds)) ⟨_, h, dp⟩ (fun c z => by cases z)
        have er : (r.put i .no).put i (.sh (.list ds)) = r.put i (.sh (.list ds)) := by
          show Env.mk _ _ = Env.mk _ _
          show Env.mk ((r.sl.set i .no).set i _) _ = _
          rw [List.set_set]
          rfl
        rw [er] at j3
        exact ⟨F.put p (.lst xs), ⟨.of (.new hf) rfl, fun k c y q => by
          rcases put_at q with ⟨_, w, _⟩ | ⟨_, q⟩
          · subst w; exact y.elim
          · exact q, fun _ => ⟨.refl _, rfl, rfl⟩⟩, j3, dp⟩
      | _ => exact o.elim
    · cases q
theorem settle_ok {z z' : Res} (q : stl z = some z') (j : J K B H0 F0 F H σ r) (h : ResOk K H0 F H σ r v z) : ∃ F', Ge true F H r F' H r ∧ J K B H0 F0 F' H σ r ∧ ResOk K H0 F' H σ r v z' := by
  cases z with
  | sh y => cases q; exact ⟨F, .refl, j, h⟩
  | sl i => cases q; exact ⟨F, .refl, j, h⟩
  | fl n f => cases q
  | fr c =>
    cases c with
    | d y =>
      cases q
      obtain ⟨F', e, j', d⟩ := toSh_ok (z := .fr (.d y)) (r' := r) (x := y) rfl j h
      exact ⟨F', e, j', d⟩
    | dk _ => cases q
    | dt _ => cases q
    | dn _ => cases q
def Still : Res → Prop
  | .fr _ => False
  | .fl _ _ => False
  | _ => True
theorem settle_still {z z' : Res} (q : stl z = some z') : Still z' := by
  cases z with
  | sh y => cases q; trivial
  | sl i => cases q; trivial
  | fl n f => cases q
  | fr c => cases c <;> cases q; trivial
theorem ResOk.later {z : Res} (t : Still z) (h : ResOk K H0 F H σ r v z) (e : FEx F F') : ResOk K H0 F' H' σ r' v z := by
  cases z with
  | sh y => exact Vp.up e _ _ h
  | sl i => exact h
  | fl n f => exact t.elim
  | fr c => exact t.elim

def RE (K : KC) (b : Bool) (t : TE) (f : EF) : Prop := ∀ (B H0 F0 : Hp) (F : Fz) (H : Hp) (σ : L2.St) (r : Env) (z : Res) (r' : Env), f r = some (z, r') → J K B H0 F0 F H σ r →
  ∀ Q : VK, (∀ F' H' v, Ge b F H r F' H' r' → J K B H0 F0 F' H' σ r' → ResOk K H0 F' H' σ r' v z → Q v H') → t σ H Q
structure DE (X : Cx) (b : Bool) (e : Expr) (f : EF) : Prop where
  ex : ∃ t, PE X e t ∧ RE X.kc b t f
def RsOk (K : KC) (H0 : Hp) (F : Fz) (H : Hp) (σ : L2.St) (r : Env) : List V → List Res → Prop := Paired fun v z => Still z ∧ ResOk K H0 F H σ r v z
theorem RsOk.later {vs : List V} {zs : List Res} (h : RsOk K H0 F H σ r vs zs) (e : FEx F F') : RsOk K H0 F' H' σ r' vs zs := Paired.mapP h fun _ _ ⟨a, b⟩ => ⟨a, b.later a e⟩
def RA (K : KC) (b : Bool) (t : TA) (fs : List EF) : Prop := ∀ (B H0 F0 : Hp) (F : Fz) (H : Hp) (σ : L2.St) (r : Env) (zs : List Res) (r' : Env), eArgs fs r = some (zs, r') → J K B H0 F0 F H σ r →
  ∀ Q : List V → Hp → Prop, (∀ F' H' vs, Ge b F H r F' H' r' → J K B H0 F0 F' H' σ r' → RsOk K H0 F' H' σ r' vs zs → Q vs H') → t σ H Q
structure DA (X : Cx) (b : Bool) (es : List Expr) (fs : List EF) : Prop where
  ex : ∃ t, PA X es t ∧ RA X.kc b t fs
def RT (K : KC) (t : TT) (f : TF) : Prop := ∀ (B H0 F0 : Hp) (F : Fz) (H : Hp) (σ : L2.St) (r : Env) (b : Bool) (r' : Env), f r = some (b, r') → J K B H0 F0 F H σ r →
  ∀ Q : Bool → Hp → Prop, (∀ F' H', Ge false F H r F' H' r' → J K B H0 F0 F' H' σ r' → Q b H') → t σ H Q
structure DT (X : Cx) (e : Expr) (f : TF) : Prop where
  ex : ∃ t, PT X e t ∧ RT X.kc t f
structure DW (X : Cx) (e : Expr) (f : TF) : Prop where
  ex : ∃ t, PW X e t ∧ RT X.kc t f

theorem looks_ok (j : J K B H0 F0 F H σ r) : ∀ {zs : List Res} {vs : List V} {cs : List C}, looks r zs = some cs → RsOk K H0 F H σ r vs zs → Paired (Bd K F H) vs cs
  | [], _, cs, q, h => by cases h; cases q; exact .nil
  | z :: zs, _, cs, q, h => by
    cases h with
    | cons h1 h2 =>
      simp only [looks, Option.bind_eq_some_iff] at q
      obtain ⟨c, q1, cs', q2, q3⟩ := q
      cases q3
      exact .cons (h1.2.look j q1) (looks_ok j q2 h2)
theorem shares_ok : ∀ {zs : List Res} {F : Fz} {vs : List V} {xs : List D} {r r' : Env}, shares r zs = some (xs, r') → J K B H0 F0 F H σ r → RsOk K H0 F H σ r vs zs → ∃ F', Ge true F H r F' H r' ∧ J K B H0 F0 F' H σ r' ∧ VpAll K F' vs xs
  | [], F, _, xs, r, r', q, j, h => by cases h; cases q; exact ⟨F, .refl, j, .nil⟩
  | z :: zs, F, _, xs, r, r', q, j, h => by
    cases h with
    | cons h1 h2 =>
      simp only [shares, Option.bind_eq_some_iff] at q
      obtain ⟨⟨x, r1⟩, q1, ⟨ys, r2⟩, q2, q3⟩ := q
      cases q3
      obtain ⟨F1, e1, j1, d1⟩ := toSh_ok q1 j h1.2
      obtain ⟨F2, e2, j2, d2⟩ := shares_ok q2 j1 (RsOk.later h2 e1.f)
      exact ⟨F2, e1.trans e2, j2, .cons (Vp.up e2.f _ _ d1) d2⟩
def ArgsOk (K : KC) (F : Fz) (H : Hp) : List Bool → List V → List C → Prop
  | [], [], [] => True
  | true :: ms, v :: vs, c :: cs => (∃ x, c = .d x ∧ Vp K F v x) ∧ ArgsOk K F H ms vs cs
  | false :: ms, v :: vs, c :: cs => Bd K F H v c ∧ ArgsOk K F H ms vs cs
  | _, _, _ => False
theorem ArgsOk.length : ∀ {ms : List Bool} {vs : List V} {cs : List C}, ArgsOk K F H ms vs cs → vs.length = ms.length
  | [], [], [], _ => rfl
  | true :: ms, v :: vs, c :: cs, h => by simp [ArgsOk.length (ms := ms) h.2]
  | false :: ms, v :: vs, c :: cs, h => by simp [ArgsOk.length (ms := ms) h.2]
theorem Bd.priv {c : C} {G : Hp} (h : Bd K F H v c) (hg : ∀ p o, v = .ref p → H p = some o → G p = some o) : Bd K F G v c := by
  cases c with
  | d x =>
    cases x with
    | list ds =>
      obtain ⟨p, xs, e, a, b⟩ := h
      refine ⟨p, xs, e, ?_, b⟩
      rcases a with (a | ⟨o, a⟩) | a
      · exact .inl (.inl (hg p _ e a))
      · exact .inl (.inr ⟨o, hg p _ e a⟩)
      · exact .inr a
    | _ => exact h
  | dk kvs =>
    obtain ⟨p, es, e, a, b⟩ := h
    refine ⟨p, es, e, ?_, b⟩
    rcases a with a | ⟨o, a⟩
    · exact .inl (hg p _ e a)
    · exact .inr ⟨o, hg p _ e a⟩
  | dt kvs =>
    obtain ⟨p, es, e, a, b⟩ := h
    refine ⟨p, es, e, ?_, b⟩
    rcases a with a | ⟨o, a⟩
    · exact .inl (hg p _ e a)
    · exact .inr ⟨o, hg p _ e a⟩
  | dn kvs =>
    obtain ⟨p, es, e, a, b⟩ := h
    refine ⟨p, es, e, ?_, b⟩
    rcases a with a | ⟨o, a⟩
    · exact .inl (hg p _ e a)
    · exact .inr ⟨o, hg p _ e a⟩
def priv (F : Fz) (H : Hp) : Hp := fun a => match F.t a with
  | none => H a
  | some (.lok _ _) => H a
  | _ => none
theorem priv_ex : Ex (priv F H) H := fun a o q => by
  unfold priv at q
  split at q
  · exact q
  · exact q
  · cases q
theorem priv_no {a : Addr} {o : HO} (t : F.t a = none) (h : H a = some o) : priv F H a = some o := by
  unfold priv
  rw [t]
  exact h
theorem J.priv (j : J K B H0 F0 F H σ r) : Ex H0 (priv F H) := fun a o q => by
  unfold CM.priv
  split
  · exact j.e0 _ _ q
  · exact j.e0 _ _ q
  · rename_i t h1 h2
    cases w : F.t a with
    | none => exact absurd w h1
    | some u =>
      rcases (j.so.sep a u w).2.2 with z | ⟨n, f, z⟩
      · rw [q] at z; cases z
      · subst z; exact absurd w (h2 n f)
theorem ResOk.lent {z : Res} (j : J K B H0 F0 F H σ r) (h : ResOk K H0 F H σ r v z) (t : Still z) (q : CM.look r z = some c) : Bd K F (CM.priv F H) v c := by
  cases z with
  | fr c => exact t.elim
  | fl n f => exact t.elim
  | sh x =>
    cases q
    have h : Vp K F v x := h
    cases x with
    | list ds =>
      cases h with
      | lst hs ha =>
        refine ⟨_, _, rfl, ?_, ha⟩
        rcases hs with (a | ⟨o, a⟩) | a
        · exact .inl (.inl (priv_no (by
            cases w : F.t _ with
            | none => rfl
            | some u => have := (j.so.sep _ u w).1; rw [a] at this; cases this) (j.fh _ _ a)))
        · exact .inl (.inr ⟨o, priv_no (by
            cases w : F.t _ with
            | none => rfl
            | some u => have := (j.so.sep _ u w).1; rw [a] at this; cases this) (j.fh _ _ a)⟩)
        · exact .inr a
    | _ => exact h
  | sl i =>
    have b := h.look j q
    have h : σ[i]? = some (some v) := h
    unfold CM.look at q
    dsimp only at q
    split at q
    · rename_i x e
      cases q
      obtain ⟨v', a, d⟩ := j.sl i _ e
      rw [h] at a; cases a
      cases x with
      | list ds =>
        cases d with
        | lst hs ha =>
          refine ⟨_, _, rfl, ?_, ha⟩
          rcases hs with (a | ⟨o, a⟩) | a
          · exact .inl (.inl (priv_no (by
              cases w : F.t _ with
              | none => rfl
              | some u => have := (j.so.sep _ u w).1; rw [a] at this; cases this) (j.fh _ _ a)))
          · exact .inl (.inr ⟨o, priv_no (by
              cases w : F.t _ with
              | none => rfl
              | some u => have := (j.so.sep _ u w).1; rw [a] at this; cases this) (j.fh _ _ a)⟩)
          · exact .inr a
      | _ => exact d
    · rename_i x e
      cases q
      obtain ⟨v', a, d⟩ := j.sl i _ e
      rw [h] at a; cases a
      exact d.up (.refl _) (j.eb.trans j.priv)
    · rename_i x e
      cases q
      obtain ⟨p, a, _, _, t, o⟩ := j.sl i _ e
      rw [h] at a; cases a
      exact b.priv fun p' o' e' hp => by
        cases e'
        exact priv_no t hp
    · rename_i x e
      cases q
      obtain ⟨v', a, d⟩ := j.sl i _ e
      rw [h] at a; cases a
      exact d.up (.refl _) (j.eb.trans j.priv)
    · cases q
theorem ArgsOk.up : ∀ {ms : List Bool} {vs : List V} {cs : List C}, ArgsOk K F H ms vs cs → FEx F F' → Ex H H' → ArgsOk K F' H' ms vs cs
  | [], [], [], _, _, _ => trivial
  | true :: ms, v :: vs, c :: cs, ⟨⟨x, a, b⟩, h⟩, e, e' => ⟨⟨x, a, Vp.up e _ _ b⟩, ArgsOk.up (ms := ms) h e e'⟩
  | false :: ms, v :: vs, c :: cs, ⟨a, h⟩, e, e' => ⟨a.up e e', ArgsOk.up (ms := ms) h e e'⟩
theorem passes_ok : ∀ {ms : List Bool} {zs : List Res} {F : Fz} {vs : List V} {cs : List C} {r r' : Env}, passes r ms zs = some (cs, r') → J K B H0 F0 F H σ r → RsOk K H0 F H σ r vs zs → ∃ F', Ge true F H r F' H r' ∧ J K B H0 F0 F' H σ r' ∧ ArgsOk K F' (CM.priv F' H) ms vs cs
  | [], [], F, vs, cs, r, r', q, j, h => by cases h; cases q; exact ⟨F, .refl, j, trivial⟩
  | [], _ :: _, F, vs, cs, r, r', q, j, h => by cases q
  | m :: ms, [], F, vs, cs, r, r', q, j, h => by cases m <;> cases q
  | true :: ms, z :: zs, F, _, cs, r, r', q, j, h => by
    cases h with
    | cons h1 h2 =>
      simp only [passes, Option.bind_eq_some_iff] at q
      obtain ⟨⟨x, r1⟩, q1, ⟨ys, r2⟩, q2, q3⟩ := q
      cases q3
      obtain ⟨F1, e1, j1, d1⟩ := toSh_ok q1 j h1.2
      obtain ⟨F2, e2, j2, d2⟩ := passes_ok q2 j1 (RsOk.later h2 e1.f)
      exact ⟨F2, e1.trans e2, j2, ⟨_, rfl, Vp.up e2.f _ _ d1⟩, d2⟩
  | false :: ms, z :: zs, F, _, cs, r, r', q, j, h => by
    cases h with
    | cons h1 h2 =>
      simp only [passes, Option.bind_eq_some_iff] at q
      obtain ⟨c, q1, ⟨ys, r2⟩, q2, q3⟩ := q
      cases q3
      obtain ⟨F2, e2, j2, d2⟩ := passes_ok q2 j h2
      have ep : Ex (CM.priv F H) (CM.priv F2 H) := fun a o w => by
        obtain ⟨_, t, _⟩ := e2.q rfl
        unfold CM.priv at w ⊢
        rw [t]
        exact w
      exact ⟨F2, e2, j2, (h1.2.lent j h1.1 q1).up e2.f ep, d2⟩
end
end CM
end
section
set_option Elab.async false
set_option linter.all false
set_option maxRecDepth 100000
set_option autoImplicit false
namespace CM
open PySem PySem.Spec PyProof.Rows L2
section
variable {X : Cx} {e a b : Expr} {es : List Expr} {fa fb : EF} {fs : List EF} {pos : Pos} {q1 q2 : Bool}
theorem de_var (i : Nat) {x : Str} (hN : X.N[i]? = some x := by rfl) (hv : Vis X.env.scope x := by first | exact Or.inl rfl | exact Or.inr (Or.inl rfl) | exact Or.inr (Or.inr rfl)) (hd : (x == ("__debug__" : Str)) = false := by decide)
    (hcd : (x == ("__classdict__" : Str)) = false := by decide) : DE X true (.Name x pos) (eVar i) :=
  ⟨_, pe_var hN hv hd hcd, fun B H0 F0 F H σ r z r' q j Q k => by
    unfold eVar at q
    split at q
    · rename_i y e
      cases q
      obtain ⟨v, a, b⟩ := j.sl i _ e
      exact ⟨v, a, k F H v .refl j a⟩
    · rename_i y e
      cases q
      obtain ⟨v, a, b⟩ := j.sl i _ e
      exact ⟨v, a, k F H v .refl j a⟩
    · rename_i y e
      cases q
      obtain ⟨p, a, b⟩ := j.sl i _ e
      exact ⟨.ref p, a, k F H _ .refl j a⟩
    · rename_i y e
      cases q
      obtain ⟨v, a, b⟩ := j.sl i _ e
      exact ⟨v, a, k F H v .refl j a⟩
    · cases q⟩
theorem re_c {K : KC} {v : V} {d : D} (h : ∀ F, Vp K F v d) : RE K true (tC v) (eC d) := fun B H0 F0 F H σ r z r' q j Q k => by
  cases q
  exact k F H v .refl j (h F)
theorem de_int {i : Int} {j pos} : DE X true (.Constant (.int i) j pos) (eC (.int i)) := ⟨_, pe_int, re_c fun _ => .int i⟩
theorem de_bl {b : Bool} {j pos} : DE X true (.Constant (.bool b) j pos) (eC (.bool b)) := ⟨_, pe_bl, re_c fun _ => .bl b⟩
theorem de_non {j pos} : DE X true (.Constant .none j pos) (eC .none) := ⟨_, pe_non, re_c fun _ => .non⟩
theorem de_str {x : Str} {j pos} : DE X true (.Constant (.str x) j pos) (eC (.str x)) := ⟨_, pe_str, re_c fun _ => .str x⟩
theorem J.tagged {K : KC} {B H0 F0 : Hp} {F : Fz} {H : Hp} {σ : L2.St} {r : Env} (j : J K B H0 F0 F H σ r) : ∀ p, H p = none → F.t p = none := fun p hp => by
  cases w : F.t p with
  | none => rfl
  | some u => exact absurd hp (j.so.sep p u w).2.1
def ROp (K : KC) (o : R2) (g : C → C → Option Res) : Prop := ∀ (F : Fz) (H : Hp) (x y : V) (a b : C) (z : Res), Ex F.f H → (∀ p, H p = none → F.t p = none) → Bd K F H x a → Bd K F H y b → g a b = some z →
  ∀ Q : VK, (∀ F' H' v, Grow F H F' H' → RetOk K H F' H' v z → Q v H') → o x y H Q
structure DOp (X : Cx) (f : Value → Value → Sem Value) (g : C → C → Option Res) : Prop where
  ex : ∃ o, OpR X f o ∧ ROp X.kc o g
theorem re_op {K : KC} {o : R2} {g : C → C → Option Res} {ta tb : TE} (ho : ROp K o g) (ha : RE K q1 ta fa) (hb : RE K q2 tb fb) : RE K (q1 && q2) (tOp o ta tb) (eOp g fa fb) := by
  intro B H0 F0 F H σ r z r' q j Q k
  simp only [eOp, Option.bind_eq_some_iff] at q
  obtain ⟨⟨za, r1⟩, q1, za', q2, ⟨zb, r2⟩, q3, u, q4, v, q5, w, q6, q7⟩ := q
  cases q7
  refine ha _ _ _ _ _ _ _ _ _ q1 j _ fun F1 H1 x e1 j1 k1 => ?_
  obtain ⟨F2, e2, j2, k2⟩ := settle_ok q2 j1 k1
  refine hb _ _ _ _ _ _ _ _ _ q3 j2 _ fun F3 H3 y e3 j3 k3 => ?_
  refine ho F3 H3 x y u v z j3.fh j3.tagged ((k2.later (settle_still q2) e3.f).look j3 q4) (k3.look j3 q5) q6 Q fun F4 H4 y' g4 o4 => ?_
  exact k F4 H4 y' ((e1.qt e2).trans (e3.qt g4.ge)) (j3.grow g4) (o4.res j3 g4)
theorem de_op {op : Operator} {g : C → C → Option Res} (ho : DOp X (binaryOp op) g) (ha : DE X q1 a fa) (hb : DE X q2 b fb) : DE X (q1 && q2) (.BinOp a op b pos) (eOp g fa fb) := by
  obtain ⟨o, h1, h2⟩ := ho.ex
  obtain ⟨ta, a1, a2⟩ := ha.ex
  obtain ⟨tb, b1, b2⟩ := hb.ex
  exact ⟨_, pe_op h1 a1 b1, re_op h2 a2 b2⟩
theorem de_cmp {op : CmpOp} {g : C → C → Option Res} (ho : DOp X (compareOp op) g) (ha : DE X q1 a fa) (hb : DE X q2 b fb) (hm : behindInMarks op b = false := by rfl) : DE X (q1 && q2) (.Compare a [op] [b] pos) (eOp g fa fb) := by
  obtain ⟨o, h1, h2⟩ := ho.ex
  obtain ⟨ta, a1, a2⟩ := ha.ex
  obtain ⟨tb, b1, b2⟩ := hb.ex
  exact ⟨_, pe_cmpR h1 a1 b1 hm, re_op h2 a2 b2⟩
theorem RE.bool {K : KC} {t : TE} {f : EF} (h : RE K q1 t f) {B H0 F0 : Hp} {F : Fz} {H : Hp} {σ : L2.St} {r r' : Env} {b : Bool} (q : tE f r = some (b, r')) (j : J K B H0 F0 F H σ r) (Q : VK) (k : ∀ F' H', Ge q1 F H r F' H' r' → J K B H0 F0 F' H' σ r' → Q (.bl b) H') : t σ H Q := by
  simp only [tE, Option.bind_eq_some_iff] at q
  obtain ⟨⟨z, r1⟩, q1, q2⟩ := q
  dsimp only at q2
  split at q2
  · rename_i w e
    cases q2
    refine h _ _ _ _ _ _ _ _ _ q1 j _ fun F1 H1 x e1 j1 k1 => ?_
    have hd : Vp K F1 x (.bool b) := k1.look j1 e
    cases hd
    exact k F1 H1 e1 j1
  · cases q2
theorem rt_test {K : KC} {t : TE} {f : EF} (h : RE K q1 t f) : RT K (tTest t) (tE f) := by
  intro B H0 F0 F H σ r b r' q j Q k
  exact h.bool q j _ fun F1 H1 e1 j1 => ⟨b, rfl, k F1 H1 e1.weak j1⟩
theorem dt_cmp {op : CmpOp} {g : C → C → Option Res} (ho : DOp X (compareOp op) g) (ha : DE X q1 a fa) (hb : DE X q2 b fb) (hm : behindInMarks op b = false := by rfl) : DT X (.Compare a [op] [b] pos) (tE (eOp g fa fb)) := by
  obtain ⟨o, h1, h2⟩ := ho.ex
  obtain ⟨ta, a1, a2⟩ := ha.ex
  obtain ⟨tb, b1, b2⟩ := hb.ex
  exact ⟨_, pt_cmpR h1 a1 b1 hm, rt_test (re_op h2 a2 b2)⟩
theorem dt_val (h : DE X q1 e fa) (he : ∀ whole, isTrue e X.env whole = (do let v ← whole; standAt e.pos; holding [v] (truthy v)) := by intro _; rfl) : DT X e (tE fa) := by
  obtain ⟨t, a1, a2⟩ := h.ex
  exact ⟨_, pt_val a1 he, rt_test a2⟩
theorem dw_dt {f : TF} (h : DW X e f) : DT X e f := let ⟨_, a, b⟩ := h.ex; ⟨_, a.pt, b⟩
section
variable {rest : List Expr} {f g : TF}
theorem dw_and1 (h : DT X a f) : DW X (.BoolOp .And [a] pos) f := let ⟨_, a, b⟩ := h.ex; ⟨_, pw_and1 a, b⟩
theorem dw_or1 (h : DT X a f) : DW X (.BoolOp .Or [a] pos) f := let ⟨_, a, b⟩ := h.ex; ⟨_, pw_or1 a, b⟩
theorem dw_and (h : DT X a f) (h2 : DW X (.BoolOp .And (b :: rest) pos) g) : DW X (.BoolOp .And (a :: b :: rest) pos) (tAndD f g) := by
  obtain ⟨t, a1, a2⟩ := h.ex
  obtain ⟨u, b1, b2⟩ := h2.ex
  refine ⟨_, pw_and a1 b1, fun B H0 F0 F H σ r z r' q j Q k => ?_⟩
  simp only [tAndD, Option.bind_eq_some_iff] at q
  obtain ⟨⟨x, r1⟩, q1, q2⟩ := q
  refine a2 _ _ _ _ _ _ _ _ _ q1 j _ fun F1 H1 e1 j1 => ?_
  cases x with
  | true =>
    rw [if_pos rfl] at q2 ⊢
    exact b2 _ _ _ _ _ _ _ _ _ q2 j1 _ fun F2 H2 e2 j2 => k _ _ (e1.trans e2) j2
  | false =>
    rw [if_neg Bool.false_ne_true] at q2 ⊢
    cases q2
    exact k _ _ e1 j1
theorem dw_or (h : DT X a f) (h2 : DW X (.BoolOp .Or (b :: rest) pos) g) : DW X (.BoolOp .Or (a :: b :: rest) pos) (tOrD f g) := by
  obtain ⟨t, a1, a2⟩ := h.ex
  obtain ⟨u, b1, b2⟩ := h2.ex
  refine ⟨_, pw_or a1 b1, fun B H0 F0 F H σ r z r' q j Q k => ?_⟩
  simp only [tOrD, Option.bind_eq_some_iff] at q
  obtain ⟨⟨x, r1⟩, q1, q2⟩ := q
  refine a2 _ _ _ _ _ _ _ _ _ q1 j _ fun F1 H1 e1 j1 => ?_
  cases x with
  | true =>
    rw [if_pos rfl] at q2 ⊢
    cases q2
    exact k _ _ e1 j1
  | false =>
    rw [if_neg Bool.false_ne_true] at q2 ⊢
    exact b2 _ _ _ _ _ _ _ _ _ q2 j1 _ fun F2 H2 e2 j2 => k _ _ (e1.trans e2) j2
theorem dt_not (h : DT X a f) : DT X (.UnaryOp .Not a pos) (tNotD f) := by
  obtain ⟨t, a1, a2⟩ := h.ex
  refine ⟨_, pt_not a1, fun B H0 F0 F H σ r z r' q j Q k => ?_⟩
  simp only [tNotD, Option.bind_eq_some_iff] at q
  obtain ⟨⟨x, r1⟩, q1, q2⟩ := q
  cases q2
  exact a2 _ _ _ _ _ _ _ _ _ q1 j _ fun F1 H1 e1 j1 => k _ _ e1 j1
end
theorem de_one {op} (h : DE X q1 a fa) : DE X q1 (.BoolOp op [a] pos) fa := let ⟨_, a, b⟩ := h.ex; ⟨_, pe_one a, b⟩
theorem Ge.left {b b' : Bool} {F F' : Fz} {H H' : Hp} {r r' : Env} (a : Ge b F H r F' H' r') : Ge (b && b') F H r F' H' r' := ⟨a.f, a.k, fun h => a.q (Bool.and_eq_true_iff.mp h).1⟩
section
variable {rest : List Expr}
theorem de_and (h : DE X q1 a fa) (h2 : DE X q2 (.BoolOp .And (b :: rest) pos) fb) : DE X (q1 && q2) (.BoolOp .And (a :: b :: rest) pos) (eAnd fa fb) := by
  obtain ⟨t, a1, a2⟩ := h.ex
  obtain ⟨u, b1, b2⟩ := h2.ex
  refine ⟨_, pe_and a1 b1, fun B H0 F0 F H σ r z r' q j Q k => ?_⟩
  simp only [eAnd, Option.bind_eq_some_iff] at q
  obtain ⟨⟨x, r1⟩, q1, q2⟩ := q
  refine a2.bool q1 j _ fun F1 H1 e1 j1 => ⟨x, rfl, ?_⟩
  cases x with
  | true =>
    rw [if_pos rfl] at q2 ⊢
    exact b2 _ _ _ _ _ _ _ _ _ q2 j1 _ fun F2 H2 v e2 j2 => k _ _ _ (e1.trans e2) j2
  | false =>
    rw [if_neg Bool.false_ne_true] at q2 ⊢
    cases q2
    exact k _ _ _ e1.left j1 (.bl false)
theorem de_not (h : DE X q1 a fa) : DE X q1 (.UnaryOp .Not a pos) (eNot fa) := by
  obtain ⟨t, a1, a2⟩ := h.ex
  refine ⟨_, pe_not a1, fun B H0 F0 F H σ r z r' q j Q k => ?_⟩
  simp only [eNot, Option.bind_eq_some_iff] at q
  obtain ⟨⟨x, r1⟩, q1, q2⟩ := q
  cases q2
  exact a2.bool q1 j _ fun F1 H1 e1 j1 => ⟨x, rfl, k _ _ _ e1 j1 (.bl _)⟩
end

theorem da_nil : DA X true [] [] := ⟨_, pa_nil, fun B H0 F0 F H σ r z r' q j Q k => by cases q; exact k F H [] .refl j .nil⟩
theorem da_cons (h : DE X q1 e fa) (h2 : DA X q2 es fs) (hs : starEach (e :: es) X.env = (false, eval e X.env) :: starEach es X.env := by rfl) : DA X (q1 && q2) (e :: es) (fa :: fs) := by
  obtain ⟨t, a1, a2⟩ := h.ex
  obtain ⟨u, b1, b2⟩ := h2.ex
  refine ⟨_, pa_cons a1 b1 hs, fun B H0 F0 F H σ r z r' q j Q k => ?_⟩
  simp only [eArgs, Option.bind_eq_some_iff] at q
  obtain ⟨⟨x, r1⟩, q1, x', q2, ⟨ys, r2⟩, q3, q4⟩ := q
  cases q4
  refine a2 _ _ _ _ _ _ _ _ _ q1 j _ fun F1 H1 v e1 j1 k1 => ?_
  obtain ⟨F2, e2, j2, k2⟩ := settle_ok q2 j1 k1
  refine b2 _ _ _ _ _ _ _ _ _ q3 j2 _ fun F3 H3 vs e3 j3 k3 => ?_
  exact k F3 H3 _ ((e1.qt e2).trans e3) j3 (.cons ⟨settle_still q2, k2.later (settle_still q2) e3.f⟩ k3)
end

section
variable {K : KC} {F F' F1 : Fz} {H H' H1 B H0 F0 : Hp} {σ : L2.St} {r r' : Env} {v : V} {c : C} {x : D} {p : Addr} {s : Slot} {o : HO}
theorem J.hold (j : J K B H0 F0 F H σ r) (h0 : H0 p = none) (hf : F.f p = none) (ht : F.t p = none) (hh : H p = some o) (hn : ∀ (i : Nat) (e : C), r.sl[i]? = some (.ow e) → σ[i]? ≠ some (some (.ref p))) : J K B (upd H0 p o) F0 F H σ r := by
  refine ⟨j.eb.side (j.eb.back h0), fun a u q => ?_, j.ef, j.fh, fun a u q => ?_, j.so.weak fun a t q w => ?_, j.len, fun i s q => ?_, j.dj⟩
  · by_cases z : a = p
    · subst z; rw [upd_same] at q; rw [hh]; exact q
    · rw [upd_ne z] at q; exact j.e0 a u q
  · rcases j.nw a u q with w | w | w
    · exact .inl w
    · have z : a ≠ p := fun z => by subst z; rw [hf] at q; cases q
      exact .inr (.inl (by rw [upd_ne z]; exact w))
    · exact .inr (.inr w)
  · have z : a ≠ p := fun z => by subst z; rw [ht] at q; cases q
    rw [upd_ne z]; exact w
  · have b := j.sl i s q
    cases s with
    | no => trivial
    | sh d => exact b
    | bo c => exact b
    | lk c => exact b
    | ow c =>
      obtain ⟨p', a, b, d, t, e⟩ := b
      have z : p' ≠ p := fun z => hn i c q (by rw [← z]; exact a)
      exact ⟨p', a, by rw [upd_ne z]; exact b, d, t, e⟩
theorem J.drop (j : J K B (upd H0 p o) F0 F H σ r) (h0 : H0 p = none) (eb : Ex B H0) (f0 : F0 p = none) (hl : ∀ n f, F.t p ≠ some (.lok n f)) (nt : ¬ TupO o) : J K B H0 F0 F H σ r ∧ F.f p = none ∧ F.t p = none ∧ H p = some o ∧ ∀ (i : Nat) (e : C), r.sl[i]? = some (.ow e) → σ[i]? ≠ some (some (.ref p)) := by
  have back : ∀ a, (upd H0 p o) a = none → H0 a = none ∧ a ≠ p := fun a q => by
    have z : a ≠ p := fun z => by subst z; rw [upd_same] at q; cases q
    rw [upd_ne z] at q
    exact ⟨q, z⟩
  refine ⟨⟨eb, (Ex.new h0).trans j.e0, j.ef, j.fh, fun a u q => ?_, j.so.weak fun a t q w => (back a w).1, j.len, fun i s q => ?_, j.dj⟩, ?_, ?_, j.e0 _ _ upd_same, fun i e q z => ?_⟩
  · rcases j.nw a u q with w | w | w
    · exact .inl w
    · exact .inr (.inl (back a w).1)
    · exact .inr (.inr w)
  · have b := j.sl i s q
    cases s with
    | no => trivial
    | sh d => exact b
    | bo c => exact b
    | lk c => exact b
    | ow c =>
      obtain ⟨p', a, b, d, t, e⟩ := b
      exact ⟨p', a, (back _ b).1, d, t, e⟩
  · cases q : F.f p with
    | none => rfl
    | some u =>
      rcases j.nw p u q with w | w | w
      · rw [f0] at w; cases w
      · rw [upd_same] at w; cases w
      · have h1 := j.e0 _ _ (upd_same (H := H0) (a := p) (o := o))
        rw [j.fh _ _ q] at h1
        cases h1
        exact absurd w nt
  · cases q : F.t p with
    | none => rfl
    | some t =>
      rcases (j.so.sep p t q).2.2 with w | ⟨n, f, w⟩
      · rw [upd_same] at w; cases w
      · subst w; exact absurd q (hl n f)
  · obtain ⟨p', a, b, d, t, e⟩ := j.sl i _ q
    rw [z] at a; cases a
    exact (back _ b).2 rfl
theorem RE.around {t : TE} {f : EF} (h : RE K true t f) {z : Res} (q : f r = some (z, r')) (j : J K B H0 F0 F H σ r) {w : Res} (hw : ResOk K H0 F H σ r v w) (Q : VK)
    (k : ∀ F' H' u, Ge true F H r F' H' r' → J K B H0 F0 F' H' σ r' → ResOk K H0 F' H' σ r' v w → ResOk K H0 F' H' σ r' u z → Q u H') : t σ H Q := by
  cases w with
  | sh x => exact h _ _ _ _ _ _ _ _ _ q j Q fun F' H' u g j' o => k F' H' u g j' (Vp.up g.f _ _ hw) o
  | sl i => exact h _ _ _ _ _ _ _ _ _ q j Q fun F' H' u g j' o => k F' H' u g j' hw o
  | fl n f =>
    refine h _ _ _ _ _ _ _ _ _ q j Q fun F' H' u g j' o => k F' H' u g j' ?_ o
    obtain ⟨g1, g2, _⟩ := g.q rfl
    exact FldV.up hw g.f g1
  | fr c =>
    obtain ⟨p, rfl, h0, hf, ht, od, hn⟩ := hw
    obtain ⟨o, ho⟩ : ∃ o, H p = some o := by
      cases w : H p with
      | none => exact absurd w od.ne
      | some o => exact ⟨o, rfl⟩
    have f0 : F0 p = none := j.ef.back hf
    refine h _ _ _ _ _ _ _ _ _ q (j.hold h0 hf ht ho hn) Q fun F' H' u g j' o' => ?_
    obtain ⟨g1, g2, _⟩ := g.q rfl
    obtain ⟨j2, f2, t2, h2, n2⟩ := j'.drop h0 j.eb f0 (fun n f z => by rw [g2, ht] at z; cases z) (fun i => od.noT i ho)
    refine k F' H' u g j2 ⟨p, rfl, h0, f2, t2, od.up g.f (fun o w => g1 _ _ w), n2⟩ ?_
    cases z with
    | sh x => exact o'
    | sl i => exact o'
    | fl n f => exact o'
    | fr c' =>
      obtain ⟨p', e, h0', hf', ht', od', hn'⟩ := o'
      refine ⟨p', e, ?_, hf', ht', od', hn'⟩
      have z : p' ≠ p := fun z => by subst z; rw [upd_same] at h0'; cases h0'
      rw [upd_ne z] at h0'
      exact h0'
end
end CM
end
section
set_option Elab.async false
set_option linter.all false
set_option maxRecDepth 100000
set_option autoImplicit false
namespace CM
open PySem PySem.Spec PyProof.Rows L2
theorem lookup_putFd (f g : Str) (v : Fd) : ∀ fs : List (Str × Fd), (putFd f v fs).lookup g = if g = f then some v else fs.lookup g
  | [] => by
    show List.lookup g [(f, v)] = _
    by_cases h : g = f
    · have hb : (g == f) = true := beq_iff_eq.mpr h
      simp only [List.lookup, hb, if_pos h]
    · have hb : (g == f) = false := beq_eq_false_iff_ne.mpr h
      simp only [List.lookup, hb, if_neg h]
  | (k, x) :: r => by
    have ih := lookup_putFd f g v r
    rw [show putFd f v ((k, x) :: r) = (if k = f then (k, v) :: r else (k, x) :: putFd f v r) from rfl]
    by_cases hk : k = f
    · subst hk
      rw [if_pos rfl]
      by_cases h : g = k
      · have hb : (g == k) = true := beq_iff_eq.mpr h
        simp only [List.lookup, hb, if_pos h]
      · have hb : (g == k) = false := beq_eq_false_iff_ne.mpr h
        simp only [List.lookup, hb, if_neg h]
    · rw [if_neg hk]
      by_cases h : g = k
      · have hb : (g == k) = true := beq_iff_eq.mpr h
        have hf : g ≠ f := fun z => hk (by rw [← h]; exact z)
        simp only [List.lookup, hb, if_neg hf]
      · have hb : (g == k) = false := beq_eq_false_iff_ne.mpr h
        simp only [List.lookup, hb]
        exact ih
theorem putF_same {f : Str} {v : V} : ∀ {es : List (Str × V)}, es.lookup f = some v → putF f v es = es
  | [], h => by cases h
  | (k, x) :: r, h => by
    rw [show putF f v ((k, x) :: r) = (if k = f then (k, v) :: r else (k, x) :: putF f v r) from rfl]
    by_cases hk : k = f
    · subst hk
      rw [if_pos rfl]
      simp only [List.lookup, beq_self_eq_true] at h
      cases h
      rfl
    · have hb : (f == k) = false := beq_eq_false_iff_ne.mpr fun z => hk z.symm
      simp only [List.lookup, hb] at h
      rw [if_neg hk, putF_same h]
theorem putFd_keys (f : Str) (v : Fd) : ∀ fs : List (Str × Fd), ((putFd f v fs).map (·.1) = fs.map (·.1) ∧ f ∈ fs.map (·.1)) ∨ ((putFd f v fs).map (·.1) = fs.map (·.1) ++ [f] ∧ f ∉ fs.map (·.1))
  | [] => .inr ⟨rfl, by simp⟩
  | (k, x) :: r => by
    rw [show putFd f v ((k, x) :: r) = (if k = f then (k, v) :: r else (k, x) :: putFd f v r) from rfl]
    by_cases hk : k = f
    · subst hk
      rw [if_pos rfl]
      exact .inl ⟨rfl, by simp⟩
    · rw [if_neg hk]
      rcases putFd_keys f v r with ⟨a, b⟩ | ⟨a, b⟩
      · exact .inl ⟨by simp only [List.map_cons, a], by simp at b ⊢; exact .inr b⟩
      · refine .inr ⟨by simp only [List.map_cons, a, List.cons_append], ?_⟩
        simp at b ⊢
        exact ⟨fun z => hk z.symm, b⟩
theorem putFd_nodup {f : Str} {v : Fd} {fs : List (Str × Fd)} (h : (fs.map (·.1)).Nodup) : ((putFd f v fs).map (·.1)).Nodup := by
  rcases putFd_keys f v fs with ⟨a, _⟩ | ⟨a, b⟩
  · rw [a]; exact h
  · rw [a, List.nodup_append]
    refine ⟨h, by simp, fun x hx y hy z => ?_⟩
    simp at hy
    subst hy
    subst z
    exact b hx
theorem stPut_at {st : Store} {n m : Nat} {f : Str} {v : Fd} : (stPut st n f v)[m]? = (st[m]?).map fun o => if n = m then ⟨o.cls, putFd f v o.fs⟩ else o := by
  unfold stPut
  rw [List.getElem?_modify]
  cases st[m]? with
  | none => rfl
  | some o =>
    by_cases h : n = m
    · simp [h]
    · simp [h]
theorem stPut_len {st : Store} {n : Nat} {f : Str} {v : Fd} : (stPut st n f v).length = st.length := by unfold stPut; rw [List.length_modify]
theorem fldAt_put {st : Store} {n m : Nat} {f g : Str} {v : Fd} (h : n < st.length) : fldAt (stPut st n f v) m g = if n = m ∧ g = f then some v else fldAt st m g := by
  unfold fldAt
  rw [stPut_at]
  by_cases e : n = m
  · subst e
    rw [List.getElem?_eq_getElem h]
    show List.lookup g (if n = n then _ else _ : Ob).fs = _
    rw [if_pos rfl]
    show List.lookup g (putFd f v _) = _
    rw [lookup_putFd]
    by_cases q : g = f
    · rw [if_pos q, if_pos ⟨rfl, q⟩]
    · rw [if_neg q, if_neg fun z => q z.2]
      rfl
  · rw [if_neg fun z => e z.1]
    cases st[m]? with
    | none => rfl
    | some o =>
      show List.lookup g (if n = m then _ else _ : Ob).fs = _
      rw [if_neg e]
      rfl
section
variable {K : KC} {F F' : Fz} {H H' B H0 H0' : Hp} {n : Nat} {f : Str} {v : V} {p : Addr} {st : Store}
theorem FdOk.mv {d : Fd} (h : FdOk K F H n f v d) (e : FEi F F') (t : ∀ q, F.t q = some (.fld n f) → F'.t q = some (.fld n f) ∧ ∀ o, H q = some o → H' q = some o) (l : ∀ q, F.t q = some (.lok n f) → F'.t q = some (.lok n f) ∧ ∀ o, H q = some o → H' q = some o) : FdOk K F' H' n f v d := by
  cases d with
  | d x => exact Vp.up e _ _ h
  | ow c =>
    obtain ⟨q, a, b, c⟩ := h
    exact ⟨q, a, (t q b).1, c.up e (t q b).2⟩
  | lk c =>
    obtain ⟨q, a, b, c⟩ := h
    exact ⟨q, a, (l q b).1, c.up e (l q b).2⟩
theorem FdsOk.put {v' : V} {d' : Fd} : ∀ {es : List (Str × V)} {fs : List (Str × Fd)}, FdsOk K F H n es fs → (fs.map (·.1)).Nodup → (∀ g v d, g ≠ f → FdOk K F H n g v d → FdOk K F' H' n g v d) → FdOk K F' H' n f v' d' → FdsOk K F' H' n (putF f v' es) (putFd f d' fs)
  | _, _, .nil, _, _, k => .cons ⟨rfl, k⟩ .nil
  | (g, v) :: es, (g', d) :: fs, .cons ⟨h1, h2⟩ r, nd, up, k => by
    have h1 : g = g' := h1
    subst h1
    rw [show putF f v' ((g, v) :: es) = (if g = f then (g, v') :: es else (g, v) :: putF f v' es) from rfl, show putFd f d' ((g, d) :: fs) = (if g = f then (g, d') :: fs else (g, d) :: putFd f d' fs) from rfl]
    rw [List.map_cons, List.nodup_cons] at nd
    by_cases z : g = f
    · subst z
      rw [if_pos rfl, if_pos rfl]
      have all : ∀ {es : List (Str × V)} {fs : List (Str × Fd)}, g ∉ fs.map (·.1) → FdsOk K F H n es fs → FdsOk K F' H' n es fs := fun {es fs} hn hr => by
        induction hr with
        | nil => exact .nil
        | @cons a b as bs h r ih =>
          rw [List.map_cons, List.mem_cons] at hn
          obtain ⟨e1, e2⟩ := h
          refine .cons ⟨e1, up _ _ _ (fun z => hn (.inl ?_)) e2⟩ (ih fun z => hn (.inr z))
          rw [← z, e1]
      exact .cons ⟨rfl, k⟩ (all nd.1 r)
    · rw [if_neg z, if_neg z]
      exact .cons ⟨rfl, up _ _ _ z h2⟩ (FdsOk.put r nd.2 up k)
theorem StOk.upd {d' : Fd} {v' : V} {C dx : Addr} {es : List (Str × V)} (nb : f ≠ bxS) (s : StOk K H0 F H st) (t : F.t p = some (.ins n)) (hp : H p = some (.ins C dx es)) (g : FEi F F')
    (it : ∀ a u, u ≠ .fld n f → u ≠ .lok n f → (F'.t a = some u ↔ F.t a = some u))
    (hH : ∀ a u, F.t a = some u → u ≠ .fld n f → u ≠ .lok n f → a ≠ p → ∀ o, H a = some o → H' a = some o)
    (hp' : H' p = some (.ins C dx (putF f v' es))) (fo : FdOk K F' H' n f v' d')
    (sel : ∀ a u, F'.t a = some u → u = .fld n f ∨ u = .lok n f → F'.f a = none ∧ H' a ≠ none ∧ (H0' a = none ∨ ∃ n f, u = .lok n f) ∧ (u = .fld n f → ∃ c, d' = .ow c) ∧ (u = .lok n f → ∃ c, d' = .lk c))
    (uni : ∀ a b u, u = .fld n f ∨ u = .lok n f → F'.t a = some u → F'.t b = some u → a = b)
    (ff : ∀ a u, F.t a = some u → u ≠ .fld n f → u ≠ .lok n f → F'.f a = none ∧ (H0 a = none → H0' a = none))
    (ln : ∀ o, st[n]? = some o → (putFd f d' o.fs).length ≤ 100) : StOk K H0' F' H' (stPut st n f d') := by
  have nl : n < st.length := s.ix p _ t
  have nf : ∀ {m : Nat}, Tg.ins m ≠ .fld n f := fun z => by cases z
  have nl' : ∀ {m : Nat}, Tg.ins m ≠ .lok n f := fun z => by cases z
  have up : ∀ m g v d, (m ≠ n ∨ g ≠ f) → FdOk K F H m g v d → FdOk K F' H' m g v d := fun m g' v d hne k => by
    refine k.mv g (fun q e => ?_) (fun q e => ?_)
    · have n1 : Tg.fld m g' ≠ .fld n f := fun z => by cases z; exact hne.elim (fun w => w rfl) (fun w => w rfl)
      have n2 : Tg.fld m g' ≠ .lok n f := fun z => by cases z
      exact ⟨(it q _ n1 n2).mpr e, hH q _ e n1 n2 fun z => by subst z; rw [t] at e; cases e⟩
    · have n1 : Tg.lok m g' ≠ .fld n f := fun z => by cases z
      have n2 : Tg.lok m g' ≠ .lok n f := fun z => by cases z; exact hne.elim (fun w => w rfl) (fun w => w rfl)
      exact ⟨(it q _ n1 n2).mpr e, hH q _ e n1 n2 fun z => by subst z; rw [t] at e; cases e⟩
  refine ⟨fun q m e => ?_, fun a b u ha hb => ?_, fun a u ha => ?_, fun a u ha => ?_, fun a m g' ha => ?_, fun a m g' ha => ?_, fun a m g' c ha hc => ?_, fun a m g' c ha hc => ?_, fun a q m hb hq => ?_, fun a m ha => ?_⟩
  · have e0 := (it q _ nf nl').mp e
    obtain ⟨o, a, C1, dx1, es1, b1, b2, b3, b4, b5, b6⟩ := s.ob q m e0
    by_cases z : m = n
    · subst z
      have eq := s.inj q p _ e0 t
      subst eq
      rw [hp] at b2; cases b2
      refine ⟨⟨o.cls, putFd f d' o.fs⟩, by rw [stPut_at, a, Option.map_some, if_pos rfl], C, dx, _, b1, hp', (it dx _ (fun z => by cases z) (fun z => by cases z)).mpr b3, b4.put b5 (fun g v d ne => up _ _ _ _ (.inr ne)) fo, putFd_nodup b5, ln o a⟩
    · refine ⟨o, by rw [stPut_at, a, Option.map_some, if_neg fun w => z w.symm], C1, dx1, es1, b1, hH q _ e0 nf nl' (fun w => ?_) _ b2, (it dx1 _ (fun z => by cases z) (fun z => by cases z)).mpr b3, Paired.mapP b4 fun _ _ ⟨c1, c2⟩ => ⟨c1, up _ _ _ _ (.inl z) c2⟩, b5, b6⟩
      subst w
      rw [t] at e0; cases e0
      exact z rfl
  · by_cases z : u = .fld n f ∨ u = .lok n f
    · exact uni a b u z ha hb
    · have z1 : u ≠ .fld n f := fun w => z (.inl w)
      have z2 : u ≠ .lok n f := fun w => z (.inr w)
      exact s.inj a b u ((it a u z1 z2).mp ha) ((it b u z1 z2).mp hb)
  · by_cases z : u = .fld n f ∨ u = .lok n f
    · obtain ⟨c1, c2, c3, _⟩ := sel a u ha z
      exact ⟨c1, c2, c3⟩
    · have z1 : u ≠ .fld n f := fun w => z (.inl w)
      have z2 : u ≠ .lok n f := fun w => z (.inr w)
      have ha0 := (it a u z1 z2).mp ha
      obtain ⟨c1, c2, c3⟩ := s.sep a u ha0
      obtain ⟨d1, d2⟩ := ff a u ha0 z1 z2
      refine ⟨d1, ?_, c3.imp d2 id⟩
      by_cases w : a = p
      · subst w; rw [hp']; exact fun z => by cases z
      · cases q : H a with
        | none => exact absurd q c2
        | some o => rw [hH a u ha0 z1 z2 w o q]; exact fun z => by cases z
  · rw [stPut_len]
    by_cases z : u = .fld n f ∨ u = .lok n f
    · rcases z with z | z
      · subst z; exact nl
      · subst z; exact nl
    · have z1 : u ≠ .fld n f := fun w => z (.inl w)
      have z2 : u ≠ .lok n f := fun w => z (.inr w)
      exact s.ix a u ((it a u z1 z2).mp ha)
  · rw [fldAt_put nl]
    by_cases z : n = m ∧ g' = f
    · rw [if_pos z]
      obtain ⟨z1, z2⟩ := z
      subst z1; subst z2
      obtain ⟨_, _, _, c4, _⟩ := sel a _ ha (.inl rfl)
      obtain ⟨c, e⟩ := c4 rfl
      exact ⟨c, by rw [e]⟩
    · rw [if_neg z]
      exact s.tf a m g' ((it a _ (fun w => by cases w; exact z ⟨rfl, rfl⟩) (fun w => by cases w)).mp ha)
  · rw [fldAt_put nl]
    by_cases z : n = m ∧ g' = f
    · rw [if_pos z]
      obtain ⟨z1, z2⟩ := z
      subst z1; subst z2
      obtain ⟨_, _, _, _, c5⟩ := sel a _ ha (.inr rfl)
      obtain ⟨c, e⟩ := c5 rfl
      exact ⟨c, by rw [e]⟩
    · rw [if_neg z]
      exact s.tl a m g' ((it a _ (fun w => by cases w) (fun w => by cases w; exact z ⟨rfl, rfl⟩)).mp ha)
  · rw [fldAt_put nl] at hc
    by_cases z : n = m ∧ g' = f
    · rw [if_pos z] at hc
      obtain ⟨z1, z2⟩ := z
      subst z1; subst z2
      cases hc
      obtain ⟨q, _, k1, k2⟩ := fo
      have := uni _ _ _ (.inl rfl) ha k1
      subst this
      exact k2
    · rw [if_neg z] at hc
      have z1 : Tg.fld m g' ≠ .fld n f := fun w => by cases w; exact z ⟨rfl, rfl⟩
      have ha0 := (it a _ z1 (fun w => by cases w)).mp ha
      exact (s.od a m g' c ha0 hc).up g (hH a _ ha0 z1 (fun w => by cases w) fun w => by subst w; rw [t] at ha0; cases ha0)
  · rw [fldAt_put nl] at hc
    by_cases z : n = m ∧ g' = f
    · rw [if_pos z] at hc
      obtain ⟨z1, z2⟩ := z
      subst z1; subst z2
      cases hc
      obtain ⟨q, _, k1, k2⟩ := fo
      have := uni _ _ _ (.inr rfl) ha k1
      subst this
      exact k2
    · rw [if_neg z] at hc
      have z1 : Tg.lok m g' ≠ .lok n f := fun w => by cases w; exact z ⟨rfl, rfl⟩
      have ha0 := (it a _ (fun w => by cases w) z1).mp ha
      exact (s.odr a m g' c ha0 hc).up g (hH a _ ha0 (fun w => by cases w) z1 fun w => by subst w; rw [t] at ha0; cases ha0)
  · have hb0 : Bt F a m := hb.imp (fun h => (it a _ (fun w => by cases w; exact nb rfl) (fun w => by cases w)).mp h) fun h => (it a _ (fun w => by cases w) (fun w => by cases w; exact nb rfl)).mp h
    exact s.bi a q m hb0 ((it q _ nf nl').mp hq)
  · have ha0 := (it a (.dic m) (fun w => by cases w) (fun w => by cases w)).mp ha
    exact ntKeep (s.sep a _ ha0).2.1 (s.dn a m ha0) (hH a _ ha0 (fun w => by cases w) (fun w => by cases w) fun w => by subst w; rw [t] at ha0; cases ha0)
theorem putFd_len {d' d : Fd} {fs : List (Str × Fd)} (h : fs.lookup f = some d) : (putFd f d' fs).length = fs.length := by
  rcases putFd_keys f d' fs with ⟨a, _⟩ | ⟨a, b⟩
  · have := congrArg List.length a
    simpa using this
  · exfalso
    apply b
    clear a b
    induction fs with
    | nil => cases h
    | cons x r ih =>
      obtain ⟨k, w⟩ := x
      by_cases z : (f == k) = true
      · rw [List.map_cons]
        exact List.mem_cons.mpr (.inl (beq_iff_eq.mp z))
      · have z : (f == k) = false := by simpa using z
        simp only [List.lookup, z] at h
        rw [List.map_cons]
        exact List.mem_cons_of_mem _ (ih h)
end
end CM
end
section
set_option Elab.async false
set_option linter.all false
set_option maxRecDepth 100000
set_option autoImplicit false
namespace CM
open PySem PySem.Spec PyProof.Rows L2

theorem eArgs_len : ∀ {fs : List EF} {r r' : Env} {zs : List Res}, eArgs fs r = some (zs, r') → zs.length = fs.length
  | [], r, r', zs, q => by cases q; rfl
  | f :: fs, r, r', zs, q => by
    simp only [eArgs, Option.bind_eq_some_iff] at q
    obtain ⟨⟨x, r1⟩, q1, x', q2, ⟨ys, r2⟩, q3, q4⟩ := q
    cases q4
    simp [eArgs_len q3]
theorem RsOk.length {K : KC} {H0 : Hp} {F : Fz} {H : Hp} {σ : L2.St} {r : Env} {vs : List V} {zs : List Res} (h : RsOk K H0 F H σ r vs zs) : vs.length = zs.length := Paired.length h
section
variable {X : Cx} {e a b : Expr} {es : List Expr} {fa fb : EF} {fs : List EF} {pos : Pos} {q1 q2 : Bool}
theorem re_opF {K : KC} {o : R2} {g : C → C → Option Res} {ta tb : TE} (ho : ROp K o g) (ha : RE K q1 ta fa) (hb : RE K true tb fb) : RE K q1 (tOp o ta tb) (eOpF g fa fb) := by
  intro B H0 F0 F H σ r z r' q j Q k
  simp only [eOpF, Option.bind_eq_some_iff] at q
  obtain ⟨⟨za, r1⟩, q1, ⟨zb, r2⟩, q3, u, q4, v, q5, w, q6, q7⟩ := q
  cases q7
  refine ha _ _ _ _ _ _ _ _ _ q1 j _ fun F1 H1 x e1 j1 k1 => ?_
  refine hb.around q3 j1 k1 _ fun F3 H3 y e3 j3 k2 k3 => ?_
  refine ho F3 H3 x y u v z j3.fh j3.tagged (k2.look j3 q4) (k3.look j3 q5) q6 Q fun F4 H4 y' g4 o4 => ?_
  exact k F4 H4 y' ((e1.qt e3).qt g4.ge) (j3.grow g4) (o4.res j3 g4)
theorem de_opF {op : Operator} {g : C → C → Option Res} (ho : DOp X (binaryOp op) g) (ha : DE X q1 a fa) (hb : DE X true b fb) : DE X q1 (.BinOp a op b pos) (eOpF g fa fb) := by
  obtain ⟨o, h1, h2⟩ := ho.ex
  obtain ⟨ta, a1, a2⟩ := ha.ex
  obtain ⟨tb, b1, b2⟩ := hb.ex
  exact ⟨_, pe_op h1 a1 b1, re_opF h2 a2 b2⟩
theorem de_tup {x1} (h : DA X q1 es fs) (hl : fs.length ≤ 1000 := by decide) : DE X q1 (.Tuple es x1 pos) (eTup fs) := by
  obtain ⟨t, a1, a2⟩ := h.ex
  refine ⟨_, pe_tupZ a1, fun B H0 F0 F H σ r z r' q j Q k => ?_⟩
  simp only [eTup, Option.bind_eq_some_iff] at q
  obtain ⟨⟨zs, r1⟩, q1, ⟨xs, r2⟩, q2, q3⟩ := q
  cases q3
  refine a2 _ _ _ _ _ _ _ _ _ q1 j _ fun F1 H1 vs e1 j1 k1 => ?_
  obtain ⟨F2, e2, j2, d2⟩ := shares_ok q2 j1 k1
  have l1 := k1.length
  have l2 := eArgs_len q1
  refine ⟨Nat.le_of_lt (small1000 (by omega)), tuT xs, fun p o hp po => ?_⟩
  have g : Grow F2 H1 (F2.put p (tupO (tuT xs) o vs)) (upd H1 p (tupO (tuT xs) o vs)) := .put j2.fh hp
  exact k _ _ _ ((e1.qt e2).qt g.ge) (j2.grow g) (.tup (.inl ⟨o, po, upd_same⟩) (VpAll.up g.fe _ _ d2))
theorem de_lst (h : DA X q1 es fs) (hl : fs.length ≤ 1000 := by decide) : DE X q1 (.List es pos) (eLst fs) := by
  obtain ⟨t, a1, a2⟩ := h.ex
  refine ⟨_, pe_lst a1, fun B H0 F0 F H σ r z r' q j Q k => ?_⟩
  simp only [eLst, Option.bind_eq_some_iff] at q
  obtain ⟨⟨zs, r1⟩, q1, ⟨xs, r2⟩, q2, q3⟩ := q
  cases q3
  refine a2 _ _ _ _ _ _ _ _ _ q1 j _ fun F1 H1 vs e1 j1 k1 => ?_
  obtain ⟨F2, e2, j2, d2⟩ := shares_ok q2 j1 k1
  have l1 := k1.length
  have l2 := eArgs_len q1
  refine ⟨Nat.le_of_lt (small1000 (by omega)), fun p hp => ?_⟩
  have g : Grow F2 H1 F2 (upd H1 p (.lst vs)) := .lay j2.fh hp
  have ht : F2.t p = none := by
    cases w : F2.t p with
    | none => rfl
    | some u => exact absurd hp (j2.so.sep p u w).2.1
  exact k _ _ _ ((e1.qt e2).qt g.ge) (j2.grow g) (RetOk.res j2 g ⟨p, rfl, hp, j2.fh.back hp, ht, vs, upd_same, d2⟩)
def RCl (K : KC) (o : List V → Hp → VK → Prop) (g : List C → Option Res) : Prop := ∀ (F : Fz) (H : Hp) (xs : List V) (cs : List C) (z : Res), Ex F.f H → (∀ p, H p = none → F.t p = none) → Paired (Bd K F H) xs cs → g cs = some z →
  ∀ Q : VK, (∀ F' H' v, Grow F H F' H' → RetOk K H F' H' v z → Q v H') → o xs H Q
theorem re_bi1 {K : KC} {o : List V → Hp → VK → Prop} {g : List C → Option Res} {t : TE} {f : EF} (ho : RCl K o g) (ha : RE K q1 t f) : RE K q1 (tCB o (tCons t tNil)) (eUn (fun c => g [c]) f) := by
  intro B H0 F0 F H σ r z r' q j Q k
  simp only [eUn, Option.bind_eq_some_iff] at q
  obtain ⟨⟨zs, r1⟩, q1, c, q2, w, q3, q4⟩ := q
  cases q4
  refine ha _ _ _ _ _ _ _ _ _ q1 j _ fun F1 H1 v e1 j1 k1 => ?_
  refine ho F1 H1 [v] [c] z j1.fh j1.tagged (.cons (k1.look j1 q2) .nil) q3 Q fun F4 H4 y' g4 o4 => ?_
  exact k F4 H4 y' (e1.qt g4.ge) (j1.grow g4) (o4.res j1 g4)
structure Gro (P : Hp) (F : Fz) (H : Hp) (F' : Fz) (H' : Hp) : Prop where
  f : FEx F F'
  h : Ex P H'
  fh : Ex F'.f H'
  nw : ∀ a o, F'.f a = some o → F.f a = some o ∨ P a = none ∨ TupO o
def spD (K : KC) (ms : List Bool) (f : DF) : Sp := fun vs H Q _ => ∃ (F : Fz) (cs : List C) (st : Store) (z : Res) (st' : Store), Ex F.f H ∧ StOk K (priv F H) F H st ∧ ArgsOk K F (priv F H) ms vs cs ∧ f cs st = some (z, st') ∧
  ∀ F' H' v, Gro (priv F H) F H F' H' → StOk K (priv F H) F' H' st' → RetOk K (priv F H) F' H' v z → Q v H'
theorem J.stok {K : KC} {B H0 F0 : Hp} {F : Fz} {H : Hp} {σ : L2.St} {r : Env} (j : J K B H0 F0 F H σ r) : StOk K (CM.priv F H) F H r.st := by
  refine ⟨j.so.ob, j.so.inj, fun p t q => ?_, j.so.ix, j.so.tf, j.so.tl, j.so.od, j.so.odr, j.so.bi, j.so.dn⟩
  obtain ⟨a, b, c⟩ := j.so.sep p t q
  refine ⟨a, b, ?_⟩
  unfold CM.priv
  rw [q]
  cases t with
  | lok n f => exact .inr ⟨n, f, rfl⟩
  | _ => exact .inl rfl
theorem J.called {K : KC} {B H0 F0 : Hp} {F F' : Fz} {H H' : Hp} {σ : L2.St} {r : Env} {st' : Store} (j : J K B H0 F0 F H σ r) (g : Gro (CM.priv F H) F H F' H') (s : StOk K (CM.priv F H) F' H' st') : J K B H0 F0 F' H' σ ⟨r.sl, st'⟩ := by
  have hp := j.priv
  refine ⟨j.eb, hp.trans g.h, j.ef.trans g.f.f, g.fh, fun a o q => ?_, s.weak fun p t q w => hp.back w, j.len, fun i sl q => ?_, j.dj⟩
  · rcases g.nw a o q with z | z | z
    · exact j.nw a o z
    · exact .inr (.inl (hp.back z))
    · exact .inr (.inr z)
  · have b := j.sl i sl q
    cases sl with
    | no => trivial
    | sh d => obtain ⟨v, a, b⟩ := b; exact ⟨v, a, Vp.up g.f _ _ b⟩
    | bo c => obtain ⟨v, a, b⟩ := b; exact ⟨v, a, b.up g.f (.refl _)⟩
    | lk c => obtain ⟨v, a, b⟩ := b; exact ⟨v, a, b.up g.f (.refl _)⟩
    | ow c =>
      obtain ⟨p, a, h0, hf, ht, od⟩ := b
      obtain ⟨o, ho⟩ : ∃ o, H p = some o := by
        cases w : H p with
        | none => exact absurd w od.ne
        | some o => exact ⟨o, rfl⟩
      have pp := priv_no ht ho
      refine ⟨p, a, h0, ?_, ?_, od.up g.f fun o q => g.h _ _ (priv_no ht q)⟩
      · cases w : F'.f p with
        | none => rfl
        | some u =>
          rcases g.nw p u w with z | z | z
          · rw [hf] at z; cases z
          · rw [pp] at z; cases z
          · exact absurd (g.fh _ _ w) ((od.up (F' := F') g.f fun o q => g.h _ _ (priv_no ht q)).noT z)
      · cases w : F'.t p with
        | none => rfl
        | some u =>
          rcases (s.sep p u w).2.2 with z | ⟨n, f, z⟩
          · rw [pp] at z; cases z
          · subst z
            have := (g.f.l p n f).mpr w
            rw [ht] at this; cases this
theorem RetOk.called {K : KC} {B H0 F0 : Hp} {F F' : Fz} {H H' : Hp} {σ : L2.St} {r : Env} {z : Res} {v : V} {st' : Store} (j : J K B H0 F0 F H σ r) (h : RetOk K (CM.priv F H) F' H' v z) : ResOk K H0 F' H' σ ⟨r.sl, st'⟩ v z := by
  cases z with
  | sh x => exact h
  | fr c =>
    obtain ⟨p, a, b, d, t, e⟩ := h
    refine ⟨p, a, j.priv.back b, d, t, e, fun i e q z => ?_⟩
    obtain ⟨n1, n2⟩ := j.ownH q z
    cases w : H p with
    | none => exact n1 w
    | some o => rw [priv_no n2 w] at b; cases b
  | sl i => exact h.elim
  | fl n f => exact h.elim
theorem re_call {K : KC} {ms : List Bool} {f : DF} {E : XK} {ta : TA} (ha : RA K q1 ta fs) : RE K false (tCall (spD K ms f) [] E ta) (eCall f ms fs) := by
  intro B H0 F0 F H σ r z r' q j Q k
  simp only [eCall, Option.bind_eq_some_iff] at q
  obtain ⟨⟨zs, r1⟩, q1, ⟨cs, r2⟩, q2, ⟨w, st'⟩, q3, q4⟩ := q
  cases q4
  refine ha _ _ _ _ _ _ _ _ _ q1 j _ fun F1 H1 vs e1 j1 k1 => ?_
  obtain ⟨F2, e2, j2, d2⟩ := passes_ok q2 j1 k1
  refine ⟨F2, cs, r2.st, _, st', j2.fh, j2.stok, by rw [List.append_nil]; exact d2, q3, fun F4 H4 y' g4 s4 o4 => ?_⟩
  exact k F4 H4 y' ⟨(e1.qt e2).f.trans g4.f, (e1.qt e2).k, fun z => by cases z⟩ (j2.called g4 s4) (o4.called j2)
theorem de_call {k : Nat} {f : Addr} {fd : FuncData} {ps : List Str} {x : Str} {p : Pos} {CX : CXT} {E : XK} {ms : List Bool} {g : DF} (G : FnOk X.prog X.w X.K X.mg X.base CX k f fd ps (spD X.kc ms g)) (hr : Room k X.A) (hg : Gl X x) (hm : X.mg x = some (.ref f))
    (hk : PySem.W.keepIn X.K (.ref f) = true) (hb : Binds X.K fd ps []) (hx : Passes CX X E) (ha : DA X q1 (e :: es) fs) (hdb : (x == ("__debug__" : Str)) = false := by decide) (he : starEach (e :: es) X.env = (false, eval e X.env) :: starEach es X.env := by rfl)
    (hpl : (backTo pos (starEach es X.env)).any (·.1) = false := by rfl) : DE X false (.Call (.Name x p) (e :: es) [] pos) (eCall g ms fs) := by
  obtain ⟨t, a1, a2⟩ := ha.ex
  exact ⟨_, pe_call G hr hg hm hk hb .nil hx a1 hdb he hpl, re_call a2⟩
structure DCl (X : Cx) (f : Value) (g : List C → Option Res) : Prop where
  ex : ∃ o, CallR X f o ∧ RCl X.kc o g
theorem de_bi1 {x : Str} {p : Pos} {id : String} {g : List C → Option Res} (hc : DCl X (.builtin id) g) (hg : Gl X x) (hm : X.mg x = none) (hv : bootBuiltins x = some (.builtin id)) (ha : DE X q1 e fa) (hn : x ≠ "__name__" := by decide) (hdb : (x == ("__debug__" : Str)) = false := by decide)
    (he : starEach [e] X.env = (false, eval e X.env) :: starEach [] X.env := by rfl) (hpl : (backTo pos (starEach [] X.env)).any (·.1) = false := by rfl) : DE X q1 (.Call (.Name x p) [e] [] pos) (eUn (fun c => g [c]) fa) := by
  obtain ⟨t, a1, a2⟩ := ha.ex
  obtain ⟨o, c1, c2⟩ := hc.ex
  exact ⟨_, pe_callB c1 hg hm hv (pa_cons a1 pa_nil he) hn hdb he hpl, re_bi1 c2 a2⟩
theorem de_ty1 {x : Str} {p : Pos} {id : String} {g : List C → Option Res} (hc : DCl X (.type id) g) (hg : Gl X x) (hm : X.mg x = none) (hv : bootBuiltins x = some (.type id)) (ha : DE X q1 e fa) (hn : x ≠ "__name__" := by decide) (hdb : (x == ("__debug__" : Str)) = false := by decide)
    (he : starEach [e] X.env = (false, eval e X.env) :: starEach [] X.env := by rfl) (hpl : (backTo pos (starEach [] X.env)).any (·.1) = false := by rfl) : DE X q1 (.Call (.Name x p) [e] [] pos) (eUn (fun c => g [c]) fa) := by
  obtain ⟨t, a1, a2⟩ := ha.ex
  obtain ⟨o, c1, c2⟩ := hc.ex
  exact ⟨_, pe_callTy c1 hg hm hv (pa_cons a1 pa_nil he) hn hdb he hpl, re_bi1 c2 a2⟩
structure DIx (X : Cx) (g : C → C → Option Res) : Prop where
  ex : ∃ o, IxR X o ∧ ROp X.kc o g
theorem de_ix {g : C → C → Option Res} (ho : DIx X g) (ha : DE X q1 a fa) (hb : DE X q2 b fb) (hs : PlainIx b := by exact fun _ _ => rfl) : DE X (q1 && q2) (.Subscript a b pos) (eOp g fa fb) := by
  obtain ⟨o, h1, h2⟩ := ho.ex
  obtain ⟨ta, a1, a2⟩ := ha.ex
  obtain ⟨tb, b1, b2⟩ := hb.ex
  exact ⟨_, pe_ix h1 a1 b1 hs, re_op h2 a2 b2⟩
theorem de_ixF {g : C → C → Option Res} (ho : DIx X g) (ha : DE X q1 a fa) (hb : DE X true b fb) (hs : PlainIx b := by exact fun _ _ => rfl) : DE X q1 (.Subscript a b pos) (eOpF g fa fb) := by
  obtain ⟨o, h1, h2⟩ := ho.ex
  obtain ⟨ta, a1, a2⟩ := ha.ex
  obtain ⟨tb, b1, b2⟩ := hb.ex
  exact ⟨_, pe_ix h1 a1 b1 hs, re_opF h2 a2 b2⟩
end

def Kp (r : Env) (σ : L2.St) (r' : Env) (σ' : L2.St) : Prop := ∀ (i : Nat) (s : Slot), Lent s → r'.sl[i]? = some s → r.sl[i]? = some s ∧ σ'[i]? = σ[i]?
theorem Kp.refl {r : Env} {σ : L2.St} : Kp r σ r σ := fun _ _ _ h => ⟨h, rfl⟩
theorem Kp.trans {r r1 r2 : Env} {σ σ1 σ2 : L2.St} (a : Kp r σ r1 σ1) (b : Kp r1 σ1 r2 σ2) : Kp r σ r2 σ2 := fun i c l h => by
  obtain ⟨h1, h2⟩ := b i c l h
  obtain ⟨h3, h4⟩ := a i c l h1
  exact ⟨h3, h2.trans h4⟩
theorem Ge.kp {b : Bool} {F F' : Fz} {H H' : Hp} {r r' : Env} {σ : L2.St} (g : Ge b F H r F' H' r') : Kp r σ r' σ := fun i c l h => ⟨g.k i c l h, rfl⟩
def After (K : KC) (B H0 F0 : Hp) (F : Fz) (D : Ends) (r0 : Env) (σ0 : L2.St) (r : Env) : Flow → Prop
  | .nx => ∀ F' H' σ', FEx F F' → Kp r0 σ0 r σ' → J K B H0 F0 F' H' σ' r → D.nx σ' H'
  | .bk => ∀ F' H' σ', FEx F F' → Kp r0 σ0 r σ' → J K B H0 F0 F' H' σ' r → D.bk σ' H'
  | .ct => ∀ F' H' σ', FEx F F' → Kp r0 σ0 r σ' → J K B H0 F0 F' H' σ' r → D.ct σ' H'
  | .rt z => ∀ F' H' σ' v, FEx F F' → Kp r0 σ0 r σ' → J K B H0 F0 F' H' σ' r → RetOk K H0 F' H' v z → D.rt v H'
theorem After.later {K : KC} {B H0 F0 : Hp} {F F1 : Fz} {D : Ends} {r0 r1 r : Env} {σ0 σ1 : L2.St} {f : Flow} (h : After K B H0 F0 F D r0 σ0 r f) (e : FEx F F1) (k : Kp r0 σ0 r1 σ1) : After K B H0 F0 F1 D r1 σ1 r f := by
  cases f with
  | nx => exact fun F' H' σ' e' k' j => h F' H' σ' (e.trans e') (k.trans k') j
  | bk => exact fun F' H' σ' e' k' j => h F' H' σ' (e.trans e') (k.trans k') j
  | ct => exact fun F' H' σ' e' k' j => h F' H' σ' (e.trans e') (k.trans k') j
  | rt z => exact fun F' H' σ' v e' k' j o => h F' H' σ' v (e.trans e') (k.trans k') j o
def RS (K : KC) (t : TS) (f : SF) : Prop := ∀ (B H0 F0 : Hp) (F : Fz) (H : Hp) (σ : L2.St) (r : Env) (fl : Flow) (r' : Env), f r = some (fl, r') → J K B H0 F0 F H σ r → ∀ D : Ends, After K B H0 F0 F D r σ r' fl → t D σ H
structure DS (X : Cx) (st : Stmt) (f : SF) : Prop where
  ex : ∃ t, PS X st t ∧ RS X.kc t f
structure DSs (X : Cx) (st : List Stmt) (f : SF) : Prop where
  ex : ∃ t, PSs X st t ∧ RS X.kc t f
section
variable {X : Cx} {e : Expr} {fa : EF} {st : Stmt} {rest : List Stmt} {f g : SF} {pos : Pos} {q1 : Bool}
theorem rs_next {K : KC} : RS K tNext sNext := fun B H0 F0 F H σ r fl r' q j D a => by
  cases q
  exact a F H σ (.refl _) .refl j
theorem dss_nil : DSs X [] sNext := ⟨_, pss_nil, rs_next⟩
theorem rs_seq {K : KC} {t u : TS} (h1 : RS K t f) (h2 : RS K u g) : RS K (tSeq t u) (sSeq f g) := fun B H0 F0 F H σ r fl r' q j D a => by
  simp only [sSeq, Option.bind_eq_some_iff] at q
  obtain ⟨⟨fl1, r1⟩, q1, q2⟩ := q
  refine h1 _ _ _ _ _ _ _ _ _ q1 j { D with nx := u D } ?_
  cases fl1 with
  | nx => exact fun F' H' σ' e' k' j' => h2 _ _ _ _ _ _ _ _ _ q2 j' D (a.later e' k')
  | bk => cases q2; exact a
  | ct => cases q2; exact a
  | rt z => cases q2; exact a
theorem dss_cons (h1 : DS X st f) (h2 : DSs X rest g) : DSs X (st :: rest) (sSeq f g) := by
  obtain ⟨t, a1, a2⟩ := h1.ex
  obtain ⟨u, b1, b2⟩ := h2.ex
  exact ⟨_, pss_cons a1 b1, rs_seq a2 b2⟩
theorem dss_one (h1 : DS X st f) : DSs X [st] f := by
  obtain ⟨t, a1, a2⟩ := h1.ex
  exact ⟨_, pss_one a1, a2⟩
theorem ds_expr (he : DE X q1 e fa) (hs : swapsWith e none pos.line X.env = pure false := by rfl) : DS X (.Expr e pos) (sDrop fa) := by
  obtain ⟨t, a1, a2⟩ := he.ex
  refine ⟨_, ps_expr a1 hs, fun B H0 F0 F H σ r fl r' q j D a => ?_⟩
  simp only [sDrop, Option.bind_eq_some_iff] at q
  obtain ⟨⟨z, r1⟩, q1, q2⟩ := q
  cases q2
  exact a2 _ _ _ _ _ _ _ _ _ q1 j _ fun F1 H1 v e1 j1 _ => a F1 H1 σ e1.f e1.kp j1
theorem give_ok {K : KC} {B H0 F0 : Hp} {F : Fz} {H : Hp} {σ : L2.St} {r : Env} {v : V} {z z' : Res} (q : give r z = some z') (j : J K B H0 F0 F H σ r) (h : ResOk K H0 F H σ r v z) : RetOk K H0 F H v z' := by
  cases z with
  | sh x => cases q; exact h
  | fr c =>
    cases q
    obtain ⟨p, rfl, a, b, t, c, _⟩ := h
    exact ⟨p, rfl, a, b, t, c⟩
  | fl n f =>
    have h : FldV F H n f v := h
    unfold give at q
    dsimp only at q
    split at q
    · rename_i y e
      cases q
      exact j.so.fieldV h e
    · cases q
  | sl i =>
    have h : σ[i]? = some (some v) := h
    unfold give at q
    dsimp only at q
    split at q
    · rename_i y e
      cases q
      obtain ⟨v', a, b⟩ := j.sl i _ e
      rw [h] at a; cases a
      exact b
    · rename_i y e
      cases q
      obtain ⟨p, a, h0, hf, t, o⟩ := j.sl i _ e
      rw [h] at a; cases a
      exact ⟨p, rfl, h0, hf, t, o⟩
    · cases q
theorem ds_ret (he : DE X q1 e fa) : DS X (.Return (some e) pos) (sRet fa) := by
  obtain ⟨t, a1, a2⟩ := he.ex
  refine ⟨_, ps_ret a1, fun B H0 F0 F H σ r fl r' q j D a => ?_⟩
  simp only [sRet, Option.bind_eq_some_iff] at q
  obtain ⟨⟨z, r1⟩, q1, z', q2, q3⟩ := q
  cases q3
  exact a2 _ _ _ _ _ _ _ _ _ q1 j _ fun F1 H1 v e1 j1 k1 => a F1 H1 σ v e1.f e1.kp j1 (give_ok q2 j1 k1)
theorem ds_if {c : Expr} {as bs : List Stmt} {t : TF} (hc : DT X c t) (ha : DSs X as f) (hb : DSs X bs g) : DS X (.If c as bs pos) (sIf t f g) := by
  obtain ⟨tc, c1, c2⟩ := hc.ex
  obtain ⟨ta, a1, a2⟩ := ha.ex
  obtain ⟨tb, b1, b2⟩ := hb.ex
  refine ⟨_, ps_if c1 a1 b1, fun B H0 F0 F H σ r fl r' q j D a => ?_⟩
  simp only [sIf, Option.bind_eq_some_iff] at q
  obtain ⟨⟨b, r1⟩, q1, q2⟩ := q
  refine c2 _ _ _ _ _ _ _ _ _ q1 j _ fun F1 H1 e1 j1 => ?_
  cases b with
  | true =>
    rw [if_pos rfl] at q2 ⊢
    exact a2 _ _ _ _ _ _ _ _ _ q2 j1 D (a.later e1.f e1.kp)
  | false =>
    rw [if_neg Bool.false_ne_true] at q2 ⊢
    exact b2 _ _ _ _ _ _ _ _ _ q2 j1 D (a.later e1.f e1.kp)
end
end CM
end
section
set_option Elab.async false
set_option linter.all false
set_option maxRecDepth 100000
set_option autoImplicit false
namespace CM
open PySem PySem.Spec PyProof.Rows L2
section
variable {K : KC} {F F' F1 : Fz} {H H' H1 B H0 F0 : Hp} {σ : L2.St} {r r' : Env} {v : V} {c : C} {x : D} {p : Addr} {s : Slot}
theorem J.set (j : J K B H0 F0 F H σ r) (i : Nat) (h : SlotOk K B H0 F H (some (some v)) s) (hn : ∀ c, s = .ow c → ∀ (k : Nat) (e : C), k ≠ i → r.sl[k]? = some (.ow e) → σ[k]? ≠ some (some v)) : J K B H0 F0 F H (σ.set i (some v)) (r.put i s) := by
  refine ⟨j.eb, j.e0, j.ef, j.fh, j.nw, j.so, by rw [List.length_set, put_len]; exact j.len, fun k t q => ?_, fun k l c e p h1 h2 h3 h4 => ?_⟩
  · rcases put_at q with ⟨rfl, rfl, hl⟩ | ⟨z, q⟩
    · rw [List.getElem?_set_self (by rw [j.len]; exact hl)]
      exact h
    · rw [List.getElem?_set_ne z]; exact j.sl k t q
  · have gi : ∀ {c : C} {p : Addr}, (r.put i s).sl[i]? = some (.ow c) → (σ.set i (some v))[i]? = some (some (.ref p)) → s = .ow c ∧ v = .ref p := fun {c p} q q' => by
      rcases put_at q with ⟨_, w, hl⟩ | ⟨z, _⟩
      · rw [List.getElem?_set_self (by rw [j.len]; exact hl)] at q'
        exact ⟨w.symm, Option.some.inj (Option.some.inj q')⟩
      · exact absurd rfl z
    have go : ∀ {k : Nat} {c : C}, i ≠ k → (r.put i s).sl[k]? = some (.ow c) → r.sl[k]? = some (.ow c) := fun {k c} z q => by
      rcases put_at q with ⟨w, _, _⟩ | ⟨_, q⟩
      · exact absurd w z
      · exact q
    by_cases zk : i = k
    · subst zk
      by_cases zl : i = l
      · exact zl
      · have h2 := go zl h2
        rw [List.getElem?_set_ne zl] at h4
        obtain ⟨a, b⟩ := gi h1 h3
        subst b
        exact absurd h4 (hn c a l e (fun w => zl w.symm) h2)
    · have h1 := go zk h1
      rw [List.getElem?_set_ne zk] at h3
      by_cases zl : i = l
      · subst zl
        obtain ⟨a, b⟩ := gi h2 h4
        subst b
        exact absurd h3 (hn e a k c (fun w => zk w.symm) h1)
      · have h2 := go zl h2
        rw [List.getElem?_set_ne zl] at h4
        exact j.dj k l c e p h1 h2 h3 h4
theorem J.setSh (j : J K B H0 F0 F H σ r) (i : Nat) (h : Vp K F v x) : J K B H0 F0 F H (σ.set i (some v)) (r.put i (.sh x)) := j.set i ⟨v, rfl, h⟩ (fun c z => by cases z)
theorem Kp.set {i : Nat} {w : Option V} (h : ¬ Lent s) : Kp r σ (r.put i s) (σ.set i w) := fun k t l q => by
  rcases put_at q with ⟨_, e, _⟩ | ⟨z, q⟩
  · subst e; exact absurd l h
  · exact ⟨q, List.getElem?_set_ne z⟩
theorem Kp.put {i : Nat} (h : ¬ Lent s) : Kp r σ (r.put i s) σ := fun k t l q => by
  rcases put_at q with ⟨_, e, _⟩ | ⟨z, q⟩
  · subst e; exact absurd l h
  · exact ⟨q, rfl⟩
theorem keep_ok {z : Res} {i : Nat} (q : keep i r z = some r') (j : J K B H0 F0 F H σ r) (h : ResOk K H0 F H σ r v z) : ∃ F', FEx F F' ∧ Kp r σ r' (σ.set i (some v)) ∧ J K B H0 F0 F' H (σ.set i (some v)) r' := by
  cases z with
  | sh y => cases q; exact ⟨F, .refl _, .set id, j.setSh i h⟩
  | fr c =>
    cases q
    obtain ⟨p, rfl, h0, hf, ht, o, hn⟩ := h
    exact ⟨F, .refl _, .set id, j.set i ⟨p, rfl, h0, hf, ht, o⟩ fun c z k e _ q => hn k e q⟩
  | fl n f =>
    have h : FldV F H n f v := h
    unfold keep at q
    dsimp only at q
    split at q
    · rename_i y e
      cases q
      have k : Vp K F v y := j.so.fieldV h e
      exact ⟨F, .refl _, .set id, j.setSh i k⟩
    · cases q
  | sl k =>
    have h : σ[k]? = some (some v) := h
    unfold keep at q
    dsimp only at q
    split at q
    · rename_i y e
      cases q
      obtain ⟨v', a, b⟩ := j.sl k _ e
      rw [h] at a; cases a
      exact ⟨F, .refl _, .set id, j.setSh i b⟩
    · rename_i y e
      cases q
      obtain ⟨F', e', j', d⟩ := toSh_ok (z := .sl k) (x := y) (r' := r.put k (.sh y)) (by unfold toSh; dsimp only; rw [e]) j h
      exact ⟨F', e'.f, Kp.trans (.put id) (.set id), j'.setSh i d⟩
    · cases q
end
section
variable {X : Cx} {e : Expr} {fa : EF} {pos : Pos} {q1 : Bool}
theorem rs_set {K : KC} {t : TE} {i : Nat} (h : RE K q1 t fa) : RS K (tAsg t (gName i)) (sSet i fa) := fun B H0 F0 F H σ r fl r' q j D a => by
  simp only [sSet, Option.bind_eq_some_iff] at q
  obtain ⟨⟨z, r1⟩, q1, r2, q2, q3⟩ := q
  cases q3
  refine h _ _ _ _ _ _ _ _ _ q1 j _ fun F1 H1 v e1 j1 k1 => ?_
  obtain ⟨F2, e2, kp, j2⟩ := keep_ok q2 j1 k1
  exact a F2 H1 _ (e1.f.trans e2) (e1.kp.trans kp) j2
theorem ds_set {i : Nat} {x : Str} {pos' : Pos} (hN : X.N.Nodup) (hi : X.N[i]? = some x) (hx : Loc X.env.scope x) (he : DE X q1 e fa) (hs : swapsWith e (some (.Name x pos')) pos.line X.env = pure false := by rfl)
    (hf : X.fn x = true ∨ X.env.scope.names.lookup x = some .local := by first | exact .inl rfl | exact .inr rfl | assumption) : DS X (.Assign [.Name x pos'] e pos) (sSet i fa) := by
  obtain ⟨t, a1, a2⟩ := he.ex
  exact ⟨_, ps_set hN hi hx a1 hs hf, rs_set a2⟩

def ptSlots : Pat → List Nat
  | .v i => [i]
  | .t is => is
theorem wipe_set {σ : L2.St} {i : Nat} {y : Option V} : ∀ {vs : List Nat}, i ∈ vs → wipe (σ.set i y) vs = wipe σ vs
  | [], h => by cases h
  | v :: vs, h => by
    unfold wipe
    by_cases hv : i ∈ vs
    · rw [wipe_set hv]
    · have e : i = v := by
        rcases List.mem_cons.mp h with z | z
        · exact z
        · exact absurd z hv
      subst e
      have g : ∀ (ws : List Nat) (σ : L2.St), i ∉ ws → wipe (σ.set i y) ws = (wipe σ ws).set i y := fun ws => by
        induction ws with
        | nil => intro σ _; rfl
        | cons w ws ih =>
          intro σ hw
          unfold wipe
          rw [ih σ (fun z => hw (List.mem_cons_of_mem _ z))]
          exact List.set_comm _ _ (fun z => hw (by rw [z]; exact List.mem_cons_self))
      rw [g vs σ hv, List.set_set]
def RG (K : KC) (g : TG) (q : Pat) : Prop := ∀ (B H0 F0 : Hp) (F : Fz) (H : Hp) (σ : L2.St) (r r' : Env) (v : V) (x : D), bindP q x r = some r' → J K B H0 F0 F H σ r → Vp K F v x →
  ∀ Q : L2.St → Hp → Prop, (∀ σ', J K B H0 F0 F H σ' r' → Kp r σ r' σ' → r'.st = r.st → (∀ vs : List Nat, (∀ i ∈ ptSlots q, i ∈ vs) → wipe σ' vs = wipe σ vs) → Q σ' H) → g v σ H Q
structure DG (X : Cx) (tg : Expr) (q : Pat) : Prop where
  ex : ∃ g, PG X tg g ∧ RG X.kc g q
theorem dg_name {i : Nat} {x : Str} (hN : X.N.Nodup) (hi : X.N[i]? = some x) (hx : Loc X.env.scope x) (hf : X.fn x = true ∨ X.env.scope.names.lookup x = some .local := by first | exact .inl rfl | exact .inr rfl | assumption) : DG X (.Name x pos) (.v i) :=
  ⟨_, pg_name hN hi hx hf, fun B H0 F0 F H σ r r' v x q j d Q k => by
    cases q
    exact k _ (j.setSh i d) (.set id) rfl fun vs h => wipe_set (h i (List.mem_cons_self))⟩
def RGs (K : KC) (g : TGs) (is : List Nat) : Prop := ∀ (B H0 F0 : Hp) (F : Fz) (H : Hp) (σ : L2.St) (r r' : Env) (vs : List V) (xs : List D), setAll is xs r = some r' → J K B H0 F0 F H σ r → VpAll K F vs xs →
  ∀ Q : L2.St → Hp → Prop, (∀ σ', J K B H0 F0 F H σ' r' → Kp r σ r' σ' → r'.st = r.st → (∀ vs : List Nat, (∀ i ∈ is, i ∈ vs) → wipe σ' vs = wipe σ vs) → Q σ' H) → g vs σ H Q
structure DGs (X : Cx) (ts : List Expr) (is : List Nat) : Prop where
  ex : ∃ g, PGs X ts g ∧ RGs X.kc g is
theorem dgs_nil : DGs X [] [] := ⟨_, pgs_nil, fun B H0 F0 F H σ r r' vs xs q j d Q k => by
  cases xs with
  | nil =>
    cases d
    cases q
    exact ⟨rfl, k _ j .refl rfl fun _ _ => rfl⟩
  | cons _ _ => cases q⟩
theorem dgs_cons {i : Nat} {x : Str} {ts : List Expr} {is : List Nat} (hN : X.N.Nodup) (hi : X.N[i]? = some x) (hx : Loc X.env.scope x) (h : DGs X ts is) (hf : X.fn x = true ∨ X.env.scope.names.lookup x = some .local := by first | exact .inl rfl | exact .inr rfl | assumption) :
    DGs X (.Name x pos :: ts) (i :: is) := by
  obtain ⟨g, a1, a2⟩ := h.ex
  refine ⟨_, pgs_cons (pg_name hN hi hx hf) a1, fun B H0 F0 F H σ r r' vs xs q j d Q k => ?_⟩
  cases xs with
  | nil => cases q
  | cons y ys =>
    cases d with
    | cons d1 d2 =>
      refine ⟨_, _, rfl, a2 _ _ _ _ _ _ _ _ _ _ q (j.setSh i d1) d2 _ fun σ' j' kp es w => k σ' j' (Kp.trans (.set id) kp) es fun vs h => ?_⟩
      rw [w vs fun l hl => h l (List.mem_cons_of_mem _ hl), wipe_set (h i List.mem_cons_self)]
theorem setAll_len : ∀ {is : List Nat} {xs : List D} {r r' : Env}, setAll is xs r = some r' → xs.length = is.length
  | [], [], _, _, _ => rfl
  | [], _ :: _, _, _, q => by cases q
  | _ :: _, [], _, _, q => by cases q
  | i :: is, x :: xs, _, _, q => by
    have h := setAll_len (is := is) (xs := xs) q
    simp [h]
theorem dg_tup {es : List Expr} {is : List Nat} {k : Nat} (hc : X.calm = true) (h : DGs X es is) (hn : (assignEach es X.env).length = is.length := by rfl) (hst : (assignEach es X.env).findIdx? (·.1) = none := by rfl) :
    DG X (.Tuple es k pos) (.t is) := by
  obtain ⟨g, a1, a2⟩ := h.ex
  refine ⟨_, pg_tup hc a1 hn hst, fun B H0 F0 F H σ r r' v x q j d Q k => ?_⟩
  cases x with
  | tuple xs =>
    cases d with
    | tup hs ha =>
      exact ⟨_, _, rfl, j.fh.t hs.sq, (VpAll.length ha).trans (setAll_len q), a2 _ _ _ _ _ _ _ _ _ _ q j ha Q k⟩
  | _ => cases q
theorem ds_bind {tg : Expr} {p : Pat} (hg : DG X tg p) (he : DE X q1 e fa) (hs : swapsWithSole [tg] e pos.line X.env = pure false := by rfl) (hw : swappedStores [tg] e X.env = pure none := by rfl) (h1 : List.map (fun x => x.snd) (assignEach [tg] X.env) = [assign tg X.env] := by rfl) : DS X (.Assign [tg] e pos) (sBind p fa) := by
  obtain ⟨t, a1, a2⟩ := he.ex
  obtain ⟨g, b1, b2⟩ := hg.ex
  refine ⟨_, ps_asg a1 b1 hs hw h1, fun B H0 F0 F H σ r fl r' q j D a => ?_⟩
  simp only [sBind, Option.bind_eq_some_iff] at q
  obtain ⟨⟨z, r1⟩, q1, ⟨x, r2⟩, q2, r3, q3, q4⟩ := q
  cases q4
  refine a2 _ _ _ _ _ _ _ _ _ q1 j _ fun F1 H1 v e1 j1 k1 => ?_
  obtain ⟨F2, e2, j2, d2⟩ := toSh_ok q2 j1 k1
  exact b2 _ _ _ _ _ _ _ _ _ _ q3 j2 d2 _ fun σ' j' kp _ _ => a F2 H1 σ' (e1.f.trans e2.f) ((e1.kp.trans e2.kp).trans kp) j'
end
def ItOk (K : KC) (T : It) (G : Hp) (F : Fz) (ds : List D) : Prop := ∀ (i : Nat) (F1 : Fz) (H1 : Hp), FEx F F1 → Ex F1.f H1 → Ex G H1 →
  (i < ds.length → T.go i H1 ∧ ∀ x H2, T.yld i H1 x H2 → ∃ F2, Grow F1 H1 F2 H2 ∧ ∃ d, ds[i]? = some d ∧ Vp K F2 x d) ∧ (ds.length ≤ i → T.stop i H1)
structure LkOk (K : KC) (l : Lk) (B H0 F0 : Hp) (F : Fz) (H : Hp) (σ : L2.St) (r : Env) (B' H0' : Hp) (FL : Fz) : Prop where
  j : J K B' H0' F0 FL H σ (lock l r)
  un : ∀ F2 H2 σ2 r2, FEx FL F2 → Kp (lock l r) σ r2 σ2 → J K B' H0' F0 F2 H2 σ2 r2 → ∃ F3, FEx F F3 ∧ FEi F2 F3 ∧ F3.f = F2.f ∧ Kp r σ (unlock l r2) σ2 ∧ J K B H0 F0 F3 H2 σ2 (unlock l r2) ∧ (∀ p, H0' p = none → H0 p = none ∧ (F2.t p = none → F3.t p = none)) ∧
    ∀ (i : Nat) (e : C) (p : Addr), (unlock l r2).sl[i]? = some (.ow e) → σ2[i]? = some (some (.ref p)) → r2.sl[i]? = some (.ow e) ∨ H0' p ≠ none
section
variable {K : KC} {F F' F1 : Fz} {H H' H1 B H0 F0 : Hp} {σ : L2.St} {r r' : Env} {v : V} {c : C} {x : D} {p : Addr} {s : Slot} {ds : List D}
theorem LkOk.no (j : J K B H0 F0 F H σ r) : LkOk K .no B H0 F0 F H σ r B H0 F := ⟨j, fun F2 H2 σ2 r2 e k j2 => ⟨F2, e, .refl _, rfl, k, j2, fun p h => ⟨h, id⟩, fun _ _ _ h _ => .inl h⟩⟩
theorem LkOk.slot {i : Nat} {c : C} (j : J K B H0 F0 F H σ r) (hi : r.sl[i]? = some (.ow c)) : ∃ p o, σ[i]? = some (some (.ref p)) ∧ H p = some o ∧ Od K F H p c ∧ LkOk K (.sl i) B H0 F0 F H σ r (upd B p o) (upd H0 p o) F := by
  obtain ⟨p, hp, h0, hf, ht, od⟩ := j.sl i _ hi
  obtain ⟨o, ho⟩ : ∃ o, H p = some o := by
    cases w : H p with
    | none => exact absurd w od.ne
    | some o => exact ⟨o, rfl⟩
  have hb : B p = none := j.eb.back h0
  have f0 : F0 p = none := j.ef.back hf
  have hl : lock (.sl i) r = r.put i (.lk c) := by show (match r.sl[i]? with | some (.ow c) => r.put i (.lk c) | _ => r) = _; rw [hi]
  have e00 : Ex (upd H0 p o) H := fun a u q => by
    by_cases z : a = p
    · subst z; rw [upd_same] at q; rw [ho]; exact q
    · rw [upd_ne z] at q; exact j.e0 a u q
  refine ⟨p, o, hp, ho, od, ?_, fun F2 H2 σ2 r2 e k j2 => ?_⟩
  · rw [hl]
    refine ⟨j.eb.up2 h0, e00, j.ef, j.fh, fun a u q => ?_, j.so.weak fun a t q w => ?_, by rw [put_len]; exact j.len, fun k s q => ?_, fun k l c1 c2 p' q1 q2 q3 q4 => ?_⟩
    · rcases j.nw a u q with z | z | z
      · exact .inl z
      · exact .inr (.inl (by rw [upd_ne fun w => by subst w; rw [hf] at q; cases q]; exact z))
      · exact .inr (.inr z)
    · rw [upd_ne fun w => by subst w; rw [ht] at q; cases q]; exact w
    · rcases put_at q with ⟨rfl, rfl, _⟩ | ⟨z, q⟩
      · refine ⟨.ref p, hp, od.bd.priv fun p' o' e' w => ?_⟩
        cases e'
        rw [ho] at w; cases w
        exact upd_same
      · have b := j.sl k s q
        cases s with
        | no => trivial
        | sh d => exact b
        | bo c1 => obtain ⟨v, a, b⟩ := b; exact ⟨v, a, b.up (FEi.refl _) (.new hb)⟩
        | lk c1 => obtain ⟨v, a, b⟩ := b; exact ⟨v, a, b.up (FEi.refl _) (.new hb)⟩
        | ow c1 =>
          obtain ⟨p', a, b1, b2, b3, b4⟩ := b
          refine ⟨p', a, ?_, b2, b3, b4⟩
          rw [upd_ne fun w => ?_]
          · exact b1
          · subst w; exact z (j.dj i k c c1 p' hi q hp a)
    · have g : ∀ {k : Nat} {c1 : C}, (r.put i (.lk c)).sl[k]? = some (.ow c1) → r.sl[k]? = some (.ow c1) := fun {k c1} q => by
        rcases put_at q with ⟨_, w, _⟩ | ⟨_, q⟩
        · cases w
        · exact q
      exact j.dj k l c1 c2 p' (g q1) (g q2) q3 q4
  · rw [hl] at k
    have e2 : H2 p = some o := j2.e0 _ _ upd_same
    have back : ∀ a, upd H0 p o a = none → H0 a = none ∧ a ≠ p := fun a q => by
      have z : a ≠ p := fun z => by subst z; rw [upd_same] at q; cases q
      rw [upd_ne z] at q
      exact ⟨q, z⟩
    have lent : ∀ (m : Nat) (s : Slot), Lent s → m ≠ i → r2.sl[m]? = some s → r.sl[m]? = some s ∧ σ2[m]? = σ[m]? := fun m s l hm q => by
      obtain ⟨w1, w2⟩ := k m s l q
      rcases put_at w1 with ⟨z, _, _⟩ | ⟨_, w1⟩
      · exact absurd z.symm hm
      · exact ⟨w1, w2⟩
    have slots : ∀ (m : Nat) (s : Slot), m ≠ i ∨ ¬ Lent s → r2.sl[m]? = some s → SlotOk K B H0 F2 H2 (σ2[m]?) s := fun m s hm q => by
      have b := j2.sl m s q
      cases s with
      | no => trivial
      | sh d => exact b
      | bo c1 =>
        obtain ⟨w1, w2⟩ := lent m (.bo c1) trivial (hm.elim id fun w => absurd trivial w) q
        obtain ⟨v, a, b⟩ := j.sl m _ w1
        exact ⟨v, by rw [w2]; exact a, b.up (e : FEi F F2) (.refl _)⟩
      | lk c1 =>
        obtain ⟨w1, w2⟩ := lent m (.lk c1) trivial (hm.elim id fun w => absurd trivial w) q
        obtain ⟨v, a, b⟩ := j.sl m _ w1
        exact ⟨v, by rw [w2]; exact a, b.up (e : FEi F F2) (.refl _)⟩
      | ow c1 =>
        obtain ⟨p', a, b1, b2, b3, b4⟩ := b
        exact ⟨p', a, (back _ b1).1, b2, b3, b4⟩
    have nw2 : ∀ a u, F2.f a = some u → F0 a = some u ∨ H0 a = none ∨ TupO u := fun a u q => (j2.nw a u q).imp id fun w => w.imp (fun w => (back a w).1) id
    have so2 : StOk K H0 F2 H2 r2.st := j2.so.weak fun a t q w => (back a w).1
    have tail : ∀ q, upd H0 p o q = none → H0 q = none ∧ (F2.t q = none → F2.t q = none) := fun q w => ⟨(back q w).1, id⟩
    cases hs : r2.sl[i]? with
    | none =>
      have hu : unlock (.sl i) r2 = r2 := by show (match r2.sl[i]? with | some (.lk c) => r2.put i (.ow c) | _ => r2) = _; rw [hs]
      refine ⟨F2, e, .refl _, rfl, ?_, ?_, tail, fun _ _ _ h _ => .inl (by rw [hu] at h; exact h)⟩
      · rw [hu]
        exact fun m s l q => lent m s l (fun z => by subst z; rw [hs] at q; cases q) q
      · rw [hu]
        exact ⟨j.eb, (Ex.new h0).trans j2.e0, j2.ef, j2.fh, nw2, so2, j2.len, fun m s q => slots m s (.inl fun z => by subst z; rw [hs] at q; cases q) q, j2.dj⟩
    | some s0 =>
      by_cases hlk : ∃ c', s0 = .lk c'
      · obtain ⟨c', rfl⟩ := hlk
        obtain ⟨w1, w2⟩ := k i (.lk c') trivial hs
        have hc : c' = c := by
          rcases put_at w1 with ⟨_, z, _⟩ | ⟨z, _⟩
          · cases z; rfl
          · exact absurd rfl z
        subst hc
        have hu : unlock (.sl i) r2 = r2.put i (.ow c') := by show (match r2.sl[i]? with | some (.lk c) => r2.put i (.ow c) | _ => r2) = _; rw [hs]
        have hf2 : F2.f p = none := by
          cases w : F2.f p with
          | none => rfl
          | some u =>
            rcases j2.nw p u w with z | z | z
            · rw [f0] at z; cases z
            · rw [upd_same] at z; cases z
            · have h1 := j2.e0 _ _ (upd_same (H := H0) (a := p) (o := o))
              rw [j2.fh _ _ w] at h1
              cases h1
              exact absurd ho (od.noT z)
        have ht2 : F2.t p = none := by
          cases w : F2.t p with
          | none => rfl
          | some u =>
            rcases (j2.so.sep p u w).2.2 with z | ⟨n, f, z⟩
            · rw [upd_same] at z; cases z
            · subst z
              have := (e.l p n f).mpr w
              rw [ht] at this; cases this
        refine ⟨F2, e, .refl _, rfl, ?_, ?_, tail, fun m c1 p' h h' => ?_⟩
        rotate_left 2
        · rw [hu] at h
          rcases put_at h with ⟨z, _, _⟩ | ⟨_, h⟩
          · subst z
            rw [w2, hp] at h'; cases h'
            exact .inr (by rw [upd_same]; exact fun z => by cases z)
          · exact .inl h
        · rw [hu]
          intro m s l q
          rcases put_at q with ⟨_, z, _⟩ | ⟨z, q⟩
          · subst z; exact l.elim
          · exact lent m s l (fun w => z w.symm) q
        · rw [hu]
          refine ⟨j.eb, (Ex.new h0).trans j2.e0, j2.ef, j2.fh, nw2, so2, by rw [put_len]; exact j2.len, fun m s q => ?_, fun m l c1 c2 p' q1 q2 q3 q4 => ?_⟩
          · rcases put_at q with ⟨rfl, rfl, _⟩ | ⟨z, q⟩
            · exact ⟨p, by rw [w2]; exact hp, h0, hf2, ht2, od.up (e : FEi F F2) fun u q => by rw [ho] at q; rw [e2]; exact q⟩
            · exact slots m s (.inl fun w => z w.symm) q
          · have own : ∀ {m : Nat} {c1 : C}, m ≠ i → (r2.put i (.ow c')).sl[m]? = some (.ow c1) → σ2[m]? = some (some (.ref p)) → False := fun {m c1} hm q q3 => by
              rcases put_at q with ⟨z, _, _⟩ | ⟨_, q⟩
              · exact hm z.symm
              · obtain ⟨p'', a, b, _⟩ := j2.sl m _ q
                rw [q3] at a; cases a
                rw [upd_same] at b; cases b
            have at_i : σ2[i]? = some (some (.ref p)) := by rw [w2]; exact hp
            by_cases zm : m = i
            · by_cases zl : l = i
              · rw [zm, zl]
              · subst zm
                rw [at_i] at q3; cases q3
                exact (own zl q2 q4).elim
            · by_cases zl : l = i
              · subst zl
                rw [at_i] at q4; cases q4
                exact (own zm q1 q3).elim
              · have g : ∀ {m : Nat} {c1 : C}, m ≠ i → (r2.put i (.ow c')).sl[m]? = some (.ow c1) → r2.sl[m]? = some (.ow c1) := fun {m c1} hm q => by
                  rcases put_at q with ⟨z, _, _⟩ | ⟨_, q⟩
                  · exact absurd z.symm hm
                  · exact q
                exact j2.dj m l c1 c2 p' (g zm q1) (g zl q2) q3 q4
      · have hu : unlock (.sl i) r2 = r2 := by
          show (match r2.sl[i]? with | some (.lk c) => r2.put i (.ow c) | _ => r2) = _
          rw [hs]
          cases s0 with
          | lk c' => exact absurd ⟨c', rfl⟩ hlk
          | _ => rfl
        have nl : ∀ s, r2.sl[i]? = some s → ¬ Lent s := fun s q l => by
          rw [hs] at q; cases q
          obtain ⟨w1, _⟩ := k i _ l hs
          rcases put_at w1 with ⟨_, z, _⟩ | ⟨z, _⟩
          · exact hlk ⟨c, z⟩
          · exact absurd rfl z
        refine ⟨F2, e, .refl _, rfl, ?_, ?_, tail, fun _ _ _ h _ => .inl (by rw [hu] at h; exact h)⟩
        · rw [hu]
          exact fun m s l q => lent m s l (fun z => by subst z; exact nl s q l) q
        · rw [hu]
          exact ⟨j.eb, (Ex.new h0).trans j2.e0, j2.ef, j2.fh, nw2, so2, j2.len, fun m s q => slots m s (by
            by_cases z : m = i
            · subst z; exact .inr (nl s q)
            · exact .inl z) q, j2.dj⟩
end
end CM
end
section
set_option Elab.async false
set_option linter.all false
set_option maxRecDepth 100000
set_option autoImplicit false
namespace CM
open PySem PySem.Spec PyProof.Rows L2
section
variable {K : KC} {F F' F1 : Fz} {H H' H1 B H0 F0 : Hp} {σ : L2.St} {r r' : Env} {v : V} {c : C} {x : D} {p : Addr} {s : Slot} {ds : List D}
def Fz.tag (F : Fz) (q : Addr) (u : Tg) : Fz := ⟨F.f, fun a => if a = q then some u else F.t a⟩
theorem Fz.tag_ne {q a : Addr} {u : Tg} (h : a ≠ q) : (F.tag q u).t a = F.t a := if_neg h
theorem Fz.tag_at {q : Addr} {u : Tg} : (F.tag q u).t q = some u := if_pos rfl
theorem StOk.retag {st : Store} {n : Nat} {f : Str} {C dx : Addr} {es : List (Str × V)} {q : Addr} {t u : Tg} {d d' : Fd} {H0' : Hp} (s : StOk K H0 F H st) (ti : F.t p = some (.ins n)) (hp : H p = some (.ins C dx es)) (hv : es.lookup f = some (.ref q)) (hq : F.t q = some t)
    (ht : t = .fld n f ∨ t = .lok n f) (hu : u = .fld n f ∨ u = .lok n f) (hl : fldAt st n f = some d) (fo : FdOk K (F.tag q u) H n f (.ref q) d') (hd : (u = .fld n f → ∃ c, d' = .ow c) ∧ (u = .lok n f → ∃ c, d' = .lk c)) (hx : ∀ t', (t' = Tg.fld n f ∨ t' = .lok n f) → ∀ a, F.t a = some t' → a = q)
    (h0 : H0' q = none ∨ ∃ n f, u = .lok n f) (h00 : ∀ a, a ≠ q → F.t a ≠ none → H0 a = none → H0' a = none) : StOk K H0' (F.tag q u) H (stPut st n f d') := by
  have nq : ∀ {m : Nat}, Tg.ins m ≠ t := fun z => by rcases ht with w | w <;> subst w <;> cases z
  have ne : ∀ {a : Addr} {w : Tg}, F.t a = some w → w ≠ .fld n f → w ≠ .lok n f → a ≠ q := fun {a w} e z1 z2 y => by
    subst y
    rw [hq] at e; cases e
    rcases ht with w | w
    · exact z1 w
    · exact z2 w
  have only : ∀ a w, (w = Tg.fld n f ∨ w = .lok n f) → (F.tag q u).t a = some w → a = q ∧ w = u := fun a w hw e => by
    by_cases y : a = q
    · subst y; rw [Fz.tag_at] at e; exact ⟨rfl, (Option.some.inj e).symm⟩
    · rw [Fz.tag_ne y] at e; exact absurd (hx w hw a e) y
  have nb : f ≠ bxS := fun z => by
    subst z
    exact s.bi q p n (ht.imp (fun w => by rw [← w]; exact hq) fun w => by rw [← w]; exact hq) ti
  refine s.upd nb (p := p) (C := C) (dx := dx) (es := es) (v' := .ref q) ti hp ⟨.refl _, fun a m e => ?_, fun a m e => ?_⟩ (fun a w z1 z2 => ?_) (fun a w e z1 z2 _ o h => h) (by rw [putF_same hv]; exact hp) fo (fun a w e hw => ?_) (fun a b w hw e e' => by rw [(only a w hw e).1, (only b w hw e').1]) (fun a w e z1 z2 => ⟨(s.sep a w e).1, h00 a (ne e z1 z2) (by rw [e]; exact fun z => by cases z)⟩) (fun o e => ?_)
  · rw [Fz.tag_ne fun z => by subst z; rw [hq] at e; cases e; exact nq rfl]; exact e
  · refine e.same (Fz.tag_ne fun z => ?_)
    subst z
    rcases e with e | e <;> rw [hq] at e <;> cases e
    · rcases ht with w | w <;> cases w
      exact nb rfl
    · rcases ht with w | w <;> cases w
      exact nb rfl
  · by_cases y : a = q
    · subst y
      rw [Fz.tag_at, hq]
      constructor
      · intro e; cases e
        rcases hu with w | w
        · exact absurd w z1
        · exact absurd w z2
      · intro e; cases e
        rcases ht with w | w
        · exact absurd w z1
        · exact absurd w z2
    · rw [Fz.tag_ne y]
  · obtain ⟨y, w'⟩ := only a w hw e
    subst y; subst w'
    obtain ⟨c1, c2, _⟩ := s.sep a t hq
    exact ⟨c1, c2, h0, hd.1, hd.2⟩
  · unfold fldAt at hl
    rw [e] at hl
    have hl : o.fs.lookup f = some d := hl
    rw [putFd_len hl]
    obtain ⟨o', a, _, _, _, _, _, _, _, _, b⟩ := s.ob p n ti
    rw [e] at a; cases a
    exact b
theorem StOk.updB {d' : Fd} {n : Nat} {H' H0' : Hp} {st : Store} (s : StOk K H0 F H st) (nb : ∀ a, F.t a ≠ some (.ins n)) (nl : n < st.length) (g : FEi F F')
    (it : ∀ a u, u ≠ .fld n bxS → u ≠ .lok n bxS → (F'.t a = some u ↔ F.t a = some u))
    (hH : ∀ a u, F.t a = some u → u ≠ .fld n bxS → u ≠ .lok n bxS → ∀ o, H a = some o → H' a = some o)
    (sel : ∀ a u, F'.t a = some u → u = .fld n bxS ∨ u = .lok n bxS → F'.f a = none ∧ H' a ≠ none ∧ (H0' a = none ∨ ∃ n f, u = .lok n f) ∧ (u = .fld n bxS → ∃ c, d' = .ow c ∧ Od K F' H' a c) ∧ (u = .lok n bxS → ∃ c, d' = .lk c ∧ OdR K F' H' a c))
    (uni : ∀ a b u, u = .fld n bxS ∨ u = .lok n bxS → F'.t a = some u → F'.t b = some u → a = b)
    (ff : ∀ a u, F.t a = some u → u ≠ .fld n bxS → u ≠ .lok n bxS → F'.f a = none ∧ (H0 a = none → H0' a = none)) : StOk K H0' F' H' (stPut st n bxS d') := by
  have nf : ∀ {m : Nat}, Tg.ins m ≠ .fld n bxS := fun z => by cases z
  have nf' : ∀ {m : Nat}, Tg.ins m ≠ .lok n bxS := fun z => by cases z
  have up : ∀ m g v d, m ≠ n → FdOk K F H m g v d → FdOk K F' H' m g v d := fun m g' v d hne k => by
    refine k.mv g (fun q e => ?_) (fun q e => ?_)
    · have n1 : Tg.fld m g' ≠ .fld n bxS := fun z => by cases z; exact hne rfl
      have n2 : Tg.fld m g' ≠ .lok n bxS := fun z => by cases z
      exact ⟨(it q _ n1 n2).mpr e, hH q _ e n1 n2⟩
    · have n1 : Tg.lok m g' ≠ .fld n bxS := fun z => by cases z
      have n2 : Tg.lok m g' ≠ .lok n bxS := fun z => by cases z; exact hne rfl
      exact ⟨(it q _ n1 n2).mpr e, hH q _ e n1 n2⟩
  refine ⟨fun q m e => ?_, fun a b u ha hb => ?_, fun a u ha => ?_, fun a u ha => ?_, fun a m g' ha => ?_, fun a m g' ha => ?_, fun a m g' c ha hc => ?_, fun a m g' c ha hc => ?_, fun a q m hb hq => ?_, fun a m ha => ?_⟩
  · have e0 := (it q _ nf nf').mp e
    obtain ⟨o, a, C1, dx1, es1, b1, b2, b3, b4, b5, b6⟩ := s.ob q m e0
    have z : m ≠ n := fun z => by subst z; exact nb _ e0
    exact ⟨o, by rw [stPut_at, a, Option.map_some, if_neg fun w => z w.symm], C1, dx1, es1, b1, hH q _ e0 nf nf' _ b2, (it dx1 _ (fun z => by cases z) (fun z => by cases z)).mpr b3, Paired.mapP b4 fun _ _ ⟨c1, c2⟩ => ⟨c1, up _ _ _ _ z c2⟩, b5, b6⟩
  · by_cases z : u = .fld n bxS ∨ u = .lok n bxS
    · exact uni a b u z ha hb
    · have z1 : u ≠ .fld n bxS := fun w => z (.inl w)
      have z2 : u ≠ .lok n bxS := fun w => z (.inr w)
      exact s.inj a b u ((it a u z1 z2).mp ha) ((it b u z1 z2).mp hb)
  · by_cases z : u = .fld n bxS ∨ u = .lok n bxS
    · obtain ⟨c1, c2, c3, _⟩ := sel a u ha z
      exact ⟨c1, c2, c3⟩
    · have z1 : u ≠ .fld n bxS := fun w => z (.inl w)
      have z2 : u ≠ .lok n bxS := fun w => z (.inr w)
      have ha0 := (it a u z1 z2).mp ha
      obtain ⟨c1, c2, c3⟩ := s.sep a u ha0
      obtain ⟨d1, d2⟩ := ff a u ha0 z1 z2
      refine ⟨d1, ?_, c3.imp d2 id⟩
      cases q : H a with
      | none => exact absurd q c2
      | some o => rw [hH a u ha0 z1 z2 o q]; exact fun z => by cases z
  · rw [stPut_len]
    by_cases z : u = .fld n bxS ∨ u = .lok n bxS
    · rcases z with z | z
      · subst z; exact nl
      · subst z; exact nl
    · have z1 : u ≠ .fld n bxS := fun w => z (.inl w)
      have z2 : u ≠ .lok n bxS := fun w => z (.inr w)
      exact s.ix a u ((it a u z1 z2).mp ha)
  · rw [fldAt_put nl]
    by_cases z : n = m ∧ g' = bxS
    · rw [if_pos z]
      obtain ⟨z1, z2⟩ := z
      subst z1; subst z2
      obtain ⟨_, _, _, c4, _⟩ := sel a _ ha (.inl rfl)
      obtain ⟨c, e, _⟩ := c4 rfl
      exact ⟨c, by rw [e]⟩
    · rw [if_neg z]
      exact s.tf a m g' ((it a _ (fun w => by cases w; exact z ⟨rfl, rfl⟩) (fun w => by cases w)).mp ha)
  · rw [fldAt_put nl]
    by_cases z : n = m ∧ g' = bxS
    · rw [if_pos z]
      obtain ⟨z1, z2⟩ := z
      subst z1; subst z2
      obtain ⟨_, _, _, _, c5⟩ := sel a _ ha (.inr rfl)
      obtain ⟨c, e, _⟩ := c5 rfl
      exact ⟨c, by rw [e]⟩
    · rw [if_neg z]
      exact s.tl a m g' ((it a _ (fun w => by cases w) (fun w => by cases w; exact z ⟨rfl, rfl⟩)).mp ha)
  · rw [fldAt_put nl] at hc
    by_cases z : n = m ∧ g' = bxS
    · rw [if_pos z] at hc
      obtain ⟨z1, z2⟩ := z
      subst z1; subst z2
      cases hc
      obtain ⟨_, _, _, c4, _⟩ := sel a _ ha (.inl rfl)
      obtain ⟨c', e, k⟩ := c4 rfl
      cases e
      exact k
    · rw [if_neg z] at hc
      have z1 : Tg.fld m g' ≠ .fld n bxS := fun w => by cases w; exact z ⟨rfl, rfl⟩
      have ha0 := (it a _ z1 (fun w => by cases w)).mp ha
      exact (s.od a m g' c ha0 hc).up g (hH a _ ha0 z1 (fun w => by cases w))
  · rw [fldAt_put nl] at hc
    by_cases z : n = m ∧ g' = bxS
    · rw [if_pos z] at hc
      obtain ⟨z1, z2⟩ := z
      subst z1; subst z2
      cases hc
      obtain ⟨_, _, _, _, c5⟩ := sel a _ ha (.inr rfl)
      obtain ⟨c', e, k⟩ := c5 rfl
      cases e
      exact k
    · rw [if_neg z] at hc
      have z1 : Tg.lok m g' ≠ .lok n bxS := fun w => by cases w; exact z ⟨rfl, rfl⟩
      have ha0 := (it a _ (fun w => by cases w) z1).mp ha
      exact (s.odr a m g' c ha0 hc).up g (hH a _ ha0 (fun w => by cases w) z1)
  · have hq0 := (it q _ nf nf').mp hq
    by_cases z : m = n
    · subst z; exact nb _ hq0
    · exact s.bi a q m (hb.imp (fun h => (it a _ (fun w => by cases w; exact z rfl) (fun w => by cases w)).mp h) fun h => (it a _ (fun w => by cases w) (fun w => by cases w; exact z rfl)).mp h) hq0
  · have ha0 := (it a (.dic m) (fun w => by cases w) (fun w => by cases w)).mp ha
    exact ntKeep (s.sep a _ ha0).2.1 (s.dn a m ha0) (hH a _ ha0 (fun w => by cases w) (fun w => by cases w))
theorem StOk.retagB {st : Store} {n : Nat} {q : Addr} {t u : Tg} {d d' : Fd} {H0' : Hp} (s : StOk K H0 F H st) (hq : F.t q = some t)
    (ht : t = .fld n bxS ∨ t = .lok n bxS) (hu : u = .fld n bxS ∨ u = .lok n bxS) (fo : (u = .fld n bxS → ∃ c, d' = .ow c ∧ Od K (F.tag q u) H q c) ∧ (u = .lok n bxS → ∃ c, d' = .lk c ∧ OdR K (F.tag q u) H q c)) (hx : ∀ t', (t' = Tg.fld n bxS ∨ t' = .lok n bxS) → ∀ a, F.t a = some t' → a = q)
    (h0 : H0' q = none ∨ ∃ n f, u = .lok n f) (h00 : ∀ a, a ≠ q → F.t a ≠ none → H0 a = none → H0' a = none) : FEi F (F.tag q u) ∧ StOk K H0' (F.tag q u) H (stPut st n bxS d') := by
  have bt : Bt F q n := ht.imp (fun w => by rw [← w]; exact hq) fun w => by rw [← w]; exact hq
  have bt' : Bt (F.tag q u) q n := hu.imp (fun w => by rw [Fz.tag_at, w]) fun w => by rw [Fz.tag_at, w]
  have ne : ∀ {a : Addr} {w : Tg}, F.t a = some w → w ≠ .fld n bxS → w ≠ .lok n bxS → a ≠ q := fun {a w} e z1 z2 y => by
    subst y
    rw [hq] at e; cases e
    rcases ht with w | w
    · exact z1 w
    · exact z2 w
  have only : ∀ a w, (w = Tg.fld n bxS ∨ w = .lok n bxS) → (F.tag q u).t a = some w → a = q ∧ w = u := fun a w hw e => by
    by_cases y : a = q
    · subst y; rw [Fz.tag_at] at e; exact ⟨rfl, (Option.some.inj e).symm⟩
    · rw [Fz.tag_ne y] at e; exact absurd (hx w hw a e) y
  have fi : FEi F (F.tag q u) := ⟨.refl _, fun a m e => by
      rw [Fz.tag_ne fun z => by subst z; exact s.bi a a _ bt (by rcases ht with w | w <;> rw [hq, w] at e <;> cases e)]
      exact e, fun a m e => by
      by_cases y : a = q
      · subst y
        have : m = n := by
          rcases e with e | e <;> rw [hq] at e <;> cases e
          · rcases ht with w | w <;> cases w; rfl
          · rcases ht with w | w <;> cases w; rfl
        subst this
        exact bt'
      · exact e.same (Fz.tag_ne y)⟩
  refine ⟨fi, s.updB (fun a => s.bi q a n bt) (by
    have := s.ix q t hq
    rcases ht with w | w <;> subst w <;> exact this) fi (fun a w z1 z2 => ?_) (fun a w e z1 z2 o h => h) (fun a w e hw => ?_) (fun a b w hw e e' => by rw [(only a w hw e).1, (only b w hw e').1]) (fun a w e z1 z2 => ⟨(s.sep a w e).1, h00 a (ne e z1 z2) (by rw [e]; exact fun z => by cases z)⟩)⟩
  · by_cases y : a = q
    · subst y
      rw [Fz.tag_at, hq]
      constructor
      · intro e; cases e
        rcases hu with w | w
        · exact absurd w z1
        · exact absurd w z2
      · intro e; cases e
        rcases ht with w | w
        · exact absurd w z1
        · exact absurd w z2
    · rw [Fz.tag_ne y]
  · obtain ⟨y, w'⟩ := only a w hw e
    subst y; subst w'
    obtain ⟨c1, c2, _⟩ := s.sep a t hq
    exact ⟨c1, c2, h0, fo.1, fo.2⟩
theorem LkOk.box {n : Nat} {c : C} {q : Addr} (j : J K B H0 F0 F H σ r) (bt : Bt F q n) (hq : fldAt r.st n bxS = some (.ow c)) :
    ∃ o FL, H q = some o ∧ Od K F H q c ∧ FEi F FL ∧ LkOk K (.fl n bxS) B H0 F0 F H σ r B (upd H0 q o) FL := by
  have nolok : ∀ a, F.t a ≠ some (.lok n bxS) := fun a z => by
    obtain ⟨c', w⟩ := j.so.tl a n bxS z
    rw [hq] at w; cases w
  have tq : F.t q = some (.fld n bxS) := bt.elim id fun h => absurd h (nolok q)
  have od := j.so.od q n bxS c tq hq
  obtain ⟨o, ho⟩ : ∃ o, H q = some o := by
    cases w : H q with
    | none => exact absurd w od.ne
    | some o => exact ⟨o, rfl⟩
  obtain ⟨fq, _, h0⟩ := j.so.sep q _ tq
  have h0 : H0 q = none := h0.elim id fun ⟨_, _, z⟩ => by cases z
  have hx : ∀ t', (t' = Tg.fld n bxS ∨ t' = .lok n bxS) → ∀ a, F.t a = some t' → a = q := fun t' ht a e => by
    rcases ht with z | z
    · subst z; exact j.so.inj _ _ _ e tq
    · subst z; exact absurd e (nolok a)
  have hl : lock (.fl n bxS) r = r.putF n bxS (.lk c) := by show (match fldAt r.st n bxS with | some (.ow c) => r.putF n bxS (.lk c) | _ => r) = _; rw [hq]
  have back : ∀ a, upd H0 q o a = none → H0 a = none ∧ a ≠ q := fun a w => by
    have z : a ≠ q := fun z => by subst z; rw [upd_same] at w; cases w
    rw [upd_ne z] at w
    exact ⟨w, z⟩
  have fi : FEi F (F.tag q (.lok n bxS)) := ⟨.refl _, fun a m e => by
    rw [Fz.tag_ne fun z => by subst z; rw [tq] at e; cases e]; exact e, fun a m e => by
      by_cases y : a = q
      · subst y
        have : m = n := by rcases e with e | e <;> rw [tq] at e <;> cases e; rfl
        subst this
        exact .inr Fz.tag_at
      · exact e.same (Fz.tag_ne y)⟩
  obtain ⟨_, so⟩ := j.so.retagB (H0' := upd H0 q o) (u := .lok n bxS) (d := .lk c) (d' := .lk c) tq (.inl rfl) (.inr rfl) ⟨(fun z => by cases z), fun _ => ⟨c, rfl, (od.up fi fun _ w => w).r⟩⟩ hx (.inr ⟨n, bxS, rfl⟩) (fun a z _ w => by rw [upd_ne z]; exact w)
  refine ⟨o, F.tag q (.lok n bxS), ho, od, fi, ?_, fun F2 H2 σ2 r2 e k j2 => ?_⟩
  · rw [hl]
    refine ⟨j.eb.side (j.eb.back h0), fun a u w => ?_, j.ef, j.fh, fun a u w => ?_, so, j.len, fun k s w => ?_, j.dj⟩
    · by_cases z : a = q
      · subst z; rw [upd_same] at w; rw [ho]; exact w
      · rw [upd_ne z] at w; exact j.e0 a u w
    · rcases j.nw a u w with z | z | z
      · exact .inl z
      · exact .inr (.inl (by rw [upd_ne fun y => by subst y; have w : F.f a = some u := w; rw [fq] at w; cases w]; exact z))
      · exact .inr (.inr z)
    · have b := j.sl k s w
      cases s with
      | no => trivial
      | sh d => obtain ⟨v, a, b⟩ := b; exact ⟨v, a, Vp.up fi _ _ b⟩
      | bo c1 => obtain ⟨v, a, b⟩ := b; exact ⟨v, a, b.up fi (.refl _)⟩
      | lk c1 => obtain ⟨v, a, b⟩ := b; exact ⟨v, a, b.up fi (.refl _)⟩
      | ow c1 =>
        obtain ⟨p', a, b1, b2, b3, b4⟩ := b
        have z : p' ≠ q := fun z => by subst z; rw [tq] at b3; cases b3
        exact ⟨p', a, by rw [upd_ne z]; exact b1, b2, by rw [Fz.tag_ne z]; exact b3, b4.up fi fun _ w => w⟩
  · rw [hl] at k
    have t2 : F2.t q = some (.lok n bxS) := (e.l q n bxS).mp Fz.tag_at
    obtain ⟨c2, a8⟩ := j2.so.tl q n bxS t2
    have b4 := j2.so.odr q n bxS c2 t2 a8
    have hu : unlock (.fl n bxS) r2 = r2.putF n bxS (.ow c2) := by show (match fldAt r2.st n bxS with | some (.lk c) => r2.putF n bxS (.ow c) | _ => r2) = _; rw [a8]
    have nofld : ∀ a, F2.t a ≠ some (.fld n bxS) := fun a z => by
      obtain ⟨c', w⟩ := j2.so.tf a n bxS z
      rw [a8] at w; cases w
    have hx2 : ∀ t', (t' = Tg.fld n bxS ∨ t' = .lok n bxS) → ∀ a, F2.t a = some t' → a = q := fun t' ht a e => by
      rcases ht with z | z
      · subst z; exact absurd e (nofld a)
      · subst z; exact j2.so.inj _ _ _ e t2
    have nfz : ∀ o' u, H2 q ≠ some (.frz o' u) := fun o' u w => by
      have := j2.e0 q o upd_same
      rw [w] at this; cases this
      exact od.nfz ho
    have fi2 : FEi F2 (F2.tag q (.fld n bxS)) := ⟨.refl _, fun a m ei => by
      rw [Fz.tag_ne fun z => by rw [z, t2] at ei; cases ei]; exact ei, fun a m ei => by
        by_cases y : a = q
        · have : m = n := by rw [y] at ei; rcases ei with ei | ei <;> rw [t2] at ei <;> cases ei; rfl
          rw [y, this]
          exact .inl Fz.tag_at
        · exact ei.same (Fz.tag_ne y)⟩
    obtain ⟨_, so2⟩ := j2.so.retagB (H0' := H0) (u := .fld n bxS) (d := .ow c2) (d' := .ow c2) t2 (.inr rfl) (.inl rfl) ⟨fun _ => ⟨c2, rfl, (b4.od nfz).up fi2 fun _ w => w⟩, (fun z => by cases z)⟩ hx2 (.inl h0) (fun a z _ w => (back a w).1)
    refine ⟨F2.tag q (.fld n bxS), ⟨⟨e.f, fun a m w => fi2.i _ _ (e.i _ _ (fi.i _ _ w)), fun a m w => fi2.b _ _ (e.b _ _ (fi.b _ _ w))⟩, fun a m g => ?_⟩, fi2, rfl, ?_, ?_, fun a w => ⟨(back a w).1, fun z => by rw [Fz.tag_ne (back a w).2]; exact z⟩, fun _ _ _ h _ => .inl (by rw [hu] at h; exact h)⟩
    · by_cases z : a = q
      · subst z
        rw [Fz.tag_at, tq]
      · rw [Fz.tag_ne z]
        have := e.l a m g
        rw [Fz.tag_ne z] at this
        exact this
    · rw [hu]
      exact fun m s l w => k m s l w
    · rw [hu]
      refine ⟨j.eb, (Ex.new h0).trans j2.e0, j2.ef, j2.fh, fun a u w => (j2.nw a u w).imp id fun z => z.imp (fun z => (back a z).1) id, so2, j2.len, fun m s w => ?_, j2.dj⟩
      have b := j2.sl m s w
      cases s with
      | no => trivial
      | sh d => obtain ⟨v, a, b⟩ := b; exact ⟨v, a, Vp.up fi2 _ _ b⟩
      | bo c1 => obtain ⟨v, a, b⟩ := b; exact ⟨v, a, b.up fi2 (.refl _)⟩
      | lk c1 => obtain ⟨v, a, b⟩ := b; exact ⟨v, a, b.up fi2 (.refl _)⟩
      | ow c1 =>
        obtain ⟨p', a, b1, b2, b3, b4⟩ := b
        have z : p' ≠ q := (back _ b1).2
        exact ⟨p', a, (back _ b1).1, b2, by rw [Fz.tag_ne z]; exact b3, b4.up fi2 fun _ w => w⟩
theorem LkOk.field {n : Nat} {f : Str} {c : C} {C dx : Addr} {es : List (Str × V)} (j : J K B H0 F0 F H σ r) (t : F.t p = some (.ins n)) (hp : H p = some (.ins C dx es)) (l : es.lookup f = some v) (hq : fldAt r.st n f = some (.ow c)) :
    ∃ q o FL, v = .ref q ∧ H q = some o ∧ Od K F H q c ∧ FEi F FL ∧ LkOk K (.fl n f) B H0 F0 F H σ r B (upd H0 q o) FL := by
  obtain ⟨q, rfl, tq, od⟩ := j.so.field t hp l hq
  obtain ⟨o, ho⟩ : ∃ o, H q = some o := by
    cases w : H q with
    | none => exact absurd w od.ne
    | some o => exact ⟨o, rfl⟩
  obtain ⟨fq, _, h0⟩ := j.so.sep q _ tq
  have h0 : H0 q = none := h0.elim id fun ⟨_, _, z⟩ => by cases z
  have nolok : ∀ a, F.t a ≠ some (.lok n f) := fun a z => by
    obtain ⟨c', w⟩ := j.so.tl a n f z
    rw [hq] at w; cases w
  have hx : ∀ t', (t' = Tg.fld n f ∨ t' = .lok n f) → ∀ a, F.t a = some t' → a = q := fun t' ht a e => by
    rcases ht with z | z
    · subst z; exact j.so.inj _ _ _ e tq
    · subst z; exact absurd e (nolok a)
  have nb : f ≠ bxS := fun z => by subst z; exact j.so.bi q p n (.inl tq) t
  have fi : FEi F (F.tag q (.lok n f)) := ⟨.refl _, fun a m e => by
    rw [Fz.tag_ne fun z => by subst z; rw [tq] at e; cases e]; exact e, fun a m e => by
      refine e.same (Fz.tag_ne fun z => ?_)
      subst z
      rcases e with e | e <;> rw [tq] at e <;> cases e
      exact nb rfl⟩
  have hl : lock (.fl n f) r = r.putF n f (.lk c) := by show (match fldAt r.st n f with | some (.ow c) => r.putF n f (.lk c) | _ => r) = _; rw [hq]
  have back : ∀ a, upd H0 q o a = none → H0 a = none ∧ a ≠ q := fun a w => by
    have z : a ≠ q := fun z => by subst z; rw [upd_same] at w; cases w
    rw [upd_ne z] at w
    exact ⟨w, z⟩
  refine ⟨q, o, F.tag q (.lok n f), rfl, ho, od, fi, ?_, fun F2 H2 σ2 r2 e k j2 => ?_⟩
  · rw [hl]
    have so := j.so.retag (H0' := upd H0 q o) (u := .lok n f) (d' := .lk c) t hp l tq (.inl rfl) (.inr rfl) hq ⟨q, rfl, Fz.tag_at, (od.up fi fun _ w => w).r⟩ ⟨(fun z => by cases z), fun _ => ⟨c, rfl⟩⟩ hx (.inr ⟨n, f, rfl⟩) (fun a z _ w => by rw [upd_ne z]; exact w)
    refine ⟨j.eb.side (j.eb.back h0), fun a u w => ?_, j.ef, j.fh, fun a u w => ?_, so, j.len, fun k s w => ?_, j.dj⟩
    · by_cases z : a = q
      · subst z; rw [upd_same] at w; rw [ho]; exact w
      · rw [upd_ne z] at w; exact j.e0 a u w
    · rcases j.nw a u w with z | z | z
      · exact .inl z
      · exact .inr (.inl (by rw [upd_ne fun y => by subst y; have w : F.f a = some u := w; rw [fq] at w; cases w]; exact z))
      · exact .inr (.inr z)
    · have b := j.sl k s w
      cases s with
      | no => trivial
      | sh d => obtain ⟨v, a, b⟩ := b; exact ⟨v, a, Vp.up fi _ _ b⟩
      | bo c1 => obtain ⟨v, a, b⟩ := b; exact ⟨v, a, b.up fi (.refl _)⟩
      | lk c1 => obtain ⟨v, a, b⟩ := b; exact ⟨v, a, b.up fi (.refl _)⟩
      | ow c1 =>
        obtain ⟨p', a, b1, b2, b3, b4⟩ := b
        have z : p' ≠ q := fun z => by subst z; rw [tq] at b3; cases b3
        exact ⟨p', a, by rw [upd_ne z]; exact b1, b2, by rw [Fz.tag_ne z]; exact b3, b4.up fi fun _ w => w⟩
  · rw [hl] at k
    have t2 : F2.t q = some (.lok n f) := (e.l q n f).mp Fz.tag_at
    have tp : F2.t p = some (.ins n) := e.i _ _ (fi.i _ _ t)
    obtain ⟨ob, a1, C', dx', es', a2, a3, a4, a5, a6, a7⟩ := j2.so.ob p n tp
    obtain ⟨c2, a8⟩ := j2.so.tl q n f t2
    have a9 : ob.fs.lookup f = some (.lk c2) := by
      unfold fldAt at a8
      rw [a1] at a8
      exact a8
    obtain ⟨v2, b1, q2, b2, b3, b4⟩ := a5.lookup a9
    have eq : q2 = q := j2.so.inj _ _ _ b3 t2
    subst eq
    subst b2
    have hu : unlock (.fl n f) r2 = r2.putF n f (.ow c2) := by show (match fldAt r2.st n f with | some (.lk c) => r2.putF n f (.ow c) | _ => r2) = _; rw [a8]
    have nofld : ∀ a, F2.t a ≠ some (.fld n f) := fun a z => by
      obtain ⟨c', w⟩ := j2.so.tf a n f z
      rw [a8] at w; cases w
    have hx2 : ∀ t', (t' = Tg.fld n f ∨ t' = .lok n f) → ∀ a, F2.t a = some t' → a = q2 := fun t' ht a e => by
      rcases ht with z | z
      · subst z; exact absurd e (nofld a)
      · subst z; exact j2.so.inj _ _ _ e t2
    have fi2 : FEi F2 (F2.tag q2 (.fld n f)) := ⟨.refl _, fun a m ei => by
      have z : a ≠ q2 := fun z => by rw [z, t2] at ei; cases ei
      rw [Fz.tag_ne z]; exact ei, fun a m ei => by
      refine ei.same (Fz.tag_ne fun z => ?_)
      rw [z] at ei
      rcases ei with ei | ei <;> rw [t2] at ei <;> cases ei
      exact nb rfl⟩
    refine ⟨F2.tag q2 (.fld n f), ⟨⟨e.f, fun a m w => fi2.i _ _ (e.i _ _ (fi.i _ _ w)), fun a m w => fi2.b _ _ (e.b _ _ (fi.b _ _ w))⟩, fun a m g => ?_⟩, fi2, rfl, ?_, ?_, fun a w => ⟨(back a w).1, fun z => by rw [Fz.tag_ne (back a w).2]; exact z⟩, fun _ _ _ h _ => .inl (by rw [hu] at h; exact h)⟩
    · by_cases z : a = q2
      · subst z
        rw [Fz.tag_at, tq]
      · rw [Fz.tag_ne z]
        have := e.l a m g
        rw [Fz.tag_ne z] at this
        exact this
    · rw [hu]
      exact fun m s l w => k m s l w
    · rw [hu]
      have nfz : ∀ o' u, H2 q2 ≠ some (.frz o' u) := fun o' u w => by
        have := j2.e0 q2 o upd_same
        rw [w] at this; cases this
        exact od.nfz ho
      have so := j2.so.retag (H0' := H0) (u := .fld n f) (d' := .ow c2) tp a3 b1 t2 (.inr rfl) (.inl rfl) a8 ⟨q2, rfl, Fz.tag_at, (b4.od nfz).up fi2 fun _ w => w⟩ ⟨fun _ => ⟨c2, rfl⟩, (fun z => by cases z)⟩ hx2 (.inl h0) (fun a z _ w => (back a w).1)
      refine ⟨j.eb, (Ex.new h0).trans j2.e0, j2.ef, j2.fh, fun a u w => (j2.nw a u w).imp id fun z => z.imp (fun z => (back a z).1) id, so, j2.len, fun m s w => ?_, j2.dj⟩
      have b := j2.sl m s w
      cases s with
      | no => trivial
      | sh d => obtain ⟨v, a, b⟩ := b; exact ⟨v, a, Vp.up fi2 _ _ b⟩
      | bo c1 => obtain ⟨v, a, b⟩ := b; exact ⟨v, a, b.up fi2 (.refl _)⟩
      | lk c1 => obtain ⟨v, a, b⟩ := b; exact ⟨v, a, b.up fi2 (.refl _)⟩
      | ow c1 =>
        obtain ⟨p', a, b1, b2, b3, b4⟩ := b
        have z : p' ≠ q2 := (back _ b1).2
        exact ⟨p', a, (back _ b1).1, b2, by rw [Fz.tag_ne z]; exact b3, b4.up fi2 fun _ w => w⟩

theorem LkOk.fieldV {n : Nat} {f : Str} {c : C} (j : J K B H0 F0 F H σ r) (h : FldV F H n f v) (hq : fldAt r.st n f = some (.ow c)) :
    ∃ q o FL, v = .ref q ∧ H q = some o ∧ Od K F H q c ∧ FEi F FL ∧ LkOk K (.fl n f) B H0 F0 F H σ r B (upd H0 q o) FL := by
  rcases h with ⟨p, C, dx, es, t, hp, l⟩ | ⟨a, rfl, rfl, b⟩
  · exact LkOk.field j t hp l hq
  · obtain ⟨o, FL, k⟩ := LkOk.box j b hq
    exact ⟨a, o, FL, rfl, k⟩
def RI (K : KC) (w : TI) (f : IF) : Prop := ∀ (B H0 F0 : Hp) (F : Fz) (H : Hp) (σ : L2.St) (r : Env) (ds : List D) (l : Lk) (r' : Env), f r = some (ds, l, r') → J K B H0 F0 F H σ r →
  ∀ R : It → Hp → Prop, (∀ F1 H1 B' H0' FL T, Ge false F H r F1 H1 r' → LkOk K l B H0 F0 F1 H1 σ r' B' H0' FL → ItOk K T H0' FL ds → R T H1) → w σ H R
structure DI (X : Cx) (tg it : Expr) (f : IF) : Prop where
  ex : ∃ w, PI X tg it w ∧ RI X.kc w f
theorem itOk_l {G : Hp} {a : Addr} {xs : List V} {ds : List D} (h : ∀ F1 H1, FEx F F1 → Ex F1.f H1 → Ex G H1 → SqL K.K H1 a xs) (d : VpAll K F xs ds) : ItOk K (Itl K.K a) G F ds := fun i F1 H1 e1 e2 e3 => by
  have h1 := h F1 H1 e1 e2 e3
  refine ⟨fun hi => ?_, fun hi => ⟨xs, h1, by rw [VpAll.length d]; exact hi⟩⟩
  obtain ⟨v, q1, q2⟩ := VpAll.get d (List.getElem?_eq_getElem hi)
  refine ⟨⟨xs, v, h1, q1⟩, fun x H2 ⟨q3, q4⟩ => ?_⟩
  subst q3
  have q5 := q4 xs h1
  rw [q1] at q5; cases q5
  exact ⟨F1, .refl e2, _, List.getElem?_eq_getElem hi, Vp.up e1 _ _ q2⟩
theorem itOk_t {G : Hp} {a : Addr} {xs : List V} {ds : List D} (h : SqT K.K F.f a xs) (d : VpAll K F xs ds) : ItOk K (Itt K.K a) G F ds := fun i F1 H1 e1 e2 e3 => by
  have h1 : SqT K.K H1 a xs := (e1.f.trans e2).t h
  refine ⟨fun hi => ?_, fun hi => ⟨xs, h1, by rw [VpAll.length d]; exact hi⟩⟩
  obtain ⟨v, q1, q2⟩ := VpAll.get d (List.getElem?_eq_getElem hi)
  refine ⟨⟨xs, v, h1, q1⟩, fun x H2 ⟨q3, q4⟩ => ?_⟩
  subst q3
  have q5 := q4 xs h1
  rw [q1] at q5; cases q5
  exact ⟨F1, .refl e2, _, List.getElem?_eq_getElem hi, Vp.up e1 _ _ q2⟩
def SeqIs (K : KC) (H : Hp) (G : Hp) (F : Fz) (v : V) (c : C) (ds : List D) : Prop :=
  ((∃ xs, c = .d (.list xs)) ∧ ∃ p xs, v = .ref p ∧ SqL K.K H p xs ∧ ItOk K (Itl K.K p) G F ds) ∨ ((∃ xs, c = .d (.tuple xs)) ∧ ∃ p xs, v = .ref p ∧ SqT K.K H p xs ∧ ItOk K (Itt K.K p) G F ds)
theorem SeqIs.sh {G : Hp} (h : Vp K F v x) (e : Ex F.f H) (q : asSeq x = some ds) : SeqIs K H G F v (.d x) ds := by
  cases x with
  | list xs =>
    cases q
    cases h with
    | lst hs ha => exact .inl ⟨⟨_, rfl⟩, _, _, rfl, e.l hs, itOk_l (fun F1 H1 e1 e2 _ => (e1.f.trans e2).l hs) ha⟩
  | tuple xs =>
    cases q
    cases h with
    | tup hs ha => exact .inr ⟨⟨_, rfl⟩, _, _, rfl, e.t hs.sq, itOk_t hs.sq ha⟩
  | _ => cases q
theorem SeqIs.lent {G : Hp} (h : Bd K F B v c) (eb : Ex B G) (e : Ex G H) (ef : Ex F.f H) (q : asSeqC c = some ds) : SeqIs K H G F v c ds := by
  cases c with
  | d x =>
    cases x with
    | list xs =>
      cases q
      obtain ⟨p, vs, rfl, a, b⟩ := h
      exact .inl ⟨⟨_, rfl⟩, p, vs, rfl, (eb.trans e).l a, itOk_l (fun F1 H1 _ _ e3 => (eb.trans e3).l a) b⟩
    | tuple xs =>
      have h : Vp K F v (.tuple xs) := h
      exact .sh h ef q
    | _ => cases q
  | dk _ => cases q
  | dt _ => cases q
  | dn _ => cases q
theorem lend_ok {z : Res} {l : Lk} (q : lendOf r z = some (c, l)) (hc : asSeqC c = some ds) (j : J K B H0 F0 F H σ r) (h : ResOk K H0 F H σ r v z) : ∃ F1 B' H0' FL, Ge true F H r F1 H r ∧ LkOk K l B H0 F0 F1 H σ r B' H0' FL ∧ SeqIs K H H0' FL v c ds := by
  cases z with
  | sh x =>
    cases q
    have h : Vp K F v x := h
    exact ⟨F, B, H0, F, .refl, .no j, .sh h j.fh hc⟩
  | fr c1 =>
    cases c1 with
    | d x =>
      cases q
      obtain ⟨F1, g, j1, d1⟩ := toSh_ok (z := .fr (.d x)) (r' := r) (x := x) rfl j h
      exact ⟨F1, B, H0, F1, g, .no j1, .sh d1 j1.fh hc⟩
    | dk _ => cases q
    | dt _ => cases q
    | dn _ => cases q
  | fl n f =>
    have h : FldV F H n f v := h
    unfold lendOf at q
    dsimp only at q
    split at q
    · rename_i y e
      cases q
      have k : Vp K F v y := j.so.fieldV h e
      exact ⟨F, B, H0, F, .refl, .no j, .sh k j.fh hc⟩
    · rename_i y e
      cases q
      obtain ⟨q, o, FL, rfl, ho, od, fi, lk⟩ := LkOk.fieldV j h e
      refine ⟨F, B, upd H0 q o, FL, .refl, lk, ?_⟩
      have b := od.bd.priv (G := upd H0 q o) fun p' o' e' w => by
        cases e'
        rw [ho] at w; cases w
        exact upd_same
      exact .lent (b.up fi (.refl _)) (.refl _) lk.j.e0 lk.j.fh hc
    · cases q
  | sl i =>
    have h : σ[i]? = some (some v) := h
    unfold lendOf at q
    dsimp only at q
    split at q
    · rename_i y e
      cases q
      obtain ⟨v', a, b⟩ := j.sl i _ e
      rw [h] at a; cases a
      exact ⟨F, B, H0, F, .refl, .no j, .sh b j.fh hc⟩
    · rename_i y e
      cases q
      obtain ⟨v', a, b⟩ := j.sl i _ e
      rw [h] at a; cases a
      exact ⟨F, B, H0, F, .refl, .no j, .lent b j.eb j.e0 j.fh hc⟩
    · rename_i y e
      cases q
      obtain ⟨v', a, b⟩ := j.sl i _ e
      rw [h] at a; cases a
      exact ⟨F, B, H0, F, .refl, .no j, .lent b j.eb j.e0 j.fh hc⟩
    · rename_i y e
      cases q
      obtain ⟨p, o, hp, ho, od, lk⟩ := LkOk.slot j e
      rw [h] at hp; cases hp
      refine ⟨F, _, upd H0 p o, F, .refl, lk, ?_⟩
      have b := od.bd.priv (G := upd H0 p o) fun p' o' e' w => by
        cases e'
        rw [ho] at w; cases w
        exact upd_same
      exact .lent b (.refl _) lk.j.e0 lk.j.fh hc
    · cases q
end
section
variable {X : Cx} {e : Expr} {fa : EF} {pos : Pos} {q1 : Bool}
theorem pi_or {tg it : Expr} {w1 w2 : TI} (h1 : PI X tg it w1) (h2 : PI X tg it w2) : PI X tg it (fun σ H R => w1 σ H R ∨ w2 σ H R) := ⟨fun pins s σ H R I h => by
  rcases h with h | h
  · exact h1.run pins s σ H R I h
  · exact h2.run pins s σ H R I h⟩
theorem di_seq {tg : Expr} (he : DE X q1 e fa) : DI X tg e (iSeq fa) := by
  obtain ⟨t, a1, a2⟩ := he.ex
  refine ⟨_, pi_or (pi_list a1) (pi_tup a1), fun B H0 F0 F H σ r ds l r' q j R k => ?_⟩
  simp only [iSeq, Option.bind_eq_some_iff] at q
  obtain ⟨⟨z, r1⟩, q1, ⟨c, l1⟩, q2, ds1, q3, q4⟩ := q
  cases q4
  have hc : (∃ xs, c = .d (.list xs)) ∨ (∃ xs, c = .d (.tuple xs)) := by
    cases c with
    | d x =>
      cases x with
      | list xs => exact .inl ⟨xs, rfl⟩
      | tuple xs => exact .inr ⟨xs, rfl⟩
      | _ => cases q3
    | dk _ => cases q3
    | dt _ => cases q3
    | dn _ => cases q3
  rcases hc with ⟨xs, rfl⟩ | ⟨xs, rfl⟩
  · refine .inl (a2 _ _ _ _ _ _ _ _ _ q1 j _ fun F1 H1 v e1 j1 k1 => ?_)
    obtain ⟨F2, B', H0', FL, g, lk, s⟩ := lend_ok q2 q3 j1 k1
    rcases s with ⟨_, p, ys, rfl, s1, s2⟩ | ⟨⟨ys, z⟩, _⟩
    · exact ⟨p, rfl, ⟨ys, s1⟩, k F2 H1 B' H0' FL _ (e1.qt g).weak lk s2⟩
    · cases z
  · refine .inr (a2 _ _ _ _ _ _ _ _ _ q1 j _ fun F1 H1 v e1 j1 k1 => ?_)
    obtain ⟨F2, B', H0', FL, g, lk, s⟩ := lend_ok q2 q3 j1 k1
    rcases s with ⟨⟨ys, z⟩, _⟩ | ⟨_, p, ys, rfl, s1, s2⟩
    · cases z
    · exact ⟨p, rfl, ⟨ys, s1⟩, k F2 H1 B' H0' FL _ (e1.qt g).weak lk s2⟩
theorem RetOk.unlock {K : KC} {H0 H0' : Hp} {F2 F3 : Fz} {H : Hp} {v : V} {z : Res} (h : RetOk K H0' F2 H v z) (fi : FEi F2 F3) (ff : F3.f = F2.f) (w : ∀ p, H0' p = none → H0 p = none ∧ (F2.t p = none → F3.t p = none)) : RetOk K H0 F3 H v z := by
  cases z with
  | sh x => exact Vp.up fi _ _ h
  | fr c =>
    obtain ⟨p, a, b, d, t, e⟩ := h
    exact ⟨p, a, (w p b).1, by rw [ff]; exact d, (w p b).2 t, e.up fi fun _ q => q⟩
  | sl i => exact h.elim
  | fl n f => exact h.elim
theorem ds_for {tg it : Expr} {body : List Stmt} {p : Pat} {f : IF} {g : SF} (hp : PassesOwn (model X.prog X.w) X.A X.env X.xe) (hc : X.calm = true) (hi : DI X tg it f) (hg : DG X tg p) (hb : DSs X body g)
    (hs : ∀ x, foldedSetIterable it X.env x = pure x := by intro _; rfl) : DS X (.For tg it body [] pos) (sFor p f g) := by
  obtain ⟨w, a1, a2⟩ := hi.ex
  obtain ⟨tg', b1, b2⟩ := hg.ex
  obtain ⟨tb, c1, c2⟩ := hb.ex
  refine ⟨_, ps_for hp hc a1 b1 c1 hs, fun B H0 F0 F H σ r fl r' q j D a => ?_⟩
  simp only [sFor, Option.bind_eq_some_iff] at q
  obtain ⟨⟨ds, l, r1⟩, q1, ⟨fl1, r2⟩, q2, q3⟩ := q
  cases q3
  dsimp only at a q2
  refine a2 _ _ _ _ _ _ _ _ _ _ q1 j _ fun F1 H1 B' H0' FL T e1 lk ok => ?_
  have j1 := lk.j
  -- all ways out of the loop
  have out : After X.kc B' H0' F0 FL D (lock l r1) σ r2 fl1 := by
    have a := a.later e1.f e1.kp
    cases fl1 with
    | nx =>
      exact fun F' H' σ' e' k' j' => by
        obtain ⟨F3, u1, u2, u3, u4, u5, u6, _⟩ := lk.un F' H' σ' r2 e' k' j'
        exact a F3 H' σ' u1 u4 u5
    | bk =>
      exact fun F' H' σ' e' k' j' => by
        obtain ⟨F3, u1, u2, u3, u4, u5, u6, _⟩ := lk.un F' H' σ' r2 e' k' j'
        exact a F3 H' σ' u1 u4 u5
    | ct =>
      exact fun F' H' σ' e' k' j' => by
        obtain ⟨F3, u1, u2, u3, u4, u5, u6, _⟩ := lk.un F' H' σ' r2 e' k' j'
        exact a F3 H' σ' u1 u4 u5
    | rt z =>
      exact fun F' H' σ' v e' k' j' o => by
        obtain ⟨F3, u1, u2, u3, u4, u5, u6, _⟩ := lk.un F' H' σ' r2 e' k' j'
        exact a F3 H' σ' v u1 u4 u5 (o.unlock u2 u3 u6)
  refine ⟨fun i m σ' H => m = ds.length - i ∧ i ≤ ds.length ∧ ∃ F r, FEx FL F ∧ Kp (lock l r1) σ r σ' ∧ J X.kc B' H0' F0 F H σ' r ∧ runFor p g (ds.drop i) r = some (fl1, r2), ⟨ds.length, by simp, Nat.zero_le _, FL, lock l r1, .refl _, .refl, j1, q2⟩, ?_⟩
  rintro i m σ2 H2 ⟨rfl, hi, F2, r3, e2, k2, j2, q3⟩
  have oki := ok i F2 H2 e2 j2.fh j2.e0
  by_cases hlt : i < ds.length
  · obtain ⟨go, yl⟩ := oki.1 hlt
    rw [List.drop_eq_getElem_cons hlt] at q3
    simp only [runFor, Option.bind_eq_some_iff] at q3
    obtain ⟨r4, q4, ⟨fl4, r5⟩, q5, q6⟩ := q3
    refine .inr ⟨go, fun σ' H' => ∃ F r, FEx FL F ∧ Kp (lock l r1) σ r σ' ∧ J X.kc B' H0' F0 F H' σ' r ∧ runFor p g (ds.drop (i + 1)) r = some (fl1, r2), fun σ' H' ⟨F', r', h1, h2, h3, h4⟩ => ⟨ds.length - (i + 1), by omega, rfl, by omega, F', r', h1, h2, h3, h4⟩, fun x H3 y => ?_⟩
    obtain ⟨F3, gr, d, hd, dp⟩ := yl x H3 y
    rw [List.getElem?_eq_getElem hlt] at hd; cases hd
    have j3 := j2.grow gr
    refine b2 _ _ _ _ _ _ _ _ _ _ q4 j3 dp _ fun σ4 j4 kp4 _ _ => ?_
    refine c2 _ _ _ _ _ _ _ _ _ q5 j4 _ ?_
    have ee : FEx FL F3 := e2.trans gr.fe
    have kk : Kp (lock l r1) σ r4 σ4 := k2.trans kp4
    cases fl4 with
    | nx => exact fun F5 H5 σ5 e5 k5 j5 => ⟨F5, r5, ee.trans e5, kk.trans k5, j5, q6⟩
    | ct => exact fun F5 H5 σ5 e5 k5 j5 => ⟨F5, r5, ee.trans e5, kk.trans k5, j5, q6⟩
    | bk =>
      cases q6
      exact fun F5 H5 σ5 e5 k5 j5 => out F5 H5 σ5 (ee.trans e5) (kk.trans k5) j5
    | rt z =>
      cases q6
      exact fun F5 H5 σ5 v e5 k5 j5 o => out F5 H5 σ5 v (ee.trans e5) (kk.trans k5) j5 o
  · have e : i = ds.length := by omega
    subst e
    rw [List.drop_length] at q3
    cases q3
    exact .inl ⟨oki.2 (Nat.le_refl _), out F2 H2 σ2 e2 k2 j2⟩
theorem ds_while {c : Expr} {body : List Stmt} {t : TF} {g : SF} (n : Nat) (hp : PassesOwn (model X.prog X.w) X.A X.env X.xe) (hc : DT X c t) (hb : DSs X body g) : DS X (.While c body [] pos) (runWhile t g n) := by
  obtain ⟨tc, a1, a2⟩ := hc.ex
  obtain ⟨tb, c1, c2⟩ := hb.ex
  refine ⟨_, ps_while hp a1 c1, fun B H0 F0 F H σ r fl r' q j D a => ?_⟩
  refine ⟨fun m σ' H => ∃ F1 r1, FEx F F1 ∧ Kp r σ r1 σ' ∧ J X.kc B H0 F0 F1 H σ' r1 ∧ runWhile t g m r1 = some (fl, r'), ⟨n, F, r, .refl _, .refl, j, q⟩, ?_⟩
  rintro m σ1 H1 ⟨F1, r1, e1, k1, j1, q1⟩
  cases m with
  | zero => cases q1
  | succ m =>
    simp only [runWhile, Option.bind_eq_some_iff] at q1
    obtain ⟨⟨b, r2⟩, q2, q3⟩ := q1
    refine a2 _ _ _ _ _ _ _ _ _ q2 j1 _ fun F2 H2 e2 j2 => ?_
    have ee : FEx F F2 := e1.trans e2.f
    have kk : Kp r σ r2 σ1 := k1.trans e2.kp
    cases b with
    | false =>
      rw [if_neg Bool.false_ne_true] at q3 ⊢
      cases q3
      exact a F2 H2 σ1 ee kk j2
    | true =>
      rw [if_pos rfl] at q3 ⊢
      simp only [Option.bind_eq_some_iff] at q3
      obtain ⟨⟨fl4, r4⟩, q5, q6⟩ := q3
      refine ⟨fun σ' H' => ∃ F1 r1, FEx F F1 ∧ Kp r σ r1 σ' ∧ J X.kc B H0 F0 F1 H' σ' r1 ∧ runWhile t g m r1 = some (fl, r'), fun σ' H' ⟨F', r', h1, h2, h3, h4⟩ => ⟨m, Nat.lt_succ_self _, F', r', h1, h2, h3, h4⟩, ?_⟩
      refine c2 _ _ _ _ _ _ _ _ _ q5 j2 _ ?_
      cases fl4 with
      | nx => exact fun F5 H5 σ5 e5 k5 j5 => ⟨F5, r4, ee.trans e5, kk.trans k5, j5, q6⟩
      | ct => exact fun F5 H5 σ5 e5 k5 j5 => ⟨F5, r4, ee.trans e5, kk.trans k5, j5, q6⟩
      | bk =>
        cases q6
        exact fun F5 H5 σ5 e5 k5 j5 => a F5 H5 σ5 (ee.trans e5) (kk.trans k5) j5
      | rt z =>
        cases q6
        exact fun F5 H5 σ5 v e5 k5 j5 o => a F5 H5 σ5 v (ee.trans e5) (kk.trans k5) j5 o
end
end CM
end
section
set_option Elab.async false
set_option linter.all false
set_option maxRecDepth 100000
set_option autoImplicit false
namespace CM
open PySem PySem.Spec PyProof.Rows L2

def tD (K : KC) (b : Bool) (f : EF) : TE := fun σ H Q => ∃ (B H0 F0 : Hp) (F : Fz) (r : Env) (z : Res) (r' : Env), f r = some (z, r') ∧ J K B H0 F0 F H σ r ∧ ∀ F' H' v, Ge b F H r F' H' r' → J K B H0 F0 F' H' σ r' → ResOk K H0 F' H' σ r' v z → Q v H'
def ttD (K : KC) (f : TF) : TT := fun σ H Q => ∃ (B H0 F0 : Hp) (F : Fz) (r : Env) (b : Bool) (r' : Env), f r = some (b, r') ∧ J K B H0 F0 F H σ r ∧ ∀ F' H', Ge false F H r F' H' r' → J K B H0 F0 F' H' σ r' → Q b H'
def gD (K : KC) (q : Pat) : TG := fun v σ H Q => ∃ (B H0 F0 : Hp) (F : Fz) (r r' : Env) (x : D), bindP q x r = some r' ∧ J K B H0 F0 F H σ r ∧ Vp K F v x ∧ ∀ σ', J K B H0 F0 F H σ' r' → Kp r σ r' σ' → r'.st = r.st → (∀ vs : List Nat, (∀ i ∈ ptSlots q, i ∈ vs) → wipe σ' vs = wipe σ vs) → Q σ' H
section
variable {X : Cx} {e : Expr}
theorem DE.can {f : EF} {b : Bool} (h : DE X b e f) : PE X e (tD X.kc b f) := by
  obtain ⟨t, a, b⟩ := h.ex
  exact ⟨fun pins s σ H Q I ⟨B, H0, F0, F, r, z, r', q, j, k⟩ => a.run pins s σ H Q I (b _ _ _ _ _ _ _ _ _ q j Q k)⟩
theorem DT.can {f : TF} (h : DT X e f) : PT X e (ttD X.kc f) := by
  obtain ⟨t, a, b⟩ := h.ex
  exact ⟨fun pins s σ H Q I ⟨B, H0, F0, F, r, z, r', q, j, k⟩ => a.run pins s σ H Q I (b _ _ _ _ _ _ _ _ _ q j Q k)⟩
theorem DG.can {q : Pat} (h : DG X e q) : PG X e (gD X.kc q) := by
  obtain ⟨t, a, b⟩ := h.ex
  exact ⟨fun pins s σ H v u Q I rv ⟨B, H0, F0, F, r, r', x, q, j, d, k⟩ => a.run pins s σ H v u Q I rv (b _ _ _ _ _ _ _ _ _ _ q j d Q k)⟩
end
structure DTs (X : Cx) (es : List Expr) (f : TF) : Prop where
  can : PTs X es (ttD X.kc f)
theorem dts_nil {X : Cx} : DTs X [] tYesD := ⟨⟨fun pins s σ H Q I ⟨B, H0, F0, F, r, z, r', q, j, k⟩ => pts_nil.run pins s σ H Q I (by
  cases q
  exact k F H .refl j)⟩⟩
theorem dts_one {X : Cx} {e : Expr} {f : TF} (h : DT X e f) : DTs X [e] f := ⟨pts_one h.can⟩

section
variable {K : KC} {F F' F1 : Fz} {H H' H1 B H0 F0 : Hp} {σ : L2.St} {r r' : Env} {v : V} {c : C} {x : D} {p : Addr} {s : Slot} {o : HO}
theorem J.wipe (j : J K B H0 F0 F H σ r) : ∀ vs : List Nat, J K B H0 F0 F H (wipe σ vs) (wipeE r vs)
  | [] => j
  | i :: vs => by
    have j1 := J.wipe j vs
    unfold L2.wipe wipeE
    refine ⟨j1.eb, j1.e0, j1.ef, j1.fh, j1.nw, j1.so, by rw [List.length_set, put_len]; exact j1.len, fun k t q => ?_, fun k l c e p h1 h2 h3 h4 => ?_⟩
    · rcases put_at q with ⟨_, z, _⟩ | ⟨z, q⟩
      · subst z; trivial
      · rw [List.getElem?_set_ne z]; exact j1.sl k t q
    · have g : ∀ {k : Nat} {c : C}, ((wipeE r vs).put i .no).sl[k]? = some (.ow c) → i ≠ k ∧ (wipeE r vs).sl[k]? = some (.ow c) := fun {k c} q => by
        rcases put_at q with ⟨_, z, _⟩ | ⟨z, q⟩
        · cases z
        · exact ⟨z, q⟩
      obtain ⟨z1, g1⟩ := g h1
      obtain ⟨z2, g2⟩ := g h2
      rw [List.getElem?_set_ne z1] at h3
      rw [List.getElem?_set_ne z2] at h4
      exact j1.dj k l c e p g1 g2 h3 h4
theorem wipe_own {r : Env} {i : Nat} {s : Slot} (hs : s ≠ .no) : ∀ {vs : List Nat}, (wipeE r vs).sl[i]? = some s → r.sl[i]? = some s ∧ i ∉ vs
  | [], q => ⟨q, by simp⟩
  | v :: vs, q => by
    unfold wipeE at q
    rcases put_at q with ⟨_, z, _⟩ | ⟨z, q⟩
    · exact absurd z hs
    · obtain ⟨a, b⟩ := wipe_own hs q
      exact ⟨a, fun h => (List.mem_cons.mp h).elim (fun y => z y.symm) b⟩
theorem Lent.ne {s : Slot} (h : Lent s) : s ≠ .no := fun z => by subst z; exact h
theorem J.side (j : J K B H0 F0 F H σ r) {o : HO} (hf : F.f p = none) (ht : F.t p = none) (hn : ∀ (i : Nat) (e : C), r.sl[i]? = some (.ow e) → σ[i]? ≠ some (some (.ref p))) (h0 : H0 p = none := by assumption) : J K B H0 F0 F (upd H p o) σ r := by
  refine ⟨j.eb, j.e0.side h0, j.ef, j.fh.side hf, j.nw, j.so.same (.refl _) rfl (fun q w o e => by rw [upd_ne fun z => by subst z; exact w ht]; exact e) (fun q w => ?_), j.len, fun i s q => ?_, j.dj⟩
  · cases t : F.t q with
    | none => exact absurd t w
    | some u => exact (j.so.sep q u t).1
  · have b := j.sl i s q
    cases s with
    | no => trivial
    | sh d => exact b
    | bo c => exact b
    | lk c => exact b
    | ow c =>
      obtain ⟨p', a, b, d, t, e⟩ := b
      have z : p' ≠ p := fun z => hn i c q (by rw [← z]; exact a)
      exact ⟨p', a, b, d, t, e.up (FEi.refl _) fun o q => by rw [upd_ne z]; exact q⟩
theorem wipe_len (σ : L2.St) (vs : List Nat) : (L2.wipe σ vs).length = σ.length := L2.wipe_length σ vs
theorem wipe_at {σ : L2.St} {i : Nat} : ∀ {vs : List Nat}, i ∉ vs → (L2.wipe σ vs)[i]? = σ[i]?
  | [], _ => rfl
  | v :: vs, h => by
    unfold L2.wipe
    rw [List.getElem?_set_ne (fun z => h (by rw [z]; exact List.mem_cons_self))]
    exact wipe_at fun z => h (List.mem_cons_of_mem _ z)
theorem unwipe_len (old r : Env) : ∀ vs : List Nat, (unwipe old r vs).sl.length = r.sl.length
  | [] => rfl
  | i :: vs => by unfold unwipe; rw [put_len]; exact unwipe_len old r vs
theorem unwipe_st (old r : Env) : ∀ vs : List Nat, (unwipe old r vs).st = r.st
  | [] => rfl
  | i :: vs => unwipe_st old r vs
theorem unwipe_at {old r : Env} {i : Nat} : ∀ {vs : List Nat}, i ∉ vs → (unwipe old r vs).sl[i]? = r.sl[i]?
  | [], _ => rfl
  | v :: vs, h => by
    have z : v ≠ i := fun z => h (by rw [z]; exact List.mem_cons_self)
    show ((unwipe old r vs).sl.set v _)[i]? = _
    rw [List.getElem?_set_ne z]
    exact unwipe_at fun z => h (List.mem_cons_of_mem _ z)
theorem unwipe_in {old r : Env} {i : Nat} : ∀ {vs : List Nat} {s : Slot}, i ∈ vs → (unwipe old r vs).sl[i]? = some s → s = oldSlot old i
  | [], _, h, _ => by cases h
  | v :: vs, s, h, q => by
    unfold unwipe at q
    rcases put_at q with ⟨z, w, _⟩ | ⟨z, q⟩
    · subst z; exact w
    · rcases List.mem_cons.mp h with y | y
      · exact absurd y.symm z
      · exact unwipe_in y q
theorem oldSlot_lent {old : Env} {i : Nat} (h : Lent (oldSlot old i)) : old.sl[i]? = some (oldSlot old i) := by
  unfold oldSlot at h ⊢
  split
  · rename_i y e; rw [e] at h; exact h.elim
  · rename_i y e; exact e
  · rename_i n1 n2
    split at h
    · exact h.elim
    · rename_i y e; exact absurd e (n2 y)
    · exact h.elim
theorem J.unwipe (j0 : J K B H0 F0 F H σ r) (vs : List Nat) (e : FEx F F') (j : J K B H0 F0 F' H' (L2.wipe σ vs) r') : J K B H0 F0 F' H' σ (unwipe r r' vs) := by
  have own : ∀ {k : Nat} {c : C}, (CM.unwipe r r' vs).sl[k]? = some (.ow c) → k ∉ vs ∧ r'.sl[k]? = some (.ow c) := fun {k c} q => by
    by_cases z : k ∈ vs
    · have w := unwipe_in z q
      unfold oldSlot at w
      split at w <;> cases w
    · rw [unwipe_at z] at q; exact ⟨z, q⟩
  refine ⟨j.eb, j.e0, j.ef, j.fh, j.nw, by rw [unwipe_st]; exact j.so, ?_, fun k t q => ?_, fun k l c e p h1 h2 h3 h4 => ?_⟩
  · rw [unwipe_len, ← j.len, wipe_len]
  · by_cases z : k ∈ vs
    · have w := unwipe_in z q
      subst w
      unfold oldSlot
      split
      · rename_i y e'
        obtain ⟨v, a, b⟩ := j0.sl k _ e'
        exact ⟨v, a, Vp.up e _ _ b⟩
      · rename_i y e'
        obtain ⟨v, a, b⟩ := j0.sl k _ e'
        exact ⟨v, a, b.up e (.refl _)⟩
      · trivial
    · rw [unwipe_at z] at q
      have b := j.sl k t q
      rw [wipe_at z] at b
      exact b
  · obtain ⟨z1, g1⟩ := own h1
    obtain ⟨z2, g2⟩ := own h2
    exact j.dj k l c e p g1 g2 (by rw [wipe_at z1]; exact h3) (by rw [wipe_at z2]; exact h4)
end
def Lk0 (r r' : Env) : Prop := ∀ (i : Nat) (s : Slot), Lent s → r'.sl[i]? = some s → r.sl[i]? = some s
theorem Lk0.trans {r r1 r2 : Env} (a : Lk0 r r1) (b : Lk0 r1 r2) : Lk0 r r2 := fun i s l h => a i s l (b i s l h)
theorem Kp.lk0 {r r' : Env} {σ σ' : L2.St} (k : Kp r σ r' σ') : Lk0 r r' := fun i s l h => (k i s l h).1
theorem Lk0.wipe {r : Env} {vs : List Nat} : Lk0 r (wipeE r vs) := fun i s l h => (wipe_own l.ne h).1
theorem wipe_wipe {σ : L2.St} {vs : List Nat} : L2.wipe (L2.wipe σ vs) vs = L2.wipe σ vs := by
  have g : ∀ (us : List Nat) (σ : L2.St), (∀ i ∈ us, ∀ x, σ[i]? = some x → x = none) → L2.wipe σ us = σ := fun us => by
    induction us with
    | nil => intro σ _; rfl
    | cons u us ih =>
      intro σ h
      unfold L2.wipe
      rw [ih σ fun i hi => h i (List.mem_cons_of_mem _ hi)]
      apply List.ext_getElem?
      intro k
      by_cases z : u = k
      · subst z
        rw [List.getElem?_set_self']
        cases w : σ[u]? with
        | none => rfl
        | some y => rw [h u List.mem_cons_self y w]; rfl
      · rw [List.getElem?_set_ne z]
  refine g vs _ fun i hi x hx => ?_
  cases x with
  | none => rfl
  | some x => exact absurd hi (L2.wipe_some hx).2
section
variable {X : Cx} {pos : Pos}
theorem re_lc {K : KC} {b : Bool} {w : TI} {p : Pat} {f : IF} {t : TF} {g : EF} {vs : List Nat} (hw : RI K w f) (hp : ∀ i ∈ ptSlots p, i ∈ vs) :
    RE K false (tLc w (gD K p) (ttD K t) (tD K b g) vs) (eLc vs p f t g) := by
  intro B H0 F0 F H σ r z r' q j Q k
  simp only [eLc, Option.bind_eq_some_iff] at q
  obtain ⟨⟨ds, l, r1⟩, q1, q⟩ := q
  split at q
  case isFalse => cases q
  rename_i hlen
  simp only [Option.bind_eq_some_iff] at q
  obtain ⟨⟨ys, r2⟩, q2, q3⟩ := q
  cases q3
  dsimp only at k q2 hlen
  have hlen : ds.length < sizeLine := by rw [sizeLine_eq]; exact hlen
  refine hw _ _ _ _ _ _ _ _ _ _ q1 j _ fun F1 H1 B' H0' FL T e1 lk ok => ?_
  have j1 := lk.j
  intro L hL
  have h0 : H0' L = none := j1.e0.back hL
  have f1 : FL.f L = none := j1.fh.back hL
  have f0 : F0 L = none := j1.ef.back f1
  have t1 : FL.t L = none := j1.tagged L hL
  have g0 : Grow FL H1 FL (upd H1 L (.lst [])) := .lay j1.fh hL
  have own0 : ∀ (i : Nat) (e : C), (wipeE (lock l r1) vs).sl[i]? = some (.ow e) → (L2.wipe σ vs)[i]? ≠ some (some (.ref L)) := fun i e q z => ((j1.wipe vs).ownH q z).1 hL
  have nolok : ∀ F2, FEx FL F2 → ∀ n f, F2.t L ≠ some (.lok n f) := fun F2 e n f z => by
    have := (e.l L n f).mpr z
    rw [t1] at this; cases this
  refine ⟨fun i m H => m = ds.length - i ∧ i ≤ ds.length ∧ ∃ F r acc av, FEx FL F ∧ Lk0 (wipeE (lock l r1) vs) r ∧ J K B' (upd H0' L (.lst av)) F0 F H (L2.wipe σ vs) r ∧ VpAll K F av acc ∧ acc.length ≤ i ∧ ∃ zs, runComp vs p t g (ds.drop i) r = some (zs, r2) ∧ ys = acc ++ zs,
    ⟨ds.length, by simp, Nat.zero_le _, FL, wipeE (lock l r1) vs, [], [], .refl _, fun _ _ _ h => h, ((j1.grow g0).wipe vs).hold h0 f1 t1 upd_same own0, .nil, Nat.le_refl _, ys, q2, rfl⟩, ?_⟩
  rintro i m H2 ⟨rfl, hi, F2, ρ, acc, av, e2, l2, j2, da, hacc, zs, q3, rfl⟩
  have eb : Ex B' H0' := j1.eb
  have oki := ok i F2 H2 e2 j2.fh ((Ex.new h0).trans j2.e0)
  by_cases hlt : i < ds.length
  · obtain ⟨go, yl⟩ := oki.1 hlt
    rw [List.drop_eq_getElem_cons hlt] at q3
    simp only [runComp, Option.bind_eq_some_iff] at q3
    obtain ⟨r3, q4, ⟨b, r4⟩, q5, q6⟩ := q3
    refine .inr ⟨go, fun H => ∃ F r acc' av, FEx FL F ∧ Lk0 (wipeE (lock l r1) vs) r ∧ J K B' (upd H0' L (.lst av)) F0 F H (L2.wipe σ vs) r ∧ VpAll K F av acc' ∧ acc'.length ≤ i + 1 ∧ ∃ zs', runComp vs p t g (ds.drop (i + 1)) r = some (zs', r2) ∧ acc ++ zs = acc' ++ zs',
      fun H' ⟨F', r', acc', av', h1, h2, h3, h4, h5, h6⟩ => ⟨ds.length - (i + 1), by omega, rfl, by omega, F', r', acc', av', h1, h2, h3, h4, h5, h6⟩, fun x H3 y => ?_⟩
    obtain ⟨F3, gr, d, hd, dp⟩ := yl x H3 y
    rw [List.getElem?_eq_getElem hlt] at hd; cases hd
    have j3 := j2.grow gr
    refine ⟨_, _, _, _, _, _, _, q4, j3, dp, fun σ4 j4 k4 _ w4 => ?_⟩
    have wv := w4 vs hp
    rw [wipe_wipe] at wv
    refine ⟨wv, ?_⟩
    refine ⟨_, _, _, _, _, _, _, q5, j4, fun F5 H5 e5 j5 => ?_⟩
    have ee : FEx FL F5 := (e2.trans gr.fe).trans e5.f
    have ll : Lk0 (wipeE (lock l r1) vs) r4 := (l2.trans k4.lk0).trans e5.k
    have lv : av.length = acc.length := VpAll.length da
    have es : (upd H0' L (HO.lst av)) L = some (.lst av) := upd_same
    cases b with
    | true =>
      show tD K _ g σ4 H5 _
      rw [if_pos rfl] at q6
      simp only [Option.bind_eq_some_iff] at q6
      obtain ⟨⟨z, r6⟩, q7, ⟨y6, r7⟩, q8, ⟨zs', r8⟩, q9, q10⟩ := q6
      cases q10
      refine ⟨_, _, _, _, _, _, _, q7, j5, fun F6 H6 v6 e6 j6 k6 => ?_⟩
      obtain ⟨F7, e7, j7, d7⟩ := toSh_ok q8 j6 k6
      have e57 : FEx FL F7 := (ee.trans e6.f).trans e7.f
      obtain ⟨j8, f8, t8, h8, n8⟩ := j7.drop h0 eb f0 (nolok _ e57) (fun ⟨_, z⟩ => by cases z)
      refine ⟨av, h8, by omega, F7, wipeE r7 vs, acc ++ [y6], av ++ [v6], e57, (((ll.trans e6.k).trans e7.k).trans .wipe), ?_, VpAll.app (VpAll.up (((gr.fe.trans e5.f).trans e6.f).trans e7.f) _ _ da) (.cons d7 .nil), by simp; omega, zs', q9, by simp⟩
      have j9 := j8.wipe vs
      rw [wv] at j9
      have n9 : ∀ (i : Nat) (e : C), (wipeE r7 vs).sl[i]? = some (.ow e) → (L2.wipe σ vs)[i]? ≠ some (some (.ref L)) := fun i e q z => by
        obtain ⟨q', z'⟩ := wipe_own (fun w => by cases w) q
        rw [← wv, wipe_at z'] at z
        exact n8 i e q' z
      exact (j9.side f8 t8 n9).hold h0 f8 t8 upd_same n9
    | false =>
      show ∃ F r acc' av, _
      rw [if_neg Bool.false_ne_true] at q6
      have j9 := j5.wipe vs
      rw [wv] at j9
      exact ⟨F5, wipeE r4 vs, acc, av, ee, ll.trans .wipe, j9, VpAll.up (gr.fe.trans e5.f) _ _ da, by omega, zs, q6, rfl⟩
  · have e : i = ds.length := by omega
    subst e
    rw [List.drop_length] at q3
    cases q3
    obtain ⟨j8, f8, t8, h8, n8⟩ := j2.drop h0 eb f0 (nolok _ e2) (fun ⟨_, z⟩ => by cases z)
    have j9 := J.unwipe j1 vs e2 j8
    have kp : Kp (lock l r1) σ (unwipe (lock l r1) r2 vs) σ := fun i s hl q => by
      refine ⟨?_, rfl⟩
      by_cases z : i ∈ vs
      · have w := unwipe_in z q
        subst w
        exact oldSlot_lent hl
      · rw [unwipe_at z] at q
        exact (wipe_own hl.ne (l2 i s hl q)).1
    obtain ⟨F3, u1, u2, u3, u4, u5, u6, u9⟩ := lk.un F2 H2 σ _ e2 kp j9
    have u7 := u6 L h0
    refine .inl ⟨oki.2 (Nat.le_refl _), k F3 H2 _ ⟨e1.f.trans u1, fun i s hl h => e1.k i s hl (u4 i s hl h).1, fun z => by cases z⟩ u5 ⟨L, rfl, u7.1, by rw [u3]; exact f8, u7.2 t8, ⟨av, h8, by rw [List.append_nil]; exact VpAll.up u2 _ _ da⟩, fun i e q z => ?_⟩⟩
    rcases u9 i e L q z with w | w
    · by_cases y : i ∈ vs
      · have w := unwipe_in y w
        unfold oldSlot at w
        split at w <;> cases w
      · rw [unwipe_at y] at w
        exact n8 i e w (by rw [wipe_at y]; exact z)
    · exact w h0
theorem de_lc {elt tg iter : Expr} {ifs : List Expr} {scope : Scope} {own : List (Str × Nat)} {p : Pat} {qb : Bool} {f : IF} {t : TF} {g : EF} (hc : X.calm = true) (hN : X.N.Nodup) (hi : DI X tg iter f) (ok : BlkOk X.N X.env.scope scope own)
    (hg : ∀ (s : Shared) (H : Hp) (C : Addr) (cl : List (Str × Addr)) (fp : List Addr), DG (X.blk s H scope (compEnvC scope cl C X.env) fp) tg p) (ht : ∀ (s : Shared) (H : Hp) (C : Addr) (cl : List (Str × Addr)) (fp : List Addr), DTs (X.blk s H scope (compEnvC scope cl C X.env) fp) ifs t)
    (he : ∀ (s : Shared) (H : Hp) (C : Addr) (cl : List (Str × Addr)) (fp : List Addr), DE (X.blk s H scope (compEnvC scope cl C X.env) fp) qb elt g) (hp : ∀ i ∈ ptSlots p, i ∈ own.map (·.2))
    (hs : ∀ x, foldedSetIterable iter X.env x = pure x := by intro _; rfl) : DE X false (.ListComp elt [⟨tg, iter, ifs, 0⟩] scope pos) (eLc (own.map (·.2)) p f t g) := by
  obtain ⟨w, a1, a2⟩ := hi.ex
  exact ⟨_, pe_lc hc hN a1 ok (fun s H C cl fp => (hg s H C cl fp).can) (fun s H C cl fp => (ht s H C cl fp).can) (fun s H C cl fp => (he s H C cl fp).can) hs, re_lc a2 hp⟩
theorem ds_setLc {i : Nat} {y : Str} {py spos : Pos} {elt tg iter : Expr} {ifs : List Expr} {scope : Scope} {own : List (Str × Nat)} {p : Pat} {qb : Bool} {f : IF} {t : TF} {g : EF} (hc : X.calm = true) (hN : X.N.Nodup) (hy : X.N[i]? = some y) (hyl : X.env.scope.names.lookup y = some .local)
    (hsw : swapsWith (.ListComp elt [⟨tg, iter, ifs, 0⟩] scope pos) (some (.Name y py)) spos.line X.env = pure true) (hi : DI X tg iter f) (ok : BlkOk X.N X.env.scope scope own)
    (hg : ∀ (s : Shared) (H : Hp) (C : Addr) (cl : List (Str × Addr)) (fp : List Addr), DG (X.blk s H scope (compEnvC scope cl C X.env) fp) tg p) (ht : ∀ (s : Shared) (H : Hp) (C : Addr) (cl : List (Str × Addr)) (fp : List Addr), DTs (X.blk s H scope (compEnvC scope cl C X.env) fp) ifs t)
    (he : ∀ (s : Shared) (H : Hp) (C : Addr) (cl : List (Str × Addr)) (fp : List Addr), DE (X.blk s H scope (compEnvC scope cl C X.env) fp) qb elt g) (hp : ∀ i ∈ ptSlots p, i ∈ own.map (·.2))
    (hs : ∀ x, foldedSetIterable iter X.env x = pure x := by intro _; rfl) : DS X (.Assign [.Name y py] (.ListComp elt [⟨tg, iter, ifs, 0⟩] scope pos) spos) (sSet i (eLc (own.map (·.2)) p f t g)) := by
  obtain ⟨w, a1, a2⟩ := hi.ex
  exact ⟨_, ps_setLc hc hN hy hyl hsw a1 ok (fun s H C cl fp => (hg s H C cl fp).can) (fun s H C cl fp => (ht s H C cl fp).can) (fun s H C cl fp => (he s H C cl fp).can) hs, rs_set (re_lc a2 hp)⟩
end
theorem argSlots_ok {K : KC} {F : Fz} {H : Hp} : ∀ {ms : List Bool} {vs : List V} {cs : List C} {r : List Slot}, argSlots ms cs = some r → ArgsOk K F H ms vs cs →
    r.length = vs.length ∧ ∀ (i : Nat) (s : Slot), r[i]? = some s → SlotOk K H H F H ((vs.map some)[i]?) s ∧ ∀ c, s ≠ .ow c
  | [], [], [], r, q, _ => by cases q; exact ⟨rfl, fun i s q => by simp at q⟩
  | m :: ms, v :: vs, c :: cs, r, q, h => by
    simp only [argSlots, Option.bind_eq_some_iff] at q
    obtain ⟨s0, q1, r', q2, q3⟩ := q
    cases q3
    have hh : ArgsOk K F H ms vs cs := by
      cases m
      · exact h.2
      · exact h.2
    obtain ⟨l, a⟩ := argSlots_ok q2 hh
    refine ⟨by simp [l], fun i s q => ?_⟩
    cases i with
    | succ i =>
      have q' : r'[i]? = some s := by simpa using q
      have b := a i s q'
      simpa using b
    | zero =>
      have q' : s0 = s := by simpa using q
      subst q'
      show SlotOk K H H F H (some (some v)) s0 ∧ _
      cases m with
      | true =>
        obtain ⟨⟨x, rfl, d⟩, _⟩ := h
        cases q1
        exact ⟨⟨v, rfl, d⟩, fun c z => by cases z⟩
      | false =>
        obtain ⟨d, _⟩ := h
        cases c with
        | d x =>
          simp only [argSlot] at q1
          by_cases hc : isCon x = true
          · rw [if_pos hc] at q1
            cases q1
            exact ⟨⟨v, rfl, d⟩, fun c z => by cases z⟩
          · rw [if_neg hc] at q1
            cases q1
            refine ⟨⟨v, rfl, ?_⟩, fun c z => by cases z⟩
            cases x with
            | list _ => exact absurd rfl hc
            | _ => exact d
        | dk _ => cases q1; exact ⟨⟨v, rfl, d⟩, fun c z => by cases z⟩
        | dt _ => cases q1; exact ⟨⟨v, rfl, d⟩, fun c z => by cases z⟩
        | dn _ => cases q1; exact ⟨⟨v, rfl, d⟩, fun c z => by cases z⟩
  | [], [], _ :: _, _, _, h => by exact h.elim
  | [], _ :: _, _, _, _, h => by cases h
  | true :: _, [], _, _, _, h => by cases h
  | false :: _, [], _, _, _, h => by cases h
  | true :: _, _ :: _, [], _, _, h => by cases h
  | false :: _, _ :: _, [], _, _, h => by cases h
section
variable {P : Program} {w : World} {K : PySem.W.Frag} {mg : Str → Option Value} {base : Heap}
theorem fn_den {x qual : Str} {st : Stmt} {f : Addr} {fd : FuncData} {N ps : List Str} {k : Nat} {ms : List Bool} {body : SF} (F : Fun K x qual st f fd) (S : FnScope N ps (defScope st)) (hl : ms.length = ps.length)
    (hbody : ∀ (cdv : Value) (A : Around) (outer : List PySem.Env) (s : Shared) (H : Hp) (E : XK), Room k (A.deeper (envOfC qual (defScope st) s.heap.objs.size f cdv)) →
      DSs (cxOf CX0 P w K mg base N qual (defScope st) f cdv A outer s H E).nox (defBody st) body) : FnOk P w K mg base CX0 (k + 1) f fd ps (spD ⟨K, mg, w⟩ ms (dDef N.length ms body)) := by
  refine F.ok S (fun vs H Q E h => ?_) (fun cdv A outer s H vs Q E hr h => ?_)
  · obtain ⟨_, _, _, _, _, _, _, a, _⟩ := h
    rw [a.length, hl]
  · obtain ⟨F1, cs, sto, z, sto', e, so, a, q, k1⟩ := h
    obtain ⟨t, b1, b2⟩ := (hbody cdv A outer s H E hr).ex
    refine ⟨t, b1, ?_⟩
    simp only [dDef, Option.bind_eq_some_iff] at q
    obtain ⟨r, q1, ⟨fl, r'⟩, q2, q3⟩ := q
    obtain ⟨l, sl⟩ := argSlots_ok q1 a
    have lv : vs.length = ps.length := a.length.trans hl
    have ln : ps.length ≤ N.length := by
      have := congrArg List.length S.pre
      rw [List.length_take] at this
      omega
    have j : J ⟨K, mg, w⟩ (priv F1 H) (priv F1 H) F1.f F1 H (L2.start N vs) ⟨r ++ List.replicate (N.length - r.length) .no, sto⟩ := by
      refine ⟨.refl _, priv_ex, .refl _, e, fun a o q => .inl q, so, ?_, fun i s q => ?_, fun i j c d p h1 h2 _ _ => ?_⟩
      · unfold L2.start
        simp [l]
      · rcases Nat.lt_or_ge i r.length with w | w
        · rw [List.getElem?_append_left w] at q
          unfold L2.start
          rw [List.getElem?_append_left (by simp; omega)]
          have ok := sl i s q
          cases s with
          | ow c => exact absurd rfl (ok.2 c)
          | no => exact ok.1
          | sh _ => exact ok.1
          | bo _ => exact ok.1
          | lk _ => exact ok.1
        · rw [List.getElem?_append_right w] at q
          rw [List.getElem?_replicate] at q
          split at q
          · cases q; trivial
          · cases q
      · rcases Nat.lt_or_ge i r.length with w | w
        · rw [List.getElem?_append_left w] at h1
          exact absurd rfl ((sl i _ h1).2 c)
        · rw [List.getElem?_append_right w, List.getElem?_replicate] at h1
          split at h1 <;> cases h1
    refine b2 _ _ _ _ _ _ _ _ _ q2 j _ ?_
    have nw : ∀ {F' H' σ' r'}, J ⟨K, mg, w⟩ (priv F1 H) (priv F1 H) F1.f F' H' σ' r' → ∀ a o, F'.f a = some o → F1.f a = some o ∨ priv F1 H a = none ∨ TupO o := fun j' => j'.nw
    cases fl with
    | nx =>
      cases q3
      exact fun F' H' σ' e' _ j' => k1 F' H' .non ⟨e', j'.e0, j'.fh, j'.nw⟩ j'.so .non
    | rt y =>
      cases q3
      exact fun F' H' σ' v e' _ j' o => k1 F' H' v ⟨e', j'.e0, j'.fh, j'.nw⟩ j'.so o
    | bk => cases q3
    | ct => cases q3
end
end CM
end
section
set_option Elab.async false
set_option linter.all false
set_option maxRecDepth 100000
set_option autoImplicit false
namespace CM
open PySem PySem.Spec PyProof.Rows L2 PySem.SeqAt

mutual
theorem dp_nod {K : PySem.W.Frag} {H : Hp} : ∀ (d : D) (v : V), Dp K H v d → nod d = true
  | .none, _, _ => rfl
  | .bool _, _, _ => rfl
  | .int _, _, _ => rfl
  | .str _, _, _ => rfl
  | .list xs, _, h => by
    cases h with
    | lst _ ha => rw [nod]; exact dps_nod xs _ ha
  | .tuple xs, _, h => by
    cases h with
    | tup _ ha => rw [nod]; exact dps_nod xs _ ha
  | .dict _, _, h => by cases h
theorem dps_nod {K : PySem.W.Frag} {H : Hp} : ∀ (ds : List D) (vs : List V), DpAll K H vs ds → nods ds = true
  | [], _, _ => rfl
  | d :: ds, _, h => by
    cases h with
    | cons h1 h2 => rw [nods, dp_nod d _ h1, dps_nod ds _ h2]; rfl
end
mutual
theorem rd_one {h : Heap} : ∀ (d d' : D) (v : Value) (as bs : List Addr), nod d = true → Reads h v d as → Reads h v d' bs → d = d'
  | .none, _, _, _, _, _, r, q => by cases r; cases q; rfl
  | .bool _, _, _, _, _, _, r, q => by cases r; cases q; rfl
  | .int _, _, _, _, _, _, r, q => by cases r; cases q; rfl
  | .str _, _, _, _, _, _, r, q => by cases r; cases q; rfl
  | .list xs, d', _, _, _, hn, r, q => by
    cases r with
    | list h1 h2 h3 h4 =>
      cases q with
      | list k1 k2 k3 k4 =>
        rw [h1] at k1; cases k1
        rw [h3] at k3; cases k3
        exact congrArg PyData.list (rds_one xs _ _ _ _ (by rw [nod] at hn; exact hn) h4 k4)
      | tuple k1 k2 k3 k4 =>
        rw [h1] at k1; cases k1
        rw [h2] at k2; exact absurd k2 (by decide)
      | dict k1 k2 k3 k4 =>
        rw [h1] at k1; cases k1
        rw [h2] at k2; exact absurd k2 (by decide)
  | .tuple xs, d', _, _, _, hn, r, q => by
    cases r with
    | tuple h1 h2 h3 h4 =>
      cases q with
      | list k1 k2 k3 k4 =>
        rw [h1] at k1; cases k1
        rw [h2] at k2; exact absurd k2 (by decide)
      | tuple k1 k2 k3 k4 =>
        rw [h1] at k1; cases k1
        rw [h3] at k3; cases k3
        exact congrArg PyData.tuple (rds_one xs _ _ _ _ (by rw [nod] at hn; exact hn) h4 k4)
      | dict k1 k2 k3 k4 =>
        rw [h1] at k1; cases k1
        rw [h2] at k2; exact absurd k2 (by decide)
  | .dict _, _, _, _, _, hn, _, _ => by cases hn
theorem rds_one {h : Heap} : ∀ (xs ys : List D) (vs : List Value) (as bs : List Addr), nods xs = true → ReadsAll h vs xs as → ReadsAll h vs ys bs → xs = ys
  | [], _, _, _, _, _, r, q => by cases r; cases q; rfl
  | x :: xs, _, _, _, _, hn, r, q => by
    cases r with
    | cons r1 r2 =>
      cases q with
      | cons q1 q2 => rw [rd_one x _ _ _ _ (nods_cons hn).1 r1 q1, rds_one xs _ _ _ _ (nods_cons hn).2 r2 q2]
end
mutual
theorem eqv_self : ∀ d : D, nod d = true → PyData.eqv d d = true
  | .none, _ => by rw [PyData.eqv]
  | .bool _, _ => by rw [PyData.eqv]; exact beq_self_eq_true _
  | .int _, _ => by rw [PyData.eqv]; exact beq_self_eq_true _
  | .str _, _ => by rw [PyData.eqv]; exact beq_self_eq_true _
  | .list xs, h => by rw [PyData.eqv]; exact eqvs_self xs (by rw [nod] at h; exact h)
  | .tuple xs, h => by rw [PyData.eqv]; exact eqvs_self xs (by rw [nod] at h; exact h)
  | .dict _, h => by cases h
theorem eqvs_self : ∀ xs : List D, nods xs = true → PyData.eqvAll xs xs = true
  | [], _ => by rw [PyData.eqvAll]
  | x :: xs, h => by rw [PyData.eqvAll, eqv_self x (nods_cons h).1, eqvs_self xs (nods_cons h).2]; rfl
end
mutual
theorem eq_nod : ∀ (x y : D) (A : Around) (s : Shared) (a b : Value) (as bs : List Addr), Reads s.heap a x as → Reads s.heap b y bs → nod x = true → nod y = true → A.units + min x.depth y.depth < cLine → EqAt A s a b (PyData.eqv x y)
  | .list xs, y, A, s, a, b, as, bs, ra, rb, hx, hy, hu => by
    cases ra with
    | @list l o vs n _ as1 h1 h2 h3 h4 =>
      have hl : s.heap.IsList l vs := ⟨_, h1, h2, _, h3⟩
      cases rb with
      | none => rw [PyData.eqv]; exact EqAt.list_none hl (Nat.lt_of_le_of_lt (Nat.le_add_right _ _) hu)
      | bool c => rw [PyData.eqv]; exact EqAt.list_bool c hl (Nat.lt_of_le_of_lt (Nat.le_add_right _ _) hu)
      | int c t => rw [PyData.eqv]; exact EqAt.list_int c t hl (Nat.lt_of_le_of_lt (Nat.le_add_right _ _) hu)
      | str c t => rw [PyData.eqv]; exact EqAt.list_str c t hl (Nat.lt_of_le_of_lt (Nat.le_add_right _ _) hu)
      | tuple k1 k2 k3 k4 => rw [PyData.eqv]; exact EqAt.list_tuple hl ⟨_, k1, k2, _, k3⟩ (Nat.lt_of_le_of_lt (Nat.le_add_right _ _) hu)
      | dict k1 k2 k3 k4 => cases hy
      | @list l' o' vs' n' ys bs1 k1 k2 k3 k4 =>
        have hl' : s.heap.IsList l' vs' := ⟨_, k1, k2, _, k3⟩
        have nx : nods xs = true := by rw [nod] at hx; exact hx
        have ny : nods ys = true := by rw [nod] at hy; exact hy
        have n1 : vs.size = xs.length := by simpa using ReadsAll.length _ _ _ h4
        have n2 : vs'.size = ys.length := by simpa using ReadsAll.length _ _ _ k4
        rw [PyData.eqv]
        by_cases e : l = l'
        · subst e
          rw [h1] at k1; cases k1
          rw [h3] at k3; cases k3
          have z := rds_one xs ys _ _ _ nx h4 k4
          subst z
          rw [eqvs_self xs nx]
          exact EqAt.same _
        · by_cases hs : vs.size = vs'.size
          · have z := eqvAll_same_length (xs := xs) (ys := ys) (by omega)
            rw [← z, ← n1]
            refine EqAt.of_refs e (RcAt.lists hl hl' hs (room_here hu) fun j j1 j2 => ?_)
            have z9 := eq_nods xs ys A.in1 s vs.toList vs'.toList _ _ h4 k4 nx ny (room_in hu) j (by simpa using j1) (by simpa using j2)
            simp only [Array.getElem_toList] at z9
            exact z9
          · have z := eqvAll_other_length (xs := xs) (ys := ys) (by omega)
            rw [z]
            exact EqAt.of_refs e (RcAt.lists_lengths hl hl' (by simpa using hs) (room_here hu))
  | .tuple xs, y, A, s, a, b, as, bs, ra, rb, hx, hy, hu => by
    cases ra with
    | @tuple l o vs n _ as1 h1 h2 h3 h4 =>
      have hl : s.heap.IsTuple l vs := ⟨_, h1, h2, _, h3⟩
      cases rb with
      | none => rw [PyData.eqv]; exact EqAt.tuple_none hl (Nat.lt_of_le_of_lt (Nat.le_add_right _ _) hu)
      | bool c => rw [PyData.eqv]; exact EqAt.tuple_bool c hl (Nat.lt_of_le_of_lt (Nat.le_add_right _ _) hu)
      | int c t => rw [PyData.eqv]; exact EqAt.tuple_int c t hl (Nat.lt_of_le_of_lt (Nat.le_add_right _ _) hu)
      | str c t => rw [PyData.eqv]; exact EqAt.tuple_str c t hl (Nat.lt_of_le_of_lt (Nat.le_add_right _ _) hu)
      | list k1 k2 k3 k4 => rw [PyData.eqv]; exact EqAt.tuple_list hl ⟨_, k1, k2, _, k3⟩ (Nat.lt_of_le_of_lt (Nat.le_add_right _ _) hu)
      | dict k1 k2 k3 k4 => cases hy
      | @tuple l' o' vs' n' ys bs1 k1 k2 k3 k4 =>
        have hl' : s.heap.IsTuple l' vs' := ⟨_, k1, k2, _, k3⟩
        have nx : nods xs = true := by rw [nod] at hx; exact hx
        have ny : nods ys = true := by rw [nod] at hy; exact hy
        have n1 : vs.size = xs.length := by simpa using ReadsAll.length _ _ _ h4
        have n2 : vs'.size = ys.length := by simpa using ReadsAll.length _ _ _ k4
        rw [PyData.eqv]
        by_cases e : l = l'
        · subst e
          rw [h1] at k1; cases k1
          rw [h3] at k3; cases k3
          have z := rds_one xs ys _ _ _ nx h4 k4
          subst z
          rw [eqvs_self xs nx]
          exact EqAt.same _
        · rw [← eqvAll_eq xs ys, ← n1, ← n2]
          refine EqAt.of_refs e (RcAt.tuples hl hl' (room_here hu) fun j j1 j2 => ?_)
          have z9 := eq_nods xs ys A.in1 s vs.toList vs'.toList _ _ h4 k4 nx ny (room_in hu) j (by simpa using j1) (by simpa using j2)
          simp only [Array.getElem_toList] at z9
          exact z9
  | .none, y, A, s, a, b, as, bs, ra, rb, hx, hy, hu => by
    have hu' : A.units < cLine := Nat.lt_of_le_of_lt (Nat.le_add_right _ _) hu
    cases ra
    cases rb with
    | none => rw [PyData.eqv]; exact EqAt.same _
    | bool c => rw [PyData.eqv]; exact EqAt.none_bool c
    | int c t => rw [PyData.eqv]; exact EqAt.none_int c t
    | str c t => rw [PyData.eqv]; exact EqAt.none_str c t
    | list k1 k2 k3 k4 => rw [PyData.eqv]; exact EqAt.none_list ⟨_, k1, k2, _, k3⟩ hu'
    | tuple k1 k2 k3 k4 => rw [PyData.eqv]; exact EqAt.none_tuple ⟨_, k1, k2, _, k3⟩ hu'
    | dict k1 k2 k3 k4 => cases hy
  | .bool i, y, A, s, a, b, as, bs, ra, rb, hx, hy, hu => by
    have hu' : A.units < cLine := Nat.lt_of_le_of_lt (Nat.le_add_right _ _) hu
    cases ra
    cases rb with
    | none => rw [PyData.eqv]; exact EqAt.bool_none i
    | bool c => rw [PyData.eqv]; exact EqAt.bool_bool i c
    | int c t => rw [PyData.eqv]; exact EqAt.bool_int i c t
    | str c t => rw [PyData.eqv]; exact EqAt.bool_str i c t
    | list k1 k2 k3 k4 => rw [PyData.eqv]; exact EqAt.bool_list i ⟨_, k1, k2, _, k3⟩ hu'
    | tuple k1 k2 k3 k4 => rw [PyData.eqv]; exact EqAt.bool_tuple i ⟨_, k1, k2, _, k3⟩ hu'
    | dict k1 k2 k3 k4 => cases hy
  | .int i, y, A, s, a, b, as, bs, ra, rb, hx, hy, hu => by
    have hu' : A.units < cLine := Nat.lt_of_le_of_lt (Nat.le_add_right _ _) hu
    cases ra with
    | int _ u =>
    cases rb with
    | none => rw [PyData.eqv]; exact EqAt.int_none i u
    | bool c => rw [PyData.eqv]; exact EqAt.int_bool i u c
    | int c t => rw [PyData.eqv]; exact EqAt.int_int i u c t
    | str c t => rw [PyData.eqv]; exact EqAt.int_str i u c t
    | list k1 k2 k3 k4 => rw [PyData.eqv]; exact EqAt.int_list i u ⟨_, k1, k2, _, k3⟩ hu'
    | tuple k1 k2 k3 k4 => rw [PyData.eqv]; exact EqAt.int_tuple i u ⟨_, k1, k2, _, k3⟩ hu'
    | dict k1 k2 k3 k4 => cases hy
  | .str i, y, A, s, a, b, as, bs, ra, rb, hx, hy, hu => by
    have hu' : A.units < cLine := Nat.lt_of_le_of_lt (Nat.le_add_right _ _) hu
    cases ra with
    | str _ u =>
    cases rb with
    | none => rw [PyData.eqv]; exact EqAt.str_none i u
    | bool c => rw [PyData.eqv]; exact EqAt.str_bool i u c
    | int c t => rw [PyData.eqv]; exact EqAt.str_int i u c t
    | str c t => rw [PyData.eqv]; exact EqAt.str_str i u c t
    | list k1 k2 k3 k4 => rw [PyData.eqv]; exact EqAt.str_list i u ⟨_, k1, k2, _, k3⟩ hu'
    | tuple k1 k2 k3 k4 => rw [PyData.eqv]; exact EqAt.str_tuple i u ⟨_, k1, k2, _, k3⟩ hu'
    | dict k1 k2 k3 k4 => cases hy
  | .dict _, _, _, _, _, _, _, _, _, _, hx, _, _ => by cases hx
theorem eq_nods : ∀ (xs ys : List D) (A : Around) (s : Shared) (vs ws : List Value) (as bs : List Addr), ReadsAll s.heap vs xs as → ReadsAll s.heap ws ys bs → nods xs = true → nods ys = true →
    A.units + min (PyData.depthAll xs) (PyData.depthAll ys) < cLine → ∀ j (h1 : j < vs.length) (h2 : j < ws.length), EqAt A s vs[j] ws[j] (pairEq xs ys j)
  | [], _, _, _, _, _, _, _, ra, _, _, _, _, j, h1, _ => by cases ra; exact absurd h1 (Nat.not_lt_zero _)
  | _ :: _, [], _, _, _, _, _, _, _, rb, _, _, _, j, _, h2 => by cases rb; exact absurd h2 (Nat.not_lt_zero _)
  | x :: xs, y :: ys, A, s, _, _, _, _, ra, rb, hx, hy, hu, j, h1, h2 => by
    cases ra with
    | cons r rs =>
      cases rb with
      | cons r' rs' =>
        cases j with
        | zero => exact eq_nod x y A s _ _ _ _ r r' (nods_cons hx).1 (nods_cons hy).1 (room_head hu)
        | succ j => exact eq_nods xs ys A s _ _ _ _ rs rs' (nods_cons hx).2 (nods_cons hy).2 (room_tail hu) j (Nat.lt_of_succ_lt_succ h1) (Nat.lt_of_succ_lt_succ h2)
end
end CM
end
section
set_option Elab.async false
set_option linter.all false
set_option maxRecDepth 100000
set_option autoImplicit false
namespace CM
open PySem PySem.Spec PyProof.Rows L2 PySem.SeqAt

theorem shallow_ok {x y : D} (h : shallow x y = true) : min x.depth y.depth ≤ 60 ∧ nod x = true ∧ nod y = true := by
  unfold shallow at h
  rw [Bool.and_eq_true, Bool.and_eq_true] at h
  exact ⟨of_decide_eq_true h.1, h.2.1, h.2.2⟩
def oD (K : KC) (g : C → C → Option Res) : R2 := fun x y H Q => ∃ (F : Fz) (a b : C) (z : Res), Ex F.f H ∧ (∀ p, H p = none → F.t p = none) ∧ Bd K F H x a ∧ Bd K F H y b ∧ g a b = some z ∧ ∀ F' H' v, Grow F H F' H' → RetOk K H F' H' v z → Q v H'
theorem DOp.of {X : Cx} {f : Value → Value → Sem Value} {g : C → C → Option Res} (h : OpR X f (oD X.kc g)) : DOp X f g := ⟨_, h, fun F H x y a b z e et ba bb q Q k => ⟨F, a, b, z, e, et, ba, bb, q, k⟩⟩
theorem DIx.of {X : Cx} {g : C → C → Option Res} (h : IxR X (oD X.kc g)) : DIx X g := ⟨_, h, fun F H x y a b z e et ba bb q Q k => ⟨F, a, b, z, e, et, ba, bb, q, k⟩⟩
def lD (K : KC) (g : List C → Option Res) : List V → Hp → VK → Prop := fun xs H Q => ∃ (F : Fz) (cs : List C) (z : Res), Ex F.f H ∧ (∀ p, H p = none → F.t p = none) ∧ Paired (Bd K F H) xs cs ∧ g cs = some z ∧ ∀ F' H' v, Grow F H F' H' → RetOk K H F' H' v z → Q v H'
theorem DCl.of {X : Cx} {f : Value} {g : List C → Option Res} (h : CallR X f (lD X.kc g)) : DCl X f g := ⟨_, h, fun F H xs cs z e et b q Q k => ⟨F, cs, z, e, et, b, q, k⟩⟩
section
variable {X : Cx}
theorem dop_int {f : Value → Value → Sem Value} {Cn : Int → Int → Prop} {h : Int → Int → V} {g : C → C → Option Res} (o : OpR X f (rI Cn h)) (k : ∀ a b z, g a b = some z → ∃ i j, a = .d (.int i) ∧ b = .d (.int j) ∧ Cn i j ∧ ∃ d, z = .sh d ∧ ∀ F, Vp X.kc F (h i j) d) : DOp X f g :=
  ⟨_, o, fun F H x y a b z e et ba bb q Q kk => by
    obtain ⟨i, j, rfl, rfl, c, d, rfl, dd⟩ := k a b z q
    have h1 : Vp X.kc F x (.int i) := ba
    have h2 : Vp X.kc F y (.int j) := bb
    cases h1; cases h2
    exact ⟨i, j, rfl, rfl, c, kk F H _ (.refl e) (dd F)⟩⟩
theorem dop_sub : DOp X (binaryOp .Sub) gSub := by
  have o : OpR X (binaryOp .Sub) (rI (fun _ _ => True) fun i j => .int (i - j)) := fun pins s σ H x y v u Q I rx ry ⟨i, j, e1, e2, _, q⟩ => op_sub pins s σ H x y v u Q I rx ry ⟨i, j, e1, e2, q⟩
  refine dop_int o fun a b z q => ?_
  unfold gSub at q
  split at q
  · cases q; exact ⟨_, _, rfl, rfl, trivial, _, rfl, fun H => .int _⟩
  · cases q
theorem rep_size (m : Nat) (x : Array Nat) : ∀ acc : Array Nat, ((List.replicate m x).foldl (· ++ ·) acc).size = acc.size + m * x.size := by
  induction m with
  | zero => intro acc; simp
  | succ m ih =>
    intro acc
    rw [List.replicate_succ, List.foldl_cons, ih, Array.size_append, Nat.add_mul]
    omega
theorem dop_mul : DOp X (binaryOp .Mult) gMul := by
  refine .of fun pins s σ H x y v u Q I rx ry ⟨F, a, b, z, e, et, ba, bb, q, k⟩ => ?_
  unfold gMul at q
  split at q
  · rename_i i j
    split at q
    · rename_i c
      cases q
      have h1 : Vp X.kc F x (.int i) := ba
      have h2 : Vp X.kc F y (.int j) := bb
      cases h1; cases h2
      refine op_mul pins s σ H _ _ v u Q I rx ry ⟨i, j, rfl, rfl, ?_, k F H _ (.refl e) (.int _)⟩
      rcases c with c | c
      · exact .inl ⟨by omega, by omega⟩
      · exact .inr ⟨by omega, by omega⟩
    · cases q
  · rename_i w n
    split at q
    · rename_i c
      cases q
      obtain ⟨c1, c2, c3, c4⟩ := c
      have h1 : Vp X.kc F x (.str w) := ba
      have h2 : Vp X.kc F y (.int n) := bb
      cases h1; cases h2
      obtain ⟨t, rfl⟩ := (show ∃ t, v = Value.str w t from rx)
      obtain ⟨t', rfl⟩ := (show ∃ t, u = Value.int n t from ry)
      have fin : ∀ tk : Nat, EP X pins σ Q (.str ⟨(List.replicate n.toNat w.cps).foldl (· ++ ·) #[]⟩ s.toks) { s with toks := tk } := fun tk => ⟨.str _, H, I.tok _, ⟨_, rfl⟩, k F H _ (.refl e) (.str _)⟩
      have wl : w.length = w.cps.size := rfl
      by_cases n0 : n = 0
      · subst n0
        refine P.mul_str (by decide) (fun h => absurd (by decide) h) (fun h => absurd (by decide) h) ?_
        rw [if_pos (by decide)]
        exact ⟨by decide, fin _⟩
      refine P.mul_str (by rw [decide_eq_false (by omega), decide_eq_false (by omega)]; rfl) (fun _ _ => ?_) (fun _ _ => ?_) ?_
      · rw [wl]
        have : (1000 : Int) ≤ (2 ^ 63 - 1) / n := (Int.le_ediv_iff_mul_le (by omega)).mpr (by omega)
        omega
      · rw [wl]
        have : w.cps.size * n.toNat ≤ 1000 * 1000 := Nat.mul_le_mul c4 (by omega)
        have hz : sizeLine = 16777216 := sizeLine_eq
        show decide (w.cps.size * n.toNat > sizeLine) = false
        exact decide_eq_false (by omega)
      · rw [if_neg (by omega)]
        split
        · rename_i h
          have h : n = 1 := by
            rw [Bool.or_eq_true] at h
            rcases h with h | h
            · exact beq_iff_eq.mp h
            · have := beq_iff_eq.mp h
              rw [wl] at this
              omega
          subst h
          refine ⟨.str _, H, I, ⟨t, ?_⟩, k F H _ (.refl e) (.str _)⟩
          simp
        · refine ⟨?_, fin _⟩
          show ((List.replicate n.toNat w.cps).foldl (· ++ ·) #[]).size ≤ sizeLine
          rw [rep_size]
          have : n.toNat * w.cps.size ≤ 1000 * 1000 := Nat.mul_le_mul (by omega) c4
          have hz : sizeLine = 16777216 := sizeLine_eq
          simp only [List.size_toArray, List.length_nil]
          omega
    · cases q
  · cases q
theorem dop_div : DOp X (binaryOp .FloorDiv) gDiv := by
  refine dop_int op_fdivW fun a b z q => ?_
  unfold gDiv at q
  split at q
  · rename_i i j
    split at q
    · rename_i c
      cases q
      exact ⟨i, j, rfl, rfl, c, _, rfl, fun H => .int _⟩
    · cases q
  · cases q
theorem dop_mod : DOp X (binaryOp .Mod) gMod := by
  refine dop_int op_mod fun a b z q => ?_
  unfold gMod at q
  split at q
  · rename_i i j
    split at q
    · rename_i c
      cases q
      exact ⟨i, j, rfl, rfl, c, _, rfl, fun H => .int _⟩
    · cases q
  · cases q
theorem dop_pow : DOp X (binaryOp .Pow) gPow := by
  refine dop_int op_pow fun a b z q => ?_
  unfold gPow at q
  split at q
  · rename_i i j
    split at q
    · rename_i c
      cases q
      exact ⟨i, j, rfl, rfl, c, _, rfl, fun H => .int _⟩
    · cases q
  · cases q
theorem Inv.catL {pins : List (Addr × Obj)} {σ : L2.St} {H : Hp} {s : Shared} {a b : Addr} {xs ys : List V} (I : Inv X pins σ H s) (ha : SqL X.K H a xs) (hb : SqL X.K H b ys) (hz : xs.length + ys.length ≤ sizeLine) {Q : VK}
    (q : ∀ p, H p = none → Q (.ref p) (upd H p (.lst (xs ++ ys)))) : wpAny (model X.prog X.w) X.A (binaryOp .Add (.ref a) (.ref b)) (EP X pins σ Q) X.xe s := by
  obtain ⟨its, r, ⟨o, n, ho, hc, hd, hs⟩, _⟩ := I.list ha
  obtain ⟨its2, r2, ⟨o2, n2, ho2, hc2, hd2, hs2⟩, _⟩ := I.list hb
  have l1 := r.length
  have l2 := r2.length
  obtain ⟨c1, d1, e1, t1⟩ := o
  obtain ⟨c2, d2, e2, t2⟩ := o2
  simp only at hc hd hs hc2 hd2 hs2
  subst hc hd hs hc2 hd2 hs2
  have ea : its.toArray ++ its2.toArray = (its ++ its2).toArray := by simp
  refine concat_meets ⟨_, ho, rfl⟩ ⟨_, ho2, rfl⟩ noFill_list_add seq_list_add PySem.F.slot_list_add PySem.F.entry_list_add (PySem.F.args_list_add_2 _ _) (PyProof.Rows.list_addW a b its.toArray its2.toArray n n2 none none t1 t2 (by simp; omega)) ⟨ho, ho2, ?_⟩
  rw [ea]
  exact ⟨.ref _, _, I.lnew (t' := s.toks) (r.append r2) (by rw [List.length_append]; omega), rfl, q _ I.fresh⟩
theorem dop_add : DOp X (binaryOp .Add) gAdd := by
  refine .of fun pins s σ H x y v u Q I rx ry ⟨F, a, b, z, e, et, ba, bb, q, k⟩ => ?_
  unfold gAdd at q
  split at q
  · rename_i i j
    cases q
    have h1 : Vp X.kc F x (.int i) := ba
    have h2 : Vp X.kc F y (.int j) := bb
    cases h1; cases h2
    exact op_add pins s σ H _ _ v u Q I rx ry ⟨i, j, rfl, rfl, k F H _ (.refl e) (.int _)⟩
  · rename_i i j
    split at q
    · rename_i c
      cases q
      have h1 : Vp X.kc F x (.str i) := ba
      have h2 : Vp X.kc F y (.str j) := bb
      cases h1; cases h2
      exact op_add_str pins s σ H _ _ v u Q I rx ry ⟨i, j, rfl, rfl, by rw [sizeLine_eq]; exact c, k F H _ (.refl e) (.str _)⟩
    · cases q
  · rename_i xs ys
    split at q
    · rename_i c
      cases q
      have h1 : Vp X.kc F x (.tuple xs) := ba
      have h2 : Vp X.kc F y (.tuple ys) := bb
      cases h1 with
      | tup s1 a1 =>
        cases h2 with
        | tup s2 a2 =>
          refine op_catZ pins s σ H _ _ v u Q I rx ry ⟨_, _, _, _, rfl, rfl, e.t s1.sq, e.t s2.sq, by rw [VpAll.length a1, VpAll.length a2, sizeLine_eq]; exact c, fun z => ?_, fun _ z => ?_, tuT (xs ++ ys), fun p o hp po => ?_⟩
          · subst z; cases a1
            exact k F H _ (.refl e) (.tup s2 a2)
          · subst z; cases a2
            rw [List.append_nil] at k
            exact k F H _ (.refl e) (.tup s1 a1)
          · exact k _ _ _ (.put e hp) (.tup (.inl ⟨o, po, upd_same⟩) (VpAll.app (VpAll.up (FEi.put (e.back hp)) _ _ a1) (VpAll.up (FEi.put (e.back hp)) _ _ a2)))
    · cases q
  · rename_i xs ys
    split at q
    · rename_i c
      cases q
      obtain ⟨p1, vs, rfl, s1, a1⟩ := ba
      obtain ⟨p2, ws, rfl, s2, a2⟩ := bb
      cases rx; cases ry
      refine Inv.catL I s1 s2 (by rw [VpAll.length a1, VpAll.length a2, sizeLine_eq]; exact c) fun p hp => ?_
      have g : Grow F H F (upd H p (.lst (vs ++ ws))) := .lay e hp
      exact k _ _ _ g ⟨p, rfl, hp, e.back hp, et p hp, _, upd_same, VpAll.app a1 a2⟩
    · cases q
  · cases q
theorem hu60 {A : Around} {a b : Nat} (hu : A.units + 64 < cLine) (h : min a b ≤ 60) : A.units + min a b < cLine := by omega
theorem rc_eq {A : Around} {s : Shared} {a b : Value} {x y : D} {as bs : List Addr} (ra : Reads s.heap a x as) (rb : Reads s.heap b y bs) (hx : nod x = true) (hy : nod y = true) (hu : A.units + min x.depth y.depth < cLine) :
    RcAt A s a b (PyData.eqv x y) := by
  have hu' : A.units < cLine := Nat.lt_of_le_of_lt (Nat.le_add_right _ _) hu
  cases ra with
  | none => cases rb with
    | none => rw [PyData.eqv]; exact RcAt.none_none
    | bool c => rw [PyData.eqv]; exact RcAt.none_bool c
    | int c t => rw [PyData.eqv]; exact RcAt.none_int c t
    | str c t => rw [PyData.eqv]; exact RcAt.none_str c t
    | list k1 k2 k3 k4 => rw [PyData.eqv]; exact RcAt.none_list ⟨_, k1, k2, _, k3⟩ hu'
    | tuple k1 k2 k3 k4 => rw [PyData.eqv]; exact RcAt.none_tuple ⟨_, k1, k2, _, k3⟩ hu'
    | dict k1 k2 k3 k4 => cases hy
  | bool i => cases rb with
    | none => rw [PyData.eqv]; exact RcAt.bool_none i
    | bool c => rw [PyData.eqv]; exact RcAt.bool_bool i c
    | int c t => rw [PyData.eqv]; exact RcAt.bool_int i c t
    | str c t => rw [PyData.eqv]; exact RcAt.bool_str i c t
    | list k1 k2 k3 k4 => rw [PyData.eqv]; exact RcAt.bool_list i ⟨_, k1, k2, _, k3⟩ hu'
    | tuple k1 k2 k3 k4 => rw [PyData.eqv]; exact RcAt.bool_tuple i ⟨_, k1, k2, _, k3⟩ hu'
    | dict k1 k2 k3 k4 => cases hy
  | int i u => cases rb with
    | none => rw [PyData.eqv]; exact RcAt.int_none i u
    | bool c => rw [PyData.eqv]; exact RcAt.int_bool i u c
    | int c t => rw [PyData.eqv]; exact RcAt.int_int i u c t
    | str c t => rw [PyData.eqv]; exact RcAt.int_str i u c t
    | list k1 k2 k3 k4 => rw [PyData.eqv]; exact RcAt.int_list i u ⟨_, k1, k2, _, k3⟩ hu'
    | tuple k1 k2 k3 k4 => rw [PyData.eqv]; exact RcAt.int_tuple i u ⟨_, k1, k2, _, k3⟩ hu'
    | dict k1 k2 k3 k4 => cases hy
  | str i u => cases rb with
    | none => rw [PyData.eqv]; exact RcAt.str_none i u
    | bool c => rw [PyData.eqv]; exact RcAt.str_bool i u c
    | int c t => rw [PyData.eqv]; exact RcAt.str_int i u c t
    | str c t => rw [PyData.eqv]; exact RcAt.str_str i u c t
    | list k1 k2 k3 k4 => rw [PyData.eqv]; exact RcAt.str_list i u ⟨_, k1, k2, _, k3⟩ hu'
    | tuple k1 k2 k3 k4 => rw [PyData.eqv]; exact RcAt.str_tuple i u ⟨_, k1, k2, _, k3⟩ hu'
    | dict k1 k2 k3 k4 => cases hy
  | @list l o vs n xs as1 h1 h2 h3 h4 =>
    have hl : s.heap.IsList l vs := ⟨_, h1, h2, _, h3⟩
    cases rb with
    | none => rw [PyData.eqv]; exact RcAt.list_none hl hu'
    | bool c => rw [PyData.eqv]; exact RcAt.list_bool c hl hu'
    | int c t => rw [PyData.eqv]; exact RcAt.list_int c t hl hu'
    | str c t => rw [PyData.eqv]; exact RcAt.list_str c t hl hu'
    | tuple k1 k2 k3 k4 => rw [PyData.eqv]; exact RcAt.list_tuple hl ⟨_, k1, k2, _, k3⟩ hu'
    | dict k1 k2 k3 k4 => cases hy
    | @list l' o' vs' n' ys bs1 k1 k2 k3 k4 =>
      have hl' : s.heap.IsList l' vs' := ⟨_, k1, k2, _, k3⟩
      have nx : nods xs = true := by rw [nod] at hx; exact hx
      have ny : nods ys = true := by rw [nod] at hy; exact hy
      have n1 : vs.size = xs.length := by simpa using ReadsAll.length _ _ _ h4
      have n2 : vs'.size = ys.length := by simpa using ReadsAll.length _ _ _ k4
      rw [PyData.eqv]
      by_cases hs : vs.size = vs'.size
      · have z := eqvAll_same_length (xs := xs) (ys := ys) (by omega)
        rw [← z, ← n1]
        refine RcAt.lists hl hl' hs (room_here hu) fun j j1 j2 => ?_
        have z9 := eq_nods xs ys A.in1 s vs.toList vs'.toList _ _ h4 k4 nx ny (room_in hu) j (by simpa using j1) (by simpa using j2)
        simp only [Array.getElem_toList] at z9
        exact z9
      · have z := eqvAll_other_length (xs := xs) (ys := ys) (by omega)
        rw [z]
        exact RcAt.lists_lengths hl hl' (by simpa using hs) (room_here hu)
  | @tuple l o vs n xs as1 h1 h2 h3 h4 =>
    have hl : s.heap.IsTuple l vs := ⟨_, h1, h2, _, h3⟩
    cases rb with
    | none => rw [PyData.eqv]; exact RcAt.tuple_none hl hu'
    | bool c => rw [PyData.eqv]; exact RcAt.tuple_bool c hl hu'
    | int c t => rw [PyData.eqv]; exact RcAt.tuple_int c t hl hu'
    | str c t => rw [PyData.eqv]; exact RcAt.tuple_str c t hl hu'
    | list k1 k2 k3 k4 => rw [PyData.eqv]; exact RcAt.tuple_list hl ⟨_, k1, k2, _, k3⟩ hu'
    | dict k1 k2 k3 k4 => cases hy
    | @tuple l' o' vs' n' ys bs1 k1 k2 k3 k4 =>
      have hl' : s.heap.IsTuple l' vs' := ⟨_, k1, k2, _, k3⟩
      have nx : nods xs = true := by rw [nod] at hx; exact hx
      have ny : nods ys = true := by rw [nod] at hy; exact hy
      have n1 : vs.size = xs.length := by simpa using ReadsAll.length _ _ _ h4
      have n2 : vs'.size = ys.length := by simpa using ReadsAll.length _ _ _ k4
      rw [PyData.eqv, ← eqvAll_eq xs ys, ← n1, ← n2]
      refine RcAt.tuples hl hl' (room_here hu) fun j j1 j2 => ?_
      have z9 := eq_nods xs ys A.in1 s vs.toList vs'.toList _ _ h4 k4 nx ny (room_in hu) j (by simpa using j1) (by simpa using j2)
      simp only [Array.getElem_toList] at z9
      exact z9
  | dict _ _ _ _ => cases hx
theorem rc_ne {A : Around} {s : Shared} {a b : Value} {x y : D} {as bs : List Addr} (ra : Reads s.heap a x as) (rb : Reads s.heap b y bs) (hx : nod x = true) (hy : nod y = true) (hu : A.units + min x.depth y.depth < cLine) :
    RcNeAt A s a b (!PyData.eqv x y) := by
  have hu' : A.units < cLine := Nat.lt_of_le_of_lt (Nat.le_add_right _ _) hu
  cases ra with
  | none => cases rb with
    | none => rw [PyData.eqv]; exact RcNeAt.none_none
    | bool c => rw [PyData.eqv]; exact RcNeAt.none_bool c
    | int c t => rw [PyData.eqv]; exact RcNeAt.none_int c t
    | str c t => rw [PyData.eqv]; exact RcNeAt.none_str c t
    | list k1 k2 k3 k4 => rw [PyData.eqv]; exact RcNeAt.none_list ⟨_, k1, k2, _, k3⟩ hu'
    | tuple k1 k2 k3 k4 => rw [PyData.eqv]; exact RcNeAt.none_tuple ⟨_, k1, k2, _, k3⟩ hu'
    | dict k1 k2 k3 k4 => cases hy
  | bool i => cases rb with
    | none => rw [PyData.eqv]; exact RcNeAt.bool_none i
    | bool c => rw [PyData.eqv]; exact RcNeAt.bool_bool i c
    | int c t => rw [PyData.eqv]; exact RcNeAt.bool_int i c t
    | str c t => rw [PyData.eqv]; exact RcNeAt.bool_str i c t
    | list k1 k2 k3 k4 => rw [PyData.eqv]; exact RcNeAt.bool_list i ⟨_, k1, k2, _, k3⟩ hu'
    | tuple k1 k2 k3 k4 => rw [PyData.eqv]; exact RcNeAt.bool_tuple i ⟨_, k1, k2, _, k3⟩ hu'
    | dict k1 k2 k3 k4 => cases hy
  | int i u => cases rb with
    | none => rw [PyData.eqv]; exact RcNeAt.int_none i u
    | bool c => rw [PyData.eqv]; exact RcNeAt.int_bool i u c
    | int c t => rw [PyData.eqv]; exact RcNeAt.int_int i u c t
    | str c t => rw [PyData.eqv]; exact RcNeAt.int_str i u c t
    | list k1 k2 k3 k4 => rw [PyData.eqv]; exact RcNeAt.int_list i u ⟨_, k1, k2, _, k3⟩ hu'
    | tuple k1 k2 k3 k4 => rw [PyData.eqv]; exact RcNeAt.int_tuple i u ⟨_, k1, k2, _, k3⟩ hu'
    | dict k1 k2 k3 k4 => cases hy
  | str i u => cases rb with
    | none => rw [PyData.eqv]; exact RcNeAt.str_none i u
    | bool c => rw [PyData.eqv]; exact RcNeAt.str_bool i u c
    | int c t => rw [PyData.eqv]; exact RcNeAt.str_int i u c t
    | str c t => rw [PyData.eqv]; exact RcNeAt.str_str i u c t
    | list k1 k2 k3 k4 => rw [PyData.eqv]; exact RcNeAt.str_list i u ⟨_, k1, k2, _, k3⟩ hu'
    | tuple k1 k2 k3 k4 => rw [PyData.eqv]; exact RcNeAt.str_tuple i u ⟨_, k1, k2, _, k3⟩ hu'
    | dict k1 k2 k3 k4 => cases hy
  | @list l o vs n xs as1 h1 h2 h3 h4 =>
    have hl : s.heap.IsList l vs := ⟨_, h1, h2, _, h3⟩
    cases rb with
    | none => rw [PyData.eqv]; exact RcNeAt.list_none hl hu'
    | bool c => rw [PyData.eqv]; exact RcNeAt.list_bool c hl hu'
    | int c t => rw [PyData.eqv]; exact RcNeAt.list_int c t hl hu'
    | str c t => rw [PyData.eqv]; exact RcNeAt.list_str c t hl hu'
    | tuple k1 k2 k3 k4 => rw [PyData.eqv]; exact RcNeAt.list_tuple hl ⟨_, k1, k2, _, k3⟩ hu'
    | dict k1 k2 k3 k4 => cases hy
    | @list l' o' vs' n' ys bs1 k1 k2 k3 k4 =>
      have hl' : s.heap.IsList l' vs' := ⟨_, k1, k2, _, k3⟩
      have nx : nods xs = true := by rw [nod] at hx; exact hx
      have ny : nods ys = true := by rw [nod] at hy; exact hy
      have n1 : vs.size = xs.length := by simpa using ReadsAll.length _ _ _ h4
      have n2 : vs'.size = ys.length := by simpa using ReadsAll.length _ _ _ k4
      rw [PyData.eqv]
      by_cases hs : vs.size = vs'.size
      · have z := eqvAll_same_length (xs := xs) (ys := ys) (by omega)
        rw [← z, ← n1]
        refine RcNeAt.lists hl hl' hs (room_here hu) fun j j1 j2 => ?_
        have z9 := eq_nods xs ys A.in1 s vs.toList vs'.toList _ _ h4 k4 nx ny (room_in hu) j (by simpa using j1) (by simpa using j2)
        simp only [Array.getElem_toList] at z9
        exact z9
      · have z := eqvAll_other_length (xs := xs) (ys := ys) (by omega)
        rw [z]
        exact RcNeAt.lists_lengths hl hl' (by simpa using hs) (room_here hu)
  | @tuple l o vs n xs as1 h1 h2 h3 h4 =>
    have hl : s.heap.IsTuple l vs := ⟨_, h1, h2, _, h3⟩
    cases rb with
    | none => rw [PyData.eqv]; exact RcNeAt.tuple_none hl hu'
    | bool c => rw [PyData.eqv]; exact RcNeAt.tuple_bool c hl hu'
    | int c t => rw [PyData.eqv]; exact RcNeAt.tuple_int c t hl hu'
    | str c t => rw [PyData.eqv]; exact RcNeAt.tuple_str c t hl hu'
    | list k1 k2 k3 k4 => rw [PyData.eqv]; exact RcNeAt.tuple_list hl ⟨_, k1, k2, _, k3⟩ hu'
    | dict k1 k2 k3 k4 => cases hy
    | @tuple l' o' vs' n' ys bs1 k1 k2 k3 k4 =>
      have hl' : s.heap.IsTuple l' vs' := ⟨_, k1, k2, _, k3⟩
      have nx : nods xs = true := by rw [nod] at hx; exact hx
      have ny : nods ys = true := by rw [nod] at hy; exact hy
      have n1 : vs.size = xs.length := by simpa using ReadsAll.length _ _ _ h4
      have n2 : vs'.size = ys.length := by simpa using ReadsAll.length _ _ _ k4
      rw [PyData.eqv, ← eqvAll_eq xs ys, ← n1, ← n2]
      refine RcNeAt.tuples hl hl' (room_here hu) fun j j1 j2 => ?_
      have z9 := eq_nods xs ys A.in1 s vs.toList vs'.toList _ _ h4 k4 nx ny (room_in hu) j (by simpa using j1) (by simpa using j2)
      simp only [Array.getElem_toList] at z9
      exact z9
  | dict _ _ _ _ => cases hx
theorem shB_ret {K : KC} {H0 : Hp} {F : Fz} {H : Hp} {b : Bool} {z : Res} (h : shB b = some z) : RetOk K H0 F H (.bl b) z := by
  cases h
  exact .bl b
theorem dop_eq (hu : X.A.units + 64 < cLine) : DOp X (compareOp .Eq) gEq := by
  refine .of fun pins s σ H x y v u Q I rx ry ⟨F, a, b, z, e, et, ba, bb, q, k⟩ => ?_
  unfold gEq at q
  split at q
  · rename_i dx dy
    split at q
    · rename_i c
      obtain ⟨c, c1, c2⟩ := shallow_ok c
      have da := ba.dp e c1
      have db := bb.dp e c2
      obtain ⟨as, r1⟩ := Dp.reads I dx x v da rx
      obtain ⟨bs, r2⟩ := Dp.reads I dy y u db ry
      exact rc_eq r1 r2 (dp_nod _ _ da) (dp_nod _ _ db) (hu60 hu c) _ _ _ _ ⟨.bl _, H, I, rfl, k F H _ (.refl e) (shB_ret q)⟩
    · cases q
  · cases q
theorem dop_ne (hu : X.A.units + 64 < cLine) : DOp X (compareOp .NotEq) gNe := by
  refine .of fun pins s σ H x y v u Q I rx ry ⟨F, a, b, z, e, et, ba, bb, q, k⟩ => ?_
  unfold gNe at q
  split at q
  · rename_i dx dy
    split at q
    · rename_i c
      obtain ⟨c, c1, c2⟩ := shallow_ok c
      have da := ba.dp e c1
      have db := bb.dp e c2
      obtain ⟨as, r1⟩ := Dp.reads I dx x v da rx
      obtain ⟨bs, r2⟩ := Dp.reads I dy y u db ry
      exact rc_ne r1 r2 (dp_nod _ _ da) (dp_nod _ _ db) (hu60 hu c) _ _ _ _ ⟨.bl _, H, I, rfl, k F H _ (.refl e) (shB_ret q)⟩
    · cases q
  · cases q
end
def O4.op : O4 → CmpOp
  | .lt => .Lt
  | .le => .LtE
  | .gt => .Gt
  | .ge => .GtE
theorem rc_ints (o : O4) {A : Around} {s : Shared} (a b : Int) (t u : Tok) : Ob.RcOp o.op A s (.int a t) (.int b u) (o.int a b) := by
  cases o
  · exact Ob.RcOp.lt_int a b t u
  · exact Ob.RcOp.le_int a b t u
  · exact Ob.RcOp.gt_int a b t u
  · exact Ob.RcOp.ge_int a b t u
theorem rc_strs (o : O4) {A : Around} {s : Shared} (a b : Str) (t u : Tok) : Ob.RcOp o.op A s (.str a t) (.str b u) (o.tx a.cps.toList b.cps.toList) := by
  cases o
  · exact fun prog w E Q h => lt_str h
  · exact fun prog w E Q h => PySem.P.le_str h
  · exact fun prog w E Q h => PySem.P.gt_str h
  · exact fun prog w E Q h => PySem.P.ge_str h
theorem rc_tups (o : O4) {A : Around} {s : Shared} {l b : Addr} {vs ws : Array Value} {e r : Nat → Bool} (hl : s.heap.IsTuple l vs) (hb : s.heap.IsTuple b ws) (hu : A.units < cLine) (he : ∀ j (h1 : j < vs.size) (h2 : j < ws.size), EqAt A.in1 s vs[j] ws[j] (e j))
    (hr : ∀ j (h1 : j < vs.size) (h2 : j < ws.size), e j = false → Ob.RcOp o.op A.in1 s vs[j] ws[j] (r j)) : Ob.RcOp o.op A s (.ref l) (.ref b) (Ob.lexAt e r (o.len vs.size ws.size) 0 (min vs.size ws.size)) := by
  cases o
  · exact Ob.RcOp.tuples_lt hl hb hu he hr
  · exact Ob.RcOp.tuples_le hl hb hu he hr
  · exact Ob.RcOp.tuples_gt hl hb hu he hr
  · exact Ob.RcOp.tuples_ge hl hb hu he hr
theorem lex_shift {e r : Nat → Bool} {z : Bool} : ∀ k i, Ob.lexAt e r z (i + 1) k = Ob.lexAt (fun j => e (j + 1)) (fun j => r (j + 1)) z i k
  | 0, i => rfl
  | k + 1, i => by
    rw [Ob.lexAt_succ, Ob.lexAt_succ, lex_shift k (i + 1)]
theorem len_succ (o : O4) (m n : Nat) : o.len (m + 1) (n + 1) = o.len m n := by
  cases o <;> simp [O4.len]
theorem lex_cmp (o : O4) : ∀ (xs ys : List D) (v : Bool), cmpDs o xs ys = some v → Ob.lexAt (pairEq xs ys) (fun j => (cmpD o (xs.getD j .none) (ys.getD j .none)).getD false) (o.len xs.length ys.length) 0 (min xs.length ys.length) = v
  | [], ys, v, h => by
    simp only [cmpDs] at h
    cases h
    simp [Ob.lexAt_zero]
  | x :: xs, [], v, h => by
    simp only [cmpDs] at h
    cases h
    simp [Ob.lexAt_zero]
  | x :: xs, y :: ys, v, h => by
    have e : min (x :: xs).length (y :: ys).length = min xs.length ys.length + 1 := by rw [List.length_cons, List.length_cons]; omega
    rw [e, Ob.lexAt_succ, lex_shift]
    simp only [List.length_cons, len_succ]
    rw [cmpDs] at h
    show (if PyData.eqv x y = true then _ else _) = v
    by_cases c : PyData.eqv x y = true
    · rw [if_pos c] at h ⊢
      exact lex_cmp o xs ys v h
    · rw [if_neg c] at h ⊢
      simp only [Option.bind_eq_some_iff] at h
      obtain ⟨w, h1, _, _, h3⟩ := h
      cases h3
      show (cmpD o x y).getD false = v
      rw [h1]; rfl
mutual
theorem rc_cmp (o : O4) : ∀ (x y : D) (A : Around) (s : Shared) (a b : Value) (as bs : List Addr) (v : Bool), Reads s.heap a x as → Reads s.heap b y bs → nod x = true → nod y = true → cmpD o x y = some v → A.units + min x.depth y.depth < cLine → Ob.RcOp o.op A s a b v
  | .int i, y, A, s, a, b, as, bs, v, ra, rb, hx, hy, h, hu => by
    cases y with
    | int j =>
      simp only [cmpD] at h
      cases h
      cases ra; cases rb
      exact rc_ints o _ _ _ _
    | _ => simp [cmpD] at h
  | .str i, y, A, s, a, b, as, bs, v, ra, rb, hx, hy, h, hu => by
    cases y with
    | str j =>
      simp only [cmpD] at h
      cases h
      cases ra; cases rb
      exact rc_strs o _ _ _ _
    | _ => simp [cmpD] at h
  | .tuple xs, y, A, s, a, b, as, bs, v, ra, rb, hx, hy, h, hu => by
    cases y with
    | tuple ys =>
      simp only [cmpD] at h
      cases ra with
      | @tuple l ob vs n _ as1 h1 h2 h3 h4 =>
        cases rb with
        | @tuple l' ob' vs' n' _ bs1 k1 k2 k3 k4 =>
          have hl : s.heap.IsTuple l vs := ⟨_, h1, h2, _, h3⟩
          have hl' : s.heap.IsTuple l' vs' := ⟨_, k1, k2, _, k3⟩
          have nx : nods xs = true := by rw [nod] at hx; exact hx
          have ny : nods ys = true := by rw [nod] at hy; exact hy
          have n1 : vs.size = xs.length := by simpa using ReadsAll.length _ _ _ h4
          have n2 : vs'.size = ys.length := by simpa using ReadsAll.length _ _ _ k4
          rw [← lex_cmp o xs ys v h, ← n1, ← n2]
          refine rc_tups o hl hl' (room_here hu) (fun j j1 j2 => ?_) (fun j j1 j2 e => ?_)
          · have z9 := eq_nods xs ys A.in1 s vs.toList vs'.toList _ _ h4 k4 nx ny (room_in hu) j (by simpa using j1) (by simpa using j2)
            simp only [Array.getElem_toList] at z9
            exact z9
          · have z9 := rc_cmps o xs ys A.in1 s vs.toList vs'.toList _ _ v h4 k4 nx ny h (room_in hu) j (by simpa using j1) (by simpa using j2) e
            simp only [Array.getElem_toList] at z9
            exact z9
    | _ => simp [cmpD] at h
  | .none, y, _, _, _, _, _, _, _, _, _, _, _, h, _ => by cases y <;> simp [cmpD] at h
  | .bool _, y, _, _, _, _, _, _, _, _, _, _, _, h, _ => by cases y <;> simp [cmpD] at h
  | .list _, y, _, _, _, _, _, _, _, _, _, _, _, h, _ => by cases y <;> simp [cmpD] at h
  | .dict _, y, _, _, _, _, _, _, _, _, _, _, _, h, _ => by cases y <;> simp [cmpD] at h
theorem rc_cmps (o : O4) : ∀ (xs ys : List D) (A : Around) (s : Shared) (vs ws : List Value) (as bs : List Addr) (v : Bool), ReadsAll s.heap vs xs as → ReadsAll s.heap ws ys bs → nods xs = true → nods ys = true → cmpDs o xs ys = some v →
    A.units + min (PyData.depthAll xs) (PyData.depthAll ys) < cLine → ∀ j (h1 : j < vs.length) (h2 : j < ws.length), pairEq xs ys j = false → Ob.RcOp o.op A s vs[j] ws[j] ((cmpD o (xs.getD j .none) (ys.getD j .none)).getD false)
  | [], _, _, _, _, _, _, _, _, ra, _, _, _, _, _, j, h1, _, _ => by cases ra; exact absurd h1 (Nat.not_lt_zero _)
  | _ :: _, [], _, _, _, _, _, _, _, _, rb, _, _, _, _, j, _, h2, _ => by cases rb; exact absurd h2 (Nat.not_lt_zero _)
  | x :: xs, y :: ys, A, s, _, _, _, _, v, ra, rb, hx, hy, h, hu, j, h1, h2, e => by
    cases ra with
    | cons r rs =>
      cases rb with
      | cons r' rs' =>
        rw [cmpDs] at h
        cases j with
        | zero =>
          have e' : PyData.eqv x y = false := e
          rw [if_neg (by rw [e']; exact Bool.false_ne_true)] at h
          simp only [Option.bind_eq_some_iff] at h
          obtain ⟨w, g1, _, _, _⟩ := h
          have z := rc_cmp o x y A s _ _ _ _ w r r' (nods_cons hx).1 (nods_cons hy).1 g1 (room_head hu)
          show Ob.RcOp o.op A s _ _ ((cmpD o x y).getD false)
          rw [g1]; exact z
        | succ j =>
          have g : ∃ w, cmpDs o xs ys = some w := by
            by_cases c : PyData.eqv x y = true
            · rw [if_pos c] at h; exact ⟨_, h⟩
            · rw [if_neg c] at h
              simp only [Option.bind_eq_some_iff] at h
              obtain ⟨_, _, w, g1, _⟩ := h
              exact ⟨w, g1⟩
          obtain ⟨w, g⟩ := g
          exact rc_cmps o xs ys A s _ _ _ _ w rs rs' (nods_cons hx).2 (nods_cons hy).2 g (room_tail hu) j (Nat.lt_of_succ_lt_succ h1) (Nat.lt_of_succ_lt_succ h2) e
end
section
variable {X : Cx}
theorem dop_cmp (o : O4) (hu : X.A.units + 64 < cLine) : DOp X (compareOp o.op) (gCmp o) := by
  refine .of fun pins s σ H x y v u Q I rx ry ⟨F, a, b, z, e, et, ba, bb, q, k⟩ => ?_
  unfold gCmp at q
  split at q
  · rename_i dx dy
    split at q
    · rename_i c
      simp only [Option.bind_eq_some_iff] at q
      obtain ⟨w, q1, q2⟩ := q
      obtain ⟨c, c1, c2⟩ := shallow_ok c
      have da := ba.dp e c1
      have db := bb.dp e c2
      obtain ⟨as, r1⟩ := Dp.reads I dx x v da rx
      obtain ⟨bs, r2⟩ := Dp.reads I dy y u db ry
      have rc := rc_cmp o dx dy X.A s v u as bs w r1 r2 (dp_nod _ _ da) (dp_nod _ _ db) q1 (hu60 hu c) X.prog X.w X.xe (EP X pins σ Q) ⟨.bl _, H, I, rfl, k F H _ (.refl e) (shB_ret q2)⟩
      cases o <;> exact rc
    · cases q
  · cases q
theorem dop_lt (hu : X.A.units + 64 < cLine) : DOp X (compareOp .Lt) (gCmp .lt) := dop_cmp .lt hu
theorem dop_le (hu : X.A.units + 64 < cLine) : DOp X (compareOp .LtE) (gCmp .le) := dop_cmp .le hu
theorem dop_gt (hu : X.A.units + 64 < cLine) : DOp X (compareOp .Gt) (gCmp .gt) := dop_cmp .gt hu
theorem Bd.is_non {K : KC} {F : Fz} {H : Hp} {x : V} {c : C} (h : Bd K F H x c) : decide (x = .non) = isNonC c := by
  cases c with
  | d y =>
    cases y with
    | none => have h : Vp K F x .none := h; cases h; rfl
    | list ds => obtain ⟨p, _, rfl, _⟩ := h; rfl
    | bool b => have h : Vp K F x (.bool b) := h; cases h; rfl
    | int b => have h : Vp K F x (.int b) := h; cases h; rfl
    | str b => have h : Vp K F x (.str b) := h; cases h; rfl
    | tuple b => have h : Vp K F x (.tuple b) := h; cases h; rfl
    | dict b => have h : Vp K F x (.dict b) := h; cases h <;> rfl
  | dk _ => obtain ⟨p, _, rfl, _⟩ := h; rfl
  | dt _ => obtain ⟨p, _, rfl, _⟩ := h; rfl
  | dn _ => obtain ⟨p, _, rfl, _⟩ := h; rfl
theorem dop_isN : DOp X (compareOp .Is) gIsN := by
  refine .of fun pins s σ H x y v u Q I rx ry ⟨F, a, b, z, e, et, ba, bb, q, k⟩ => ?_
  unfold gIsN at q
  split at q
  · have h2 : Vp X.kc F y .none := bb
    cases h2
    refine op_isN pins s σ H x .non v u Q I rx ry ⟨rfl, ?_⟩
    rw [ba.is_non]
    exact k F H _ (.refl e) (shB_ret q)
  · cases q
end
end CM
end
section
set_option Elab.async false
set_option linter.all false
set_option maxRecDepth 100000
set_option autoImplicit false
namespace CM
open PySem PySem.Spec PyProof.Rows L2 PySem.SeqAt

theorem sz_ok {n : Nat} (h : n ≤ 16777216) : n ≤ sizeLine := by rw [sizeLine_eq]; exact h
section
variable {X : Cx}
open Classical in
noncomputable def readOf (h : Heap) (w : Value) : D := if x : ∃ y : D, nod y = true ∧ ∃ as, Reads h w y as then Classical.choose x else .none
theorem readOf_eq {h : Heap} {w : Value} {y : D} {as : List Addr} (hn : nod y = true) (r : Reads h w y as) : readOf h w = y := by
  have x : ∃ y : D, nod y = true ∧ ∃ as, Reads h w y as := ⟨y, hn, as, r⟩
  unfold readOf
  rw [dif_pos x]
  obtain ⟨g1, bs, g2⟩ := Classical.choose_spec x
  exact rd_one _ _ _ _ _ g1 g2 r
theorem shallowAll_ok {x : D} {ys : List D} (h : shallowAll x ys = true) : nod x = true ∧ nods ys = true := by
  unfold shallowAll at h
  rw [Bool.and_eq_true] at h
  obtain ⟨h1, h2⟩ := h
  refine ⟨h1, ?_⟩
  induction ys with
  | nil => rfl
  | cons y ys ih =>
    rw [List.all_cons, Bool.and_eq_true] at h2
    unfold nods
    rw [(shallow_ok h2.1).2.1, ih h2.2]
    rfl
theorem in_each {H : Hp} {pins : List (Addr × Obj)} {σ : L2.St} {s : Shared} (I : Inv X pins σ H s) {x : V} {v : Value} {d : D} (rx : RelV x v) (dx : Dp X.K H x d) (hu : X.A.units + 64 < cLine) :
    ∀ {ys : List D} {vs : List V} {us : List Value}, DpAll X.K H vs ys → Vals vs us → shallowAll d ys = true → (∀ w ∈ us, EqAt X.A.in1 s w v (PyData.eqv (readOf s.heap w) d)) ∧ us.any (fun w => PyData.eqv (readOf s.heap w) d) = inDs d ys
  | [], _, _, h, r, _ => by
    cases h; cases r
    exact ⟨fun w hw => by simp at hw, rfl⟩
  | y :: ys, _, _, h, r, c => by
    cases h with
    | cons h1 h2 =>
      cases r with
      | @cons _ u _ us r1 r2 =>
        have c' : shallow y d = true ∧ shallowAll d ys = true := by
          unfold shallowAll at c ⊢
          rw [List.all_cons, Bool.and_eq_true, Bool.and_eq_true] at c
          rw [Bool.and_eq_true]
          exact ⟨c.2.1, c.1, c.2.2⟩
        obtain ⟨he, hs⟩ := in_each I rx dx hu h2 r2 c'.2
        obtain ⟨as, ra⟩ := Dp.reads I y _ u h1 r1
        obtain ⟨bs, rb⟩ := Dp.reads I d x v dx rx
        have hq : EqAt X.A.in1 s u v (PyData.eqv y d) := eq_nod y d X.A.in1 s u v as bs ra rb (dp_nod _ _ h1) (dp_nod _ _ dx) (by
          have z := (shallow_ok c'.1).1
          show X.A.units + 1 + min y.depth d.depth < cLine
          omega)
        have hy := readOf_eq (dp_nod _ _ h1) ra
        refine ⟨fun w hw => ?_, ?_⟩
        · rcases List.mem_cons.mp hw with z | z
          · subst z; rw [hy]; exact hq
          · exact he w z
        · rw [List.any_cons, hs, hy]; rfl
theorem dop_in (hu : X.A.units + 64 < cLine) : DOp X (compareOp .In) gIn := by
  refine .of fun pins s σ H x y v u Q I rx ry ⟨F, a, b, z, e, et, ba, bb, q, k⟩ => ?_
  unfold gIn at q
  split at q
  · rename_i d ys
    split at q
    · rename_i c
      obtain ⟨c1, c2⟩ := shallowAll_ok c
      have da := ba.dp e c1
      obtain ⟨p, vs, rfl, hs, dd⟩ := bb
      cases ry
      obtain ⟨its, r, pl, hz⟩ := I.list hs
      obtain ⟨h1, h2⟩ := in_each I rx da hu (VpAll.dp e _ _ dd c2) r c
      refine in_listAt (fun w => PyData.eqv (readOf s.heap w) _) pl.isList (fun w hw => h1 w (by simpa using hw)) ⟨.bl _, H, I, rfl, ?_⟩
      rw [List.any_toArray, h2]
      exact k F H _ (.refl e) (shB_ret q)
    · cases q
  · rename_i d ys
    split at q
    · rename_i c
      obtain ⟨c1, c2⟩ := shallowAll_ok c
      have da := ba.dp e c1
      have db := bb.dp e (by unfold nod; exact c2)
      cases db with
      | tup hs dd =>
        cases ry
        obtain ⟨its, r, pl, hz⟩ := I.tuple hs
        obtain ⟨h1, h2⟩ := in_each I rx da hu dd r c
        refine in_tupleAt (fun w => PyData.eqv (readOf s.heap w) _) pl (fun w hw => h1 w (by simpa using hw)) ⟨.bl _, H, I, rfl, ?_⟩
        rw [List.any_toArray, h2]
        exact k F H _ (.refl e) (shB_ret q)
    · cases q
  · cases q
theorem dop_notIn (hu : X.A.units + 64 < cLine) : DOp X (compareOp .NotIn) gNotIn := by
  refine .of fun pins s σ H x y v u Q I rx ry ⟨F, a, b, z, e, et, ba, bb, q, k⟩ => ?_
  unfold gNotIn at q
  split at q
  · rename_i d ys
    split at q
    · rename_i c
      obtain ⟨c1, c2⟩ := shallowAll_ok c
      have da := ba.dp e c1
      obtain ⟨p, vs, rfl, hs, dd⟩ := bb
      cases ry
      obtain ⟨its, r, pl, hz⟩ := I.list hs
      obtain ⟨h1, h2⟩ := in_each I rx da hu (VpAll.dp e _ _ dd c2) r c
      refine notIn_listAt (fun w => PyData.eqv (readOf s.heap w) _) pl.isList (fun w hw => h1 w (by simpa using hw)) ⟨.bl _, H, I, rfl, ?_⟩
      rw [List.any_toArray, h2]
      exact k F H _ (.refl e) (shB_ret q)
    · cases q
  · rename_i d ys
    split at q
    · rename_i c
      obtain ⟨c1, c2⟩ := shallowAll_ok c
      have da := ba.dp e c1
      have db := bb.dp e (by unfold nod; exact c2)
      cases db with
      | tup hs dd =>
        cases ry
        obtain ⟨its, r, pl, hz⟩ := I.tuple hs
        obtain ⟨h1, h2⟩ := in_each I rx da hu dd r c
        refine notIn_tupleAt (fun w => PyData.eqv (readOf s.heap w) _) pl (fun w hw => h1 w (by simpa using hw)) ⟨.bl _, H, I, rfl, ?_⟩
        rw [List.any_toArray, h2]
        exact k F H _ (.refl e) (shB_ret q)
    · cases q
  · cases q

theorem plc_eq (n : Nat) (i : Int) : plc n i = ixN n i := rfl
theorem at_of {α β : Type} {xs : List α} {ys : List β} {i : Int} {y : β} (h : atD ys i = some y) (hl : xs.length = ys.length) : ∃ j : Nat, ys[j]? = some y ∧ ∀ x, xs[j]? = some x → atI xs i = some x := by
  unfold atD at h
  simp only [Option.bind_eq_some_iff] at h
  obtain ⟨j, h1, h2⟩ := h
  refine ⟨j, h2, fun x hx => ?_⟩
  unfold atI
  rw [hl, ← plc_eq, h1]
  exact hx
theorem dix : DIx X gIx := by
  refine .of fun value slice pins s σ H x y v u Q I rx ry ⟨F, a, b, z, e, et, ba, bb, q, k⟩ hs => ?_
  unfold gIx at q
  split at q
  · rename_i ds i
    simp only [Option.bind_eq_some_iff] at q
    obtain ⟨d, q1, q2⟩ := q
    cases q2
    obtain ⟨p, vs, rfl, sq, dd⟩ := ba
    have h2 : Vp X.kc F y (.int i) := bb
    cases h2
    obtain ⟨j, g1, g2⟩ := at_of q1 (VpAll.length dd)
    obtain ⟨w, g3, g4⟩ := VpAll.get dd g1
    exact ix_list value slice pins s σ H _ _ v u Q I rx ry ⟨p, vs, i, w, rfl, rfl, sq, g2 w g3, k F H w (.refl e) g4⟩ hs
  · rename_i ds i
    simp only [Option.bind_eq_some_iff] at q
    obtain ⟨d, q1, q2⟩ := q
    cases q2
    have h1 : Vp X.kc F x (.tuple ds) := ba
    have h2 : Vp X.kc F y (.int i) := bb
    cases h2
    cases h1 with
    | tup sq dd =>
      obtain ⟨j, g1, g2⟩ := at_of q1 (VpAll.length dd)
      obtain ⟨w, g3, g4⟩ := VpAll.get dd g1
      exact ix_tup value slice pins s σ H _ _ v u Q I rx ry ⟨_, _, i, w, rfl, rfl, e.t sq.sq, g2 w g3, k F H w (.refl e) g4⟩ hs
  · rename_i t i
    split at q
    · rename_i c
      simp only [Option.bind_eq_some_iff] at q
      obtain ⟨d, q1, q2⟩ := q
      cases q2
      have h1 : Vp X.kc F x (.str t) := ba
      have h2 : Vp X.kc F y (.int i) := bb
      cases h1; cases h2
      obtain ⟨j, g1, g2⟩ := at_of (xs := t.cps.toList) q1 rfl
      exact ix_str value slice pins s σ H _ _ v u Q I rx ry ⟨t, i, d, rfl, rfl, sz_ok c, g2 d g1, k F H _ (.refl e) (.str _)⟩ hs
    · cases q
  · cases q

def RPart (K : KC) (qb : Bool) (t : TO) (f : Option EF) : Prop := ∀ (B H0 F0 : Hp) (F : Fz) (H : Hp) (σ : L2.St) (r : Env) (o : Option Int) (r' : Env), ePart f r = some (o, r') → J K B H0 F0 F H σ r →
  ∀ Q : Option Int → Hp → Prop, (∀ F' H', Ge qb F H r F' H' r' → J K B H0 F0 F' H' σ r' → Q o H') → t σ H Q
structure DPart (X : Cx) (qb : Bool) (e : Option Expr) (f : Option EF) : Prop where
  ex : ∃ t, PO X e t ∧ RPart X.kc qb t f
theorem dpart_none : DPart X true none none := ⟨_, po_none, fun B H0 F0 F H σ r o r' q j Q k => by cases q; exact k F H .refl j⟩
theorem dpart_some {e : Expr} {f : EF} {qb : Bool} (h : DE X qb e f) : DPart X qb (some e) (some f) := by
  obtain ⟨t, a1, a2⟩ := h.ex
  refine ⟨_, po_some a1, fun B H0 F0 F H σ r o r' q j Q k => ?_⟩
  simp only [ePart, Option.bind_eq_some_iff] at q
  obtain ⟨⟨z, r1⟩, q1, q2⟩ := q
  dsimp only at q2
  split at q2
  · rename_i i hi
    cases q2
    refine a2 _ _ _ _ _ _ _ _ _ q1 j _ fun F1 H1 v e1 j1 k1 => ?_
    have h1 : Vp X.kc F1 v (.int i) := k1.look j1 hi
    cases h1
    exact ⟨i, rfl, k F1 H1 e1 j1⟩
  · cases q2
theorem cut_eq {α : Type} (xs : List α) (lo hi : Option Int) : cutL xs lo hi = (xs.drop (HT.sIx xs.length 0 lo)).take (HT.sIx xs.length xs.length hi - HT.sIx xs.length 0 lo) := by
  unfold cutL
  have g : ∀ n d o, cutAt n d o = HT.sIx n d o := fun n d o => by cases o <;> rfl
  rw [g, g]
theorem cut_dp {K : KC} {F : Fz} {xs : List V} {ds : List D} (h : VpAll K F xs ds) (lo hi : Option Int) : VpAll K F (cutV xs lo hi) (cutL ds lo hi) := by
  rw [cut_eq]
  unfold cutV
  rw [VpAll.length h]
  exact VpAll.take _ (VpAll.drop _ h)
theorem slr : SlR X (fun x lo hi H Q => ∃ (F : Fz) (a : C) (z : Res), Ex F.f H ∧ (∀ p, H p = none → F.t p = none) ∧ Bd X.kc F H x a ∧ gSl a lo hi = some z ∧ ∀ F' H' v, Grow F H F' H' → RetOk X.kc H F' H' v z → Q v H') := by
  intro pins s σ H x v vl vu lo hi sl Q I rx hs pl pu ⟨F, a, z, e, et, ba, q, k⟩
  unfold gSl at q
  split at q
  · rename_i ds
    cases q
    obtain ⟨p, vs, rfl, sq, dd⟩ := ba
    exact sl_list pins s σ H _ v vl vu lo hi sl Q I rx hs pl pu ⟨p, vs, rfl, sq, fun l hl => k F _ _ (.lay e hl) ⟨l, rfl, hl, e.back hl, et l hl, _, upd_same, cut_dp dd lo hi⟩⟩
  · rename_i ds
    cases q
    have h1 : Vp X.kc F x (.tuple ds) := ba
    cases h1 with
    | tup sq dd =>
      refine sl_tupZ pins s σ H _ v vl vu lo hi sl Q I rx hs pl pu ⟨_, _, rfl, e.t sq.sq, fun ⟨w1, w2⟩ => ?_, tuT (cutL ds lo hi), fun p o hp po => ?_⟩
      · have c : cutL ds lo hi = ds := by
          rw [cut_eq, ← VpAll.length dd, w1, w2, VpAll.length dd]
          simp
        rw [c] at k
        exact k F H _ (.refl e) (.tup sq dd)
      · exact k _ _ _ (.put e hp) (.tup (.inl ⟨o, po, upd_same⟩) (VpAll.up (FEi.put (e.back hp)) _ _ (cut_dp dd lo hi)))
  · rename_i t
    split at q
    · rename_i c
      cases q
      have h1 : Vp X.kc F x (.str t) := ba
      cases h1
      refine sl_str pins s σ H _ v vl vu lo hi sl Q I rx hs pl pu ⟨t, rfl, sz_ok c, ?_⟩
      have ce : cutS t lo hi = ⟨(cutL t.cps.toList lo hi).toArray⟩ := by
        rw [cut_eq]; rfl
      rw [ce]
      exact k F H _ (.refl e) (.str _)
    · cases q
  · cases q
theorem de_slice {a : Expr} {lo hi : Option Expr} {fa : EF} {fl fh : Option EF} {p2 pos : Pos} {q1 q2 q3 : Bool} (ha : DE X q1 a fa) (hl : DPart X q2 lo fl) (hh : DPart X q3 hi fh) : DE X (q1 && q2 && q3) (.Subscript a (.Slice lo hi none p2) pos) (eSl fa fl fh) := by
  obtain ⟨t, a1, a2⟩ := ha.ex
  obtain ⟨tl, b1, b2⟩ := hl.ex
  obtain ⟨th, c1, c2⟩ := hh.ex
  refine ⟨_, pe_slice slr a1 b1 c1, fun B H0 F0 F H σ r z r' q j Q k => ?_⟩
  simp only [eSl, Option.bind_eq_some_iff] at q
  obtain ⟨⟨za, r1⟩, q1, za', q2, ⟨l, r2⟩, q3, ⟨h, r3⟩, q4, c, q5, w, q6, q7⟩ := q
  cases q7
  refine a2 _ _ _ _ _ _ _ _ _ q1 j _ fun F1 H1 x e1 j1 k1 => ?_
  obtain ⟨F2, e2, j2, k2⟩ := settle_ok q2 j1 k1
  refine b2 _ _ _ _ _ _ _ _ _ q3 j2 _ fun F3 H3 e3 j3 => ?_
  refine c2 _ _ _ _ _ _ _ _ _ q4 j3 _ fun F4 H4 e4 j4 => ?_
  refine ⟨F4, c, z, j4.fh, j4.tagged, (k2.later (settle_still q2) (e3.f.trans e4.f)).look j4 q5, q6, fun F5 H5 v g o => ?_⟩
  exact k F5 H5 v ((((e1.qt e2).trans e3).trans e4).qt g.ge) (j4.grow g) (o.res j4 g)
end
end CM
end
section
set_option Elab.async false
set_option linter.all false
set_option maxRecDepth 100000
set_option autoImplicit false
namespace CM
open PySem PySem.Spec PyProof.Rows L2 PySem.SeqAt

section
variable {X : Cx}
theorem one_of {K : KC} {F : Fz} {H : Hp} {xs : List V} {c : C} (h : Paired (Bd K F H) xs [c]) : ∃ x, xs = [x] ∧ Bd K F H x c := by
  cases h with
  | cons h1 h2 => cases h2; exact ⟨_, rfl, h1⟩
theorem two_of {K : KC} {F : Fz} {H : Hp} {xs : List V} {c d : C} (h : Paired (Bd K F H) xs [c, d]) : ∃ x y, xs = [x, y] ∧ Bd K F H x c ∧ Bd K F H y d := by
  cases h with
  | cons h1 h2 =>
    obtain ⟨y, rfl, h3⟩ := one_of h2
    exact ⟨_, y, rfl, h1, h3⟩
theorem dcl_len : DCl X (.builtin "len") gLen := by
  refine .of fun pins s σ H xs us Q I r ⟨F, cs, z, e, et, b, q, k⟩ => ?_
  unfold gLen at q
  split at q
  · rename_i ds
    cases q
    obtain ⟨x, rfl, p, vs, rfl, sq, dd⟩ := one_of b
    refine call_len_seq pins s σ H _ us Q I r ⟨p, vs, rfl, .inl sq, ?_⟩
    rw [VpAll.length dd]
    exact k F H _ (.refl e) (.int _)
  · rename_i ds
    cases q
    obtain ⟨x, rfl, h⟩ := one_of b
    have h : Vp X.kc F x (.tuple ds) := h
    cases h with
    | tup sq dd =>
      refine call_len_seq pins s σ H _ us Q I r ⟨_, _, rfl, .inr (e.t sq.sq), ?_⟩
      rw [VpAll.length dd]
      exact k F H _ (.refl e) (.int _)
  · rename_i t
    split at q
    · rename_i c
      cases q
      obtain ⟨x, rfl, h⟩ := one_of b
      have h : Vp X.kc F x (.str t) := h
      cases h
      exact call_len_str pins s σ H _ us Q I r ⟨t, rfl, sz_ok c, k F H _ (.refl e) (.int _)⟩
    · cases q
  · rename_i kvs
    cases q
    obtain ⟨x, rfl, p, es, rfl, rd, dd⟩ := one_of b
    rw [Vals.ref1 r]
    refine d_len I rd fun t s' I' => ⟨.int _, H, I', ⟨t, rfl⟩, ?_⟩
    have hl : es.length = kvs.length := Paired.length dd
    rw [hl]
    exact k F H _ (.refl e) (.int _)
  · rename_i kvs
    cases q
    obtain ⟨x, rfl, p, es, rfl, rd, dd⟩ := one_of b
    rw [Vals.ref1 r]
    obtain ⟨z, hd, ys, rel, dk⟩ := dt_rd I.hok rd
    have hl : es.length = ys.length := Paired.length rel
    have h2 : es.length = kvs.length := Paired.length dd
    refine call_len_dictH hd dk (by rw [← hl]; rw [sizeLine_eq] at z; omega) ?_
    rw [← hl, h2]
    exact ⟨.int _, H, I.tok _, ⟨_, rfl⟩, k F H _ (.refl e) (.int _)⟩
  · cases q
theorem dcl_list : DCl X (.type "list") gList := by
  refine .of fun pins s σ H xs us Q I r ⟨F, cs, z, e, et, b, q, k⟩ => ?_
  unfold gList at q
  split at q
  · rename_i ds
    cases q
    obtain ⟨x, rfl, p, vs, rfl, sq, dd⟩ := one_of b
    exact call_list_of pins s σ H _ us Q I r ⟨p, vs, rfl, .inl sq, fun l hl => k F _ _ (.lay e hl) ⟨l, rfl, hl, e.back hl, et l hl, _, upd_same, dd⟩⟩
  · rename_i ds
    cases q
    obtain ⟨x, rfl, h⟩ := one_of b
    have h : Vp X.kc F x (.tuple ds) := h
    cases h with
    | tup sq dd => exact call_list_of pins s σ H _ us Q I r ⟨_, _, rfl, .inr (e.t sq.sq), fun l hl => k F _ _ (.lay e hl) ⟨l, rfl, hl, e.back hl, et l hl, _, upd_same, dd⟩⟩
  · cases q
theorem dcl_tuple : DCl X (.type "tuple") gTuple := by
  refine .of fun pins s σ H xs us Q I r ⟨F, cs, z, e, et, b, q, k⟩ => ?_
  unfold gTuple at q
  split at q
  · rename_i ds
    cases q
    obtain ⟨x, rfl, p, vs, rfl, sq, dd⟩ := one_of b
    exact call_tupleZ pins s σ H _ us Q I r ⟨p, vs, rfl, .inl ⟨sq, tuT ds, fun l o hl po => k _ _ _ (.put e hl) (.tup (.inl ⟨o, po, upd_same⟩) (VpAll.up (FEi.put (e.back hl)) _ _ dd))⟩⟩
  · rename_i ds
    cases q
    obtain ⟨x, rfl, h⟩ := one_of b
    have h : Vp X.kc F x (.tuple ds) := h
    cases h with
    | tup sq dd => exact call_tuple_of pins s σ H _ us Q I r ⟨_, _, rfl, .inr ⟨e.t sq.sq, k F H _ (.refl e) (.tup sq dd)⟩⟩
  · cases q
theorem itOk_r {K : KC} {G : Hp} {F : Fz} (lo : Int) (n : Nat) : ItOk K (Itr lo n) G F (rgD lo n) := fun i F1 H1 e1 e2 _ => by
  have hl : (rgD lo n).length = n := by simp [rgD]
  refine ⟨fun hi => ⟨by rw [hl] at hi; exact hi, fun x H2 ⟨q1, q2⟩ => ?_⟩, fun hi => by rw [hl] at hi; exact hi⟩
  subst q1 q2
  rw [hl] at hi
  refine ⟨F1, .refl e2, .int (lo + (i : Nat)), ?_, .int _⟩
  unfold rgD
  rw [List.getElem?_map, List.getElem?_range hi]
  rfl
theorem di_rg1 {tg a : Expr} {fa : EF} {p pos : Pos} (hg : Gl X "range") (hm : X.mg "range" = none) {q1 : Bool} (ha : DE X q1 a fa) (hs : starEach [a] X.env = [(false, eval a X.env)] := by rfl) : DI X tg (.Call (.Name "range" p) [a] [] pos) (iRg [fa]) := by
  have h : DA X (q1 && true) [a] [fa] := da_cons ha da_nil hs
  obtain ⟨t, a1, a2⟩ := h.ex
  refine ⟨_, pi_range1 hg hm a1 hs, fun B H0 F0 F H σ r ds l r' q j R k => ?_⟩
  simp only [iRg, Option.bind_eq_some_iff] at q
  obtain ⟨⟨zs, r1⟩, q1, cs, q2, q3⟩ := q
  refine a2 _ _ _ _ _ _ _ _ _ q1 j _ fun F1 H1 vs e1 j1 k1 => ?_
  have b := looks_ok j1 q2 k1
  have l1 := eArgs_len q1
  have l2 := Paired.length b
  have l3 : vs.length = zs.length := k1.length
  split at q3
  · rename_i i
    split at q3
    · rename_i c
      cases q3
      obtain ⟨x, rfl, h1⟩ := one_of b
      have h1 : Vp X.kc F1 x (.int i) := h1
      cases h1
      exact ⟨i, rfl, by omega, by omega, k F1 H1 _ _ F1 _ e1.weak (.no j1) (itOk_r 0 _)⟩
    · cases q3
  · rename_i i i2
    have l1 : zs.length = 1 := l1
    have l2 : vs.length = 2 := l2
    omega
  · cases q3
theorem di_rg2 {tg a b : Expr} {fa fb : EF} {p pos : Pos} (hg : Gl X "range") (hm : X.mg "range" = none) {q1 : Bool} (ha : DE X q1 a fa) {q2 : Bool} (hb : DE X q2 b fb) (hs : starEach [a, b] X.env = [(false, eval a X.env), (false, eval b X.env)] := by rfl) (hs2 : starEach [b] X.env = [(false, eval b X.env)] := by rfl) :
    DI X tg (.Call (.Name "range" p) [a, b] [] pos) (iRg [fa, fb]) := by
  have h : DA X (q1 && (q2 && true)) [a, b] [fa, fb] := da_cons ha (da_cons hb da_nil hs2) (by rw [hs, hs2])
  obtain ⟨t, a1, a2⟩ := h.ex
  refine ⟨_, pi_range2 hg hm a1 hs hs2, fun B H0 F0 F H σ r ds l r' q j R k => ?_⟩
  simp only [iRg, Option.bind_eq_some_iff] at q
  obtain ⟨⟨zs, r1⟩, q1, cs, q2, q3⟩ := q
  refine a2 _ _ _ _ _ _ _ _ _ q1 j _ fun F1 H1 vs e1 j1 k1 => ?_
  have b := looks_ok j1 q2 k1
  have l1 := eArgs_len q1
  have l2 := Paired.length b
  have l3 : vs.length = zs.length := k1.length
  split at q3
  · rename_i i
    have l1 : zs.length = 2 := l1
    have l2 : vs.length = 1 := l2
    omega
  · rename_i i i2
    split at q3
    · rename_i c
      cases q3
      obtain ⟨x, y, rfl, h1, h2⟩ := two_of b
      have h1 : Vp X.kc F1 x (.int i) := h1
      have h2 : Vp X.kc F1 y (.int i2) := h2
      cases h1; cases h2
      exact ⟨i, i2, rfl, ⟨by omega, by omega, by omega, by omega⟩, k F1 H1 _ _ F1 _ e1.weak (.no j1) (itOk_r i _)⟩
    · cases q3
  · cases q3
end
end CM
end
section
set_option Elab.async false
set_option linter.all false
set_option maxRecDepth 100000
set_option autoImplicit false
namespace CM
open PySem PySem.Spec PyProof.Rows L2 PySem.SeqAt

theorem sort_each2 {K : KC} {F : Fz} : ∀ {ds : List D} {vs : List V} {us : List Value}, VpAll K F vs ds → Vals vs us → ∃ ps : List (V × D), ps.map (·.1) = vs ∧ ps.map (·.2) = ds ∧ W.EachIs (fun u p => RelV p.1 u ∧ Vp K F p.1 p.2) us ps
  | [], _, _, h, r => by cases h; cases r; exact ⟨[], rfl, rfl, .nil⟩
  | d :: ds, _, _, h, r => by
    cases h with
    | cons h1 h2 =>
      cases r with
      | cons r1 r2 =>
        obtain ⟨ps, e1, e2, e3⟩ := sort_each2 h2 r2
        refine ⟨(_, d) :: ps, ?_, ?_, .cons ⟨r1, h1⟩ e3⟩
        · rw [List.map_cons, e1]
        · rw [List.map_cons, e2]
theorem each_back {K : KC} {F : Fz} : ∀ {us : List Value} {ps : List (V × D)}, W.EachIs (fun u p => RelV p.1 u ∧ Vp K F p.1 p.2) us ps → Vals (ps.map (·.1)) us ∧ VpAll K F (ps.map (·.1)) (ps.map (·.2))
  | [], [], _ => ⟨.nil, .nil⟩
  | [], _ :: _, h => by cases h
  | _ :: _, [], h => by cases h
  | u :: us, p :: ps, h => by
    cases h with
    | cons h1 h2 =>
      obtain ⟨a, b⟩ := each_back h2
      exact ⟨.cons h1.1 a, .cons h1.2 b⟩
theorem nods_mem : ∀ {ds : List D} {d : D}, nods ds = true → d ∈ ds → nod d = true
  | [], _, _, h => by cases h
  | x :: xs, d, n, h => by
    obtain ⟨n1, n2⟩ := nods_cons n
    rcases List.mem_cons.mp h with z | z
    · rw [z]; exact n1
    · exact nods_mem n2 z
theorem each_mono {β : Type} {R R' : Value → β → Prop} : ∀ {us : List Value} {ps : List β}, W.EachIs R us ps → (∀ u p, p ∈ ps → R u p → R' u p) → W.EachIs R' us ps
  | [], [], _, _ => .nil
  | [], _ :: _, h, _ => by cases h
  | _ :: _, [], h, _ => by cases h
  | u :: us, p :: ps, h, k => by
    cases h with
    | cons h1 h2 => exact .cons (k _ _ (List.mem_cons_self) h1) (each_mono h2 fun u p hp => k u p (List.mem_cons_of_mem _ hp))
theorem alikeB_ok {ds : List D} (h : alikeB ds = true) : W.AllAlike ds := fun d hd d' hd' => by
  unfold alikeB at h
  rw [List.all_eq_true] at h
  have := h d hd
  rw [List.all_eq_true] at this
  exact this d' hd'
theorem sortable_ok {ds : List D} (h : (ds.all tupB || ds.all plainB) = true) : W.Sortable ds := by
  rw [Bool.or_eq_true] at h
  rcases h with h | h
  · left
    intro d hd
    rw [List.all_eq_true] at h
    have := h d hd
    cases d with
    | tuple xs =>
      cases xs with
      | nil => cases this
      | cons x r => exact ⟨x, r, rfl⟩
    | _ => cases this
  · right
    intro d hd
    rw [List.all_eq_true] at h
    have := h d hd
    cases d with
    | tuple xs => cases this
    | none => cases this
    | _ => exact ⟨(fun z => by cases z), (fun xs z => by cases z)⟩
theorem sortB_ok {ds : List D} (h : sortB ds = true) : nods ds = true ∧ W.AllAlike ds ∧ W.Sortable ds ∧ (∀ d ∈ ds, d.depth ≤ 60) ∧ ds.length ≤ sizeLine := by
  unfold sortB at h
  rw [Bool.and_eq_true, Bool.and_eq_true, Bool.and_eq_true, Bool.and_eq_true] at h
  obtain ⟨⟨⟨⟨h0, h1⟩, h2⟩, h3⟩, h4⟩ := h
  refine ⟨h0, alikeB_ok h1, sortable_ok h2, fun d hd => ?_, sz_ok (of_decide_eq_true h4)⟩
  rw [List.all_eq_true] at h3
  exact of_decide_eq_true (h3 d hd)
section
variable {X : Cx}
theorem dcl_sorted (hu : X.A.units + 64 < cLine) : DCl X (.builtin "sorted") gSorted := by
  refine .of fun pins s σ H xs us Q I r ⟨F, cs, z, e, et, b, q, k⟩ => ?_
  unfold gSorted at q
  split at q
  · rename_i ds
    split at q
    · rename_i c
      cases q
      obtain ⟨nd, al, so, dp, ln⟩ := sortB_ok c
      obtain ⟨x, rfl, p, vs, rfl, sq, dd⟩ := one_of b
      rw [Vals.ref1 r]
      obtain ⟨its, rv, hl, hz⟩ := I.list sq
      obtain ⟨ps, e1, e2, e3⟩ := sort_each2 dd rv
      have e4 : W.EachIs (fun v b => ∃ as, Reads s.heap v b.2 as) its ps := each_mono e3 fun u p hp ⟨g1, g2⟩ => Dp.reads I p.2 p.1 u (Vp.dp e _ _ g2 (nods_mem nd (by rw [← e2]; exact List.mem_map.mpr ⟨p, hp, rfl⟩))) g1
      have lp : ps.length = ds.length := by rw [← e2, List.length_map]
      refine W.sorted_data (enc := fun p : V × D => p.2) hl.isList e3 e4 (by rw [e2]; exact al) (by rw [e2]; exact so) (by rw [lp]; exact ln) (fun p hp => ?_) fun out ho er => ?_
      · have : p.2 ∈ ds := by rw [← e2]; exact List.mem_map.mpr ⟨p, hp, rfl⟩
        have := dp _ this
        omega
      · obtain ⟨g1, g2⟩ := each_back er
        have hm : (ps.mergeSort (W.dataLe false fun p : V × D => p.2)).map (·.2) = sortD ds := by
          rw [← e2]
          exact W.sort_maps (fun p : V × D => p.2) fun a _ b _ => rfl
        rw [hm] at g2
        obtain ⟨ep, he⟩ := PyProof.Rows.sortedAll_at s.heap its out.toArray
        have hf : H (s.heap.objs.size + 1) = none := I.hok.fresh (Nat.le_succ _)
        refine ⟨.ref _, upd H (s.heap.objs.size + 1) (.lst ((ps.mergeSort (W.dataLe false fun p : V × D => p.2)).map (·.1))), I.laid (t' := s.toks) (fun _ _ => PyProof.Rows.sortedAll_old) (Nat.le_succ _) ⟨by rw [VpAll.length g2]; unfold sortD; rw [List.length_mergeSort]; exact ln, out, ep, g1, he⟩, rfl, ?_⟩
        exact k F _ _ (.lay e hf) ⟨_, rfl, hf, e.back hf, et _ hf, _, upd_same, g2⟩
    · cases q
  · cases q
theorem de_neg {a : Expr} {fa : EF} {pos : Pos} {qb : Bool} (ha : DE X qb a fa) : DE X qb (.UnaryOp .USub a pos) (eUn gNeg fa) := by
  obtain ⟨t, a1, a2⟩ := ha.ex
  refine ⟨_, pe_un un_neg a1, fun B H0 F0 F H σ r z r' q j Q k => ?_⟩
  simp only [eUn, Option.bind_eq_some_iff] at q
  obtain ⟨⟨za, r1⟩, q1, c, q2, w, q3, q4⟩ := q
  cases q4
  refine a2 _ _ _ _ _ _ _ _ _ q1 j _ fun F1 H1 x e1 j1 k1 => ?_
  have b := k1.look j1 q2
  unfold gNeg at q3
  split at q3
  · rename_i i
    cases q3
    have b : Vp X.kc F1 x (.int i) := b
    cases b
    exact ⟨i, rfl, k F1 H1 _ e1 j1 (.int _)⟩
  · cases q3
theorem re_chain {K : KC} {o o' : R2} {g h : C → C → Option Res} {ta tb tc : TE} {fa fb fc : EF} (ho : ROp K o g) (ho' : ROp K o' h) {q1' q2' q3' : Bool} (ha : RE K q1' ta fa) (hb : RE K q2' tb fb) (hc : RE K q3' tc fc) : RE K (q1' && q2' && q3') (tChain o o' ta tb tc) (eChain g h fa fb fc) := by
  intro B H0 F0 F H σ r z r' q j Q k
  simp only [eChain, Option.bind_eq_some_iff] at q
  obtain ⟨⟨za, r1⟩, q1, za', q2, ⟨zb, r2⟩, q3, zb', q4, u, q5, v, q6, w, q7, q8⟩ := q
  refine ha _ _ _ _ _ _ _ _ _ q1 j _ fun F1 H1 x e1 j1 k1 => ?_
  obtain ⟨F2, e2, j2, k2⟩ := settle_ok q2 j1 k1
  refine hb _ _ _ _ _ _ _ _ _ q3 j2 _ fun F3 H3 y e3 j3 k3 => ?_
  obtain ⟨F4, e4, j4, k4⟩ := settle_ok q4 j3 k3
  have ka := k2.later (F' := F4) (H' := H3) (r' := r2) (settle_still q2) (e3.f.trans e4.f)
  refine ho F4 H3 x y u v w j4.fh j4.tagged (ka.look j4 q5) (k4.look j4 q6) q7 _ fun F5 H5 y' g5 o5 => ?_
  have ee : Ge (q1' && q2') F H r F5 H5 r2 := ((e1.qt e2).trans (e3.qt e4)).qt g5.ge
  have j5 := j4.grow g5
  dsimp only at q8
  split at q8
  · have o5 : Vp K F5 y' (.bool true) := o5
    cases o5
    refine ⟨true, rfl, ?_⟩
    rw [if_pos rfl]
    simp only [Option.bind_eq_some_iff] at q8
    obtain ⟨⟨zc, r3⟩, q9, v2, q10, w2, q11, z2, q12, q13⟩ := q8
    cases q13
    refine hc _ _ _ _ _ _ _ _ _ q9 j5 _ fun F6 H6 x6 e6 j6 k6 => ?_
    have kb : ResOk K H0 F6 H6 σ r3 y zb' := k4.later (settle_still q4) (g5.fe.trans e6.f)
    refine ho' F6 H6 y x6 v2 w2 z j6.fh j6.tagged (kb.look j6 q10) (k6.look j6 q11) q12 Q fun F7 H7 y7 g7 o7 => ?_
    exact k F7 H7 y7 ((ee.trans e6).qt g7.ge) (j6.grow g7) (o7.res j6 g7)
  · have o5 : Vp K F5 y' (.bool false) := o5
    cases o5
    cases q8
    refine ⟨false, rfl, ?_⟩
    rw [if_neg Bool.false_ne_true]
    exact k F5 H5 _ ee.left j5 (.bl false)
  · cases q8
theorem de_chain {op op' : CmpOp} {a b c : Expr} {g h : C → C → Option Res} {fa fb fc : EF} {pos : Pos} (ho : DOp X (compareOp op) g) (ho' : DOp X (compareOp op') h) {q1 q2 q3 : Bool} (ha : DE X q1 a fa) (hb : DE X q2 b fb) (hc : DE X q3 c fc)
    (hm : lastMarks [op, op'] [b, c] = false := by with_unfolding_all rfl) : DE X (q1 && q2 && q3) (.Compare a [op, op'] [b, c] pos) (eChain g h fa fb fc) := by
  obtain ⟨o, h1, h2⟩ := ho.ex
  obtain ⟨o', h3, h4⟩ := ho'.ex
  obtain ⟨ta, a1, a2⟩ := ha.ex
  obtain ⟨tb, b1, b2⟩ := hb.ex
  obtain ⟨tc, c1, c2⟩ := hc.ex
  exact ⟨_, pe_chain h1 h3 a1 b1 c1 hm, re_chain h2 h4 a2 b2 c2⟩
end
end CM
end
section
set_option Elab.async false
set_option linter.all false
set_option maxRecDepth 100000
set_option autoImplicit false
namespace CM
open PySem PySem.Spec PyProof.Rows L2 PySem.SeqAt
structure Chg (p : Addr) (F : Fz) (H : Hp) (F' : Fz) (H' : Hp) : Prop where
  f : Ex F.f F'.f
  t : F'.t = F.t
  fh : Ex F'.f H'
  nw : ∀ a o, F'.f a = some o → F.f a = some o ∨ H a = none ∨ TupO o
  h : ∀ a o, a ≠ p → H a = some o → H' a = some o
def OwnAt (F : Fz) (H : Hp) (σ : L2.St) (r : Env) (p : Addr) (c : C) : Pl → Prop
  | .sl i => r.sl[i]? = some (.ow c) ∧ σ[i]? = some (some (.ref p))
  | .fl _ i f => ∃ n pi C dx es, obAt r i = some n ∧ F.t pi = some (.ins n) ∧ H pi = some (.ins C dx es) ∧ es.lookup f = some (.ref p) ∧ F.t p = some (.fld n f) ∧ fldAt r.st n f = some (.ow c)
section
variable {K : KC} {F F' F1 : Fz} {H H' H1 B H0 F0 : Hp} {σ : L2.St} {r r' : Env} {v : V} {c c' : C} {x : D} {p : Addr} {s : Slot} {ds : List D} {q : Pl}
theorem OwnAt.facts (j : J K B H0 F0 F H σ r) (o : OwnAt F H σ r p c q) : H0 p = none ∧ F.f p = none ∧ Od K F H p c ∧ H p ≠ none := by
  cases q with
  | sl i =>
    obtain ⟨h1, h2⟩ := o
    obtain ⟨p', a, b1, b2, b3, b4⟩ := j.sl i _ h1
    rw [h2] at a; cases a
    exact ⟨b1, b2, b4, b4.ne⟩
  | fl cs i f =>
    obtain ⟨n, pi, C, dx, es, h1, h2, h3, h4, h5, h6⟩ := o
    obtain ⟨a, b, c⟩ := j.so.sep p _ h5
    obtain ⟨q', e, t', od⟩ := j.so.field h2 h3 h4 h6
    cases e
    exact ⟨c.elim id (fun ⟨_, _, z⟩ => by cases z), a, od, b⟩
theorem J.chg (j : J K B H0 F0 F H σ r) (o : OwnAt F H σ r p c q) (g : Chg p F H F' H') (od : Od K F' H' p c') : J K B H0 F0 F' H' σ (ownPut r c' q) := by
  obtain ⟨h0, hf, _, hp⟩ := o.facts j
  have fe : FEx F F' := .of g.f g.t
  have e0' : Ex H0 H' := fun a u w => g.h a u (fun z => by subst z; rw [h0] at w; cases w) (j.e0 _ _ w)
  have nw' : ∀ a o, F'.f a = some o → F0 a = some o ∨ H0 a = none ∨ TupO o := fun a u w => by
    rcases g.nw a u w with z | z | z
    · exact j.nw a u z
    · exact .inr (.inl (j.e0.back z))
    · exact .inr (.inr z)
  have keepF : ∀ a, H a ≠ none → F.f a = none → (∀ u, TupO u → H' a ≠ some u) → F'.f a = none := fun a h1 h2 h3 => by
    cases w : F'.f a with
    | none => rfl
    | some u =>
      rcases g.nw a u w with z | z | z
      · rw [h2] at z; cases z
      · exact absurd z h1
      · exact absurd (g.fh _ _ w) (h3 u z)
  have tagT : ∀ a t, F.t a = some t → ∀ u, TupO u → H' a ≠ some u := fun a t e u i => by
    by_cases y : a = p
    · subst y; exact od.noT i
    · exact j.so.noT' e i fun u w => g.h a u y w
  have slots : ∀ (k : Nat) (s : Slot), r.sl[k]? = some s → (∀ c1, s = .ow c1 → σ[k]? ≠ some (some (.ref p))) → SlotOk K B H0 F' H' (σ[k]?) s := fun k s w ne => by
    have b := j.sl k s w
    cases s with
    | no => trivial
    | sh d => obtain ⟨v, a, b⟩ := b; exact ⟨v, a, Vp.up fe _ _ b⟩
    | bo c => obtain ⟨v, a, b⟩ := b; exact ⟨v, a, b.up fe (.refl _)⟩
    | lk c => obtain ⟨v, a, b⟩ := b; exact ⟨v, a, b.up fe (.refl _)⟩
    | ow c1 =>
      obtain ⟨p2, a, b1, b2, b3, b4⟩ := b
      have z : p2 ≠ p := fun z => ne c1 rfl (by rw [← z]; exact a)
      exact ⟨p2, a, b1, keepF p2 b4.ne b2 (fun u i => (b4.up (F' := F') fe fun o w => g.h _ _ z w).noT i), by rw [g.t]; exact b3, b4.up fe fun o w => g.h _ _ z w⟩
  cases q with
  | sl i =>
    obtain ⟨hi, hpi⟩ := o
    have ht : F.t p = none := by
      obtain ⟨p', a, _, _, t, _⟩ := j.sl i _ hi
      rw [hpi] at a; cases a
      exact t
    refine ⟨j.eb, e0', j.ef.trans g.f, g.fh, nw', j.so.same fe g.t (fun a w o e => g.h a o (fun z => by subst z; exact w ht) e) (fun a w => ?_), by show σ.length = (r.put i _).sl.length; rw [put_len]; exact j.len, fun k s w => ?_, fun k l c1 c2 p1 h1 h2 h3 h4 => ?_⟩
    · cases t : F.t a with
      | none => exact absurd t w
      | some u =>
        obtain ⟨a1, a2, _⟩ := j.so.sep a u t
        exact keepF a a2 a1 (tagT a u t)
    · rcases put_at w with ⟨z, e, _⟩ | ⟨z, w⟩
      · subst z; subst e
        exact ⟨p, hpi, h0, keepF p hp hf (fun u i => od.noT i), by rw [g.t]; exact ht, od⟩
      · exact slots k s w fun c1 e w2 => by
          subst e
          exact z (j.dj i k _ _ p hi w hpi w2)
    · have gg : ∀ {k : Nat} {c1 : C}, (r.put i (.ow c')).sl[k]? = some (.ow c1) → ∃ c0, r.sl[k]? = some (.ow c0) := fun {k c1} w => by
        rcases put_at w with ⟨z, _, _⟩ | ⟨_, w⟩
        · subst z; exact ⟨_, hi⟩
        · exact ⟨_, w⟩
      obtain ⟨d1, g1⟩ := gg h1
      obtain ⟨d2, g2⟩ := gg h2
      exact j.dj k l d1 d2 p1 g1 g2 h3 h4
  | fl cs i f =>
    obtain ⟨n, pi, C, dx, es, h1, h2, h3, h4, h5, h6⟩ := o
    have hu : ownPut r c' (.fl cs i f) = r.putF n f (.ow c') := by
      show (match obAt r i with | some n => r.putF n f (.ow c') | none => r) = _
      rw [h1]
    rw [hu]
    have ne : ∀ {a : Addr} {u : Tg}, F.t a = some u → u ≠ .fld n f → a ≠ p := fun {a u} e z y => by subst y; rw [h5] at e; cases e; exact z rfl
    have npi : pi ≠ p := ne h2 fun z => by cases z
    have nolok : ∀ a, F.t a ≠ some (.lok n f) := fun a z => by
      obtain ⟨c', w⟩ := j.so.tl a n f z
      rw [h6] at w; cases w
    have so : StOk K H0 F' H' (stPut r.st n f (.ow c')) := by
      refine j.so.upd (fun z => by subst z; exact j.so.bi p pi n (.inl h5) h2) (p := pi) (C := C) (dx := dx) (es := es) (v' := .ref p) h2 h3 fe (fun a u _ _ => by rw [g.t]) (fun a u e z1 z2 _ o w => g.h a o (ne e z1) w) (by rw [putF_same h4]; exact g.h _ _ npi h3) ⟨p, rfl, by rw [g.t]; exact h5, od⟩ (fun a u e hu => ?_) (fun a b u _ e e' => j.so.inj a b u (by rw [← g.t]; exact e) (by rw [← g.t]; exact e')) (fun a u e z1 z2 => ?_) (fun o e => ?_)
      · rw [g.t] at e
        rcases hu with z | z
        · subst z
          have := j.so.inj _ _ _ e h5
          subst this
          exact ⟨keepF a hp hf (fun u i => od.noT i), od.ne, .inl h0, fun _ => ⟨c', rfl⟩, fun z => by cases z⟩
        · subst z; exact absurd e (nolok a)
      · obtain ⟨a1, a2, _⟩ := j.so.sep a u e
        exact ⟨keepF a a2 a1 (tagT a u e), id⟩
      · unfold fldAt at h6
        rw [e] at h6
        have h6 : o.fs.lookup f = some (.ow c) := h6
        rw [putFd_len h6]
        obtain ⟨o', a, _, _, _, _, _, _, _, _, b⟩ := j.so.ob pi n h2
        rw [e] at a; cases a
        exact b
    refine ⟨j.eb, e0', j.ef.trans g.f, g.fh, nw', so, j.len, fun k s w => slots k s w fun c1 e w2 => ?_, j.dj⟩
    subst e
    obtain ⟨p2, a, b1, b2, b3, b4⟩ := j.sl k _ w
    rw [w2] at a; cases a
    rw [h5] at b3; cases b3
theorem obAt_ok {i n : Nat} (j : J K B H0 F0 F H σ r) (h : obAt r i = some n) : ∃ pi, σ[i]? = some (some (.ref pi)) ∧ F.t pi = some (.ins n) := by
  unfold obAt at h
  split at h
  · rename_i x e
    obtain ⟨v, a, b⟩ := j.sl i _ e
    unfold obOf at h
    split at h
    · rename_i m w
      cases w
      cases b with
      | ob t =>
        have h : some (Int.toNat (Int.ofNat _)) = some n := h
        cases h
        exact ⟨_, a, t⟩
    · cases h
  · cases h
theorem own_sl {i : Nat} (j : J K B H0 F0 F H σ r) (h : ownAt r (.sl i) = some c) : ∃ p, σ[i]? = some (some (.ref p)) ∧ OwnAt F H σ r p c (.sl i) := by
  unfold ownAt at h
  dsimp only at h
  split at h
  · rename_i c0 e
    cases h
    obtain ⟨p, a, _⟩ := j.sl i _ e
    exact ⟨p, a, e, a⟩
  · cases h
theorem fldC_at {cs : List Str} {st : Store} {n : Nat} {f : Str} {d : Fd} (h : fldC cs st n f = some d) : fldAt st n f = some d ∧ ∃ o, st[n]? = some o ∧ o.cls ∈ cs := by
  unfold fldC at h
  simp only [Option.bind_eq_some_iff] at h
  obtain ⟨o, h1, h2⟩ := h
  split at h2
  · rename_i hc
    refine ⟨?_, o, h1, List.contains_iff_mem.mp hc⟩
    unfold fldAt
    rw [h1]
    exact h2
  · cases h2
theorem own_fl {cs : List Str} {i : Nat} {f : Str} (j : J K B H0 F0 F H σ r) (h : ownAt r (.fl cs i f) = some c) : ∃ p pi n C dx es o, σ[i]? = some (some (.ref pi)) ∧ obAt r i = some n ∧ F.t pi = some (.ins n) ∧ H pi = some (.ins C dx es) ∧ es.lookup f = some (.ref p) ∧ r.st[n]? = some o ∧ o.cls ∈ cs ∧ K.mg o.cls = some (.ref C) ∧ OwnAt F H σ r p c (.fl cs i f) := by
  unfold ownAt at h
  simp only [Option.bind_eq_some_iff] at h
  obtain ⟨n, h1, h2⟩ := h
  split at h2
  · rename_i c0 e
    cases h2
    obtain ⟨e1, o, e2, e3⟩ := fldC_at e
    obtain ⟨pi, a1, a2⟩ := obAt_ok j h1
    obtain ⟨o', b1, C, dx, es, b2, b3, b4, b5, _⟩ := j.so.ob pi n a2
    rw [e2] at b1; cases b1
    have e4 : o.fs.lookup f = some (.ow c) := by
      unfold fldAt at e1
      rw [e2] at e1
      exact e1
    obtain ⟨v, d1, q', rfl, d3, d4⟩ := b5.lookup e4
    exact ⟨q', pi, n, C, dx, es, o, a1, h1, a2, b3, d1, e2, e3, b2, n, pi, C, dx, es, h1, a2, b3, d1, d3, e1⟩
  · cases h2
end
structure DMut (X : Cx) (T : String) (name : Str) (id : String) (kd : C → Bool) (g : C → List D → Option (Res × C)) : Prop where
  ex : PlainAttrs T ∧ PySem.Slot T name id ∧ typeOf (.builtin id) = pure (.type "method_descriptor") ∧ ∃ o, MtR X id o ∧ (∀ (F : Fz) (H : Hp) p c, kd c = true → Od X.kc F H p c → tyV X.K T (.ref p) H) ∧
    ∀ (F : Fz) (H : Hp) (p : Addr) (c c' : C) (xs : List V) (ds : List D) (z : Res), Ex F.f H → (∀ p, H p = none → F.t p = none) → F.f p = none → Od X.kc F H p c → VpAll X.kc F xs ds → g c ds = some (z, c') →
      ∀ Q : VK, (∀ F' H' v, Chg p F H F' H' → Od X.kc F' H' p c' → (∃ y, z = .sh y ∧ Vp X.kc F' v y) → Q v H') → o (.ref p) xs H Q
structure ClF (X : Cx) (cs : List Str) (f : Str) : Prop where
  ok : ∀ c ∈ cs, ∀ C, X.mg c = some (.ref C) → Cls X.K C ∧ NoAttr X.K C f
  nb : f ≠ bxS
section
variable {X : Cx} {e : Expr} {es : List Expr} {fs : List EF} {T id : String} {name : Str} {kd : C → Bool} {g : C → List D → Option (Res × C)} {apos cpos npos : Pos} {qb : Bool}
theorem Chg.ge {p : Addr} {F F' : Fz} {H H' : Hp} {r r' : Env} (g : Chg p F H F' H') (k : ∀ (i : Nat) (s : Slot), Lent s → r'.sl[i]? = some s → r.sl[i]? = some s) : Ge false F H r F' H' r' := ⟨.of g.f g.t, k, fun z => by cases z⟩
theorem ownPut_lent {r : Env} {c : C} {q : Pl} : ∀ (i : Nat) (s : Slot), Lent s → (ownPut r c q).sl[i]? = some s → r.sl[i]? = some s := fun i s l h => by
  cases q with
  | sl k =>
    rcases put_at h with ⟨_, z, _⟩ | ⟨_, h⟩
    · subst z; exact l.elim
    · exact h
  | fl cs k f =>
    unfold ownPut at h
    dsimp only at h
    split at h
    · exact h
    · exact h
theorem de_mutS (i : Nat) {x : Str} (dm : DMut X T name id kd g) (hN : X.N[i]? = some x) (hv : Vis X.env.scope x) (ha : DA X qb (e :: es) fs) (hd : (x == ("__debug__" : Str)) = false := by decide) (hcd : (x == ("__classdict__" : Str)) = false := by decide)
    (hbase : attributeBase (.Name x npos) name X.env (eval (.Name x npos) X.env) = eval (.Name x npos) X.env := by rfl)
    (hfew : ((backTo cpos (starEach (e :: es) X.env)).all (fun x => !x.1) && (backToKw cpos (keywordEach [] X.env)).all (fun x => x.1.isSome)
      && decide ((e :: es).length + ([] : List Keyword).length + (if ([] : List Keyword).isEmpty then 0 else 1) < 30)) = true := by rfl)
    (hline : (apos.endLine == cpos.line) = true := by rfl) (hs : starEach (e :: es) X.env = (false, eval e X.env) :: starEach es X.env := by rfl) (hplain : (backTo cpos (starEach es X.env)).any (·.1) = false := by rfl) :
    DE X false (.Call (.Attribute (.Name x npos) name apos) (e :: es) [] cpos) (eMut kd g (.sl i) fs) := by
  obtain ⟨pa, sl, hty, o, mt, ty, op⟩ := dm.ex
  obtain ⟨t, a1, a2⟩ := ha.ex
  refine ⟨_, pe_bm pa sl hty mt (pe_var hN hv hd hcd) a1 hbase hfew hline hs hplain, fun B H0 F0 F H σ r z r' q j Q k => ?_⟩
  simp only [eMut, Option.bind_eq_some_iff] at q
  obtain ⟨c0, q0, q⟩ := q
  split at q
  · rename_i hk
    simp only [Option.bind_eq_some_iff] at q
    obtain ⟨⟨zs, r1⟩, q1, ⟨ys, r2⟩, q2, c, q3, ⟨z1, c'⟩, q4, q5⟩ := q
    cases q5
    obtain ⟨p, hp, ow⟩ := own_sl j q0
    obtain ⟨_, _, od, _⟩ := ow.facts j
    refine ⟨_, hp, ty F H p c0 hk od, ?_⟩
    refine a2 _ _ _ _ _ _ _ _ _ q1 j _ fun F1 H1 vs e1 j1 k1 => ?_
    obtain ⟨F2, e2, j2, d2⟩ := shares_ok q2 j1 k1
    obtain ⟨p2, hp2, ow2⟩ := own_sl j2 q3
    rw [hp] at hp2; cases hp2
    obtain ⟨_, f2, od2, _⟩ := ow2.facts j2
    refine op F2 H1 p c c' vs ys z1 j2.fh j2.tagged f2 od2 d2 q4 Q fun F3 H3 v ch od3 hz => ?_
    obtain ⟨y, rfl, vy⟩ := hz
    exact k F3 H3 v ((e1.qt e2).trans (ch.ge ownPut_lent)).weak (j2.chg ow2 ch od3) vy
  · cases q
theorem de_mutF (i : Nat) {cs : List Str} {x f : Str} {fpos : Pos} (dm : DMut X T name id kd g) (cl : ClF X cs f) (hN : X.N[i]? = some x) (hv : Vis X.env.scope x) (ha : DA X true (e :: es) fs) (hd : (x == ("__debug__" : Str)) = false := by decide) (hcd : (x == ("__classdict__" : Str)) = false := by decide)
    (hb0 : attributeBase (.Name x npos) f X.env (eval (.Name x npos) X.env) = eval (.Name x npos) X.env := by rfl)
    (hbase : attributeBase (.Attribute (.Name x npos) f fpos) name X.env (eval (.Attribute (.Name x npos) f fpos) X.env) = eval (.Attribute (.Name x npos) f fpos) X.env := by rfl)
    (hfew : ((backTo cpos (starEach (e :: es) X.env)).all (fun x => !x.1) && (backToKw cpos (keywordEach [] X.env)).all (fun x => x.1.isSome)
      && decide ((e :: es).length + ([] : List Keyword).length + (if ([] : List Keyword).isEmpty then 0 else 1) < 30)) = true := by rfl)
    (hline : (apos.endLine == cpos.line) = true := by rfl) (hs : starEach (e :: es) X.env = (false, eval e X.env) :: starEach es X.env := by rfl) (hplain : (backTo cpos (starEach es X.env)).any (·.1) = false := by rfl) :
    DE X false (.Call (.Attribute (.Attribute (.Name x npos) f fpos) name apos) (e :: es) [] cpos) (eMut kd g (.fl cs i f) fs) := by
  obtain ⟨pa, sl, hty, o, mt, ty, op⟩ := dm.ex
  obtain ⟨t, a1, a2⟩ := ha.ex
  refine ⟨_, pe_bm pa sl hty mt (pe_fld (pe_var hN hv hd hcd) hb0) a1 hbase hfew hline hs hplain, fun B H0 F0 F H σ r z r' q j Q k => ?_⟩
  simp only [eMut, Option.bind_eq_some_iff] at q
  obtain ⟨c0, q0, q⟩ := q
  split at q
  · rename_i hk
    simp only [Option.bind_eq_some_iff] at q
    obtain ⟨⟨zs, r1⟩, q1, ⟨ys, r2⟩, q2, c, q3, ⟨z1, c'⟩, q4, q5⟩ := q
    cases q5
    obtain ⟨p, pi, n, C, dx, fes, ob, hpi, hob, t1, h1, l1, hst, hcs, hmg, ow⟩ := own_fl j q0
    obtain ⟨_, _, od, _⟩ := ow.facts j
    obtain ⟨k1, k2⟩ := cl.ok _ hcs C hmg
    refine ⟨_, hpi, pi, C, dx, fes, _, rfl, h1, k1, k2, l1, ty F H p c0 hk od, ?_⟩
    refine a2 _ _ _ _ _ _ _ _ _ q1 j _ fun F1 H1 vs e1 j1 k1 => ?_
    obtain ⟨F2, e2, j2, d2⟩ := shares_ok q2 j1 k1
    obtain ⟨p2, pi2, n2, C2, dx2, fes2, ob2, hpi2, hob2, t2, h2, l2, hst2, hcs2, hmg2, ow2⟩ := own_fl j2 q3
    have e12 : Ge true F H r F2 H1 r2 := e1.qt e2
    obtain ⟨g1, g2, g3⟩ := e12.q rfl
    rw [hpi] at hpi2; cases hpi2
    have h3 := g1 _ _ h1
    rw [h2] at h3; cases h3
    rw [l1] at l2; cases l2
    obtain ⟨_, f2, od2, _⟩ := ow2.facts j2
    refine op F2 H1 p c c' vs ys z1 j2.fh j2.tagged f2 od2 d2 q4 Q fun F3 H3 v ch od3 hz => ?_
    obtain ⟨y, rfl, vy⟩ := hz
    exact k F3 H3 v (e12.trans (ch.ge ownPut_lent)).weak (j2.chg ow2 ch od3) vy
  · cases q
end
section
variable {X : Cx}
theorem Chg.at {p : Addr} {F : Fz} {H : Hp} {o : HO} (e : Ex F.f H) (f : F.f p = none) : Chg p F H F (upd H p o) := ⟨.refl _, rfl, e.side f, fun _ _ q => .inl q, fun a u z q => by rw [upd_ne z]; exact q⟩
theorem lst_ty (F : Fz) (H : Hp) (p : Addr) (c : C) (hk : isLst c = true) (od : Od X.kc F H p c) : tyV X.K "list" (.ref p) H := by
  unfold isLst at hk
  split at hk
  · obtain ⟨xs, hx, _⟩ := od
    exact .inl ⟨rfl, xs, SqL.of hx⟩
  · cases hk
theorem dm_append : DMut X "list" "append" "list.append" isLst gApp := ⟨PySem.F.plainAttrs_list, PySem.F.slot_list_append, PySem.F.type_list_append, _, mt_append, lst_ty, fun F H p c c' xs ds z e et f od dd q Q k => by
  unfold gApp at q
  split at q
  · rename_i ys y
    split at q
    · rename_i hl
      cases q
      obtain ⟨vs, hx, da⟩ := od
      cases dd with
      | cons d1 d2 =>
        cases d2
        exact ⟨p, vs, _, rfl, rfl, hx, by rw [VpAll.length da, sizeLine_eq]; exact hl, k F _ _ (.at e f) ⟨_, upd_same, VpAll.app da (.cons d1 .nil)⟩ ⟨_, rfl, .non⟩⟩
    · cases q
  · cases q⟩
end
end CM
end
section
set_option Elab.async false
set_option linter.all false
set_option maxRecDepth 100000
set_option autoImplicit false
namespace CM
open PySem PySem.Spec PyProof.Rows L2
abbrev FnP (K : PySem.W.Frag) (x q : Str) (st : Stmt) (f : Addr) (fd : FuncData) : Prop := FunD K x q (defArgs st) (defBody st) (defScope st) [] [] f fd
section
variable {P : Program} {w : World} {K : PySem.W.Frag} {mg : Str → Option Value} {base : Heap}
theorem fn_denD {x qual : Str} {st : Stmt} {f : Addr} {fd : FuncData} {N ps : List Str} {k : Nat} {ms : List Bool} {body : SF} (F : FnP K x qual st f fd) (S : FnScope N ps (defScope st)) (hl : ms.length = ps.length)
    (hbody : ∀ (cdv : Value) (A : Around) (outer : List PySem.Env) (s : Shared) (H : Hp) (E : XK), Room k (A.deeper (envOfC qual (defScope st) s.heap.objs.size f cdv)) →
      DSs (cxOf CX0 P w K mg base N qual (defScope st) f cdv A outer s H E).nox (defBody st) body) : FnOk P w K mg base CX0 (k + 1) f fd ps (spD ⟨K, mg, w⟩ ms (dDef N.length ms body)) := by
  obtain ⟨oc, od, dV, kV, doc, pm, an, cdv, ct, osl, e, lk, hcd, dd, kk⟩ := F.ex
  rcases dd with ⟨_, e2⟩ | ⟨z, _⟩
  · subst e2
    have F' : Fun K x qual st f fd := ⟨⟨oc, od, kV, doc, pm, an, cdv, ct, osl, e, lk, hcd⟩, F.kp⟩
    exact fn_den F' S hl hbody
  · exact absurd rfl z
structure Df (P : Program) (w : World) (K : PySem.W.Frag) (mg : Str → Option Value) (base : Heap) (k : Nat) (x : Str) (ms : List Bool) (g : DF) : Prop where
  ex : ∃ f fd ps, FnOk P w K mg base CX0 k f fd ps (spD ⟨K, mg, w⟩ ms g) ∧ mg x = some (.ref f) ∧ PySem.W.keepIn K (.ref f) = true ∧ Binds K fd ps []
end
section
variable {X : Cx} {e : Expr} {es : List Expr} {fs : List EF} {pos p : Pos} {q1 : Bool} {k : Nat} {x : Str} {ms : List Bool} {g : DF}
theorem de_callD (G : Df X.prog X.w X.K X.mg X.base k x ms g) (hr : Room k X.A) (hg : Gl X x) (ha : DA X q1 (e :: es) fs) (hdb : (x == ("__debug__" : Str)) = false := by decide) (he : starEach (e :: es) X.env = (false, eval e X.env) :: starEach es X.env := by rfl)
    (hpl : (backTo pos (starEach es X.env)).any (·.1) = false := by rfl) : DE X false (.Call (.Name x p) (e :: es) [] pos) (eCall g ms fs) := by
  obtain ⟨f, fd, ps, h1, h2, h3, h4⟩ := G.ex
  exact de_call h1 hr hg h2 h3 h4 pass0 ha hdb he hpl
end
theorem ints_vp {K : KC} {F : Fz} : ∀ ns : List Int, VpAll K F (ns.map V.int) (ns.map PyData.int)
  | [] => .nil
  | n :: ns => .cons (.int n) (ints_vp ns)
theorem law_sp {K : KC} {f : DF} (h : ∀ ns : List Int, ns.length ≤ 63 → ∃ st', f [.d (.list (ns.map PyData.int))] [] = some (.sh (.bool true), st')) (H : Hp) (a : Addr) (ns : List Int) (hl : ns.length ≤ 63) (hS : SqL K.K H a (ns.map V.int)) :
    spD K [false] f [.ref a] H (fun v _ => v = .bl true) fun _ _ _ => False := by
  obtain ⟨st', e⟩ := h ns hl
  refine ⟨⟨fun _ => none, fun _ => none⟩, [.d (.list (ns.map PyData.int))], [], _, st', (fun a o z => by cases z), ⟨?_, ?_, ?_, ?_, ?_, ?_, ?_, ?_, ?_, fun p n h => by cases h⟩, ⟨⟨a, _, rfl, ?_, ints_vp ns⟩, trivial⟩, e, fun F' H' v _ _ r => ?_⟩
  · intro p n q; cases q
  · intro p q t z _; cases z
  · intro p t q; cases q
  · intro p t q; cases q
  · intro p n f q; cases q
  · intro p n f q; cases q
  · intro p n f c q; cases q
  · intro p n f c q; cases q
  · intro p q n b w; cases w
  · exact hS
  · have r : Vp K F' v (.bool true) := r
    cases r
    rfl
end CM
end
section
set_option Elab.async false
set_option linter.all false
set_option maxRecDepth 100000
set_option autoImplicit false
namespace CM
open PySem
section
variable {g h : C → C → Option Res} {a b c : EF} {r r' : Env} {t : TF} {p : Pat} {it : IF} {f f' : SF} {i : Nat} {as : List EF} {st : Store} {sl : List Slot}
@[simp] theorem ev_put (sl : List Slot) (st : Store) (i : Nat) (s : Slot) : Env.put ⟨sl, st⟩ i s = ⟨sl.set i s, st⟩ := rfl
@[simp] theorem ev_c (x : D) (r : Env) : eC x r = some (.sh x, r) := rfl
@[simp] theorem ev_op : eOp g a b r = (a r).bind fun p => (stl p.1).bind fun x => (b p.2).bind fun q => (look q.2 x).bind fun u => (look q.2 q.1).bind fun v => (g u v).bind fun z => some (z, q.2) := rfl
@[simp] theorem ev_opF : eOpF g a b r = (a r).bind fun p => (b p.2).bind fun q => (look q.2 p.1).bind fun u => (look q.2 q.1).bind fun v => (g u v).bind fun z => some (z, q.2) := rfl
@[simp] theorem ev_un (g : C → Option Res) : eUn g a r = (a r).bind fun p => (look p.2 p.1).bind fun u => (g u).bind fun z => some (z, p.2) := rfl
@[simp] theorem ev_args0 : eArgs [] r = some ([], r) := rfl
@[simp] theorem ev_args1 : eArgs (a :: as) r = (a r).bind fun p => (stl p.1).bind fun x => (eArgs as p.2).bind fun q => some (x :: q.1, q.2) := rfl
@[simp] theorem ev_looks0 : looks r [] = some [] := rfl
@[simp] theorem ev_looks1 (x : Res) (xs : List Res) : looks r (x :: xs) = (look r x).bind fun c => (looks r xs).bind fun cs => some (c :: cs) := rfl
@[simp] theorem ev_shares0 : shares r [] = some ([], r) := rfl
@[simp] theorem ev_shares1 (x : Res) (xs : List Res) : shares r (x :: xs) = (toSh r x).bind fun p => (shares p.2 xs).bind fun q => some (p.1 :: q.1, q.2) := rfl
@[simp] theorem ev_tup : eTup as r = (eArgs as r).bind fun p => (shares p.2 p.1).bind fun q => some (.sh (.tuple q.1), q.2) := rfl
@[simp] theorem ev_lst : eLst as r = (eArgs as r).bind fun p => (shares p.2 p.1).bind fun q => some (.fr (.d (.list q.1)), q.2) := rfl
@[simp] theorem ev_pass0 : passes r [] [] = some ([], r) := rfl
@[simp] theorem ev_passT (ms : List Bool) (x : Res) (xs : List Res) : passes r (true :: ms) (x :: xs) = (toSh r x).bind fun p => (passes p.2 ms xs).bind fun q => some (.d p.1 :: q.1, q.2) := rfl
@[simp] theorem ev_passF (ms : List Bool) (x : Res) (xs : List Res) : passes r (false :: ms) (x :: xs) = (look r x).bind fun c => (passes r ms xs).bind fun q => some (c :: q.1, q.2) := rfl
@[simp] theorem ev_call (f : DF) (ms : List Bool) : eCall f ms as r = (eArgs as r).bind fun p => (passes p.2 ms p.1).bind fun q => (f q.1 q.2.st).bind fun z => some (z.1, ⟨q.2.sl, z.2⟩) := rfl
@[simp] theorem ev_stl_sh (x : D) : stl (.sh x) = some (.sh x) := rfl
@[simp] theorem ev_stl_sl : stl (.sl i) = some (.sl i) := rfl
@[simp] theorem ev_stl_fr (x : D) : stl (.fr (.d x)) = some (.sh x) := rfl
@[simp] theorem ev_look_sh (x : D) : look r (.sh x) = some (.d x) := rfl
@[simp] theorem ev_look_fr (c : C) : look r (.fr c) = some c := rfl
@[simp] theorem ev_toSh_sh (x : D) : toSh r (.sh x) = some (x, r) := rfl
@[simp] theorem ev_toSh_fr (x : D) : toSh r (.fr (.d x)) = some (x, r) := rfl
def slotC : Slot → Option C
  | .sh x => some (.d x)
  | .bo c => some c
  | .ow c => some c
  | .lk c => some c
  | .no => none
@[simp] theorem slotC_sh (x : D) : slotC (.sh x) = some (.d x) := rfl
@[simp] theorem slotC_bo (x : C) : slotC (.bo x) = some x := rfl
@[simp] theorem slotC_ow (x : C) : slotC (.ow x) = some x := rfl
@[simp] theorem slotC_lk (x : C) : slotC (.lk x) = some x := rfl
@[simp] theorem ev_var : eVar i r = ((r.sl[i]?).bind slotC).bind fun _ => some (.sl i, r) := by
  unfold eVar
  cases r.sl[i]? with
  | none => rfl
  | some s => cases s <;> rfl
@[simp] theorem ev_look_sl : look r (.sl i) = (r.sl[i]?).bind slotC := by
  unfold look
  dsimp only
  cases r.sl[i]? with
  | none => rfl
  | some s => cases s <;> rfl
def slotD (r : Env) (i : Nat) : Slot → Option (D × Env)
  | .sh x => some (x, r)
  | .ow (.d x) => some (x, r.put i (.sh x))
  | _ => none
@[simp] theorem slotD_sh (x : D) : slotD r i (.sh x) = some (x, r) := rfl
@[simp] theorem slotD_ow (x : D) : slotD r i (.ow (.d x)) = some (x, r.put i (.sh x)) := rfl
@[simp] theorem ev_toSh_sl : toSh r (.sl i) = (r.sl[i]?).bind (slotD r i) := by
  unfold toSh
  dsimp only
  cases r.sl[i]? with
  | none => rfl
  | some s =>
    cases s with
    | ow c => cases c <;> rfl
    | _ => rfl
def slotK (r : Env) (i j : Nat) : Slot → Option Env
  | .sh x => some (r.put i (.sh x))
  | .ow (.d x) => some ((r.put j (.sh x)).put i (.sh x))
  | _ => none
@[simp] theorem slotK_sh (x : D) (j : Nat) : slotK r i j (.sh x) = some (r.put i (.sh x)) := rfl
@[simp] theorem slotK_ow (x : D) (j : Nat) : slotK r i j (.ow (.d x)) = some ((r.put j (.sh x)).put i (.sh x)) := rfl
@[simp] theorem ev_keep_sh (x : D) : keep i r (.sh x) = some (r.put i (.sh x)) := rfl
@[simp] theorem ev_keep_fr (c : C) : keep i r (.fr c) = some (r.put i (.ow c)) := rfl
@[simp] theorem ev_keep_sl (j : Nat) : keep i r (.sl j) = (r.sl[j]?).bind (slotK r i j) := by
  unfold keep
  dsimp only
  cases r.sl[j]? with
  | none => rfl
  | some s =>
    cases s with
    | ow c => cases c <;> rfl
    | _ => rfl
def slotG : Slot → Option Res
  | .sh x => some (.sh x)
  | .ow c => some (.fr c)
  | _ => none
@[simp] theorem slotG_sh (x : D) : slotG (.sh x) = some (.sh x) := rfl
@[simp] theorem slotG_ow (c : C) : slotG (.ow c) = some (.fr c) := rfl
@[simp] theorem ev_give_sh (x : D) : give r (.sh x) = some (.sh x) := rfl
@[simp] theorem ev_give_fr (c : C) : give r (.fr c) = some (.fr c) := rfl
@[simp] theorem ev_give_sl : give r (.sl i) = (r.sl[i]?).bind slotG := by
  unfold give
  dsimp only
  cases r.sl[i]? with
  | none => rfl
  | some s => cases s <;> rfl
def boolC : C → Option Bool
  | .d (.bool b) => some b
  | _ => none
@[simp] theorem boolC_b (b : Bool) : boolC (.d (.bool b)) = some b := rfl
@[simp] theorem ev_tE : tE a r = (a r).bind fun p => ((look p.2 p.1).bind boolC).bind fun b => some (b, p.2) := by
  unfold tE
  cases a r with
  | none => rfl
  | some p =>
    show (match look p.2 p.1 with | some (.d (.bool b)) => some (b, p.2) | _ => none) = _
    show _ = ((look p.2 p.1).bind boolC).bind fun b => some (b, p.2)
    cases look p.2 p.1 with
    | none => rfl
    | some c =>
      cases c with
      | d x => cases x <;> rfl
      | _ => rfl
@[simp] theorem ev_tAnd (t u : TF) : tAndD t u r = (t r).bind fun p => if p.1 = true then u p.2 else some (false, p.2) := rfl
@[simp] theorem ev_tOr (t u : TF) : tOrD t u r = (t r).bind fun p => if p.1 = true then some (true, p.2) else u p.2 := rfl
@[simp] theorem ev_tNot (t : TF) : tNotD t r = (t r).bind fun p => some (!p.1, p.2) := rfl
@[simp] theorem ev_tYes : tYesD r = some (true, r) := rfl
@[simp] theorem ev_and : eAnd a b r = (tE a r).bind fun p => if p.1 = true then b p.2 else some (.sh (.bool false), p.2) := rfl
@[simp] theorem ev_not : eNot a r = (tE a r).bind fun p => some (.sh (.bool !p.1), p.2) := rfl
@[simp] theorem ev_next : sNext r = some (.nx, r) := rfl
def seqK (g : SF) : Flow × Env → Option (Flow × Env)
  | (.nx, r) => g r
  | (f, r) => some (f, r)
@[simp] theorem seqK_nx (g : SF) : seqK g (.nx, r) = g r := rfl
@[simp] theorem seqK_bk (g : SF) : seqK g (.bk, r) = some (.bk, r) := rfl
@[simp] theorem seqK_ct (g : SF) : seqK g (.ct, r) = some (.ct, r) := rfl
@[simp] theorem seqK_rt (g : SF) (z : Res) : seqK g (.rt z, r) = some (.rt z, r) := rfl
@[simp] theorem ev_seq : sSeq f f' r = (f r).bind (seqK f') := by
  unfold sSeq
  cases f r with
  | none => rfl
  | some p =>
    obtain ⟨fl, q⟩ := p
    cases fl <;> rfl
@[simp] theorem ev_drop : sDrop a r = (a r).bind fun p => some (.nx, p.2) := rfl
@[simp] theorem ev_set : sSet i a r = (a r).bind fun p => (keep i p.2 p.1).bind fun r' => some (.nx, r') := rfl
@[simp] theorem ev_bind : sBind p a r = (a r).bind fun q => (toSh q.2 q.1).bind fun y => (bindP p y.1 y.2).bind fun r' => some (.nx, r') := rfl
@[simp] theorem ev_ret : sRet a r = (a r).bind fun p => (give p.2 p.1).bind fun x => some (.rt x, p.2) := rfl
@[simp] theorem ev_sif (t : TF) : sIf t f f' r = (t r).bind fun p => if p.1 = true then f p.2 else f' p.2 := rfl
@[simp] theorem ev_bindV (i : Nat) (x : D) : bindP (.v i) x r = some (r.put i (.sh x)) := rfl
@[simp] theorem ev_bindT (is : List Nat) (xs : List D) : bindP (.t is) (.tuple xs) r = setAll is xs r := rfl
@[simp] theorem ev_setAll0 : setAll [] [] r = some r := rfl
@[simp] theorem ev_setAll1 (i : Nat) (is : List Nat) (x : D) (xs : List D) : setAll (i :: is) (x :: xs) r = setAll is xs (r.put i (.sh x)) := rfl
@[simp] theorem ev_for : sFor p it f r = (it r).bind fun q => (runFor p f q.1 (lock q.2.1 q.2.2)).bind fun z => some (z.1, unlock q.2.1 z.2) := rfl
@[simp] theorem ev_lock0 : lock .no r = r := rfl
@[simp] theorem ev_unlock0 : unlock .no r = r := rfl
def lockS (r : Env) (i : Nat) : Option Slot → Env
  | some (.ow c) => r.put i (.lk c)
  | _ => r
@[simp] theorem lockS_ow (c : C) : lockS r i (some (.ow c)) = r.put i (.lk c) := rfl
@[simp] theorem ev_lock1 : lock (.sl i) r = lockS r i r.sl[i]? := by
  unfold lock lockS
  rfl
def unlockS (r : Env) (i : Nat) : Option Slot → Env
  | some (.lk c) => r.put i (.ow c)
  | _ => r
@[simp] theorem unlockS_lk (c : C) : unlockS r i (some (.lk c)) = r.put i (.ow c) := rfl
@[simp] theorem ev_unlock1 : unlock (.sl i) r = unlockS r i r.sl[i]? := by
  unfold unlock unlockS
  rfl
def forK (p : Pat) (f : SF) (xs : List D) : Flow × Env → Option (Flow × Env)
  | (.nx, r) => runFor p f xs r
  | (.ct, r) => runFor p f xs r
  | (.bk, r) => some (.nx, r)
  | (.rt z, r) => some (.rt z, r)
@[simp] theorem forK_nx (xs : List D) : forK p f xs (.nx, r) = runFor p f xs r := rfl
@[simp] theorem forK_ct (xs : List D) : forK p f xs (.ct, r) = runFor p f xs r := rfl
@[simp] theorem forK_bk (xs : List D) : forK p f xs (.bk, r) = some (.nx, r) := rfl
@[simp] theorem forK_rt (xs : List D) (z : Res) : forK p f xs (.rt z, r) = some (.rt z, r) := rfl
theorem runFor_cons (x : D) (xs : List D) : runFor p f (x :: xs) r = (bindP p x r).bind fun r1 => (f r1).bind (forK p f xs) := by
  rw [runFor]
  cases bindP p x r with
  | none => rfl
  | some r1 =>
    show (f r1).bind _ = (f r1).bind _
    cases f r1 with
    | none => rfl
    | some q =>
      obtain ⟨fl, q⟩ := q
      cases fl <;> rfl
@[simp] theorem ev_seqI : iSeq a r = (a r).bind fun p => (lendOf p.2 p.1).bind fun q => (asSeqC q.1).bind fun ds => some (ds, q.2, p.2) := rfl
@[simp] theorem asSeqC_l (ds : List D) : asSeqC (.d (.list ds)) = some ds := rfl
@[simp] theorem asSeqC_t (ds : List D) : asSeqC (.d (.tuple ds)) = some ds := rfl
@[simp] theorem ev_lend_sh (x : D) : lendOf r (.sh x) = some (.d x, .no) := rfl
@[simp] theorem ev_lend_fr (x : D) : lendOf r (.fr (.d x)) = some (.d x, .no) := rfl
def slotL (i : Nat) : Slot → Option (C × Lk)
  | .sh x => some (.d x, .no)
  | .bo c => some (c, .no)
  | .lk c => some (c, .no)
  | .ow c => some (c, .sl i)
  | .no => none
@[simp] theorem slotL_sh (x : D) : slotL i (.sh x) = some (.d x, .no) := rfl
@[simp] theorem slotL_bo (c : C) : slotL i (.bo c) = some (c, .no) := rfl
@[simp] theorem slotL_lk (c : C) : slotL i (.lk c) = some (c, .no) := rfl
@[simp] theorem slotL_ow (c : C) : slotL i (.ow c) = some (c, .sl i) := rfl
@[simp] theorem ev_lend_sl : lendOf r (.sl i) = (r.sl[i]?).bind (slotL i) := by
  unfold lendOf
  dsimp only
  cases r.sl[i]? with
  | none => rfl
  | some s => cases s <;> rfl
def capK (ds : List D) : Option Unit := if ds.length < 16777216 then some () else none
@[simp] theorem capK_ok {ds : List D} (h : ds.length < 16777216) : capK ds = some () := if_pos h
@[simp] theorem ev_lc (own : List Nat) : eLc own p it t a r = (it r).bind fun q => (capK q.1).bind fun _ => (runComp own p t a q.1 (wipeE (lock q.2.1 q.2.2) own)).bind fun z => some (.fr (.d (.list z.1)), unlock q.2.1 (unwipe (lock q.2.1 q.2.2) z.2 own)) := by
  unfold eLc
  cases it r with
  | none => rfl
  | some q =>
    show (if q.1.length < 16777216 then _ else none) = (capK q.1).bind _
    unfold capK
    split <;> rfl
@[simp] theorem ev_wipe0 : wipeE r [] = r := rfl
@[simp] theorem ev_wipe1 (i : Nat) (is : List Nat) : wipeE r (i :: is) = (wipeE r is).put i .no := rfl
@[simp] theorem ev_unwipe0 (old : Env) : unwipe old r [] = r := rfl
@[simp] theorem ev_unwipe1 (old : Env) (i : Nat) (is : List Nat) : unwipe old r (i :: is) = (unwipe old r is).put i (oldSlot old i) := rfl
def slotO : Option Slot → Slot
  | some (.sh x) => .sh x
  | some (.bo c) => .bo c
  | _ => .no
@[simp] theorem slotO_sh (x : D) : slotO (some (.sh x)) = .sh x := rfl
@[simp] theorem slotO_bo (x : C) : slotO (some (.bo x)) = .bo x := rfl
@[simp] theorem slotO_no : slotO (some .no) = .no := rfl
@[simp] theorem slotO_ow (c : C) : slotO (some (.ow c)) = .no := rfl
@[simp] theorem slotO_lk (c : C) : slotO (some (.lk c)) = .no := rfl
@[simp] theorem slotO_none : slotO none = .no := rfl
@[simp] theorem ev_old : oldSlot r i = slotO r.sl[i]? := by
  unfold oldSlot slotO
  rfl
theorem runComp_cons (vs : List Nat) (x : D) (xs : List D) : runComp vs p t a (x :: xs) r = (bindP p x r).bind fun r1 => (t r1).bind fun b => if b.1 = true then
      (a b.2).bind fun p' => (toSh p'.2 p'.1).bind fun y => (runComp vs p t a xs (wipeE y.2 vs)).bind fun z => some (y.1 :: z.1, z.2)
    else runComp vs p t a xs (wipeE b.2 vs) := rfl
theorem ev_def (n : Nat) (ms : List Bool) (cs : List C) : dDef n ms f cs st = (argSlots ms cs).bind fun r => (f ⟨r ++ List.replicate (n - r.length) .no, st⟩).bind fun p => match p.1 with
    | .nx => some (.sh .none, p.2.st)
    | .rt z => some (z, p.2.st)
    | _ => none := rfl
def defK : Flow × Env → Option (Res × Store)
  | (.nx, r) => some (.sh .none, r.st)
  | (.rt z, r) => some (z, r.st)
  | _ => none
@[simp] theorem defK_nx : defK (.nx, r) = some (.sh .none, r.st) := rfl
@[simp] theorem defK_rt (z : Res) : defK (.rt z, r) = some (z, r.st) := rfl
@[simp] theorem ev_defK (n : Nat) (ms : List Bool) (cs : List C) : dDef n ms f cs st = (argSlots ms cs).bind fun r => (f ⟨r ++ List.replicate (n - r.length) .no, st⟩).bind defK := by
  rw [ev_def]
  cases argSlots ms cs with
  | none => rfl
  | some r =>
    show (f _).bind _ = (f _).bind _
    cases f ⟨r ++ List.replicate (n - r.length) .no, st⟩ with
    | none => rfl
    | some q =>
      obtain ⟨fl, q⟩ := q
      cases fl <;> rfl
@[simp] theorem ev_as0 : argSlots [] [] = some [] := rfl
@[simp] theorem ev_as1 (m : Bool) (ms : List Bool) (c : C) (cs : List C) : argSlots (m :: ms) (c :: cs) = (argSlot m c).bind fun s => (argSlots ms cs).bind fun r => some (s :: r) := rfl
@[simp] theorem ev_asT (x : D) : argSlot true (.d x) = some (.sh x) := rfl
@[simp] theorem ev_asL (x : List D) : argSlot false (.d (.list x)) = some (.bo (.d (.list x))) := rfl
@[simp] theorem ev_asT' (x : List D) : argSlot false (.d (.tuple x)) = some (.sh (.tuple x)) := rfl
@[simp] theorem ev_asI (x : Int) : argSlot false (.d (.int x)) = some (.sh (.int x)) := rfl
@[simp] theorem ev_asS (x : Str) : argSlot false (.d (.str x)) = some (.sh (.str x)) := rfl
@[simp] theorem ev_asB (x : Bool) : argSlot false (.d (.bool x)) = some (.sh (.bool x)) := rfl
@[simp] theorem ev_asN : argSlot false (.d .none) = some (.sh .none) := rfl
@[simp] theorem ev_asD (x : List (PyData × PyData)) : argSlot false (.d (.dict x)) = some (.sh (.dict x)) := rfl
@[simp] theorem ev_asK (x : List (Ky × D)) : argSlot false (.dk x) = some (.bo (.dk x)) := rfl
@[simp] theorem ev_asDT (x : List (List Ky × D)) : argSlot false (.dt x) = some (.bo (.dt x)) := rfl
def intC : C → Option Int
  | .d (.int i) => some i
  | _ => none
@[simp] theorem intC_i (i : Int) : intC (.d (.int i)) = some i := rfl
@[simp] theorem ev_part0 : ePart none r = some (none, r) := rfl
@[simp] theorem ev_part1 : ePart (some a) r = (a r).bind fun p => ((look p.2 p.1).bind intC).bind fun i => some (some i, p.2) := by
  show (a r).bind _ = (a r).bind _
  cases a r with
  | none => rfl
  | some p =>
    show (match look p.2 p.1 with | some (.d (.int i)) => some (some i, p.2) | _ => none) = ((look p.2 p.1).bind intC).bind fun i => some (some i, p.2)
    cases look p.2 p.1 with
    | none => rfl
    | some c =>
      cases c with
      | d x => cases x <;> rfl
      | _ => rfl
@[simp] theorem ev_sl (lo hi : Option EF) : eSl a lo hi r = (a r).bind fun p => (stl p.1).bind fun x => (ePart lo p.2).bind fun l => (ePart hi l.2).bind fun h => (look h.2 x).bind fun c => (gSl c l.1 h.1).bind fun z => some (z, h.2) := rfl
def rg1K (j : Int) : Option (List D) := if j.natAbs ≤ 1000000 then some (rgD 0 j.toNat) else none
@[simp] theorem rg1K_ok {j : Int} (h : -1000000 ≤ j ∧ j ≤ 1000000) : rg1K j = some (rgD 0 j.toNat) := if_pos (by omega)
def rg2K (i j : Int) : Option (List D) := if i.natAbs ≤ 1000000 ∧ j.natAbs ≤ 1000000 then some (rgD i (j - i).toNat) else none
@[simp] theorem rg2K_ok {i j : Int} (h : -1000000 ≤ i ∧ i ≤ 1000000 ∧ -1000000 ≤ j ∧ j ≤ 1000000) : rg2K i j = some (rgD i (j - i).toNat) := if_pos ⟨by omega, by omega⟩
@[simp] theorem ev_rg1 : iRg [a] r = (a r).bind fun p => (stl p.1).bind fun x => ((look p.2 x).bind intC).bind fun j => (rg1K j).bind fun ds => some (ds, .no, p.2) := by
  unfold iRg
  simp only [ev_args1, ev_args0]
  cases a r with
  | none => rfl
  | some p =>
    simp only [Option.bind_some]
    cases stl p.1 with
    | none => rfl
    | some x =>
      simp only [Option.bind_some, ev_looks1, ev_looks0]
      cases look p.2 x with
      | none => rfl
      | some c =>
        cases c with
        | d y =>
          cases y with
          | int j =>
            show (if j.natAbs ≤ 1000000 then some (rgD 0 j.toNat, Lk.no, p.2) else none) = (rg1K j).bind _
            unfold rg1K
            split <;> rfl
          | _ => rfl
        | _ => rfl
@[simp] theorem ev_rg2 : iRg [a, b] r = (a r).bind fun p => (stl p.1).bind fun x => (b p.2).bind fun q => (stl q.1).bind fun y => ((look q.2 x).bind intC).bind fun i => ((look q.2 y).bind intC).bind fun j => (rg2K i j).bind fun ds => some (ds, .no, q.2) := by
  unfold iRg
  simp only [ev_args1, ev_args0]
  cases a r with
  | none => rfl
  | some p =>
    simp only [Option.bind_some]
    cases stl p.1 with
    | none => rfl
    | some x =>
      simp only [Option.bind_some]
      cases b p.2 with
      | none => rfl
      | some q =>
        simp only [Option.bind_some]
        cases stl q.1 with
        | none => rfl
        | some y =>
          simp only [Option.bind_some, ev_looks1, ev_looks0]
          cases look q.2 x with
          | none => rfl
          | some c =>
            cases look q.2 y with
            | none => cases c with
              | d z => cases z <;> rfl
              | _ => rfl
            | some c' =>
              cases c with
              | d z =>
                cases z with
                | int i =>
                  cases c' with
                  | d z' =>
                    cases z' with
                    | int j =>
                      show (if i.natAbs ≤ 1000000 ∧ j.natAbs ≤ 1000000 then some (rgD i (j - i).toNat, Lk.no, q.2) else none) = (rg2K i j).bind _
                      unfold rg2K
                      split <;> rfl
                    | _ => rfl
                  | _ => rfl
                | _ => rfl
              | _ => rfl
def ownS : Slot → Option C
  | .ow c => some c
  | _ => none
@[simp] theorem ownS_ow (c : C) : ownS (.ow c) = some c := rfl
@[simp] theorem ev_own : ownAt r (.sl i) = (r.sl[i]?).bind ownS := by
  unfold ownAt
  dsimp only
  cases r.sl[i]? with
  | none => rfl
  | some s => cases s <;> rfl
@[simp] theorem ev_ownPut (c : C) : ownPut r c (.sl i) = r.put i (.ow c) := rfl
@[simp] theorem ev_mut (k : C → Bool) (g : C → List D → Option (Res × C)) (q : Pl) : eMut k g q as r = (ownAt r q).bind fun c0 => if k c0 = true then
  (eArgs as r).bind fun p => (shares p.2 p.1).bind fun y => (ownAt y.2 q).bind fun c => (g c y.1).bind fun z => some (z.1, ownPut y.2 z.2 q)
  else none := rfl
@[simp] theorem isLst_l (xs : List D) : isLst (.d (.list xs)) = true := rfl
@[simp] theorem ev_app {xs : List D} {y : D} (h : xs.length < 16777216) : gApp (.d (.list xs)) [y] = some (.sh .none, .d (.list (xs ++ [y]))) := if_pos h
@[simp] theorem at0 {α : Type} (x : α) (xs : List α) : atD (x :: xs) 0 = some x := by
  unfold atD plc
  rw [if_pos (by decide), if_pos (by simp only [List.length_cons]; omega)]
  rfl
@[simp] theorem at1 {α : Type} (x y : α) (xs : List α) : atD (x :: y :: xs) 1 = some y := by
  unfold atD plc
  rw [if_pos (by decide), if_pos (by simp only [List.length_cons]; omega)]
  rfl
@[simp] theorem at2 {α : Type} (x y z : α) (xs : List α) : atD (x :: y :: z :: xs) 2 = some z := by
  unfold atD plc
  rw [if_pos (by decide), if_pos (by simp only [List.length_cons]; omega)]
  rfl
@[simp] theorem at3 {α : Type} (x y z w : α) (xs : List α) : atD (x :: y :: z :: w :: xs) 3 = some w := by
  unfold atD plc
  rw [if_pos (by decide), if_pos (by simp only [List.length_cons]; omega)]
  rfl
@[simp] theorem at4 {α : Type} (x y z w u : α) (xs : List α) : atD (x :: y :: z :: w :: u :: xs) 4 = some u := by
  unfold atD plc
  rw [if_pos (by decide), if_pos (by simp only [List.length_cons]; omega)]
  rfl
@[simp] theorem gAdd_i (i j : Int) : gAdd (.d (.int i)) (.d (.int j)) = some (.sh (.int (i + j))) := rfl
@[simp] theorem gAdd_s {x y : Str} (h : x.cps.size + y.cps.size ≤ 16777216) : gAdd (.d (.str x)) (.d (.str y)) = some (.sh (.str ⟨x.cps ++ y.cps⟩)) := if_pos h
@[simp] theorem gAdd_t {x y : List D} (h : x.length + y.length ≤ 16777216) : gAdd (.d (.tuple x)) (.d (.tuple y)) = some (.sh (.tuple (x ++ y))) := if_pos h
@[simp] theorem gAdd_l {x y : List D} (h : x.length + y.length ≤ 16777216) : gAdd (.d (.list x)) (.d (.list y)) = some (.fr (.d (.list (x ++ y)))) := if_pos h
@[simp] theorem gSub_i (i j : Int) : gSub (.d (.int i)) (.d (.int j)) = some (.sh (.int (i - j))) := rfl
@[simp] theorem gMul_i {i j : Int} (h : i.natAbs < 18446744073709551616 ∨ j.natAbs < 18446744073709551616) : gMul (.d (.int i)) (.d (.int j)) = some (.sh (.int (i * j))) := if_pos h
@[simp] theorem gMul_s {x : Str} {n : Int} (h : 0 ≤ n ∧ n ≤ 1000 ∧ 1 ≤ x.cps.size ∧ x.cps.size ≤ 1000) : gMul (.d (.str x)) (.d (.int n)) = some (.sh (.str ⟨(List.replicate n.toNat x.cps).foldl (· ++ ·) #[]⟩)) := if_pos h
theorem log2_small {n : Nat} (h : n ≤ 10 ^ 200) : n.log2 < 9000 := by
  rcases Nat.eq_zero_or_pos n with z | z
  · subst z; decide
  · refine (Nat.log2_lt (by omega)).mpr (Nat.lt_of_le_of_lt h ?_)
    exact Nat.lt_of_lt_of_le (Nat.pow_lt_pow_left (by decide : 10 < 16) (by decide)) (by
      rw [show (16 : Nat) = 2 ^ 4 from rfl, ← Nat.pow_mul]
      exact Nat.pow_le_pow_right (by decide) (by decide))
@[simp] theorem gDiv_i {i j : Int} (h0 : 0 < j) (h1 : j ≤ 10 ^ 200) : gDiv (.d (.int i)) (.d (.int j)) = some (.sh (.int (i / j))) := by
  show (if 0 < j ∧ j.natAbs.log2 < 9000 then some (Res.sh (.int (i / j))) else none) = _
  rw [if_pos ⟨h0, log2_small (by
    have e : ((10 ^ 200 : Nat) : Int) = 10 ^ 200 := by rw [Int.natCast_pow]; rfl
    generalize hN : (10 ^ 200 : Nat) = N at *
    omega)⟩]
@[simp] theorem mod_abs {i m : Int} (h0 : 0 < m) (h1 : m < 18446744073709551616) : (i % m).natAbs < 18446744073709551616 := by
  have := Int.emod_nonneg i (Int.ne_of_gt h0)
  have := Int.emod_lt_of_pos i h0
  omega
@[simp] theorem gMod_i {i j : Int} (h : 0 < j) : gMod (.d (.int i)) (.d (.int j)) = some (.sh (.int (i % j))) := if_pos h
@[simp] theorem gPow_i {i j : Int} (h : 0 ≤ j ∧ j ≤ 1000000 ∧ i.natAbs < 18446744073709551616) : gPow (.d (.int i)) (.d (.int j)) = some (.sh (.int (i ^ j.toNat))) := if_pos h
@[simp] theorem gEq_d {x y : D} (h : shallow x y = true) : gEq (.d x) (.d y) = shB (PyData.eqv x y) := if_pos h
@[simp] theorem gNe_d {x y : D} (h : shallow x y = true) : gNe (.d x) (.d y) = shB (!PyData.eqv x y) := if_pos h
@[simp] theorem gCmp_d {o : O4} {x y : D} (h : shallow x y = true) : gCmp o (.d x) (.d y) = (cmpD o x y).bind shB := if_pos h
@[simp] theorem shallow_i (i : Int) (y : D) : shallow (.int i) y = nod y := by
  unfold shallow
  rw [show decide (min (PyData.int i).depth y.depth ≤ 60) = true from decide_eq_true (by simp [PyData.depth])]
  simp [nod]
@[simp] theorem shallow_s (i : Str) (y : D) : shallow (.str i) y = nod y := by
  unfold shallow
  rw [show decide (min (PyData.str i).depth y.depth ≤ 60) = true from decide_eq_true (by simp [PyData.depth])]
  simp [nod]
@[simp] theorem shallow_b (i : Bool) (y : D) : shallow (.bool i) y = nod y := by
  unfold shallow
  rw [show decide (min (PyData.bool i).depth y.depth ≤ 60) = true from decide_eq_true (by simp [PyData.depth])]
  simp [nod]
@[simp] theorem shallow_n (y : D) : shallow .none y = nod y := by
  unfold shallow
  rw [show decide (min (PyData.none).depth y.depth ≤ 60) = true from decide_eq_true (by simp [PyData.depth])]
  simp [nod]
@[simp] theorem nod_i (i : Int) : nod (.int i) = true := rfl
@[simp] theorem nod_s (i : Str) : nod (.str i) = true := rfl
@[simp] theorem nod_b (i : Bool) : nod (.bool i) = true := rfl
@[simp] theorem nod_n : nod .none = true := rfl
@[simp] theorem eqv_ii (i j : Int) : PyData.eqv (.int i) (.int j) = (i == j) := by rw [PyData.eqv]
@[simp] theorem eqv_ss (i j : Str) : PyData.eqv (.str i) (.str j) = (i == j) := by rw [PyData.eqv]
@[simp] theorem eqv_nn : PyData.eqv .none .none = true := by rw [PyData.eqv]
@[simp] theorem cmp_ii (o : O4) (i j : Int) : cmpD o (.int i) (.int j) = some (o.int i j) := by rw [cmpD]
@[simp] theorem cmp_ss (o : O4) (i j : Str) : cmpD o (.str i) (.str j) = some (o.tx i.cps.toList j.cps.toList) := by rw [cmpD]
@[simp] theorem o4_lt (i j : Int) : O4.int .lt i j = decide (i < j) := rfl
@[simp] theorem o4_le (i j : Int) : O4.int .le i j = decide (i ≤ j) := rfl
@[simp] theorem o4_gt (i j : Int) : O4.int .gt i j = decide (j < i) := rfl
@[simp] theorem o4_ge (i j : Int) : O4.int .ge i j = decide (j ≤ i) := rfl
@[simp] theorem shB_b (b : Bool) : shB b = some (.sh (.bool b)) := rfl
@[simp] theorem gIsN_n (a : C) : gIsN a (.d .none) = shB (isNonC a) := rfl
@[simp] theorem isNonC_n : isNonC (.d .none) = true := rfl
@[simp] theorem isNonC_t (x : List D) : isNonC (.d (.tuple x)) = false := rfl
@[simp] theorem isNonC_i (x : Int) : isNonC (.d (.int x)) = false := rfl
@[simp] theorem isNonC_s (x : Str) : isNonC (.d (.str x)) = false := rfl
@[simp] theorem isNonC_l (x : List D) : isNonC (.d (.list x)) = false := rfl
@[simp] theorem isNonC_d (x : List (D × D)) : isNonC (.d (.dict x)) = false := rfl
@[simp] theorem gIn_l {x : D} {ys : List D} (h : shallowAll x ys = true) : gIn (.d x) (.d (.list ys)) = shB (inDs x ys) := if_pos h
@[simp] theorem gIn_t {x : D} {ys : List D} (h : shallowAll x ys = true) : gIn (.d x) (.d (.tuple ys)) = shB (inDs x ys) := if_pos h
@[simp] theorem gNotIn_l {x : D} {ys : List D} (h : shallowAll x ys = true) : gNotIn (.d x) (.d (.list ys)) = shB (!inDs x ys) := if_pos h
@[simp] theorem gNotIn_t {x : D} {ys : List D} (h : shallowAll x ys = true) : gNotIn (.d x) (.d (.tuple ys)) = shB (!inDs x ys) := if_pos h
@[simp] theorem gIx_l (xs : List D) (i : Int) : gIx (.d (.list xs)) (.d (.int i)) = (atD xs i).bind fun x => some (.sh x) := rfl
@[simp] theorem gIx_t (xs : List D) (i : Int) : gIx (.d (.tuple xs)) (.d (.int i)) = (atD xs i).bind fun x => some (.sh x) := rfl
@[simp] theorem gIx_s {x : Str} {i : Int} (h : x.cps.size ≤ 16777216) : gIx (.d (.str x)) (.d (.int i)) = (atD x.cps.toList i).bind fun c => some (.sh (.str ⟨#[c]⟩)) := if_pos h
@[simp] theorem gSl_l (xs : List D) (lo hi : Option Int) : gSl (.d (.list xs)) lo hi = some (.fr (.d (.list (cutL xs lo hi)))) := rfl
@[simp] theorem gSl_t (xs : List D) (lo hi : Option Int) : gSl (.d (.tuple xs)) lo hi = some (.sh (.tuple (cutL xs lo hi))) := rfl
@[simp] theorem gSl_s {x : Str} {lo hi : Option Int} (h : x.cps.size ≤ 16777216) : gSl (.d (.str x)) lo hi = some (.sh (.str ⟨(cutL x.cps.toList lo hi).toArray⟩)) := if_pos h
@[simp] theorem gLen_l (xs : List D) : gLen [.d (.list xs)] = some (.sh (.int xs.length)) := rfl
@[simp] theorem gLen_t (xs : List D) : gLen [.d (.tuple xs)] = some (.sh (.int xs.length)) := rfl
@[simp] theorem gLen_s {x : Str} (h : x.cps.size ≤ 16777216) : gLen [.d (.str x)] = some (.sh (.int x.cps.size)) := if_pos h
@[simp] theorem gLen_kt (xs : List (List Ky × D)) : gLen [.dt xs] = some (.sh (.int xs.length)) := rfl
@[simp] theorem gLen_k (xs : List (Ky × D)) : gLen [.dk xs] = some (.sh (.int xs.length)) := rfl
@[simp] theorem gList_l (xs : List D) : gList [.d (.list xs)] = some (.fr (.d (.list xs))) := rfl
@[simp] theorem gList_t (xs : List D) : gList [.d (.tuple xs)] = some (.fr (.d (.list xs))) := rfl
@[simp] theorem gTuple_l (xs : List D) : gTuple [.d (.list xs)] = some (.sh (.tuple xs)) := rfl
@[simp] theorem gTuple_t (xs : List D) : gTuple [.d (.tuple xs)] = some (.sh (.tuple xs)) := rfl
@[simp] theorem gSorted_l {xs : List D} (h : sortB xs = true) : gSorted [.d (.list xs)] = some (.fr (.d (.list (sortD xs)))) := if_pos h
@[simp] theorem gNeg_i (i : Int) : gNeg (.d (.int i)) = some (.sh (.int (-i))) := rfl
@[simp] theorem ev_chain (g h : C → C → Option Res) : eChain g h a b c r = (a r).bind fun p => (stl p.1).bind fun x => (b p.2).bind fun q => (stl q.1).bind fun y => (look q.2 x).bind fun u => (look q.2 y).bind fun v => (g u v).bind fun z => match z with
    | .sh (.bool true) => (c q.2).bind fun s => (look s.2 y).bind fun v => (look s.2 s.1).bind fun w => (h v w).bind fun z => some (z, s.2)
    | .sh (.bool false) => some (.sh (.bool false), q.2)
    | _ => none := rfl
end
end CM
end
section
set_option Elab.async false
set_option linter.all false
set_option maxRecDepth 100000
set_option autoImplicit false
namespace CM
open PySem
mutual
def pln : D → Bool
  | .dict _ => false
  | .bool _ => false
  | .list xs => plns xs
  | .tuple xs => plns xs
  | _ => true
def plns : List D → Bool
  | [] => true
  | x :: xs => pln x && plns xs
end
theorem plns_iff {xs : List D} : plns xs = true ↔ ∀ x ∈ xs, pln x = true := by
  induction xs with
  | nil => simp [plns]
  | cons x xs ih => simp [plns, ih]
theorem nods_iff {xs : List D} : nods xs = true ↔ ∀ x ∈ xs, nod x = true := by
  induction xs with
  | nil => simp [nods]
  | cons x xs ih => simp [nods, ih]
mutual
theorem pln_nod : ∀ d : D, pln d = true → nod d = true
  | .none, _ => rfl
  | .int _, _ => rfl
  | .str _, _ => rfl
  | .bool _, _ => rfl
  | .dict _, h => by simp [pln] at h
  | .list xs, h => by rw [pln] at h; rw [nod]; exact plns_nods xs h
  | .tuple xs, h => by rw [pln] at h; rw [nod]; exact plns_nods xs h
theorem plns_nods : ∀ xs : List D, plns xs = true → nods xs = true
  | [], _ => rfl
  | x :: xs, h => by
    rw [plns, Bool.and_eq_true] at h
    rw [nods, pln_nod x h.1, plns_nods xs h.2]
    rfl
end
mutual
theorem eqv_pln : ∀ x y : D, pln x = true → pln y = true → (PyData.eqv x y = true ↔ x = y)
  | .none, y, _, hy => by cases y <;> simp [PyData.eqv, pln] at *
  | .bool _, _, h, _ => by simp [pln] at h
  | .dict _, _, h, _ => by simp [pln] at h
  | .int i, y, _, hy => by cases y <;> simp [PyData.eqv, pln] at *
  | .str i, y, _, hy => by cases y <;> simp [PyData.eqv, pln] at *
  | .list xs, y, hx, hy => by
    cases y with
    | list ys =>
      rw [pln] at hx hy
      rw [PyData.eqv, eqvs_pln xs ys hx hy]
      simp
    | _ => simp [PyData.eqv] at *
  | .tuple xs, y, hx, hy => by
    cases y with
    | tuple ys =>
      rw [pln] at hx hy
      rw [PyData.eqv, eqvs_pln xs ys hx hy]
      simp
    | _ => simp [PyData.eqv] at *
theorem eqvs_pln : ∀ xs ys : List D, plns xs = true → plns ys = true → (PyData.eqvAll xs ys = true ↔ xs = ys)
  | [], [], _, _ => by simp [PyData.eqvAll]
  | [], _ :: _, _, _ => by simp [PyData.eqvAll]
  | _ :: _, [], _, _ => by simp [PyData.eqvAll]
  | x :: xs, y :: ys, hx, hy => by
    rw [plns, Bool.and_eq_true] at hx hy
    rw [PyData.eqvAll, Bool.and_eq_true, eqv_pln x y hx.1 hy.1, eqvs_pln xs ys hx.2 hy.2]
    simp
end
theorem depthAll_le {k : Nat} : ∀ {xs : List D}, (∀ x ∈ xs, x.depth ≤ k) → PyData.depthAll xs ≤ k
  | [], _ => Nat.zero_le _
  | x :: xs, h => by
    rw [PyData.depthAll]
    exact Nat.max_le.mpr ⟨h x List.mem_cons_self, depthAll_le fun y hy => h y (List.mem_cons_of_mem _ hy)⟩
structure Fl (k : Nat) (d : D) : Prop where
  p : pln d = true
  k : d.depth ≤ k
theorem Fl.i {k : Nat} (i : Int) : Fl k (.int i) := ⟨rfl, by simp [PyData.depth]⟩
theorem Fl.s {k : Nat} (i : Str) : Fl k (.str i) := ⟨rfl, by simp [PyData.depth]⟩
theorem Fl.n {k : Nat} : Fl k .none := ⟨rfl, by simp [PyData.depth]⟩
theorem Fl.t {k : Nat} {xs : List D} (h : ∀ x ∈ xs, Fl k x) : Fl (k + 1) (.tuple xs) := ⟨by rw [pln]; exact plns_iff.mpr fun x hx => (h x hx).p, by
  rw [PyData.depth]
  exact Nat.succ_le_succ (depthAll_le fun x hx => (h x hx).k)⟩
theorem Fl.l {k : Nat} {xs : List D} (h : ∀ x ∈ xs, Fl k x) : Fl (k + 1) (.list xs) := ⟨by rw [pln]; exact plns_iff.mpr fun x hx => (h x hx).p, by
  rw [PyData.depth]
  exact Nat.succ_le_succ (depthAll_le fun x hx => (h x hx).k)⟩
theorem Fl.up {j k : Nat} {d : D} (h : Fl j d) (e : j ≤ k) : Fl k d := ⟨h.p, Nat.le_trans h.k e⟩
theorem shallow_fl {j k : Nat} {x y : D} (hx : Fl j x) (hy : Fl k y) (e : j ≤ 60 ∨ k ≤ 60) : shallow x y = true := by
  unfold shallow
  rw [pln_nod x hx.p, pln_nod y hy.p, Bool.and_self, Bool.and_true]
  have := hx.k
  have := hy.k
  exact decide_eq_true (by omega)
theorem atD_nat {α : Type} {xs : List α} {n : Nat} {x : α} (h : xs[n]? = some x) : atD xs (n : Int) = some x := by
  have hl : n < xs.length := by
    rcases Nat.lt_or_ge n xs.length with w | w
    · exact w
    · rw [List.getElem?_eq_none_iff.mpr w] at h; cases h
  unfold atD plc
  rw [if_pos (by omega), if_pos (by omega)]
  exact h
theorem atD_int {α : Type} {xs : List α} {i : Int} {x : α} (h0 : 0 ≤ i) (h : xs[i.toNat]? = some x) : atD xs i = some x := by
  have := atD_nat h
  rwa [Int.toNat_of_nonneg h0] at this
theorem atD_lt {α : Type} {xs : List α} {i : Int} (h0 : 0 ≤ i) (h : i < xs.length) : atD xs i = some (xs[i.toNat]'(by omega)) :=
  atD_int h0 (List.getElem?_eq_getElem _)
theorem runFor_inv {p : Pat} {f : SF} (Inv : Nat → Env → Prop) : ∀ (xs : List D) (k : Nat) (r : Env), Inv k r →
    (∀ i r x, Inv (k + i) r → xs[i]? = some x → ∃ r1 fl r2, bindP p x r = some r1 ∧ f r1 = some (fl, r2) ∧ (fl = .nx ∨ fl = .ct) ∧ Inv (k + i + 1) r2) → ∃ r', runFor p f xs r = some (.nx, r') ∧ Inv (k + xs.length) r'
  | [], k, r, h, _ => ⟨r, rfl, h⟩
  | x :: xs, k, r, h, step => by
    obtain ⟨r1, fl, r2, h1, h2, h3, h4⟩ := step 0 r x h rfl
    obtain ⟨r', g1, g2⟩ := runFor_inv Inv xs (k + 1) r2 h4 fun i r y hi hx => by
      have := step (i + 1) r y (by rw [show k + (i + 1) = k + 1 + i by omega]; exact hi) (by simpa using hx)
      rw [show k + (i + 1) + 1 = k + 1 + i + 1 by omega] at this
      exact this
    refine ⟨r', ?_, by rw [List.length_cons, show k + (xs.length + 1) = k + 1 + xs.length by omega]; exact g2⟩
    rw [runFor_cons, h1, Option.bind_some, h2, Option.bind_some]
    rcases h3 with e | e <;> subst e
    · exact g1
    · exact g1
theorem runFor_inv0 {p : Pat} {f : SF} (Inv : Nat → Env → Prop) (xs : List D) (r : Env) (h : Inv 0 r)
    (step : ∀ i r x, Inv i r → xs[i]? = some x → ∃ r1 fl r2, bindP p x r = some r1 ∧ f r1 = some (fl, r2) ∧ (fl = .nx ∨ fl = .ct) ∧ Inv (i + 1) r2) : ∃ r', runFor p f xs r = some (.nx, r') ∧ Inv xs.length r' := by
  have := runFor_inv (p := p) (f := f) Inv xs 0 r h fun i r x hi hx => by
    rw [Nat.zero_add] at hi ⊢
    exact step i r x hi hx
  rwa [Nat.zero_add] at this
theorem rgD_get {a : Int} {n i : Nat} {x : D} (h : (rgD a n)[i]? = some x) : i < n ∧ x = .int (a + i) := by
  unfold rgD at h
  rw [List.getElem?_map] at h
  rcases Nat.lt_or_ge i n with w | w
  · rw [List.getElem?_range w] at h
    exact ⟨w, (Option.some.inj h).symm⟩
  · rw [List.getElem?_eq_none_iff.mpr (by simpa using w)] at h; cases h
@[simp] theorem rgD_len (a : Int) (n : Nat) : (rgD a n).length = n := by simp [rgD]
end CM
end
section
set_option Elab.async false
set_option linter.all false
set_option maxRecDepth 100000
set_option autoImplicit false
namespace CM
open PySem PySem.Spec PyProof.Rows L2
variable {X : Cx}
def gOrd : List C → Option Res
  | [.d (.str x)] => if x.cps.size = 1 then some (.sh (.int ((x.cps.getD 0 0 : Nat) : Int))) else none
  | _ => none
@[simp] theorem gOrd_s {x : Str} (h : x.cps.size = 1) : gOrd [.d (.str x)] = some (.sh (.int ((x.cps.getD 0 0 : Nat) : Int))) := if_pos h
end CM
end
section
set_option Elab.async false
set_option linter.all false
set_option maxRecDepth 100000
set_option autoImplicit false
namespace CM
open PySem PySem.Spec PyProof.Rows L2 PySem.SeqAt
section
variable {K : KC} {F F' : Fz} {H H' : Hp} {v y : V} {c : C} {kd d : D} {κ : Type} [DecidableEq κ]
theorem aGet_pos {e : κ × D} {r : List (κ × D)} {k : κ} (h : e.1 = k) : aGet (e :: r) k = some e.2 := by simp [aGet, List.find?_cons, h]
theorem aGet_neg {e : κ × D} {r : List (κ × D)} {k : κ} (h : ¬ e.1 = k) : aGet (e :: r) k = aGet r k := by simp [aGet, List.find?_cons, h]
theorem KVs.get {es : List (κ × V)} {kvs : List (κ × D)} (h : KVs K F es kvs) (k : κ) : (aGet kvs k = none ∧ valV es k = none) ∨ ∃ d v, aGet kvs k = some d ∧ valV es k = some v ∧ Vp K F v d := by
  induction h with
  | nil => exact .inl ⟨rfl, rfl⟩
  | @cons e q es qs h t ih =>
    obtain ⟨h1, h2⟩ := h
    by_cases z : e.1 = k
    · exact .inr ⟨q.2, e.2, aGet_pos (h1.symm.trans z), valV_pos z, h2⟩
    · rw [aGet_neg (fun w => z (h1.trans w)), valV_neg z]
      exact ih
theorem KVs.any {es : List (κ × V)} {kvs : List (κ × D)} (h : KVs K F es kvs) (k : κ) : (es.any fun e => decide (e.1 = k)) = kvs.any fun e => decide (e.1 = k) := by
  induction h with
  | nil => rfl
  | @cons e q es qs h t ih =>
    rw [List.any_cons, List.any_cons, ih, h.1]
theorem KVs.put {es : List (κ × V)} {kvs : List (κ × D)} (h : KVs K F es kvs) (k : κ) (g : Vp K F v d) : KVs K F (putK es k v) (aPut kvs k d) := by
  unfold putK aPut
  rw [h.any k]
  split
  · induction h with
    | nil => exact .nil
    | @cons e q es qs h t ih =>
      rw [List.map_cons, List.map_cons]
      refine .cons ?_ ?_
      · obtain ⟨h1, h2⟩ := h
        by_cases z : e.1 = k
        · rw [if_pos z, if_pos (h1.symm.trans z)]; exact ⟨h1, g⟩
        · rw [if_neg z, if_neg (fun w => z (h1.trans w))]; exact ⟨h1, h2⟩
      · rename_i w
        clear ih w
        induction t with
        | nil => exact .nil
        | @cons e q es qs h t ih =>
          rw [List.map_cons, List.map_cons]
          refine .cons ?_ ih
          obtain ⟨h1, h2⟩ := h
          by_cases z : e.1 = k
          · rw [if_pos z, if_pos (h1.symm.trans z)]; exact ⟨h1, g⟩
          · rw [if_neg z, if_neg (fun w => z (h1.trans w))]; exact ⟨h1, h2⟩
  · exact Paired.snoc h ⟨rfl, g⟩
theorem KVs.drop {es : List (κ × V)} {kvs : List (κ × D)} (h : KVs K F es kvs) (k : κ) : KVs K F (dropK es k) (aDrop kvs k) := by
  unfold dropK aDrop
  induction h with
  | nil => exact .nil
  | @cons e q es qs h t ih =>
    by_cases z : e.1 = k
    · rw [List.filter_cons_of_neg (by simpa using z), List.filter_cons_of_neg (by simpa using h.1.symm.trans z)]
      exact ih
    · rw [List.filter_cons_of_pos (by simpa using z), List.filter_cons_of_pos (by simpa using fun w => z (h.1.trans w))]
      exact .cons h ih
theorem KVs.length {es : List (κ × V)} {kvs : List (κ × D)} (h : KVs K F es kvs) : es.length = kvs.length := Paired.length h
theorem key_v {k : Ky} (h : kOf kd = some k) (p : Vp K F v kd) : v = kV k := by
  unfold kOf at h
  split at h
  · cases h; cases p; rfl
  · cases h; cases p; rfl
  · cases h
theorem keys_v : ∀ {ds : List D} {vs : List V} {k : List Ky}, ksOf ds = some k → VpAll K F vs ds → vs = k.map kV
  | [], _, k, h, p => by cases h; cases p; rfl
  | d :: ds, _, k, h, p => by
    cases p with
    | cons p1 p2 =>
      unfold ksOf at h
      simp only [Option.bind_eq_some_iff] at h
      obtain ⟨k1, h1, ks, h2, h3⟩ := h
      cases h3
      rw [List.map_cons, key_v h1 p1, keys_v h2 p2]
theorem keyT_v {k : List Ky} (h : kOfT kd = some k) (p : Vp K F v kd) : ∃ b, v = .ref b ∧ F.f b = some (.tup (k.map kV)) := by
  unfold kOfT at h
  split at h
  · split at h
    · cases h
    · rename_i hc
      cases p with
      | tup hs ha =>
        rw [Bool.or_eq_true] at hc
        rcases hs with ⟨o, _, hs⟩ | ⟨_, hs⟩
        · rw [Bool.eq_false_iff.mpr fun z => hc (.inr z)] at hs
          have hs : F.f _ = some (.tup _) := hs
          rw [keys_v h ha] at hs
          exact ⟨_, rfl, hs⟩
        · exact absurd (.inl hs) hc
  · cases h
theorem dget_ok {o : Option D} (b : Bd K F H v c) (g : cGet c kd = some o) (p : Vp K F y kd) (e : Ex F.f H) : ∃ a r, v = .ref a ∧ DGet H a y r ∧ ((o = none ∧ r = none) ∨ ∃ d w, o = some d ∧ r = some w ∧ Vp K F w d) := by
  unfold cGet at g
  split at g
  · rename_i kvs k
    simp only [Option.bind_eq_some_iff] at g
    obtain ⟨k, h1, h2⟩ := g
    cases h2
    obtain ⟨a, es, rfl, rd, kv⟩ := b
    refine ⟨a, _, rfl, .inl ⟨es, k, rd, key_v h1 p, rfl⟩, ?_⟩
    rcases kv.get k with ⟨z1, z2⟩ | ⟨d, w, z1, z2, z3⟩
    · exact .inl ⟨z1, z2⟩
    · exact .inr ⟨d, w, z1, z2, z3⟩
  · rename_i kvs k
    simp only [Option.bind_eq_some_iff] at g
    obtain ⟨k, h1, h2⟩ := g
    cases h2
    obtain ⟨a, es, rfl, rd, kv⟩ := b
    obtain ⟨b, rfl, hb⟩ := keyT_v h1 p
    refine ⟨a, _, rfl, .inr ⟨es, k, b, rd, rfl, e _ _ hb, rfl⟩, ?_⟩
    rcases kv.get k with ⟨z1, z2⟩ | ⟨d, w, z1, z2, z3⟩
    · exact .inl ⟨z1, z2⟩
    · exact .inr ⟨d, w, z1, z2, z3⟩
  · cases g
theorem cGet_key {o : Option D} (b : Bd K F H y (.d kd)) (g : cGet c kd = some o) : Vp K F y kd := by
  cases kd with
  | list _ =>
    unfold cGet at g
    split at g
    · cases g
    · cases g
    · cases g
  | _ => exact b
end
section
variable {X : Cx}
theorem ddix (hu : X.A.units + 64 < cLine) : DIx X gDGet := by
  refine .of fun value slice pins s σ H x y v u Q I rx ry ⟨F, a, b, z, e, et, ba, bb, q, k⟩ hs => ?_
  unfold gDGet at q
  split at q
  · rename_i kd
    simp only [Option.bind_eq_some_iff] at q
    obtain ⟨o, q1, d, q2, q3⟩ := q
    cases q3
    subst q2
    obtain ⟨p, r, rfl, g, hr⟩ := dget_ok ba q1 (cGet_key bb q1) e
    rcases hr with ⟨h1, h2⟩ | ⟨d', w, h1, h2, h3⟩
    · cases h1
    cases h1
    subst h2
    obtain rfl : v = Value.ref p := rx
    exact tail_any (dict_typeIs I g) PySem.F.slot_dict_getitem.lookup (d_getItem (by omega) I g ry fun w' s' I' rw' => ⟨w, H, I', rw', k F H w (.refl e) h3⟩) hs
  · cases q
theorem dixa (hu : X.A.units + 64 < cLine) : DIx X gIxA := by
  obtain ⟨o1, a1, a2⟩ := (dix : DIx X gIx).ex
  obtain ⟨o2, b1, b2⟩ := (ddix hu : DIx X gDGet).ex
  refine .of fun value slice pins s σ H x y v u Q I rx ry ⟨F, a, b, z, e, et, ba, bb, q, k⟩ hs => ?_
  unfold gIxA at q
  split at q
  · exact a1 value slice pins s σ H x y v u Q I rx ry (a2 F H x y _ _ z e et ba bb q Q k) hs
  · exact b1 value slice pins s σ H x y v u Q I rx ry (b2 F H x y _ _ z e et ba bb q Q k) hs
end
end CM
end
section
set_option Elab.async false
set_option linter.all false
set_option maxRecDepth 100000
set_option autoImplicit false
namespace CM
open PySem PySem.Spec PyProof.Rows L2 PySem.SeqAt
section
variable {X : Cx} {e e1 e2 : Expr} {fa fb fc : EF} {qb : Bool} {pos apos cpos npos : Pos}
end
end CM
end
section
set_option Elab.async false
set_option linter.all false
set_option maxRecDepth 100000
set_option autoImplicit false
namespace CM
open PySem PySem.Spec PyProof.Rows L2 PySem.SeqAt
section
variable {X : Cx}
theorem Chg.same {p : Addr} {F : Fz} {H : Hp} (e : Ex F.f H) : Chg p F H F H := ⟨.refl _, rfl, e, fun _ _ q => .inl q, fun a u z q => q⟩
end
end CM
end
section
set_option Elab.async false
set_option linter.all false
set_option maxRecDepth 100000
set_option autoImplicit false
namespace CM
open PySem PySem.Spec PyProof.Rows L2 PySem.SeqAt PySem.W
section
variable {X : Cx} {pins : List (Addr × Obj)} {σ : L2.St} {H : Hp} {s : Shared} {a : Addr}
def ValsAt (H : Hp) (a : Addr) (vs : List V) : Prop := (∃ kvs : List (Key × V), Rd H a (.dK kvs) ∧ vs = kvs.map (·.2)) ∨ ∃ kvs : List (List Key × V), Rd H a (.dT kvs) ∧ vs = kvs.map (·.2)
theorem ValsAt.up {H' : Hp} {vs : List V} (h : ValsAt H a vs) (e : Ex H H') : ValsAt H' a vs := h.imp (fun ⟨k, r, q⟩ => ⟨k, e.rd r, q⟩) fun ⟨k, r, q⟩ => ⟨k, e.rd r, q⟩
end
end CM
end
section
set_option Elab.async false
set_option linter.all false
set_option maxRecDepth 100000
set_option autoImplicit false
namespace CM
open PySem PySem.Spec PyProof.Rows L2 PySem.SeqAt PySem.W
section
variable {X : Cx} {e : Expr} {fa : EF} {qb : Bool} {p pos apos cpos : Pos}
end
end CM
end
section
set_option Elab.async false
set_option linter.all false
set_option maxRecDepth 100000
set_option autoImplicit false
namespace CM
open PySem
section
variable {r : Env} {i : Nat} {a b c k v : EF}
@[simp] theorem cGet_ks (kvs : List (Ky × D)) (x : Str) : cGet (.dk kvs) (.str x) = some (aGet kvs (.inr x)) := rfl
@[simp] theorem cGet_ki (kvs : List (Ky × D)) (x : Int) : cGet (.dk kvs) (.int x) = some (aGet kvs (.inl x)) := rfl
def nmK (h : Str) (n : Int) : List Ky := [.inr h, .inl n]
@[simp] theorem cGet_tn {kvs : List (List Ky × D)} {h : Str} {n : Int} (e : h.cps.size ≠ 0) : cGet (.dt kvs) (.tuple [.str h, .int n]) = some (aGet kvs (nmK h n)) := rfl
@[simp] theorem gIxA_d (x : D) (y : C) : gIxA (.d x) y = gIx (.d x) y := rfl
@[simp] theorem gIxA_k (kvs : List (Ky × D)) (x : D) : gIxA (.dk kvs) (.d x) = (cGet (.dk kvs) x).bind fun o => o.bind fun v => some (.sh v) := rfl
@[simp] theorem gIxA_t (kvs : List (List Ky × D)) (x : D) : gIxA (.dt kvs) (.d x) = (cGet (.dt kvs) x).bind fun o => o.bind fun v => some (.sh v) := rfl
end
section
variable {κ : Type} [DecidableEq κ]
end
end CM
end
section
set_option Elab.async false
set_option linter.all false
set_option maxRecDepth 100000
set_option autoImplicit false
namespace CM
open PySem PySem.Spec PyProof.Rows L2
def memK (ks : List Key) (j : Key) : Bool := ks.any fun x => decide (x = j)
theorem memK_iff {ks : List Key} {j : Key} : memK ks j = true ↔ j ∈ ks := by
  unfold memK
  rw [List.any_eq_true]
  exact ⟨fun ⟨x, h, e⟩ => by rw [← of_decide_eq_true e]; exact h, fun h => ⟨j, h, decide_eq_true rfl⟩⟩
structure RawS (w : World) (h : Heap) (a : Addr) (es : List (Int × Value)) : Prop where
  ex : ∃ o ea ep t, h.get? a = some o ∧ o.ExactSet ∧ o.data = .set ea ep t ∧ ea.toList = es ∧ t.fits ea.size = true ∧ Ris t.place.toList ∧ (w.params.followText "set-order" = true ∨ t.led = true)
  few : es.length < scanBound
def RowK (w : World) (es : List (Int × Value)) (ks : List Key) : Prop := Paired (fun e k => keyIs k e.2 = true ∧ e.1 = keyH w k) es ks
section
variable {P : Program} {w : World} {A : Around} {E : Value → Shared → Prop} {s : Shared} {h h' : Heap} {a : Addr} {es : List (Int × Value)} {ks : List Key}
theorem RawS.at (R : RawS w h a es) (k : ∀ o, h.get? a = some o → h'.get? a = some o) : RawS w h' a es := by
  obtain ⟨⟨o, ea, ep, t, ho, r⟩, f⟩ := R
  exact ⟨⟨o, ea, ep, t, k o ho, r⟩, f⟩
theorem keyIs_inj {j k : Key} {v : Value} (h : keyIs j v = true) (g : keyIs k v = true) : j = k := by
  rcases keyIs_shape h with ⟨i, t, rfl, rfl⟩ | ⟨x, t, rfl, rfl⟩ <;> rcases keyIs_shape g with ⟨i', t', rfl, z⟩ | ⟨x', t', rfl, z⟩ <;> cases z <;> rfl
theorem key_scans {k : Key} {v : Value} (h : keyIs k v = true) : v.scannable = true := by
  rcases keyIs_shape h with ⟨i, t, rfl, rfl⟩ | ⟨x, t, rfl, rfl⟩
  · rfl
  · rfl
theorem RowK.elems (R : RowK w es ks) : ElemsOf (mixKind P w) es := fun e he => by
  obtain ⟨_, k, _, _, h⟩ := LiI.paired_ix R he
  exact ⟨⟨k, h⟩, key_scans h.1⟩
theorem RowK.has (R : RowK w es ks) (k : Key) : (∃ e ∈ es, keyIs k e.2 = true) ↔ k ∈ ks := by
  constructor
  · rintro ⟨e, he, q⟩
    obtain ⟨_, j, _, hj, h⟩ := LiI.paired_ix R he
    have : j = k := keyIs_inj h.1 q
    rw [← this]
    exact List.mem_of_getElem? hj
  · intro hk
    obtain ⟨i, hi⟩ := List.mem_iff_getElem?.mp hk
    have hl : es.length = ks.length := Paired.length R
    have hi' : i < es.length := by rw [hl]; exact (List.getElem?_eq_some_iff.mp hi).1
    obtain ⟨j, hj, h⟩ := LiI.paired_get R (List.getElem?_eq_getElem hi')
    rw [hi] at hj
    cases hj
    exact ⟨_, List.getElem_mem hi', h.1⟩
theorem RowK.perm {es' : List (Int × Value)} (p : es'.Perm es) : ∀ {ks : List Key}, RowK w es ks → ∃ ks', RowK w es' ks' ∧ ks'.Perm ks := by
  induction p with
  | nil => exact fun {ks} R => ⟨ks, R, .refl _⟩
  | @cons x l1 l2 _ ih =>
    intro ks R
    cases R with
    | cons h t =>
      obtain ⟨ks', r, q⟩ := ih t
      exact ⟨_, .cons h r, .cons _ q⟩
  | swap x y l =>
    intro ks R
    cases R with
    | cons h t =>
      cases t with
      | cons h' t' => exact ⟨_, .cons h' (.cons h t'), .swap _ _ _⟩
  | trans _ _ i1 i2 =>
    intro ks R
    obtain ⟨k1, r1, p1⟩ := i2 R
    obtain ⟨k2, r2, p2⟩ := i1 r1
    exact ⟨k2, r2, p2.trans p1⟩
theorem raw_put (R : RawS w s.heap a es) {ea : Array (Int × Value)} {t : SetTable} {Q : Unit → Shared → Prop} (few : ea.size < scanBound) (fit : t.fits ea.size = true) (ris : Ris t.place.toList) (led : w.params.followText "set-order" = true ∨ t.led = true)
    (k : ∀ h', Heap.SameBut a s.heap h' → RawS w h' a ea.toList → Q () { s with heap := h' }) : wpAny (model P w) A (storeSet a ea t) Q E s := by
  obtain ⟨⟨o, _, _, _, ho, hx, hd, _⟩, _⟩ := R
  exact wpAny_storeSet_of ho hd (k _ (Heap.SameBut.update s.heap a (Obj.putSet ea t)) ⟨⟨_, ea, _, t, store_at ho hd, hx, rfl, rfl, fit, ris, led⟩, by rw [Array.length_toList]; exact few⟩) (fits_of_scanBound few)
theorem raw_grow (R : RawS w s.heap a es) {ea : Array (Int × Value)} {t : SetTable} {c : Bool} {gave : Bool → Sem Unit} {Q : Option Bool → Shared → Prop} (few : ea.size < scanBound) (fit : t.fits ea.size = true) (ris : Ris t.place.toList) (led : w.params.followText "set-order" = true ∨ t.led = true)
    (hg : ∀ (b : Bool) (s₁ : Shared) (Z : Unit → Shared → Prop), Z () s₁ → wpAny (model P w) A (gave b) Z E s₁) (k : ∀ h' es', Heap.SameBut a s.heap h' → es'.Perm ea.toList → RawS w h' a es' → Q (some true) { s with heap := h' }) :
    wpAny (model P w) A (storeSet a ea t >>= fun _ => if c = true then (gave (relayAll t ea (SetTable.grown ea.size)).2.2 >>= fun _ => storeSet a (relayAll t ea (SetTable.grown ea.size)).1 (relayAll t ea (SetTable.grown ea.size)).2.1 >>= fun _ => pure (some true)) else pure (some true)) Q E s := by
  refine wpAny_bind (raw_put R few fit ris led fun h1 b1 R1 => ?_)
  cases c with
  | false =>
    rw [if_neg Bool.false_ne_true]
    exact wpAny_pure (k h1 _ b1 (.refl _) R1)
  | true =>
    rw [if_pos rfl]
    have p := relayAll_perm t ea (SetTable.grown ea.size)
    have z : (relayAll t ea (SetTable.grown ea.size)).1.size = ea.size := by
      have := p.length_eq
      rwa [Array.length_toList, Array.length_toList] at this
    refine wpAny_bind (hg _ _ _ (wpAny_bind (raw_put (s := { s with heap := h1 }) R1 (by rw [z]; exact few) (relayAll_fits t ea _) (relayAll_ris t ea _) (led.imp id fun y => by rw [relayAll_led]; exact y) fun h2 b2 R2 => ?_)))
    exact wpAny_pure (k h2 _ (b1.trans b2) p R2)
theorem raw_add {k : Key} {v : Value} {Q : Bool → Shared → Prop} (hk : keyIs k v = true) (R : RawS w s.heap a es) (K : RowK w es ks) (room : es.length + 1 < scanBound)
    (here : k ∈ ks → Q false s) (more : k ∉ ks → ∀ h' es', Heap.SameBut a s.heap h' → es'.Perm ((keyH w k, v) :: es) → RawS w h' a es' → Q true { s with heap := h' }) :
    wpAny (model P w) A (setAddHashed a v (keyH w k)) Q E s := by
  have key : (mixKind P w).is k v = true := hk
  have scan := key_scans hk
  obtain ⟨⟨o, ea, ep, t, ho, hx, hd, rfl, fit, ris, led⟩, few⟩ := id R
  have few' : ea.size < scanBound := by rw [← Array.length_toList]; exact few
  have el : ElemsOf (mixKind P w) ea.toList := K.elems
  have gv : ∀ (b : Bool) (s₁ : Shared) (Z : Unit → Shared → Prop), Z () s₁ → wpAny (model P w) A (match b with | true => rule "set.scan.the-table-gave-way" | false => pure ()) Z E s₁ := by
    intro b s₁ Z z
    cases b
    · exact wpAny_pure z
    · exact wpAny_rule z
  unfold setAddHashed setAddHashedIn setAddByScan
  refine wpAny_holding (wpAny_bind (wpAny_setState_of ho hd fit ?_))
  simp only [byScan_of scan few' el, ↓reduceIte]
  refine wpAny_bind (wpAny_bind (wpAny_rule (wpAny_bind (wpAny_setScan_of key ho hd fit el ?_))))
  cases at' : ea.toList.findIdx? fun e => (mixKind P w).is k e.2 with
  | some j =>
    obtain ⟨hj, pj, _⟩ := List.findIdx?_eq_some_iff_getElem.mp at'
    exact wpAny_pure (wpAny_pure (here ((K.has k).mp ⟨_, List.getElem_mem hj, pj⟩)))
  | none =>
    have out : k ∉ ks := fun z => by
      obtain ⟨e, he, q⟩ := (K.has k).mpr z
      have c := List.findIdx?_eq_none_iff.mp at' e he
      have q : (mixKind P w).is k e.2 = true := q
      rw [q] at c
      cases c
    have pm : (layNew t ea (keyH w k) v).1.toList.Perm ((keyH w k, v) :: ea.toList) := by
      have := layNew_perm t ea (keyH w k) v
      rw [Array.toList_push] at this
      exact this.trans (List.perm_append_singleton _ _)
    have fit1 := layNew_fits t ea (keyH w k) v
    have ris1 := layNew_ris t ea (keyH w k) v ris
    have led1 : w.params.followText "set-order" = true ∨ (layNew t ea (keyH w k) v).2.1.led = true := led.imp id fun z => by rw [layNew_led]; exact z
    dsimp only at fit1 ⊢
    revert pm fit1 ris1 led1
    generalize layNew t ea (keyH w k) v = y
    obtain ⟨ea1, t1, dum, gave⟩ := y
    intro pm fit1 ris1 led1
    dsimp only at pm fit1 ris1 led1 ⊢
    have few1 : ea1.size < scanBound := by
      have := pm.length_eq
      rw [Array.length_toList, List.length_cons] at this
      omega
    refine wpAny_bind (gv _ _ _ ?_)
    split
    · refine wpAny_bind ?_
      rw [hashByValue_scannable 8 scan]
      refine wpAny_pure (raw_grow R few1 ?_ ?_ ?_ gv fun h' es' b p r => ?_)
      · first | exact fit1 | (split <;> first | exact fit1 | exact SetTable.fits_plain_off fit1)
      · first | exact ris1 | (split <;> exact ris1)
      · first | exact led1 | (split <;> exact led1)
      · exact wpAny_pure (more out h' es' b (p.trans pm) r)
    · refine wpAny_bind (wpAny_pure ?_)
      simp only [↓reduceIte]
      exact raw_grow R few1 fit1 ris1 led1 gv fun h' es' b p r => wpAny_pure (more out h' es' b (p.trans pm) r)
end
end CM
end
section
set_option Elab.async false
set_option linter.all false
set_option maxRecDepth 100000
set_option autoImplicit false
namespace CM
open PySem PySem.Spec PyProof.Rows L2
theorem sorted_perm_eq {α : Type} {le : α → α → Bool} (anti : ∀ a b, le a b = true → le b a = true → a = b) : ∀ {l m : List α}, l.Pairwise (fun a b => le a b = true) → m.Pairwise (fun a b => le a b = true) → l.Perm m → l = m
  | [], m, _, _, p => by rw [List.Perm.nil_eq p]
  | a :: l, [], _, _, p => by cases p.length_eq
  | a :: l, b :: m, hl, hm, p => by
    obtain ⟨l1, l2⟩ := List.pairwise_cons.mp hl
    obtain ⟨m1, m2⟩ := List.pairwise_cons.mp hm
    have e : a = b := by
      have ha : a ∈ b :: m := p.mem_iff.mp List.mem_cons_self
      have hb : b ∈ a :: l := p.mem_iff.mpr List.mem_cons_self
      rcases List.mem_cons.mp ha with z | z
      · exact z
      · rcases List.mem_cons.mp hb with y | y
        · exact y.symm
        · exact anti a b (l1 b y) (m1 a z)
    subst e
    rw [sorted_perm_eq anti l2 m2 ((List.perm_cons a).mp p)]
def dedK : List Ky → List Ky
  | [] => []
  | x :: xs => if memK xs x = true then dedK xs else x :: dedK xs
theorem dedK_mem {j : Ky} : ∀ {ks : List Ky}, j ∈ dedK ks ↔ j ∈ ks
  | [] => Iff.rfl
  | x :: xs => by
    unfold dedK
    have ih := dedK_mem (j := j) (ks := xs)
    split
    · rename_i h
      rw [ih, List.mem_cons]
      exact ⟨.inr, fun z => z.elim (fun e => by rw [e]; exact memK_iff.mp h) id⟩
    · rw [List.mem_cons, List.mem_cons, ih]
theorem dedK_nodup : ∀ {ks : List Ky}, (dedK ks).Nodup
  | [] => List.nodup_nil
  | x :: xs => by
    unfold dedK
    split
    · exact dedK_nodup
    · rename_i h
      exact List.nodup_cons.mpr ⟨fun z => h (memK_iff.mpr (dedK_mem.mp z)), dedK_nodup⟩
theorem dedK_len : ∀ {ks : List Ky}, (dedK ks).length ≤ ks.length
  | [] => Nat.le_refl _
  | x :: xs => by
    unfold dedK
    have ih := dedK_len (ks := xs)
    split
    · simp; omega
    · simp; exact ih
def isKi : Ky → Bool
  | .inl _ => true
  | .inr _ => false
def kindK (ks : List Ky) : Bool := ks.all isKi || ks.all (fun k => !isKi k)
def gSetSort : List C → Option Res
  | [.d (.list ds)] => (ksOf ds).bind fun ks => if (kindK ks && decide (ks.length ≤ 4000)) = true then some (.fr (.d (.list (sortD ((dedK ks).map kD))))) else none
  | _ => none
theorem kV_keyIs {k : Key} {v : Value} (r : RelV (kV k) v) : keyIs k v = true := by
  cases k with
  | inl i =>
    obtain ⟨t, rfl⟩ := r
    exact keyIs_int i t
  | inr x =>
    obtain ⟨t, rfl⟩ := r
    exact keyIs_str x t
theorem kV_keys : ∀ {ks : List Key} {us : List Value}, Vals (ks.map kV) us → ∀ (i : Nat) (v : Value), us[i]? = some v → ∃ k : Key, ks[i]? = some k ∧ keyIs k v = true
  | [], _, r, i, v, h => by cases r; cases h
  | k :: ks, _, r, i, v, h => by
    cases r with
    | cons r1 r2 =>
      cases i with
      | zero => cases h; exact ⟨k, rfl, kV_keyIs r1⟩
      | succ i => exact kV_keys (ks := ks) r2 i v h
def HasK (w : World) (ks : List Key) (h : Heap) (a : Addr) : Prop := ∃ es js, RawS w h a es ∧ RowK w es js ∧ js.Perm (dedK ks)
theorem HasK.at {w : World} {ks : List Key} {h h' : Heap} {a : Addr} (x : HasK w ks h a) (k : ∀ o, h.get? a = some o → h'.get? a = some o) : HasK w ks h' a := by
  obtain ⟨es, js, r, q⟩ := x
  exact ⟨es, js, r.at k, q⟩
theorem dedK_snoc_in {ks : List Key} {k : Key} (h : k ∈ ks) : (dedK ks).Perm (dedK (ks ++ [k])) := (List.perm_ext_iff_of_nodup dedK_nodup dedK_nodup).mpr fun j => by
  rw [dedK_mem, dedK_mem, List.mem_append, List.mem_singleton]
  exact ⟨.inl, fun z => z.elim id fun e => by rw [e]; exact h⟩
theorem dedK_snoc_out {ks : List Key} {k : Key} (h : k ∉ ks) : (k :: dedK ks).Perm (dedK (ks ++ [k])) := (List.perm_ext_iff_of_nodup (List.nodup_cons.mpr ⟨fun z => h (dedK_mem.mp z), dedK_nodup⟩) dedK_nodup).mpr fun j => by
  rw [List.mem_cons, dedK_mem, dedK_mem, List.mem_append, List.mem_singleton]
  exact Or.comm
section
variable {P : Program} {w : World} {A : Around} {E : Value → Shared → Prop} {s : Shared} {a : Addr} {ks : List Key}
theorem has_more {k : Key} {v : Value} {Q : Bool → Shared → Prop} (hk : keyIs k v = true) (x : HasK w ks s.heap a) (room : ks.length + 1 < scanBound) (q : ∀ b h', Heap.SameBut a s.heap h' → HasK w (ks ++ [k]) h' a → Q b { s with heap := h', toks := s.toks + 1 }) :
    wpAny (model P w) A (setAdd a v) Q E s := by
  obtain ⟨es, js, r, row, pm⟩ := x
  have le : es.length ≤ ks.length := by
    rw [show es.length = js.length from Paired.length row, pm.length_eq]
    exact dedK_len
  unfold setAdd
  refine wpAny_holding (wpAny_bind ((mixKind P w).pyHash (k := k) hk ?_))
  have isIn : k ∈ js ↔ k ∈ ks := by rw [pm.mem_iff, dedK_mem]
  refine raw_add (s := { s with toks := s.toks + 1 }) hk r row (by omega) (fun hin => ?_) fun hout h' es' b p r' => ?_
  · exact q _ s.heap (Heap.SameBut.refl a s.heap) ⟨es, js, r, row, pm.trans (dedK_snoc_in (isIn.mp hin))⟩
  · obtain ⟨js', row', pj⟩ := RowK.perm (w := w) p (ks := k :: js) (.cons ⟨hk, rfl⟩ row)
    exact q _ h' b ⟨es', js', r', row', (pj.trans (List.Perm.cons k pm)).trans (dedK_snoc_out fun z => hout (isIn.mpr z))⟩
theorem has_new (ho : s.heap.get? a = some { cls := .type "set", dict := none, data := .set #[] 0 (.fresh 0 0 (!w.params.followText "set-order")) }) : HasK w [] s.heap a := by
  refine ⟨[], [], ⟨⟨_, #[], 0, _, ho, ⟨rfl, rfl, rfl⟩, rfl, rfl, rfl, List.Pairwise.nil, ?_⟩, by decide⟩, .nil, .refl _⟩
  cases e : w.params.followText "set-order" with
  | true => exact .inl rfl
  | false => exact .inr (show (!false) = true from rfl)
end
theorem has_loop {P : Program} {w : World} {A : Around} {R : Result → Shared → Prop} {I S : Addr} {fp wr : List Addr} {G : Array GenState → Array GenState → Prop} {n : Nat} {Y : Nat → Value → Prop} {St : Nat → Shared → Prop} {ks : List Key}
    (W : WalksS P w A.in1 I fp wr G n Y St) (hS : S ∉ fp) (hn : ks.length = n) (few : n + 1 < scanBound) (val : ∀ i v, Y i v → ∃ k : Key, ks[i]? = some k ∧ keyIs k v = true) (d : Nat) :
    ∀ (i : Nat) (s : Shared), i + d = n → St i s → HasK w (ks.take i) s.heap S → (∀ s', Moved (S :: wr) G s s' → HasK w ks s'.heap S → R (.ok (.ret .none)) s') → codeAny (model P w) A (.builtin "set.update.loop" ⟨[.ref S, .ref I], []⟩) R s := by
  have hw : S ∉ wr := fun z => hS (W.sub S z)
  have sub : ∀ b ∈ wr, b ∈ S :: wr := fun b z => List.mem_cons_of_mem S z
  induction d with
  | zero =>
    intro i s e st has k
    have e : i = n := e
    subst e
    refine codeAny_builtin PyProof.Rows.F.entry_set_update_loop ?_
    rw [Around.under_plainId PyProof.Rows.F.plain_set_update_loop _]
    refine wpAny_bind (m := pyNext (.ref I)) (W.done s _ _ st fun s' mv => wpAny_pure (k s' (mv.mono sub) ?_))
    rw [List.take_of_length_le (Nat.le_of_eq hn)] at has
    exact has.at fun o ho => mv.heap S o hw ho
  | succ d ih =>
    intro i s e st has k
    refine codeAny_builtin PyProof.Rows.F.entry_set_update_loop ?_
    rw [Around.under_plainId PyProof.Rows.F.plain_set_update_loop _]
    refine wpAny_bind (m := pyNext (.ref I)) (W.item i s _ _ (by omega) st fun v s1 y st1 mv => ?_)
    obtain ⟨key, h1, h2⟩ := val i v y
    have has1 := has.at (h' := s1.heap) fun o ho => mv.heap S o hw ho
    refine wpAny_bind (m := holding [v] (setAdd S v)) (wpAny_holding (has_more h2 has1 (by rw [List.length_take]; omega) fun b h' sb has2 => ?_))
    have tk : ks.take (i + 1) = ks.take i ++ [key] := by rw [List.take_add_one, h1]; rfl
    rw [← tk] at has2
    refine wpAny_pure ⟨plainId_quiet PyProof.Rows.F.plain_set_update_loop _, ih (i + 1) _ (by omega) (W.frame _ s1 _ _ st1 (Nat.le_succ _) fun b z o q => ?_) has2 fun s2 mv2 has3 => ?_⟩
    · exact (sb.2 b fun y => hS (by rw [← y]; exact z)).trans q
    · refine k s2 (Moved.trans W.gtrans ((mv.mono sub).then_heap (Nat.le_succ _) fun b o z q => ?_) mv2) has3
      exact (sb.2 b fun y => z (by rw [y]; exact List.mem_cons_self)).trans q
theorem type_call {P : Program} {w : World} {A : Around} {E : Value → Shared → Prop} {s : Shared} {T newId initId : String} {args : List Value} {Q N : Value → Shared → Prop} (ft : TypeCalled T newId initId) (hct : checkTypeCall T ⟨args, []⟩ = pure ())
    (hN : codeAny (model P w) A.in1 (.call (.builtin newId) ⟨.type T :: args, []⟩) (wants N E) s) (hT : ∀ x s1, N x s1 → s1.TypeIs x T)
    (hI : ∀ x s1, N x s1 → codeAny (model P w) A.in1 (.call (.builtin initId) ⟨x :: args, []⟩) (wants (fun r s2 => r = .none ∧ Q x s2) E) s1) : wpAny (model P w) A (call (.type T) args) Q E s := by
  have f1 := ft.made
  have f2 := ft.sub
  have f3 := ft.notType
  have f4 := ft.canCreate
  obtain ⟨m0, ms, f5⟩ := ft.mro
  refine wpAny_call (codeAny_of_tree ?_)
  change wpAny _ _ (callAny (.type T) _) _ _ _
  refine wpAny_pure (And.intro (Code.quiet_builtin _ (by decide +kernel)) (codeAny_builtin PySem.F.entry_type_call ?_))
  rw [Around.under_plain (weight_type_call_type T args []) rfl]
  repeat (any_goals (first | assumption | wp_step))
  refine codeAny_mono hN fun r s1 hr => ?_
  rcases r with e | fl
  · exact hr
  · cases fl with
    | ret x =>
      have f6 := hT x s1 hr
      have f7 := ft.init.lookup
      have f8 := ft.init.bind x
      repeat (any_goals (first | assumption | wp_step))
      refine codeAny_mono (hI x s1 hr) fun r s2 hr2 => ?_
      rcases r with e | fl
      · exact hr2
      · cases fl with
        | ret y =>
          obtain ⟨rfl, hq⟩ := hr2
          repeat (any_goals (first | assumption | wp_step))
        | _ => exact hr2.elim
    | _ => exact hr.elim
theorem set_of_keys {P : Program} {w : World} {A : Around} {E : Value → Shared → Prop} {s : Shared} {l : Addr} {its : Array Value} {ks : List Key} {Q : Value → Shared → Prop} (hh : A.handled = none) (hl : s.heap.IsList l its) (hn : ks.length = its.size) (few : its.size + 1 < scanBound)
    (val : ∀ (i : Nat) (v : Value), its[i]? = some v → ∃ k : Key, ks[i]? = some k ∧ keyIs k v = true)
    (q : ∀ h' tk, HasK w ks h' s.heap.objs.size → (∀ b o, s.heap.get? b = some o → h'.get? b = some o) → Q (.ref s.heap.objs.size) { s with heap := h', toks := tk }) : wpAny (model P w) A (call (.type "set") [.ref l]) Q E s := by
  refine type_call PySem.F.called_set (PySem.F.typeCall_set_1 _) (code_set_led1 (.ref l) (Q₁ := fun obj s1 => obj = .ref s.heap.objs.size ∧ s1 = { s with heap := s.heap.push { cls := .type "set", dict := none, data := .set #[] 0 (.fresh 0 0 (!w.params.followText "set-order")) } }) ⟨rfl, rfl⟩) ?_ ?_
  · rintro _ _ ⟨rfl, rfl⟩
    exact ⟨_, Heap.get?_push_size _ rfl, rfl⟩
  rintro _ _ ⟨rfl, rfl⟩
  have at0 : (s.heap.push { cls := .type "set", dict := none, data := .set #[] 0 (.fresh 0 0 (!w.params.followText "set-order")) }).get? s.heap.objs.size = some { cls := .type "set", dict := none, data := .set #[] 0 (.fresh 0 0 (!w.params.followText "set-order")) } := Heap.get?_push_size _ rfl
  have kp : ∀ b o, s.heap.get? b = some o → (s.heap.push { cls := .type "set", dict := none, data := .set #[] 0 (.fresh 0 0 (!w.params.followText "set-order")) }).get? b = some o := fun b o e => Heap.get?_push_of_some _ e
  have sz : (s.heap.push { cls := .type "set", dict := none, data := .set #[] 0 (.fresh 0 0 (!w.params.followText "set-order")) }).objs.size = s.heap.objs.size + 1 := size_push' _ _
  revert at0 kp sz
  generalize s.heap.push { cls := .type "set", dict := none, data := .set #[] 0 (.fresh 0 0 (!w.params.followText "set-order")) } = h1
  intro at0 kp sz
  have hT : Shared.TypeIs { s with heap := h1 } (.ref s.heap.objs.size) "set" := ⟨_, at0, rfl⟩
  obtain ⟨ol, hol, cl, nl, dl⟩ := hl
  have ll : l < s.heap.objs.size := Heap.lt_size hol
  have ll1 : h1.IsList l its := ⟨ol, kp _ _ hol, cl, nl, dl⟩
  refine codeAny_call_builtin PySem.F.called_set.init.plain PySem.F.entry_set_init (check_set_init_1 hT ?_)
  have g1 := PySem.F.sub_list_set
  have g2 := PySem.F.sub_list_frozenset
  have g3 : (Value.type "list" == Value.type "dict") = false := by decide
  obtain ⟨oc, odd, oda, osl⟩ := ol
  simp only at cl dl
  subst cl; subst dl
  have hol1 := kp _ _ hol
  unfold Builtin.«set.__init__» noKeywords Builtin.Frozenset.updateFrom
  generalize hpi : pyIter = pi
  wp_walk
  subst hpi
  refine wpAny_pyIter_list ll1 (wpAny_bind (wpAny_runValue ?_))
  have nI : l ≠ h1.objs.size := by rw [sz]; exact Nat.ne_of_lt (Nat.lt_succ_of_lt ll)
  refine has_loop (ks := ks) ((Walks.list (A := A.in1.in1.in1) (by simp [hh]) _ l nI its).toS) (fun z => ?_) hn few val its.size 0 _ (Nat.zero_add _) ⟨⟨_, Heap.get?_push_size _ rfl, rfl, rfl⟩, ll1.push _⟩ ?_ fun s2 mv has => ?_
  · rcases List.mem_cons.mp z with y | y
    · rw [sz] at y; exact absurd y (Nat.ne_of_lt (Nat.lt_succ_self _))
    · exact absurd (List.mem_singleton.mp y) (Nat.ne_of_gt ll)
  · rw [List.take_zero]
    exact has_new (s := { s with heap := _ }) (Heap.get?_push_of_some _ at0)
  · rw [Moved.eq_with mv]
    refine wpAny_pure (wpAny_pure ⟨rfl, q s2.heap s2.toks has fun b o e => ?_⟩)
    have lb := Heap.lt_size e
    refine mv.heap b o (fun z => ?_) (Heap.get?_push_of_some _ (kp b o e))
    rcases List.mem_cons.mp z with y | y
    · exact absurd y (Nat.ne_of_lt lb)
    · rw [List.mem_singleton.mp y, sz] at lb
      exact absurd lb (Nat.not_lt.mpr (Nat.le_succ _))
theorem key_anti {a b : Ky} (h : isKi a = isKi b) (h1 : W.dataLe false kD a b = true) (h2 : W.dataLe false kD b a = true) : a = b := by
  have h1 : (!W.dataLt (kD b) (kD a)) = true := h1
  have h2 : (!W.dataLt (kD a) (kD b)) = true := h2
  cases a with
  | inl i =>
    cases b with
    | inl j =>
      rw [show kD (.inl i) = .int i from rfl, show kD (.inl j) = .int j from rfl, W.dataLt_int] at h1 h2
      simp at h1 h2
      rw [Int.le_antisymm h1 h2]
    | inr _ => cases h
  | inr i =>
    cases b with
    | inl j => cases h
    | inr j =>
      rw [show kD (.inr i) = .str i from rfl, show kD (.inr j) = .str j from rfl, W.dataLt_str] at h1 h2
      have h1 : ¬ j.cps.toList < i.cps.toList := by simpa using h1
      have h2 : ¬ i.cps.toList < j.cps.toList := by simpa using h2
      have e : i.cps.toList = j.cps.toList := List.le_antisymm (List.not_lt.mp h1) (List.not_lt.mp h2)
      rw [W.str_of_cps e]
theorem sort_keys_perm {xs ys : List Ky} (p : xs.Perm ys) (hk : ∀ x ∈ ys, ∀ y ∈ ys, isKi x = isKi y) : xs.mergeSort (W.dataLe false kD) = ys.mergeSort (W.dataLe false kD) := by
  have T : W.TotalLe (W.dataLe false kD) := W.sortLe_total _ _ _
  have mx : ∀ x, x ∈ xs.mergeSort (W.dataLe false kD) → x ∈ ys := fun x h => p.mem_iff.mp ((List.mergeSort_perm _ _).mem_iff.mp h)
  have my : ∀ x, x ∈ ys.mergeSort (W.dataLe false kD) → x ∈ ys := fun x h => (List.mergeSort_perm _ _).mem_iff.mp h
  refine sorted_perm_eq (le := fun a b => W.dataLe false kD a b && (isKi a == isKi b)) (fun a b h1 h2 => ?_) ((W.sort_pairwise T xs).imp_of_mem fun {a b} ha hb h => ?_) ((W.sort_pairwise T ys).imp_of_mem fun {a b} ha hb h => ?_) (((List.mergeSort_perm _ _).trans p).trans (List.mergeSort_perm _ _).symm)
  · rw [Bool.and_eq_true] at h1 h2
    exact key_anti (by simpa using h1.2) h1.1 h2.1
  · rw [Bool.and_eq_true]
    exact ⟨h, by simpa using hk a (mx a ha) b (mx b hb)⟩
  · rw [Bool.and_eq_true]
    exact ⟨h, by simpa using hk a (my a ha) b (my b hb)⟩
theorem kindK_same {ks : List Ky} (h : kindK ks = true) : ∀ x ∈ ks, ∀ y ∈ ks, isKi x = isKi y := fun x hx y hy => by
  unfold kindK at h
  rw [Bool.or_eq_true, List.all_eq_true, List.all_eq_true] at h
  rcases h with h | h
  · rw [h x hx, h y hy]
  · have a := h x hx
    have b := h y hy
    simp at a b
    rw [a, b]
theorem keys_of_rows {w : World} {es : List (Int × Value)} {js : List Key} (R : RowK w es js) : W.EachIs (fun v k => keyIs k v = true) (es.map (·.2)) js := by
  induction R with
  | nil => exact .nil
  | cons h _ ih => exact .cons h.1 ih
theorem each_perm {α β : Type} {R : α → β → Prop} {as as' : List α} (p : as'.Perm as) : ∀ {bs : List β}, W.EachIs R as bs → ∃ bs', W.EachIs R as' bs' ∧ bs'.Perm bs := by
  induction p with
  | nil => exact fun {bs} h => ⟨bs, h, .refl _⟩
  | cons x _ ih =>
    intro bs h
    cases h with
    | cons h1 h2 =>
      obtain ⟨b, r, q⟩ := ih h2
      exact ⟨_, .cons h1 r, .cons _ q⟩
  | swap x y l =>
    intro bs h
    cases h with
    | cons h1 h2 =>
      cases h2 with
      | cons h3 h4 => exact ⟨_, .cons h3 (.cons h1 h4), .swap _ _ _⟩
  | trans _ _ i1 i2 =>
    intro bs h
    obtain ⟨b1, r1, p1⟩ := i2 h
    obtain ⟨b2, r2, p2⟩ := i1 r1
    exact ⟨b2, r2, p2.trans p1⟩
theorem sorted_has {P : Program} {w : World} {A : Around} {E : Value → Shared → Prop} {s : Shared} {a : Addr} {ks : List Key} {Q : Value → Shared → Prop} (R : HasK w ks s.heap a) (hh : A.handled = none) (hu : A.units + 64 < cLine) (hk : kindK ks = true)
    (q : ∀ s' p (out : List Value) (c : Nat), (∀ b o, s.heap.get? b = some o → s'.heap.get? b = some o) → s'.gens = s.gens → s'.os = s.os → s.heap.objs.size ≤ p → s'.heap.get? p = some (seqObj "list" out.toArray c) →
      W.EachIs (fun v k => keyIs k v = true) out ((dedK ks).mergeSort (W.dataLe false kD)) → Q (.ref p) s') : wpAny (model P w) A (call (.builtin "sorted") [.ref a]) Q E s := by
  obtain ⟨es, js, ⟨⟨o, ea, ep, t, ho, hx, hd, rfl, fit, ris, led⟩, few⟩, row, pm⟩ := R
  have few' : ea.size < scanBound := by rw [← Array.length_toList]; exact few
  have le : ea.toList.length = js.length := Paired.length row
  have lj := pm.length_eq
  refine Calls.call_function_entry kind_sorted plain_sorted entry_sorted (args_sorted1 _) ?_
  unfold Builtin.«sorted»
  refine wpAny_bind (m := checkCount "sorted" 1 1 _) (wpAny_pure (wpAny_bind (collect_set (A := A.in1) hh ⟨o, ho, hx.1, hd⟩ fit few' ris led fun s1 vs k1 z1 g1 o1 pv => ?_)))
  obtain ⟨xs, ex, px⟩ := each_perm pv (keys_of_rows row)
  have lv : vs.length = ea.size := by rw [pv.length_eq, List.length_map, Array.length_toList]
  have lx : xs.length = ea.size := by rw [← W.EachIs.length ex, lv]
  have pxs : xs.Perm (dedK ks) := px.trans pm
  have same : ∀ x ∈ dedK ks, ∀ y ∈ dedK ks, isKi x = isKi y := fun x h y h' => kindK_same hk x (dedK_mem.mp h) y (dedK_mem.mp h')
  refine wpAny_bind (wpAny_newList ?_ (by rw [lv]; exact fits_of_scanBound few'))
  have at1 : (s1.heap.push (seqObj "list" vs.toArray 0)).get? s1.heap.objs.size = some (seqObj "list" vs.toArray 0) := Heap.get?_push_size _ rfl
  have rd : W.EachIs (fun v k => ∃ as, Reads (s1.heap.push (seqObj "list" vs.toArray 0)) v (kD k) as ∧ s1.heap.objs.size ∉ as) vs xs := ex.mono fun v k h => by
    rcases keyIs_shape h with ⟨i, t, rfl, rfl⟩ | ⟨x, t, rfl, rfl⟩
    · exact ⟨[], .int i t, by simp⟩
    · exact ⟨[], .str x t, by simp⟩
  have al : W.AllAlike (xs.map kD) := fun d hd d' hd' => by
    obtain ⟨x, hx, rfl⟩ := List.mem_map.mp hd
    obtain ⟨y, hy, rfl⟩ := List.mem_map.mp hd'
    have := same x (pxs.mem_iff.mp hx) y (pxs.mem_iff.mp hy)
    cases x <;> cases y <;> first | rfl | cases this
  have so : W.Sortable (xs.map kD) := W.Sortable.others fun k => by
    cases k
    · exact ⟨(fun z => by cases z), (fun xs z => by cases z)⟩
    · exact ⟨(fun z => by cases z), (fun xs z => by cases z)⟩
  refine wpAny_bind (wpAny_holding (W.list_sort_data (s := { s1 with heap := s1.heap.push (seqObj "list" vs.toArray 0) }) (enc := kD) at1 ex rd al so (by rw [lx]; exact fits_of_scanBound few') (fun k _ => ?_) fun out lo eo => ?_))
  · have d0 : (kD k).depth = 0 := by cases k <;> rfl
    have d1 : A.in1.units = A.units + 1 := rfl
    show A.in1.units + 1 + (kD k).depth < cLine
    omega
  · obtain ⟨c, hc⟩ := sortedHeap_at (vs := vs) (out := out.toArray) at1
    rw [sort_keys_perm pxs same] at eo
    refine wpAny_pure ⟨_, rfl, q _ s1.heap.objs.size out c (fun b u e => ?_) g1 o1 z1 hc eo⟩
    have lt := Heap.lt_size (k1 b u e)
    have old := sortedHeap_old (h := s1.heap.push (seqObj "list" vs.toArray 0)) (a := s1.heap.objs.size) (vs := vs) (out := out.toArray) (Nat.ne_of_lt lt) (by rw [size_push']; exact Nat.lt_succ_of_lt lt)
    have new : (s1.heap.push (seqObj "list" vs.toArray 0)).get? b = some u := Heap.get?_push_of_some _ (k1 b u e)
    rw [← old] at new
    exact new
def SetMO (w : World) (a : Addr) (ks : List Key) : HO := .ext fun h => HasK w ks h a
theorem vals_keys : ∀ {out : List Value} {ks : List Key}, W.EachIs (fun v k => keyIs k v = true) out ks → Vals (ks.map kV) out
  | [], [], _ => .nil
  | [], _ :: _, h => by cases h
  | _ :: _, [], h => by cases h
  | v :: out, k :: ks, h => by
    cases h with
    | cons h1 h2 => exact .cons (relV_key h1) (vals_keys h2)
theorem kys_vp {K : KC} {F : Fz} : ∀ ks : List Ky, VpAll K F (ks.map kV) (ks.map kD)
  | [] => .nil
  | .inl i :: ks => .cons (.int i) (kys_vp ks)
  | .inr x :: ks => .cons (.str x) (kys_vp ks)
section
variable {X : Cx}
def rSetM (K : PySem.W.Frag) (w : World) : List V → Hp → VK → Prop := fun xs H Q => ∃ (a : Addr) (ks : List Key), xs = [.ref a] ∧ SqL K H a (ks.map kV) ∧ ks.length ≤ 4000 ∧ ∀ p, H p = none → Q (.ref p) (upd H p (SetMO w p ks))
theorem cr_setM (hc : X.calm = true) : CallR X (.type "set") (rSetM X.K X.w) := by
  intro pins s σ H xs us Q I r h
  obtain ⟨a, ks, rfl, hl, hz, q⟩ := h
  rw [Vals.ref1 r]
  obtain ⟨its, rv, pl, hs⟩ := I.list hl
  have lk : ks.length = its.length := by rw [← rv.length, List.length_map]
  refine set_of_keys (P := X.prog) (w := X.w) (ks := ks) (I.ok.hd hc) pl.isList (by simpa using lk) (by rw [List.size_toArray]; unfold scanBound; omega) (fun i v e => kV_keys rv i v (by simpa using e)) fun h' tk R k => ?_
  exact ⟨.ref s.heap.objs.size, upd H s.heap.objs.size (SetMO X.w s.heap.objs.size ks), I.laid (t' := tk) k (Nat.le_refl _) ⟨R, let ⟨_, _, ⟨⟨o, _, _, _, ho, _⟩, _⟩, _⟩ := R; ⟨o, ho⟩, fun h1 h2 p k => HasK.at p k⟩, rfl, q _ (I.hok.fresh (Nat.le_refl _))⟩
def rSortM (w : World) : List V → Hp → VK → Prop := fun vs H Q => ∃ (a : Addr) (ks : List Key), vs = [V.ref a] ∧ H a = some (SetMO w a ks) ∧ ks.length ≤ 4000 ∧ kindK ks = true ∧
  ∀ (p : Addr) (js : List Key), js.map kD = sortD ((dedK ks).map kD) → H p = none → Q (.ref p) (upd H p (.lst (js.map kV)))
theorem cr_sortM (hc : X.calm = true) (hu : X.A.units + 64 < cLine) : CallR X (.builtin "sorted") (rSortM X.w) := by
  intro pins s σ H vs us Q I r h
  obtain ⟨a, ks, rfl, ha, few, hk, q⟩ := h
  have R : HasK X.w ks s.heap a := (I.hok a _ ha).1
  rw [Vals.ref1 r]
  refine sorted_has (P := X.prog) R (I.ok.hd hc) hu hk fun s' p out c k g o hp hg hi => ?_
  have hlen : (((dedK ks).mergeSort (W.dataLe false kD)).map kV).length ≤ sizeLine := by
    have := dedK_len (ks := ks)
    rw [List.length_map, List.length_mergeSort, sizeLine_eq]
    omega
  have hn : H p = none := I.hok.fresh hp
  have J : Inv X pins σ (upd H p (.lst (((dedK ks).mergeSort (W.dataLe false kD)).map kV))) s' :=
    Inv.call' (ch := []) I o (Un.laid k hp hn) (I.hok.laid k hp ⟨hlen, out, c, vals_keys hi, hg⟩) (by rw [g]; exact I.bare) (fun _ z => nomatch z)
  exact ⟨.ref p, _, J, rfl, q p _ (W.sort_maps kD fun a _ b _ => rfl) hn⟩
theorem de_sortSet {e : Expr} {fa : EF} {qb : Bool} {p p2 q pos : Pos} (hc : X.calm = true) (hu : X.A.units + 64 < cLine) (ha : DE X qb e fa) (hg : Gl X "sorted") (hm : X.mg "sorted" = none) (hv : bootBuiltins "sorted" = some (.builtin "sorted")) (hg2 : Gl X "set") (hm2 : X.mg "set" = none) (hv2 : bootBuiltins "set" = some (.type "set"))
    (he : starEach [e] X.env = (false, eval e X.env) :: starEach [] X.env := by rfl) (hpl : (backTo q (starEach [] X.env)).any (·.1) = false := by rfl)
    (he2 : starEach [.Call (.Name "set" p2) [e] [] q] X.env = (false, eval (.Call (.Name "set" p2) [e] [] q) X.env) :: starEach [] X.env := by rfl) (hpl2 : (backTo pos (starEach [] X.env)).any (·.1) = false := by rfl) :
    DE X qb (.Call (.Name "sorted" p) [.Call (.Name "set" p2) [e] [] q] [] pos) (eUn (fun c => gSetSort [c]) fa) := by
  obtain ⟨t, a1, a2⟩ := ha.ex
  refine ⟨_, pe_callB (cr_sortM hc hu) hg hm hv (pa_cons (pe_callTy (cr_setM hc) hg2 hm2 hv2 (pa_cons a1 pa_nil he) (by decide) (by decide) he hpl) pa_nil he2) (by decide) (by decide) he2 hpl2, fun B H0 F0 F H σ r z r' q j Q k => ?_⟩
  simp only [eUn, Option.bind_eq_some_iff] at q
  obtain ⟨⟨z1, r1⟩, q1, c, q2, w, q3, q4⟩ := q
  cases q4
  refine a2 _ _ _ _ _ _ _ _ _ q1 j _ fun F1 H1 v g1 j1 k1 => ?_
  have b := k1.look j1 q2
  unfold gSetSort at q3
  split at q3
  · rename_i ds e0
    cases e0
    simp only [Option.bind_eq_some_iff] at q3
    obtain ⟨ks, q5, q6⟩ := q3
    split at q6
    · rename_i hk
      cases q6
      rw [Bool.and_eq_true] at hk
      have hlen : ks.length ≤ 4000 := of_decide_eq_true hk.2
      obtain ⟨p0, vs, rfl, sq, dd⟩ := b
      have ev := keys_v q5 dd
      subst ev
      refine ⟨p0, ks, rfl, sq, hlen, fun n hn => ?_⟩
      refine ⟨n, ks, rfl, upd_same, hlen, hk.1, fun l ks' el hl => ?_⟩
      have ga : Grow F1 H1 F1 (upd H1 n (SetMO X.w n ks)) := .lay j1.fh hn
      have j2 := j1.grow ga
      have gb : Grow F1 (upd H1 n (SetMO X.w n ks)) F1 (upd (upd H1 n (SetMO X.w n ks)) l (.lst (ks'.map kV))) := .lay j2.fh hl
      exact k _ _ _ ((g1.qt ga.ge).qt gb.ge) (j2.grow gb) (RetOk.res j2 gb ⟨l, rfl, hl, j2.fh.back hl, j2.tagged l hl, ks'.map kV, upd_same, by rw [← el]; exact kys_vp ks'⟩)
    · cases q6
  · cases q3
end
end CM
end
section
set_option Elab.async false
set_option linter.all false
set_option maxRecDepth 100000
set_option autoImplicit false
namespace CM
open PySem PySem.Spec PyProof.Rows L2 PySem.SeqAt
structure ItemsAt (X : Cx) (F : Fz) (s : Shared) (a : Addr) (ps : List (V × V)) (qs : List (D × D)) : Prop where
  raw : ∃ es ep, DT.Raw s.heap a es ep ∧ es.size = ps.length ∧ es.size ≤ sizeLine ∧ ∀ i (hi : i < es.size), ∃ p q, ps[i]? = some p ∧ qs[i]? = some q ∧ RelV p.1 es[i].key ∧ RelV p.2 es[i].val ∧ Vp X.kc F p.1 q.1 ∧ Vp X.kc F p.2 q.2
  len : ps.length = qs.length
def Fz.more (F : Fz) (as : List Addr) (H : Hp) : Fz := ⟨fun a => (F.f a).or (if as.contains a = true then H a else none), F.t⟩
section
variable {X : Cx}
end
end CM
end
section
set_option Elab.async false
set_option linter.all false
set_option maxRecDepth 100000
set_option autoImplicit false
namespace CM
open PySem PySem.Spec PyProof.Rows L2 PySem.SeqAt PySem.W
section
variable {X : Cx}
variable {e : Expr} {fa : EF} {qb : Bool} {p pos apos cpos : Pos}
end
end CM
end
section
set_option Elab.async false
set_option linter.all false
set_option maxRecDepth 100000
set_option autoImplicit false
namespace CM
open PySem PySem.Spec PyProof.Rows L2 PySem.SeqAt PySem.W
mutual
theorem Vp.plain {K : KC} {F F' : Fz} (e : Ex F.f F'.f) : ∀ (d : D) (v : V), nod d = true → Vp K F v d → Vp K F' v d
  | .none, _, _, h => by cases h; exact .non
  | .bool b, _, _, h => by cases h; exact .bl b
  | .int i, _, _, h => by cases h; exact .int i
  | .str x, _, _, h => by cases h; exact .str x
  | .list ds, _, n, h => by
    cases h with
    | lst hs ha => exact .lst (e.l hs) (VpAll.plain e ds _ (by unfold nod at n; exact n) ha)
  | .tuple ds, _, n, h => by
    cases h with
    | tup hs ha => exact .tup (hs.up e) (VpAll.plain e ds _ (by unfold nod at n; exact n) ha)
  | .dict _, _, n, h => by unfold nod at n; cases n
theorem VpAll.plain {K : KC} {F F' : Fz} (e : Ex F.f F'.f) : ∀ (ds : List D) (vs : List V), nods ds = true → VpAll K F vs ds → VpAll K F' vs ds
  | [], _, _, h => by cases h; exact .nil
  | d :: ds, _, n, h => by
    cases h with
    | cons h1 h2 => exact .cons (Vp.plain e d _ (nods_cons n).1 h1) (VpAll.plain e ds _ (nods_cons n).2 h2)
end
def keysD (f : DF) : List D → Option (List D)
  | [] => some []
  | d :: ds => (f [.d d] []).bind fun p => match p.1 with
    | .sh k => (keysD f ds).bind fun ks => some (k :: ks)
    | _ => none
theorem keysD_get {f : DF} : ∀ {ds ks : List D} {i : Nat} {d : D}, keysD f ds = some ks → ds[i]? = some d → ∃ k st', ks[i]? = some k ∧ f [.d d] [] = some (.sh k, st')
  | [], _, i, d, _, h => by simp at h
  | x :: ds, ks, i, d, q, h => by
    simp only [keysD, Option.bind_eq_some_iff] at q
    obtain ⟨⟨z, st'⟩, q1, q2⟩ := q
    cases z with
    | sh k =>
      simp only [Option.bind_eq_some_iff] at q2
      obtain ⟨ks', q3, q4⟩ := q2
      cases q4
      cases i with
      | zero => cases h; exact ⟨k, st', rfl, q1⟩
      | succ i => exact keysD_get (i := i) q3 (by simpa using h)
    | _ => cases q2
theorem keysD_len {f : DF} : ∀ {ds ks : List D}, keysD f ds = some ks → ks.length = ds.length
  | [], _, q => by cases q; rfl
  | x :: ds, ks, q => by
    simp only [keysD, Option.bind_eq_some_iff] at q
    obtain ⟨⟨z, st'⟩, q1, q2⟩ := q
    cases z with
    | sh k =>
      simp only [Option.bind_eq_some_iff] at q2
      obtain ⟨ks', q3, q4⟩ := q2
      cases q4
      simp [keysD_len q3]
    | _ => cases q2
section
variable {X : Cx} {k : Nat} {f : Addr} {fd : FuncData} {ps : List Str} {m : Bool} {g : DF}
theorem key_call (F0 : FnOk X.prog X.w X.K X.mg X.base CX0 k f fd ps (spD X.kc [m] g)) (hr : Room (k + 2) X.A) (hb : Binds X.K fd ps []) {pins : List (Addr × Obj)} {σ : L2.St} {H : Hp} {s : Shared} {F : Fz} {x : V} {v : Value} {d kd : D} {st' : Store}
    (I : Inv X pins σ H s) (e : Ex F.f H) (r : RelV x v) (vd : Vp X.kc F x d) (nd : nod d = true) (nk : nod kd = true) (q : g [.d d] [] = some (.sh kd, st')) :
    wpAny (model X.prog X.w) X.A.in1.in1 (call (.ref f) [v]) (EP X pins σ fun y H' => ∃ F', Grow F H F' H' ∧ Vp X.kc F' y kd) (fun _ _ => False) s := by
  have r2 : Vals [x] [v] := .cons r .nil
  let Fe : Fz := ⟨F.f, fun _ => none⟩
  have pv : priv Fe H = H := by
    funext a
    rfl
  have vd' : Vp X.kc Fe x d := Vp.plain (F := F) (F' := Fe) (Ex.refl F.f) d x nd vd
  have hsp : spD X.kc [m] g [x] H (fun y H' => ∃ F', Grow F H F' H' ∧ Vp X.kc F' y kd) (fun _ _ _ => False) := by
    refine ⟨Fe, [.d d], [], .sh kd, st', e, ⟨?_, ?_, ?_, ?_, ?_, ?_, ?_, ?_, ?_, fun p n h => by cases h⟩, ?_, q, fun F' H' y g4 s4 o4 => ?_⟩
    · intro p n q; cases q
    · intro p q t z _; cases z
    · intro p t q; cases q
    · intro p t q; cases q
    · intro p n f q; cases q
    · intro p n f q; cases q
    · intro p n f c q; cases q
    · intro p n f c q; cases q
    · intro p q n b w; cases w
    · rw [pv]
      cases m with
      | true => exact ⟨⟨d, rfl, vd'⟩, trivial⟩
      | false => exact ⟨Bd.of vd' e, trivial⟩
    · rw [pv] at g4
      have o4 : Vp X.kc F' y kd := o4
      refine ⟨⟨F'.f, F.t⟩, ⟨g4.f.f, rfl, g4.h, g4.fh, fun a o z => g4.nw a o z⟩, Vp.plain (F := F') (F' := ⟨F'.f, F.t⟩) (Ex.refl F'.f) kd y nk o4⟩
  have hl : ([v] : List Value).length = ps.length := F0.len _ _ _ _ hsp
  have hb' := hb s [v] I.kIn (by simpa using hl)
  rw [List.append_nil] at hb'
  refine wpAny_call (codeAny_mono (F0.run X.A.in1.in1 X.stack s H ⟨[v], []⟩ [v] [x] _ _ (hr.in1.in1) I.env0.in1.in1 hb' r2 hsp) fun r s' hq => ?_)
  cases r with
  | error e => exact hq
  | ok fl =>
    cases fl with
    | ret u => exact I.after hq
    | next => exact False.elim hq
    | brk => exact False.elim hq
    | cont => exact False.elim hq
end
end CM
end
section
set_option Elab.async false
set_option linter.all false
set_option maxRecDepth 100000
set_option autoImplicit false
namespace CM
open PySem PySem.Spec PyProof.Rows L2 PySem.SeqAt PySem.W
def sortKD (rev : Bool) (ds ks : List D) : List D := ((ds.zip ks).mergeSort (W.dataLe rev fun p : D × D => p.2)).map (·.1)
section
variable {X : Cx} {k : Nat} {f : Addr} {fd : FuncData} {ps : List Str} {m : Bool} {g : DF}
theorem both_taken {pins : List (Addr × Obj)} {σ : L2.St} {H : Hp} {s : Shared} {h' : Heap} {tk : Nat} {a c : Addr} {ob ob' : Obj} {u : HO} (I : Inv X pins σ H s) (fa : FpOk X pins H a) (fc : FpOk X pins H c) (hac : c ≠ a) (q0 : s.heap.get? a = some ob) (q1 : h'.get? a = some ob')
    (keep : ∀ x o, x ≠ a → x ≠ c → s.heap.get? x = some o → h'.get? x = some o) (new : ObjOk X.prog X.w (upd H a u) h' a u) : Inv X pins σ (upd H a u) { s with heap := h', toks := tk } := by
  -- h' with a as it was
  have live : ob.isFreed = false := (Heap.get?_some_iff.mp q0).2
  have ha : (h'.update a fun _ => ob).get? a = some ob := Heap.get?_update_self (fun _ => ob) q1 live
  have hx : ∀ x, x ≠ a → (h'.update a fun _ => ob).get? x = h'.get? x := fun x z => Heap.get?_update_ne _ _ _ _ z
  obtain ⟨c1, c2, _, c3, c4, c5⟩ := fc
  have I1 := I.turned (t' := tk) (it := c) (h' := h'.update a fun _ => ob) (fun x o z e => by
    by_cases y : x = a
    · rw [y] at e ⊢
      rw [q0] at e
      rw [ha]
      exact e
    · rw [hx x y]; exact keep x o y z e) c1 c2 c3 c4 c5
  exact I1.take (t' := tk) (h' := h') (fun x o z e => by rw [← hx x z]; exact e) fa new
def KsOk (X : Cx) (F : Fz) (us : List Value) (ks : List D) : Prop := W.EachIs (fun u kd => ∃ kv, RelV kv u ∧ Vp X.kc F kv kd) us ks
theorem KsOk.up {F F' : Fz} (e : FEi F F') {us : List Value} {ks : List D} (h : KsOk X F us ks) : KsOk X F' us ks := h.mono fun _ _ ⟨kv, a, b⟩ => ⟨kv, a, Vp.up e _ _ b⟩
theorem sortKey_tree (F0 : FnOk X.prog X.w X.K X.mg X.base CX0 k f fd ps (spD X.kc [m] g)) (hr : Room (k + 2) X.A) (hb : Binds X.K fd ps []) {pins : List (Addr × Obj)} {σ : L2.St} {H : Hp} {s : Shared} {F : Fz} {b : Bool} {a : Addr} {its : List Value} {xs : List V} {ds ks : List D} {n : Nat} {s0 : Shared}
    (I0 : Inv X pins σ H s0) (ha0 : s0.heap.objs.size ≤ a) (hz0 : s0.heap.objs.size ≤ s.heap.objs.size) (I : Inv X pins σ H s) (e : Ex F.f H) (ho : s.heap.get? a = some (seqObj "list" its.toArray n)) (rv : Vals xs its) (vp : VpAll X.kc F xs ds) (hn : H a = none)
    (nd : nods ds = true) (kq : keysD g ds = some ks) (sB : sortB ks = true) {E : Value → Shared → Prop} {Q : Shared → Prop}
    (h : ∀ (s' : Shared) (H' : Hp) (F' : Fz) (zs : List V), Inv X pins σ H' s' → Grow F H F' H' → H' a = some (.lst zs) → H a = none → F'.f a = none → VpAll X.kc F' zs (sortKD b ds ks) → Q s') :
    wpAny (model X.prog X.w) X.A.in1.in1 (ksk_tree a (.ref f) b) (fun fl s' => fl = .done (.ret .none) ∧ Q s') E s := by
  obtain ⟨nk, al, so, dp, ln⟩ := sortB_ok sB
  have lk := keysD_len kq
  have lx : xs.length = ds.length := VpAll.length vp
  have li : its.length = ds.length := by rw [← rv.length, lx]
  have hZ : its.length ≤ sizeLine := by omega
  have ha : a < s.heap.objs.size := Heap.lt_size ho
  obtain ⟨e1, ho1⟩ : ∃ e1, (s.heap.update a (Obj.mapSeq fun _ => (#[] : Array Value))).get? a = some (seqObj "list" #[] e1) := ⟨_, get?_update_seq ho fun _ => #[]⟩
  have hkS : ((s.heap.update a (Obj.mapSeq fun _ => (#[] : Array Value))).push (seqObj "tuple" its.toArray 0)).objs.size = s.heap.objs.size + 1 := by rw [size_push', Heap.size_update]
  unfold ksk_tree
  refine wpAny_bind (listItems_at ho rfl ?_)
  refine wpAny_bind (listUpdate_at ho rfl ?_ (by rw [List.size_toArray]; exact hZ) (Nat.zero_le _))
  refine wpAny_bind (seqEpoch_at ho1 rfl ?_)
  refine wpAny_bind (wpAny_newTuple ?_ (by show its.length ≤ _; exact hZ))
  refine wpAny_bind (wpAny_newList ?_ (Nat.zero_le _))
  refine wpAny_holding ?_
  -- the heap ahead of the calls
  have fa : FpOk X pins H a := I0.fpOk ha0 hn
  obtain ⟨_, fa2, fa3, fa4, fa5, fa6⟩ := fa
  have old : ∀ x o, x ≠ a → s.heap.get? x = some o → (sortingHeap s.heap a its).get? x = some o := fun x o hx q => sortingHeap_old hx q
  have I1 : Inv X pins σ H { s with heap := sortingHeap s.heap a its } := I.turned (t' := s.toks) (it := a) old hn fa2 fa4 fa5 fa6
  show wpAny _ _ (ksk_rest a (.ref f) b its.toArray e1 (.ref ((s.heap.update a (Obj.mapSeq fun _ => (#[] : Array Value))).push (seqObj "tuple" its.toArray 0)).objs.size)) _ _ { s with heap := sortingHeap s.heap a its }
  rw [hkS]
  have nkS : (sortingHeap s.heap a its).get? (s.heap.objs.size + 1) = some (seqObj "list" #[] 0) := by
    rw [← hkS]; exact Heap.get?_push_size _ rfl
  have na0 : (sortingHeap s.heap a its).get? a = some (seqObj "list" #[] e1) := Heap.get?_push_of_some _ (Heap.get?_push_of_some _ ho1)
  have hka : s.heap.objs.size + 1 ≠ a := Nat.ne_of_gt (Nat.lt_succ_of_lt ha)
  have hnS : H (s.heap.objs.size + 1) = none := I.hok.fresh (Nat.le_succ _)
  have sz0 : s0.heap.objs.size ≤ s.heap.objs.size + 1 := Nat.le_succ_of_le hz0
  generalize hkSd : s.heap.objs.size + 1 = kS at *
  generalize sortingHeap s.heap a its = hp0 at *
  unfold ksk_rest
  refine wpAny_bind (wpAny_rule ?_)
  first
    | rw [List.forIn_toArray]
    | (rw [← Array.forIn_toList]; simp only [List.toList_toArray])
    | rw [← Array.forIn_toList]
  refine wpAny_bind (ksk_fold (fun i s' => ∃ H' F' kA ep, Inv X pins σ H' s' ∧ Grow F H F' H' ∧ H' a = none ∧ H' kS = none ∧ s'.heap.get? kS = some (seqObj "list" kA ep) ∧ s'.heap.get? a = some (seqObj "list" #[] e1) ∧ KsOk X F' kA.toList (ks.take i)) its 0 _
    ⟨H, F, #[], 0, I1, .refl e, hn, hnS, nkS, na0, by rw [List.take_zero]; exact W.EachIs.nil⟩ ?step ?done)
  case step =>
    rintro j u s' hu ⟨H', F', kA, ep, I', gw, hn', hnS', nk', na', hk⟩
    simp only [Nat.zero_add] at hk ⊢
    have hj : j < its.length := (List.getElem?_eq_some_iff.mp hu).1
    obtain ⟨d, hd⟩ : ∃ d, ds[j]? = some d := ⟨_, List.getElem?_eq_getElem (by omega)⟩
    obtain ⟨x, hx, vx⟩ := VpAll.get vp hd
    obtain ⟨u', hu', rx⟩ := Vals.get rv hx
    rw [hu] at hu'; cases hu'
    obtain ⟨kd, st', hkd, gq⟩ := keysD_get kq hd
    have hnd : nod d = true := nods_mem nd (List.mem_of_getElem? hd)
    have hnk : nod kd = true := nods_mem nk (List.mem_of_getElem? hkd)
    have fpa : ∀ x ∈ [a, kS], FpOk X pins H' x := fun x hx => by
      rcases List.mem_cons.mp hx with z | z
      · rw [z]; exact I0.fpOk ha0 hn'
      · rw [List.mem_singleton.mp z]; exact I0.fpOk sz0 hnS'
    have Ip := I'.pinned (fp := [a, kS]) fpa fun x hx => by
      rcases List.mem_cons.mp hx with z | z
      · rw [z]; exact ⟨_, na', fun v z => by cases z⟩
      · rw [List.mem_singleton.mp z]; exact ⟨_, nk', fun v z => by cases z⟩
    refine wpAny_bind (wpAny_attempt (wpAny_mono (key_call F0 hr hb Ip gw.fh rx (Vp.up gw.fe _ _ vx) hnd hnk gq) (fun v s2 he => ?_) fun _ _ hF => hF.elim))
    obtain ⟨y, H2, I2, ry, F2, gw2, vy⟩ := he
    have pa : (a, seqObj "list" #[] e1) ∈ pinsAt [a, kS] s'.heap := by
      unfold pinsAt
      rw [List.mem_filterMap]
      exact ⟨a, by simp, by rw [na']; rfl⟩
    have pS : (kS, seqObj "list" kA ep) ∈ pinsAt [a, kS] s'.heap := by
      unfold pinsAt
      rw [List.mem_filterMap]
      exact ⟨kS, by simp, by rw [nk']; rfl⟩
    obtain ⟨na2, hn2, _⟩ := I2.pin _ (List.mem_append_right _ (List.mem_append_right _ pa))
    obtain ⟨nk2, hnS2, _⟩ := I2.pin _ (List.mem_append_right _ (List.mem_append_right _ pS))
    have I3 := I2.unpinned
    try dsimp only at *
    have hz : kA.size ≤ its.length := by
      have h1 := hk.length
      rw [Array.length_toList, List.length_take] at h1
      omega
    have s1 := Heap.SameBut.update s2.heap kS (Obj.mapSeq (·.push v))
    obtain ⟨c2, hc2⟩ : ∃ c2, (s2.heap.update kS (Obj.mapSeq (·.push v))).get? kS = some (seqObj "list" (kA.push v) c2) := ⟨_, get?_update_seq nk2 (·.push v)⟩
    have ek : ks.take (j + 1) = ks.take j ++ [kd] := by rw [List.take_add_one, hkd]; simp
    have ea : (kA.push v).toList = kA.toList ++ [v] := by simp
    refine wpAny_bind (listUpdate_at nk2 rfl ?_ (Nat.le_trans hz hZ) (Nat.le_trans (Nat.le_of_eq (Array.size_push ..)) (Nat.succ_le_succ (Nat.le_trans hz hZ))))
    obtain ⟨_, fS2, fS3, fS4, fS5, fS6⟩ : FpOk X pins H2 kS := I0.fpOk sz0 hnS2
    have I4 := I3.turned (t' := s2.toks) (it := kS) (h' := s2.heap.update kS (Obj.mapSeq (·.push v))) (fun x o hx q => (s1.2 x hx).trans q) hnS2 fS2 fS4 fS5 fS6
    refine wpAny_pure ⟨rfl, H2, F2, kA.push v, c2, I4, gw.trans gw2, hn2, hnS2, hc2, (s1.2 a hka.symm).trans na2, ?_⟩
    rw [ea, ek]
    exact each_snoc (R := fun (u : Value) (kd : D) => ∃ kv, RelV kv u ∧ Vp X.kc F2 kv kd) ⟨y, ry, vy⟩ (hk.up gw2.fe)
  case done =>
    rintro s' ⟨H', F', kA, ep, I', gw, hn', hnS', nk', na', hk⟩
    have hk' : KsOk X F' kA.toList ks := by
      have e3 : ks.take (0 + its.length) = ks := List.take_of_length_le (by omega)
      rw [e3] at hk
      exact hk
    have hsz : kA.size = its.length := by
      have h1 := W.EachIs.length hk'
      rw [Array.length_toList] at h1
      omega
    have hrd : W.EachIs (fun v kd => ∃ as, Reads s'.heap v kd as) kA.toList ks := each_mono hk' fun v kd hm ⟨kv, r1, v1⟩ => Dp.reads I' kd kv v (Vp.dp gw.fh _ _ v1 (nods_mem nk hm)) r1
    try dsimp only
    refine wpAny_bind (listItems_at nk' rfl ?_)
    have hid : (s'.heap.hide kS).get? kS = none := Heap.hide_self _ _
    have kp : KeepsBut a (s'.heap.hide kS) s'.heap := fun x o _ q => by
      by_cases z : x = kS
      · rw [z, hid] at q; cases q
      · rw [Heap.hide_ne _ z] at q; exact q
    refine keyH_end (κ := dataKind s'.heap ks) kp hid nk' na' hka (SortsAt.data (s := s') hrd al so (fun d hd => ?_)) hsz hZ fun h3 tk3 c k3 n3 => ⟨rfl, ?_⟩
    · have d1 := dp d hd
      have d2 := hr.in1.in1.units
      have d3 : X.A.in1.in1.units + 64 < cLine := d2
      show X.A.in1.in1.units + d.depth < cLine
      omega
    -- the list is tracked from now on
    have ko : KeyedOut b ks its (sortVals (dataKind s'.heap ks) b kA.toList its) := ⟨s'.heap, kA.toList, al, rfl, hrd⟩
    -- the values, with what they stand for
    have eR : W.EachIs (fun (v : Value) (z : (V × D) × D) => RelV z.1.1 v ∧ Vp X.kc F z.1.1 z.1.2) its ((xs.zip ds).zip ks) := by
      have gg : ∀ (its : List Value) (xs : List V) (ds ks : List D), Vals xs its → VpAll X.kc F xs ds → ks.length = ds.length → W.EachIs (fun (v : Value) (z : (V × D) × D) => RelV z.1.1 v ∧ Vp X.kc F z.1.1 z.1.2) its ((xs.zip ds).zip ks) := fun its => by
        induction its with
        | nil => intro xs ds ks r v l; cases r; cases v; cases ks with
          | nil => exact .nil
          | cons _ _ => cases l
        | cons i its ih => intro xs ds ks r v l; cases r with
          | cons r1 r2 => cases v with
            | cons v1 v2 => cases ks with
              | nil => cases l
              | cons kk ks => exact .cons ⟨r1, v1⟩ (ih _ _ _ r2 v2 (by simpa using l))
      exact gg its xs ds ks rv vp (by omega)
    have lz : (xs.zip ds).length = ks.length := by rw [List.length_zip]; omega
    have mk2 : ((xs.zip ds).zip ks).map (fun z : (V × D) × D => z.2) = ks := List.map_snd_zip (by omega)
    have eo := keyedOut_each (rev := b) (R := fun (v : Value) (z : (V × D) × D) => RelV z.1.1 v ∧ Vp X.kc F z.1.1 z.1.2) (fun z : (V × D) × D => z.2) (by rw [mk2]; exact ko) eR
    generalize hzs : ((xs.zip ds).zip ks).mergeSort (dataLe b fun z : (V × D) × D => z.2) = zs at eo
    have hm : zs.map (fun z => z.1.2) = sortKD b ds ks := by
      rw [← hzs]
      have e2 : ((xs.zip ds).zip ks).map (fun z : (V × D) × D => (z.1.2, z.2)) = ds.zip ks := by
        have gg : ∀ (xs : List V) (ds ks : List D), xs.length = ds.length → ((xs.zip ds).zip ks).map (fun z : (V × D) × D => (z.1.2, z.2)) = ds.zip ks := fun xs => by
          induction xs with
          | nil => intro ds ks h; cases ds with
            | nil => rfl
            | cons _ _ => cases h
          | cons x xs ih => intro ds ks h; cases ds with
            | nil => cases h
            | cons d ds => cases ks with
              | nil => rfl
              | cons kk ks => rw [List.zip_cons_cons, List.zip_cons_cons, List.map_cons, ih ds ks (by simpa using h)]; rfl
        exact gg xs ds ks lx
      unfold sortKD
      rw [← e2, ← sort_maps (r := dataLe b fun z : (V × D) × D => z.2) (fun z : (V × D) × D => (z.1.2, z.2)) (fun a _ b _ => rfl), List.map_map]
      rfl
    have zv : Vals (zs.map fun z => z.1.1) (sortVals (dataKind s'.heap ks) b kA.toList its) ∧ VpAll X.kc F' (zs.map fun z => z.1.1) (zs.map fun z => z.1.2) := by
      generalize sortVals (dataKind s'.heap ks) b kA.toList its = out at eo
      have gg : ∀ (out : List Value) (zs : List ((V × D) × D)), W.EachIs (fun (v : Value) (z : (V × D) × D) => RelV z.1.1 v ∧ Vp X.kc F z.1.1 z.1.2) out zs → Vals (zs.map fun z => z.1.1) out ∧ VpAll X.kc F' (zs.map fun z => z.1.1) (zs.map fun z => z.1.2) := fun out => by
        induction out with
        | nil => intro zs h; cases zs with
          | nil => exact ⟨.nil, .nil⟩
          | cons _ _ => cases h
        | cons o out ih => intro zs h; cases zs with
          | nil => cases h
          | cons z zs => cases h with
            | cons h1 h2 => exact ⟨.cons h1.1 (ih zs h2).1, .cons (Vp.up gw.fe _ _ h1.2) (ih zs h2).2⟩
      exact gg out zs eo
    obtain ⟨_, fS2, fS3, fS4, fS5, fS6⟩ : FpOk X pins H' kS := I0.fpOk sz0 hnS'
    have fpa : FpOk X pins H' a := I0.fpOk ha0 hn'
    obtain ⟨_, ga2, ga3, ga4, ga5, ga6⟩ := id fpa
    have hlen : (zs.map fun z => z.1.1).length ≤ sizeLine := by
      rw [List.length_map, ← hzs, List.length_mergeSort, List.length_zip]
      omega
    have I5 := both_taken I' (u := .lst (zs.map fun z => z.1.1)) (h' := h3) (tk := tk3) fpa (I0.fpOk sz0 hnS') hka na' n3 (fun x o h1 h2 q => k3 x o h1 (by rw [Heap.hide_ne _ h2]; exact q)) ⟨hlen, _, c, zv.1, n3⟩
    have gf : F'.f a = none := by
      cases w : F'.f a with
      | none => rfl
      | some o => have := gw.fh _ _ w; rw [hn'] at this; cases this
    have gw' : Grow F H F' (upd H' a (.lst (zs.map fun z => z.1.1))) := gw.trans (.lay gw.fh hn')
    exact h _ _ F' _ I5 gw' upd_same hn gf (by rw [← hm]; exact zv.2)
end
end CM
end
section
set_option Elab.async false
set_option linter.all false
set_option maxRecDepth 100000
set_option autoImplicit false
namespace CM
open PySem PySem.Spec PyProof.Rows L2 PySem.SeqAt PySem.W PySem.Calls
def gSortK (g : DF) (b : Bool) : C → Option Res
  | .d (.list ds) => if nods ds = true then (keysD g ds).bind fun ks => if sortB ks = true then some (.fr (.d (.list (sortKD b ds ks)))) else none else none
  | _ => none
section
variable {X : Cx} {k : Nat} {f : Addr} {fd : FuncData} {ps : List Str} {m : Bool} {g : DF}
theorem gSortK_ok {b : Bool} {ds : List D} {z : Res} (h : gSortK g b (.d (.list ds)) = some z) : nods ds = true ∧ ∃ ks, keysD g ds = some ks ∧ sortB ks = true ∧ z = .fr (.d (.list (sortKD b ds ks))) := by
  have h : (if nods ds = true then (keysD g ds).bind fun ks => if sortB ks = true then some (Res.fr (.d (.list (sortKD b ds ks)))) else none else none) = some z := h
  by_cases n : nods ds = true
  · rw [if_pos n] at h
    obtain ⟨ks, h1, h2⟩ := Option.bind_eq_some_iff.mp h
    by_cases s : sortB ks = true
    · rw [if_pos s] at h2
      cases h2
      exact ⟨n, ks, h1, s, rfl⟩
    · rw [if_neg s] at h2; cases h2
  · rw [if_neg n] at h; cases h
theorem sortK_run (F0 : FnOk X.prog X.w X.K X.mg X.base CX0 k f fd ps (spD X.kc [m] g)) (hr : Room (k + 2) X.A) (hb : Binds X.K fd ps []) {b : Bool} {kw : List (Str × Value)} (ht : ∀ x, Builtin.«list.sort» ⟨[.ref x], kw⟩ = ksk_tree x (.ref f) b) (ha1 : ∀ l : Addr, argsOk "sorted" ⟨[.ref l], kw⟩) (ha2 : ∀ x : Addr, argsOk "list.sort" ⟨[.ref x], kw⟩)
    {pins : List (Addr × Obj)} {σ : L2.St} {H : Hp} {s : Shared} {F : Fz} {l : Addr} {xs : List V} {ds : List D} {z : Res} {Q : VK} (I : Inv X pins σ H s) (e : Ex F.f H) (et : ∀ p, H p = none → F.t p = none) (hl : SqL X.K H l xs) (vp : VpAll X.kc F xs ds) (q : gSortK g b (.d (.list ds)) = some z)
    (h : ∀ F' H' v, Grow F H F' H' → RetOk X.kc H F' H' v z → Q v H') :
    wpAny (model X.prog X.w) X.A (call (.builtin "sorted") [.ref l] kw) (EP X pins σ Q) X.xe s := by
  obtain ⟨nd, ks, kq, sB, rfl⟩ := gSortK_ok q
  obtain ⟨its, rv, pl, hz⟩ := I.list hl
  refine sorted_of_sort pl.isList (by rw [← rv.length]; exact hz) (ha1 l) ha2 fun E' => ?_
  rw [ht]
  have I1 : Inv X pins σ H { s with heap := copyHeap s.heap its } := I.kept (t' := s.toks) fun b o q => copyHeap_old q
  have hsz : s.heap.objs.size ≤ (copyHeap s.heap its).objs.size := Nat.le_of_lt (Nat.lt_of_succ_lt (Heap.lt_size (copyHeap_at s.heap its)))
  refine sortKey_tree (s := { s with heap := copyHeap s.heap its }) F0 hr hb I (Nat.le_succ _) hsz I1 e (copyHeap_at s.heap its) rv vp (I.hok.fresh (Nat.le_succ _)) nd kq sB fun s' H' F' zs I' gw hH hn hf vz => ?_
  exact ⟨.ref (s.heap.objs.size + 1), H', I', rfl, h F' H' _ gw ⟨_, rfl, hn, hf, by rw [gw.t]; exact et _ hn, zs, hH, vz⟩⟩
end
end CM
end
section
set_option Elab.async false
set_option linter.all false
set_option maxRecDepth 100000
set_option autoImplicit false
namespace CM
open PySem PySem.Spec PyProof.Rows L2 PySem.SeqAt PySem.W
section
variable {X : Cx} {k : Nat} {m : Bool} {g : DF} {e : Expr} {fa : EF} {qb : Bool} {x : Str} {p pos kpos rpos apos cpos bpos : Pos}
def rSK (X : Cx) (g : DF) (b : Bool) (zs0 : List V) : List V → List V → Hp → VK → Prop := fun vs zs H Q => ∃ (F : Fz) (l : Addr) (xs : List V) (ds : List D) (z : Res), vs = [.ref l] ∧ zs = zs0 ∧ Ex F.f H ∧ (∀ p, H p = none → F.t p = none) ∧ SqL X.K H l xs ∧ VpAll X.kc F xs ds ∧ gSortK g b (.d (.list ds)) = some z ∧
  ∀ F' H' v, Grow F H F' H' → RetOk X.kc H F' H' v z → Q v H'
variable {f : Addr} {fd : FuncData} {ps : List Str}
theorem cr_sk1 (F0 : FnOk X.prog X.w X.K X.mg X.base CX0 k f fd ps (spD X.kc [m] g)) (hr : Room (k + 2) X.A) (hb : Binds X.K fd ps []) : CallRK X (.builtin "sorted") [Str.ofString "key"] (rSK X g false [.ref f]) := by
  intro pins s σ H vs zs us ws Q I r rz h
  obtain ⟨F, l, xs, ds, z, rfl, rfl, e, et, hl, vp, q, k⟩ := h
  obtain rfl := Vals.ref1 r
  obtain rfl := Vals.ref1 rz
  exact sortK_run F0 hr hb (b := false) (fun x => ksk_t1 f x) (fun l => ksk_s1 _ _) (fun l => ksk_l1 _ _) I e et hl vp q k
theorem de_sortK (G : Df X.prog X.w X.K X.mg X.base k x [m] g) (hr : Room (k + 2) X.A) (hgx : Gl X x) (ha : DE X qb e fa) (hg : Gl X "sorted") (hm : X.mg "sorted" = none) (hv : bootBuiltins "sorted" = some (.builtin "sorted")) (hdx : (x == ("__debug__" : Str)) = false := by decide)
    (he : starEach [e] X.env = (false, eval e X.env) :: starEach [] X.env := by rfl) (hbk : backTo pos (starEach [e] X.env) = (false, eval e X.env) :: backTo pos (starEach [] X.env) := by rfl) (hpl : (backTo pos (starEach [e] X.env)).any (·.1) = false := by rfl)
    (hall : (backToKw pos (keywordEach [⟨some "key", .Name x bpos, kpos⟩] X.env)).all (·.1.isSome) = true := by rfl) (hnone : (backToKw pos (keywordEach [⟨some "key", .Name x bpos, kpos⟩] X.env)).any (·.1.isNone) = false := by rfl)
    (hks : (backToKw pos (keywordEach [⟨some "key", .Name x bpos, kpos⟩] X.env)).filterMap (·.1) = [Str.ofString "key"] := by rfl) :
    DE X qb (.Call (.Name "sorted" p) [e] [⟨some "key", .Name x bpos, kpos⟩] pos) (eUn (gSortK g false) fa) := by
  obtain ⟨t, a1, a2⟩ := ha.ex
  obtain ⟨f, fd, ps, h1, h2, h3, h4⟩ := G.ex
  refine ⟨_, pe_callBK (cr_sk1 h1 hr h4) hg hm hv (pa_cons a1 pa_nil he) (pk_cons (pe_glob hgx h2 (v := .ref f) rfl hdx) pk_nil) (by decide) (by decide) hbk hpl hall hnone hks, fun B H0 F0 F H σ r z r' q j Q k => ?_⟩
  simp only [eUn, Option.bind_eq_some_iff] at q
  obtain ⟨⟨z1, r1⟩, q1, c, q2, w, q3, q4⟩ := q
  cases q4
  refine a2 _ _ _ _ _ _ _ _ _ q1 j _ fun F1 H1 v g1 j1 k1 => ?_
  have b := k1.look j1 q2
  cases c with
  | d y =>
    cases y with
    | list ds =>
      obtain ⟨l, xs, rfl, sq, vp⟩ := b
      exact ⟨F1, l, xs, ds, z, rfl, rfl, j1.fh, j1.tagged, sq, vp, q3, fun F2 H2 v2 gw o => k _ _ _ (g1.qt gw.ge) (j1.grow gw) (RetOk.res j1 gw o)⟩
    | _ => cases q3
  | _ => cases q3
end
end CM
end
section
set_option Elab.async false
set_option linter.all false
set_option maxRecDepth 100000
set_option autoImplicit false
namespace CM
open PySem PySem.Spec PyProof.Rows L2 PySem.SeqAt
section
variable {K : KC} {F : Fz} {κ : Type} [DecidableEq κ]
end
section
variable {X : Cx} {pins : List (Addr × Obj)} {σ : L2.St} {H : Hp} {s : Shared} {F : Fz}
structure PrAt (X : Cx) (F : Fz) (H : Hp) (s : Shared) (t : Addr) (u : Value × Value) (e : V × V) (q : D × D) : Prop where
  tup : s.heap.IsTuple t #[u.1, u.2]
  k : RelV e.1 u.1
  v : RelV e.2 u.2
  kd : Vp X.kc F e.1 q.1
  vd : Vp X.kc F e.2 q.2
end
section
variable {X : Cx}
end
end CM
end
section
set_option Elab.async false
set_option linter.all false
set_option maxRecDepth 100000
set_option autoImplicit false
namespace CM
open PySem
def prD (p : Str × Int) : D := .tuple [.str p.1, .int p.2]
theorem prD_pln (p : Str × Int) : pln (prD p) = true := by simp [prD, pln, plns]
theorem sortB_of {α : Type} (f : α → D) (l : List α) (hp : ∀ x ∈ l, pln (f x) = true) (hd : ∀ x ∈ l, (f x).depth ≤ 60) (hk : (∀ x ∈ l, tupB (f x) = true) ∨ ∀ x ∈ l, plainB (f x) = true) (ha : ∀ x ∈ l, ∀ y ∈ l, W.alike (f x) (f y) = true) (hl : l.length ≤ 16777216) : sortB (l.map f) = true := by
  unfold sortB alikeB
  simp only [Bool.and_eq_true, Bool.or_eq_true, List.all_eq_true, decide_eq_true_eq, List.length_map]
  have m : ∀ x ∈ l.map f, ∃ y ∈ l, x = f y := fun x hx => by
    rw [List.mem_map] at hx
    obtain ⟨y, hy, rfl⟩ := hx
    exact ⟨y, hy, rfl⟩
  refine ⟨⟨⟨⟨nods_iff.mpr fun x hx => ?_, fun x hx y hy => ?_⟩, ?_⟩, fun x hx => ?_⟩, hl⟩
  · obtain ⟨y, hy, rfl⟩ := m x hx; exact pln_nod _ (hp y hy)
  · obtain ⟨u, hu, rfl⟩ := m x hx
    obtain ⟨v, hv, rfl⟩ := m y hy
    exact ha u hu v hv
  · rcases hk with hk | hk
    · left; intro x hx; obtain ⟨y, hy, rfl⟩ := m x hx; exact hk y hy
    · right; intro x hx; obtain ⟨y, hy, rfl⟩ := m x hx; exact hk y hy
  · obtain ⟨y, hy, rfl⟩ := m x hx; exact hd y hy
theorem sortD_map {α : Type} (f : α → D) (l : List α) : sortD (l.map f) = (l.mergeSort fun a b => leD (f a) (f b)).map f :=
  (List.map_mergeSort (r := fun a b => leD (f a) (f b)) (s := leD) (f := f) fun _ _ _ _ => rfl).symm
theorem prD_alike (p q : Str × Int) : W.alike (prD p) (prD q) = true := by simp [prD, W.alike, W.alikeAll]
theorem prD_depth (p : Str × Int) : (prD p).depth ≤ 60 := by simp [prD, PyData.depth, PyData.depthAll]
theorem sortB_prs {l : List (Str × Int)} (hl : l.length ≤ 16777216) : sortB (l.map prD) = true :=
  sortB_of prD l (fun p _ => prD_pln p) (fun p _ => prD_depth p) (.inl fun _ _ => rfl) (fun p _ q _ => prD_alike p q) hl
def sortP (l : List (Str × Int)) : List (Str × Int) := l.mergeSort fun a b => leD (prD a) (prD b)
@[simp] theorem sorted_prs {l : List (Str × Int)} (hl : l.length ≤ 16777216) : gSorted [.d (.list (l.map prD))] = some (.fr (.d (.list ((sortP l).map prD)))) := by
  rw [gSorted_l (sortB_prs hl), sortD_map]; rfl
def leR (b : Bool) (x y : D) : Bool := cond b (!W.dataLt x y) (!W.dataLt y x)
def compStep (vs : List Nat) (p : Pat) (t : TF) (a : EF) (x : D) (r : Env) : Option (Option D × Env) :=
  (bindP p x r).bind fun r1 => (t r1).bind fun b => if b.1 = true then (a b.2).bind fun q => (toSh q.2 q.1).bind fun y => some (some y.1, wipeE y.2 vs) else some (none, wipeE b.2 vs)
theorem comp_step {α : Type} {vs : List Nat} {p : Pat} {t : TF} {a : EF} (e : α → D) (g : α → Option D) (r0 : Env) : ∀ xs : List α,
    (∀ x ∈ xs, compStep vs p t a (e x) r0 = some (g x, r0)) → runComp vs p t a (xs.map e) r0 = some (xs.filterMap g, r0)
  | [], _ => rfl
  | x :: xs, h => by
    have ih := comp_step (vs := vs) (p := p) (t := t) (a := a) e g r0 xs fun y hy => h y (List.mem_cons_of_mem _ hy)
    have h := h x List.mem_cons_self
    unfold compStep at h
    rw [List.map_cons, runComp_cons]
    cases q1 : bindP p (e x) r0 with
    | none => rw [q1] at h; cases h
    | some r1 =>
      rw [q1, Option.bind_some] at h
      rw [Option.bind_some]
      cases q2 : t r1 with
      | none => rw [q2] at h; cases h
      | some b =>
        rw [q2, Option.bind_some] at h
        rw [Option.bind_some]
        by_cases c : b.1 = true
        · rw [if_pos c] at h ⊢
          cases q3 : a b.2 with
          | none => rw [q3] at h; cases h
          | some q =>
            rw [q3, Option.bind_some] at h
            rw [Option.bind_some]
            cases q4 : toSh q.2 q.1 with
            | none => rw [q4] at h; cases h
            | some y =>
              rw [q4, Option.bind_some] at h
              rw [Option.bind_some]
              have h1 := congrArg (fun z => z.2) (Option.some.inj h)
              have h2 := congrArg (fun z => z.1) (Option.some.inj h)
              simp only at h1 h2
              show (runComp vs p t a (xs.map e) (wipeE y.2 vs)).bind _ = _
              rw [h1, ih, List.filterMap_cons, ← h2]
              rfl
        · rw [if_neg c] at h ⊢
          have h1 := congrArg (fun z => z.2) (Option.some.inj h)
          have h2 := congrArg (fun z => z.1) (Option.some.inj h)
          simp only at h1 h2
          rw [h1, ih, List.filterMap_cons, ← h2]
theorem comp_map {α : Type} {vs : List Nat} {p : Pat} {t : TF} {a : EF} (e g : α → D) (r0 : Env) (xs : List α) (h : ∀ x ∈ xs, compStep vs p t a (e x) r0 = some (some (g x), r0)) : runComp vs p t a (xs.map e) r0 = some (xs.map g, r0) := by
  rw [comp_step e (fun x => some (g x)) r0 xs h]
  rw [show (fun x => some (g x)) = some ∘ g from rfl, List.filterMap_eq_map]
theorem comp_flt {α : Type} {vs : List Nat} {p : Pat} {t : TF} {a : EF} (e : α → D) (b : α → Bool) (g : α → D) (r0 : Env) (xs : List α) (h : ∀ x ∈ xs, compStep vs p t a (e x) r0 = some (if b x = true then some (g x) else none, r0)) : runComp vs p t a (xs.map e) r0 = some ((xs.filter b).map g, r0) := by
  rw [comp_step e (fun x => if b x = true then some (g x) else none) r0 xs h]
  clear h
  congr 2
  induction xs with
  | nil => rfl
  | cons x xs ih =>
    rw [List.filterMap_cons, ih]
    by_cases c : b x = true
    · rw [if_pos c, List.filter_cons_of_pos c]; rfl
    · rw [if_neg c, List.filter_cons_of_neg c]
theorem for_inv {α : Type} {p : Pat} {f : SF} (e : α → D) (Inv : Nat → Env → Prop) (xs : List α) (r : Env) (h : Inv 0 r)
    (step : ∀ i r x, Inv i r → xs[i]? = some x → ∃ r2, (bindP p (e x) r).bind f = some (.nx, r2) ∧ Inv (i + 1) r2) : ∃ r', runFor p f (xs.map e) r = some (.nx, r') ∧ Inv xs.length r' := by
  have := runFor_inv0 (p := p) (f := f) Inv (xs.map e) r h fun i r x hi hx => by
    rw [List.getElem?_map, Option.map_eq_some_iff] at hx
    obtain ⟨y, hy, rfl⟩ := hx
    obtain ⟨r2, h1, h2⟩ := step i r y hi hy
    cases q : bindP p (e y) r with
    | none => rw [q] at h1; cases h1
    | some r1 => rw [q] at h1; exact ⟨r1, .nx, r2, rfl, h1, .inl rfl, h2⟩
  rwa [List.length_map] at this
theorem rgD0 (n : Nat) : rgD 0 n = (List.range n).map fun (k : Nat) => PyData.int k := by
  unfold rgD
  refine List.map_congr_left fun k _ => ?_
  rw [Int.zero_add]
theorem for_rg {p : Pat} {f : SF} (Inv : Nat → Env → Prop) (n : Nat) (r : Env) (h : Inv 0 r)
    (step : ∀ i r, i < n → Inv i r → ∃ r2, (bindP p (.int (i : Int)) r).bind f = some (.nx, r2) ∧ Inv (i + 1) r2) : ∃ r', runFor p f (rgD 0 n) r = some (.nx, r') ∧ Inv n r' := by
  have := for_inv (p := p) (f := f) (fun (k : Nat) => PyData.int k) Inv (List.range n) r h fun i r x hi hx => by
    obtain ⟨h1, h2⟩ := List.getElem?_eq_some_iff.mp hx
    rw [List.length_range] at h1
    rw [List.getElem_range] at h2
    subst h2
    exact step i r h1 hi
  rw [List.length_range, ← rgD0] at this
  exact this
end CM
end
section
set_option Elab.async false
set_option linter.all false
set_option maxRecDepth 100000
set_option autoImplicit false
namespace CM
open PySem PySem.Spec PyProof.Rows L2 PySem.SeqAt PySem.W
section
variable {prog : Program} {w : World} {A : Around} {E : Value → Shared → Prop} {s : Shared} {it l S : Addr} {items : Array Value}
end
section
variable {X : Cx} {e : Expr} {p p2 pos pos2 : Pos}
end
end CM
end
section
set_option Elab.async false
set_option linter.all false
set_option maxRecDepth 100000
set_option autoImplicit false
namespace CM
open PySem PySem.Spec PyProof.Rows L2 PySem.SeqAt
end CM
end
section
set_option Elab.async false
set_option linter.all false
set_option maxRecDepth 100000
set_option autoImplicit false
namespace CM
open PySem PySem.Spec PyProof.Rows L2 PySem.SeqAt
section
variable {X : Cx}
end
end CM
end
section
set_option Elab.async false
set_option linter.all false
set_option maxRecDepth 100000
set_option autoImplicit false
namespace CM
open PySem PySem.Spec PyProof.Rows L2 PySem.SeqAt
section
variable {X : Cx}
end
end CM
end
section
set_option Elab.async false
set_option linter.all false
set_option maxRecDepth 100000
set_option autoImplicit false
namespace CM
open PySem PySem.Spec PyProof.Rows L2
section
variable {X : Cx}
end
section
variable {X : Cx}
end
end CM
end
section
set_option Elab.async false
set_option linter.all false
set_option maxRecDepth 100000
set_option autoImplicit false
namespace CM
open PySem PySem.Spec PyProof.Rows L2
section
variable {X : Cx} {e : Expr} {fa : EF} {f : Str} {pos : Pos} {qb : Bool} {cs : List Str}
theorem obOf_is {K : KC} {F : Fz} {H : Hp} {v : V} {c : C} {n : Nat} (h : obOf c = some n) (b : Bd K F H v c) : ∃ p, v = .ref p ∧ F.t p = some (.ins n) := by
  unfold obOf at h
  split at h
  · rename_i m
    have b : Vp K F v (.dict [(.int m, .none)]) := b
    cases b with
    | ob t =>
      have h : some (Int.toNat (Int.ofNat _)) = some n := h
      cases h
      exact ⟨_, rfl, t⟩
  · cases h
theorem de_fld (cl : ClF X cs f) (ha : DE X qb e fa) (hb : attributeBase e f X.env (eval e X.env) = eval e X.env := by rfl) : DE X qb (.Attribute e f pos) (eFld cs f fa) := by
  obtain ⟨t, a1, a2⟩ := ha.ex
  refine ⟨_, pe_fld a1 hb, fun B H0 F0 F H σ r z r' q j Q k => ?_⟩
  simp only [eFld, Option.bind_eq_some_iff] at q
  obtain ⟨⟨z1, r1⟩, q1, c, q2, n, q3, q4⟩ := q
  refine a2 _ _ _ _ _ _ _ _ _ q1 j _ fun F1 H1 v e1 j1 k1 => ?_
  obtain ⟨p, rfl, tp⟩ := obOf_is q3 (k1.look j1 q2)
  cases hd : fldC cs r1.st n f with
  | none => rw [hd] at q4; cases q4
  | some d =>
    rw [hd] at q4
    obtain ⟨fa', o, ho, hc⟩ := fldC_at hd
    obtain ⟨o', ho', C, dx, es, hm, hp, _, fo, _⟩ := j1.so.ob p n tp
    rw [ho] at ho'
    cases ho'
    obtain ⟨c1, c2⟩ := cl.ok _ hc C hm
    unfold fldAt at fa'
    rw [ho] at fa'
    obtain ⟨v', lv, fv⟩ := fo.lookup fa'
    refine ⟨p, C, dx, es, v', rfl, hp, c1, c2, lv, ?_⟩
    have rf : ResOk X.kc H0 F1 H1 σ r1 v' (.fl n f) := .inl ⟨p, C, dx, es, tp, hp, lv⟩
    cases d with
    | d x =>
      cases q4
      exact k F1 H1 v' e1 j1 fv
    | ow c =>
      cases q4
      exact k F1 H1 v' e1 j1 rf
    | lk c =>
      cases q4
      exact k F1 H1 v' e1 j1 rf
end
end CM
end
section
set_option Elab.async false
set_option linter.all false
set_option maxRecDepth 100000
set_option autoImplicit false
namespace CM
open PySem PySem.Spec PyProof.Rows L2
section
variable {K : KC} {B H0 F0 H : Hp} {F : Fz} {σ : L2.St} {r : Env} {n : Nat} {f : Str}
def isFld (n : Nat) (f : Str) : Option Tg → Bool
  | some (.fld m g) => decide (m = n) && decide (g = f)
  | _ => false
theorem isFld_iff {t : Option Tg} : isFld n f t = true ↔ t = some (.fld n f) := by
  constructor
  · intro h
    unfold isFld at h
    split at h
    · simp only [Bool.and_eq_true, decide_eq_true_iff] at h
      obtain ⟨rfl, rfl⟩ := h
      rfl
    · cases h
  · intro h
    rw [h]
    simp [isFld]
def Fz.reset (F : Fz) (n : Nat) (f : Str) (qn : Option Addr) : Fz := ⟨F.f, fun a => if isFld n f (F.t a) = true then none else if some a = qn then some (.fld n f) else F.t a⟩
theorem reset_it {qn : Option Addr} (hq : ∀ q, qn = some q → F.t q = none) {a : Addr} {u : Tg} (h : u ≠ .fld n f) : (F.reset n f qn).t a = some u ↔ F.t a = some u := by
  show (if isFld n f (F.t a) = true then none else if some a = qn then some (.fld n f) else F.t a) = some u ↔ _
  by_cases c' : isFld n f (F.t a) = true
  · rw [if_pos c', isFld_iff.mp c']
    exact ⟨fun z => (by cases z), fun z => absurd (Option.some.inj z).symm h⟩
  · rw [if_neg c']
    by_cases d : some a = qn
    · rw [if_pos d, hq a d.symm]
      exact ⟨fun z => absurd (Option.some.inj z).symm h, fun z => (by cases z)⟩
    · rw [if_neg d]
theorem reset_own {qn : Option Addr} {a : Addr} (h : (F.reset n f qn).t a = some (.fld n f)) : qn = some a := by
  have h : (if isFld n f (F.t a) = true then none else if some a = qn then some (.fld n f) else F.t a) = some (.fld n f) := h
  by_cases c' : isFld n f (F.t a) = true
  · rw [if_pos c'] at h; cases h
  · rw [if_neg c'] at h
    by_cases d : some a = qn
    · exact d.symm
    · rw [if_neg d] at h
      exact absurd (isFld_iff.mpr h) c'
theorem reset_ex {qn : Option Addr} (nb : f ≠ bxS) (hq : ∀ q, qn = some q → F.t q = none) : FEx F (F.reset n f qn) :=
  ⟨⟨.refl _, fun p m h => (reset_it hq (fun z => by cases z)).mpr h, fun p m h => h.imp (fun h => (reset_it hq (fun z => by cases z; exact nb rfl)).mpr h) fun h => (reset_it hq (fun z => by cases z)).mpr h⟩, fun p m g => (reset_it hq (fun z => by cases z)).symm⟩
inductive FNew (K : KC) (H0 : Hp) (F : Fz) (H : Hp) (σ : L2.St) (r : Env) : V → Fd → Option Addr → Prop
  | d {v : V} {x : D} (h : Vp K F v x) : FNew K H0 F H σ r v (.d x) none
  | ow {q : Addr} {c : C} (h0 : H0 q = none) (hf : F.f q = none) (ht : F.t q = none) (hd : Od K F H q c) (no : ∀ (i : Nat) (e : C), r.sl[i]? = some (.ow e) → σ[i]? ≠ some (some (.ref q))) : FNew K H0 F H σ r (.ref q) (.ow c) (some q)
theorem J.fput {v' : V} {d' : Fd} {qn : Option Addr} {pi C dx : Addr} {es : List (Str × V)} (nb : f ≠ bxS) (j : J K B H0 F0 F H σ r) (new : FNew K H0 F H σ r v' d' qn) (tp : F.t pi = some (.ins n)) (hp : H pi = some (.ins C dx es))
    (nolok : ∀ a, F.t a ≠ some (.lok n f)) (ln : ∀ o, r.st[n]? = some o → (putFd f d' o.fs).length ≤ 100) : J K B H0 F0 (F.reset n f qn) (upd H pi (.ins C dx (putF f v' es))) σ (r.putF n f d') := by
  have hq : ∀ q, qn = some q → F.t q = none := fun q e => by
    cases new with
    | d h => cases e
    | ow h0 hf ht hd no => cases e; exact ht
  have fe : FEx F (F.reset n f qn) := reset_ex nb hq
  obtain ⟨s1, s2, s3⟩ := j.so.sep pi _ tp
  have h0p : H0 pi = none := s3.elim id fun ⟨_, _, z⟩ => by cases z
  have keep : ∀ a, a ≠ pi → ∀ o, H a = some o → (upd H pi (.ins C dx (putF f v' es))) a = some o := fun a ne o e => by rw [upd_ne ne]; exact e
  have fo : FdOk K (F.reset n f qn) (upd H pi (.ins C dx (putF f v' es))) n f v' d' := by
    cases new with
    | d h => exact Vp.up fe _ _ h
    | @ow q c h0 hf ht hd no =>
      have ne : q ≠ pi := fun z => by subst z; rw [ht] at tp; cases tp
      refine ⟨q, rfl, ?_, hd.up fe fun o e => keep q ne o e⟩
      show (if isFld n f (F.t q) = true then none else if some q = some q then some (.fld n f) else F.t q) = _
      rw [if_neg (by rw [ht]; exact fun z => by cases z), if_pos rfl]
  have so : StOk K H0 (F.reset n f qn) (upd H pi (.ins C dx (putF f v' es))) (stPut r.st n f d') := by
    refine j.so.upd nb (p := pi) (C := C) (dx := dx) (es := es) (v' := v') tp hp fe (fun a u z1 _ => reset_it hq z1) (fun a u e _ _ ne o w => keep a ne o w) upd_same fo (fun a u e hu => ?_) (fun a b u hu e1 e2 => ?_) (fun a u e _ _ => ⟨(j.so.sep a u e).1, id⟩) ln
    · rcases hu with rfl | rfl
      · have qa := reset_own e
        cases new with
        | d h => cases qa
        | ow h0 hf ht hd no =>
          cases qa
          have ne : a ≠ pi := fun z => by subst z; rw [ht] at tp; cases tp
          refine ⟨hf, by rw [upd_ne ne]; exact hd.ne, .inl h0, fun _ => ⟨_, rfl⟩, fun z => by cases z⟩
      · exact absurd ((reset_it hq (fun z => by cases z)).mp e) (nolok a)
    · rcases hu with rfl | rfl
      · exact Option.some.inj ((reset_own e1).symm.trans (reset_own e2))
      · exact absurd ((reset_it hq (fun z => by cases z)).mp e1) (nolok a)
  refine ⟨j.eb, fun a o e => ?_, j.ef, fun a o e => ?_, j.nw, so, j.len, fun k s w => ?_, j.dj⟩
  · exact keep a (fun z => by subst z; rw [h0p] at e; cases e) o (j.e0 _ _ e)
  · exact keep a (fun z => by subst z; have e : F.f a = some o := e; rw [s1] at e; cases e) o (j.fh _ _ e)
  · have b := j.sl k s w
    cases s with
    | no => trivial
    | sh d => obtain ⟨v, a, b⟩ := b; exact ⟨v, a, Vp.up fe _ _ b⟩
    | bo c => obtain ⟨v, a, b⟩ := b; exact ⟨v, a, b.up fe (.refl _)⟩
    | lk c => obtain ⟨v, a, b⟩ := b; exact ⟨v, a, b.up fe (.refl _)⟩
    | ow c1 =>
      obtain ⟨p2, a, b1, b2, b3, b4⟩ := b
      have ne : p2 ≠ pi := fun z => by subst z; rw [b3] at tp; cases tp
      have nq : some p2 ≠ qn := fun z => by
        cases new with
        | d h => cases z
        | ow h0 hf ht hd no => cases z; exact no k c1 w a
      refine ⟨p2, a, b1, b2, ?_, b4.up fe fun o e => keep p2 ne o e⟩
      show (if isFld n f (F.t p2) = true then none else if some p2 = qn then some (.fld n f) else F.t p2) = none
      rw [if_neg (by rw [b3]; exact fun z => by cases z), if_neg nq]
      exact b3
end
def fdNew (r : Env) : Res → Option Fd
  | .sh x => some (.d x)
  | .fr c => some (.ow c)
  | .sl i => match r.sl[i]? with
    | some (.sh x) => some (.d x)
    | _ => none
  | .fl n f => match fldAt r.st n f with
    | some (.d x) => some (.d x)
    | _ => none
def sFldN (cs : List Str) (i : Nat) (f : Str) (a : EF) : SF := fun r => (a r).bind fun p => (obAt p.2 i).bind fun n => (fdNew p.2 p.1).bind fun d => if okPut cs p.2.st n f = true then some (.nx, p.2.putF n f d) else none
section
variable {X : Cx} {e : Expr} {fa : EF} {f x : Str} {pos pos' npos : Pos} {qb : Bool} {cs : List Str}
theorem fnew_of {K : KC} {B H0 F0 H : Hp} {F : Fz} {σ : L2.St} {r : Env} {v : V} {z : Res} {d : Fd} (j : J K B H0 F0 F H σ r) (h : fdNew r z = some d) (k : ResOk K H0 F H σ r v z) : ∃ qn, FNew K H0 F H σ r v d qn := by
  cases z with
  | sh x => cases h; exact ⟨_, .d k⟩
  | fr c =>
    cases h
    obtain ⟨p, rfl, h1, h2, h3, h4, h5⟩ := k
    exact ⟨_, .ow h1 h2 h3 h4 h5⟩
  | sl i =>
    unfold fdNew at h
    dsimp only at h
    split at h
    · rename_i y e
      cases h
      have k : σ[i]? = some (some v) := k
      obtain ⟨v', a, b⟩ := j.sl i _ e
      rw [k] at a
      cases a
      exact ⟨_, .d b⟩
    · cases h
  | fl n g =>
    unfold fdNew at h
    dsimp only at h
    split at h
    · rename_i y e
      cases h
      have k : FldV F H n g v := k
      exact ⟨_, .d (j.so.fieldV k e)⟩
    · cases h
theorem ds_fldN (i : Nat) (cl : ClF X cs f) (hN : X.N[i]? = some x) (hv : Vis X.env.scope x) (he : DE X qb e fa) (hd : (x == ("__debug__" : Str)) = false := by decide) (hcd : (x == ("__classdict__" : Str)) = false := by decide)
    (hs : swapsWith e (some (.Attribute (.Name x npos) f pos')) pos.line X.env = pure false := by rfl) : DS X (.Assign [.Attribute (.Name x npos) f pos'] e pos) (sFldN cs i f fa) := by
  obtain ⟨t, a1, a2⟩ := he.ex
  refine ⟨_, ps_fld (pe_var hN hv hd hcd) a1 hs, fun B H0 F0 F H σ r fl r' q j D a => ?_⟩
  simp only [sFldN, Option.bind_eq_some_iff] at q
  obtain ⟨⟨z1, r1⟩, q1, n, q2, d, q3, q4⟩ := q
  split at q4
  · rename_i ok
    cases q4
    refine a2 _ _ _ _ _ _ _ _ _ q1 j _ fun F1 H1 v g1 j1 k1 => ?_
    obtain ⟨pi, hpi, tp⟩ := obAt_ok j1 q2
    obtain ⟨o, ho, C, dx, es, hm, hp, dt, fo, nd, len⟩ := j1.so.ob pi n tp
    obtain ⟨qn, new⟩ := fnew_of j1 q3 k1
    unfold okPut at ok
    rw [ho] at ok
    dsimp only at ok
    rw [Bool.and_eq_true] at ok
    obtain ⟨ok1, ok2⟩ := ok
    obtain ⟨c1, c2⟩ := cl.ok _ (List.contains_iff_mem.mp ok1) C hm
    have fe : fldAt r1.st n f = o.fs.lookup f := by unfold fldAt; rw [ho]; rfl
    have nolok : ∀ a, F1.t a ≠ some (.lok n f) := fun a z => by
      obtain ⟨c, w⟩ := j1.so.tl a n f z
      rw [fe] at w
      rw [w] at ok2
      cases ok2
    have ln : ∀ o', r1.st[n]? = some o' → (putFd f d o'.fs).length ≤ 100 := fun o' e' => by
      rw [ho] at e'
      cases e'
      cases lk : o.fs.lookup f with
      | none =>
        rw [lk] at ok2
        have ok2 := of_decide_eq_true ok2
        rcases putFd_keys f d o.fs with ⟨w, _⟩ | ⟨w, _⟩
        · have := congrArg List.length w
          simp only [List.length_map] at this
          omega
        · have := congrArg List.length w
          simp only [List.length_map, List.length_append, List.length_singleton] at this
          omega
      | some d0 => rw [putFd_len lk]; exact len
    have el : es.length = o.fs.length := Paired.length fo
    have hq : ∀ q, qn = some q → F1.t q = none := fun q e => by
      cases new with
      | d h => cases e
      | ow h0 hf ht hd no => cases e; exact ht
    have ge : Ge false F H r (F1.reset n f qn) (upd H1 pi (.ins C dx (putF f v es))) (r1.putF n f d) := ⟨g1.f.trans (reset_ex cl.nb hq), fun i s l h => g1.k i s l h, fun z => by cases z⟩
    refine ⟨_, hpi, pi, C, dx, es, rfl, hp, c1, c2, by rw [el]; omega, ?_⟩
    exact a (F1.reset n f qn) _ σ ge.f ge.kp (j1.fput cl.nb new tp hp nolok ln)
  · cases q4
end
end CM
end
section
set_option Elab.async false
set_option linter.all false
set_option maxRecDepth 100000
set_option autoImplicit false
namespace CM
open PySem PySem.Spec PyProof.Rows L2
section
variable {X : Cx} {e : Expr} {fa : EF} {f x : Str} {pos pos' npos : Pos} {qb : Bool} {cs : List Str}
end
end CM
end
section
set_option Elab.async false
set_option linter.all false
set_option maxRecDepth 100000
set_option autoImplicit false
namespace CM
open PySem PySem.Spec PyProof.Rows L2
structure Mf (P : Program) (w : World) (K : PySem.W.Frag) (mg : Str → Option Value) (base : Heap) (k : Nat) (m : Str) (ms : List Bool) (tb : List (Str × DF)) : Prop where
  ok : ∀ c g, tb.lookup c = some g → ∀ C, mg c = some (.ref C) → Cls K C ∧ ∃ f fd ps, Meth K C m f ∧ FnOk P w K mg base CX0 k f fd ps (spD ⟨K, mg, w⟩ (false :: ms) g) ∧ Binds K fd ps []
section
variable {X : Cx} {o e : Expr} {es : List Expr} {fo : EF} {fs : List EF} {m : Str} {apos pos : Pos} {q1 q2 : Bool} {k : Nat} {ms : List Bool} {tb : List (Str × DF)} {ta : TE} {t : TA}
def tMethT (X : Cx) (k : Nat) (m : Str) (ms : List Bool) (ta : TE) (t : TA) : TE := fun σ H Q => ta σ H fun x H1 => ∃ (a C dx : Addr) (fs : List (Str × V)) (f : Addr) (fd : FuncData) (ps : List Str) (g : DF), x = .ref a ∧ H1 a = some (.ins C dx fs) ∧ fs.lookup m = none ∧
  Cls X.K C ∧ Meth X.K C m f ∧ FnOk X.prog X.w X.K X.mg X.base CX0 k f fd ps (spD X.kc (false :: ms) g) ∧ Binds X.K fd ps [] ∧ t σ H1 fun vs H2 => spD X.kc (false :: ms) g (x :: (vs ++ [])) H2 Q (fun _ _ _ => False)
theorem pe_methT {pl : Sem Bool} (hr : Room k X.A) (he : PE X o ta) (ha : PA X (e :: es) t)
    (h1 : starEach (e :: es) X.env = (false, eval e X.env) :: starEach es X.env) (h2 : (backTo pos (starEach es X.env)).any (·.1) = false)
    (ht : eval (.Call (.Attribute o m apos) (e :: es) [] pos) X.env = (do
      let ov ← eval o X.env
      standAt apos.atName
      let (f, first) ← holding [ov] (getMethod ov m pl)
      callWith pos f first (backTo pos (starEach (e :: es) X.env)) (backToKw pos (keywordEach [] X.env)))) :
    PE X (.Call (.Attribute o m apos) (e :: es) [] pos) (tMethT X k m ms ta t) := ⟨fun pins s σ H Q I h =>
  PySem.W.methodCall_KW (pl := pl) (thn (he.run pins s σ H _ I h) fun u s1 ⟨x, H1, I1, rx, a, C, dx, fs, f, fd, ps, g, ex, hi, l, c, hm, F, hb, q⟩ => by
    cases ex
    cases rx
    exact getmeth_ok I1 hi c hm l (PySem.W.callWith_K (first := [.ref a]) (h₀ := X.base) I1.ok.mod.kin hm.kp (thn (ha.run pos pins s1 σ H1 _ I1 q) fun us s2 ⟨vs, H2, I2, r, q2⟩ => ⟨I2.kIn, run_fn (us := .ref a :: us) (vs := .ref a :: vs) F hr hb .nil pass0 I2 (.cons rfl r) q2⟩) h1 h2)) ht⟩
theorem pe_methT0 {pl : Sem Bool} (hr : Room k X.A) (he : PE X o ta)
    (ht : eval (.Call (.Attribute o m apos) [] [] pos) X.env = (do
      let ov ← eval o X.env
      standAt apos.atName
      let (f, first) ← holding [ov] (getMethod ov m pl)
      callWith pos f first (backTo pos (starEach [] X.env)) (backToKw pos (keywordEach [] X.env)))) :
    PE X (.Call (.Attribute o m apos) [] [] pos) (tMethT X k m ms ta tNil) := ⟨fun pins s σ H Q I h =>
  PySem.W.methodCall_KW (pl := pl) (thn (he.run pins s σ H _ I h) fun u s1 ⟨x, H1, I1, rx, a, C, dx, fs, f, fd, ps, g, ex, hi, l, c, hm, F, hb, q⟩ => by
    cases ex
    cases rx
    exact getmeth_ok I1 hi c hm l (PySem.W.callWith_K0 (first := [.ref a]) I1.kIn hm.kp (run_fn (us := [.ref a]) (vs := [.ref a]) F hr hb .nil pass0 I1 (.cons rfl .nil) q))) ht⟩
theorem re_meth {P : Program} (M : Mf X.prog X.w X.K X.mg X.base k m ms tb) (a2 : RE X.kc q1 ta fo) (b2 : RA X.kc q2 t fs) : RE X.kc false (tMethT X k m ms ta t) (eMeth m tb ms fo fs) := by
  intro B H0 F0 F H σ r z r' q j Q kk
  simp only [eMeth, Option.bind_eq_some_iff] at q
  obtain ⟨⟨z1, r1⟩, p1, c, p2, n, p3, ob, p4, q⟩ := q
  split at q
  case isFalse => cases q
  rename_i nf
  simp only [Option.bind_eq_some_iff] at q
  obtain ⟨g, p5, ⟨zs, r2⟩, p6, ⟨cs, r3⟩, p7, ⟨w, st'⟩, p8, p9⟩ := q
  cases p9
  refine a2 _ _ _ _ _ _ _ _ _ p1 j _ fun F1 H1 v g1 j1 k1 => ?_
  obtain ⟨pi, rfl, tp⟩ := obOf_is p3 (k1.look j1 p2)
  obtain ⟨o', ho', C, dx, es, hm, hp, _, fo', _⟩ := j1.so.ob pi n tp
  rw [p4] at ho'
  cases ho'
  obtain ⟨c1, f, fd, ps, m1, m2, m3⟩ := M.ok _ g p5 C hm
  refine ⟨pi, C, dx, es, f, fd, ps, g, rfl, hp, fo'.lookup_none (Option.isNone_iff_eq_none.mp nf), c1, m1, m2, m3, ?_⟩
  refine b2 _ _ _ _ _ _ _ _ _ p6 j1 _ fun F2 H2 vs e2 j2 k2 => ?_
  obtain ⟨F3, e3, j3, d3⟩ := passes_ok p7 j2 k2
  have tp3 : F3.t pi = some (.ins n) := e3.f.i pi n (e2.f.i pi n tp)
  refine ⟨F3, .d (obD n) :: cs, r3.st, _, st', j3.fh, j3.stok, ⟨?_, by rw [List.append_nil]; exact d3⟩, p8, fun F4 H4 y' g4 s4 o4 => ?_⟩
  · show Vp X.kc F3 (.ref pi) (.dict [(.int (n : Int), .none)])
    exact .ob tp3
  · exact kk F4 H4 y' ⟨((g1.trans e2).qt e3).f.trans g4.f, ((g1.trans e2).qt e3).k, fun z => by cases z⟩ (j3.called g4 s4) (o4.called j3)
theorem de_meth {pl : Sem Bool} (M : Mf X.prog X.w X.K X.mg X.base k m ms tb) (hr : Room k X.A) (he : DE X q1 o fo) (ha : DA X q2 (e :: es) fs)
    (h1 : starEach (e :: es) X.env = (false, eval e X.env) :: starEach es X.env := by rfl) (h2 : (backTo pos (starEach es X.env)).any (·.1) = false := by rfl)
    (ht : eval (.Call (.Attribute o m apos) (e :: es) [] pos) X.env = (do
      let ov ← eval o X.env
      standAt apos.atName
      let (f, first) ← holding [ov] (getMethod ov m pl)
      callWith pos f first (backTo pos (starEach (e :: es) X.env)) (backToKw pos (keywordEach [] X.env))) := by rfl) : DE X false (.Call (.Attribute o m apos) (e :: es) [] pos) (eMeth m tb ms fo fs) := by
  obtain ⟨ta, a1, a2⟩ := he.ex
  obtain ⟨t, b1, b2⟩ := ha.ex
  exact ⟨_, pe_methT hr a1 b1 h1 h2 ht, re_meth (P := X.prog) M a2 b2⟩
theorem de_meth0 {pl : Sem Bool} (M : Mf X.prog X.w X.K X.mg X.base k m ms tb) (hr : Room k X.A) (he : DE X q1 o fo)
    (ht : eval (.Call (.Attribute o m apos) [] [] pos) X.env = (do
      let ov ← eval o X.env
      standAt apos.atName
      let (f, first) ← holding [ov] (getMethod ov m pl)
      callWith pos f first (backTo pos (starEach [] X.env)) (backToKw pos (keywordEach [] X.env))) := by rfl) : DE X false (.Call (.Attribute o m apos) [] [] pos) (eMeth m tb ms fo []) := by
  obtain ⟨ta, a1, a2⟩ := he.ex
  exact ⟨_, pe_methT0 hr a1 ht, re_meth (P := X.prog) M a2 (t := tNil) (q2 := true) fun B H0 F0 F H σ r z r' q j Q k => by cases q; exact k F H [] .refl j .nil⟩
end
end CM
end
section
set_option Elab.async false
set_option linter.all false
set_option maxRecDepth 100000
set_option autoImplicit false
namespace CM
open PySem PySem.Spec PyProof.Rows L2
section
variable {K : KC} {B H0 F0 H : Hp} {F : Fz} {σ : L2.St} {r : Env} {cls : Str} {x dx C : Addr}
def Fz.made (F : Fz) (x dx : Addr) (n : Nat) : Fz := ⟨F.f, fun a => if a = x then some (.ins n) else if a = dx then some (.dic n) else F.t a⟩
theorem made_old {n : Nat} {a : Addr} (h1 : a ≠ x) (h2 : a ≠ dx) : (F.made x dx n).t a = F.t a := by
  show (if a = x then _ else if a = dx then _ else _) = _
  rw [if_neg h1, if_neg h2]
theorem made_x {n : Nat} : (F.made x dx n).t x = some (.ins n) := if_pos rfl
theorem made_dx {n : Nat} (h : dx ≠ x) : (F.made x dx n).t dx = some (.dic n) := by
  show (if dx = x then _ else if dx = dx then _ else _) = _
  rw [if_neg h, if_pos rfl]
theorem J.made (j : J K B H0 F0 F H σ r) (hx : H x = none) (hdx : H dx = none) (ne : dx ≠ x) (hm : K.mg cls = some (.ref C)) :
    FEx F (F.made x dx r.st.length) ∧ J K B H0 F0 (F.made x dx r.st.length) (upd (upd H dx (.own x)) x (.ins C dx [])) σ ⟨r.sl, r.st ++ [⟨cls, []⟩]⟩ := by
  have live : ∀ a u, F.t a = some u → a ≠ x ∧ a ≠ dx := fun a u e => by
    have h := (j.so.sep a u e).2.1
    exact ⟨fun z => h (by rw [z]; exact hx), fun z => h (by rw [z]; exact hdx)⟩
  have keep : ∀ a o, H a = some o → (upd (upd H dx (.own x)) x (.ins C dx [])) a = some o := fun a o e => by
    have h1 : a ≠ x := fun z => by rw [z, hx] at e; cases e
    have h2 : a ≠ dx := fun z => by rw [z, hdx] at e; cases e
    rw [upd_ne h1, upd_ne h2]
    exact e
  have old : ∀ a u, F.t a = some u → (F.made x dx r.st.length).t a = some u := fun a u e => by
    rw [made_old (live a u e).1 (live a u e).2]; exact e
  have back : ∀ a u, (F.made x dx r.st.length).t a = some u → (a = x ∧ u = .ins r.st.length) ∨ (a = dx ∧ u = .dic r.st.length) ∨ F.t a = some u := fun a u e => by
    by_cases h1 : a = x
    · subst h1; rw [made_x] at e; exact .inl ⟨rfl, (Option.some.inj e).symm⟩
    · by_cases h2 : a = dx
      · subst h2; rw [made_dx ne] at e; exact .inr (.inl ⟨rfl, (Option.some.inj e).symm⟩)
      · rw [made_old h1 h2] at e; exact .inr (.inr e)
  have fx : F.f x = none := by
    cases q : F.f x with
    | none => rfl
    | some o => have := j.fh _ _ q; rw [hx] at this; cases this
  have fdx : F.f dx = none := by
    cases q : F.f dx with
    | none => rfl
    | some o => have := j.fh _ _ q; rw [hdx] at this; cases this
  have fe : FEx F (F.made x dx r.st.length) := ⟨⟨.refl _, fun p n h => old p _ h, fun p n h => h.imp (old p _) (old p _)⟩, fun p n f => ⟨fun h => old p _ h, fun h => by
    rcases back p _ h with ⟨_, z⟩ | ⟨_, z⟩ | z
    · cases z
    · cases z
    · exact z⟩⟩
  have stl : ∀ n, n < r.st.length → (r.st ++ [⟨cls, []⟩])[n]? = r.st[n]? := fun n h => List.getElem?_append_left h
  have up : ∀ {n f v d}, FdOk K F H n f v d → FdOk K (F.made x dx r.st.length) (upd (upd H dx (.own x)) x (.ins C dx [])) n f v d := fun h =>
    h.up fe (fun q g e => ⟨old q _ e, fun o w => keep q o w⟩) fun q g e o w => keep q o w
  refine ⟨fe, j.eb, fun a o e => keep a o (j.e0 _ _ e), j.ef, fun a o e => keep a o (j.fh _ _ e), j.nw, ⟨fun p n e => ?_, fun p q u e1 e2 => ?_, fun p u e => ?_, fun p u e => ?_, fun p n f e => ?_, fun p n f e => ?_, fun p n f c e w => ?_, fun p n f c e w => ?_, fun p q n b e => ?_, fun p n e => ?_⟩, j.len, fun k s w => ?_, j.dj⟩
  · rcases back p _ e with ⟨rfl, z⟩ | ⟨_, z⟩ | z
    · cases z
      refine ⟨⟨cls, []⟩, by rw [List.getElem?_append_right (Nat.le_refl _)]; simp, C, dx, [], hm, upd_same, made_dx ne, .nil, by simp, by simp⟩
    · cases z
    · obtain ⟨o, ho, C', dx', es, h1, h2, h3, h4, h5⟩ := j.so.ob p n z
      exact ⟨o, by rw [stl n (j.so.ix p _ z)]; exact ho, C', dx', es, h1, keep _ _ h2, old _ _ h3, Paired.mapP h4 fun _ _ ⟨a, b⟩ => ⟨a, up b⟩, h5⟩
  · rcases back p _ e1 with ⟨rfl, z⟩ | ⟨rfl, z⟩ | z
    · subst z
      rcases back q _ e2 with ⟨rfl, _⟩ | ⟨_, w⟩ | w
      · rfl
      · cases w
      · exact absurd (j.so.ix q _ w) (Nat.lt_irrefl _)
    · subst z
      rcases back q _ e2 with ⟨_, w⟩ | ⟨rfl, _⟩ | w
      · cases w
      · rfl
      · exact absurd (j.so.ix q _ w) (Nat.lt_irrefl _)
    · rcases back q _ e2 with ⟨rfl, w⟩ | ⟨rfl, w⟩ | w
      · subst w; exact absurd (j.so.ix p _ z) (Nat.lt_irrefl _)
      · subst w; exact absurd (j.so.ix p _ z) (Nat.lt_irrefl _)
      · exact j.so.inj p q u z w
  · rcases back p _ e with ⟨rfl, z⟩ | ⟨rfl, z⟩ | z
    · exact ⟨fx, (by rw [upd_same]; exact fun w => by cases w), .inl (j.e0.back hx)⟩
    · exact ⟨fdx, (by rw [upd_ne ne, upd_same]; exact fun w => by cases w), .inl (j.e0.back hdx)⟩
    · obtain ⟨a, b, c⟩ := j.so.sep p u z
      refine ⟨a, ?_, c⟩
      cases w : H p with
      | none => exact absurd w b
      | some o => rw [keep p o w]; exact fun w => by cases w
  · show u.ix < (r.st ++ ([⟨cls, []⟩] : List Ob)).length
    rw [List.length_append]
    rcases back p _ e with ⟨_, z⟩ | ⟨_, z⟩ | z
    · subst z; exact Nat.lt_succ_self _
    · subst z; exact Nat.lt_succ_self _
    · exact Nat.lt_succ_of_lt (j.so.ix p u z)
  · rcases back p _ e with ⟨_, z⟩ | ⟨_, z⟩ | z
    · cases z
    · cases z
    · obtain ⟨c, h⟩ := j.so.tf p n f z
      refine ⟨c, ?_⟩
      unfold fldAt at h ⊢
      rw [stl n (j.so.ix p _ z)]
      exact h
  · rcases back p _ e with ⟨_, z⟩ | ⟨_, z⟩ | z
    · cases z
    · cases z
    · obtain ⟨c, h⟩ := j.so.tl p n f z
      refine ⟨c, ?_⟩
      unfold fldAt at h ⊢
      rw [stl n (j.so.ix p _ z)]
      exact h
  · rcases back p _ e with ⟨_, z⟩ | ⟨_, z⟩ | z
    · cases z
    · cases z
    · refine (j.so.od p n f c z ?_).up fe (keep p)
      unfold fldAt at w ⊢
      rw [stl n (j.so.ix p _ z)] at w
      exact w
  · rcases back p _ e with ⟨_, z⟩ | ⟨_, z⟩ | z
    · cases z
    · cases z
    · refine (j.so.odr p n f c z ?_).up fe (keep p)
      unfold fldAt at w ⊢
      rw [stl n (j.so.ix p _ z)] at w
      exact w
  · have hb : Bt F p n := b.imp (fun h => (back p _ h).elim (fun ⟨_, z⟩ => by cases z) fun h => h.elim (fun ⟨_, z⟩ => by cases z) id) fun h => (back p _ h).elim (fun ⟨_, z⟩ => by cases z) fun h => h.elim (fun ⟨_, z⟩ => by cases z) id
    rcases back q _ e with ⟨_, z⟩ | ⟨_, z⟩ | z
    · cases z
      exact hb.elim (fun h => absurd (j.so.ix p _ h) (Nat.lt_irrefl _)) fun h => absurd (j.so.ix p _ h) (Nat.lt_irrefl _)
    · cases z
    · exact j.so.bi p q n hb z
  · rcases back p _ e with ⟨_, z⟩ | ⟨rfl, _⟩ | z
    · cases z
    · intro xs w
      rw [upd_ne ne, upd_same] at w; cases w
    · exact ntKeep (j.so.sep p _ z).2.1 (j.so.dn p n z) (keep p)
  · have b := j.sl k s w
    cases s with
    | no => trivial
    | sh d => obtain ⟨v, a, b⟩ := b; exact ⟨v, a, Vp.up fe _ _ b⟩
    | bo c => obtain ⟨v, a, b⟩ := b; exact ⟨v, a, b.up fe (.refl _)⟩
    | lk c => obtain ⟨v, a, b⟩ := b; exact ⟨v, a, b.up fe (.refl _)⟩
    | ow c1 =>
      obtain ⟨p2, a, b1, b2, b3, b4⟩ := b
      have n1 : p2 ≠ x := fun z => b4.ne (by rw [z]; exact hx)
      have n2 : p2 ≠ dx := fun z => b4.ne (by rw [z]; exact hdx)
      exact ⟨p2, a, b1, b2, by rw [made_old n1 n2]; exact b3, b4.up fe fun o e => keep _ _ e⟩
end
end CM
end
section
set_option Elab.async false
set_option linter.all false
set_option maxRecDepth 100000
set_option autoImplicit false
namespace CM
open PySem PySem.Spec PyProof.Rows L2
structure MkD (P : Program) (w : World) (K : PySem.W.Frag) (mg : Str → Option Value) (base : Heap) (k : Nat) (cls : Str) (ms : List Bool) (g : DF) : Prop where
  ex : ∃ C f fd ps, mg cls = some (.ref C) ∧ Mk K C f ∧ FnOk P w K mg base CX0 k f fd ps (spD ⟨K, mg, w⟩ (false :: ms) g) ∧ Binds K fd ps []
theorem made_priv {F : Fz} {H : Hp} {x dx C : Addr} {n : Nat} (hx : H x = none) (hdx : H dx = none) : Ex (priv F H) (priv (F.made x dx n) (upd (upd H dx (.own x)) x (.ins C dx []))) := fun a o q => by
  have e : H a = some o := priv_ex a o q
  have h1 : a ≠ x := fun z => by rw [z, hx] at e; cases e
  have h2 : a ≠ dx := fun z => by rw [z, hdx] at e; cases e
  unfold CM.priv at q ⊢
  rw [made_old h1 h2, upd_ne h1, upd_ne h2]
  exact q
section
variable {X : Cx} {e : Expr} {es : List Expr} {fs : List EF} {cls : Str} {p pos : Pos} {q1 : Bool} {k : Nat} {ms : List Bool} {g : DF} {ta : TA} {C : Addr}
theorem re_new {K : KC} (hm : K.mg cls = some (.ref C)) (ha : RA K q1 ta fs) : RE K false (tMake C (spD K (false :: ms) g) [] (fun _ _ _ => False) ta) (eNew cls g ms fs) := by
  intro B H0 F0 F H σ r z r' q j Q kk
  simp only [eNew, Option.bind_eq_some_iff] at q
  obtain ⟨⟨zs, r1⟩, p1, ⟨cs, r2⟩, p2, ⟨w, st'⟩, p3, p4⟩ := q
  refine ha _ _ _ _ _ _ _ _ _ p1 j _ fun F1 H1 vs e1 j1 k1 => ?_
  obtain ⟨F2, e2, j2, d2⟩ := passes_ok p2 j1 k1
  intro x dx hx hdx ne
  obtain ⟨fe, j3⟩ := j2.made (cls := cls) hx hdx ne hm
  refine ⟨F2.made x dx r2.st.length, .d (obD r2.st.length) :: cs, r2.st ++ [⟨cls, []⟩], _, st', j3.fh, j3.stok, ⟨?_, by rw [List.append_nil]; exact d2.up fe (made_priv hx hdx)⟩, p3, fun F4 H4 y' g4 s4 o4 => ?_⟩
  · show Vp K _ (.ref x) (.dict [(.int (r2.st.length : Int), .none)])
    exact .ob made_x
  · split at p4
    · rename_i hz
      cases p4
      have hz : w = .sh .none := hz
      subst hz
      have o4 : Vp K F4 y' .none := o4
      cases o4
      refine ⟨rfl, kk F4 H4 (.ref x) ⟨((e1.qt e2).f.trans fe).trans g4.f, (e1.qt e2).k, fun z => by cases z⟩ (j3.called g4 s4) ?_⟩
      show Vp K F4 (.ref x) (.dict [(.int (r2.st.length : Int), .none)])
      exact .ob (g4.f.i x _ made_x)
    · cases p4
theorem de_new (M : MkD X.prog X.w X.K X.mg X.base k cls ms g) (hr : Room (k + 1) X.A) (hg : Gl X cls) (ha : DA X q1 (e :: es) fs) (hdb : (cls == ("__debug__" : Str)) = false := by decide) (he : starEach (e :: es) X.env = (false, eval e X.env) :: starEach es X.env := by rfl)
    (hpl : (backTo pos (starEach es X.env)).any (·.1) = false := by rfl) : DE X false (.Call (.Name cls p) (e :: es) [] pos) (eNew cls g ms fs) := by
  obtain ⟨t, a1, a2⟩ := ha.ex
  obtain ⟨C, f, fd, ps, h1, h2, h3, h4⟩ := M.ex
  exact ⟨_, pe_make h2 h3 hr hg h1 h4 .nil pass0 a1 hdb he hpl, re_new h1 a2⟩
theorem de_new0 (M : MkD X.prog X.w X.K X.mg X.base k cls ms g) (hr : Room (k + 1) X.A) (hg : Gl X cls) (hdb : (cls == ("__debug__" : Str)) = false := by decide) : DE X false (.Call (.Name cls p) [] [] pos) (eNew cls g ms []) := by
  obtain ⟨C, f, fd, ps, h1, h2, h3, h4⟩ := M.ex
  exact ⟨_, pe_make0 h2 h3 hr hg h1 h4 .nil pass0 hdb, re_new h1 (ta := tNil) (q1 := true) fun B H0 F0 F H σ r z r' q j Q k => by cases q; exact k F H [] .refl j .nil⟩
end
end CM
end
section
set_option Elab.async false
set_option linter.all false
set_option maxRecDepth 100000
set_option autoImplicit false
namespace CM
open PySem PySem.Spec PyProof.Rows L2
section
variable {P : Program} {w : World} {K : PySem.W.Frag} {mg : Str → Option Value} {base : Heap} {k : Nat} {m f : Str} {ms : List Bool} {tb : List (Str × DF)} {g : DF} {c : Str} {C a : Addr} {fd : FuncData} {ps : List Str} {cs : List Str}
theorem Mf.nil : Mf P w K mg base k m ms [] := ⟨fun c g h => by cases h⟩
theorem Mf.cons {j : Nat} (hg : mg c = some (.ref C)) (cl : Cls K C) (me : Meth K C m a) (F : FnOk P w K mg base CX0 j a fd ps (spD ⟨K, mg, w⟩ (false :: ms) g)) (hj : j ≤ k) (hb : Binds K fd ps []) (r : Mf P w K mg base k m ms tb) : Mf P w K mg base k m ms ((c, g) :: tb) := by
  refine ⟨fun c' g' h C' hC => ?_⟩
  by_cases e : (c' == c) = true
  · have e' : c' = c := beq_iff_eq.mp e
    subst e'
    simp only [List.lookup, e] at h
    cases h
    rw [hg] at hC
    cases hC
    exact ⟨cl, a, fd, ps, me, F.mono hj, hb⟩
  · have e : (c' == c) = false := by simpa using e
    simp only [List.lookup, e] at h
    exact r.ok c' g' h C' hC
theorem cl_nil : ∀ c ∈ ([] : List Str), ∀ C, mg c = some (.ref C) → Cls K C ∧ NoAttr K C f := fun c h => by cases h
theorem cl_cons (hg : mg c = some (.ref C)) (cl : Cls K C) (na : NoAttr K C f) (r : ∀ c ∈ cs, ∀ C, mg c = some (.ref C) → Cls K C ∧ NoAttr K C f) : ∀ c' ∈ c :: cs, ∀ C, mg c' = some (.ref C) → Cls K C ∧ NoAttr K C f := fun c' h C' hC => by
  rcases List.mem_cons.mp h with rfl | h
  · rw [hg] at hC
    cases hC
    exact ⟨cl, na⟩
  · exact r c' h C' hC
end
end CM
end
section
set_option Elab.async false
set_option linter.all false
set_option maxRecDepth 100000
set_option autoImplicit false
namespace CM
open PySem PySem.Spec PyProof.Rows L2 PySem.SeqAt
def lSetC : C → C → D → Option C
  | .d (.list xs), .d (.int j), y => (plc xs.length j).bind fun n => some (.d (.list (xs.set n y)))
  | _, _, _ => none
section
variable {X : Cx} {e e1 e2 : Expr} {fa fb fc : EF} {qb : Bool} {pos apos cpos npos : Pos}
end
end CM
end
section
set_option Elab.async false
set_option linter.all false
set_option maxRecDepth 100000
set_option autoImplicit false
namespace CM
open PySem
theorem ofString_inj {a b : String} (h : Str.ofString a = Str.ofString b) : a = b := by
  rw [Str.ofString_eq_toList, Str.ofString_eq_toList] at h
  have h := congrArg (fun s : Str => s.cps.toList) h
  have h : a.toList.map Char.toNat = b.toList.map Char.toNat := h
  have inj : ∀ c d : Char, c.toNat = d.toNat → c = d := fun c d e => Char.ext (UInt32.toNat_inj.mp e)
  have := List.map_inj_right (f := Char.toNat) (fun x y e => inj x y e) |>.mp h
  exact String.toList_inj.mp this
@[simp] theorem ofString_eq {a b : String} : (Str.ofString a = Str.ofString b) ↔ a = b := ⟨ofString_inj, fun h => by rw [h]⟩
@[simp] theorem ofString_beq {a b : String} : (Str.ofString a == Str.ofString b) = (a == b) := by
  rw [Bool.eq_iff_iff, beq_iff_eq, beq_iff_eq]
  exact ofString_eq
section
variable {a b : EF} {r : Env} {i n : Nat} {cs : List Str} {f : Str} {st : Store} {o : Ob}
@[simp] theorem obOf_ob (n : Nat) : obOf (.d (obD n)) = some n := rfl
@[simp] theorem isCon_ob (n : Nat) : isCon (obD n) = false := rfl
@[simp] theorem ev_asOb (n : Nat) : argSlot false (.d (obD n)) = some (.sh (obD n)) := rfl
def slotN : Slot → Option Nat
  | .sh x => obOf (.d x)
  | _ => none
@[simp] theorem slotN_sh (x : D) : slotN (.sh x) = obOf (.d x) := rfl
@[simp] theorem ev_obAt : obAt r i = (r.sl[i]?).bind slotN := by
  unfold obAt
  cases r.sl[i]? with
  | none => rfl
  | some s => cases s <;> rfl
def fdC : Fd → Option C
  | .d x => some (.d x)
  | .ow c => some c
  | .lk c => some c
@[simp] theorem fdC_d (x : D) : fdC (.d x) = some (.d x) := rfl
@[simp] theorem fdC_ow (c : C) : fdC (.ow c) = some c := rfl
@[simp] theorem fdC_lk (c : C) : fdC (.lk c) = some c := rfl
@[simp] theorem ev_look_fl : look r (.fl n f) = (fldAt r.st n f).bind fdC := by
  unfold look
  dsimp only
  cases fldAt r.st n f with
  | none => rfl
  | some s => cases s <;> rfl
@[simp] theorem ev_stl_fl : stl (.fl n f) = none := rfl
def isOf (cs : List Str) (c : Str) : Bool := cs.contains c
@[simp] theorem isOf_0 (c : Str) : isOf [] c = false := rfl
@[simp] theorem isOf_c (a c : Str) (cs : List Str) : isOf (a :: cs) c = (c == a || isOf cs c) := List.contains_cons
@[simp] theorem lookup_c {α : Type} (k a : Str) (x : α) (l : List (Str × α)) : List.lookup k ((a, x) :: l) = if (k == a) = true then some x else List.lookup k l := by
  rw [List.lookup]
  cases k == a <;> rfl
def fldO (cs : List Str) (f : Str) (o : Ob) : Option Fd := if isOf cs o.cls = true then o.fs.lookup f else none
@[simp] theorem fldO_ok {c : Str} {fs : List (Str × Fd)} (h : isOf cs c = true) : fldO cs f ⟨c, fs⟩ = fs.lookup f := if_pos h
@[simp] theorem ev_fldC : fldC cs st n f = (st[n]?).bind (fldO cs f) := rfl
@[simp] theorem ev_fldAt : fldAt st n f = (st[n]?).bind fun o => o.fs.lookup f := rfl
def fdR (n : Nat) (f : Str) (r : Env) : Fd → Option (Res × Env)
  | .d x => some (.sh x, r)
  | _ => some (.fl n f, r)
@[simp] theorem fdR_d (x : D) : fdR n f r (.d x) = some (.sh x, r) := rfl
@[simp] theorem fdR_ow (c : C) : fdR n f r (.ow c) = some (.fl n f, r) := rfl
@[simp] theorem fdR_lk (c : C) : fdR n f r (.lk c) = some (.fl n f, r) := rfl
@[simp] theorem ev_fld : eFld cs f a r = (a r).bind fun p => (look p.2 p.1).bind fun c => (obOf c).bind fun n => (fldC cs p.2.st n f).bind (fdR n f p.2) := by
  unfold eFld
  cases a r with
  | none => rfl
  | some p =>
    simp only [Option.bind_some]
    cases look p.2 p.1 with
    | none => rfl
    | some c =>
      simp only [Option.bind_some]
      cases obOf c with
      | none => rfl
      | some n =>
        simp only [Option.bind_some]
        cases fldC cs p.2.st n f with
        | none => rfl
        | some d => cases d <;> rfl
def okFd (k : Nat) : Option Fd → Bool
  | some (.lk _) => false
  | some _ => true
  | none => decide (k < 100)
@[simp] theorem okFd_d (k : Nat) (x : D) : okFd k (some (.d x)) = true := rfl
@[simp] theorem okFd_ow (k : Nat) (x : C) : okFd k (some (.ow x)) = true := rfl
@[simp] theorem okFd_no {k : Nat} (h : k < 100) : okFd k none = true := decide_eq_true h
theorem ev_okPut {c : Str} {fs : List (Str × Fd)} (h : st[n]? = some ⟨c, fs⟩) : okPut cs st n f = (isOf cs c && okFd fs.length (fs.lookup f)) := by
  unfold okPut
  rw [h]
  show (cs.contains c && _) = (cs.contains c && _)
  cases fs.lookup f with
  | none => rfl
  | some d => cases d <;> rfl
def okPutC (cs : List Str) (f : Str) : Option Ob → Bool
  | none => false
  | some o => isOf cs o.cls && okFd o.fs.length (o.fs.lookup f)
@[simp] theorem okPutC_ok {c : Str} {fs : List (Str × Fd)} (h : isOf cs c = true) : okPutC cs f (some ⟨c, fs⟩) = okFd fs.length (fs.lookup f) := by
  show (isOf cs c && _) = _
  rw [h, Bool.true_and]
@[simp] theorem ev_okPutC : okPut cs st n f = okPutC cs f st[n]? := by
  cases h : st[n]? with
  | none => unfold okPut; rw [h]; rfl
  | some o => exact ev_okPut h
@[simp] theorem ev_putF (sl : List Slot) (v : Fd) : Env.putF ⟨sl, st⟩ n f v = ⟨sl, stPut st n f v⟩ := rfl
@[simp] theorem stPut_0 (o : Ob) (st : Store) (v : Fd) : stPut (o :: st) 0 f v = ⟨o.cls, putFd f v o.fs⟩ :: st := rfl
@[simp] theorem stPut_s (o : Ob) (st : Store) (n : Nat) (v : Fd) : stPut (o :: st) (n + 1) f v = o :: stPut st n f v := rfl
@[simp] theorem putFd_0 (v : Fd) : putFd f v [] = [(f, v)] := rfl
@[simp] theorem putFd_1 (v : Fd) (g : Str) (x : Fd) (l : List (Str × Fd)) : putFd f v ((g, x) :: l) = if g = f then (g, v) :: l else (g, x) :: putFd f v l := rfl
@[simp] theorem ev_fdNew_sh (x : D) : fdNew r (.sh x) = some (.d x) := rfl
@[simp] theorem ev_fdNew_fr (c : C) : fdNew r (.fr c) = some (.ow c) := rfl
def slotF : Slot → Option Fd
  | .sh x => some (.d x)
  | _ => none
@[simp] theorem slotF_sh (x : D) : slotF (.sh x) = some (.d x) := rfl
@[simp] theorem ev_fdNew_sl : fdNew r (.sl i) = (r.sl[i]?).bind slotF := by
  unfold fdNew
  dsimp only
  cases r.sl[i]? with
  | none => rfl
  | some s => cases s <;> rfl
@[simp] theorem ev_sFldN : sFldN cs i f a r = (a r).bind fun p => (obAt p.2 i).bind fun n => (fdNew p.2 p.1).bind fun d => if okPut cs p.2.st n f = true then some (.nx, p.2.putF n f d) else none := rfl
def noFd (m : Str) (o : Ob) : Option Unit := if (o.fs.lookup m).isNone = true then some () else none
@[simp] theorem noFd_ok {c m : Str} {fs : List (Str × Fd)} (h : fs.lookup m = none) : noFd m ⟨c, fs⟩ = some () := by
  unfold noFd
  exact if_pos (by show (fs.lookup m).isNone = true; rw [h]; rfl)
@[simp] theorem ev_meth (m : Str) (tb : List (Str × DF)) (ms : List Bool) (as : List EF) : eMeth m tb ms a as r = (a r).bind fun p => (look p.2 p.1).bind fun c => (obOf c).bind fun n => (p.2.st[n]?).bind fun ob => (noFd m ob).bind fun _ => (tb.lookup ob.cls).bind fun f => (eArgs as p.2).bind fun q => (passes q.2 ms q.1).bind fun y => (f (.d (obD n) :: y.1) y.2.st).bind fun z => some (z.1, ⟨y.2.sl, z.2⟩) := by
  unfold eMeth
  cases a r with
  | none => rfl
  | some p =>
    simp only [Option.bind_some]
    cases look p.2 p.1 with
    | none => rfl
    | some c =>
      simp only [Option.bind_some]
      cases obOf c with
      | none => rfl
      | some n =>
        simp only [Option.bind_some]
        cases p.2.st[n]? with
        | none => rfl
        | some ob =>
          simp only [Option.bind_some]
          unfold noFd
          split <;> rfl
def newK (n : Nat) (sl : List Slot) : Res × Store → Option (Res × Env)
  | (.sh .none, s) => some (.sh (obD n), ⟨sl, s⟩)
  | _ => none
@[simp] theorem newK_ok (n : Nat) (sl : List Slot) (s : Store) : newK n sl (.sh .none, s) = some (.sh (obD n), ⟨sl, s⟩) := rfl
@[simp] theorem ev_new (cls : Str) (init : DF) (ms : List Bool) (as : List EF) : eNew cls init ms as r = (eArgs as r).bind fun p => (passes p.2 ms p.1).bind fun q => (init (.d (obD q.2.st.length) :: q.1) (q.2.st ++ [⟨cls, []⟩])).bind (newK q.2.st.length q.2.sl) := by
  unfold eNew
  cases eArgs as r with
  | none => rfl
  | some p =>
    simp only [Option.bind_some]
    cases passes p.2 ms p.1 with
    | none => rfl
    | some q =>
      simp only [Option.bind_some]
      cases init (.d (obD q.2.st.length) :: q.1) (q.2.st ++ [⟨cls, []⟩]) with
      | none => rfl
      | some z =>
        obtain ⟨z, s⟩ := z
        simp only [Option.bind_some]
        cases z with
        | sh x => cases x <;> rfl
        | _ => rfl
@[simp] theorem lSetC_ok {xs : List D} {j : Int} {k : Nat} {y : D} (h : plc xs.length j = some k) : lSetC (.d (.list xs)) (.d (.int j)) y = some (.d (.list (xs.set k y))) := by
  show (plc xs.length j).bind _ = _
  rw [h]; rfl
def fdW : Fd → Option C
  | .ow c => some c
  | _ => none
@[simp] theorem fdW_ow (c : C) : fdW (.ow c) = some c := rfl
@[simp] theorem ownAt_fl : ownAt r (.fl cs i f) = (obAt r i).bind fun n => (fldC cs r.st n f).bind fdW := by
  unfold ownAt
  dsimp only
  cases obAt r i with
  | none => rfl
  | some n =>
    simp only [Option.bind_some]
    cases fldC cs r.st n f with
    | none => rfl
    | some d => cases d <;> rfl
def putO (r : Env) (f : Str) (c : C) : Option Nat → Env
  | some n => r.putF n f (.ow c)
  | none => r
@[simp] theorem putO_some (c : C) : putO r f c (some n) = r.putF n f (.ow c) := rfl
@[simp] theorem ownPut_fl (c : C) : ownPut r c (.fl cs i f) = putO r f c (obAt r i) := rfl
def fdL (n : Nat) (f : Str) : Fd → Option (C × Lk)
  | .d x => some (.d x, .no)
  | .ow c => some (c, .fl n f)
  | .lk _ => none
@[simp] theorem fdL_d (x : D) : fdL n f (.d x) = some (.d x, .no) := rfl
@[simp] theorem fdL_ow (c : C) : fdL n f (.ow c) = some (c, .fl n f) := rfl
@[simp] theorem ev_lend_fl : lendOf r (.fl n f) = (fldAt r.st n f).bind (fdL n f) := by
  unfold lendOf
  dsimp only
  cases fldAt r.st n f with
  | none => rfl
  | some d => cases d <;> rfl
def lockF (r : Env) (n : Nat) (f : Str) : Option Fd → Env
  | some (.ow c) => r.putF n f (.lk c)
  | _ => r
@[simp] theorem lockF_ow (c : C) : lockF r n f (some (.ow c)) = r.putF n f (.lk c) := rfl
@[simp] theorem lockF_d (c : D) : lockF r n f (some (.d c)) = r := rfl
@[simp] theorem ev_lock_fl : lock (.fl n f) r = lockF r n f (fldAt r.st n f) := rfl
def unlockF (r : Env) (n : Nat) (f : Str) : Option Fd → Env
  | some (.lk c) => r.putF n f (.ow c)
  | _ => r
@[simp] theorem unlockF_lk (c : C) : unlockF r n f (some (.lk c)) = r.putF n f (.ow c) := rfl
@[simp] theorem ev_unlock_fl : unlock (.fl n f) r = unlockF r n f (fldAt r.st n f) := rfl
def fdG : Fd → Option Res
  | .d x => some (.sh x)
  | _ => none
@[simp] theorem fdG_d (x : D) : fdG (.d x) = some (.sh x) := rfl
@[simp] theorem ev_give_fl : give r (.fl n f) = (fldAt r.st n f).bind fdG := by
  unfold give
  dsimp only
  cases fldAt r.st n f with
  | none => rfl
  | some d => cases d <;> rfl
end
end CM
end
section
set_option Elab.async false
set_option linter.all false
set_option maxRecDepth 100000
set_option autoImplicit false
namespace CM
open PySem PySem.Spec PyProof.Rows L2
section
variable {X : Cx} {e : Expr} {fa : EF} {q1 : Bool}
end
end CM
end
section
set_option Elab.async false
set_option linter.all false
set_option maxRecDepth 100000
set_option autoImplicit false
namespace CM
open PySem PySem.Spec PyProof.Rows L2
def Dl (x y : HO) : Prop := ∃ u, ((∃ es, u = HO.dK es) ∨ (∃ es, u = HO.dT es) ∨ ∃ φ, u = HO.ext φ) ∧ (x = u ∨ ∃ o, x = .frz o u) ∧ (y = u ∨ ∃ o, y = .frz o u)
theorem Dl.noT {x y : HO} (h : Dl x y) : ¬ TupO x := fun ⟨_, e⟩ => by
  subst e
  obtain ⟨u, a, b, _⟩ := h
  rcases b with b | ⟨_, b⟩
  · rcases a with ⟨_, a⟩ | ⟨_, a⟩ | ⟨_, a⟩ <;> rw [a] at b <;> cases b
  · cases b
theorem Dl.symm {x y : HO} (h : Dl x y) : Dl y x := let ⟨u, a, b, c⟩ := h; ⟨u, a, c, b⟩
def sw (p : Addr) (y : HO) (G : Hp) : Hp := fun a => if a = p then (match G p with
  | some _ => some y
  | none => none) else G a
def swF (p : Addr) (y : HO) (F : Fz) : Fz := ⟨sw p y F.f, F.t⟩
section
variable {K : KC} {F F' : Fz} {H H' B H0 F0 G G' : Hp} {σ : L2.St} {r r' : Env} {v : V} {c : C} {d : D} {p q : Addr} {x y : HO} {st : Store} {n : Nat} {f : Str}
theorem sw_ne {a : Addr} (h : a ≠ p) : sw p y G a = G a := if_neg h
theorem sw_none (h : G p = none) : sw p y G p = none := by unfold sw; rw [if_pos rfl, h]
theorem sw_some {o : HO} (h : G p = some o) : sw p y G p = some y := by unfold sw; rw [if_pos rfl, h]
theorem sw_no {a : Addr} : sw p y G a = none ↔ G a = none := by
  by_cases z : a = p
  · subst z
    cases h : G a with
    | none => rw [sw_none h]
    | some o => rw [sw_some h]; exact ⟨fun z => (by cases z), fun z => (by cases z)⟩
  · rw [sw_ne z]
def Pt (p : Addr) (x : HO) (G : Hp) : Prop := ∀ o, G p = some o → o = x
theorem Pt.of (e : Ex G H) (h : H p = some x) : Pt p x G := fun o w => by
  have := e _ _ w
  rw [h] at this; cases this; rfl
theorem Ex.sw (e : Ex G G') : Ex (sw p y G) (sw p y G') := fun a o w => by
  by_cases z : a = p
  · subst z
    cases w' : G a with
    | none => rw [sw_none w'] at w; cases w
    | some u => rw [sw_some w'] at w; rw [sw_some (e _ _ w')]; exact w
  · rw [sw_ne z] at w ⊢; exact e _ _ w
theorem FEx.sw (e : FEx F F') : FEx (swF p y F) (swF p y F') := ⟨⟨e.f.sw, e.i, e.b⟩, e.l⟩
theorem FEi.sw (e : FEi F F') : FEi (swF p y F) (swF p y F') := ⟨e.f.sw, e.i, e.b⟩
theorem Dl.at {a : Addr} {o : HO} (dl : Dl x y) (pt : Pt p x G) (h : G a = some o) (n1 : ∀ es, o ≠ .dK es) (n2 : ∀ es, o ≠ .dT es) (n3 : ∀ b u, o ≠ .frz b u) (n4 : ∀ φ, o ≠ .ext φ) : a ≠ p := fun z => by
  subst z
  have := pt o h
  subst this
  obtain ⟨u, hu, hx, _⟩ := dl
  rcases hx with rfl | ⟨b, rfl⟩
  · rcases hu with ⟨es, rfl⟩ | ⟨es, rfl⟩ | ⟨es, rfl⟩
    · exact n1 _ rfl
    · exact n2 _ rfl
    · exact n4 _ rfl
  · exact n3 _ _ rfl
theorem Rd.sw {a : Addr} {w : HO} (h : Rd G a w) (dl : Dl x y) (pt : Pt p x G) (nf : ∀ o u, w ≠ .frz o u) : Rd (sw p y G) a w := by
  by_cases z : a = p
  · subst z
    obtain ⟨u, hu, hx, hy⟩ := dl
    have nu : ∀ o u', u ≠ .frz o u' := fun o u' e => by
      rcases hu with ⟨es, w⟩ | ⟨es, w⟩ | ⟨es, w⟩ <;> rw [w] at e <;> cases e
    have eq : w = u := by
      rcases h with h | ⟨b, h⟩
      · have := pt _ h
        subst this
        rcases hx with e | ⟨b, e⟩
        · exact e
        · exact absurd e (nf _ _)
      · have := pt _ h
        subst this
        rcases hx with e | ⟨b', e⟩
        · exact absurd e.symm (nu _ _)
        · cases e; rfl
    subst eq
    have hy' : sw a y G a = some y := h.elim (fun h => sw_some h) fun ⟨_, h⟩ => sw_some h
    rcases hy with e | ⟨b, e⟩
    · exact .inl (by rw [hy', e])
    · exact .inr ⟨b, by rw [hy', e]⟩
  · rcases h with h | ⟨b, h⟩
    · exact .inl (by rw [sw_ne z]; exact h)
    · exact .inr ⟨b, by rw [sw_ne z]; exact h⟩
theorem SqL.sw {K : PySem.W.Frag} {a : Addr} {xs : List V} (h : SqL K G a xs) (dl : Dl x y) (pt : Pt p x G) : SqL K (sw p y G) a xs := by
  rcases h with h | h
  · exact .inl (Rd.sw h dl pt fun _ _ z => by cases z)
  · exact .inr h
theorem SqT.sw {K : PySem.W.Frag} {a : Addr} {xs : List V} (h : SqT K G a xs) (dl : Dl x y) (pt : Pt p x G) : SqT K (sw p y G) a xs := by
  rcases h with h | h
  · exact .inl (Rd.sw h dl pt fun _ _ z => by cases z)
  · exact .inr h
theorem TupAt.sw {K : PySem.W.Frag} {a : Addr} {xs : List V} {ds : List D} (h : TupAt K G a xs ds) (dl : Dl x y) (pt : Pt p x G) : TupAt K (sw p y G) a xs ds := by
  rcases h with ⟨o, po, h⟩ | h
  · refine .inl ⟨o, po, ?_⟩
    rw [sw_ne fun z => ?_]
    · exact h
    · subst z
      have e := pt _ h
      subst e
      obtain ⟨u, hu, hx, _⟩ := dl
      cases q : tuT ds <;> rw [q] at hx
      · rcases hx with e | ⟨b, e⟩
        · rcases hu with ⟨es, rfl⟩ | ⟨es, rfl⟩ | ⟨es, rfl⟩ <;> cases e
        · cases e
      · rcases hx with e | ⟨b, e⟩
        · rcases hu with ⟨es, rfl⟩ | ⟨es, rfl⟩ | ⟨es, rfl⟩ <;> cases e
        · cases e
          rcases hu with ⟨es, e⟩ | ⟨es, e⟩ | ⟨es, e⟩ <;> cases e
  · exact .inr ⟨SqT.sw h.1 dl pt, h.2⟩
mutual
theorem Vp.sw (dl : Dl x y) (pt : Pt p x F.f) : ∀ (d : D) (v : V), Vp K F v d → Vp K (swF p y F) v d
  | .none, _, h => by cases h; exact .non
  | .bool b, _, h => by cases h; exact .bl b
  | .int i, _, h => by cases h; exact .int i
  | .str x, _, h => by cases h; exact .str x
  | .list ds, _, h => by
    cases h with
    | lst hs ha => exact .lst (SqL.sw hs dl pt) (VpAll.sw dl pt ds _ ha)
  | .tuple ds, _, h => by
    cases h with
    | tup hs ha => exact .tup (TupAt.sw hs dl pt) (VpAll.sw dl pt ds _ ha)
  | .dict _, _, h => by
    cases h with
    | ob a => exact .ob a
    | bx a => exact .bx a
    | rt a => exact .rt a
theorem VpAll.sw (dl : Dl x y) (pt : Pt p x F.f) : ∀ (ds : List D) (vs : List V), VpAll K F vs ds → VpAll K (swF p y F) vs ds
  | [], _, h => by cases h; exact .nil
  | d :: ds, _, h => by
    cases h with
    | cons h1 h2 => exact .cons (Vp.sw dl pt d _ h1) (VpAll.sw dl pt ds _ h2)
end
theorem KVs.sw {κ : Type} {es : List (κ × V)} {kvs : List (κ × D)} (h : KVs K F es kvs) (dl : Dl x y) (pt : Pt p x F.f) : KVs K (swF p y F) es kvs :=
  Paired.mapP h fun _ _ ⟨a, b⟩ => ⟨a, Vp.sw dl pt _ _ b⟩
theorem NVs.sw {es : List (NestedKey × Addr × V)} {kvs : List (NestedKey × D)} (h : NVs K F es kvs) (dl : Dl x y) (pt : Pt p x F.f) : NVs K (swF p y F) es kvs :=
  Paired.mapP h fun _ _ ⟨a, b, c, d, e⟩ => ⟨a, Vp.sw dl pt _ _ b, c, d, Vp.sw dl pt _ _ e⟩
theorem Bd.sw (h : Bd K F H v c) (dl : Dl x y) (pf : Pt p x F.f) (pt : Pt p x H) : Bd K (swF p y F) (sw p y H) v c := by
  cases c with
  | d x =>
    cases x with
    | list ds => obtain ⟨p, xs, r, a, b⟩ := h; exact ⟨p, xs, r, SqL.sw a dl pt, VpAll.sw dl pf _ _ b⟩
    | _ => exact Vp.sw dl pf _ _ h
  | dk kvs => obtain ⟨p, es, r, a, b⟩ := h; exact ⟨p, es, r, Rd.sw a dl pt (fun _ _ z => by cases z), KVs.sw b dl pf⟩
  | dt kvs => obtain ⟨p, es, r, a, b⟩ := h; exact ⟨p, es, r, Rd.sw a dl pt (fun _ _ z => by cases z), KVs.sw b dl pf⟩
  | dn kvs => obtain ⟨p, es, r, a, b⟩ := h; exact ⟨p, es, r, Rd.sw a dl pt (fun _ _ z => by cases z), NVs.sw b dl pf⟩
theorem Od.sw (h : Od K F H q c) (dl : Dl x y) (pf : Pt p x F.f) (ne : q ≠ p) : Od K (swF p y F) (sw p y H) q c := by
  cases c with
  | d x =>
    cases x with
    | list ds => obtain ⟨xs, a, b⟩ := h; exact ⟨xs, by rw [sw_ne ne]; exact a, VpAll.sw dl pf _ _ b⟩
    | _ => exact h.elim
  | dk kvs => obtain ⟨es, a, b⟩ := h; exact ⟨es, by rw [sw_ne ne]; exact a, b.sw dl pf⟩
  | dt kvs => obtain ⟨es, a, b⟩ := h; exact ⟨es, by rw [sw_ne ne]; exact a, b.sw dl pf⟩
  | dn kvs => obtain ⟨es, a, b⟩ := h; exact ⟨es, by rw [sw_ne ne]; exact a, NVs.sw b dl pf⟩
theorem OdR.sw (h : OdR K F H q c) (dl : Dl x y) (pf : Pt p x F.f) (pt : Pt p x H) : OdR K (swF p y F) (sw p y H) q c := by
  cases c with
  | d x =>
    cases x with
    | list ds =>
      obtain ⟨xs, a, b⟩ := h
      exact ⟨xs, by rw [sw_ne (dl.at pt a (fun _ z => by cases z) (fun _ z => by cases z) (fun _ _ z => by cases z) (fun _ z => by cases z))]; exact a, VpAll.sw dl pf _ _ b⟩
    | _ => exact h.elim
  | dk kvs => obtain ⟨es, a, b⟩ := h; exact ⟨es, Rd.sw a dl pt (fun _ _ z => by cases z), KVs.sw b dl pf⟩
  | dt kvs => obtain ⟨es, a, b⟩ := h; exact ⟨es, Rd.sw a dl pt (fun _ _ z => by cases z), KVs.sw b dl pf⟩
  | dn kvs => obtain ⟨es, a, b⟩ := h; exact ⟨es, Rd.sw a dl pt (fun _ _ z => by cases z), NVs.sw b dl pf⟩
theorem FdOk.sw {w : Fd} (h : FdOk K F H n f v w) (dl : Dl x y) (pf : Pt p x F.f) (pt : Pt p x H) (no : ∀ n f, F.t p ≠ some (.fld n f)) : FdOk K (swF p y F) (sw p y H) n f v w := by
  cases w with
  | d x => exact Vp.sw dl pf _ _ h
  | ow c =>
    obtain ⟨q, a, b, c⟩ := h
    exact ⟨q, a, b, c.sw dl pf fun z => by subst z; exact no _ _ b⟩
  | lk c =>
    obtain ⟨q, a, b, c⟩ := h
    exact ⟨q, a, b, c.sw dl pf pt⟩
theorem StOk.sw (s : StOk K H0 F H st) (dl : Dl x y) (pf : Pt p x F.f) (pt : Pt p x H) (h0 : H0 p ≠ none) : StOk K (sw p y H0) (swF p y F) (sw p y H) st := by
  have no : ∀ n f, F.t p ≠ some (.fld n f) := fun n f z => by
    rcases (s.sep p _ z).2.2 with w | ⟨n', f', w⟩
    · exact h0 w
    · cases w
  refine ⟨fun q n h => ?_, s.inj, fun q t h => ?_, s.ix, s.tf, s.tl, fun q n f c h w => (s.od q n f c h w).sw dl pf fun z => by subst z; exact no _ _ h, fun q n f c h w => (s.odr q n f c h w).sw dl pf pt, s.bi, fun q n h xs e => by
    by_cases z : q = p
    · subst z
      cases w : H q with
      | none => rw [sw_none w] at e; cases e
      | some u =>
        rw [sw_some w] at e
        cases e
        exact dl.symm.noT ⟨_, rfl⟩
    · rw [sw_ne z] at e; exact s.dn q n h xs e⟩
  · obtain ⟨o, a, C, dx, es, b, c, d, g, k⟩ := s.ob q n h
    exact ⟨o, a, C, dx, es, b, by rw [sw_ne (dl.at pt c (fun _ z => by cases z) (fun _ z => by cases z) (fun _ _ z => by cases z) (fun _ z => by cases z))]; exact c, d, Paired.mapP g fun _ _ ⟨e1, e2⟩ => ⟨e1, e2.sw dl pf pt no⟩, k⟩
  · obtain ⟨a, b, c⟩ := s.sep q t h
    exact ⟨sw_no.mpr a, fun z => b (sw_no.mp z), c.imp sw_no.mpr id⟩
theorem SlotOk.sw {w : Option (Option V)} {s : Slot} (h : SlotOk K B H0 F H w s) (dl : Dl x y) (pf : Pt p x F.f) (pb : Pt p x B) (h0 : H0 p ≠ none) : SlotOk K (sw p y B) (sw p y H0) (swF p y F) (sw p y H) w s := by
  cases s with
  | no => trivial
  | sh d => obtain ⟨v, a, b⟩ := h; exact ⟨v, a, Vp.sw dl pf _ _ b⟩
  | bo c => obtain ⟨v, a, b⟩ := h; exact ⟨v, a, b.sw dl pf pb⟩
  | lk c => obtain ⟨v, a, b⟩ := h; exact ⟨v, a, b.sw dl pf pb⟩
  | ow c =>
    obtain ⟨q, a, b, d, t, e⟩ := h
    exact ⟨q, a, sw_no.mpr b, sw_no.mpr d, t, e.sw dl pf fun z => by subst z; exact h0 b⟩
theorem J.sw (j : J K B H0 F0 F H σ r) (hx : H p = some x) (h0 : H0 p ≠ none) (dl : Dl x y) : J K (sw p y B) (sw p y H0) (sw p y F0) (swF p y F) (sw p y H) σ r := by
  have pt : Pt p x H := .of (.refl H) hx
  have p0 : Pt p x H0 := .of j.e0 hx
  have pf : Pt p x F.f := .of j.fh hx
  have pb : Pt p x B := .of (j.eb.trans j.e0) hx
  refine ⟨j.eb.sw, j.e0.sw, j.ef.sw, j.fh.sw, fun a o w => ?_, j.so.sw dl pf pt h0, j.len, fun i s w => (j.sl i s w).sw dl pf pb h0, j.dj⟩
  by_cases z : a = p
  · subst z
    have w : CM.sw a y F.f a = some o := w
    cases e : F.f a with
    | none => rw [sw_none e] at w; cases w
    | some u =>
      rw [sw_some e] at w
      rcases j.nw a u e with k | k | k
      · exact .inl (by rw [sw_some k]; exact w)
      · exact absurd k h0
      · exact absurd k (by rw [pf u e]; exact dl.noT)
  · have w : CM.sw p y F.f a = some o := w
    rw [sw_ne z] at w
    rw [sw_ne z, sw_ne z]
    exact j.nw a o w
theorem RetOk.sw {z : Res} (h : RetOk K H0 F H v z) (dl : Dl x y) (pf : Pt p x F.f) (h0 : H0 p ≠ none) : RetOk K (sw p y H0) (swF p y F) (sw p y H) v z := by
  cases z with
  | sh d => exact Vp.sw dl pf _ _ h
  | fr c =>
    obtain ⟨q, a, b, d, t, e⟩ := h
    exact ⟨q, a, sw_no.mpr b, sw_no.mpr d, t, e.sw dl pf fun z => by subst z; exact h0 b⟩
  | sl i => exact h.elim
  | fl n f => exact h.elim
end
end CM
end
section
set_option Elab.async false
set_option linter.all false
set_option maxRecDepth 100000
set_option autoImplicit false
namespace CM
open PySem PySem.Spec PyProof.Rows L2
def Vu (K : KC) (F : Fz) (ad : Addr) (u : HO) : C → Prop
  | .dk kvs => ∃ es, u = .dK es ∧ KVs K F es kvs
  | .dt kvs => ∃ es, u = .dT es ∧ KVs K F es kvs
  | .dn kvs => ∃ es, u = dnO K.w ad es ∧ NVs K F es kvs
  | .d _ => False
section
variable {K : KC} {F F' F1 : Fz} {H H' H1 B H0 F0 : Hp} {σ : L2.St} {r r' : Env} {v : V} {c : C} {x : D} {p : Addr} {s : Slot} {ds : List D} {u : HO} {z : Res} {l : Lk}
theorem Vu.up {ad : Addr} (h : Vu K F ad u c) (e : FEi F F') : Vu K F' ad u c := by
  cases c with
  | d x => exact h.elim
  | dk kvs => obtain ⟨es, a, b⟩ := h; exact ⟨es, a, b.up e⟩
  | dt kvs => obtain ⟨es, a, b⟩ := h; exact ⟨es, a, b.up e⟩
  | dn kvs => obtain ⟨es, a, b⟩ := h; exact ⟨es, a, b.up e⟩
theorem Vu.sw {ad a : Addr} {x y : HO} (h : Vu K F ad u c) (dl : Dl x y) (pf : Pt a x F.f) : Vu K (swF a y F) ad u c := by
  cases c with
  | d x => exact h.elim
  | dk kvs => obtain ⟨es, a, b⟩ := h; exact ⟨es, a, KVs.sw b dl pf⟩
  | dt kvs => obtain ⟨es, a, b⟩ := h; exact ⟨es, a, KVs.sw b dl pf⟩
  | dn kvs => obtain ⟨es, a, b⟩ := h; exact ⟨es, a, NVs.sw b dl pf⟩
theorem Vu.dic {ad : Addr} (h : Vu K F ad u c) : (∃ es, u = HO.dK es) ∨ (∃ es, u = HO.dT es) ∨ ∃ φ, u = HO.ext φ := by
  cases c with
  | d x => exact h.elim
  | dk kvs => obtain ⟨es, a, b⟩ := h; exact .inl ⟨es, a⟩
  | dt kvs => obtain ⟨es, a, b⟩ := h; exact .inr (.inl ⟨es, a⟩)
  | dn kvs => obtain ⟨es, a, b⟩ := h; exact .inr (.inr ⟨_, a⟩)
theorem Bd.vu (h : Bd K F B v c) (n : ∀ x, c ≠ .d x) : ∃ p x u, v = .ref p ∧ B p = some x ∧ Vu K F p u c ∧ (x = u ∨ ∃ o, x = .frz o u) := by
  cases c with
  | d x => exact absurd rfl (n x)
  | dk kvs =>
    obtain ⟨p, es, rfl, a, b⟩ := h
    rcases a with a | ⟨o, a⟩
    · exact ⟨p, _, _, rfl, a, ⟨es, rfl, b⟩, .inl rfl⟩
    · exact ⟨p, _, _, rfl, a, ⟨es, rfl, b⟩, .inr ⟨o, rfl⟩⟩
  | dt kvs =>
    obtain ⟨p, es, rfl, a, b⟩ := h
    rcases a with a | ⟨o, a⟩
    · exact ⟨p, _, _, rfl, a, ⟨es, rfl, b⟩, .inl rfl⟩
    · exact ⟨p, _, _, rfl, a, ⟨es, rfl, b⟩, .inr ⟨o, rfl⟩⟩
  | dn kvs =>
    obtain ⟨p, es, rfl, a, b⟩ := h
    rcases a with a | ⟨o, a⟩
    · exact ⟨p, _, _, rfl, a, ⟨es, rfl, b⟩, .inl rfl⟩
    · exact ⟨p, _, _, rfl, a, ⟨es, rfl, b⟩, .inr ⟨o, rfl⟩⟩
theorem Od.vu {o : HO} (h : Od K F H p c) (n : ∀ x, c ≠ .d x) (e : H p = some o) : Vu K F p o c := by
  cases c with
  | d x => exact absurd rfl (n x)
  | dk kvs => obtain ⟨es, a, b⟩ := h; rw [e] at a; cases a; exact ⟨es, rfl, b⟩
  | dt kvs => obtain ⟨es, a, b⟩ := h; rw [e] at a; cases a; exact ⟨es, rfl, b⟩
  | dn kvs => obtain ⟨es, a, b⟩ := h; rw [e] at a; cases a; exact ⟨es, rfl, b⟩
def isPl : Res → Prop
  | .sl _ => True
  | .fl _ _ => True
  | _ => False
theorem ResOk.pl {B' H0' : Hp} {F2 : Fz} {r2 : Env} (h : ResOk K H0 F H σ r v z) (i : isPl z) (e : FEi F F2) : ResOk K H0' F2 H σ r2 v z := by
  cases z with
  | sh x => exact i.elim
  | fr c => exact i.elim
  | sl i => exact h
  | fl n f => exact FldV.up h e (.refl _)
theorem ResOk.one {v' : V} {H0' H0'' : Hp} {F2 : Fz} {r2 : Env} {H2 : Hp} {st : Store} (h : ResOk K H0 F H σ r v z) (i : isPl z) (e : FEi F F2) (e2 : Ex H H2) (s : StOk K H0'' F2 H2 st) (h' : ResOk K H0' F2 H2 σ r2 v' z) : v' = v := by
  cases z with
  | sh x => exact i.elim
  | fr c => exact i.elim
  | sl k =>
    have h : σ[k]? = some (some v) := h
    have h' : σ[k]? = some (some v') := h'
    rw [h] at h'; cases h'; rfl
  | fl n f =>
    rcases h with ⟨p, C, dx, es, t, hp, l⟩ | ⟨a, rfl, rfl, b⟩
    case inr =>
      rcases h' with ⟨p', C', dx', es', t', hp', l'⟩ | ⟨a', rfl, _, b'⟩
      · exact absurd t' (s.bi _ _ _ (e.b _ _ b))
      · have b := e.b _ _ b
        have : a' = a := by
          rcases b with b | b <;> rcases b' with b' | b'
          · exact s.inj _ _ _ b' b
          · obtain ⟨c1, w1⟩ := s.tf _ _ _ b
            obtain ⟨c2, w2⟩ := s.tl _ _ _ b'
            rw [w1] at w2; cases w2
          · obtain ⟨c1, w1⟩ := s.tl _ _ _ b
            obtain ⟨c2, w2⟩ := s.tf _ _ _ b'
            rw [w1] at w2; cases w2
          · exact s.inj _ _ _ b' b
        rw [this]
    rcases h' with ⟨p', C', dx', es', t', hp', l'⟩ | ⟨a, rfl, rfl, b⟩
    case inr => exact absurd (e.i _ _ t) (s.bi _ _ _ b)
    have := s.inj _ _ _ t' (e.i _ _ t)
    subst this
    rw [e2 _ _ hp] at hp'; cases hp'
    rw [l] at l'; cases l'
    rfl
end
structure Plc (K : KC) (fa : EF) : Prop where
  pl : ∀ (B H0 F0 : Hp) (F : Fz) (H : Hp) (σ : L2.St) (r : Env) (z : Res) (r' : Env), fa r = some (z, r') → J K B H0 F0 F H σ r → r' = r ∧ (∀ l, fa (lock l r) = some (z, lock l r)) ∧ ∃ v, ResOk K H0 F H σ r v z
structure Vw (X : Cx) (tg it e : Expr) (g : C → Option (List D)) : Prop where
  nd : ∀ x, g (.d x) = none
  ex : ∀ td, PE X e td → ∃ w : TI, PI X tg it w ∧ ∀ (c : C) (ds : List D), g c = some ds → ∀ (σ : L2.St) (H : Hp) (R : It → Hp → Prop) (P : V → Hp → Prop), (∀ Q : VK, (∀ x H1, P x H1 → Q x H1) → td σ H Q) →
    (∀ x H1, P x H1 → ∃ d o u F, x = .ref d ∧ H1 d = some (.frz o u) ∧ Vu X.kc F d u c ∧ ∀ T, (∀ G, G d = some (.frz o u) → ItOk X.kc T G F ds) → R T H1) → w σ H R
theorem KVs.at {K : KC} {F : Fz} {κ : Type} : ∀ {es : List (κ × V)} {kvs : List (κ × D)} {i : Nat} {e : κ × V}, KVs K F es kvs → es[i]? = some e → ∃ d, kvs[i]? = some (e.1, d) ∧ Vp K F e.2 d
  | _, _, _, _, .nil, q => by simp at q
  | _ :: _, q :: _, 0, e, .cons ⟨h1, h2⟩ r, w => by
    simp at w; subst w
    exact ⟨q.2, by simp [h1], h2⟩
  | _ :: _, _ :: _, i + 1, e, .cons _ r, w => by
    obtain ⟨d, a, b⟩ := KVs.at (i := i) r (by simpa using w)
    exact ⟨d, by simpa using a, b⟩
section
variable {X : Cx} {tg e : Expr} {apos cpos : Pos}
end
section
variable {X : Cx} {e tg it : Expr} {fa : EF} {pos : Pos} {body : List Stmt} {p : Pat} {g : SF}
end
end CM
end
section
set_option Elab.async false
set_option linter.all false
set_option maxRecDepth 100000
set_option autoImplicit false
namespace CM
open PySem PySem.Spec PyProof.Rows L2
end CM
end
section
set_option Elab.async false
set_option linter.all false
set_option maxRecDepth 100000
set_option autoImplicit false
namespace CM
open PySem PySem.Spec PyProof.Rows L2
section
variable {X : Cx} {e : Expr} {fa : EF} {q1 : Bool}
end
end CM
end
section
set_option Elab.async false
set_option linter.all false
set_option maxRecDepth 100000
set_option autoImplicit false
namespace CM
open PySem PySem.Spec PyProof.Rows L2
def eMutL (kd : C → Bool) (g : C → List D → Option (Res × C)) (cs : List Str) (i : Nat) (f : Str) (fs : List EF) : EF := fun r =>
  (ownAt r (.fl cs i f)).bind fun c0 => if kd c0 = true then (obAt r i).bind fun n => (eArgs fs (lock (.fl n f) r)).bind fun p => (shares p.2 p.1).bind fun q => (ownAt (unlock (.fl n f) q.2) (.fl cs i f)).bind fun c =>
    (g c q.1).bind fun w => some (w.1, ownPut (unlock (.fl n f) q.2) w.2 (.fl cs i f)) else none
section
variable {X : Cx} {e : Expr} {es : List Expr} {fs : List EF} {T id : String} {name : Str} {kd : C → Bool} {g : C → List D → Option (Res × C)} {apos cpos npos : Pos} {qb : Bool}
theorem de_mutL (i : Nat) {cs : List Str} {x f : Str} {fpos : Pos} (dm : DMut X T name id kd g) (cl : ClF X cs f) (hN : X.N[i]? = some x) (hv : Vis X.env.scope x) (ha : DA X qb (e :: es) fs) (hd : (x == ("__debug__" : Str)) = false := by decide) (hcd : (x == ("__classdict__" : Str)) = false := by decide)
    (hb0 : attributeBase (.Name x npos) f X.env (eval (.Name x npos) X.env) = eval (.Name x npos) X.env := by rfl)
    (hbase : attributeBase (.Attribute (.Name x npos) f fpos) name X.env (eval (.Attribute (.Name x npos) f fpos) X.env) = eval (.Attribute (.Name x npos) f fpos) X.env := by rfl)
    (hfew : ((backTo cpos (starEach (e :: es) X.env)).all (fun x => !x.1) && (backToKw cpos (keywordEach [] X.env)).all (fun x => x.1.isSome)
      && decide ((e :: es).length + ([] : List Keyword).length + (if ([] : List Keyword).isEmpty then 0 else 1) < 30)) = true := by rfl)
    (hline : (apos.endLine == cpos.line) = true := by rfl) (hs : starEach (e :: es) X.env = (false, eval e X.env) :: starEach es X.env := by rfl) (hplain : (backTo cpos (starEach es X.env)).any (·.1) = false := by rfl) :
    DE X false (.Call (.Attribute (.Attribute (.Name x npos) f fpos) name apos) (e :: es) [] cpos) (eMutL kd g cs i f fs) := by
  obtain ⟨pa, sl, hty, o, mt, ty, op⟩ := dm.ex
  obtain ⟨t, a1, a2⟩ := ha.ex
  refine ⟨_, pe_bm pa sl hty mt (pe_fld (pe_var hN hv hd hcd) hb0) a1 hbase hfew hline hs hplain, fun B H0 F0 F H σ r z r' q j Q k => ?_⟩
  simp only [eMutL, Option.bind_eq_some_iff] at q
  obtain ⟨c0, q0, q⟩ := q
  split at q
  · rename_i hk
    simp only [Option.bind_eq_some_iff] at q
    obtain ⟨n, qn, ⟨zs, r1⟩, q1, ⟨ys, r2⟩, q2, c, q3, ⟨z1, c'⟩, q4, q5⟩ := q
    cases q5
    dsimp only at q1 q2 q3 q4 k
    obtain ⟨p, pi, n', C, dx, fes, ob, hpi, hob, t1, h1, l1, hst, hcs, hmg, ow⟩ := own_fl j q0
    rw [qn] at hob; cases hob
    obtain ⟨_, _, od, _⟩ := ow.facts j
    have hq : fldAt r.st n f = some (.ow c0) := by
      obtain ⟨_, _, _, _, _, w1, _, _, _, _, w2⟩ := ow
      rw [qn] at w1; cases w1; exact w2
    obtain ⟨k1, k2⟩ := cl.ok _ hcs C hmg
    refine ⟨_, hpi, pi, C, dx, fes, _, rfl, h1, k1, k2, l1, ty F H p c0 hk od, ?_⟩
    obtain ⟨p', o', FL, ep, ho, _, fi, lk⟩ := LkOk.field j t1 h1 l1 hq
    cases ep
    refine a2 _ _ _ _ _ _ _ _ _ q1 lk.j _ fun F1 H1 vs e1 j1 k1 => ?_
    obtain ⟨F2, e2, j2, d2⟩ := shares_ok q2 j1 k1
    have e12 : Ge qb FL H (lock (.fl n f) r) F2 H1 r2 := e1.qt e2
    obtain ⟨F3, u1, u2, u3, u4, u5, u6, _⟩ := lk.un F2 H1 σ r2 e12.f e12.kp j2
    obtain ⟨p2, pi2, n2, C2, dx2, fes2, ob2, hpi2, hob2, t2, h2, l2, hst2, hcs2, hmg2, ow2⟩ := own_fl u5 q3
    rw [hpi] at hpi2; cases hpi2
    -- the container is the same one
    have tp2 : F2.t pi = some (.ins n) := e12.f.i _ _ (fi.i _ _ t1)
    have tp3 := u2.i _ _ tp2
    rw [t2] at tp3; cases tp3
    have lkf : FL.t p = some (.lok n f) := by
      have hl : lock (.fl n f) r = r.putF n f (.lk c0) := by show (match fldAt r.st n f with | some (.ow c) => r.putF n f (.lk c) | _ => r) = _; rw [hq]
      have hn : n < r.st.length := j.so.ix _ _ t1
      have hfl : fldAt (lock (.fl n f) r).st n f = some (.lk c0) := by
        rw [hl]
        show fldAt (stPut r.st n f _) n f = _
        rw [fldAt_put hn, if_pos ⟨rfl, rfl⟩]
      obtain ⟨q', w1, w2, _⟩ := lk.j.so.field (fi.i _ _ t1) h1 l1 hfl
      cases w1
      exact w2
    have l2p : F2.t p = some (.lok n f) := (e12.f.l p n f).mp lkf
    obtain ⟨ob3, b1, C3, dx3, es3, b2, b3, b4, b5, _⟩ := j2.so.ob pi n tp2
    rw [h2] at b3; cases b3
    obtain ⟨c3, b6⟩ := j2.so.tl p n f l2p
    obtain ⟨q', w1, w2, _⟩ := j2.so.field tp2 h2 l2 b6
    cases w1
    have := j2.so.inj _ _ _ w2 l2p
    subst this
    obtain ⟨_, f2, od2, _⟩ := ow2.facts u5
    refine op F3 H1 p2 c c' vs ys z1 u5.fh u5.tagged f2 od2 (VpAll.up u2 _ _ d2) q4 Q fun F4 H4 v ch od3 hz => ?_
    obtain ⟨y, rfl, vy⟩ := hz
    exact k F4 H4 v ⟨u1.trans (ch.ge (r := r) (r' := r) fun _ _ _ h => h).f, fun i s l h => (u4 i s l (ownPut_lent i s l h)).1, fun z => by cases z⟩ (u5.chg ow2 ch od3) vy
  · cases q
@[simp] theorem ev_mutL (cs : List Str) (i : Nat) (f : Str) (fs : List EF) (r : Env) : eMutL kd g cs i f fs r = (ownAt r (.fl cs i f)).bind fun c0 => if kd c0 = true then (obAt r i).bind fun n => (eArgs fs (lock (.fl n f) r)).bind fun p => (shares p.2 p.1).bind fun q => (ownAt (unlock (.fl n f) q.2) (.fl cs i f)).bind fun c =>
    (g c q.1).bind fun w => some (w.1, ownPut (unlock (.fl n f) q.2) w.2 (.fl cs i f)) else none := rfl
end
end CM
end
section
set_option Elab.async false
set_option linter.all false
set_option maxRecDepth 100000
set_option autoImplicit false
namespace CM
open PySem PySem.Spec PyProof.Rows L2
theorem draws_end {prog : Program} {w : World} {A : Around} {it : Addr} {fp : List Addr} {n : Nat} {P : Nat → Value → Prop} {St : Nat → Heap → Prop} (D : Draws prog w A it fp n P St) (m : Nat)
    (done : ∀ (s : Shared) (Q : Value → Shared → Prop) (E : Value → Shared → Prop), St m s.heap →
      (∀ h' e, Heap.ExtBut it s.heap h' → (∃ o, h'.get? e = some o ∧ o.cls = .type "StopIteration") → E (.ref e) { s with heap := h' }) → wpAny (model prog w) A (Builtin.SmallTypes.nextOf (.ref it)) Q E s) :
    Draws prog w A it fp m P (fun j h => j = m ∧ St j h) where
  live := fun i h st => D.live i h st.2
  frame := fun i h h' st k => ⟨st.1, D.frame i h h' st.2 k⟩
  item := fun i s Q E hi st _ => absurd st.1 (Nat.ne_of_lt hi)
  done := fun s Q E st hE => done s Q E st.2 hE
def Itx (K : PySem.W.Frag) (a : Addr) (x : Str) : It :=
  ⟨fun i H => ∃ (xs : List V) (v : V), SqL K H a xs ∧ xs[i]? = some v ∧ i < x.cps.size,
    fun i H y H' => ∃ (T : Addr) (v : V) (c : Nat), y = .ref T ∧ H T = none ∧ H' = upd H T (.tup [v, .str ⟨#[c]⟩]) ∧ (∀ xs, SqL K H a xs → xs[i]? = some v) ∧ x.cps[i]? = some c,
    fun i H => ∃ xs : List V, SqL K H a xs ∧ (xs.length ≤ i ∨ x.cps.size ≤ i)⟩
section
variable {P : Program} {w : World} {K : PySem.W.Frag} {elts : List Expr} {kk : Nat} {tpos : Pos} {a n : Nat} {x : Str} {t : Tok}
theorem ne_add (n : Nat) {a b : Nat} (h : a ≠ b) : n + a ≠ n + b := by omega
theorem ne_add0 (n : Nat) {a : Nat} (h : a ≠ 0) : n + a ≠ n := by omega
theorem nm1 {x a : Nat} (h : x ≠ a) : x ∉ [a] := by simpa using h
theorem nm2 {x a b : Nat} (h : x ≠ a) (h' : x ≠ b) : x ∉ [a, b] := by simpa using ⟨h, h'⟩
theorem ne_big {n a k : Nat} (h : a < n) : n + k ≠ a := by omega
theorem zip_sep (ha : a < n) : ZipSep2 (n + 4) (n + 2) (n + 3) n (n + 1) [n, a] [n + 1] := by
  exact ⟨ne_add n (by decide), ne_add n (by decide), ne_add n (by decide), ne_add0 n (by decide), by simp, nm2 (ne_add0 n (by decide)) (ne_big ha), nm2 (ne_add0 n (by decide)) (ne_big ha), ne_add n (by decide), by simp, nm1 (ne_add n (by decide)), nm1 (ne_add n (by decide)), nm1 (Ne.symm (ne_add0 n (by decide))), nm2 (ne_add0 n (by decide)) (ne_big ha)⟩
theorem turn_zipX (ha : a < n) : Turn P w K (.Tuple elts kk tpos) (Itx K a x) [n + 4, n + 2, n + 3, n, n + 1] (n + 4)
    (fun i h => IsZip h (n + 4) (n + 2) (n + 3) .none ∧ IsTupOf2 h (n + 2) (.ref n) (.ref (n + 1)) ∧ (∃ x y, IsTupOf2 h (n + 3) x y) ∧ h.IsListIter n a i ∧ h.IsStrIter (n + 1) (strIterType x) x t i) where
  mem := by simp
  obj := fun i h st c hc => by
    obtain ⟨hz, hTI, ⟨x, y, hTO⟩, ⟨o1, e1, _, d1⟩, ⟨o2, e2, _, d2⟩⟩ := st
    have e' : c = n + 4 ∨ c = n + 2 ∨ c = n + 3 ∨ c = n ∨ c = n + 1 := by simpa using hc
    rcases e' with q | q | q | q | q
    · rw [q]; exact ⟨_, hz, fun v q => nomatch q⟩
    · rw [q]; exact ⟨_, hTI, fun v q => nomatch q⟩
    · rw [q]; exact ⟨_, hTO, fun v q => nomatch q⟩
    · rw [q]; exact ⟨o1, e1, fun v q => by rw [d1] at q; cases q⟩
    · rw [q]; exact ⟨o2, e2, fun v q => by rw [d2] at q; cases q⟩
  keep := fun i h h' st k => by
    obtain ⟨hz, hTI, ⟨x, y, hTO⟩, h1, ⟨o2, e2, r2⟩⟩ := st
    exact ⟨k (n + 4) (by simp) _ hz, k (n + 2) (by simp) _ hTI, ⟨x, y, k (n + 3) (by simp) _ hTO⟩, h1.at fun o q => k n (by simp) o q, ⟨o2, k (n + 1) (by simp) _ e2, r2⟩⟩
  item := by
    intro X hP hw hK hc i pins s σ H E I hf st hg
    subst hP hw hK
    obtain ⟨hz, hTI, ⟨x0, y0, hTO⟩, h1, h2⟩ := st
    obtain ⟨xs, v, hqx, hx, hi⟩ := hg
    obtain ⟨its, rv, p, _⟩ := I.list hqx
    obtain ⟨u, hu, ru⟩ := rv.get hx
    have hzl : n + 4 < s.heap.objs.size := Heap.lt_size hz
    have hil : i < its.toArray.size := by
      have := (List.getElem?_eq_some_iff.mp hu).1
      simpa using this
    have D1 := Draws.list (prog := X.prog) (w := X.w) (A := X.A.in1) (I.ok.hd hc) n a (show a ≠ n from Nat.ne_of_lt ha) its.toArray
    have D2 := Draws.text (prog := X.prog) (w := X.w) (A := X.A.in1) (I.ok.hd hc) (n + 1) x t
    refine wpAny_pyNext_zipD2_item (zip_sep ha) D1 D2 hz hTI hTO ⟨h1, p.isList⟩ h2 hil hi fun x1 x2 h' tk y1 y2 z' TO' st1 st2 hT hsz hk => ?_
    obtain ⟨c, tu, yc, rfl⟩ := y2
    have eu : x1 = u := by
      have y1 : its.toArray[i]? = some x1 := y1
      rw [show its.toArray[i]? = its[i]? by simp, hu] at y1
      exact (Option.some.inj y1).symm
    subst eu
    refine ⟨_, rfl, wpAny_letOwnedTupleGo_zip (s := { s with heap := h', toks := tk }) z' fun h'' z'' sb => ?_⟩
    have hT2 : h''.get? s.heap.objs.size = some { cls := .type "tuple", data := .seq #[x1, .str ⟨#[c]⟩ tu] } := (sb.2 _ (Nat.ne_of_gt hzl)).trans hT
    have new : ObjOk X.prog X.w (upd H s.heap.objs.size (.tup [v, .str ⟨#[c]⟩])) h'' s.heap.objs.size (.tup [v, .str ⟨#[c]⟩]) :=
      ⟨by show 2 ≤ sizeLine; decide, [x1, .str ⟨#[c]⟩ tu], .cons ru (.cons ⟨tu, rfl⟩ .nil), ⟨_, hT2, rfl, _, rfl⟩⟩
    have I1 : Inv X pins σ (upd H s.heap.objs.size (.tup [v, .str ⟨#[c]⟩])) { s with heap := h'', toks := tk } :=
      I.turnedNew (t' := tk) (ch := [n + 4, n + 2, n + 3, n, n + 1]) (fun c o hb q => (sb.2 c (fun q' => hb (by simp [q']))).trans (hk c o (fun q' => hb (by simp [q'])) (fun q' => hb (by simp [q'])) (fun q' => hb (by simp [q'])) (fun q' => hb (by simp [q'])) q)) hf (Nat.le_refl _) new
    have n2 := ne_add n (a := 2) (b := 4) (by decide)
    have n23 := ne_add n (a := 2) (b := 3) (by decide)
    have n20 := ne_add0 n (a := 2) (by decide)
    have n21 := ne_add n (a := 2) (b := 1) (by decide)
    refine ⟨.ref s.heap.objs.size, _, I1, rfl, ⟨_, v, c, rfl, I.hok.fresh (Nat.le_refl _), rfl, fun l hl => by rw [I.list_inj hl hqx]; exact hx, yc⟩, ⟨z'', ?_, ⟨x1, .str ⟨#[c]⟩ tu, ?_⟩, ?_, ?_⟩, fun c hcm => ?_⟩
    · exact (sb.2 _ n2).trans (hk _ _ n2 n23 n20 n21 hTI)
    · exact (sb.2 _ (ne_add n (a := 3) (b := 4) (by decide))).trans TO'
    · exact st1.1.at fun o q => (sb.2 _ (Ne.symm (ne_add0 n (a := 4) (by decide)))).trans q
    · obtain ⟨o2, e2, r2⟩ := st2
      exact ⟨o2, (sb.2 _ (ne_add n (a := 1) (b := 4) (by decide))).trans e2, r2⟩
    · have hlt : c < s.heap.objs.size := by
        have e' : c = n + 4 ∨ c = n + 2 ∨ c = n + 3 ∨ c = n ∨ c = n + 1 := by simpa using hcm
        have lz : ∀ k, k ≤ 4 → n + k < s.heap.objs.size := fun k hk => Nat.lt_of_le_of_lt (Nat.add_le_add_left hk n) hzl
        rcases e' with q | q | q | q | q <;> rw [q]
        · exact lz 4 (by decide)
        · exact lz 2 (by decide)
        · exact lz 3 (by decide)
        · exact lz 0 (by decide)
        · exact lz 1 (by decide)
      rw [upd_ne (Nat.ne_of_lt hlt)]
      exact (hf c hcm).1
  done := by
    intro X hP hw hK hc i pins s σ H E I hf st hg
    subst hP hw hK
    obtain ⟨hz, hTI, ⟨x0, y0, hTO⟩, h1, h2⟩ := st
    obtain ⟨xs, hqx, hend⟩ := hg
    obtain ⟨its, rv, p, _⟩ := I.list hqx
    have l1 := rv.length
    have hh := I.ok.hd hc
    have D1 := Draws.list (prog := X.prog) (w := X.w) (A := X.A.in1) hh n a (show a ≠ n from Nat.ne_of_lt ha) its.toArray
    have D2 := Draws.text (prog := X.prog) (w := X.w) (A := X.A.in1) hh (n + 1) x t
    have fin : ∀ h' tk, (∀ c o, c ≠ n + 4 → c ≠ n + 3 → c ≠ n → c ≠ n + 1 → s.heap.get? c = some o → h'.get? c = some o) → (none : Option Value) = none ∧ Inv X pins σ H { s with heap := h', toks := tk } := fun h' tk hk =>
      ⟨rfl, I.turnedL (t' := tk) (ch := [n + 4, n + 2, n + 3, n, n + 1]) (fun c o hb q => hk c o (fun q' => hb (by simp [q'])) (fun q' => hb (by simp [q'])) (fun q' => hb (by simp [q'])) (fun q' => hb (by simp [q'])) q) hf⟩
    have D2e : x.cps.size ≤ i → Draws X.prog X.w X.A.in1 (n + 1) [n + 1] i (fun i v => ∃ c u, x.cps[i]? = some c ∧ v = .str ⟨#[c]⟩ u) (fun j h => j = i ∧ h.IsStrIter (n + 1) (strIterType x) x t j) := fun hle =>
      draws_end D2 i fun s Q E st hE => by
        have hn : x.cps[i]? = none := by simp [hle]
        cases ha : x.cps.all (· < 128)
        · have e : strIterType x = "str_iterator" := by simp only [strIterType, ha, Bool.false_eq_true, if_false]
          rw [e] at st
          exact wpAny_nextOf_wide_end hh st hn hE
        · have e : strIterType x = "str_ascii_iterator" := by simp only [strIterType, ha, if_true]
          rw [e] at st
          exact wpAny_nextOf_ascii_end hh st hn hE
    by_cases hl : its.toArray.size ≤ i
    · have D1e := draws_end D1 i fun s Q E st hE => wpAny_nextOf_list_end hh st.1 st.2 (by simpa using hl) hE
      by_cases hx : x.cps.size ≤ i
      · exact wpAny_pyNext_zipD2_end (zip_sep ha) D1e (D2e hx) hz hTI hTO ⟨rfl, h1, p.isList⟩ ⟨rfl, h2⟩ (Nat.le_refl _) (Nat.le_refl _) (.inl rfl) fin
      · exact wpAny_pyNext_zipD2_end (zip_sep ha) D1e D2 hz hTI hTO ⟨rfl, h1, p.isList⟩ h2 (Nat.le_refl _) (by omega) (.inl rfl) fin
    · have hx : x.cps.size ≤ i := by
        rcases hend with q | q
        · exfalso; simp at hl; omega
        · exact q
      exact wpAny_pyNext_zipD2_end (zip_sep ha) D1 (D2e hx) hz hTI hTO ⟨h1, p.isList⟩ ⟨rfl, h2⟩ (by omega) (Nat.le_refl _) (.inr rfl) fin
  self := fun A i s Q E st h => wpAny_pyIter_zip st.1 h
end
def iZipS (K : PySem.W.Frag) (ta : TA) : TI := fun σ H R => ta σ H fun vs H1 => ∃ (a : Addr) (x : Str) (xs : List V), vs = [.ref a, .str x] ∧ SqL K H1 a xs ∧ R (Itx K a x) H1
theorem pi_zipS {X : Cx} {e e2 : Expr} {ta : TA} {p pos tpos : Pos} {elts : List Expr} {kk : Nat} (hg : Gl X "zip") (hm : X.mg "zip" = none) (ha : PA X [e, e2] ta)
    (hs : starEach [e, e2] X.env = (false, eval e X.env) :: starEach [e2] X.env := by rfl) (hpl : (backTo pos (starEach [e2] X.env)).any (·.1) = false := by rfl) :
    PI X (.Tuple elts kk tpos) (.Call (.Name "zip" p) [e, e2] [] pos) (iZipS X.K ta) := by
  refine ⟨fun pins s σ H R I h => ?_⟩
  refine Call_ (ld_blt I hg hm PyProof.Rows.boot_zip (PyProof.Rows.callWith_type1 (thn (ha.run pos pins s σ H _ I h) fun us s1 ⟨vs, H1, I1, r1, q1⟩ => ?_) hs hpl))
  obtain ⟨a, x, xs, ex, hqx, q⟩ := q1
  subst ex
  obtain ⟨u1, u2, rfl, r, r'⟩ := vals2 r1
  cases (show u1 = Value.ref a from r)
  obtain ⟨t, rfl⟩ := (show ∃ t, u2 = Value.str x t from r')
  obtain ⟨its, rv, p1, _⟩ := I1.list hqx
  have la : a < s1.heap.objs.size := p1.lt
  refine zip_begins2 (begins_list a its.toArray) (begins_text x t) p1.isList trivial fun h' hz hTI hTO h1 h2 hsz hk => wpAny_pyIter_zip hz ?_
  have I2 : Inv X pins σ H1 { s1 with heap := h' } := I1.kept (t' := s1.toks) hk
  refine ⟨s1.heap.objs.size + 4, [s1.heap.objs.size + 4, s1.heap.objs.size + 2, s1.heap.objs.size + 3, s1.heap.objs.size, s1.heap.objs.size + 1], _, _, H1, rfl, I2, turn_zipX (x := x) (t := t) la, ⟨hz, hTI, ⟨_, _, hTO⟩, ⟨_, h1, rfl, rfl⟩, ⟨_, h2, rfl, rfl⟩⟩, fun c hcm => ?_, q⟩
  have e' : c = s1.heap.objs.size + 4 ∨ c = s1.heap.objs.size + 2 ∨ c = s1.heap.objs.size + 3 ∨ c = s1.heap.objs.size ∨ c = s1.heap.objs.size + 1 := by simpa using hcm
  have hle : s1.heap.objs.size ≤ c := by
    rcases e' with z | z | z | z | z <;> rw [z] <;> omega
  exact I1.fpOk hle (I1.hok.fresh hle)
def lstE : C → Option (List D)
  | .d (.list ds) => some ds
  | _ => none
def txtC : C → Option Str
  | .d (.str x) => some x
  | _ => none
def zipX (ds : List D) (x : Str) : List D := (ds.zip (x.cps.toList)).map fun p => .tuple [p.1, .str ⟨#[p.2]⟩]
def zipK (r : Env) : List Res → Option (List D × Lk × Env)
  | [z1, z2] => (lendOf r z1).bind fun q => (lstE q.1).bind fun ds => (look r z2).bind fun u => (txtC u).bind fun x => some (zipX ds x, q.2, r)
  | _ => none
def iZipX (as : List EF) : IF := fun r => (eArgs as r).bind fun p => zipK p.2 p.1
theorem itOk_zip {K : KC} {G : Hp} {a : Addr} {F : Fz} {ds : List D} (h : ItOk K (Itl K.K a) G F ds) (hs : ∀ F1 H1, FEx F F1 → Ex F1.f H1 → Ex G H1 → ∃ xs, SqL K.K H1 a xs) (x : Str) : ItOk K (Itx K.K a x) G F (zipX ds x) := fun i F1 H1 e1 e2 e3 => by
  obtain ⟨g1, g2⟩ := h i F1 H1 e1 e2 e3
  have hl : (zipX ds x).length = min ds.length x.cps.size := by simp [zipX, List.length_zip]
  refine ⟨fun hi => ?_, fun hi => ?_⟩
  · rw [hl] at hi
    obtain ⟨⟨xs, v, q1, q2⟩, y⟩ := g1 (by omega)
    refine ⟨⟨xs, v, q1, q2, by omega⟩, fun z H2 ⟨T, v', c, p1, p2, p3, p4, p5⟩ => ?_⟩
    subst p1; subst p3
    obtain ⟨F2, gr, d, hd, dv⟩ := y v' H1 ⟨rfl, p4⟩
    have gr2 : Grow F2 H1 (F2.put T (.tup [v', .str ⟨#[c]⟩])) (upd H1 T (.tup [v', .str ⟨#[c]⟩])) := .put gr.fh p2
    refine ⟨_, gr.trans gr2, .tuple [d, .str ⟨#[c]⟩], ?_, .tup (.flat (by simp [tuT, isTupD]) upd_same) (.cons (Vp.up gr2.fe _ _ dv) (.cons (.str _) .nil))⟩
    unfold zipX
    rw [List.getElem?_map]
    have hc : x.cps.toList[i]? = some c := by rw [Array.getElem?_toList]; exact p5
    rw [show (ds.zip x.cps.toList)[i]? = some (d, c) from List.getElem?_zip_eq_some.mpr ⟨hd, hc⟩]
    rfl
  · rw [hl] at hi
    by_cases hd : ds.length ≤ i
    · obtain ⟨xs, q1, q2⟩ := g2 hd
      exact ⟨xs, q1, .inl q2⟩
    · obtain ⟨xs, q⟩ := hs F1 H1 e1 e2 e3
      exact ⟨xs, q, .inr (by omega)⟩
section
variable {X : Cx} {e1 e2 : Expr} {fs : List EF} {q1 : Bool} {elts : List Expr} {kk : Nat} {tpos p pos : Pos}
theorem di_zipS (hg : Gl X "zip") (hm : X.mg "zip" = none) (ha : DA X q1 [e1, e2] fs)
    (hs : starEach [e1, e2] X.env = (false, eval e1 X.env) :: starEach [e2] X.env := by rfl) (hpl : (backTo pos (starEach [e2] X.env)).any (·.1) = false := by rfl) :
    DI X (.Tuple elts kk tpos) (.Call (.Name "zip" p) [e1, e2] [] pos) (iZipX fs) := by
  obtain ⟨t, a1, a2⟩ := ha.ex
  refine ⟨_, pi_zipS hg hm a1 hs hpl, fun B H0 F0 F H σ r ds l r' q j R k => ?_⟩
  simp only [iZipX, Option.bind_eq_some_iff] at q
  obtain ⟨⟨zs, r1⟩, q1, q2⟩ := q
  dsimp only at q2
  unfold zipK at q2
  split at q2
  · rename_i z1 z2
    simp only [Option.bind_eq_some_iff] at q2
    obtain ⟨⟨c, l1⟩, q3, ds1, q4, u, q5, x, q6, q7⟩ := q2
    cases q7
    have hc : c = .d (.list ds1) := by
      have q4 : lstE c = some ds1 := q4
      unfold lstE at q4
      split at q4
      · cases q4; rfl
      · cases q4
    subst hc
    have hu : u = .d (.str x) := by
      unfold txtC at q6
      split at q6
      · cases q6; rfl
      · cases q6
    subst hu
    refine a2 _ _ _ _ _ _ _ _ _ q1 j _ fun F1 H1 vs e1 j1 k1 => ?_
    cases k1 with
    | @cons v1 _ vs1 _ ka kr =>
      cases kr with
      | @cons v2 _ vs2 _ kb kr2 =>
        cases kr2
        have lk2 := kb.2.look j1 q5
        have lk2 : Vp X.kc F1 v2 (.str x) := lk2
        cases lk2
        obtain ⟨F2, B', H0', FL, g, lk, s⟩ := lend_ok q3 (ds := ds1) rfl j1 ka.2
        rcases s with ⟨_, p, ys, rfl, s1, s2⟩ | ⟨⟨ys, z⟩, _⟩
        · refine ⟨p, x, ys, rfl, s1, k F2 H1 B' H0' FL _ (e1.qt g).weak lk (itOk_zip s2 (fun F3 H3 u1 u2 u3 => ?_) x)⟩
          by_cases hz : 0 < ds1.length
          · obtain ⟨xs, _, w, _⟩ := (s2 0 F3 H3 u1 u2 u3).1 hz |>.1
            exact ⟨xs, w⟩
          · obtain ⟨xs, w, _⟩ := (s2 0 F3 H3 u1 u2 u3).2 (by omega)
            exact ⟨xs, w⟩
        · cases z
  · cases q2
@[simp] theorem ev_zipX (as : List EF) (r : Env) : iZipX as r = (eArgs as r).bind fun p => zipK p.2 p.1 := rfl
@[simp] theorem zipK_2 (r : Env) (z1 z2 : Res) : zipK r [z1, z2] = (lendOf r z1).bind fun q => (lstE q.1).bind fun ds => (look r z2).bind fun u => (txtC u).bind fun x => some (zipX ds x, q.2, r) := rfl
@[simp] theorem lstE_l (ds : List D) : lstE (.d (.list ds)) = some ds := rfl
@[simp] theorem txtC_s (x : Str) : txtC (.d (.str x)) = some x := rfl
end
end CM
end
section
set_option Elab.async false
set_option linter.all false
set_option maxRecDepth 100000
set_option autoImplicit false
namespace CM
open PySem PySem.Spec PyProof.Rows L2
def insD (xs : List D) (i : Nat) (y : D) : List D := xs.take i ++ [y] ++ xs.drop i
def gIns : C → List D → Option (Res × C)
  | .d (.list xs), [.int i, y] => if xs.length < 16777216 ∧ 0 ≤ i ∧ i < 9223372036854775808 then some (.sh .none, .d (.list (insD xs i.toNat y))) else none
  | _, _ => none
section
variable {X : Cx}
theorem dm_insert : DMut X "list" "insert" "list.insert" isLst gIns := ⟨PySem.F.plainAttrs_list, PySem.F.slot_list_insert, PySem.F.type_list_insert, _, mt_insert, lst_ty, fun F H p c c' xs ds z e et f od dd q Q k => by
  unfold gIns at q
  split at q
  · rename_i ys i y
    split at q
    · rename_i hl
      cases q
      obtain ⟨vs, hx, da⟩ := od
      cases dd with
      | cons d1 d2 =>
        cases d2 with
        | cons d2 d3 =>
          cases d3
          cases d1
          refine ⟨p, vs, i, _, rfl, rfl, hx, by rw [VpAll.length da, sizeLine_eq]; exact hl.1, hl.2.1, hl.2.2, ?_⟩
          exact k F _ _ (.at e f) ⟨_, upd_same, VpAll.app (VpAll.app (VpAll.take _ da) (.cons d2 .nil)) (VpAll.drop _ da)⟩ ⟨_, rfl, .non⟩
    · cases q
  · cases q⟩
@[simp] theorem gIns_l (xs : List D) (i : Int) (y : D) : gIns (.d (.list xs)) [.int i, y] = if xs.length < 16777216 ∧ 0 ≤ i ∧ i < 9223372036854775808 then some (.sh .none, .d (.list (insD xs i.toNat y))) else none := rfl
end
end CM
end
section
set_option Elab.async false
set_option linter.all false
set_option maxRecDepth 100000
set_option autoImplicit false
namespace CM
open PySem PySem.Spec PyProof.Rows L2
def sFail : SF := fun _ => none
theorem ds_fail {X : Cx} {st : Stmt} : DS X st sFail := ⟨fun _ _ _ => False, ⟨fun _ _ _ _ _ _ h => h.elim⟩, fun _ _ _ _ _ _ _ _ _ q => by cases q⟩
@[simp] theorem ev_fail (r : Env) : sFail r = none := rfl
end CM
end
section
set_option Elab.async false
set_option linter.all false
set_option maxRecDepth 100000
set_option autoImplicit false
namespace CM
open PySem PySem.Spec PyProof.Rows L2
structure Mk00 (K : PySem.W.Frag) (C : Addr) : Prop where
  makes : PySem.W.makesIn K C = true
  init : PySem.W.findIn K (.ref C) "__init__" = some (some (.builtin "object.__init__"))
  top : PySem.W.mroIn K C (.type "object") = some true
  kp : PySem.W.keepIn K (.ref C) = true
section
variable {X : Cx} {C : Addr} {x : Str} {p pos : Pos}
end
end CM
end
section
set_option Elab.async false
set_option linter.all false
set_option maxRecDepth 100000
set_option autoImplicit false
namespace CM
open PySem PySem.Spec PyProof.Rows L2
structure IsC (K : PySem.W.Frag) (C D : Addr) : Prop where
  cl : Cls K C
  ha : PySem.W.findIn K (.ref C) "__class__" = some (some (.builtin "object.__class__"))
  hn : PySem.W.specialIn K (.builtin "object.__class__") "__get__" = some (some (.builtin "getset_descriptor.__get__"))
  htk : PySem.W.takesIn K (.builtin "object.__class__") = some true
  hm : PySem.W.mroIn K C (.type "object") = some true
  me : PySem.W.kitOne K (.ref C) (.ref D) = some true
structure IsCs (K : PySem.W.Frag) (mg : Str → Option Value) (cs : List Str) (T : Str) : Prop where
  ex : ∃ D, mg T = some (.ref D) ∧ ∀ c ∈ cs, ∀ C, mg c = some (.ref C) → IsC K C D
theorem IsCs.nil {K : PySem.W.Frag} {mg : Str → Option Value} {T : Str} {D : Addr} (h : mg T = some (.ref D)) : IsCs K mg [] T := ⟨D, h, fun c hc => by cases hc⟩
theorem IsCs.cons {K : PySem.W.Frag} {mg : Str → Option Value} {c T : Str} {cs : List Str} {C D : Addr} (hT : mg T = some (.ref D)) (hc : mg c = some (.ref C)) (i : IsC K C D) (r : IsCs K mg cs T) : IsCs K mg (c :: cs) T := by
  obtain ⟨D', h, k⟩ := r.ex
  rw [hT] at h; cases h
  refine ⟨D, hT, fun c' hc' C' hC' => ?_⟩
  rcases List.mem_cons.mp hc' with rfl | hc'
  · rw [hc] at hC'; cases hC'; exact i
  · exact k c' hc' C' hC'
end CM
namespace He
open PySem PySem.Spec PyProof.Rows L2
end He
end
section
set_option Elab.async false
set_option linter.all false
set_option maxRecDepth 100000
set_option autoImplicit false
namespace CM
open PySem PySem.Spec PyProof.Rows L2
structure MkO (K : PySem.W.Frag) (mg : Str → Option Value) (cls : Str) : Prop where
  ex : ∃ C, mg cls = some (.ref C) ∧ Mk00 K C
end CM
end
section
set_option Elab.async false
set_option linter.all false
set_option maxRecDepth 100000
set_option autoImplicit false
namespace CM
open PySem PySem.Spec PyProof.Rows L2 PySem.SeqAt
def bxO (c : C) : Ob := ⟨bxS, [(bxS, .ow c)]⟩
def frC : Res → Option C
  | .fr c => some c
  | _ => none
theorem frC_is {z : Res} {c : C} (h : frC z = some c) : z = .fr c := by
  unfold frC at h
  split at h
  · cases h; rfl
  · cases h
def eBox (a : EF) : EF := fun r => (a r).bind fun p => (frC p.1).bind fun c => some (.sh (bxD p.2.st.length), ⟨p.2.sl, p.2.st ++ [bxO c]⟩)
def eUb (a : EF) : EF := fun r => (a r).bind fun p => (look p.2 p.1).bind fun c => some ((bxOf c).elim p.1 fun n => .fl n bxS, p.2)
def fdO : Fd → Option C
  | .ow c => some c
  | _ => none
def bxAt (st : Store) (n : Nat) : Option C := (fldAt st n bxS).bind fdO
def eMutB (kd : C → Bool) (g : C → List D → Option (Res × C)) (a : EF) (fs : List EF) : EF := fun r => (a r).bind fun p => (look p.2 p.1).bind fun b => (bxOf b).bind fun n => (bxAt p.2.st n).bind fun c0 => if kd c0 = true then
  (eArgs fs p.2).bind fun q => (shares q.2 q.1).bind fun y => (bxAt y.2.st n).bind fun c => (g c y.1).bind fun z => some (z.1, y.2.putF n bxS (.ow z.2)) else none
def sPutBL (a k v : EF) : SF := fun r => (v r).bind fun p => (toSh p.2 p.1).bind fun y => (a y.2).bind fun o => (look o.2 o.1).bind fun b => (bxOf b).bind fun n => (k o.2).bind fun s => (look s.2 s.1).bind fun z => (bxAt s.2.st n).bind fun c => (lSetC c z y.1).bind fun c' => some (.nx, s.2.putF n bxS (.ow c'))
theorem bxAt_is {st : Store} {n : Nat} {c : C} (h : bxAt st n = some c) : fldAt st n bxS = some (.ow c) := by
  unfold bxAt at h
  cases q : fldAt st n bxS with
  | none => rw [q] at h; cases h
  | some d =>
    rw [q] at h
    cases d with
    | d x => cases h
    | lk x => cases h
    | ow x => have h : some x = some c := h; cases h; rfl
theorem fldAt_app {st : Store} {o : Ob} {n : Nat} {f : Str} (h : n < st.length) : fldAt (st ++ [o]) n f = fldAt st n f := by
  unfold fldAt
  rw [List.getElem?_append_left h]
theorem fldAt_new {st : Store} {c : C} : fldAt (st ++ [bxO c]) st.length bxS = some (.ow c) := by
  unfold fldAt
  rw [List.getElem?_append_right (Nat.le_refl _), Nat.sub_self]
  rfl
section
variable {K : KC} {F F' F1 : Fz} {H H' H1 B H0 F0 : Hp} {σ : L2.St} {r r' : Env} {v : V} {c c' : C} {x : D} {p : Addr} {n : Nat}
theorem bxOf_ok (h : Bd K F H v c) (q : bxOf c = some n) : ∃ a, v = .ref a ∧ Bt F a n := by
  unfold bxOf at q
  split at q
  · rename_i m
    have h : Vp K F v (.dict [(.int m, .bool true)]) := h
    cases h with
    | bx t =>
      have q : some (Int.toNat (Int.ofNat _)) = some n := q
      cases q
      exact ⟨_, rfl, t⟩
  · cases q
theorem StOk.lt {st : Store} {H0 : Hp} (s : StOk K H0 F H st) {a : Addr} {u : Tg} {m : Nat} (h : F.t a = some u) (e : u.ix = m) : m < st.length := by rw [← e]; exact s.ix a u h
theorem J.boxed (j : J K B H0 F0 F H σ r) (h : ResOk K H0 F H σ r v (.fr c)) : ∃ F', FEx F F' ∧ J K B H0 F0 F' H σ ⟨r.sl, r.st ++ [bxO c]⟩ ∧ Vp K F' v (bxD r.st.length) := by
  obtain ⟨p, rfl, h0, hf, ht, od, hn⟩ := h
  have ne : ∀ {a u}, F.t a = some u → a ≠ p := fun {a u} e z => by rw [z, ht] at e; cases e
  have old : ∀ {a u}, F.t a = some u → (F.tag p (.fld r.st.length bxS)).t a = some u := fun {a u} e => by rw [Fz.tag_ne (ne e)]; exact e
  have back : ∀ {a u}, (F.tag p (.fld r.st.length bxS)).t a = some u → (a = p ∧ u = .fld r.st.length bxS) ∨ (a ≠ p ∧ F.t a = some u) := fun {a u} e => by
    by_cases y : a = p
    · subst y; rw [Fz.tag_at] at e; exact .inl ⟨rfl, (Option.some.inj e).symm⟩
    · rw [Fz.tag_ne y] at e; exact .inr ⟨y, e⟩
  have fe : FEx F (F.tag p (.fld r.st.length bxS)) := ⟨⟨.refl _, fun a m e => old e, fun a m e => e.imp old old⟩, fun a m f => ⟨old, fun e => by
    rcases back e with ⟨_, z⟩ | ⟨_, z⟩
    · cases z
    · exact z⟩⟩
  have stl : ∀ {m}, m < r.st.length → (r.st ++ [bxO c])[m]? = r.st[m]? := fun h => List.getElem?_append_left h
  refine ⟨_, fe, ⟨j.eb, j.e0, j.ef, j.fh, j.nw, ⟨fun q m e => ?_, fun a b u ha hb => ?_, fun a u ha => ?_, fun a u ha => ?_, fun a m g ha => ?_, fun a m g ha => ?_, fun a m g c' ha hc => ?_, fun a m g c' ha hc => ?_, fun a q m hb hq => ?_, fun a m ha => ?_⟩, j.len, fun i s w => ?_, j.dj⟩, .bx (.inl Fz.tag_at)⟩
  · rcases back e with ⟨_, z⟩ | ⟨_, z⟩
    · cases z
    · obtain ⟨o, a, C, dx, es, b1, b2, b3, b4, b5⟩ := j.so.ob q m z
      exact ⟨o, (stl (m := m) (j.so.lt z rfl)).trans a, C, dx, es, b1, b2, old b3, b4.up fe (fun _ _ e => ⟨old e, fun _ w => w⟩) (fun _ _ _ _ w => w), b5⟩
  · rcases back ha with ⟨rfl, z⟩ | ⟨y, z⟩
    · rcases back hb with ⟨rfl, _⟩ | ⟨_, w⟩
      · rfl
      · subst z; exact absurd (j.so.ix _ _ w) (Nat.lt_irrefl _)
    · rcases back hb with ⟨rfl, w⟩ | ⟨_, w⟩
      · subst w; exact absurd (j.so.ix _ _ z) (Nat.lt_irrefl _)
      · exact j.so.inj _ _ _ z w
  · rcases back ha with ⟨rfl, z⟩ | ⟨y, z⟩
    · exact ⟨hf, od.ne, .inl h0⟩
    · exact j.so.sep _ _ z
  · rw [List.length_append]
    rcases back ha with ⟨rfl, z⟩ | ⟨y, z⟩
    · subst z; exact Nat.lt_succ_self _
    · exact Nat.lt_succ_of_lt (j.so.ix _ _ z)
  · rcases back ha with ⟨rfl, z⟩ | ⟨y, z⟩
    · cases z; exact ⟨c, fldAt_new⟩
    · obtain ⟨c', w⟩ := j.so.tf _ _ _ z
      exact ⟨c', (fldAt_app (n := m) (j.so.lt z rfl)).trans w⟩
  · rcases back ha with ⟨rfl, z⟩ | ⟨y, z⟩
    · cases z
    · obtain ⟨c', w⟩ := j.so.tl _ _ _ z
      exact ⟨c', (fldAt_app (n := m) (j.so.lt z rfl)).trans w⟩
  · rcases back ha with ⟨rfl, z⟩ | ⟨y, z⟩
    · cases z
      have hc := fldAt_new.symm.trans hc
      cases hc
      exact od.up fe fun _ w => w
    · have hc := (fldAt_app (n := m) (j.so.lt z rfl)).symm.trans hc
      exact (j.so.od _ _ _ _ z hc).up fe fun _ w => w
  · rcases back ha with ⟨rfl, z⟩ | ⟨y, z⟩
    · cases z
    · have hc := (fldAt_app (n := m) (j.so.lt z rfl)).symm.trans hc
      exact (j.so.odr _ _ _ _ z hc).up fe fun _ w => w
  · rcases back hq with ⟨_, z⟩ | ⟨_, z⟩
    · cases z
    · have hm := j.so.ix _ _ z
      have g : ∀ {u}, (F.tag p (.fld r.st.length bxS)).t a = some u → u.ix = m → F.t a = some u := fun {u} e hu => by
        rcases back e with ⟨_, w⟩ | ⟨_, w⟩
        · subst w
          have hm : m < r.st.length := hm
          have hu : r.st.length = m := hu
          omega
        · exact w
      exact j.so.bi a q m (hb.imp (fun h => g h rfl) fun h => g h rfl) z
  · rcases back ha with ⟨_, z⟩ | ⟨_, z⟩
    · cases z
    · exact j.so.dn _ _ z
  · have b := j.sl i s w
    cases s with
    | no => trivial
    | sh d => obtain ⟨v, a, b⟩ := b; exact ⟨v, a, Vp.up fe _ _ b⟩
    | bo c => obtain ⟨v, a, b⟩ := b; exact ⟨v, a, b.up fe (.refl _)⟩
    | lk c => obtain ⟨v, a, b⟩ := b; exact ⟨v, a, b.up fe (.refl _)⟩
    | ow c1 =>
      obtain ⟨p2, a, b1, b2, b3, b4⟩ := b
      have n1 : p2 ≠ p := fun z => hn i c1 w (by rw [← z]; exact a)
      exact ⟨p2, a, b1, b2, by rw [Fz.tag_ne n1]; exact b3, b4.up fe fun o e => e⟩
theorem J.inBox (j : J K B H0 F0 F H σ r) (bt : Bt F p n) (h : bxAt r.st n = some c) : F.t p = some (.fld n bxS) ∧ H0 p = none ∧ F.f p = none ∧ Od K F H p c := by
  have h := bxAt_is h
  have t : F.t p = some (.fld n bxS) := bt.elim id fun w => by
    obtain ⟨c', w'⟩ := j.so.tl _ _ _ w
    rw [h] at w'; cases w'
  obtain ⟨a, b, c⟩ := j.so.sep _ _ t
  exact ⟨t, c.elim id (fun ⟨_, _, z⟩ => by cases z), a, j.so.od _ _ _ _ t h⟩
theorem J.chgB (j : J K B H0 F0 F H σ r) (bt : Bt F p n) (h : bxAt r.st n = some c) (g : Chg p F H F' H') (od : Od K F' H' p c') : J K B H0 F0 F' H' σ (r.putF n bxS (.ow c')) := by
  obtain ⟨tp, h0, hf, od0⟩ := j.inBox bt h
  have hp := od0.ne
  have fe : FEx F F' := .of g.f g.t
  have e0' : Ex H0 H' := fun a u w => g.h a u (fun z => by subst z; rw [h0] at w; cases w) (j.e0 _ _ w)
  have nw' : ∀ a o, F'.f a = some o → F0 a = some o ∨ H0 a = none ∨ TupO o := fun a u w => by
    rcases g.nw a u w with z | z | z
    · exact j.nw a u z
    · exact .inr (.inl (j.e0.back z))
    · exact .inr (.inr z)
  have keepF : ∀ a, H a ≠ none → F.f a = none → (∀ u, TupO u → H' a ≠ some u) → F'.f a = none := fun a h1 h2 h3 => by
    cases w : F'.f a with
    | none => rfl
    | some u =>
      rcases g.nw a u w with z | z | z
      · rw [h2] at z; cases z
      · exact absurd z h1
      · exact absurd (g.fh _ _ w) (h3 u z)
  have tagT : ∀ a t, F.t a = some t → ∀ u, TupO u → H' a ≠ some u := fun a t e u i => by
    by_cases y : a = p
    · subst y; exact od.noT i
    · exact j.so.noT' e i fun u w => g.h a u y w
  have ne : ∀ {a : Addr} {u : Tg}, F.t a = some u → u ≠ .fld n bxS → a ≠ p := fun {a u} e z y => by subst y; rw [tp] at e; cases e; exact z rfl
  have nolok : ∀ a, F.t a ≠ some (.lok n bxS) := fun a z => by
    obtain ⟨c', w⟩ := j.so.tl a n bxS z
    rw [bxAt_is h] at w; cases w
  have so : StOk K H0 F' H' (stPut r.st n bxS (.ow c')) := by
    refine j.so.updB (fun a => j.so.bi p a n bt) (j.so.ix _ _ tp) fe (fun a u _ _ => by rw [g.t]) (fun a u e z1 z2 o w => g.h a o (ne e z1) w) (fun a u e hu => ?_) (fun a b u _ e e' => j.so.inj a b u (by rw [← g.t]; exact e) (by rw [← g.t]; exact e')) (fun a u e z1 z2 => ?_)
    · rw [g.t] at e
      rcases hu with z | z
      · subst z
        have := j.so.inj _ _ _ e tp
        subst this
        exact ⟨keepF a hp hf (fun u i => od.noT i), od.ne, .inl h0, fun _ => ⟨c', rfl, od⟩, fun z => by cases z⟩
      · subst z; exact absurd e (nolok a)
    · obtain ⟨a1, a2, _⟩ := j.so.sep a u e
      exact ⟨keepF a a2 a1 (tagT a u e), id⟩
  refine ⟨j.eb, e0', j.ef.trans g.f, g.fh, nw', so, j.len, fun k s w => ?_, j.dj⟩
  have b := j.sl k s w
  cases s with
  | no => trivial
  | sh d => obtain ⟨v, a, b⟩ := b; exact ⟨v, a, Vp.up fe _ _ b⟩
  | bo c => obtain ⟨v, a, b⟩ := b; exact ⟨v, a, b.up fe (.refl _)⟩
  | lk c => obtain ⟨v, a, b⟩ := b; exact ⟨v, a, b.up fe (.refl _)⟩
  | ow c1 =>
    obtain ⟨p2, a, b1, b2, b3, b4⟩ := b
    have z : p2 ≠ p := fun z => by rw [z, tp] at b3; cases b3
    exact ⟨p2, a, b1, keepF p2 b4.ne b2 (fun u i => (b4.up (F' := F') fe fun o w => g.h _ _ z w).noT i), by rw [g.t]; exact b3, b4.up fe fun o w => g.h _ _ z w⟩
end
section
variable {X : Cx} {e e1 e2 e0 : Expr} {es : List Expr} {fa fb fc f0 : EF} {fs : List EF} {qb q0 q1 : Bool} {pos apos cpos npos : Pos} {T id : String} {name : Str} {kd : C → Bool} {g : C → List D → Option (Res × C)}
theorem de_box (he : DE X qb e fa) : DE X false e (eBox fa) := by
  obtain ⟨t, a1, a2⟩ := he.ex
  refine ⟨t, a1, fun B H0 F0 F H σ r z r' q j Q k => ?_⟩
  simp only [eBox, Option.bind_eq_some_iff] at q
  obtain ⟨⟨z1, r1⟩, q1, c, q2, q3⟩ := q
  cases q3
  cases frC_is q2
  refine a2 _ _ _ _ _ _ _ _ _ q1 j _ fun F1 H1 v e1 j1 k1 => ?_
  obtain ⟨F2, e2, j2, d⟩ := j1.boxed k1
  exact k F2 H1 v ⟨e1.f.trans e2, e1.k, fun z => by cases z⟩ j2 d
theorem de_ub (he : DE X qb e fa) : DE X qb e (eUb fa) := by
  obtain ⟨t, a1, a2⟩ := he.ex
  refine ⟨t, a1, fun B H0 F0 F H σ r z r' q j Q k => ?_⟩
  simp only [eUb, Option.bind_eq_some_iff] at q
  obtain ⟨⟨z1, r1⟩, q1, c, q2, q3⟩ := q
  cases q3
  refine a2 _ _ _ _ _ _ _ _ _ q1 j _ fun F1 H1 v e1 j1 k1 => k F1 H1 v e1 j1 ?_
  cases w : bxOf c with
  | none => exact k1
  | some n =>
    obtain ⟨a, rfl, bt⟩ := bxOf_ok (k1.look j1 q2) w
    exact .inr ⟨a, rfl, rfl, bt⟩
theorem de_mutB (dm : DMut X T name id kd g) (h0 : DE X q0 e0 f0) (ha : DA X qb (e :: es) fs)
    (hbase : attributeBase e0 name X.env (eval e0 X.env) = eval e0 X.env := by rfl)
    (hfew : ((backTo cpos (starEach (e :: es) X.env)).all (fun x => !x.1) && (backToKw cpos (keywordEach [] X.env)).all (fun x => x.1.isSome)
      && decide ((e :: es).length + ([] : List Keyword).length + (if ([] : List Keyword).isEmpty then 0 else 1) < 30)) = true := by rfl)
    (hline : (apos.endLine == cpos.line) = true := by rfl) (hs : starEach (e :: es) X.env = (false, eval e X.env) :: starEach es X.env := by rfl) (hplain : (backTo cpos (starEach es X.env)).any (·.1) = false := by rfl) :
    DE X false (.Call (.Attribute e0 name apos) (e :: es) [] cpos) (eMutB kd g f0 fs) := by
  obtain ⟨pa, sl, hty, o, mt, ty, op⟩ := dm.ex
  obtain ⟨t, a1, a2⟩ := ha.ex
  obtain ⟨t0, b1, b2⟩ := h0.ex
  refine ⟨_, pe_bm pa sl hty mt b1 a1 hbase hfew hline hs hplain, fun B H0 F0 F H σ r z r' q j Q k => ?_⟩
  simp only [eMutB, Option.bind_eq_some_iff] at q
  obtain ⟨⟨z0, r0⟩, p0, b, p1, n, p2, c0, p3, q⟩ := q
  split at q
  · rename_i hk
    simp only [Option.bind_eq_some_iff] at q
    obtain ⟨⟨zs, r1⟩, q1, ⟨ys, r2⟩, q2, c, q3, ⟨z1, c'⟩, q4, q5⟩ := q
    cases q5
    refine b2 _ _ _ _ _ _ _ _ _ p0 j _ fun F1 H1 v e1 j1 k1 => ?_
    obtain ⟨a, rfl, bt⟩ := bxOf_ok (k1.look j1 p1) p2
    obtain ⟨_, _, _, od⟩ := j1.inBox bt p3
    refine ⟨ty F1 H1 a c0 hk od, ?_⟩
    refine a2 _ _ _ _ _ _ _ _ _ q1 j1 _ fun F2 H2 vs e2 j2 k2 => ?_
    obtain ⟨F3, e3, j3, d3⟩ := shares_ok q2 j2 k2
    have bt3 := e3.f.b _ _ (e2.f.b _ _ bt)
    obtain ⟨_, _, f3, od3⟩ := j3.inBox bt3 q3
    refine op F3 H2 a c c' vs ys z1 j3.fh j3.tagged f3 od3 d3 q4 Q fun F4 H4 v ch od4 hz => ?_
    obtain ⟨y, rfl, vy⟩ := hz
    exact k F4 H4 v (((e1.trans e2).trans e3).trans (ch.ge (r := r2) (r' := r2.putF n bxS (.ow c')) fun _ _ _ h => h)).weak (j3.chgB bt3 q3 ch od4) vy
  · cases q
theorem ds_putBL {pos' : Pos} (h0 : DE X q0 e0 f0) (hk : DE X q1 e1 fb) (he : DE X qb e fa)
    (ha : ∀ v, assign (.Subscript e0 e1 pos') X.env v = (do
      let ov ← holding [v] (eval e0 X.env)
      let iv ← holding [v, ov] (eval e1 X.env)
      standAt pos'
      holding [v, ov, iv] (setItem ov iv v)
      release [v, ov, iv] []) := by intro _; rfl)
    (hs : swapsWithSole [.Subscript e0 e1 pos'] e pos.line X.env = pure false := by rfl) (hw : swappedStores [.Subscript e0 e1 pos'] e X.env = pure none := by rfl)
    (h1 : (assignEach [.Subscript e0 e1 pos'] X.env).map (·.2) = [assign (.Subscript e0 e1 pos') X.env] := by rfl) : DS X (.Assign [.Subscript e0 e1 pos'] e pos) (sPutBL f0 fb fa) := by
  obtain ⟨t, a1, a2⟩ := he.ex
  obtain ⟨u, b1, b2⟩ := hk.ex
  obtain ⟨t0, c1, c2⟩ := h0.ex
  refine ⟨_, ps_asg a1 (pg_sub c1 b1 set_list ha) hs hw h1, fun B H0 F0 F H σ r fl r' q j D a => ?_⟩
  simp only [sPutBL, Option.bind_eq_some_iff] at q
  obtain ⟨⟨z1, r1⟩, q1, ⟨y, r2⟩, q2, ⟨zo, ro⟩, q3, b, q4, n, q5, ⟨z2, r3⟩, q6, kk, q7, c, q8, c', q9, q10⟩ := q
  cases q10
  refine a2 _ _ _ _ _ _ _ _ _ q1 j _ fun F1 H1 v g1 j1 k1 => ?_
  obtain ⟨F2, g2, j2, d2⟩ := toSh_ok q2 j1 k1
  refine c2 _ _ _ _ _ _ _ _ _ q3 j2 _ fun Fo Ho vo go jo ko => ?_
  obtain ⟨p, rfl, bt⟩ := bxOf_ok (ko.look jo q4) q5
  refine b2 _ _ _ _ _ _ _ _ _ q6 jo _ fun F3 H3 w g3 j3 k3 => ?_
  have d4 := k3.look j3 q7
  have bt3 := g3.f.b _ _ bt
  obtain ⟨_, _, f4, od4⟩ := j3.inBox bt3 q8
  unfold lSetC at q9
  split at q9
  · rename_i xs jj
    simp only [Option.bind_eq_some_iff] at q9
    obtain ⟨m, q7, q9⟩ := q9
    cases q9
    obtain ⟨vs, hx, dd⟩ := od4
    have h2 : Vp X.kc F3 w (.int jj) := d4
    cases h2
    have od : Od X.kc F3 (upd H3 p (.lst (vs.set m v))) p (.d (.list (xs.set m y))) := ⟨_, upd_same, VpAll.set (Vp.up (go.f.trans g3.f) _ _ d2) m dd⟩
    have ch : Chg p F3 H3 F3 (upd H3 p (.lst (vs.set m v))) := .at j3.fh f4
    refine ⟨p, vs, jj, m, rfl, rfl, hx, by rw [VpAll.length dd, ← plc_eq]; exact q7, ?_⟩
    have ge : Ge false F H r F3 (upd H3 p (.lst (vs.set m v))) (r3.putF n bxS (.ow (.d (.list (xs.set m y))))) := (((g1.trans g2).trans go).trans g3).trans (ch.ge (r := r3) (r' := r3.putF n bxS (.ow (.d (.list (xs.set m y))))) fun _ _ _ h => h) |>.weak
    exact a F3 _ σ ge.f ge.kp (j3.chgB bt3 q8 ch od)
  · cases q9
end
@[simp] theorem ev_box (a : EF) (r : Env) : eBox a r = (a r).bind fun p => (frC p.1).bind fun c => some (.sh (bxD p.2.st.length), ⟨p.2.sl, p.2.st ++ [bxO c]⟩) := rfl
@[simp] theorem frC_fr (c : C) : frC (.fr c) = some c := rfl
@[simp] theorem ev_ub (a : EF) (r : Env) : eUb a r = (a r).bind fun p => (look p.2 p.1).bind fun c => some ((bxOf c).elim p.1 fun n => .fl n bxS, p.2) := rfl
@[simp] theorem bxOf_bx (n : Nat) : bxOf (.d (bxD n)) = some n := rfl
@[simp] theorem bxOf_l (xs : List D) : bxOf (.d (.list xs)) = none := rfl
@[simp] theorem bxOf_t (xs : List D) : bxOf (.d (.tuple xs)) = none := rfl
@[simp] theorem bxOf_k (xs : List (Ky × D)) : bxOf (.dk xs) = none := rfl
@[simp] theorem bxOf_kt (xs : List (List Ky × D)) : bxOf (.dt xs) = none := rfl
@[simp] theorem ev_mutB (kd : C → Bool) (g : C → List D → Option (Res × C)) (a : EF) (fs : List EF) (r : Env) : eMutB kd g a fs r = (a r).bind fun p => (look p.2 p.1).bind fun b => (bxOf b).bind fun n => (bxAt p.2.st n).bind fun c0 => if kd c0 = true then
  (eArgs fs p.2).bind fun q => (shares q.2 q.1).bind fun y => (bxAt y.2.st n).bind fun c => (g c y.1).bind fun z => some (z.1, y.2.putF n bxS (.ow z.2)) else none := rfl
@[simp] theorem ev_putBL (a k v : EF) (r : Env) : sPutBL a k v r = (v r).bind fun p => (toSh p.2 p.1).bind fun y => (a y.2).bind fun o => (look o.2 o.1).bind fun b => (bxOf b).bind fun n => (k o.2).bind fun s => (look s.2 s.1).bind fun z => (bxAt s.2.st n).bind fun c => (lSetC c z y.1).bind fun c' => some (.nx, s.2.putF n bxS (.ow c')) := rfl
theorem bxAt_fld {st : Store} {n : Nat} {c : C} (h : bxAt st n = some c) : fldAt st n bxS = some (.ow c) := bxAt_is h
theorem bxAt_lt {st : Store} {n : Nat} {c : C} (h : bxAt st n = some c) : n < st.length := by
  have h := bxAt_is h
  unfold fldAt at h
  rcases Nat.lt_or_ge n st.length with w | w
  · exact w
  · rw [List.getElem?_eq_none_iff.mpr w] at h; cases h
theorem bxAt_new {st : Store} {c : C} : bxAt (st ++ [bxO c]) st.length = some c := by unfold bxAt; rw [fldAt_new]; rfl
theorem bxAt_app {st : Store} {o : Ob} {n : Nat} (h : n < st.length) : bxAt (st ++ [o]) n = bxAt st n := by unfold bxAt; rw [fldAt_app h]
def bxPut (st : Store) (n : Nat) (c : C) : Store := stPut st n bxS (.ow c)
theorem bxPut_at {st : Store} {n m : Nat} {c : C} (h : n < st.length) : bxAt (bxPut st n c) m = if n = m then some c else bxAt st m := by
  unfold bxAt bxPut
  rw [fldAt_put h]
  by_cases z : n = m
  · rw [if_pos ⟨z, rfl⟩, if_pos z]; rfl
  · rw [if_neg (fun w => z w.1), if_neg z]
theorem bxPut_len {st : Store} {n : Nat} {c : C} : (bxPut st n c).length = st.length := stPut_len
@[simp] theorem ev_putB (sl : List Slot) (st : Store) (n : Nat) (c : C) : Env.putF ⟨sl, st⟩ n bxS (.ow c) = ⟨sl, bxPut st n c⟩ := rfl
end CM
end
section
set_option Elab.async false
set_option linter.all false
set_option maxRecDepth 100000
set_option autoImplicit false
namespace CM
open PySem PySem.Spec PyProof.Rows L2 PySem.SeqAt
section
variable {X : Cx} {e e0 : Expr} {es : List Expr} {fa f0 : EF} {qb : Bool} {apos cpos : Pos}
end
end CM
end
section
set_option Elab.async false
set_option linter.all false
set_option maxRecDepth 100000
set_option autoImplicit false
namespace CM
open PySem PySem.Spec PyProof.Rows L2
section
variable {K : KC} {F F' F1 : Fz} {H H' H1 B H0 F0 : Hp} {σ : L2.St} {r r' : Env} {v : V} {c : C} {x : D} {p : Addr} {s : Slot} {ds : List D} {n : Nat}
theorem Grow.tup {q : Addr} {xs : List V} (e : Ex F.f H) (h : H q = some (.tup xs)) (n : F.f q = none) : Grow F H (F.put q (.tup xs)) H := ⟨.new n, rfl, .refl _, fun a u w => by
  by_cases z : a = q
  · subst z
    rw [show (F.put a (.tup xs)).f = upd F.f a (.tup xs) from rfl, upd_same] at w
    cases w; exact h
  · rw [show (F.put q (.tup xs)).f = upd F.f q (.tup xs) from rfl, upd_ne z] at w
    exact e _ _ w, fun a u w => by
  by_cases z : a = q
  · subst z
    rw [show (F.put a (.tup xs)).f = upd F.f a (.tup xs) from rfl, upd_same] at w
    cases w; exact .inr (.inr ⟨_, rfl⟩)
  · rw [show (F.put q (.tup xs)).f = upd F.f q (.tup xs) from rfl, upd_ne z] at w
    exact .inl w⟩
end
section
variable {X : Cx} {tg e : Expr}
end
theorem DE.sub {X : Cx} {q : Bool} {e : Expr} {f g : EF} (h : DE X q e f) (k : ∀ r y, g r = some y → f r = some y) : DE X q e g := by
  obtain ⟨td, a, b⟩ := h.ex
  exact ⟨td, a, fun B H0 F0 F H σ r z r' w => b B H0 F0 F H σ r z r' (k _ _ w)⟩
section
variable {K : KC} {F F' F1 : Fz} {H H' H1 B H0 F0 : Hp} {σ : L2.St} {r r' : Env} {v : V} {c : C} {x : D} {p : Addr} {s : Slot} {ds : List D} {n : Nat}
end
end CM
end
section
set_option Elab.async false
set_option linter.all false
set_option maxRecDepth 100000
set_option autoImplicit false
namespace CM
open PySem PySem.Spec PyProof.Rows L2
end CM
end
section
set_option Elab.async false
set_option linter.all false
set_option maxRecDepth 100000
set_option autoImplicit false
namespace CM
open PySem PySem.Spec PyProof.Rows L2
def gListKT : List C → Option Res
  | [.dt kvs] => if (kvs.all fun e => !e.1.isEmpty) = true then some (.fr (.d (.list (kvs.map fun e => .tuple (e.1.map kD))))) else none
  | _ => none
@[simp] theorem gListKT_dt (kvs : List (List Ky × D)) (h : (kvs.all fun e => !e.1.isEmpty) = true) : gListKT [.dt kvs] = some (.fr (.d (.list (kvs.map fun e => .tuple (e.1.map kD))))) := if_pos h
end CM
end
section
set_option Elab.async false
set_option linter.all false
set_option maxRecDepth 100000
set_option autoImplicit false
namespace CM
open PySem PySem.Spec PyProof.Rows L2
end CM
end
section
set_option Elab.async false
set_option linter.all false
set_option maxRecDepth 100000
set_option autoImplicit false
namespace CM
open PySem PySem.Spec PyProof.Rows L2
end CM
end
section
set_option Elab.async false
set_option linter.all false
set_option maxRecDepth 100000
set_option autoImplicit false
namespace CM
open PySem PySem.Spec PyProof.Rows L2
structure RootC (K : PySem.W.Frag) (mg : Str → Option Value) (x s : Str) (i : Int) : Prop where
  ex : ∃ a, mg x = some (.ref a) ∧ ∀ H, Dp K H (.ref a) (.tuple [.str s, .int i])
@[simp] theorem cGet_any (kvs : List (List Ky × D)) (h : Str) (n : Int) : cGet (.dt kvs) (.tuple [.str h, .int n]) = some (aGet kvs (nmK h n)) := rfl
end CM
end
section
set_option Elab.async false
set_option linter.all false
set_option maxRecDepth 100000
set_option autoImplicit false
namespace CM
open PySem PySem.Spec PyProof.Rows L2 PySem.SeqAt PySem.W
section
variable {β : Type}
variable {prog : Program} {w : World} {A : Around} {s : Shared} {E : Value → Shared → Prop}
end
end CM
end
section
set_option Elab.async false
set_option linter.all false
set_option maxRecDepth 100000
set_option autoImplicit false
namespace CM
open PySem PySem.Spec PyProof.Rows L2 PySem.SeqAt
section
variable {X : Cx}
variable {e : Expr} {fa : EF} {qb : Bool} {p pos apos cpos : Pos}
end
end CM
end
section
set_option Elab.async false
set_option linter.all false
set_option maxRecDepth 100000
set_option autoImplicit false
namespace CM
open PySem PySem.Spec PyProof.Rows L2
section
variable {X : Cx} {e e1 : Expr} {fa fx : EF} {q1 : Bool}
end
end CM
end
section
set_option Elab.async false
set_option linter.all false
set_option maxRecDepth 100000
set_option autoImplicit false
namespace CM
open PySem PySem.Spec PyProof.Rows L2 PySem.SeqAt PySem.W PySem.Calls
section
variable {X : Cx}
variable {e : Expr} {fa : EF} {qb : Bool} {p pos apos cpos : Pos}
end
end CM
end
section
set_option Elab.async false
set_option linter.all false
set_option maxRecDepth 100000
set_option autoImplicit false
namespace CM
open PySem PySem.Spec PyProof.Rows L2
section
variable {X : Cx}
end
end CM
end
section
set_option Elab.async false
set_option linter.all false
set_option maxRecDepth 100000
set_option autoImplicit false
namespace CM
open PySem PySem.Spec PyProof.Rows L2
section
variable {X : Cx}
end
end CM
end
section
set_option Elab.async false
set_option linter.all false
set_option maxRecDepth 100000
set_option autoImplicit false
namespace CM
open PySem PySem.Spec PyProof.Rows L2
section
variable {X : Cx}
variable {K : KC} {F : Fz} {H B H0 F0 : Hp} {σ : L2.St} {r : Env}
variable {q1 q2 : Bool} {ta tb : TE} {fa fb : EF}
variable {e : Expr} {qb : Bool}
end
end CM
end
section
set_option Elab.async false
set_option linter.all false
set_option maxRecDepth 100000
set_option autoImplicit false
namespace CM
open PySem PySem.Spec PyProof.Rows L2
end CM
end
section
set_option Elab.async false
set_option linter.all false
set_option maxRecDepth 100000
set_option autoImplicit false
namespace CM
open PySem PySem.Spec PyProof.Rows L2
section
variable {P : Program} {w : World} {K : PySem.W.Frag} {tg : Expr} {d : Addr} {o : Obj} {es : Array DictEntry} {ep : Nat}
end
section
variable {X : Cx} {tg e : Expr} {td : TE} {apos cpos : Pos}
end
end CM
end
section
set_option Elab.async false
set_option linter.all false
set_option maxRecDepth 100000
set_option autoImplicit false
namespace CM
open PySem PySem.Spec PyProof.Rows L2
end CM
end
section
set_option Elab.async false
set_option linter.all false
set_option maxRecDepth 100000
set_option autoImplicit false
namespace CM
open PySem PySem.Spec PyProof.Rows L2
abbrev NmAt (P : Program) (w : World) (h : Heap) (k : List Key) (a : Addr) : Prop := IsTupleKey (mixKind P w) h k a
def nmHash (P : Program) (w : World) (k : List Key) : Int := tupleKeyHash (mixKind P w) k
abbrev NmRow := Addr × List Key
def nmEnt (P : Program) (w : World) (p : NmRow) : Int × Value := (nmHash P w p.2, .ref p.1)
abbrev nmHs (P : Program) (w : World) (L : List NmRow) : List Int := L.map fun p => nmHash P w p.2
structure NmTab (P : Program) (w : World) (L : List NmRow) (o : Obj) (ea : Array (Int × Value)) (n : Nat) (t : SetTable) : Prop where
  ex : o.ExactSet
  da : o.data = .set ea n t
  rows : ea.toList = L.map (nmEnt P w)
  tab : TabOk t (nmHs P w L)
  led : w.params.followText "set-order" = true ∨ t.led = true
  room : L.length * 5 < t.mask * 3
structure NmSet (P : Program) (w : World) (h : Heap) (a : Addr) (L : List NmRow) : Prop where
  own : ∃ o ea n t, h.get? a = some o ∧ NmTab P w L o ea n t
  nd : (L.map (·.2)).Nodup
  tup : ∀ p ∈ L, NmAt P w h p.2 p.1
  few : L.length < 64
section
variable {P : Program} {w : World} {A : Around} {E : Value → Shared → Prop} {s : Shared} {h h' : Heap} {a : Addr} {L : List NmRow} {o : Obj} {ea : Array (Int × Value)} {n : Nat} {t : SetTable} {x : Addr} {k : List Key}
theorem NmTab.size (T : NmTab P w L o ea n t) : ea.size = L.length := by rw [← Array.length_toList, T.rows, List.length_map]
theorem NmTab.fits (T : NmTab P w L o ea n t) : t.fits ea.size = true := by
  have a1 := T.tab.sz
  have a2 := T.size
  have a3 := T.room
  rw [List.length_map] at a1
  unfold SetTable.fits SetTable.fill
  rw [T.tab.dm, Bool.and_eq_true, beq_iff_eq, decide_eq_true_eq]
  change t.place.size = ea.size ∧ t.place.size + 0 ≤ t.mask
  omega
theorem NmTab.at (T : NmTab P w L o ea n t) {i : Nat} {p : NmRow} (e : L[i]? = some p) : ea[i]? = some (nmEnt P w p) := by
  rw [← Array.getElem?_toList, T.rows, List.getElem?_map, e]; rfl
theorem NmAt.same (hk : NmAt P w h k x) {u : Obj} {eu : Array (Int × Value)} {nu : Nat} {tu : SetTable} (ho : h.get? a = some u) (hd : u.data = .set eu nu tu) (sb : Heap.SameBut a h h') : NmAt P w h' k x := by
  obtain ⟨o', its, m, e1, e2, e3, e4⟩ := hk
  refine ⟨o', its, m, (sb.2 x fun z => ?_).trans e1, e2, e3, e4⟩
  subst z
  rw [ho] at e1
  cases e1
  rw [hd] at e3
  cases e3
theorem NmAt.keep (hk : NmAt P w h k x) (kp : ∀ o, h.get? x = some o → h'.get? x = some o) : NmAt P w h' k x := by
  obtain ⟨o', its, m, e1, r⟩ := hk
  exact ⟨o', its, m, kp _ e1, r⟩
end
end CM
end
section
set_option Elab.async false
set_option linter.all false
set_option maxRecDepth 100000
set_option autoImplicit false
namespace CM
open PySem PySem.Spec PyProof.Rows L2
section
variable {P : Program} {w : World}
theorem NmSet.keep {h h' : Heap} {a : Addr} {L : List NmRow} (R : NmSet P w h a L) (ka : ∀ o, h.get? a = some o → h'.get? a = some o) (kt : ∀ p ∈ L, ∀ o, h.get? p.1 = some o → h'.get? p.1 = some o) : NmSet P w h' a L := by
  obtain ⟨⟨o, ea, n, t, ho, T⟩, nd, tup, few⟩ := R
  exact ⟨⟨o, ea, n, t, ka _ ho, T⟩, nd, fun p hp => (tup p hp).keep (kt p hp), few⟩
end
section
variable {X : Cx} {e : Expr} {fa : EF} {qb : Bool} {p p2 q pos : Pos} {ta : TE}
end
end CM
end
section
set_option Elab.async false
set_option linter.all false
set_option maxRecDepth 100000
set_option autoImplicit false
namespace CM
open PySem PySem.Spec PyProof.Rows L2
section
variable {K : KC} {F : Fz} {H B H0 F0 : Hp} {σ : L2.St} {r : Env}
variable {q1 q2 : Bool} {ta tb : TE} {fa fb : EF}
end
section
variable {X : Cx} {a b : Expr} {pos : Pos} {q1 q2 : Bool} {fa fb : EF}
theorem dt_cmpF {op : CmpOp} {g : C → C → Option Res} (ho : DOp X (compareOp op) g) (ha : DE X q1 a fa) (hb : DE X true b fb) (hm : behindInMarks op b = false := by rfl) : DT X (.Compare a [op] [b] pos) (tE (eOpF g fa fb)) := by
  obtain ⟨o, h1, h2⟩ := ho.ex
  obtain ⟨ta, a1, a2⟩ := ha.ex
  obtain ⟨tb, b1, b2⟩ := hb.ex
  exact ⟨_, pt_cmpR h1 a1 b1 hm, rt_test (re_opF h2 a2 b2)⟩
end
end CM
end
section
set_option Elab.async false
set_option linter.all false
set_option maxRecDepth 100000
set_option autoImplicit false
namespace CM
open PySem PySem.Spec PyProof.Rows L2
section
variable {X : Cx}
end
end CM
end
section
set_option Elab.async false
set_option linter.all false
set_option maxRecDepth 100000
set_option autoImplicit false
namespace CM
open PySem PySem.Spec PyProof.Rows L2
end CM
end
section
set_option Elab.async false
set_option linter.all false
set_option maxRecDepth 100000
set_option autoImplicit false
namespace CM
open PySem PySem.Spec PyProof.Rows L2
section
variable {X : Cx} {es : List Expr} {fs : List EF} {pos : Pos} {q1 : Bool}
end
end CM
end
section
set_option Elab.async false
set_option linter.all false
set_option maxRecDepth 100000
set_option autoImplicit false
namespace CM
open PySem PySem.Spec PyProof.Rows L2 RT
section
variable {X : Cx} {tg : Expr}
end
section
variable {X : Cx} {tg e : Expr} {fa : EF} {q1 : Bool} {p pos : Pos}
end
end CM
end
section
set_option Elab.async false
set_option linter.all false
set_option maxRecDepth 100000
set_option autoImplicit false
namespace CM
open PySem PySem.Spec PyProof.Rows L2
section
variable {X : L2.Cx}
end
end CM
end
section
set_option Elab.async false
set_option linter.all false
set_option maxRecDepth 100000
set_option autoImplicit false
namespace CM
open PySem PySem.Spec PyProof.Rows L2 PySem.SeqAt PySem.W PySem.Calls
section
variable {X : Cx}
variable {e : Expr} {fa : EF} {qb : Bool} {p pos apos cpos : Pos}
end
end CM
end
section
set_option Elab.async false
set_option linter.all false
set_option maxRecDepth 100000
set_option autoImplicit false
namespace CM
open PySem PySem.Spec PyProof.Rows L2
section
variable {X : Cx} {e e1 e2 : Expr} {fa fb fc : EF} {qb : Bool} {pos apos cpos npos : Pos}
end
end CM
end
section
set_option Elab.async false
set_option linter.all false
set_option maxRecDepth 100000
set_option autoImplicit false
namespace CM
open PySem PySem.Spec PyProof.Rows L2 PySem.SeqAt
structure CoS where
  x : Str
  e : Expr
inductive DispT (X : Cx) (pos : Pos) : List (Option Expr) → List Expr → List (Str × Str) → Prop
  | nil : DispT X pos [] [] []
  | cons {a b : Str} {j1 j2 : Nat} {p1 p2 : Pos} {ks : List (Option Expr)} {vs : List Expr} {l : List (Str × Str)} : DispT X pos ks vs l → DispT X pos (some (.Constant (.str a) j1 p1) :: ks) (.Constant (.str b) j2 p2 :: vs) ((a, b) :: l)
theorem DispT.all {X : Cx} {pos : Pos} {ks : List (Option Expr)} {vs : List Expr} {l : List (Str × Str)} (h : DispT X pos ks vs l) : ks.all (·.isSome) = true ∧ ks.length = vs.length ∧ ks.length = l.length := by
  induction h with
  | nil => exact ⟨rfl, rfl, rfl⟩
  | cons t ih =>
    obtain ⟨a, b, c⟩ := ih
    refine ⟨by rw [List.all_cons, a]; rfl, by rw [List.length_cons, List.length_cons, b], by rw [List.length_cons, List.length_cons, c]⟩
end CM
end
section
set_option Elab.async false
set_option linter.all false
set_option maxRecDepth 100000
set_option autoImplicit false
namespace CM
open PySem PySem.Spec PyProof PyProof.Rows L2 PySem.SeqAt
theorem paired_get {α β : Type} {F : α → β → Prop} {xs : List α} {ys : List β} (h : Paired F xs ys) (i : Nat) : (xs[i]? = none ∧ ys[i]? = none) ∨ ∃ a b, xs[i]? = some a ∧ ys[i]? = some b ∧ F a b := by
  induction h generalizing i with
  | nil => exact .inl ⟨rfl, rfl⟩
  | cons h t ih =>
    cases i with
    | zero => exact .inr ⟨_, _, rfl, rfl, h⟩
    | succ i => simpa using ih i
end CM
end
section
set_option Elab.async false
set_option linter.all false
set_option maxRecDepth 100000
set_option autoImplicit false
namespace PySem
open Sem (wp)
section
variable {prog : Program} {w : World} {A : Around} {E : Value → Shared → Prop} {s : Shared}
end
end PySem
namespace CM
open PySem PySem.Spec PyProof PyProof.Rows L2 PySem.SeqAt
section
variable {X : Cx}
end
end CM
end
section
set_option Elab.async false
set_option linter.all false
set_option maxRecDepth 100000
set_option autoImplicit false
namespace L2
open PySem
end L2
namespace CM
open PySem PySem.Spec PyProof PyProof.Rows L2 PySem.SeqAt
section
variable {X : Cx}
end
end CM
end
section
set_option Elab.async false
set_option linter.all false
set_option maxRecDepth 100000
set_option autoImplicit false
namespace CM
open PySem PySem.Spec PyProof.Rows L2 PySem.SeqAt PySem.W PySem.Calls
section
variable {prog : Program} {w : World} {A : Around} {E : Value → Shared → Prop} {s : Shared} {r d : Addr} {es : Array DictEntry} {ep : Nat}
end
section
variable {X : Cx}
variable {e : Expr} {fa : EF} {qb : Bool} {p pos apos cpos : Pos}
end
end CM
end
section
set_option Elab.async false
set_option linter.all false
set_option maxRecDepth 100000
set_option autoImplicit false
namespace CM
open PySem PySem.Spec PyProof.Rows PySem.SeqAt PySem.W PySem.Calls
section
variable {K : Type} [DecidableEq K]
variable {prog : Program} {w : World} {knd : HeapKind prog w K} {A : Around} {E : Value → Shared → Prop} {s : Shared}
end
open L2
section
variable {X : Cx}
end
end CM
end
section
set_option Elab.async false
set_option linter.all false
set_option maxRecDepth 100000
set_option autoImplicit false
namespace CM
open PySem PySem.Spec PyProof.Rows L2 PySem.SeqAt
mutual
def nkD : D → Option NestedKey
  | .none => some .none
  | .int i => some (.num i)
  | .str x => some (.text x)
  | .tuple ds => (nksD ds).bind fun ks => some (.tup ks)
  | .bool _ => none
  | .list _ => none
  | .dict _ => none
def nksD : List D → Option (List NestedKey)
  | [] => some []
  | d :: ds => (nkD d).bind fun k => (nksD ds).bind fun ks => some (k :: ks)
end
mutual
theorem nkD_data : ∀ (d : D) (k : NestedKey), nkD d = some k → k.data = d
  | .none, _, h => by unfold nkD at h; cases h; rfl
  | .int i, _, h => by unfold nkD at h; cases h; rfl
  | .str x, _, h => by unfold nkD at h; cases h; rfl
  | .tuple ds, _, h => by
    unfold nkD at h
    simp only [Option.bind_eq_some_iff] at h
    obtain ⟨ks, h1, h2⟩ := h
    cases h2
    show PyData.tuple (NestedKey.datas ks) = _
    rw [nksD_datas ds ks h1]
  | .bool _, _, h => by unfold nkD at h; cases h
  | .list _, _, h => by unfold nkD at h; cases h
  | .dict _, _, h => by unfold nkD at h; cases h
theorem nksD_datas : ∀ (ds : List D) (ks : List NestedKey), nksD ds = some ks → NestedKey.datas ks = ds
  | [], _, h => by unfold nksD at h; cases h; rfl
  | d :: ds, _, h => by
    unfold nksD at h
    simp only [Option.bind_eq_some_iff] at h
    obtain ⟨k, h1, ks, h2, h3⟩ := h
    cases h3
    show NestedKey.data k :: NestedKey.datas ks = _
    rw [nkD_data d k h1, nksD_datas ds ks h2]
end
mutual
theorem nkD_of : ∀ (k : NestedKey), nkD k.data = some k
  | .none => rfl
  | .num i => rfl
  | .text x => rfl
  | .tup ks => by
    show nkD (.tuple (NestedKey.datas ks)) = _
    unfold nkD
    rw [nksD_of ks]
    rfl
theorem nksD_of : ∀ (ks : List NestedKey), nksD (NestedKey.datas ks) = some ks
  | [] => rfl
  | k :: ks => by
    show nksD (NestedKey.data k :: NestedKey.datas ks) = _
    unfold nksD
    rw [nkD_of k, nksD_of ks]
    rfl
end
def nkOf (d : D) : Option NestedKey := (nkD d).bind fun k => if (nkT k && decide (k.depth ≤ 8)) = true then some k else none
theorem nkOf_ok {d : D} {k : NestedKey} (h : nkOf d = some k) : k.data = d ∧ nkT k = true ∧ k.depth ≤ 8 ∧ nkD d = some k := by
  unfold nkOf at h
  simp only [Option.bind_eq_some_iff] at h
  obtain ⟨k', h1, h2⟩ := h
  split at h2
  · rename_i c
    cases h2
    rw [Bool.and_eq_true] at c
    exact ⟨nkD_data _ _ h1, c.1, of_decide_eq_true c.2, h1⟩
  · cases h2
section
variable {X : Cx} {pins : List (Addr × Obj)} {σ : L2.St} {H : Hp} {s : Shared} {F : Fz} {a : Addr}
mutual
theorem nk_is (I : Inv X pins σ H s) (e : Ex F.f H) : ∀ (d : D) (v : V) (u : Value) (k : NestedKey), Vp X.kc F v d → RelV v u → nkD d = some k → NestedIs s.heap k u
  | .none, _, _, _, h, r, q => by
    cases h; cases r
    unfold nkD at q; cases q; exact .none
  | .int i, _, _, _, h, r, q => by
    cases h
    obtain ⟨t, rfl⟩ := r
    unfold nkD at q; cases q; exact .int i t
  | .str x, _, _, _, h, r, q => by
    cases h
    obtain ⟨t, rfl⟩ := r
    unfold nkD at q; cases q; exact .text x t
  | .tuple ds, _, _, _, h, r, q => by
    cases h with
    | tup hs ha =>
      cases r
      unfold nkD at q
      simp only [Option.bind_eq_some_iff] at q
      obtain ⟨ks, q1, q2⟩ := q
      cases q2
      obtain ⟨its, rv, ⟨o, ho, hc, n, hd⟩, _⟩ := I.tuple (e.t hs.sq)
      exact .tup ho hc hd (by simpa using nk_all I e ds _ its ks ha rv q1)
  | .bool _, _, _, _, _, _, q => by unfold nkD at q; cases q
  | .list _, _, _, _, _, _, q => by unfold nkD at q; cases q
  | .dict _, _, _, _, _, _, q => by unfold nkD at q; cases q
theorem nk_all (I : Inv X pins σ H s) (e : Ex F.f H) : ∀ (ds : List D) (vs : List V) (us : List Value) (ks : List NestedKey), VpAll X.kc F vs ds → Vals vs us → nksD ds = some ks → NestedAll s.heap ks us
  | [], _, _, _, h, r, q => by
    cases h; cases r
    unfold nksD at q; cases q; exact .nil
  | d :: ds, _, _, _, h, r, q => by
    cases h with
    | cons h1 h2 =>
      cases r with
      | cons r1 r2 =>
        unfold nksD at q
        simp only [Option.bind_eq_some_iff] at q
        obtain ⟨k, q1, ks, q2, q3⟩ := q
        cases q3
        exact .cons (nk_is I e d _ _ k h1 r1 q1) (nk_all I e ds _ _ ks h2 r2 q2)
end
theorem nk_key (I : Inv X pins σ H s) (e : Ex F.f H) {d : D} {v : V} {u : Value} {k : NestedKey} (h : Vp X.kc F v d) (r : RelV v u) (q : nkOf d = some k) : ∃ b, v = .ref b ∧ u = .ref b ∧ (nestedKind X.prog X.w).is s.heap k b := by
  obtain ⟨z1, z2, z3, z4⟩ := nkOf_ok q
  have n := nk_is I e d v u k h r z4
  cases n with
  | tup h1 h2 h3 h4 =>
    rename_i b o vs m ks
    have : v = .ref b := by
      cases v <;> first | (cases r; rfl) | (obtain ⟨_, z⟩ := r; cases z) | cases r
    exact ⟨b, this, rfl, .tup h1 h2 h3 h4, z3⟩
  | none => cases z2
  | bool _ => cases z2
  | int _ _ => cases z2
  | text _ _ => cases z2
abbrev NT (es : List (NestedKey × Addr × V)) (xs : List (NestedKey × Addr × Value)) : Prop :=
  Paired (fun (e : NestedKey × Addr × V) (x : NestedKey × Addr × Value) => e.1 = x.1 ∧ e.2.1 = x.2.1 ∧ RelV e.2.2 x.2.2) es xs
theorem dn_of {es : List (NestedKey × Addr × V)} {kvs : List (NestedKey × D)} (I : Inv X pins σ H s) (e : Ex F.f H) (h : Rd H a (dnO X.w a es)) (kv : NVs X.kc F es kvs) :
    es.length ≤ sizeLine ∧ (a == sysModules) = false ∧ ∃ xs, NT es xs ∧ s.heap.DictOfH (nestedKind X.prog X.w) a xs := by
  obtain ⟨⟨z, y, xs, r, o, des, ep, h1, h2, h3, h4, h5⟩, _⟩ := (show ObjOk X.prog X.w H s.heap a (dnO X.w a es) from h.ok I.hok)
  refine ⟨z, y, xs, r, o, des, ep, h1, h2, h3, ?_, fun x hx => ?_, h5⟩
  · rw [h4]
    exact List.map_congr_left fun x _ => rfl
  · have all : ∀ {l : List (NestedKey × Addr × V)} {m : List (NestedKey × Addr × Value)} {kvs : List (NestedKey × D)}, NT l m → NVs X.kc F l kvs → ∀ x ∈ m, (nestedKind X.prog X.w).is s.heap x.1 x.2.1 := by
      intro l m kvs q
      induction q generalizing kvs with
      | nil => intro _ x hx; exact nomatch hx
      | @cons p q ps qs hq t ih =>
        intro kv x hx
        cases kv with
        | @cons _ p' _ ps' g t' =>
          rcases List.mem_cons.mp hx with e' | hx
          · subst e'
            obtain ⟨g1, g2, g3, g4, g5⟩ := g
            have k : nkOf p'.1.data = some p'.1 := by
              unfold nkOf
              rw [nkD_of, Option.bind_some, if_pos (by rw [g4, decide_eq_true g3]; rfl)]
            obtain ⟨b, e1, e2, is⟩ := nk_key I e g2 (u := .ref p.2.1) rfl k
            cases e1
            rw [← hq.1, g1, ← hq.2.1]
            exact is
          · exact ih t' x hx
    exact all r kv x hx
end
def nAt (es : List (NestedKey × Addr × V)) (k : NestedKey) : Option V := (es.find? fun e => decide (e.1 = k)).map (·.2.2)
theorem nAt_pos {e : NestedKey × Addr × V} {r : List (NestedKey × Addr × V)} {k : NestedKey} (h : e.1 = k) : nAt (e :: r) k = some e.2.2 := by simp [nAt, List.find?_cons, h]
theorem nAt_neg {e : NestedKey × Addr × V} {r : List (NestedKey × Addr × V)} {k : NestedKey} (h : ¬ e.1 = k) : nAt (e :: r) k = nAt r k := by simp [nAt, List.find?_cons, h]
theorem NT.val {es : List (NestedKey × Addr × V)} {xs : List (NestedKey × Addr × Value)} (r : NT es xs) (k : NestedKey) : RelO (nAt es k) ((atKey xs k).map (·.2)) := by
  induction r with
  | nil => exact True.intro
  | @cons p q ps qs h t ih =>
    obtain ⟨h1, _, h2⟩ := h
    by_cases e : p.1 = k
    · have e' : q.1 = k := h1.symm.trans e
      have b : atKey (q :: qs) k = some q.2 := by simp [atKey, List.find?_cons, e']
      rw [nAt_pos e, b]; exact h2
    · have e' : ¬ q.1 = k := fun z => e (h1.trans z)
      have b : atKey (q :: qs) k = atKey qs k := by simp [atKey, List.find?_cons, e']
      rw [nAt_neg e, b]; exact ih
theorem NVs.get {K : KC} {F : Fz} {es : List (NestedKey × Addr × V)} {kvs : List (NestedKey × D)} (h : NVs K F es kvs) (k : NestedKey) : (aGet kvs k = none ∧ nAt es k = none) ∨ ∃ d v, aGet kvs k = some d ∧ nAt es k = some v ∧ Vp K F v d := by
  induction h with
  | nil => exact .inl ⟨rfl, rfl⟩
  | @cons e q es qs h t ih =>
    obtain ⟨h1, _, _, _, h2⟩ := h
    by_cases z : e.1 = k
    · exact .inr ⟨q.2, e.2.2, aGet_pos (h1.symm.trans z), nAt_pos z, h2⟩
    · rw [aGet_neg (fun w => z (h1.trans w)), nAt_neg z]
      exact ih
section
variable {X : Cx} {pins : List (Addr × Obj)} {σ : L2.St} {H : Hp} {s : Shared} {F : Fz} {A : Around} {E : Value → Shared → Prop}
end
end CM
end
section
set_option Elab.async false
set_option linter.all false
set_option maxRecDepth 100000
set_option autoImplicit false
namespace CM
open PySem PySem.Spec PyProof.Rows L2 PySem.SeqAt
abbrev NEs := List (NestedKey × Addr × V)
def putN (es : NEs) (k : NestedKey) (b : Addr) (v : V) : NEs :=
  if (es.any fun e => decide (e.1 = k)) = true then es.map (fun e => if e.1 = k then (e.1, e.2.1, v) else e) else es ++ [(k, b, v)]
def dropN (es : NEs) (k : NestedKey) : NEs := es.filter fun e => decide (e.1 ≠ k)
theorem NT.any {es : NEs} {xs : List (NestedKey × Addr × Value)} (h : NT es xs) (k : NestedKey) : (es.any fun e => decide (e.1 = k)) = (atKey xs k).isSome := by
  induction h with
  | nil => rfl
  | @cons p q ps qs h t ih =>
    by_cases e : p.1 = k
    · have e' : q.1 = k := h.1.symm.trans e
      simp [atKey, List.find?_cons, e', e]
    · have e' : ¬ q.1 = k := fun z => e (h.1.trans z)
      have b : atKey (q :: qs) k = atKey qs k := by simp [atKey, List.find?_cons, e']
      rw [List.any_cons, b, ← ih, decide_eq_false e, Bool.false_or]
theorem NT.put {es : NEs} {xs : List (NestedKey × Addr × Value)} (r : NT es xs) (k : NestedKey) {b : Addr} {y : V} {u : Value} (ry : RelV y u) : NT (putN es k b y) (storedH xs k b u) := by
  unfold putN storedH
  rw [r.any k]
  by_cases q : (atKey xs k).isSome = true
  · rw [if_pos q, if_pos q]
    clear q
    induction r with
    | nil => exact .nil
    | @cons p q ps qs h t ih =>
      rw [List.map_cons, List.map_cons]
      refine .cons ?_ ih
      obtain ⟨h1, h2, h3⟩ := h
      unfold putAt
      by_cases e : p.1 = k
      · rw [if_pos e, if_pos (h1.symm.trans e)]; exact ⟨h1, h2, ry⟩
      · rw [if_neg e, if_neg (fun z => e (h1.trans z))]; exact ⟨h1, h2, h3⟩
  · rw [if_neg q, if_neg q]
    exact Paired.snoc r ⟨rfl, rfl, ry⟩
theorem NT.drop {es : NEs} {xs : List (NestedKey × Addr × Value)} (r : NT es xs) (k : NestedKey) : NT (dropN es k) (withoutH xs k) := by
  unfold dropN withoutH
  induction r with
  | nil => exact .nil
  | @cons e q es qs h t ih =>
    by_cases z : e.1 = k
    · rw [List.filter_cons_of_neg (by simpa using z), List.filter_cons_of_neg (by simpa using h.1.symm.trans z)]
      exact ih
    · rw [List.filter_cons_of_pos (by simpa using z), List.filter_cons_of_pos (by simpa using fun w => z (h.1.trans w))]
      exact .cons h ih
section
variable {K : KC} {F : Fz}
theorem NVs.any {es : NEs} {kvs : List (NestedKey × D)} (h : NVs K F es kvs) (k : NestedKey) : (es.any fun e => decide (e.1 = k)) = kvs.any fun e => decide (e.1 = k) := by
  induction h with
  | nil => rfl
  | @cons e q es qs h t ih =>
    rw [List.any_cons, List.any_cons, ih, h.1]
theorem NVs.put {es : NEs} {kvs : List (NestedKey × D)} (h : NVs K F es kvs) {k : NestedKey} {b : Addr} {v : V} {d : D} (kb : Vp K F (.ref b) k.data) (kd : k.depth ≤ 8) (kt : nkT k = true) (g : Vp K F v d) : NVs K F (putN es k b v) (aPut kvs k d) := by
  unfold putN aPut
  rw [h.any k]
  split
  · rename_i w
    clear w
    induction h with
    | nil => exact .nil
    | @cons e q es qs h t ih =>
      rw [List.map_cons, List.map_cons]
      refine .cons ?_ ih
      obtain ⟨h1, h2, h3, h4, h5⟩ := h
      by_cases z : e.1 = k
      · rw [if_pos z, if_pos (h1.symm.trans z)]; exact ⟨h1, h2, h3, h4, g⟩
      · rw [if_neg z, if_neg (fun w => z (h1.trans w))]; exact ⟨h1, h2, h3, h4, h5⟩
  · exact Paired.snoc h ⟨rfl, kb, kd, kt, g⟩
theorem NVs.drop {es : NEs} {kvs : List (NestedKey × D)} (h : NVs K F es kvs) (k : NestedKey) : NVs K F (dropN es k) (aDrop kvs k) := by
  unfold dropN aDrop
  induction h with
  | nil => exact .nil
  | @cons e q es qs h t ih =>
    by_cases z : e.1 = k
    · rw [List.filter_cons_of_neg (by simpa using z), List.filter_cons_of_neg (by simpa using h.1.symm.trans z)]
      exact ih
    · rw [List.filter_cons_of_pos (by simpa using z), List.filter_cons_of_pos (by simpa using fun w => z (h.1.trans w))]
      exact .cons h ih
theorem NVs.length {es : NEs} {kvs : List (NestedKey × D)} (h : NVs K F es kvs) : es.length = kvs.length := Paired.length h
end
section
variable {X : Cx} {e e1 e2 : Expr} {fa fb fc : EF} {qb : Bool} {pos apos cpos npos : Pos}
section
variable {pins : List (Addr × Obj)} {σ : L2.St} {H : Hp} {s : Shared} {a : Addr} {y v : V} {u r : Value} {E : Value → Shared → Prop}
end
end
section
variable {X : Cx}
end
end CM
end
section
set_option Elab.async false
set_option linter.all false
set_option maxRecDepth 100000
set_option autoImplicit false
namespace DT
open PySem PySem.W PySem.Calls PyProof.Rows PyProof.V PySem.Spec
section
variable {prog : Program} {w : World} {A : Around} {E : Value → Shared → Prop} {s : Shared}
end
end DT
namespace CM
open PySem PySem.Spec PyProof.Rows L2
section
variable {P : Program} {w : World} {K : PySem.W.Frag} {d : Addr} {o : Obj} {ds : Array DictEntry} {ep : Nat}
end
section
variable {X : Cx} {e : Expr} {td : TE} {apos cpos tpos : Pos} {x : Str}
end
end CM
end
section
set_option Elab.async false
set_option linter.all false
set_option maxRecDepth 100000
set_option autoImplicit false
namespace CM
open PySem PySem.Spec PyProof.Rows L2 PySem.SeqAt PySem.W PySem.Calls
section
variable {X : Cx} {pins : List (Addr × Obj)} {σ : L2.St} {H : Hp} {s : Shared} {a : Addr} {F : Fz}
end
section
variable {X : Cx}
variable {e : Expr} {fa : EF} {qb : Bool} {p pos apos cpos : Pos}
@[simp] theorem ev_asDN (x : List (NestedKey × D)) : argSlot false (.dn x) = some (.bo (.dn x)) := rfl
@[simp] theorem bxOf_kn (xs : List (NestedKey × D)) : bxOf (.dn xs) = none := rfl
end
end CM
end
section
set_option Elab.async false
set_option linter.all false
set_option maxRecDepth 100000
set_option autoImplicit false
namespace CM
open PySem PySem.Spec PyProof.Rows L2 PySem.SeqAt PySem.W PySem.Calls
section
variable {X : Cx}
def NGet (X : Cx) (H : Hp) (a : Addr) (y : V) (r : Option V) : Prop := ∃ (F : Fz) (es : NEs) (kvs : List (NestedKey × D)) (kd : D) (k : NestedKey), Ex F.f H ∧ Rd H a (dnO X.w a es) ∧ NVs X.kc F es kvs ∧ Vp X.kc F y kd ∧ nkOf kd = some k ∧ r = nAt es k
theorem NGet.at {pins : List (Addr × Obj)} {σ : L2.St} {H : Hp} {s : Shared} {a : Addr} {y : V} {u : Value} {r : Option V} (I : Inv X pins σ H s) (g : NGet X H a y r) (ry : RelV y u) :
    ∃ kb k xs, u = .ref kb ∧ (a == sysModules) = false ∧ (nestedKind X.prog X.w).is s.heap k kb ∧ s.heap.DictOfH (nestedKind X.prog X.w) a xs ∧ xs.length ≤ sizeLine ∧ RelO r ((atKey xs k).map (·.2)) := by
  obtain ⟨F, es, kvs, kd, k, e, rd, kv, py, hk, rfl⟩ := g
  obtain ⟨b, e1, rfl, is⟩ := nk_key I e py ry hk
  obtain ⟨z, hd, xs, nt, dd⟩ := dn_of I e rd kv
  exact ⟨b, k, xs, rfl, hd, is, dd, by rw [← Paired.length nt]; exact z, nt.val k⟩
variable {e e1 e2 : Expr} {fa fb fc : EF} {qb : Bool} {apos cpos : Pos}
end
end CM
end
section
set_option Elab.async false
set_option linter.all false
set_option maxRecDepth 100000
set_option autoImplicit false
namespace PySem
open Sem (wp)
section
variable {prog : Program} {w : World} {A : Around} {E : Value → Shared → Prop} {s : Shared}
end
end PySem
namespace CM
open PySem PySem.Spec PyProof.Rows L2 PySem.SeqAt PySem.W PySem.Calls
section
variable {X : Cx}
end
end CM
end
section
set_option Elab.async false
set_option linter.all false
set_option maxRecDepth 100000
set_option autoImplicit false
namespace CM
open PySem PySem.Spec PyProof.Rows L2 PySem.SeqAt PySem.W PySem.Calls
section
variable {X : Cx}
end
end CM
end
section
set_option Elab.async false
set_option linter.all false
set_option maxRecDepth 100000
set_option autoImplicit false
namespace CM
open PySem PySem.Spec PyProof.Rows L2 PySem.SeqAt PySem.W PySem.Calls
section
variable {X : Cx} {pos : Pos} {q1 : Bool} {i k : Nat} {x y : Str} {a b : Expr} {px py pt : Pos} {kt k2 : Nat} {pt2 : Pos} {fs : List EF}
end
end CM
end
section

end
section
set_option Elab.async false
set_option linter.all false
set_option maxRecDepth 100000
set_option maxHeartbeats 0
set_option autoImplicit false
namespace CML
open PySem PySem.Spec PyProof.Rows L2 CM
def topS (i : Nat) : Stmt := PySem.Challenge.pw_copymeet_k46_whole_texts_apart.main.body.getD i (.Pass ⟨0, 0, 0, 0⟩)
def clsS (i j : Nat) : Stmt := match topS i with
  | .ClassDef _ _ _ b _ _ _ _ _ _ _ => b.getD j (.Pass ⟨0, 0, 0, 0⟩)
  | s => s
def str1 : Str := "abcdefghijklmnopqrstuvwxyz"
structure TX (mg : Str → Option Value) : Prop where
  len : mg "len" = none
  list : mg "list" = none
  range : mg "range" = none
  set : mg "set" = none
  sorted : mg "sorted" = none
  tuple : mg "tuple" = none
  zip : mg "zip" = none
section
variable {P : Program} {w : World} {K : PySem.W.Frag} {mg : Str → Option Value} {base : Heap}
abbrev s__law_hands : Stmt := topS 24
abbrev N__law_hands : List Str := ["_law_cell", "_law_size", "_law_at", "_law_found", "_law_k", "_law_letter"]
theorem sc__law_hands : FnScope N__law_hands ["_law_cell"] (defScope s__law_hands) := ⟨rfl, rfl, rfl, by decide +kernel, rfl, by decide +kernel, by decide +kernel⟩
abbrev m__law_hands : List Bool := [false]
def l1__law_hands : SF :=
  (sSeq (sSet 5 ((eOp gIx (eC (.str str1)) ((eOp gMod ((eOp gAdd ((eOp gDiv (eVar 0) (eC (.int 64)))) ((eOp gMul (eVar 4) ((eOp gAdd (eC (.int 1)) ((eOp gMod ((eOp gDiv (eVar 0) (eC (.int 3)))) (eC (.int 8)))))))))) (eC (.int 26)))))))
  (sDrop ((eMut isLst gApp (.sl 3) [(eOp gAdd ((eOp gAdd ((eOp gMul (eC (.str "k")) (eVar 2))) (eVar 5))) ((eOp gMul (eC (.str "k")) ((eOp gSub ((eOp gSub (eVar 1) (eC (.int 1)))) (eVar 2))))))]))))
def b__law_hands : SF :=
  (sSeq (sSet 1 ((eOp gAdd (eC (.int 1)) ((eOp gMod (eVar 0) (eC (.int 8)))))))
  (sSeq (sSet 2 ((eOp gMod ((eOp gDiv (eVar 0) (eC (.int 8)))) (eVar 1))))
  (sSeq (sSet 3 ((eLst [])))
  (sSeq (sFor (.v 4) (iRg [eC (.int 3)]) l1__law_hands)
  (sRet (eVar 3))))))
def d__law_hands : DF := dDef 6 m__law_hands b__law_hands
theorem ok__law_hands {f : Addr} {fd : FuncData} (T : TX mg)  (F : FnP K "_law_hands" "_law_hands" s__law_hands f fd) : FnOk P w K mg base CX0 1 f fd ["_law_cell"] (spD ⟨K, mg, w⟩ m__law_hands d__law_hands) := by
  refine fn_denD F sc__law_hands rfl fun cdv A outer s H E hr => ?_
  exact (dss_cons (ds_set (i := 1) sc__law_hands.nd rfl (Or.inl rfl) ((de_op dop_add (de_int) ((de_op dop_mod (de_var 0) (de_int))))))
  (dss_cons (ds_set (i := 2) sc__law_hands.nd rfl (Or.inl rfl) ((de_op dop_mod ((de_op dop_div (de_var 0) (de_int))) (de_var 1))))
  (dss_cons (ds_set (i := 3) sc__law_hands.nd rfl (Or.inl rfl) ((de_lst da_nil)))
  (dss_cons (ds_for PassesOwn.never rfl (di_rg1 (by rfl) T.range (de_int)) (dg_name sc__law_hands.nd rfl (Or.inl rfl)) (dss_cons (ds_set (i := 5) sc__law_hands.nd rfl (Or.inl rfl) ((de_ix dix (de_str) ((de_op dop_mod ((de_op dop_add ((de_op dop_div (de_var 0) (de_int))) ((de_op dop_mul (de_var 4) ((de_op dop_add (de_int) ((de_op dop_mod ((de_op dop_div (de_var 0) (de_int))) (de_int))))))))) (de_int))))))
  (dss_one (ds_expr ((de_mutS 3 dm_append rfl (by first | exact Or.inl rfl | exact Or.inr (Or.inl rfl) | exact Or.inr (Or.inr rfl)) (da_cons ((de_op dop_add ((de_op dop_add ((de_op dop_mul (de_str) (de_var 2))) (de_var 5))) ((de_op dop_mul (de_str) ((de_op dop_sub ((de_op dop_sub (de_var 1) (de_int))) (de_var 2))))))) da_nil)))))))
  (dss_one (ds_ret (de_var 3)))))))
theorem df__law_hands {f : Addr} {fd : FuncData} (T : TX mg)  (F : FnP K "_law_hands" "_law_hands" s__law_hands f fd) (hm : mg "_law_hands" = some (.ref f)) : Df P w K mg base 1 "_law_hands" m__law_hands d__law_hands :=
  ⟨f, fd, _, ok__law_hands T  F, hm, F.kp, FunD.bindsN F fun _ _ _ _ _ _ us hl => match us, hl with | [_], _ => rfl⟩
abbrev s_Signs_rows : Stmt := clsS 19 4
abbrev N_Signs_rows : List Str := ["self"]
theorem sc_Signs_rows : FnScope N_Signs_rows ["self"] (defScope s_Signs_rows) := ⟨rfl, rfl, rfl, by decide +kernel, rfl, by decide +kernel, by decide +kernel⟩
abbrev m_Signs_rows : List Bool := [false]
def b_Signs_rows : SF :=
  (sRet ((eUn (fun c => gList [c]) ((eFld ["Signs"] "kept" (eVar 0))))))
def d_Signs_rows : DF := dDef 1 m_Signs_rows b_Signs_rows
theorem ok_Signs_rows {f : Addr} {fd : FuncData} (T : TX mg) (C_Signs_kept : ∀ c ∈ (["Signs"] : List Str), ∀ C, mg c = some (.ref C) → Cls K C ∧ NoAttr K C "kept") (F : FnP K "rows" "Signs.rows" s_Signs_rows f fd) : FnOk P w K mg base CX0 1 f fd ["self"] (spD ⟨K, mg, w⟩ m_Signs_rows d_Signs_rows) := by
  refine fn_denD F sc_Signs_rows rfl fun cdv A outer s H E hr => ?_
  exact (dss_one (ds_ret ((de_ty1 dcl_list (by rfl) T.list (by decide +kernel) ((de_fld ⟨C_Signs_kept, by decide⟩ (de_var 0)))))))
abbrev s_Mark_row : Stmt := clsS 16 3
abbrev N_Mark_row : List Str := ["self"]
theorem sc_Mark_row : FnScope N_Mark_row ["self"] (defScope s_Mark_row) := ⟨rfl, rfl, rfl, by decide +kernel, rfl, by decide +kernel, by decide +kernel⟩
abbrev m_Mark_row : List Bool := [false]
def b_Mark_row : SF :=
  (sRet ((eTup [(eFld ["Mark"] "name" (eVar 0)), (eFld ["Mark"] "first" (eVar 0)), (eFld ["Mark"] "last" (eVar 0)), (eFld ["Mark"] "word" (eVar 0)), (eUn (fun c => gList [c]) ((eFld ["Mark"] "holes" (eVar 0))))])))
def d_Mark_row : DF := dDef 1 m_Mark_row b_Mark_row
theorem ok_Mark_row {f : Addr} {fd : FuncData} (T : TX mg) (C_Mark_name : ∀ c ∈ (["Mark"] : List Str), ∀ C, mg c = some (.ref C) → Cls K C ∧ NoAttr K C "name") (C_Mark_first : ∀ c ∈ (["Mark"] : List Str), ∀ C, mg c = some (.ref C) → Cls K C ∧ NoAttr K C "first") (C_Mark_last : ∀ c ∈ (["Mark"] : List Str), ∀ C, mg c = some (.ref C) → Cls K C ∧ NoAttr K C "last") (C_Mark_word : ∀ c ∈ (["Mark"] : List Str), ∀ C, mg c = some (.ref C) → Cls K C ∧ NoAttr K C "word") (C_Mark_holes : ∀ c ∈ (["Mark"] : List Str), ∀ C, mg c = some (.ref C) → Cls K C ∧ NoAttr K C "holes") (F : FnP K "row" "Mark.row" s_Mark_row f fd) : FnOk P w K mg base CX0 1 f fd ["self"] (spD ⟨K, mg, w⟩ m_Mark_row d_Mark_row) := by
  refine fn_denD F sc_Mark_row rfl fun cdv A outer s H E hr => ?_
  exact (dss_one (ds_ret ((de_tup (da_cons ((de_fld ⟨C_Mark_name, by decide⟩ (de_var 0))) (da_cons ((de_fld ⟨C_Mark_first, by decide⟩ (de_var 0))) (da_cons ((de_fld ⟨C_Mark_last, by decide⟩ (de_var 0))) (da_cons ((de_fld ⟨C_Mark_word, by decide⟩ (de_var 0))) (da_cons ((de_ty1 dcl_list (by rfl) T.list (by decide +kernel) ((de_fld ⟨C_Mark_holes, by decide⟩ (de_var 0))))) da_nil)))))))))
abbrev tb_Mark_row : List (Str × DF) := [("Mark", d_Mark_row)]
abbrev s_Marks_rows : Stmt := clsS 17 4
abbrev N_Marks_rows : List Str := ["self", "one"]
theorem sc_Marks_rows : FnScope N_Marks_rows ["self"] (defScope s_Marks_rows) := ⟨rfl, rfl, rfl, by decide +kernel, rfl, by decide +kernel, by decide +kernel⟩
abbrev m_Marks_rows : List Bool := [false]
def ce1_Marks_rows : EF :=
  (eMeth "row" tb_Mark_row [] (eVar 1) [])
def b_Marks_rows : SF :=
  (sRet ((eLc [1] (.v 1) (iSeq ((eFld ["Marks"] "kept" (eVar 0)))) (tYesD) (ce1_Marks_rows))))
def d_Marks_rows : DF := dDef 2 m_Marks_rows b_Marks_rows
theorem ok_Marks_rows {f : Addr} {fd : FuncData} (T : TX mg) (C_Marks_kept : ∀ c ∈ (["Marks"] : List Str), ∀ C, mg c = some (.ref C) → Cls K C ∧ NoAttr K C "kept") (M_Mark_row : Mf P w K mg base 1 "row" [] tb_Mark_row) (F : FnP K "rows" "Marks.rows" s_Marks_rows f fd) : FnOk P w K mg base CX0 2 f fd ["self"] (spD ⟨K, mg, w⟩ m_Marks_rows d_Marks_rows) := by
  refine fn_denD F sc_Marks_rows rfl fun cdv A outer s H E hr => ?_
  exact (dss_one (ds_ret ((de_lc (own := [("one", 1)]) rfl sc_Marks_rows.nd (di_seq ((de_fld ⟨C_Marks_kept, by decide⟩ (de_var 0)))) (blkOk_by (sc := defScope s_Marks_rows) (own := [("one", 1)]) (N := N_Marks_rows) (by decide +kernel)) (fun _ _ _ _ _ => (dg_name sc_Marks_rows.nd rfl (Or.inl rfl))) (fun _ _ _ _ _ => dts_nil) (fun _ _ _ _ _ => (de_meth0 M_Mark_row (hr.mono (by decide)) (de_var 1))) (by decide)))))
abbrev tb_Signs_rows : List (Str × DF) := [("Signs", d_Signs_rows)]
abbrev tb_Marks_rows : List (Str × DF) := [("Marks", d_Marks_rows)]
abbrev s_Text_content : Stmt := clsS 21 3
abbrev N_Text_content : List Str := ["self"]
theorem sc_Text_content : FnScope N_Text_content ["self"] (defScope s_Text_content) := ⟨rfl, rfl, rfl, by decide +kernel, rfl, by decide +kernel, by decide +kernel⟩
abbrev m_Text_content : List Bool := [false]
def b_Text_content : SF :=
  (sRet ((eTup [(eMeth "rows" tb_Signs_rows [] ((eFld ["Text"] "signs" (eVar 0))) []), (eMeth "rows" tb_Marks_rows [] ((eFld ["Text"] "marks" (eVar 0))) [])])))
def d_Text_content : DF := dDef 1 m_Text_content b_Text_content
theorem ok_Text_content {f : Addr} {fd : FuncData} (T : TX mg) (C_Text_signs : ∀ c ∈ (["Text"] : List Str), ∀ C, mg c = some (.ref C) → Cls K C ∧ NoAttr K C "signs") (C_Text_marks : ∀ c ∈ (["Text"] : List Str), ∀ C, mg c = some (.ref C) → Cls K C ∧ NoAttr K C "marks") (M_Signs_rows : Mf P w K mg base 1 "rows" [] tb_Signs_rows) (M_Marks_rows : Mf P w K mg base 2 "rows" [] tb_Marks_rows) (F : FnP K "content" "Text.content" s_Text_content f fd) : FnOk P w K mg base CX0 3 f fd ["self"] (spD ⟨K, mg, w⟩ m_Text_content d_Text_content) := by
  refine fn_denD F sc_Text_content rfl fun cdv A outer s H E hr => ?_
  exact (dss_one (ds_ret ((de_tup (da_cons ((de_meth0 M_Signs_rows (hr.mono (by decide)) ((de_fld ⟨C_Text_signs, by decide⟩ (de_var 0))))) (da_cons ((de_meth0 M_Marks_rows (hr.mono (by decide)) ((de_fld ⟨C_Text_marks, by decide⟩ (de_var 0))))) da_nil))))))
abbrev tb_Text_content : List (Str × DF) := [("Text", d_Text_content)]
abbrev s__law_marks : Stmt := topS 33
abbrev N__law_marks : List Str := ["_law_text", "_law_rows", "_law_name_here", "_law_first", "_law_last", "_law_word", "_law_holes"]
theorem sc__law_marks : FnScope N__law_marks ["_law_text"] (defScope s__law_marks) := ⟨rfl, rfl, rfl, by decide +kernel, rfl, by decide +kernel, by decide +kernel⟩
abbrev m__law_marks : List Bool := [false]
def ce1__law_marks : EF :=
  (eTup [eVar 2, eVar 3, eVar 4, eVar 5, (eUn (fun c => gSorted [c]) (eVar 6))])
def b__law_marks : SF :=
  (sSeq (sSet 1 ((eOp gIx ((eMeth "content" tb_Text_content [] (eVar 0) [])) (eC (.int 1)))))
  (sRet ((eUn (fun c => gSorted [c]) ((eLc [2, 3, 4, 5, 6] (.t [2, 3, 4, 5, 6]) (iSeq (eVar 1)) (tYesD) (ce1__law_marks)))))))
def d__law_marks : DF := dDef 7 m__law_marks b__law_marks
theorem ok__law_marks {f : Addr} {fd : FuncData} (T : TX mg) (M_Text_content : Mf P w K mg base 3 "content" [] tb_Text_content) (F : FnP K "_law_marks" "_law_marks" s__law_marks f fd) : FnOk P w K mg base CX0 4 f fd ["_law_text"] (spD ⟨K, mg, w⟩ m__law_marks d__law_marks) := by
  refine fn_denD F sc__law_marks rfl fun cdv A outer s H E hr => ?_
  exact (dss_cons (ds_set (i := 1) sc__law_marks.nd rfl (Or.inl rfl) ((de_ix dix ((de_meth0 M_Text_content (hr.mono (by decide)) (de_var 0))) (de_int))))
  (dss_one (ds_ret ((de_bi1 (dcl_sorted hr.units) (by rfl) T.sorted (by decide +kernel) ((de_lc (own := [("_law_name_here", 2), ("_law_first", 3), ("_law_last", 4), ("_law_word", 5), ("_law_holes", 6)]) rfl sc__law_marks.nd (di_seq (de_var 1)) (blkOk_by (sc := defScope s__law_marks) (own := [("_law_name_here", 2), ("_law_first", 3), ("_law_last", 4), ("_law_word", 5), ("_law_holes", 6)]) (N := N__law_marks) (by decide +kernel)) (fun _ _ _ _ _ => (dg_tup rfl (dgs_cons sc__law_marks.nd rfl (Or.inl rfl) (dgs_cons sc__law_marks.nd rfl (Or.inl rfl) (dgs_cons sc__law_marks.nd rfl (Or.inl rfl) (dgs_cons sc__law_marks.nd rfl (Or.inl rfl) (dgs_cons sc__law_marks.nd rfl (Or.inl rfl) dgs_nil))))))) (fun _ _ _ _ _ => dts_nil) (fun _ _ _ _ _ => (de_tup (da_cons (de_var 2) (da_cons (de_var 3) (da_cons (de_var 4) (da_cons (de_var 5) (da_cons ((de_bi1 (dcl_sorted hr.units) (by rfl) T.sorted (by decide +kernel) (de_var 6))) da_nil))))))) (by decide))))))))
theorem df__law_marks {f : Addr} {fd : FuncData} (T : TX mg) (M_Text_content : Mf P w K mg base 3 "content" [] tb_Text_content) (F : FnP K "_law_marks" "_law_marks" s__law_marks f fd) (hm : mg "_law_marks" = some (.ref f)) : Df P w K mg base 4 "_law_marks" m__law_marks d__law_marks :=
  ⟨f, fd, _, ok__law_marks T M_Text_content F, hm, F.kp, FunD.bindsN F fun _ _ _ _ _ _ us hl => match us, hl with | [_], _ => rfl⟩
abbrev s_place_key : Stmt := topS 9
abbrev N_place_key : List Str := ["place"]
theorem sc_place_key : FnScope N_place_key ["place"] (defScope s_place_key) := ⟨rfl, rfl, rfl, by decide +kernel, rfl, by decide +kernel, by decide +kernel⟩
abbrev m_place_key : List Bool := [false]
def b_place_key : SF :=
  (sRet ((eOp gAdd (eVar 0) ((eTup [(eTup [eC (.int 0)])])))))
def d_place_key : DF := dDef 1 m_place_key b_place_key
theorem ok_place_key {f : Addr} {fd : FuncData} (T : TX mg)  (F : FnP K "place_key" "place_key" s_place_key f fd) : FnOk P w K mg base CX0 1 f fd ["place"] (spD ⟨K, mg, w⟩ m_place_key d_place_key) := by
  refine fn_denD F sc_place_key rfl fun cdv A outer s H E hr => ?_
  exact (dss_one (ds_ret ((de_op dop_add (de_var 0) ((de_tup (da_cons ((de_tup (da_cons (de_int) da_nil))) da_nil)))))))
theorem df_place_key {f : Addr} {fd : FuncData} (T : TX mg)  (F : FnP K "place_key" "place_key" s_place_key f fd) (hm : mg "place_key" = some (.ref f)) : Df P w K mg base 1 "place_key" m_place_key d_place_key :=
  ⟨f, fd, _, ok_place_key T  F, hm, F.kp, FunD.bindsN F fun _ _ _ _ _ _ us hl => match us, hl with | [_], _ => rfl⟩
abbrev s_before : Stmt := topS 10
abbrev N_before : List Str := ["one", "other"]
theorem sc_before : FnScope N_before ["one", "other"] (defScope s_before) := ⟨rfl, rfl, rfl, by decide +kernel, rfl, by decide +kernel, by decide +kernel⟩
abbrev m_before : List Bool := [false, false]
def b_before : SF :=
  (sRet ((eOp (gCmp .lt) ((eCall d_place_key m_place_key [eVar 0])) ((eCall d_place_key m_place_key [eVar 1])))))
def d_before : DF := dDef 2 m_before b_before
theorem ok_before {f : Addr} {fd : FuncData} (T : TX mg) (G_place_key : Df P w K mg base 1 "place_key" m_place_key d_place_key) (F : FnP K "before" "before" s_before f fd) : FnOk P w K mg base CX0 2 f fd ["one", "other"] (spD ⟨K, mg, w⟩ m_before d_before) := by
  refine fn_denD F sc_before rfl fun cdv A outer s H E hr => ?_
  exact (dss_one (ds_ret ((de_cmp (dop_lt hr.units) ((de_callD G_place_key (hr.mono (by decide)) (by rfl) (da_cons (de_var 0) da_nil))) ((de_callD G_place_key (hr.mono (by decide)) (by rfl) (da_cons (de_var 1) da_nil)))))))
theorem df_before {f : Addr} {fd : FuncData} (T : TX mg) (G_place_key : Df P w K mg base 1 "place_key" m_place_key d_place_key) (F : FnP K "before" "before" s_before f fd) (hm : mg "before" = some (.ref f)) : Df P w K mg base 2 "before" m_before d_before :=
  ⟨f, fd, _, ok_before T G_place_key F, hm, F.kp, FunD.bindsN F fun _ _ _ _ _ _ us hl => match us, hl with | [_, _], _ => rfl⟩
abbrev s_within : Stmt := topS 15
abbrev N_within : List Str := ["place", "first", "last"]
theorem sc_within : FnScope N_within ["place", "first", "last"] (defScope s_within) := ⟨rfl, rfl, rfl, by decide +kernel, rfl, by decide +kernel, by decide +kernel⟩
abbrev m_within : List Bool := [false, false, false]
def b_within : SF :=
  (sRet ((eAnd ((eNot ((eCall d_before m_before [eVar 0, eVar 1])))) ((eNot ((eCall d_before m_before [eVar 2, eVar 0])))))))
def d_within : DF := dDef 3 m_within b_within
theorem ok_within {f : Addr} {fd : FuncData} (T : TX mg) (G_before : Df P w K mg base 2 "before" m_before d_before) (F : FnP K "within" "within" s_within f fd) : FnOk P w K mg base CX0 3 f fd ["place", "first", "last"] (spD ⟨K, mg, w⟩ m_within d_within) := by
  refine fn_denD F sc_within rfl fun cdv A outer s H E hr => ?_
  exact (dss_one (ds_ret ((de_and ((de_not ((de_callD G_before (hr.mono (by decide)) (by rfl) (da_cons (de_var 0) (da_cons (de_var 1) da_nil)))))) (de_one ((de_not ((de_callD G_before (hr.mono (by decide)) (by rfl) (da_cons (de_var 2) (da_cons (de_var 0) da_nil)))))))))))
theorem df_within {f : Addr} {fd : FuncData} (T : TX mg) (G_before : Df P w K mg base 2 "before" m_before d_before) (F : FnP K "within" "within" s_within f fd) (hm : mg "within" = some (.ref f)) : Df P w K mg base 3 "within" m_within d_within :=
  ⟨f, fd, _, ok_within T G_before F, hm, F.kp, FunD.bindsN F fun _ _ _ _ _ _ us hl => match us, hl with | [_, _, _], _ => rfl⟩
abbrev s_Mark_bears : Stmt := clsS 16 2
abbrev N_Mark_bears : List Str := ["self", "place", "first", "last"]
theorem sc_Mark_bears : FnScope N_Mark_bears ["self", "place"] (defScope s_Mark_bears) := ⟨rfl, rfl, rfl, by decide +kernel, rfl, by decide +kernel, by decide +kernel⟩
abbrev m_Mark_bears : List Bool := [false, false]
def l1_Mark_bears : SF :=
  (sIf ((tE ((eCall d_within m_within [eVar 1, eVar 2, eVar 3])))) (sRet (eC (.bool false))) sNext)
def b_Mark_bears : SF :=
  (sSeq (sIf ((tNotD ((tE ((eCall d_within m_within [eVar 1, (eFld ["Mark"] "first" (eVar 0)), (eFld ["Mark"] "last" (eVar 0))])))))) (sRet (eC (.bool false))) sNext)
  (sSeq (sFor (.t [2, 3]) (iSeq ((eFld ["Mark"] "holes" (eVar 0)))) l1_Mark_bears)
  (sRet (eC (.bool true)))))
def d_Mark_bears : DF := dDef 4 m_Mark_bears b_Mark_bears
theorem ok_Mark_bears {f : Addr} {fd : FuncData} (T : TX mg) (G_within : Df P w K mg base 3 "within" m_within d_within) (C_Mark_first : ∀ c ∈ (["Mark"] : List Str), ∀ C, mg c = some (.ref C) → Cls K C ∧ NoAttr K C "first") (C_Mark_last : ∀ c ∈ (["Mark"] : List Str), ∀ C, mg c = some (.ref C) → Cls K C ∧ NoAttr K C "last") (C_Mark_holes : ∀ c ∈ (["Mark"] : List Str), ∀ C, mg c = some (.ref C) → Cls K C ∧ NoAttr K C "holes") (F : FnP K "bears" "Mark.bears" s_Mark_bears f fd) : FnOk P w K mg base CX0 4 f fd ["self", "place"] (spD ⟨K, mg, w⟩ m_Mark_bears d_Mark_bears) := by
  refine fn_denD F sc_Mark_bears rfl fun cdv A outer s H E hr => ?_
  exact (dss_cons (ds_if (dt_not ((dt_val ((de_callD G_within (hr.mono (by decide)) (by rfl) (da_cons (de_var 1) (da_cons ((de_fld ⟨C_Mark_first, by decide⟩ (de_var 0))) (da_cons ((de_fld ⟨C_Mark_last, by decide⟩ (de_var 0))) da_nil)))))))) (dss_one (ds_ret (de_bl))) dss_nil)
  (dss_cons (ds_for PassesOwn.never rfl (di_seq ((de_fld ⟨C_Mark_holes, by decide⟩ (de_var 0)))) (dg_tup rfl (dgs_cons sc_Mark_bears.nd rfl (Or.inl rfl) (dgs_cons sc_Mark_bears.nd rfl (Or.inl rfl) dgs_nil))) (dss_one (ds_if (dt_val ((de_callD G_within (hr.mono (by decide)) (by rfl) (da_cons (de_var 1) (da_cons (de_var 2) (da_cons (de_var 3) da_nil)))))) (dss_one (ds_ret (de_bl))) dss_nil)))
  (dss_one (ds_ret (de_bl)))))
abbrev tb_Mark_bears : List (Str × DF) := [("Mark", d_Mark_bears)]
abbrev s_Marks_words_at : Stmt := clsS 17 3
abbrev N_Marks_words_at : List Str := ["self", "place", "one"]
theorem sc_Marks_words_at : FnScope N_Marks_words_at ["self", "place"] (defScope s_Marks_words_at) := ⟨rfl, rfl, rfl, by decide +kernel, rfl, by decide +kernel, by decide +kernel⟩
abbrev m_Marks_words_at : List Bool := [false, false]
def ce1_Marks_words_at : EF :=
  (eFld ["Mark"] "word" (eVar 2))
def ct1_Marks_words_at : TF :=
  (tE ((eMeth "bears" tb_Mark_bears [false] (eVar 2) [eVar 1])))
def b_Marks_words_at : SF :=
  (sRet ((eUn (fun c => gSetSort [c]) ((eLc [2] (.v 2) (iSeq ((eFld ["Marks"] "kept" (eVar 0)))) (ct1_Marks_words_at) (ce1_Marks_words_at))))))
def d_Marks_words_at : DF := dDef 3 m_Marks_words_at b_Marks_words_at
theorem ok_Marks_words_at {f : Addr} {fd : FuncData} (T : TX mg) (C_Marks_kept : ∀ c ∈ (["Marks"] : List Str), ∀ C, mg c = some (.ref C) → Cls K C ∧ NoAttr K C "kept") (C_Mark_word : ∀ c ∈ (["Mark"] : List Str), ∀ C, mg c = some (.ref C) → Cls K C ∧ NoAttr K C "word") (M_Mark_bears : Mf P w K mg base 4 "bears" [false] tb_Mark_bears) (F : FnP K "words_at" "Marks.words_at" s_Marks_words_at f fd) : FnOk P w K mg base CX0 5 f fd ["self", "place"] (spD ⟨K, mg, w⟩ m_Marks_words_at d_Marks_words_at) := by
  refine fn_denD F sc_Marks_words_at rfl fun cdv A outer s H E hr => ?_
  exact (dss_one (ds_ret ((de_sortSet rfl hr.units ((de_lc (own := [("one", 2)]) rfl sc_Marks_words_at.nd (di_seq ((de_fld ⟨C_Marks_kept, by decide⟩ (de_var 0)))) (blkOk_by (sc := defScope s_Marks_words_at) (own := [("one", 2)]) (N := N_Marks_words_at) (by decide +kernel)) (fun _ _ _ _ _ => (dg_name sc_Marks_words_at.nd rfl (Or.inl rfl))) (fun _ _ _ _ _ => (dts_one ((dt_val ((de_meth M_Mark_bears (hr.mono (by decide)) (de_var 2) (da_cons (de_var 1) da_nil))))))) (fun _ _ _ _ _ => (de_fld ⟨C_Mark_word, by decide⟩ (de_var 2))) (by decide))) (by rfl) T.sorted (by decide +kernel) (by rfl) T.set (by decide +kernel)))))
abbrev tb_Marks_words_at : List (Str × DF) := [("Marks", d_Marks_words_at)]
abbrev s_Text_told : Stmt := clsS 21 2
abbrev N_Text_told : List Str := ["self", "place", "sign"]
theorem sc_Text_told : FnScope N_Text_told ["self"] (defScope s_Text_told) := ⟨rfl, rfl, rfl, by decide +kernel, rfl, by decide +kernel, by decide +kernel⟩
abbrev m_Text_told : List Bool := [false]
def ce1_Text_told : EF :=
  (eTup [eVar 1, eVar 2, (eMeth "words_at" tb_Marks_words_at [false] ((eFld ["Text"] "marks" (eVar 0))) [eVar 1])])
def b_Text_told : SF :=
  (sRet ((eLc [1, 2] (.t [1, 2]) (iSeq ((eMeth "rows" tb_Signs_rows [] ((eFld ["Text"] "signs" (eVar 0))) []))) (tYesD) (ce1_Text_told))))
def d_Text_told : DF := dDef 3 m_Text_told b_Text_told
theorem ok_Text_told {f : Addr} {fd : FuncData} (T : TX mg) (C_Text_signs : ∀ c ∈ (["Text"] : List Str), ∀ C, mg c = some (.ref C) → Cls K C ∧ NoAttr K C "signs") (C_Text_marks : ∀ c ∈ (["Text"] : List Str), ∀ C, mg c = some (.ref C) → Cls K C ∧ NoAttr K C "marks") (M_Signs_rows : Mf P w K mg base 1 "rows" [] tb_Signs_rows) (M_Marks_words_at : Mf P w K mg base 5 "words_at" [false] tb_Marks_words_at) (F : FnP K "told" "Text.told" s_Text_told f fd) : FnOk P w K mg base CX0 6 f fd ["self"] (spD ⟨K, mg, w⟩ m_Text_told d_Text_told) := by
  refine fn_denD F sc_Text_told rfl fun cdv A outer s H E hr => ?_
  exact (dss_one (ds_ret ((de_lc (own := [("place", 1), ("sign", 2)]) rfl sc_Text_told.nd (di_seq ((de_meth0 M_Signs_rows (hr.mono (by decide)) ((de_fld ⟨C_Text_signs, by decide⟩ (de_var 0)))))) (blkOk_by (sc := defScope s_Text_told) (own := [("place", 1), ("sign", 2)]) (N := N_Text_told) (by decide +kernel)) (fun _ _ _ _ _ => (dg_tup rfl (dgs_cons sc_Text_told.nd rfl (Or.inl rfl) (dgs_cons sc_Text_told.nd rfl (Or.inl rfl) dgs_nil)))) (fun _ _ _ _ _ => dts_nil) (fun _ _ _ _ _ => (de_tup (da_cons (de_var 1) (da_cons (de_var 2) (da_cons ((de_meth M_Marks_words_at (hr.mono (by decide)) ((de_fld ⟨C_Text_marks, by decide⟩ (de_var 0))) (da_cons (de_var 1) da_nil))) da_nil))))) (by decide)))))
abbrev s_place_of : Stmt := topS 12
abbrev N_place_of : List Str := ["spot", "name", "under", "side"]
theorem sc_place_of : FnScope N_place_of ["spot", "name"] (defScope s_place_of) := ⟨rfl, rfl, rfl, by decide +kernel, rfl, by decide +kernel, by decide +kernel⟩
abbrev m_place_of : List Bool := [false, false]
def b_place_of : SF :=
  (sSeq (sBind (.t [2, 3]) (eVar 0))
  (sRet ((eOp gAdd (eVar 2) ((eTup [(eTup [eVar 3, (eOp gIx (eVar 1) (eC (.int 0))), (eOp gIx (eVar 1) (eC (.int 1))), eC (.int 0)])]))))))
def d_place_of : DF := dDef 4 m_place_of b_place_of
theorem ok_place_of {f : Addr} {fd : FuncData} (T : TX mg)  (F : FnP K "place_of" "place_of" s_place_of f fd) : FnOk P w K mg base CX0 1 f fd ["spot", "name"] (spD ⟨K, mg, w⟩ m_place_of d_place_of) := by
  refine fn_denD F sc_place_of rfl fun cdv A outer s H E hr => ?_
  exact (dss_cons (ds_bind (dg_tup rfl (dgs_cons sc_place_of.nd rfl (Or.inl rfl) (dgs_cons sc_place_of.nd rfl (Or.inl rfl) dgs_nil))) (de_var 0))
  (dss_one (ds_ret ((de_op dop_add (de_var 2) ((de_tup (da_cons ((de_tup (da_cons (de_var 3) (da_cons ((de_ix dix (de_var 1) (de_int))) (da_cons ((de_ix dix (de_var 1) (de_int))) (da_cons (de_int) da_nil)))))) da_nil))))))))
theorem df_place_of {f : Addr} {fd : FuncData} (T : TX mg)  (F : FnP K "place_of" "place_of" s_place_of f fd) (hm : mg "place_of" = some (.ref f)) : Df P w K mg base 1 "place_of" m_place_of d_place_of :=
  ⟨f, fd, _, ok_place_of T  F, hm, F.kp, FunD.bindsN F fun _ _ _ _ _ _ us hl => match us, hl with | [_, _], _ => rfl⟩
abbrev s_places_of : Stmt := topS 13
abbrev N_places_of : List Str := ["deed", "name", "seen", "act", "place", "found", "k"]
theorem sc_places_of : FnScope N_places_of ["deed"] (defScope s_places_of) := ⟨rfl, rfl, rfl, by decide +kernel, rfl, by decide +kernel, by decide +kernel⟩
abbrev m_places_of : List Bool := [false]
def l1_places_of : SF :=
  (sSeq (sSet 4 ((eOp gAdd (eVar 4) ((eTup [(eTup [eC (.int 1), (eOp gIx (eVar 1) (eC (.int 0))), (eOp gIx (eVar 1) (eC (.int 1))), eVar 6])])))))
  (sDrop ((eMut isLst gApp (.sl 5) [eVar 4]))))
def b_places_of : SF :=
  (sSeq (sBind (.t [1, 2, 3]) (eVar 0))
  (sSeq (sSet 4 ((eCall d_place_of m_place_of [(eTup [(eOp gIx (eVar 3) (eC (.int 2))), (eOp gIx (eVar 3) (eC (.int 3)))]), eVar 1])))
  (sSeq (sSet 5 ((eLst [eVar 4])))
  (sSeq (sFor (.v 6) (iRg [eC (.int 1), (eUn (fun c => gLen [c]) ((eOp gIx (eVar 3) (eC (.int 4)))))]) l1_places_of)
  (sRet (eVar 5))))))
def d_places_of : DF := dDef 7 m_places_of b_places_of
theorem ok_places_of {f : Addr} {fd : FuncData} (T : TX mg) (G_place_of : Df P w K mg base 1 "place_of" m_place_of d_place_of) (F : FnP K "places_of" "places_of" s_places_of f fd) : FnOk P w K mg base CX0 2 f fd ["deed"] (spD ⟨K, mg, w⟩ m_places_of d_places_of) := by
  refine fn_denD F sc_places_of rfl fun cdv A outer s H E hr => ?_
  exact (dss_cons (ds_bind (dg_tup rfl (dgs_cons sc_places_of.nd rfl (Or.inl rfl) (dgs_cons sc_places_of.nd rfl (Or.inl rfl) (dgs_cons sc_places_of.nd rfl (Or.inl rfl) dgs_nil)))) (de_var 0))
  (dss_cons (ds_set (i := 4) sc_places_of.nd rfl (Or.inl rfl) ((de_callD G_place_of (hr.mono (by decide)) (by rfl) (da_cons ((de_tup (da_cons ((de_ix dix (de_var 3) (de_int))) (da_cons ((de_ix dix (de_var 3) (de_int))) da_nil)))) (da_cons (de_var 1) da_nil)))))
  (dss_cons (ds_set (i := 5) sc_places_of.nd rfl (Or.inl rfl) ((de_lst (da_cons (de_var 4) da_nil))))
  (dss_cons (ds_for PassesOwn.never rfl (di_rg2 (by rfl) T.range (de_int) ((de_bi1 dcl_len (by rfl) T.len (by decide +kernel) ((de_ix dix (de_var 3) (de_int)))))) (dg_name sc_places_of.nd rfl (Or.inl rfl)) (dss_cons (ds_set (i := 4) sc_places_of.nd rfl (Or.inl rfl) ((de_op dop_add (de_var 4) ((de_tup (da_cons ((de_tup (da_cons (de_int) (da_cons ((de_ix dix (de_var 1) (de_int))) (da_cons ((de_ix dix (de_var 1) (de_int))) (da_cons (de_var 6) da_nil)))))) da_nil))))))
  (dss_one (ds_expr ((de_mutS 5 dm_append rfl (by first | exact Or.inl rfl | exact Or.inr (Or.inl rfl) | exact Or.inr (Or.inr rfl)) (da_cons (de_var 4) da_nil)))))))
  (dss_one (ds_ret (de_var 5)))))))
theorem df_places_of {f : Addr} {fd : FuncData} (T : TX mg) (G_place_of : Df P w K mg base 1 "place_of" m_place_of d_place_of) (F : FnP K "places_of" "places_of" s_places_of f fd) (hm : mg "places_of" = some (.ref f)) : Df P w K mg base 2 "places_of" m_places_of d_places_of :=
  ⟨f, fd, _, ok_places_of T G_place_of F, hm, F.kp, FunD.bindsN F fun _ _ _ _ _ _ us hl => match us, hl with | [_], _ => rfl⟩
abbrev s_Signs_ahead_of : Stmt := clsS 19 1
abbrev N_Signs_ahead_of : List Str := ["self", "place", "low", "high", "middle"]
theorem sc_Signs_ahead_of : FnScope N_Signs_ahead_of ["self", "place"] (defScope s_Signs_ahead_of) := ⟨rfl, rfl, rfl, by decide +kernel, rfl, by decide +kernel, by decide +kernel⟩
abbrev m_Signs_ahead_of : List Bool := [false, false]
def w1_Signs_ahead_of : SF :=
  (sSeq (sSet 4 ((eOp gDiv ((eOp gAdd (eVar 2) (eVar 3))) (eC (.int 2)))))
  (sIf ((tE ((eCall d_before m_before [(eOp gIx ((eOpF gIxA ((eFld ["Signs"] "kept" (eVar 0))) (eVar 4))) (eC (.int 0))), eVar 1])))) (sSet 2 ((eOp gAdd (eVar 4) (eC (.int 1))))) (sSet 3 (eVar 4))))
def wt1_Signs_ahead_of : TF :=
  (tE (eOp (gCmp .lt) (eVar 2) (eVar 3)))
def b_Signs_ahead_of : SF :=
  (sSeq (sSet 2 (eC (.int 0)))
  (sSeq (sSet 3 ((eUn (fun c => gLen [c]) ((eFld ["Signs"] "kept" (eVar 0))))))
  (sSeq (runWhile (wt1_Signs_ahead_of) w1_Signs_ahead_of 1000000)
  (sRet (eVar 2)))))
def d_Signs_ahead_of : DF := dDef 5 m_Signs_ahead_of b_Signs_ahead_of
theorem ok_Signs_ahead_of {f : Addr} {fd : FuncData} (T : TX mg) (G_before : Df P w K mg base 2 "before" m_before d_before) (C_Signs_kept : ∀ c ∈ (["Signs"] : List Str), ∀ C, mg c = some (.ref C) → Cls K C ∧ NoAttr K C "kept") (F : FnP K "ahead_of" "Signs.ahead_of" s_Signs_ahead_of f fd) : FnOk P w K mg base CX0 3 f fd ["self", "place"] (spD ⟨K, mg, w⟩ m_Signs_ahead_of d_Signs_ahead_of) := by
  refine fn_denD F sc_Signs_ahead_of rfl fun cdv A outer s H E hr => ?_
  exact (dss_cons (ds_set (i := 2) sc_Signs_ahead_of.nd rfl (Or.inl rfl) (de_int))
  (dss_cons (ds_set (i := 3) sc_Signs_ahead_of.nd rfl (Or.inl rfl) ((de_bi1 dcl_len (by rfl) T.len (by decide +kernel) ((de_fld ⟨C_Signs_kept, by decide⟩ (de_var 0))))))
  (dss_cons (ds_while 1000000 PassesOwn.never (dt_cmp (dop_lt hr.units) (de_var 2) (de_var 3)) (dss_cons (ds_set (i := 4) sc_Signs_ahead_of.nd rfl (Or.inl rfl) ((de_op dop_div ((de_op dop_add (de_var 2) (de_var 3))) (de_int))))
  (dss_one (ds_if (dt_val ((de_callD G_before (hr.mono (by decide)) (by rfl) (da_cons ((de_ix dix ((de_ixF (dixa hr.units) ((de_fld ⟨C_Signs_kept, by decide⟩ (de_var 0))) (de_var 4))) (de_int))) (da_cons (de_var 1) da_nil))))) (dss_one (ds_set (i := 2) sc_Signs_ahead_of.nd rfl (Or.inl rfl) ((de_op dop_add (de_var 4) (de_int))))) (dss_one (ds_set (i := 3) sc_Signs_ahead_of.nd rfl (Or.inl rfl) (de_var 4)))))))
  (dss_one (ds_ret (de_var 2))))))
abbrev tb_Signs_ahead_of : List (Str × DF) := [("Signs", d_Signs_ahead_of)]
abbrev s_Signs_write : Stmt := clsS 19 2
abbrev N_Signs_write : List Str := ["self", "deed", "place", "sign"]
theorem sc_Signs_write : FnScope N_Signs_write ["self", "deed"] (defScope s_Signs_write) := ⟨rfl, rfl, rfl, by decide +kernel, rfl, by decide +kernel, by decide +kernel⟩
abbrev m_Signs_write : List Bool := [false, false]
def l1_Signs_write : SF :=
  (sDrop ((eMutL isLst gIns ["Signs"] 0 "kept" [(eMeth "ahead_of" tb_Signs_ahead_of [false] (eVar 0) [eVar 2]), (eTup [eVar 2, eVar 3])])))
def b_Signs_write : SF :=
  (sFor (.t [2, 3]) (iZipX [(eCall d_places_of m_places_of [eVar 1]), (eOp gIx ((eOp gIx (eVar 1) (eC (.int 2)))) (eC (.int 4)))]) l1_Signs_write)
def d_Signs_write : DF := dDef 4 m_Signs_write b_Signs_write
theorem ok_Signs_write {f : Addr} {fd : FuncData} (T : TX mg) (G_places_of : Df P w K mg base 2 "places_of" m_places_of d_places_of) (C_Signs_kept : ∀ c ∈ (["Signs"] : List Str), ∀ C, mg c = some (.ref C) → Cls K C ∧ NoAttr K C "kept") (M_Signs_ahead_of : Mf P w K mg base 3 "ahead_of" [false] tb_Signs_ahead_of) (F : FnP K "write" "Signs.write" s_Signs_write f fd) : FnOk P w K mg base CX0 4 f fd ["self", "deed"] (spD ⟨K, mg, w⟩ m_Signs_write d_Signs_write) := by
  refine fn_denD F sc_Signs_write rfl fun cdv A outer s H E hr => ?_
  exact (dss_one (ds_for PassesOwn.never rfl (di_zipS (by rfl) T.zip (da_cons ((de_callD G_places_of (hr.mono (by decide)) (by rfl) (da_cons (de_var 1) da_nil))) (da_cons ((de_ix dix ((de_ix dix (de_var 1) (de_int))) (de_int))) da_nil))) (dg_tup rfl (dgs_cons sc_Signs_write.nd rfl (Or.inl rfl) (dgs_cons sc_Signs_write.nd rfl (Or.inl rfl) dgs_nil))) (dss_one (ds_expr ((de_mutL 0 dm_insert ⟨C_Signs_kept, by decide⟩ rfl (by first | exact Or.inl rfl | exact Or.inr (Or.inl rfl) | exact Or.inr (Or.inr rfl)) (da_cons ((de_meth M_Signs_ahead_of (hr.mono (by decide)) (de_var 0) (da_cons (de_var 2) da_nil))) (da_cons ((de_tup (da_cons (de_var 2) (da_cons (de_var 3) da_nil)))) da_nil))))))))
abbrev s_Signs_cut : Stmt := clsS 19 3
abbrev N_Signs_cut : List Str := ["self", "places", "gone", "row"]
theorem sc_Signs_cut : FnScope N_Signs_cut ["self", "places"] (defScope s_Signs_cut) := ⟨rfl, rfl, rfl, by decide +kernel, rfl, by decide +kernel, by decide +kernel⟩
abbrev m_Signs_cut : List Bool := [false, false]
def ce1_Signs_cut : EF :=
  eVar 3
def ct1_Signs_cut : TF :=
  (tE (eOp gIn ((eOp gIx (eVar 3) (eC (.int 0)))) (eVar 1)))
def ce2_Signs_cut : EF :=
  eVar 3
def ct2_Signs_cut : TF :=
  (tE (eOp gNotIn ((eOp gIx (eVar 3) (eC (.int 0)))) (eVar 1)))
def b_Signs_cut : SF :=
  (sSeq (sSet 2 (eLc [3] (.v 3) (iSeq ((eFld ["Signs"] "kept" (eVar 0)))) (ct1_Signs_cut) (ce1_Signs_cut)))
  (sSeq (sFldN ["Signs"] 0 "kept" ((eLc [3] (.v 3) (iSeq ((eFld ["Signs"] "kept" (eVar 0)))) (ct2_Signs_cut) (ce2_Signs_cut))))
  (sRet (eVar 2))))
def d_Signs_cut : DF := dDef 4 m_Signs_cut b_Signs_cut
theorem ok_Signs_cut {f : Addr} {fd : FuncData} (T : TX mg) (C_Signs_kept : ∀ c ∈ (["Signs"] : List Str), ∀ C, mg c = some (.ref C) → Cls K C ∧ NoAttr K C "kept") (F : FnP K "cut" "Signs.cut" s_Signs_cut f fd) : FnOk P w K mg base CX0 1 f fd ["self", "places"] (spD ⟨K, mg, w⟩ m_Signs_cut d_Signs_cut) := by
  refine fn_denD F sc_Signs_cut rfl fun cdv A outer s H E hr => ?_
  exact (dss_cons (ds_setLc (i := 2) (own := [("row", 3)]) rfl sc_Signs_cut.nd rfl rfl (sw_true rfl rfl rfl (by decide +kernel)) (di_seq ((de_fld ⟨C_Signs_kept, by decide⟩ (de_var 0)))) (blkOk_by (sc := defScope s_Signs_cut) (own := [("row", 3)]) (N := N_Signs_cut) (by decide +kernel)) (fun _ _ _ _ _ => (dg_name sc_Signs_cut.nd rfl (Or.inl rfl))) (fun _ _ _ _ _ => (dts_one ((dt_cmp (dop_in hr.units) ((de_ix dix (de_var 3) (de_int))) (de_var 1))))) (fun _ _ _ _ _ => de_var 3) (by decide))
  (dss_cons (ds_fldN 0 ⟨C_Signs_kept, by decide⟩ rfl (by first | exact Or.inl rfl | exact Or.inr (Or.inl rfl) | exact Or.inr (Or.inr rfl)) ((de_lc (own := [("row", 3)]) rfl sc_Signs_cut.nd (di_seq ((de_fld ⟨C_Signs_kept, by decide⟩ (de_var 0)))) (blkOk_by (sc := defScope s_Signs_cut) (own := [("row", 3)]) (N := N_Signs_cut) (by decide +kernel)) (fun _ _ _ _ _ => (dg_name sc_Signs_cut.nd rfl (Or.inl rfl))) (fun _ _ _ _ _ => (dts_one ((dt_cmp (dop_notIn hr.units) ((de_ix dix (de_var 3) (de_int))) (de_var 1))))) (fun _ _ _ _ _ => de_var 3) (by decide))))
  (dss_one (ds_ret (de_var 2)))))
abbrev s_Mark___init__ : Stmt := clsS 16 0
abbrev N_Mark___init__ : List Str := ["self", "name", "first", "last", "word"]
theorem sc_Mark___init__ : FnScope N_Mark___init__ ["self", "name", "first", "last", "word"] (defScope s_Mark___init__) := ⟨rfl, rfl, rfl, by decide +kernel, rfl, by decide +kernel, by decide +kernel⟩
abbrev m_Mark___init__ : List Bool := [false, false, false, false, false]
def b_Mark___init__ : SF :=
  (sSeq (sFldN ["Mark"] 0 "name" (eVar 1))
  (sSeq (sFldN ["Mark"] 0 "first" (eVar 2))
  (sSeq (sFldN ["Mark"] 0 "last" (eVar 3))
  (sSeq (sFldN ["Mark"] 0 "word" (eVar 4))
  (sFldN ["Mark"] 0 "holes" ((eLst [])))))))
def d_Mark___init__ : DF := dDef 5 m_Mark___init__ b_Mark___init__
theorem ok_Mark___init__ {f : Addr} {fd : FuncData} (T : TX mg) (C_Mark_name : ∀ c ∈ (["Mark"] : List Str), ∀ C, mg c = some (.ref C) → Cls K C ∧ NoAttr K C "name") (C_Mark_first : ∀ c ∈ (["Mark"] : List Str), ∀ C, mg c = some (.ref C) → Cls K C ∧ NoAttr K C "first") (C_Mark_last : ∀ c ∈ (["Mark"] : List Str), ∀ C, mg c = some (.ref C) → Cls K C ∧ NoAttr K C "last") (C_Mark_word : ∀ c ∈ (["Mark"] : List Str), ∀ C, mg c = some (.ref C) → Cls K C ∧ NoAttr K C "word") (C_Mark_holes : ∀ c ∈ (["Mark"] : List Str), ∀ C, mg c = some (.ref C) → Cls K C ∧ NoAttr K C "holes") (F : FnP K "__init__" "Mark.__init__" s_Mark___init__ f fd) : FnOk P w K mg base CX0 1 f fd ["self", "name", "first", "last", "word"] (spD ⟨K, mg, w⟩ m_Mark___init__ d_Mark___init__) := by
  refine fn_denD F sc_Mark___init__ rfl fun cdv A outer s H E hr => ?_
  exact (dss_cons (ds_fldN 0 ⟨C_Mark_name, by decide⟩ rfl (by first | exact Or.inl rfl | exact Or.inr (Or.inl rfl) | exact Or.inr (Or.inr rfl)) (de_var 1))
  (dss_cons (ds_fldN 0 ⟨C_Mark_first, by decide⟩ rfl (by first | exact Or.inl rfl | exact Or.inr (Or.inl rfl) | exact Or.inr (Or.inr rfl)) (de_var 2))
  (dss_cons (ds_fldN 0 ⟨C_Mark_last, by decide⟩ rfl (by first | exact Or.inl rfl | exact Or.inr (Or.inl rfl) | exact Or.inr (Or.inr rfl)) (de_var 3))
  (dss_cons (ds_fldN 0 ⟨C_Mark_word, by decide⟩ rfl (by first | exact Or.inl rfl | exact Or.inr (Or.inl rfl) | exact Or.inr (Or.inr rfl)) (de_var 4))
  (dss_one (ds_fldN 0 ⟨C_Mark_holes, by decide⟩ rfl (by first | exact Or.inl rfl | exact Or.inr (Or.inl rfl) | exact Or.inr (Or.inr rfl)) ((de_lst da_nil))))))))
abbrev s_Marks_mark : Stmt := clsS 17 1
abbrev N_Marks_mark : List Str := ["self", "deed", "name", "seen", "act"]
theorem sc_Marks_mark : FnScope N_Marks_mark ["self", "deed"] (defScope s_Marks_mark) := ⟨rfl, rfl, rfl, by decide +kernel, rfl, by decide +kernel, by decide +kernel⟩
abbrev m_Marks_mark : List Bool := [false, false]
def b_Marks_mark : SF :=
  (sSeq (sBind (.t [2, 3, 4]) (eVar 1))
  (sDrop ((eMutL isLst gApp ["Marks"] 0 "kept" [(eNew "Mark" d_Mark___init__ [false, false, false, false] [eVar 2, (eOp gIx (eVar 4) (eC (.int 2))), (eOp gIx (eVar 4) (eC (.int 3))), (eOp gIx (eVar 4) (eC (.int 4)))])]))))
def d_Marks_mark : DF := dDef 5 m_Marks_mark b_Marks_mark
theorem ok_Marks_mark {f : Addr} {fd : FuncData} (T : TX mg) (C_Marks_kept : ∀ c ∈ (["Marks"] : List Str), ∀ C, mg c = some (.ref C) → Cls K C ∧ NoAttr K C "kept") (K_Mark : MkD P w K mg base 1 "Mark" [false, false, false, false] d_Mark___init__) (F : FnP K "mark" "Marks.mark" s_Marks_mark f fd) : FnOk P w K mg base CX0 3 f fd ["self", "deed"] (spD ⟨K, mg, w⟩ m_Marks_mark d_Marks_mark) := by
  refine fn_denD F sc_Marks_mark rfl fun cdv A outer s H E hr => ?_
  exact (dss_cons (ds_bind (dg_tup rfl (dgs_cons sc_Marks_mark.nd rfl (Or.inl rfl) (dgs_cons sc_Marks_mark.nd rfl (Or.inl rfl) (dgs_cons sc_Marks_mark.nd rfl (Or.inl rfl) dgs_nil)))) (de_var 1))
  (dss_one (ds_expr ((de_mutL 0 dm_append ⟨C_Marks_kept, by decide⟩ rfl (by first | exact Or.inl rfl | exact Or.inr (Or.inl rfl) | exact Or.inr (Or.inr rfl)) (da_cons ((de_new K_Mark (hr.mono (by decide)) (by rfl) (da_cons (de_var 2) (da_cons ((de_ix dix (de_var 4) (de_int))) (da_cons ((de_ix dix (de_var 4) (de_int))) (da_cons ((de_ix dix (de_var 4) (de_int))) da_nil)))))) da_nil))))))
abbrev s_covers : Stmt := topS 2
abbrev N_covers : List Str := ["seen", "name", "hand", "number"]
theorem sc_covers : FnScope N_covers ["seen", "name"] (defScope s_covers) := ⟨rfl, rfl, rfl, by decide +kernel, rfl, by decide +kernel, by decide +kernel⟩
abbrev m_covers : List Bool := [false, false]
def l1_covers : SF :=
  (sIf ((tE (eOp gEq (eVar 2) ((eOp gIx (eVar 1) (eC (.int 0))))))) (sRet ((eOp (gCmp .le) ((eOp gIx (eVar 1) (eC (.int 1)))) (eVar 3)))) sNext)
def b_covers : SF :=
  (sSeq (sFor (.t [2, 3]) (iSeq (eVar 0)) l1_covers)
  (sRet (eC (.bool false))))
def d_covers : DF := dDef 4 m_covers b_covers
theorem ok_covers {f : Addr} {fd : FuncData} (T : TX mg)  (F : FnP K "covers" "covers" s_covers f fd) : FnOk P w K mg base CX0 1 f fd ["seen", "name"] (spD ⟨K, mg, w⟩ m_covers d_covers) := by
  refine fn_denD F sc_covers rfl fun cdv A outer s H E hr => ?_
  exact (dss_cons (ds_for PassesOwn.never rfl (di_seq (de_var 0)) (dg_tup rfl (dgs_cons sc_covers.nd rfl (Or.inl rfl) (dgs_cons sc_covers.nd rfl (Or.inl rfl) dgs_nil))) (dss_one (ds_if (dt_cmp (dop_eq hr.units) (de_var 2) ((de_ix dix (de_var 1) (de_int)))) (dss_one (ds_ret ((de_cmp (dop_le hr.units) ((de_ix dix (de_var 1) (de_int))) (de_var 3))))) dss_nil)))
  (dss_one (ds_ret (de_bl))))
theorem df_covers {f : Addr} {fd : FuncData} (T : TX mg)  (F : FnP K "covers" "covers" s_covers f fd) (hm : mg "covers" = some (.ref f)) : Df P w K mg base 1 "covers" m_covers d_covers :=
  ⟨f, fd, _, ok_covers T  F, hm, F.kp, FunD.bindsN F fun _ _ _ _ _ _ us hl => match us, hl with | [_, _], _ => rfl⟩
abbrev s_Mark_pierce : Stmt := clsS 16 1
abbrev N_Mark_pierce : List Str := ["self", "first", "last"]
theorem sc_Mark_pierce : FnScope N_Mark_pierce ["self", "first", "last"] (defScope s_Mark_pierce) := ⟨rfl, rfl, rfl, by decide +kernel, rfl, by decide +kernel, by decide +kernel⟩
abbrev m_Mark_pierce : List Bool := [false, false, false]
def b_Mark_pierce : SF :=
  (sDrop ((eMut isLst gApp (.fl ["Mark"] 0 "holes") [(eTup [eVar 1, eVar 2])])))
def d_Mark_pierce : DF := dDef 3 m_Mark_pierce b_Mark_pierce
theorem ok_Mark_pierce {f : Addr} {fd : FuncData} (T : TX mg) (C_Mark_holes : ∀ c ∈ (["Mark"] : List Str), ∀ C, mg c = some (.ref C) → Cls K C ∧ NoAttr K C "holes") (F : FnP K "pierce" "Mark.pierce" s_Mark_pierce f fd) : FnOk P w K mg base CX0 1 f fd ["self", "first", "last"] (spD ⟨K, mg, w⟩ m_Mark_pierce d_Mark_pierce) := by
  refine fn_denD F sc_Mark_pierce rfl fun cdv A outer s H E hr => ?_
  exact (dss_one (ds_expr ((de_mutF 0 dm_append ⟨C_Mark_holes, by decide⟩ rfl (by first | exact Or.inl rfl | exact Or.inr (Or.inl rfl) | exact Or.inr (Or.inr rfl)) (da_cons ((de_tup (da_cons (de_var 1) (da_cons (de_var 2) da_nil)))) da_nil)))))
abbrev tb_Mark_pierce : List (Str × DF) := [("Mark", d_Mark_pierce)]
abbrev s_Marks_clear : Stmt := clsS 17 2
abbrev N_Marks_clear : List Str := ["self", "deed", "name", "seen", "act", "one"]
theorem sc_Marks_clear : FnScope N_Marks_clear ["self", "deed"] (defScope s_Marks_clear) := ⟨rfl, rfl, rfl, by decide +kernel, rfl, by decide +kernel, by decide +kernel⟩
abbrev m_Marks_clear : List Bool := [false, false]
def l1_Marks_clear : SF :=
  (sIf ((tAndD ((tE (eOpF gEq ((eFld ["Mark"] "word" (eVar 5))) ((eOp gIx (eVar 4) (eC (.int 4))))))) ((tE ((eCall d_covers m_covers [eVar 3, (eFld ["Mark"] "name" (eVar 5))])))))) (sDrop ((eMeth "pierce" tb_Mark_pierce [false, false] (eVar 5) [(eOp gIx (eVar 4) (eC (.int 2))), (eOp gIx (eVar 4) (eC (.int 3)))]))) sNext)
def b_Marks_clear : SF :=
  (sSeq (sBind (.t [2, 3, 4]) (eVar 1))
  (sFor (.v 5) (iSeq ((eFld ["Marks"] "kept" (eVar 0)))) l1_Marks_clear))
def d_Marks_clear : DF := dDef 6 m_Marks_clear b_Marks_clear
theorem ok_Marks_clear {f : Addr} {fd : FuncData} (T : TX mg) (G_covers : Df P w K mg base 1 "covers" m_covers d_covers) (C_Marks_kept : ∀ c ∈ (["Marks"] : List Str), ∀ C, mg c = some (.ref C) → Cls K C ∧ NoAttr K C "kept") (C_Mark_word : ∀ c ∈ (["Mark"] : List Str), ∀ C, mg c = some (.ref C) → Cls K C ∧ NoAttr K C "word") (C_Mark_name : ∀ c ∈ (["Mark"] : List Str), ∀ C, mg c = some (.ref C) → Cls K C ∧ NoAttr K C "name") (M_Mark_pierce : Mf P w K mg base 1 "pierce" [false, false] tb_Mark_pierce) (F : FnP K "clear" "Marks.clear" s_Marks_clear f fd) : FnOk P w K mg base CX0 2 f fd ["self", "deed"] (spD ⟨K, mg, w⟩ m_Marks_clear d_Marks_clear) := by
  refine fn_denD F sc_Marks_clear rfl fun cdv A outer s H E hr => ?_
  exact (dss_cons (ds_bind (dg_tup rfl (dgs_cons sc_Marks_clear.nd rfl (Or.inl rfl) (dgs_cons sc_Marks_clear.nd rfl (Or.inl rfl) (dgs_cons sc_Marks_clear.nd rfl (Or.inl rfl) dgs_nil)))) (de_var 1))
  (dss_one (ds_for PassesOwn.never rfl (di_seq ((de_fld ⟨C_Marks_kept, by decide⟩ (de_var 0)))) (dg_name sc_Marks_clear.nd rfl (Or.inl rfl)) (dss_one (ds_if (dw_dt (dw_and ((dt_cmpF (dop_eq hr.units) ((de_fld ⟨C_Mark_word, by decide⟩ (de_var 5))) ((de_ix dix (de_var 4) (de_int))))) (dw_and1 ((dt_val ((de_callD G_covers (hr.mono (by decide)) (by rfl) (da_cons (de_var 3) (da_cons ((de_fld ⟨C_Mark_name, by decide⟩ (de_var 5))) da_nil))))))))) (dss_one (ds_expr ((de_meth M_Mark_pierce (hr.mono (by decide)) (de_var 5) (da_cons ((de_ix dix (de_var 4) (de_int))) (da_cons ((de_ix dix (de_var 4) (de_int))) da_nil)))))) dss_nil)))))
abbrev tb_Signs_write : List (Str × DF) := [("Signs", d_Signs_write)]
abbrev tb_Signs_cut : List (Str × DF) := [("Signs", d_Signs_cut)]
abbrev tb_Marks_mark : List (Str × DF) := [("Marks", d_Marks_mark)]
abbrev tb_Marks_clear : List (Str × DF) := [("Marks", d_Marks_clear)]
abbrev s_Text_hear : Stmt := clsS 21 1
abbrev N_Text_hear : List Str := ["self", "deed", "word"]
theorem sc_Text_hear : FnScope N_Text_hear ["self", "deed"] (defScope s_Text_hear) := ⟨rfl, rfl, rfl, by decide +kernel, rfl, by decide +kernel, by decide +kernel⟩
abbrev m_Text_hear : List Bool := [false, false]
def b_Text_hear : SF :=
  (sSeq (sSet 2 ((eOp gIx ((eOp gIx (eVar 1) (eC (.int 2)))) (eC (.int 0)))))
  (sIf ((tE (eOp gEq (eVar 2) (eC (.str "write"))))) (sDrop ((eMeth "write" tb_Signs_write [false] ((eFld ["Text"] "signs" (eVar 0))) [eVar 1]))) (sIf ((tE (eOp gEq (eVar 2) (eC (.str "cut"))))) (sDrop ((eMeth "cut" tb_Signs_cut [false] ((eFld ["Text"] "signs" (eVar 0))) [(eOp gIx ((eOp gIx (eVar 1) (eC (.int 2)))) (eC (.int 2)))]))) (sIf ((tE (eOp gEq (eVar 2) (eC (.str "mark"))))) (sDrop ((eMeth "mark" tb_Marks_mark [false] ((eFld ["Text"] "marks" (eVar 0))) [eVar 1]))) (sIf ((tE (eOp gEq (eVar 2) (eC (.str "clear"))))) (sDrop ((eMeth "clear" tb_Marks_clear [false] ((eFld ["Text"] "marks" (eVar 0))) [eVar 1]))) sNext)))))
def d_Text_hear : DF := dDef 3 m_Text_hear b_Text_hear
theorem ok_Text_hear {f : Addr} {fd : FuncData} (T : TX mg) (C_Text_signs : ∀ c ∈ (["Text"] : List Str), ∀ C, mg c = some (.ref C) → Cls K C ∧ NoAttr K C "signs") (C_Text_marks : ∀ c ∈ (["Text"] : List Str), ∀ C, mg c = some (.ref C) → Cls K C ∧ NoAttr K C "marks") (M_Signs_write : Mf P w K mg base 4 "write" [false] tb_Signs_write) (M_Signs_cut : Mf P w K mg base 1 "cut" [false] tb_Signs_cut) (M_Marks_mark : Mf P w K mg base 3 "mark" [false] tb_Marks_mark) (M_Marks_clear : Mf P w K mg base 2 "clear" [false] tb_Marks_clear) (F : FnP K "hear" "Text.hear" s_Text_hear f fd) : FnOk P w K mg base CX0 5 f fd ["self", "deed"] (spD ⟨K, mg, w⟩ m_Text_hear d_Text_hear) := by
  refine fn_denD F sc_Text_hear rfl fun cdv A outer s H E hr => ?_
  exact (dss_cons (ds_set (i := 2) sc_Text_hear.nd rfl (Or.inl rfl) ((de_ix dix ((de_ix dix (de_var 1) (de_int))) (de_int))))
  (dss_one (ds_if (dt_cmp (dop_eq hr.units) (de_var 2) (de_str)) (dss_one (ds_expr ((de_meth M_Signs_write (hr.mono (by decide)) ((de_fld ⟨C_Text_signs, by decide⟩ (de_var 0))) (da_cons (de_var 1) da_nil))))) (dss_one (ds_if (dt_cmp (dop_eq hr.units) (de_var 2) (de_str)) (dss_one (ds_expr ((de_meth M_Signs_cut (hr.mono (by decide)) ((de_fld ⟨C_Text_signs, by decide⟩ (de_var 0))) (da_cons ((de_ix dix ((de_ix dix (de_var 1) (de_int))) (de_int))) da_nil))))) (dss_one (ds_if (dt_cmp (dop_eq hr.units) (de_var 2) (de_str)) (dss_one (ds_expr ((de_meth M_Marks_mark (hr.mono (by decide)) ((de_fld ⟨C_Text_marks, by decide⟩ (de_var 0))) (da_cons (de_var 1) da_nil))))) (dss_one (ds_if (dt_cmp (dop_eq hr.units) (de_var 2) (de_str)) (dss_one (ds_expr ((de_meth M_Marks_clear (hr.mono (by decide)) ((de_fld ⟨C_Text_marks, by decide⟩ (de_var 0))) (da_cons (de_var 1) da_nil))))) dss_nil)))))))))
abbrev tb_Text_told : List (Str × DF) := [("Text", d_Text_told)]
abbrev tb_Text_hear : List (Str × DF) := [("Text", d_Text_hear)]
abbrev s__law_meet : Stmt := topS 34
abbrev N__law_meet : List Str := ["_law_texts", "_law_logs", "_law_one", "_law_other", "_law_sent", "_law_back", "_law_deed"]
theorem sc__law_meet : FnScope N__law_meet ["_law_texts", "_law_logs", "_law_one", "_law_other"] (defScope s__law_meet) := ⟨rfl, rfl, rfl, by decide +kernel, rfl, by decide +kernel, by decide +kernel⟩
abbrev m__law_meet : List Bool := [false, false, false, false]
def k1__law_meet : SF :=
  (sSeq (sIf ((tE (eOp gNe ((eMeth "told" tb_Text_told [] ((eOp gIx (eVar 0) (eVar 2))) [])) ((eMeth "told" tb_Text_told [] ((eOp gIx (eVar 0) (eVar 3))) []))))) (sRet (eC (.bool false))) sNext)
  (sRet ((eOp gEq ((eCall d__law_marks m__law_marks [(eOp gIx (eVar 0) (eVar 2))])) ((eCall d__law_marks m__law_marks [(eOp gIx (eVar 0) (eVar 3))]))))))
def k2__law_meet : SF :=
  (sSeq (sPutBL (eVar 1) (eVar 3) ((eBox ((eOpF gAdd ((eUb ((eOpF gIxA ((eUb (eVar 1))) (eVar 3))))) (eVar 4))))))
  (sSeq (sPutBL (eVar 1) (eVar 2) ((eBox ((eOpF gAdd ((eUb ((eOpF gIxA ((eUb (eVar 1))) (eVar 2))))) (eVar 5))))))
  k1__law_meet))
def l1__law_meet : SF :=
  (sDrop ((eMeth "hear" tb_Text_hear [false] ((eOp gIx (eVar 0) (eVar 3))) [eVar 6])))
def l2__law_meet : SF :=
  (sDrop ((eMeth "hear" tb_Text_hear [false] ((eOp gIx (eVar 0) (eVar 2))) [eVar 6])))
def k3__law_meet : SF :=
  (sSeq (sFor (.v 6) (iSeq (eVar 4)) l1__law_meet)
  (sSeq (sFor (.v 6) (iSeq (eVar 5)) l2__law_meet)
  k2__law_meet))
def ce1__law_meet : EF :=
  eVar 6
def ct1__law_meet : TF :=
  (tE (eOp gNotIn (eVar 6) ((eUb ((eOpF gIxA ((eUb (eVar 1))) (eVar 3)))))))
def ce2__law_meet : EF :=
  eVar 6
def ct2__law_meet : TF :=
  (tE (eOp gNotIn (eVar 6) ((eUb ((eOpF gIxA ((eUb (eVar 1))) (eVar 2)))))))
def b__law_meet : SF :=
  (sSeq (sSet 4 (eLc [6] (.v 6) (iSeq ((eUb ((eOpF gIxA ((eUb (eVar 1))) (eVar 2)))))) (ct1__law_meet) (ce1__law_meet)))
  (sSeq (sSet 5 (eLc [6] (.v 6) (iSeq ((eUb ((eOpF gIxA ((eUb (eVar 1))) (eVar 3)))))) (ct2__law_meet) (ce2__law_meet)))
  k3__law_meet))
def d__law_meet : DF := dDef 7 m__law_meet b__law_meet
theorem ok__law_meet {f : Addr} {fd : FuncData} (T : TX mg) (G__law_marks : Df P w K mg base 4 "_law_marks" m__law_marks d__law_marks) (M_Text_told : Mf P w K mg base 6 "told" [] tb_Text_told) (M_Text_hear : Mf P w K mg base 5 "hear" [false] tb_Text_hear) (F : FnP K "_law_meet" "_law_meet" s__law_meet f fd) : FnOk P w K mg base CX0 7 f fd ["_law_texts", "_law_logs", "_law_one", "_law_other"] (spD ⟨K, mg, w⟩ m__law_meet d__law_meet) := by
  refine fn_denD F sc__law_meet rfl fun cdv A outer s H E hr => ?_
  exact (dss_cons (ds_setLc (i := 4) (own := [("_law_deed", 6)]) rfl sc__law_meet.nd rfl rfl (sw_true rfl rfl rfl (by decide +kernel)) (di_seq ((de_ub ((de_ixF (dixa hr.units) ((de_ub (de_var 1))) (de_var 2)))))) (blkOk_by (sc := defScope s__law_meet) (own := [("_law_deed", 6)]) (N := N__law_meet) (by decide +kernel)) (fun _ _ _ _ _ => (dg_name sc__law_meet.nd rfl (Or.inl rfl))) (fun _ _ _ _ _ => (dts_one ((dt_cmp (dop_notIn hr.units) (de_var 6) ((de_ub ((de_ixF (dixa hr.units) ((de_ub (de_var 1))) (de_var 3))))))))) (fun _ _ _ _ _ => de_var 6) (by decide))
  (dss_cons (ds_setLc (i := 5) (own := [("_law_deed", 6)]) rfl sc__law_meet.nd rfl rfl (sw_true rfl rfl rfl (by decide +kernel)) (di_seq ((de_ub ((de_ixF (dixa hr.units) ((de_ub (de_var 1))) (de_var 3)))))) (blkOk_by (sc := defScope s__law_meet) (own := [("_law_deed", 6)]) (N := N__law_meet) (by decide +kernel)) (fun _ _ _ _ _ => (dg_name sc__law_meet.nd rfl (Or.inl rfl))) (fun _ _ _ _ _ => (dts_one ((dt_cmp (dop_notIn hr.units) (de_var 6) ((de_ub ((de_ixF (dixa hr.units) ((de_ub (de_var 1))) (de_var 2))))))))) (fun _ _ _ _ _ => de_var 6) (by decide))
  (dss_cons (ds_for PassesOwn.never rfl (di_seq (de_var 4)) (dg_name sc__law_meet.nd rfl (Or.inl rfl)) (dss_one (ds_expr ((de_meth M_Text_hear (hr.mono (by decide)) ((de_ix dix (de_var 0) (de_var 3))) (da_cons (de_var 6) da_nil))))))
  (dss_cons (ds_for PassesOwn.never rfl (di_seq (de_var 5)) (dg_name sc__law_meet.nd rfl (Or.inl rfl)) (dss_one (ds_expr ((de_meth M_Text_hear (hr.mono (by decide)) ((de_ix dix (de_var 0) (de_var 2))) (da_cons (de_var 6) da_nil))))))
  (dss_cons (ds_putBL (de_var 1) (de_var 3) ((de_box ((de_opF dop_add ((de_ub ((de_ixF (dixa hr.units) ((de_ub (de_var 1))) (de_var 3))))) (de_var 4))))))
  (dss_cons (ds_putBL (de_var 1) (de_var 2) ((de_box ((de_opF dop_add ((de_ub ((de_ixF (dixa hr.units) ((de_ub (de_var 1))) (de_var 2))))) (de_var 5))))))
  (dss_cons (ds_if (dt_cmp (dop_ne hr.units) ((de_meth0 M_Text_told (hr.mono (by decide)) ((de_ix dix (de_var 0) (de_var 2))))) ((de_meth0 M_Text_told (hr.mono (by decide)) ((de_ix dix (de_var 0) (de_var 3)))))) (dss_one (ds_ret (de_bl))) dss_nil)
  (dss_one (ds_ret ((de_cmp (dop_eq hr.units) ((de_callD G__law_marks (hr.mono (by decide)) (by rfl) (da_cons ((de_ix dix (de_var 0) (de_var 2))) da_nil))) ((de_callD G__law_marks (hr.mono (by decide)) (by rfl) (da_cons ((de_ix dix (de_var 0) (de_var 3))) da_nil))))))))))))))
theorem df__law_meet {f : Addr} {fd : FuncData} (T : TX mg) (G__law_marks : Df P w K mg base 4 "_law_marks" m__law_marks d__law_marks) (M_Text_told : Mf P w K mg base 6 "told" [] tb_Text_told) (M_Text_hear : Mf P w K mg base 5 "hear" [false] tb_Text_hear) (F : FnP K "_law_meet" "_law_meet" s__law_meet f fd) (hm : mg "_law_meet" = some (.ref f)) : Df P w K mg base 7 "_law_meet" m__law_meet d__law_meet :=
  ⟨f, fd, _, ok__law_meet T G__law_marks M_Text_told M_Text_hear F, hm, F.kp, FunD.bindsN F fun _ _ _ _ _ _ us hl => match us, hl with | [_, _, _, _], _ => rfl⟩
abbrev s__law_name : Stmt := topS 25
abbrev N__law_name : List Str := ["_law_hands_here", "_law_who", "_law_log", "_law_counts", "_law_n", "_law_hand", "_law_deed", "_law_pair"]
theorem sc__law_name : FnScope N__law_name ["_law_hands_here", "_law_who", "_law_log"] (defScope s__law_name) := ⟨rfl, rfl, rfl, by decide +kernel, rfl, by decide +kernel, by decide +kernel⟩
abbrev m__law_name : List Bool := [false, false, false]
def ce1__law_name : EF :=
  eVar 6
def ct1__law_name : TF :=
  (tE (eOp gEq ((eOp gIx ((eOp gIx (eVar 6) (eC (.int 0)))) (eC (.int 0)))) (eVar 5)))
def ce2__law_name : EF :=
  (eTup [eVar 5, (eUn (fun c => gLen [c]) ((eLc [6] (.v 6) (iSeq ((eUb (eVar 2)))) (ct1__law_name) (ce1__law_name))))])
def ce3__law_name : EF :=
  eVar 6
def ct2__law_name : TF :=
  (tE (eOp gEq ((eOp gIx ((eOp gIx (eVar 6) (eC (.int 0)))) (eC (.int 0)))) ((eOp gIx (eVar 0) (eVar 1)))))
def ce4__law_name : EF :=
  eVar 7
def ct3__law_name : TF :=
  (tE (eOp (gCmp .gt) ((eOp gIx (eVar 7) (eC (.int 1)))) (eC (.int 0))))
def b__law_name : SF :=
  (sSeq (sSet 3 (eLc [5] (.v 5) (iSeq ((eUn (fun c => gSorted [c]) (eVar 0)))) (tYesD) (ce2__law_name)))
  (sSeq (sSet 4 ((eOp gAdd (eC (.int 1)) ((eUn (fun c => gLen [c]) ((eLc [6] (.v 6) (iSeq ((eUb (eVar 2)))) (ct2__law_name) (ce3__law_name))))))))
  (sRet ((eTup [(eTup [(eOp gIx (eVar 0) (eVar 1)), eVar 4]), (eUn (fun c => gTuple [c]) ((eLc [7] (.v 7) (iSeq (eVar 3)) (ct3__law_name) (ce4__law_name))))])))))
def d__law_name : DF := dDef 8 m__law_name b__law_name
theorem ok__law_name {f : Addr} {fd : FuncData} (T : TX mg)  (F : FnP K "_law_name" "_law_name" s__law_name f fd) : FnOk P w K mg base CX0 1 f fd ["_law_hands_here", "_law_who", "_law_log"] (spD ⟨K, mg, w⟩ m__law_name d__law_name) := by
  refine fn_denD F sc__law_name rfl fun cdv A outer s H E hr => ?_
  exact (dss_cons (ds_setLc (i := 3) (own := [("_law_hand", 5)]) rfl sc__law_name.nd rfl rfl (sw_true rfl rfl rfl (by decide +kernel)) (di_seq ((de_bi1 (dcl_sorted hr.units) (by rfl) T.sorted (by decide +kernel) (de_var 0)))) (blkOk_by (sc := defScope s__law_name) (own := [("_law_hand", 5)]) (N := N__law_name) (by decide +kernel)) (fun _ _ _ _ _ => (dg_name sc__law_name.nd rfl (Or.inr rfl))) (fun _ _ _ _ _ => dts_nil) (fun _ _ _ _ _ => (de_tup (da_cons (de_var 5) (da_cons ((de_bi1 dcl_len (by rfl) T.len (by decide +kernel) ((de_lc (own := [("_law_deed", 6)]) rfl sc__law_name.nd (di_seq ((de_ub (de_var 2)))) (blkOk_by (by kernel_rfl)) (fun _ _ _ _ _ => (dg_name sc__law_name.nd rfl (Or.inl rfl))) (fun _ _ _ _ _ => (dts_one ((dt_cmp (dop_eq hr.units) ((de_ix dix ((de_ix dix (de_var 6) (de_int))) (de_int))) (de_var 5))))) (fun _ _ _ _ _ => de_var 6) (by decide))))) da_nil)))) (by decide))
  (dss_cons (ds_set (i := 4) sc__law_name.nd rfl (Or.inl rfl) ((de_op dop_add (de_int) ((de_bi1 dcl_len (by rfl) T.len (by decide +kernel) ((de_lc (own := [("_law_deed", 6)]) rfl sc__law_name.nd (di_seq ((de_ub (de_var 2)))) (blkOk_by (sc := defScope s__law_name) (own := [("_law_deed", 6)]) (N := N__law_name) (by decide +kernel)) (fun _ _ _ _ _ => (dg_name sc__law_name.nd rfl (Or.inl rfl))) (fun _ _ _ _ _ => (dts_one ((dt_cmp (dop_eq hr.units) ((de_ix dix ((de_ix dix (de_var 6) (de_int))) (de_int))) ((de_ix dix (de_var 0) (de_var 1))))))) (fun _ _ _ _ _ => de_var 6) (by decide))))))))
  (dss_one (ds_ret ((de_tup (da_cons ((de_tup (da_cons ((de_ix dix (de_var 0) (de_var 1))) (da_cons (de_var 4) da_nil)))) (da_cons ((de_ty1 dcl_tuple (by rfl) T.tuple (by decide +kernel) ((de_lc (own := [("_law_pair", 7)]) rfl sc__law_name.nd (di_seq (de_var 3)) (blkOk_by (sc := defScope s__law_name) (own := [("_law_pair", 7)]) (N := N__law_name) (by decide +kernel)) (fun _ _ _ _ _ => (dg_name sc__law_name.nd rfl (Or.inl rfl))) (fun _ _ _ _ _ => (dts_one ((dt_cmp (dop_gt hr.units) ((de_ix dix (de_var 7) (de_int))) (de_int))))) (fun _ _ _ _ _ => de_var 7) (by decide))))) da_nil))))))))
theorem df__law_name {f : Addr} {fd : FuncData} (T : TX mg)  (F : FnP K "_law_name" "_law_name" s__law_name f fd) (hm : mg "_law_name" = some (.ref f)) : Df P w K mg base 1 "_law_name" m__law_name d__law_name :=
  ⟨f, fd, _, ok__law_name T  F, hm, F.kp, FunD.bindsN F fun _ _ _ _ _ _ us hl => match us, hl with | [_, _, _], _ => rfl⟩
abbrev s__law_mixed : Stmt := topS 23
abbrev N__law_mixed : List Str := ["_law_cell", "_law_k", "_law_number"]
theorem sc__law_mixed : FnScope N__law_mixed ["_law_cell", "_law_k"] (defScope s__law_mixed) := ⟨rfl, rfl, rfl, by decide +kernel, rfl, by decide +kernel, by decide +kernel⟩
abbrev m__law_mixed : List Bool := [false, false]
def b__law_mixed : SF :=
  (sSeq (sIf ((tAndD ((tE (eOp gEq ((eOp gMod (eVar 0) (eC (.int 2)))) (eC (.int 1))))) ((tE (eOp (gCmp .gt) (eVar 0) ((eOp gPow (eC (.int 10)) (eC (.int 9))))))))) (sRet ((eOp gMod ((eOp gDiv (eVar 0) (eC (.int 2)))) ((eOp gPow (eC (.int 10)) (eC (.int 9))))))) sNext)
  (sSeq (sSet 2 ((eOp gMod ((eOp gMul ((eOp gAdd ((eOp gAdd (eVar 0) ((eOp gMul (eC (.int 7919)) (eVar 1))))) (eC (.int 1)))) (eC (.int 48271)))) (eC (.int 2147483647)))))
  (sRet ((eOp gMod ((eOp gMul (eVar 2) ((eOp gAdd ((eOp gDiv (eVar 2) (eC (.int 1009)))) (eC (.int 69621)))))) (eC (.int 2147483647)))))))
def d__law_mixed : DF := dDef 3 m__law_mixed b__law_mixed
theorem ok__law_mixed {f : Addr} {fd : FuncData} (T : TX mg)  (F : FnP K "_law_mixed" "_law_mixed" s__law_mixed f fd) : FnOk P w K mg base CX0 1 f fd ["_law_cell", "_law_k"] (spD ⟨K, mg, w⟩ m__law_mixed d__law_mixed) := by
  refine fn_denD F sc__law_mixed rfl fun cdv A outer s H E hr => ?_
  exact (dss_cons (ds_if (dw_dt (dw_and ((dt_cmp (dop_eq hr.units) ((de_op dop_mod (de_var 0) (de_int))) (de_int))) (dw_and1 ((dt_cmp (dop_gt hr.units) (de_var 0) ((de_op dop_pow (de_int) (de_int)))))))) (dss_one (ds_ret ((de_op dop_mod ((de_op dop_div (de_var 0) (de_int))) ((de_op dop_pow (de_int) (de_int))))))) dss_nil)
  (dss_cons (ds_set (i := 2) sc__law_mixed.nd rfl (Or.inl rfl) ((de_op dop_mod ((de_op dop_mul ((de_op dop_add ((de_op dop_add (de_var 0) ((de_op dop_mul (de_int) (de_var 1))))) (de_int))) (de_int))) (de_int))))
  (dss_one (ds_ret ((de_op dop_mod ((de_op dop_mul (de_var 2) ((de_op dop_add ((de_op dop_div (de_var 2) (de_int))) (de_int))))) (de_int)))))))
theorem df__law_mixed {f : Addr} {fd : FuncData} (T : TX mg)  (F : FnP K "_law_mixed" "_law_mixed" s__law_mixed f fd) (hm : mg "_law_mixed" = some (.ref f)) : Df P w K mg base 1 "_law_mixed" m__law_mixed d__law_mixed :=
  ⟨f, fd, _, ok__law_mixed T  F, hm, F.kp, FunD.bindsN F fun _ _ _ _ _ _ us hl => match us, hl with | [_, _], _ => rfl⟩
abbrev s_gap : Stmt := topS 11
abbrev N_gap : List Str := ["left", "right"]
theorem sc_gap : FnScope N_gap ["left", "right"] (defScope s_gap) := ⟨rfl, rfl, rfl, by decide +kernel, rfl, by decide +kernel, by decide +kernel⟩
abbrev m_gap : List Bool := [false, false]
def b_gap : SF :=
  (sSeq (sIf ((tE (eOp gIsN (eVar 1) (eC .none)))) (sRet ((eTup [eVar 0, eC (.int 1)]))) sNext)
  (sSeq (sIf ((tNotD ((tE ((eCall d_before m_before [eVar 0, eVar 1])))))) sFail sNext)
  (sSeq (sIf ((tE (eOp gEq ((eSl (eVar 1) none (some ((eUn (fun c => gLen [c]) (eVar 0)))))) (eVar 0)))) (sRet ((eTup [eVar 1, (eUn gNeg (eC (.int 1)))]))) sNext)
  (sRet ((eTup [eVar 0, eC (.int 1)]))))))
def d_gap : DF := dDef 2 m_gap b_gap
theorem ok_gap {f : Addr} {fd : FuncData} (T : TX mg) (G_before : Df P w K mg base 2 "before" m_before d_before) (F : FnP K "gap" "gap" s_gap f fd) : FnOk P w K mg base CX0 3 f fd ["left", "right"] (spD ⟨K, mg, w⟩ m_gap d_gap) := by
  refine fn_denD F sc_gap rfl fun cdv A outer s H E hr => ?_
  exact (dss_cons (ds_if (dt_cmp dop_isN (de_var 1) (de_non)) (dss_one (ds_ret ((de_tup (da_cons (de_var 0) (da_cons (de_int) da_nil)))))) dss_nil)
  (dss_cons (ds_if (dt_not ((dt_val ((de_callD G_before (hr.mono (by decide)) (by rfl) (da_cons (de_var 0) (da_cons (de_var 1) da_nil))))))) (dss_one ds_fail) dss_nil)
  (dss_cons (ds_if (dt_cmp (dop_eq hr.units) ((de_slice (de_var 1) dpart_none (dpart_some ((de_bi1 dcl_len (by rfl) T.len (by decide +kernel) (de_var 0)))))) (de_var 0)) (dss_one (ds_ret ((de_tup (da_cons (de_var 1) (da_cons ((de_neg (de_int))) da_nil)))))) dss_nil)
  (dss_one (ds_ret ((de_tup (da_cons (de_var 0) (da_cons (de_int) da_nil)))))))))
theorem df_gap {f : Addr} {fd : FuncData} (T : TX mg) (G_before : Df P w K mg base 2 "before" m_before d_before) (F : FnP K "gap" "gap" s_gap f fd) (hm : mg "gap" = some (.ref f)) : Df P w K mg base 3 "gap" m_gap d_gap :=
  ⟨f, fd, _, ok_gap T G_before F, hm, F.kp, FunD.bindsN F fun _ _ _ _ _ _ us hl => match us, hl with | [_, _], _ => rfl⟩
abbrev s__law_act : Stmt := topS 26
abbrev N__law_act : List Str := ["_law_places", "_law_cell", "_law_number", "_law_way", "_law_at", "_law_left", "_law_right", "_law_under", "_law_side", "_law_far", "_law_word"]
theorem sc__law_act : FnScope N__law_act ["_law_places", "_law_cell"] (defScope s__law_act) := ⟨rfl, rfl, rfl, by decide +kernel, rfl, by decide +kernel, by decide +kernel⟩
abbrev m__law_act : List Bool := [false, false]
def b__law_act : SF :=
  (sSeq (sSet 2 ((eCall d__law_mixed m__law_mixed [eVar 1, eC (.int 1)])))
  (sSeq (sSet 3 ((eOp gMod (eVar 2) (eC (.int 7)))))
  (sSeq (sIf ((tOrD ((tE (eOp (gCmp .lt) (eVar 3) (eC (.int 3))))) ((tE (eOp gEq (eVar 0) ((eLst []))))))) (sSeq (sSet 4 ((eOp gMod ((eOp gDiv (eVar 2) (eC (.int 7)))) ((eOp gAdd ((eUn (fun c => gLen [c]) (eVar 0))) (eC (.int 1)))))))
  (sSeq (sSet 5 ((eTup [])))
  (sSeq (sSet 6 (eC .none))
  (sSeq (sIf ((tE (eOp (gCmp .gt) (eVar 4) (eC (.int 0))))) (sSet 5 ((eOp gIx (eVar 0) ((eOp gSub (eVar 4) (eC (.int 1))))))) sNext)
  (sSeq (sIf ((tE (eOp (gCmp .lt) (eVar 4) ((eUn (fun c => gLen [c]) (eVar 0)))))) (sSet 6 ((eOp gIx (eVar 0) (eVar 4)))) sNext)
  (sSeq (sBind (.t [7, 8]) ((eCall d_gap m_gap [eVar 5, eVar 6])))
  (sRet ((eTup [eC (.str "write"), (eTup [eC (.str "t"), eC (.int 1)]), eVar 7, eVar 8, (eSl (eC (.str "ab Z~9,!")) (some ((eOp gMod ((eOp gDiv (eVar 2) (eC (.int 11)))) (eC (.int 5))))) (some ((eOp gAdd ((eOp gAdd ((eOp gMod ((eOp gDiv (eVar 2) (eC (.int 11)))) (eC (.int 5)))) (eC (.int 1)))) ((eOp gMod ((eOp gDiv (eVar 2) (eC (.int 301)))) (eC (.int 4))))))))]))))))))) sNext)
  (sSeq (sSet 4 ((eOp gMod ((eOp gDiv (eVar 2) (eC (.int 7)))) ((eUn (fun c => gLen [c]) (eVar 0))))))
  (sSeq (sIf ((tE (eOp gEq (eVar 3) (eC (.int 3))))) (sRet ((eTup [eC (.str "cut"), (eTup [eC (.str "t"), eC (.int 1)]), (eUn (fun c => gTuple [c]) ((eSl (eVar 0) (some (eVar 4)) (some ((eOp gAdd ((eOp gAdd (eVar 4) (eC (.int 1)))) ((eOp gMod ((eOp gDiv (eVar 2) (eC (.int 301)))) (eC (.int 3))))))))))]))) sNext)
  (sSeq (sSet 9 ((eOp gAdd (eVar 4) ((eOp gMod ((eOp gDiv (eVar 2) (eC (.int 307)))) ((eOp gSub ((eUn (fun c => gLen [c]) (eVar 0))) (eVar 4))))))))
  (sSeq (sSet 10 ((eOp gIx ((eLst [eC (.str "a"), eC (.str "ab"), eC (.str "bold")])) ((eOp gMod ((eOp gDiv (eVar 2) (eC (.int 7001)))) (eC (.int 3)))))))
  (sSeq (sIf ((tE (eOp gEq (eVar 3) (eC (.int 6))))) (sRet ((eTup [eC (.str "clear"), (eTup [eC (.str "t"), eC (.int 1)]), (eOp gIx (eVar 0) (eVar 4)), (eOp gIx (eVar 0) (eVar 9)), eVar 10]))) sNext)
  (sRet ((eTup [eC (.str "mark"), (eTup [eC (.str "t"), eC (.int 1)]), (eOp gIx (eVar 0) (eVar 4)), (eOp gIx (eVar 0) (eVar 9)), eVar 10])))))))))))
def d__law_act : DF := dDef 11 m__law_act b__law_act
theorem ok__law_act {f : Addr} {fd : FuncData} (T : TX mg) (G__law_mixed : Df P w K mg base 1 "_law_mixed" m__law_mixed d__law_mixed) (G_gap : Df P w K mg base 3 "gap" m_gap d_gap) (F : FnP K "_law_act" "_law_act" s__law_act f fd) : FnOk P w K mg base CX0 4 f fd ["_law_places", "_law_cell"] (spD ⟨K, mg, w⟩ m__law_act d__law_act) := by
  refine fn_denD F sc__law_act rfl fun cdv A outer s H E hr => ?_
  exact (dss_cons (ds_set (i := 2) sc__law_act.nd rfl (Or.inl rfl) ((de_callD G__law_mixed (hr.mono (by decide)) (by rfl) (da_cons (de_var 1) (da_cons (de_int) da_nil)))))
  (dss_cons (ds_set (i := 3) sc__law_act.nd rfl (Or.inl rfl) ((de_op dop_mod (de_var 2) (de_int))))
  (dss_cons (ds_if (dw_dt (dw_or ((dt_cmp (dop_lt hr.units) (de_var 3) (de_int))) (dw_or1 ((dt_cmp (dop_eq hr.units) (de_var 0) ((de_lst da_nil))))))) (dss_cons (ds_set (i := 4) sc__law_act.nd rfl (Or.inl rfl) ((de_op dop_mod ((de_op dop_div (de_var 2) (de_int))) ((de_op dop_add ((de_bi1 dcl_len (by rfl) T.len (by decide +kernel) (de_var 0))) (de_int))))))
  (dss_cons (ds_set (i := 5) sc__law_act.nd rfl (Or.inl rfl) ((de_tup da_nil)))
  (dss_cons (ds_set (i := 6) sc__law_act.nd rfl (Or.inl rfl) (de_non))
  (dss_cons (ds_if (dt_cmp (dop_gt hr.units) (de_var 4) (de_int)) (dss_one (ds_set (i := 5) sc__law_act.nd rfl (Or.inl rfl) ((de_ix dix (de_var 0) ((de_op dop_sub (de_var 4) (de_int))))))) dss_nil)
  (dss_cons (ds_if (dt_cmp (dop_lt hr.units) (de_var 4) ((de_bi1 dcl_len (by rfl) T.len (by decide +kernel) (de_var 0)))) (dss_one (ds_set (i := 6) sc__law_act.nd rfl (Or.inl rfl) ((de_ix dix (de_var 0) (de_var 4))))) dss_nil)
  (dss_cons (ds_bind (dg_tup rfl (dgs_cons sc__law_act.nd rfl (Or.inl rfl) (dgs_cons sc__law_act.nd rfl (Or.inl rfl) dgs_nil))) ((de_callD G_gap (hr.mono (by decide)) (by rfl) (da_cons (de_var 5) (da_cons (de_var 6) da_nil)))))
  (dss_one (ds_ret ((de_tup (da_cons (de_str) (da_cons ((de_tup (da_cons (de_str) (da_cons (de_int) da_nil)))) (da_cons (de_var 7) (da_cons (de_var 8) (da_cons ((de_slice (de_str) (dpart_some ((de_op dop_mod ((de_op dop_div (de_var 2) (de_int))) (de_int)))) (dpart_some ((de_op dop_add ((de_op dop_add ((de_op dop_mod ((de_op dop_div (de_var 2) (de_int))) (de_int))) (de_int))) ((de_op dop_mod ((de_op dop_div (de_var 2) (de_int))) (de_int)))))))) da_nil))))))))))))))) dss_nil)
  (dss_cons (ds_set (i := 4) sc__law_act.nd rfl (Or.inl rfl) ((de_op dop_mod ((de_op dop_div (de_var 2) (de_int))) ((de_bi1 dcl_len (by rfl) T.len (by decide +kernel) (de_var 0))))))
  (dss_cons (ds_if (dt_cmp (dop_eq hr.units) (de_var 3) (de_int)) (dss_one (ds_ret ((de_tup (da_cons (de_str) (da_cons ((de_tup (da_cons (de_str) (da_cons (de_int) da_nil)))) (da_cons ((de_ty1 dcl_tuple (by rfl) T.tuple (by decide +kernel) ((de_slice (de_var 0) (dpart_some (de_var 4)) (dpart_some ((de_op dop_add ((de_op dop_add (de_var 4) (de_int))) ((de_op dop_mod ((de_op dop_div (de_var 2) (de_int))) (de_int)))))))))) da_nil))))))) dss_nil)
  (dss_cons (ds_set (i := 9) sc__law_act.nd rfl (Or.inl rfl) ((de_op dop_add (de_var 4) ((de_op dop_mod ((de_op dop_div (de_var 2) (de_int))) ((de_op dop_sub ((de_bi1 dcl_len (by rfl) T.len (by decide +kernel) (de_var 0))) (de_var 4))))))))
  (dss_cons (ds_set (i := 10) sc__law_act.nd rfl (Or.inl rfl) ((de_ix dix ((de_lst (da_cons (de_str) (da_cons (de_str) (da_cons (de_str) da_nil))))) ((de_op dop_mod ((de_op dop_div (de_var 2) (de_int))) (de_int))))))
  (dss_cons (ds_if (dt_cmp (dop_eq hr.units) (de_var 3) (de_int)) (dss_one (ds_ret ((de_tup (da_cons (de_str) (da_cons ((de_tup (da_cons (de_str) (da_cons (de_int) da_nil)))) (da_cons ((de_ix dix (de_var 0) (de_var 4))) (da_cons ((de_ix dix (de_var 0) (de_var 9))) (da_cons (de_var 10) da_nil))))))))) dss_nil)
  (dss_one (ds_ret ((de_tup (da_cons (de_str) (da_cons ((de_tup (da_cons (de_str) (da_cons (de_int) da_nil)))) (da_cons ((de_ix dix (de_var 0) (de_var 4))) (da_cons ((de_ix dix (de_var 0) (de_var 9))) (da_cons (de_var 10) da_nil)))))))))))))))))
theorem df__law_act {f : Addr} {fd : FuncData} (T : TX mg) (G__law_mixed : Df P w K mg base 1 "_law_mixed" m__law_mixed d__law_mixed) (G_gap : Df P w K mg base 3 "gap" m_gap d_gap) (F : FnP K "_law_act" "_law_act" s__law_act f fd) (hm : mg "_law_act" = some (.ref f)) : Df P w K mg base 4 "_law_act" m__law_act d__law_act :=
  ⟨f, fd, _, ok__law_act T G__law_mixed G_gap F, hm, F.kp, FunD.bindsN F fun _ _ _ _ _ _ us hl => match us, hl with | [_, _], _ => rfl⟩
abbrev s__law_written : Stmt := topS 27
abbrev N__law_written : List Str := ["_law_deed", "_law_name_here", "_law_seen", "_law_act_here", "_law_place", "_law_side", "_law_found", "_law_k"]
theorem sc__law_written : FnScope N__law_written ["_law_deed"] (defScope s__law_written) := ⟨rfl, rfl, rfl, by decide +kernel, rfl, by decide +kernel, by decide +kernel⟩
abbrev m__law_written : List Bool := [false]
def l1__law_written : SF :=
  (sSeq (sSet 4 ((eOp gAdd (eVar 4) ((eTup [(eTup [eVar 5, (eOp gIx (eVar 1) (eC (.int 0))), (eOp gIx (eVar 1) (eC (.int 1))), eVar 7])])))))
  (sSeq (sSet 5 (eC (.int 1)))
  (sDrop ((eMut isLst gApp (.sl 6) [(eTup [eVar 4, (eOp gIx ((eOp gIx (eVar 3) (eC (.int 4)))) (eVar 7))])])))))
def b__law_written : SF :=
  (sSeq (sBind (.t [1, 2, 3]) (eVar 0))
  (sSeq (sSet 4 ((eOp gIx (eVar 3) (eC (.int 2)))))
  (sSeq (sSet 5 ((eOp gIx (eVar 3) (eC (.int 3)))))
  (sSeq (sSet 6 ((eLst [])))
  (sSeq (sFor (.v 7) (iRg [(eUn (fun c => gLen [c]) ((eOp gIx (eVar 3) (eC (.int 4)))))]) l1__law_written)
  (sRet (eVar 6)))))))
def d__law_written : DF := dDef 8 m__law_written b__law_written
theorem ok__law_written {f : Addr} {fd : FuncData} (T : TX mg)  (F : FnP K "_law_written" "_law_written" s__law_written f fd) : FnOk P w K mg base CX0 1 f fd ["_law_deed"] (spD ⟨K, mg, w⟩ m__law_written d__law_written) := by
  refine fn_denD F sc__law_written rfl fun cdv A outer s H E hr => ?_
  exact (dss_cons (ds_bind (dg_tup rfl (dgs_cons sc__law_written.nd rfl (Or.inl rfl) (dgs_cons sc__law_written.nd rfl (Or.inl rfl) (dgs_cons sc__law_written.nd rfl (Or.inl rfl) dgs_nil)))) (de_var 0))
  (dss_cons (ds_set (i := 4) sc__law_written.nd rfl (Or.inl rfl) ((de_ix dix (de_var 3) (de_int))))
  (dss_cons (ds_set (i := 5) sc__law_written.nd rfl (Or.inl rfl) ((de_ix dix (de_var 3) (de_int))))
  (dss_cons (ds_set (i := 6) sc__law_written.nd rfl (Or.inl rfl) ((de_lst da_nil)))
  (dss_cons (ds_for PassesOwn.never rfl (di_rg1 (by rfl) T.range ((de_bi1 dcl_len (by rfl) T.len (by decide +kernel) ((de_ix dix (de_var 3) (de_int)))))) (dg_name sc__law_written.nd rfl (Or.inl rfl)) (dss_cons (ds_set (i := 4) sc__law_written.nd rfl (Or.inl rfl) ((de_op dop_add (de_var 4) ((de_tup (da_cons ((de_tup (da_cons (de_var 5) (da_cons ((de_ix dix (de_var 1) (de_int))) (da_cons ((de_ix dix (de_var 1) (de_int))) (da_cons (de_var 7) da_nil)))))) da_nil))))))
  (dss_cons (ds_set (i := 5) sc__law_written.nd rfl (Or.inl rfl) (de_int))
  (dss_one (ds_expr ((de_mutS 6 dm_append rfl (by first | exact Or.inl rfl | exact Or.inr (Or.inl rfl) | exact Or.inr (Or.inr rfl)) (da_cons ((de_tup (da_cons (de_var 4) (da_cons ((de_ix dix ((de_ix dix (de_var 3) (de_int))) (de_var 7))) da_nil)))) da_nil))))))))
  (dss_one (ds_ret (de_var 6))))))))
theorem df__law_written {f : Addr} {fd : FuncData} (T : TX mg)  (F : FnP K "_law_written" "_law_written" s__law_written f fd) (hm : mg "_law_written" = some (.ref f)) : Df P w K mg base 1 "_law_written" m__law_written d__law_written :=
  ⟨f, fd, _, ok__law_written T  F, hm, F.kp, FunD.bindsN F fun _ _ _ _ _ _ us hl => match us, hl with | [_], _ => rfl⟩
abbrev s__law_in : Stmt := topS 30
abbrev N__law_in : List Str := ["_law_place", "_law_act_here"]
theorem sc__law_in : FnScope N__law_in ["_law_place", "_law_act_here"] (defScope s__law_in) := ⟨rfl, rfl, rfl, by decide +kernel, rfl, by decide +kernel, by decide +kernel⟩
abbrev m__law_in : List Bool := [false, false]
def b__law_in : SF :=
  (sRet ((eChain (gCmp .le) (gCmp .le) ((eOp gAdd ((eOp gIx (eVar 1) (eC (.int 2)))) ((eTup [(eTup [eC (.int 0)])])))) ((eOp gAdd (eVar 0) ((eTup [(eTup [eC (.int 0)])])))) ((eOp gAdd ((eOp gIx (eVar 1) (eC (.int 3)))) ((eTup [(eTup [eC (.int 0)])])))))))
def d__law_in : DF := dDef 2 m__law_in b__law_in
theorem ok__law_in {f : Addr} {fd : FuncData} (T : TX mg)  (F : FnP K "_law_in" "_law_in" s__law_in f fd) : FnOk P w K mg base CX0 1 f fd ["_law_place", "_law_act_here"] (spD ⟨K, mg, w⟩ m__law_in d__law_in) := by
  refine fn_denD F sc__law_in rfl fun cdv A outer s H E hr => ?_
  exact (dss_one (ds_ret ((de_chain (dop_le hr.units) (dop_le hr.units) ((de_op dop_add ((de_ix dix (de_var 1) (de_int))) ((de_tup (da_cons ((de_tup (da_cons (de_int) da_nil))) da_nil))))) ((de_op dop_add (de_var 0) ((de_tup (da_cons ((de_tup (da_cons (de_int) da_nil))) da_nil))))) ((de_op dop_add ((de_ix dix (de_var 1) (de_int))) ((de_tup (da_cons ((de_tup (da_cons (de_int) da_nil))) da_nil)))))))))
theorem df__law_in {f : Addr} {fd : FuncData} (T : TX mg)  (F : FnP K "_law_in" "_law_in" s__law_in f fd) (hm : mg "_law_in" = some (.ref f)) : Df P w K mg base 1 "_law_in" m__law_in d__law_in :=
  ⟨f, fd, _, ok__law_in T  F, hm, F.kp, FunD.bindsN F fun _ _ _ _ _ _ us hl => match us, hl with | [_, _], _ => rfl⟩
abbrev s__law_covers : Stmt := topS 28
abbrev N__law_covers : List Str := ["_law_seen", "_law_name_here", "_law_hand", "_law_n"]
theorem sc__law_covers : FnScope N__law_covers ["_law_seen", "_law_name_here"] (defScope s__law_covers) := ⟨rfl, rfl, rfl, by decide +kernel, rfl, by decide +kernel, by decide +kernel⟩
abbrev m__law_covers : List Bool := [false, false]
def ce1__law_covers : EF :=
  eVar 2
def ct1__law_covers : TF :=
  (tAndD ((tE (eOp gEq (eVar 2) ((eOp gIx (eVar 1) (eC (.int 0))))))) ((tE (eOp (gCmp .le) ((eOp gIx (eVar 1) (eC (.int 1)))) (eVar 3)))))
def b__law_covers : SF :=
  (sRet ((eOp gNe ((eLc [2, 3] (.t [2, 3]) (iSeq (eVar 0)) (ct1__law_covers) (ce1__law_covers))) ((eLst [])))))
def d__law_covers : DF := dDef 4 m__law_covers b__law_covers
theorem ok__law_covers {f : Addr} {fd : FuncData} (T : TX mg)  (F : FnP K "_law_covers" "_law_covers" s__law_covers f fd) : FnOk P w K mg base CX0 1 f fd ["_law_seen", "_law_name_here"] (spD ⟨K, mg, w⟩ m__law_covers d__law_covers) := by
  refine fn_denD F sc__law_covers rfl fun cdv A outer s H E hr => ?_
  exact (dss_one (ds_ret ((de_cmp (dop_ne hr.units) ((de_lc (own := [("_law_hand", 2), ("_law_n", 3)]) rfl sc__law_covers.nd (di_seq (de_var 0)) (blkOk_by (sc := defScope s__law_covers) (own := [("_law_hand", 2), ("_law_n", 3)]) (N := N__law_covers) (by decide +kernel)) (fun _ _ _ _ _ => (dg_tup rfl (dgs_cons sc__law_covers.nd rfl (Or.inl rfl) (dgs_cons sc__law_covers.nd rfl (Or.inl rfl) dgs_nil)))) (fun _ _ _ _ _ => (dts_one ((dw_dt (dw_and ((dt_cmp (dop_eq hr.units) (de_var 2) ((de_ix dix (de_var 1) (de_int))))) (dw_and1 ((dt_cmp (dop_le hr.units) ((de_ix dix (de_var 1) (de_int))) (de_var 3))))))))) (fun _ _ _ _ _ => de_var 2) (by decide))) ((de_lst da_nil))))))
theorem df__law_covers {f : Addr} {fd : FuncData} (T : TX mg)  (F : FnP K "_law_covers" "_law_covers" s__law_covers f fd) (hm : mg "_law_covers" = some (.ref f)) : Df P w K mg base 1 "_law_covers" m__law_covers d__law_covers :=
  ⟨f, fd, _, ok__law_covers T  F, hm, F.kp, FunD.bindsN F fun _ _ _ _ _ _ us hl => match us, hl with | [_, _], _ => rfl⟩
abbrev s__law_words : Stmt := topS 31
abbrev N__law_words : List Str := ["_law_log", "_law_place", "_law_marks_here", "_law_clears", "_law_found", "_law_deed", "_law_word", "_law_holes", "_law_one"]
theorem sc__law_words : FnScope N__law_words ["_law_log", "_law_place"] (defScope s__law_words) := ⟨rfl, rfl, rfl, by decide +kernel, rfl, by decide +kernel, by decide +kernel⟩
abbrev m__law_words : List Bool := [false, false]
def ce1__law_words : EF :=
  eVar 5
def ct1__law_words : TF :=
  (tAndD ((tE (eOp gEq ((eOp gIx ((eOp gIx (eVar 5) (eC (.int 2)))) (eC (.int 0)))) (eC (.str "mark"))))) ((tE ((eCall d__law_in m__law_in [eVar 1, (eOp gIx (eVar 5) (eC (.int 2)))])))))
def ce2__law_words : EF :=
  eVar 5
def ct2__law_words : TF :=
  (tAndD ((tE (eOp gEq ((eOp gIx ((eOp gIx (eVar 5) (eC (.int 2)))) (eC (.int 0)))) (eC (.str "clear"))))) ((tE ((eCall d__law_in m__law_in [eVar 1, (eOp gIx (eVar 5) (eC (.int 2)))])))))
def ce3__law_words : EF :=
  eVar 8
def ct3__law_words : TF :=
  (tAndD ((tE (eOp gEq ((eOp gIx ((eOp gIx (eVar 8) (eC (.int 2)))) (eC (.int 4)))) (eVar 6)))) ((tE ((eCall d__law_covers m__law_covers [(eOp gIx (eVar 8) (eC (.int 1))), (eOp gIx (eVar 5) (eC (.int 0)))])))))
def l1__law_words : SF :=
  (sSeq (sSet 6 ((eOp gIx ((eOp gIx (eVar 5) (eC (.int 2)))) (eC (.int 4)))))
  (sSeq (sSet 7 (eLc [8] (.v 8) (iSeq (eVar 3)) (ct3__law_words) (ce3__law_words)))
  (sIf ((tAndD ((tE (eOp gEq (eVar 7) ((eLst []))))) ((tE (eOp gNotIn (eVar 6) (eVar 4)))))) (sDrop ((eMut isLst gApp (.sl 4) [eVar 6]))) sNext)))
def b__law_words : SF :=
  (sSeq (sSet 2 (eLc [5] (.v 5) (iSeq ((eUb (eVar 0)))) (ct1__law_words) (ce1__law_words)))
  (sSeq (sSet 3 (eLc [5] (.v 5) (iSeq ((eUb (eVar 0)))) (ct2__law_words) (ce2__law_words)))
  (sSeq (sSet 4 ((eLst [])))
  (sSeq (sFor (.v 5) (iSeq (eVar 2)) l1__law_words)
  (sRet ((eUn (fun c => gSorted [c]) (eVar 4))))))))
def d__law_words : DF := dDef 9 m__law_words b__law_words
theorem ok__law_words {f : Addr} {fd : FuncData} (T : TX mg) (G__law_in : Df P w K mg base 1 "_law_in" m__law_in d__law_in) (G__law_covers : Df P w K mg base 1 "_law_covers" m__law_covers d__law_covers) (F : FnP K "_law_words" "_law_words" s__law_words f fd) : FnOk P w K mg base CX0 2 f fd ["_law_log", "_law_place"] (spD ⟨K, mg, w⟩ m__law_words d__law_words) := by
  refine fn_denD F sc__law_words rfl fun cdv A outer s H E hr => ?_
  exact (dss_cons (ds_setLc (i := 2) (own := [("_law_deed", 5)]) rfl sc__law_words.nd rfl rfl (sw_true rfl rfl rfl (by decide +kernel)) (di_seq ((de_ub (de_var 0)))) (blkOk_by (sc := defScope s__law_words) (own := [("_law_deed", 5)]) (N := N__law_words) (by decide +kernel)) (fun _ _ _ _ _ => (dg_name sc__law_words.nd rfl (Or.inl rfl))) (fun _ _ _ _ _ => (dts_one ((dw_dt (dw_and ((dt_cmp (dop_eq hr.units) ((de_ix dix ((de_ix dix (de_var 5) (de_int))) (de_int))) (de_str))) (dw_and1 ((dt_val ((de_callD G__law_in (hr.mono (by decide)) (by rfl) (da_cons (de_var 1) (da_cons ((de_ix dix (de_var 5) (de_int))) da_nil)))))))))))) (fun _ _ _ _ _ => de_var 5) (by decide))
  (dss_cons (ds_setLc (i := 3) (own := [("_law_deed", 5)]) rfl sc__law_words.nd rfl rfl (sw_true rfl rfl rfl (by decide +kernel)) (di_seq ((de_ub (de_var 0)))) (blkOk_by (sc := defScope s__law_words) (own := [("_law_deed", 5)]) (N := N__law_words) (by decide +kernel)) (fun _ _ _ _ _ => (dg_name sc__law_words.nd rfl (Or.inl rfl))) (fun _ _ _ _ _ => (dts_one ((dw_dt (dw_and ((dt_cmp (dop_eq hr.units) ((de_ix dix ((de_ix dix (de_var 5) (de_int))) (de_int))) (de_str))) (dw_and1 ((dt_val ((de_callD G__law_in (hr.mono (by decide)) (by rfl) (da_cons (de_var 1) (da_cons ((de_ix dix (de_var 5) (de_int))) da_nil)))))))))))) (fun _ _ _ _ _ => de_var 5) (by decide))
  (dss_cons (ds_set (i := 4) sc__law_words.nd rfl (Or.inl rfl) ((de_lst da_nil)))
  (dss_cons (ds_for PassesOwn.never rfl (di_seq (de_var 2)) (dg_name sc__law_words.nd rfl (Or.inr rfl)) (dss_cons (ds_set (i := 6) sc__law_words.nd rfl (Or.inr rfl) ((de_ix dix ((de_ix dix (de_var 5) (de_int))) (de_int))))
  (dss_cons (ds_setLc (i := 7) (own := [("_law_one", 8)]) rfl sc__law_words.nd rfl rfl (sw_true rfl rfl rfl (by decide +kernel)) (di_seq (de_var 3)) (blkOk_by (sc := defScope s__law_words) (own := [("_law_one", 8)]) (N := N__law_words) (by decide +kernel)) (fun _ _ _ _ _ => (dg_name sc__law_words.nd rfl (Or.inl rfl))) (fun _ _ _ _ _ => (dts_one ((dw_dt (dw_and ((dt_cmp (dop_eq hr.units) ((de_ix dix ((de_ix dix (de_var 8) (de_int))) (de_int))) (de_var 6))) (dw_and1 ((dt_val ((de_callD G__law_covers (hr.mono (by decide)) (by rfl) (da_cons ((de_ix dix (de_var 8) (de_int))) (da_cons ((de_ix dix (de_var 5) (de_int))) da_nil)))))))))))) (fun _ _ _ _ _ => de_var 8) (by decide))
  (dss_one (ds_if (dw_dt (dw_and ((dt_cmp (dop_eq hr.units) (de_var 7) ((de_lst da_nil)))) (dw_and1 ((dt_cmp (dop_notIn hr.units) (de_var 6) (de_var 4)))))) (dss_one (ds_expr ((de_mutS 4 dm_append rfl (by first | exact Or.inl rfl | exact Or.inr (Or.inl rfl) | exact Or.inr (Or.inr rfl)) (da_cons (de_var 6) da_nil))))) dss_nil)))))
  (dss_one (ds_ret ((de_bi1 (dcl_sorted hr.units) (by rfl) T.sorted (by decide +kernel) (de_var 4)))))))))
theorem df__law_words {f : Addr} {fd : FuncData} (T : TX mg) (G__law_in : Df P w K mg base 1 "_law_in" m__law_in d__law_in) (G__law_covers : Df P w K mg base 1 "_law_covers" m__law_covers d__law_covers) (F : FnP K "_law_words" "_law_words" s__law_words f fd) (hm : mg "_law_words" = some (.ref f)) : Df P w K mg base 2 "_law_words" m__law_words d__law_words :=
  ⟨f, fd, _, ok__law_words T G__law_in G__law_covers F, hm, F.kp, FunD.bindsN F fun _ _ _ _ _ _ us hl => match us, hl with | [_, _], _ => rfl⟩
abbrev s__law_key : Stmt := topS 29
abbrev N__law_key : List Str := ["_law_row"]
theorem sc__law_key : FnScope N__law_key ["_law_row"] (defScope s__law_key) := ⟨rfl, rfl, rfl, by decide +kernel, rfl, by decide +kernel, by decide +kernel⟩
abbrev m__law_key : List Bool := [false]
def b__law_key : SF :=
  (sRet ((eOp gAdd ((eOp gIx (eVar 0) (eC (.int 0)))) ((eTup [(eTup [eC (.int 0)])])))))
def d__law_key : DF := dDef 1 m__law_key b__law_key
theorem ok__law_key {f : Addr} {fd : FuncData} (T : TX mg)  (F : FnP K "_law_key" "_law_key" s__law_key f fd) : FnOk P w K mg base CX0 1 f fd ["_law_row"] (spD ⟨K, mg, w⟩ m__law_key d__law_key) := by
  refine fn_denD F sc__law_key rfl fun cdv A outer s H E hr => ?_
  exact (dss_one (ds_ret ((de_op dop_add ((de_ix dix (de_var 0) (de_int))) ((de_tup (da_cons ((de_tup (da_cons (de_int) da_nil))) da_nil)))))))
theorem df__law_key {f : Addr} {fd : FuncData} (T : TX mg)  (F : FnP K "_law_key" "_law_key" s__law_key f fd) (hm : mg "_law_key" = some (.ref f)) : Df P w K mg base 1 "_law_key" m__law_key d__law_key :=
  ⟨f, fd, _, ok__law_key T  F, hm, F.kp, FunD.bindsN F fun _ _ _ _ _ _ us hl => match us, hl with | [_], _ => rfl⟩
abbrev s__law_due : Stmt := topS 32
abbrev N__law_due : List Str := ["_law_log", "_law_gone", "_law_signs", "_law_deed", "_law_rows", "_law_row", "_law_place", "_law_sign"]
theorem sc__law_due : FnScope N__law_due ["_law_log"] (defScope s__law_due) := ⟨rfl, rfl, rfl, by decide +kernel, rfl, by decide +kernel, by decide +kernel⟩
abbrev m__law_due : List Bool := [false]
def l1__law_due : SF :=
  (sSeq (sIf ((tE (eOp gEq ((eOp gIx ((eOp gIx (eVar 3) (eC (.int 2)))) (eC (.int 0)))) (eC (.str "cut"))))) (sSet 1 ((eOp gAdd (eVar 1) ((eUn (fun c => gList [c]) ((eOp gIx ((eOp gIx (eVar 3) (eC (.int 2)))) (eC (.int 2))))))))) sNext)
  (sIf ((tE (eOp gEq ((eOp gIx ((eOp gIx (eVar 3) (eC (.int 2)))) (eC (.int 0)))) (eC (.str "write"))))) (sSet 2 ((eOp gAdd (eVar 2) ((eCall d__law_written m__law_written [eVar 3]))))) sNext))
def ce1__law_due : EF :=
  eVar 5
def ct1__law_due : TF :=
  (tE (eOp gNotIn ((eOp gIx (eVar 5) (eC (.int 0)))) (eVar 1)))
def ce2__law_due : EF :=
  (eTup [eVar 6, eVar 7, (eCall d__law_words m__law_words [eVar 0, eVar 6])])
def b__law_due : SF :=
  (sSeq (sSet 1 ((eLst [])))
  (sSeq (sSet 2 ((eLst [])))
  (sSeq (sFor (.v 3) (iSeq ((eUb (eVar 0)))) l1__law_due)
  (sSeq (sSet 4 ((eUn (gSortK d__law_key false) ((eLc [5] (.v 5) (iSeq (eVar 2)) (ct1__law_due) (ce1__law_due))))))
  (sRet ((eLc [6, 7] (.t [6, 7]) (iSeq (eVar 4)) (tYesD) (ce2__law_due))))))))
def d__law_due : DF := dDef 8 m__law_due b__law_due
theorem ok__law_due {f : Addr} {fd : FuncData} (T : TX mg) (G__law_written : Df P w K mg base 1 "_law_written" m__law_written d__law_written) (G__law_words : Df P w K mg base 2 "_law_words" m__law_words d__law_words) (G__law_key : Df P w K mg base 1 "_law_key" m__law_key d__law_key) (F : FnP K "_law_due" "_law_due" s__law_due f fd) : FnOk P w K mg base CX0 4 f fd ["_law_log"] (spD ⟨K, mg, w⟩ m__law_due d__law_due) := by
  refine fn_denD F sc__law_due rfl fun cdv A outer s H E hr => ?_
  exact (dss_cons (ds_set (i := 1) sc__law_due.nd rfl (Or.inr rfl) ((de_lst da_nil)))
  (dss_cons (ds_set (i := 2) sc__law_due.nd rfl (Or.inl rfl) ((de_lst da_nil)))
  (dss_cons (ds_for PassesOwn.never rfl (di_seq ((de_ub (de_var 0)))) (dg_name sc__law_due.nd rfl (Or.inl rfl)) (dss_cons (ds_if (dt_cmp (dop_eq hr.units) ((de_ix dix ((de_ix dix (de_var 3) (de_int))) (de_int))) (de_str)) (dss_one (ds_set (i := 1) sc__law_due.nd rfl (Or.inr rfl) ((de_op dop_add (de_var 1) ((de_ty1 dcl_list (by rfl) T.list (by decide +kernel) ((de_ix dix ((de_ix dix (de_var 3) (de_int))) (de_int))))))))) dss_nil)
  (dss_one (ds_if (dt_cmp (dop_eq hr.units) ((de_ix dix ((de_ix dix (de_var 3) (de_int))) (de_int))) (de_str)) (dss_one (ds_set (i := 2) sc__law_due.nd rfl (Or.inl rfl) ((de_op dop_add (de_var 2) ((de_callD G__law_written (hr.mono (by decide)) (by rfl) (da_cons (de_var 3) da_nil))))))) dss_nil))))
  (dss_cons (ds_set (i := 4) sc__law_due.nd rfl (Or.inl rfl) ((de_sortK G__law_key (hr.mono (by decide)) (by rfl) ((de_lc (own := [("_law_row", 5)]) rfl sc__law_due.nd (di_seq (de_var 2)) (blkOk_by (sc := defScope s__law_due) (own := [("_law_row", 5)]) (N := N__law_due) (by decide +kernel)) (fun _ _ _ _ _ => (dg_name sc__law_due.nd rfl (Or.inl rfl))) (fun _ _ _ _ _ => (dts_one ((dt_cmp (dop_notIn hr.units) ((de_ix dix (de_var 5) (de_int))) (de_var 1))))) (fun _ _ _ _ _ => de_var 5) (by decide))) (by rfl) T.sorted (by decide +kernel))))
  (dss_one (ds_ret ((de_lc (own := [("_law_place", 6), ("_law_sign", 7)]) rfl sc__law_due.nd (di_seq (de_var 4)) (blkOk_by (sc := defScope s__law_due) (own := [("_law_place", 6), ("_law_sign", 7)]) (N := N__law_due) (by decide +kernel)) (fun _ _ _ _ _ => (dg_tup rfl (dgs_cons sc__law_due.nd rfl (Or.inl rfl) (dgs_cons sc__law_due.nd rfl (Or.inl rfl) dgs_nil)))) (fun _ _ _ _ _ => dts_nil) (fun _ _ _ _ _ => (de_tup (da_cons (de_var 6) (da_cons (de_var 7) (da_cons ((de_callD G__law_words (hr.mono (by decide)) (by rfl) (da_cons (de_var 0) (da_cons (de_var 6) da_nil)))) da_nil))))) (by decide)))))))))
theorem df__law_due {f : Addr} {fd : FuncData} (T : TX mg) (G__law_written : Df P w K mg base 1 "_law_written" m__law_written d__law_written) (G__law_words : Df P w K mg base 2 "_law_words" m__law_words d__law_words) (G__law_key : Df P w K mg base 1 "_law_key" m__law_key d__law_key) (F : FnP K "_law_due" "_law_due" s__law_due f fd) (hm : mg "_law_due" = some (.ref f)) : Df P w K mg base 4 "_law_due" m__law_due d__law_due :=
  ⟨f, fd, _, ok__law_due T G__law_written G__law_words G__law_key F, hm, F.kp, FunD.bindsN F fun _ _ _ _ _ _ us hl => match us, hl with | [_], _ => rfl⟩
abbrev s_Signs___init__ : Stmt := clsS 19 0
abbrev N_Signs___init__ : List Str := ["self"]
theorem sc_Signs___init__ : FnScope N_Signs___init__ ["self"] (defScope s_Signs___init__) := ⟨rfl, rfl, rfl, by decide +kernel, rfl, by decide +kernel, by decide +kernel⟩
abbrev m_Signs___init__ : List Bool := [false]
def b_Signs___init__ : SF :=
  (sFldN ["Signs"] 0 "kept" ((eLst [])))
def d_Signs___init__ : DF := dDef 1 m_Signs___init__ b_Signs___init__
theorem ok_Signs___init__ {f : Addr} {fd : FuncData} (T : TX mg) (C_Signs_kept : ∀ c ∈ (["Signs"] : List Str), ∀ C, mg c = some (.ref C) → Cls K C ∧ NoAttr K C "kept") (F : FnP K "__init__" "Signs.__init__" s_Signs___init__ f fd) : FnOk P w K mg base CX0 1 f fd ["self"] (spD ⟨K, mg, w⟩ m_Signs___init__ d_Signs___init__) := by
  refine fn_denD F sc_Signs___init__ rfl fun cdv A outer s H E hr => ?_
  exact (dss_one (ds_fldN 0 ⟨C_Signs_kept, by decide⟩ rfl (by first | exact Or.inl rfl | exact Or.inr (Or.inl rfl) | exact Or.inr (Or.inr rfl)) ((de_lst da_nil))))
abbrev s_Marks___init__ : Stmt := clsS 17 0
abbrev N_Marks___init__ : List Str := ["self"]
theorem sc_Marks___init__ : FnScope N_Marks___init__ ["self"] (defScope s_Marks___init__) := ⟨rfl, rfl, rfl, by decide +kernel, rfl, by decide +kernel, by decide +kernel⟩
abbrev m_Marks___init__ : List Bool := [false]
def b_Marks___init__ : SF :=
  (sFldN ["Marks"] 0 "kept" ((eLst [])))
def d_Marks___init__ : DF := dDef 1 m_Marks___init__ b_Marks___init__
theorem ok_Marks___init__ {f : Addr} {fd : FuncData} (T : TX mg) (C_Marks_kept : ∀ c ∈ (["Marks"] : List Str), ∀ C, mg c = some (.ref C) → Cls K C ∧ NoAttr K C "kept") (F : FnP K "__init__" "Marks.__init__" s_Marks___init__ f fd) : FnOk P w K mg base CX0 1 f fd ["self"] (spD ⟨K, mg, w⟩ m_Marks___init__ d_Marks___init__) := by
  refine fn_denD F sc_Marks___init__ rfl fun cdv A outer s H E hr => ?_
  exact (dss_one (ds_fldN 0 ⟨C_Marks_kept, by decide⟩ rfl (by first | exact Or.inl rfl | exact Or.inr (Or.inl rfl) | exact Or.inr (Or.inr rfl)) ((de_lst da_nil))))
abbrev s_Text___init__ : Stmt := clsS 21 0
abbrev N_Text___init__ : List Str := ["self"]
theorem sc_Text___init__ : FnScope N_Text___init__ ["self"] (defScope s_Text___init__) := ⟨rfl, rfl, rfl, by decide +kernel, rfl, by decide +kernel, by decide +kernel⟩
abbrev m_Text___init__ : List Bool := [false]
def b_Text___init__ : SF :=
  (sSeq (sFldN ["Text"] 0 "signs" ((eNew "Signs" d_Signs___init__ [] [])))
  (sFldN ["Text"] 0 "marks" ((eNew "Marks" d_Marks___init__ [] []))))
def d_Text___init__ : DF := dDef 1 m_Text___init__ b_Text___init__
theorem ok_Text___init__ {f : Addr} {fd : FuncData} (T : TX mg) (C_Text_signs : ∀ c ∈ (["Text"] : List Str), ∀ C, mg c = some (.ref C) → Cls K C ∧ NoAttr K C "signs") (C_Text_marks : ∀ c ∈ (["Text"] : List Str), ∀ C, mg c = some (.ref C) → Cls K C ∧ NoAttr K C "marks") (K_Signs : MkD P w K mg base 1 "Signs" [] d_Signs___init__) (K_Marks : MkD P w K mg base 1 "Marks" [] d_Marks___init__) (F : FnP K "__init__" "Text.__init__" s_Text___init__ f fd) : FnOk P w K mg base CX0 3 f fd ["self"] (spD ⟨K, mg, w⟩ m_Text___init__ d_Text___init__) := by
  refine fn_denD F sc_Text___init__ rfl fun cdv A outer s H E hr => ?_
  exact (dss_cons (ds_fldN 0 ⟨C_Text_signs, by decide⟩ rfl (by first | exact Or.inl rfl | exact Or.inr (Or.inl rfl) | exact Or.inr (Or.inr rfl)) ((de_new0 K_Signs (hr.mono (by decide)) (by rfl))))
  (dss_one (ds_fldN 0 ⟨C_Text_marks, by decide⟩ rfl (by first | exact Or.inl rfl | exact Or.inr (Or.inl rfl) | exact Or.inr (Or.inr rfl)) ((de_new0 K_Marks (hr.mono (by decide)) (by rfl))))))
abbrev s_law : Stmt := topS 35
abbrev N_law : List Str := ["_law_script", "_law_cell", "_law_hands_here", "_law_texts", "_law_logs", "_law_who", "_law_places", "_law_name_here", "_law_seen", "_law_deed", "_law_held", "_law_kept", "_law_one", "_law_other", "_law_due_here", "_law_place", "_law_sign", "_law_words_here", "_law_text"]
theorem sc_law : FnScope N_law ["_law_script"] (defScope s_law) := ⟨rfl, rfl, rfl, by decide +kernel, rfl, by decide +kernel, by decide +kernel⟩
abbrev m_law : List Bool := [false]
def ce1_law : EF :=
  eVar 15
def l1_law : SF :=
  (sSeq (sSet 5 ((eOp gMod (eVar 1) (eC (.int 3)))))
  (sIf ((tE (eOp gEq ((eOp gMod ((eOp gDiv (eVar 1) (eC (.int 3)))) (eC (.int 4)))) (eC (.int 3))))) (sIf ((tNotD ((tE ((eCall d__law_meet m__law_meet [eVar 3, eVar 4, eVar 5, (eOp gMod ((eOp gAdd ((eOp gAdd (eVar 5) (eC (.int 1)))) ((eOp gMod ((eOp gDiv (eVar 1) (eC (.int 12)))) (eC (.int 2)))))) (eC (.int 3)))])))))) (sRet (eC (.bool false))) sNext) (sSeq (sSet 6 (eLc [15, 16] (.t [15, 16]) (iSeq ((eOp gIx ((eMeth "content" tb_Text_content [] ((eOp gIx (eVar 3) (eVar 5))) [])) (eC (.int 0))))) (tYesD) (ce1_law)))
  (sSeq (sBind (.t [7, 8]) ((eCall d__law_name m__law_name [eVar 2, eVar 5, (eOpF gIxA ((eUb (eVar 4))) (eVar 5))])))
  (sSeq (sSet 9 ((eTup [eVar 7, eVar 8, (eCall d__law_act m__law_act [eVar 6, (eOp gDiv (eVar 1) (eC (.int 12)))])])))
  (sSeq (sDrop ((eMeth "hear" tb_Text_hear [false] ((eOp gIx (eVar 3) (eVar 5))) [eVar 9])))
  (sDrop ((eMutB isLst gApp ((eOpF gIxA ((eUb (eVar 4))) (eVar 5))) [eVar 9])))))))))
def ce2_law : EF :=
  (eTup [eVar 15, eVar 16, (eUn (fun c => gList [c]) (eVar 17))])
def l2_law : SF :=
  (sIf ((tNotD ((tE ((eCall d__law_meet m__law_meet [eVar 3, eVar 4, eVar 12, eVar 13])))))) (sRet (eC (.bool false))) sNext)
def ce3_law : EF :=
  (eMeth "told" tb_Text_told [] (eVar 18) [])
def b_law : SF :=
  (sSeq (sSet 1 (eC (.int 0)))
  (sSeq (sIf ((tE (eOp (gCmp .gt) ((eUn (fun c => gLen [c]) (eVar 0))) (eC (.int 0))))) (sSet 1 ((eOp gIx (eVar 0) (eC (.int 0))))) sNext)
  (sSeq (sSet 2 ((eCall d__law_hands m__law_hands [eVar 1])))
  (sSeq (sSet 3 ((eLst [(eNew "Text" d_Text___init__ [] []), (eNew "Text" d_Text___init__ [] []), (eNew "Text" d_Text___init__ [] [])])))
  (sSeq (sSet 4 ((eBox ((eLst [(eBox ((eLst []))), (eBox ((eLst []))), (eBox ((eLst [])))])))))
  (sSeq (sFor (.v 1) (iSeq ((eSl (eVar 0) (some (eC (.int 1))) (some (eC (.int 25)))))) l1_law)
  (sSeq (sSet 10 ((eMeth "told" tb_Text_told [] ((eOp gIx (eVar 3) (eC (.int 0)))) [])))
  (sSeq (sSet 11 (eLc [15, 16, 17] (.t [15, 16, 17]) (iSeq (eVar 10)) (tYesD) (ce2_law)))
  (sSeq (sFor (.t [12, 13]) (iSeq ((eLst [(eTup [eC (.int 0), eC (.int 1)]), (eTup [eC (.int 0), eC (.int 2)]), (eTup [eC (.int 1), eC (.int 0)])]))) l2_law)
  (sSeq (sSet 14 ((eCall d__law_due m__law_due [(eOpF gIxA ((eUb (eVar 4))) (eC (.int 0)))])))
  (sRet ((eAnd ((eOp gEq (eVar 10) (eVar 11))) ((eOp gEq ((eLc [18] (.v 18) (iSeq (eVar 3)) (tYesD) (ce3_law))) ((eLst [eVar 14, eVar 14, eVar 14])))))))))))))))))
def d_law : DF := dDef 19 m_law b_law
theorem ok_law {f : Addr} {fd : FuncData} (T : TX mg) (G__law_hands : Df P w K mg base 1 "_law_hands" m__law_hands d__law_hands) (G__law_meet : Df P w K mg base 7 "_law_meet" m__law_meet d__law_meet) (G__law_name : Df P w K mg base 1 "_law_name" m__law_name d__law_name) (G__law_act : Df P w K mg base 4 "_law_act" m__law_act d__law_act) (G__law_due : Df P w K mg base 4 "_law_due" m__law_due d__law_due) (K_Text : MkD P w K mg base 3 "Text" [] d_Text___init__) (M_Text_content : Mf P w K mg base 3 "content" [] tb_Text_content) (M_Text_hear : Mf P w K mg base 5 "hear" [false] tb_Text_hear) (M_Text_told : Mf P w K mg base 6 "told" [] tb_Text_told) (F : FnP K "law" "law" s_law f fd) : FnOk P w K mg base CX0 8 f fd ["_law_script"] (spD ⟨K, mg, w⟩ m_law d_law) := by
  refine fn_denD F sc_law rfl fun cdv A outer s H E hr => ?_
  exact (dss_cons (ds_set (i := 1) sc_law.nd rfl (Or.inl rfl) (de_int))
  (dss_cons (ds_if (dt_cmp (dop_gt hr.units) ((de_bi1 dcl_len (by rfl) T.len (by decide +kernel) (de_var 0))) (de_int)) (dss_one (ds_set (i := 1) sc_law.nd rfl (Or.inl rfl) ((de_ix dix (de_var 0) (de_int))))) dss_nil)
  (dss_cons (ds_set (i := 2) sc_law.nd rfl (Or.inl rfl) ((de_callD G__law_hands (hr.mono (by decide)) (by rfl) (da_cons (de_var 1) da_nil))))
  (dss_cons (ds_set (i := 3) sc_law.nd rfl (Or.inl rfl) ((de_lst (da_cons ((de_new0 K_Text (hr.mono (by decide)) (by rfl))) (da_cons ((de_new0 K_Text (hr.mono (by decide)) (by rfl))) (da_cons ((de_new0 K_Text (hr.mono (by decide)) (by rfl))) da_nil))))))
  (dss_cons (ds_set (i := 4) sc_law.nd rfl (Or.inl rfl) ((de_box ((de_lst (da_cons ((de_box ((de_lst da_nil)))) (da_cons ((de_box ((de_lst da_nil)))) (da_cons ((de_box ((de_lst da_nil)))) da_nil))))))))
  (dss_cons (ds_for PassesOwn.never rfl (di_seq ((de_slice (de_var 0) (dpart_some (de_int)) (dpart_some (de_int))))) (dg_name sc_law.nd rfl (Or.inl rfl)) (dss_cons (ds_set (i := 5) sc_law.nd rfl (Or.inl rfl) ((de_op dop_mod (de_var 1) (de_int))))
  (dss_one (ds_if (dt_cmp (dop_eq hr.units) ((de_op dop_mod ((de_op dop_div (de_var 1) (de_int))) (de_int))) (de_int)) (dss_one (ds_if (dt_not ((dt_val ((de_callD G__law_meet (hr.mono (by decide)) (by rfl) (da_cons (de_var 3) (da_cons (de_var 4) (da_cons (de_var 5) (da_cons ((de_op dop_mod ((de_op dop_add ((de_op dop_add (de_var 5) (de_int))) ((de_op dop_mod ((de_op dop_div (de_var 1) (de_int))) (de_int))))) (de_int))) da_nil))))))))) (dss_one (ds_ret (de_bl))) dss_nil)) (dss_cons (ds_setLc (i := 6) (own := [("_law_place", 15), ("_law_sign", 16)]) rfl sc_law.nd rfl rfl (sw_true rfl rfl rfl (by decide +kernel)) (di_seq ((de_ix dix ((de_meth0 M_Text_content (hr.mono (by decide)) ((de_ix dix (de_var 3) (de_var 5))))) (de_int)))) (blkOk_by (sc := defScope s_law) (own := [("_law_place", 15), ("_law_sign", 16)]) (N := N_law) (by decide +kernel)) (fun _ _ _ _ _ => (dg_tup rfl (dgs_cons sc_law.nd rfl (Or.inl rfl) (dgs_cons sc_law.nd rfl (Or.inl rfl) dgs_nil)))) (fun _ _ _ _ _ => dts_nil) (fun _ _ _ _ _ => de_var 15) (by decide))
  (dss_cons (ds_bind (dg_tup rfl (dgs_cons sc_law.nd rfl (Or.inl rfl) (dgs_cons sc_law.nd rfl (Or.inl rfl) dgs_nil))) ((de_callD G__law_name (hr.mono (by decide)) (by rfl) (da_cons (de_var 2) (da_cons (de_var 5) (da_cons ((de_ixF (dixa hr.units) ((de_ub (de_var 4))) (de_var 5))) da_nil))))))
  (dss_cons (ds_set (i := 9) sc_law.nd rfl (Or.inl rfl) ((de_tup (da_cons (de_var 7) (da_cons (de_var 8) (da_cons ((de_callD G__law_act (hr.mono (by decide)) (by rfl) (da_cons (de_var 6) (da_cons ((de_op dop_div (de_var 1) (de_int))) da_nil)))) da_nil))))))
  (dss_cons (ds_expr ((de_meth M_Text_hear (hr.mono (by decide)) ((de_ix dix (de_var 3) (de_var 5))) (da_cons (de_var 9) da_nil))))
  (dss_one (ds_expr ((de_mutB dm_append ((de_ixF (dixa hr.units) ((de_ub (de_var 4))) (de_var 5))) (da_cons (de_var 9) da_nil)))))))))))))
  (dss_cons (ds_set (i := 10) sc_law.nd rfl (Or.inl rfl) ((de_meth0 M_Text_told (hr.mono (by decide)) ((de_ix dix (de_var 3) (de_int))))))
  (dss_cons (ds_setLc (i := 11) (own := [("_law_place", 15), ("_law_sign", 16), ("_law_words_here", 17)]) rfl sc_law.nd rfl rfl (sw_true rfl rfl rfl (by decide +kernel)) (di_seq (de_var 10)) (blkOk_by (sc := defScope s_law) (own := [("_law_place", 15), ("_law_sign", 16), ("_law_words_here", 17)]) (N := N_law) (by decide +kernel)) (fun _ _ _ _ _ => (dg_tup rfl (dgs_cons sc_law.nd rfl (Or.inl rfl) (dgs_cons sc_law.nd rfl (Or.inl rfl) (dgs_cons sc_law.nd rfl (Or.inl rfl) dgs_nil))))) (fun _ _ _ _ _ => dts_nil) (fun _ _ _ _ _ => (de_tup (da_cons (de_var 15) (da_cons (de_var 16) (da_cons ((de_ty1 dcl_list (by rfl) T.list (by decide +kernel) (de_var 17))) da_nil))))) (by decide))
  (dss_cons (ds_for PassesOwn.never rfl (di_seq ((de_lst (da_cons ((de_tup (da_cons (de_int) (da_cons (de_int) da_nil)))) (da_cons ((de_tup (da_cons (de_int) (da_cons (de_int) da_nil)))) (da_cons ((de_tup (da_cons (de_int) (da_cons (de_int) da_nil)))) da_nil)))))) (dg_tup rfl (dgs_cons sc_law.nd rfl (Or.inl rfl) (dgs_cons sc_law.nd rfl (Or.inl rfl) dgs_nil))) (dss_one (ds_if (dt_not ((dt_val ((de_callD G__law_meet (hr.mono (by decide)) (by rfl) (da_cons (de_var 3) (da_cons (de_var 4) (da_cons (de_var 12) (da_cons (de_var 13) da_nil))))))))) (dss_one (ds_ret (de_bl))) dss_nil)))
  (dss_cons (ds_set (i := 14) sc_law.nd rfl (Or.inl rfl) ((de_callD G__law_due (hr.mono (by decide)) (by rfl) (da_cons ((de_ixF (dixa hr.units) ((de_ub (de_var 4))) (de_int))) da_nil))))
  (dss_one (ds_ret ((de_and ((de_cmp (dop_eq hr.units) (de_var 10) (de_var 11))) (de_one ((de_cmp (dop_eq hr.units) ((de_lc (own := [("_law_text", 18)]) rfl sc_law.nd (di_seq (de_var 3)) (blkOk_by (sc := defScope s_law) (own := [("_law_text", 18)]) (N := N_law) (by decide +kernel)) (fun _ _ _ _ _ => (dg_name sc_law.nd rfl (Or.inl rfl))) (fun _ _ _ _ _ => dts_nil) (fun _ _ _ _ _ => (de_meth0 M_Text_told (hr.mono (by decide)) (de_var 18))) (by decide))) ((de_lst (da_cons (de_var 14) (da_cons (de_var 14) (da_cons (de_var 14) da_nil))))))))))))))))))))))
end
def D__law_hands : He.DefD := ⟨("_law_hands", none), "_law_hands", "_law_hands", defArgs s__law_hands, defBody s__law_hands, defScope s__law_hands, [], []⟩
def D__law_marks : He.DefD := ⟨("_law_marks", none), "_law_marks", "_law_marks", defArgs s__law_marks, defBody s__law_marks, defScope s__law_marks, [], []⟩
def D_place_key : He.DefD := ⟨("place_key", none), "place_key", "place_key", defArgs s_place_key, defBody s_place_key, defScope s_place_key, [], []⟩
def D_before : He.DefD := ⟨("before", none), "before", "before", defArgs s_before, defBody s_before, defScope s_before, [], []⟩
def D_within : He.DefD := ⟨("within", none), "within", "within", defArgs s_within, defBody s_within, defScope s_within, [], []⟩
def D_place_of : He.DefD := ⟨("place_of", none), "place_of", "place_of", defArgs s_place_of, defBody s_place_of, defScope s_place_of, [], []⟩
def D_places_of : He.DefD := ⟨("places_of", none), "places_of", "places_of", defArgs s_places_of, defBody s_places_of, defScope s_places_of, [], []⟩
def D_covers : He.DefD := ⟨("covers", none), "covers", "covers", defArgs s_covers, defBody s_covers, defScope s_covers, [], []⟩
def D__law_meet : He.DefD := ⟨("_law_meet", none), "_law_meet", "_law_meet", defArgs s__law_meet, defBody s__law_meet, defScope s__law_meet, [], []⟩
def D__law_name : He.DefD := ⟨("_law_name", none), "_law_name", "_law_name", defArgs s__law_name, defBody s__law_name, defScope s__law_name, [], []⟩
def D__law_mixed : He.DefD := ⟨("_law_mixed", none), "_law_mixed", "_law_mixed", defArgs s__law_mixed, defBody s__law_mixed, defScope s__law_mixed, [], []⟩
def D_gap : He.DefD := ⟨("gap", none), "gap", "gap", defArgs s_gap, defBody s_gap, defScope s_gap, [], []⟩
def D__law_act : He.DefD := ⟨("_law_act", none), "_law_act", "_law_act", defArgs s__law_act, defBody s__law_act, defScope s__law_act, [], []⟩
def D__law_written : He.DefD := ⟨("_law_written", none), "_law_written", "_law_written", defArgs s__law_written, defBody s__law_written, defScope s__law_written, [], []⟩
def D__law_in : He.DefD := ⟨("_law_in", none), "_law_in", "_law_in", defArgs s__law_in, defBody s__law_in, defScope s__law_in, [], []⟩
def D__law_covers : He.DefD := ⟨("_law_covers", none), "_law_covers", "_law_covers", defArgs s__law_covers, defBody s__law_covers, defScope s__law_covers, [], []⟩
def D__law_words : He.DefD := ⟨("_law_words", none), "_law_words", "_law_words", defArgs s__law_words, defBody s__law_words, defScope s__law_words, [], []⟩
def D__law_key : He.DefD := ⟨("_law_key", none), "_law_key", "_law_key", defArgs s__law_key, defBody s__law_key, defScope s__law_key, [], []⟩
def D__law_due : He.DefD := ⟨("_law_due", none), "_law_due", "_law_due", defArgs s__law_due, defBody s__law_due, defScope s__law_due, [], []⟩
def D_law : He.DefD := ⟨("law", none), "law", "law", defArgs s_law, defBody s_law, defScope s_law, [], []⟩
def D_Mark_row : He.DefD := ⟨("Mark", some "row"), "row", "Mark.row", defArgs s_Mark_row, defBody s_Mark_row, defScope s_Mark_row, [], []⟩
def D_Signs_rows : He.DefD := ⟨("Signs", some "rows"), "rows", "Signs.rows", defArgs s_Signs_rows, defBody s_Signs_rows, defScope s_Signs_rows, [], []⟩
def D_Marks_rows : He.DefD := ⟨("Marks", some "rows"), "rows", "Marks.rows", defArgs s_Marks_rows, defBody s_Marks_rows, defScope s_Marks_rows, [], []⟩
def D_Text_content : He.DefD := ⟨("Text", some "content"), "content", "Text.content", defArgs s_Text_content, defBody s_Text_content, defScope s_Text_content, [], []⟩
def D_Mark_bears : He.DefD := ⟨("Mark", some "bears"), "bears", "Mark.bears", defArgs s_Mark_bears, defBody s_Mark_bears, defScope s_Mark_bears, [], []⟩
def D_Marks_words_at : He.DefD := ⟨("Marks", some "words_at"), "words_at", "Marks.words_at", defArgs s_Marks_words_at, defBody s_Marks_words_at, defScope s_Marks_words_at, [], []⟩
def D_Signs_ahead_of : He.DefD := ⟨("Signs", some "ahead_of"), "ahead_of", "Signs.ahead_of", defArgs s_Signs_ahead_of, defBody s_Signs_ahead_of, defScope s_Signs_ahead_of, [], []⟩
def D_Mark___init__ : He.DefD := ⟨("Mark", some "__init__"), "__init__", "Mark.__init__", defArgs s_Mark___init__, defBody s_Mark___init__, defScope s_Mark___init__, [], []⟩
def D_Mark_pierce : He.DefD := ⟨("Mark", some "pierce"), "pierce", "Mark.pierce", defArgs s_Mark_pierce, defBody s_Mark_pierce, defScope s_Mark_pierce, [], []⟩
def D_Signs_write : He.DefD := ⟨("Signs", some "write"), "write", "Signs.write", defArgs s_Signs_write, defBody s_Signs_write, defScope s_Signs_write, [], []⟩
def D_Signs_cut : He.DefD := ⟨("Signs", some "cut"), "cut", "Signs.cut", defArgs s_Signs_cut, defBody s_Signs_cut, defScope s_Signs_cut, [], []⟩
def D_Marks_mark : He.DefD := ⟨("Marks", some "mark"), "mark", "Marks.mark", defArgs s_Marks_mark, defBody s_Marks_mark, defScope s_Marks_mark, [], []⟩
def D_Marks_clear : He.DefD := ⟨("Marks", some "clear"), "clear", "Marks.clear", defArgs s_Marks_clear, defBody s_Marks_clear, defScope s_Marks_clear, [], []⟩
def D_Text_told : He.DefD := ⟨("Text", some "told"), "told", "Text.told", defArgs s_Text_told, defBody s_Text_told, defScope s_Text_told, [], []⟩
def D_Text_hear : He.DefD := ⟨("Text", some "hear"), "hear", "Text.hear", defArgs s_Text_hear, defBody s_Text_hear, defScope s_Text_hear, [], []⟩
def D_Signs___init__ : He.DefD := ⟨("Signs", some "__init__"), "__init__", "Signs.__init__", defArgs s_Signs___init__, defBody s_Signs___init__, defScope s_Signs___init__, [], []⟩
def D_Marks___init__ : He.DefD := ⟨("Marks", some "__init__"), "__init__", "Marks.__init__", defArgs s_Marks___init__, defBody s_Marks___init__, defScope s_Marks___init__, [], []⟩
def D_Text___init__ : He.DefD := ⟨("Text", some "__init__"), "__init__", "Text.__init__", defArgs s_Text___init__, defBody s_Text___init__, defScope s_Text___init__, [], []⟩
def fn : List He.DefD := [D__law_hands, D__law_marks, D_place_key, D_before, D_within, D_place_of, D_places_of, D_covers, D__law_meet, D__law_name, D__law_mixed, D_gap, D__law_act, D__law_written, D__law_in, D__law_covers, D__law_words, D__law_key, D__law_due, D_law, D_Mark_row, D_Signs_rows, D_Marks_rows, D_Text_content, D_Mark_bears, D_Marks_words_at, D_Signs_ahead_of, D_Mark___init__, D_Mark_pierce, D_Signs_write, D_Signs_cut, D_Marks_mark, D_Marks_clear, D_Text_told, D_Text_hear, D_Signs___init__, D_Marks___init__, D_Text___init__]
def fa : List He.Fa := [.glo "_law_hands", .glo "_law_marks", .glo "place_key", .glo "before", .glo "within", .glo "place_of", .glo "places_of", .glo "covers", .glo "_law_meet", .glo "_law_name", .glo "_law_mixed", .glo "gap", .glo "_law_act", .glo "_law_written", .glo "_law_in", .glo "_law_covers", .glo "_law_words", .glo "_law_key", .glo "_law_due", .glo "law", .free "len", .free "list", .free "range", .free "set", .free "sorted", .free "tuple", .free "zip", .glo "Signs", .cls "Signs", .noat "Signs" "kept", .glo "Mark", .cls "Mark", .noat "Mark" "name", .noat "Mark" "first", .noat "Mark" "last", .noat "Mark" "word", .noat "Mark" "holes", .glo "Marks", .cls "Marks", .noat "Marks" "kept", .meth "Mark" "row", .glo "Text", .cls "Text", .noat "Text" "signs", .noat "Text" "marks", .meth "Signs" "rows", .meth "Marks" "rows", .meth "Text" "content", .meth "Mark" "bears", .meth "Marks" "words_at", .meth "Signs" "ahead_of", .mkr "Mark", .meth "Mark" "pierce", .meth "Signs" "write", .meth "Signs" "cut", .meth "Marks" "mark", .meth "Marks" "clear", .meth "Text" "told", .meth "Text" "hear", .mkr "Signs", .mkr "Marks", .mkr "Text"]
abbrev R : PySem.W.OpenRow := PySem.W.OpenLaw.row PySem.Challenge.rw_copymeet_k46_whole_texts_apart
abbrev hk : PySem.W.Hook := He.hookD 4 fa fn
def ob (s : PySem.W.SharedT) : He.AlD := He.obsDG 4 fa fn (HandSHeadRun.getT s)
theorem ob_eq (s : PySem.W.SharedT) : ob s = hk.obs s.abs := He.obsDG_eq (HandSHeadRun.getT_eq s)
def names : List PySem.Str := [("_wall" : PySem.Str), ("covers" : PySem.Str), ("place_key" : PySem.Str), ("before" : PySem.Str), ("gap" : PySem.Str), ("place_of" : PySem.Str), ("places_of" : PySem.Str), ("within" : PySem.Str), ("_law_mixed" : PySem.Str), ("_law_hands" : PySem.Str), ("_law_name" : PySem.Str), ("_law_act" : PySem.Str), ("_law_written" : PySem.Str), ("_law_covers" : PySem.Str), ("_law_key" : PySem.Str), ("_law_in" : PySem.Str), ("_law_words" : PySem.Str), ("_law_due" : PySem.Str), ("_law_marks" : PySem.Str), ("_law_meet" : PySem.Str), ("Leaf" : PySem.Str), ("MeetError" : PySem.Str), ("NoPlace" : PySem.Str), ("Mark" : PySem.Str), ("Marks" : PySem.Str), ("Signs" : PySem.Str), ("Text" : PySem.Str)]
theorem run (w : World) : HandSHeadRun.RunEq R (PySem.W.view R.prog [35]) hk ob 4000 names w := by
  intro os
  kernel_rfl
theorem facts {P : Program} {w : World} {K : PySem.W.Frag} {h : Heap} {mg : Str → Option Value} {f : Addr} (X : K.In h) (G : h.Ns mainGlobals mg) (hfa : mg ("law" : Str) = some (.ref f)) (c : He.SaysD fa fn K) :
    ∃ fd : FuncData, (∀ (s : Shared) (v : Value), BindsTo s fd ⟨[v], []⟩ [("_law_script", v)]) ∧ ∀ base : Heap, K.In base → base.Ns mainGlobals mg → FnOk P w K mg base CX0 8 f fd ["_law_script"] (spD ⟨K, mg, w⟩ m_law d_law) := by
  obtain ⟨fd0, F0⟩ := c.def_ 0 (d := D__law_hands) rfl
  obtain ⟨fd1, F1⟩ := c.def_ 1 (d := D__law_marks) rfl
  obtain ⟨fd2, F2⟩ := c.def_ 2 (d := D_place_key) rfl
  obtain ⟨fd3, F3⟩ := c.def_ 3 (d := D_before) rfl
  obtain ⟨fd4, F4⟩ := c.def_ 4 (d := D_within) rfl
  obtain ⟨fd5, F5⟩ := c.def_ 5 (d := D_place_of) rfl
  obtain ⟨fd6, F6⟩ := c.def_ 6 (d := D_places_of) rfl
  obtain ⟨fd7, F7⟩ := c.def_ 7 (d := D_covers) rfl
  obtain ⟨fd8, F8⟩ := c.def_ 8 (d := D__law_meet) rfl
  obtain ⟨fd9, F9⟩ := c.def_ 9 (d := D__law_name) rfl
  obtain ⟨fd10, F10⟩ := c.def_ 10 (d := D__law_mixed) rfl
  obtain ⟨fd11, F11⟩ := c.def_ 11 (d := D_gap) rfl
  obtain ⟨fd12, F12⟩ := c.def_ 12 (d := D__law_act) rfl
  obtain ⟨fd13, F13⟩ := c.def_ 13 (d := D__law_written) rfl
  obtain ⟨fd14, F14⟩ := c.def_ 14 (d := D__law_in) rfl
  obtain ⟨fd15, F15⟩ := c.def_ 15 (d := D__law_covers) rfl
  obtain ⟨fd16, F16⟩ := c.def_ 16 (d := D__law_words) rfl
  obtain ⟨fd17, F17⟩ := c.def_ 17 (d := D__law_key) rfl
  obtain ⟨fd18, F18⟩ := c.def_ 18 (d := D__law_due) rfl
  obtain ⟨fd19, F19⟩ := c.def_ 19 (d := D_law) rfl
  obtain ⟨fd20, F20⟩ := c.def_ 20 (d := D_Mark_row) rfl
  obtain ⟨fd21, F21⟩ := c.def_ 21 (d := D_Signs_rows) rfl
  obtain ⟨fd22, F22⟩ := c.def_ 22 (d := D_Marks_rows) rfl
  obtain ⟨fd23, F23⟩ := c.def_ 23 (d := D_Text_content) rfl
  obtain ⟨fd24, F24⟩ := c.def_ 24 (d := D_Mark_bears) rfl
  obtain ⟨fd25, F25⟩ := c.def_ 25 (d := D_Marks_words_at) rfl
  obtain ⟨fd26, F26⟩ := c.def_ 26 (d := D_Signs_ahead_of) rfl
  obtain ⟨fd27, F27⟩ := c.def_ 27 (d := D_Mark___init__) rfl
  obtain ⟨fd28, F28⟩ := c.def_ 28 (d := D_Mark_pierce) rfl
  obtain ⟨fd29, F29⟩ := c.def_ 29 (d := D_Signs_write) rfl
  obtain ⟨fd30, F30⟩ := c.def_ 30 (d := D_Signs_cut) rfl
  obtain ⟨fd31, F31⟩ := c.def_ 31 (d := D_Marks_mark) rfl
  obtain ⟨fd32, F32⟩ := c.def_ 32 (d := D_Marks_clear) rfl
  obtain ⟨fd33, F33⟩ := c.def_ 33 (d := D_Text_told) rfl
  obtain ⟨fd34, F34⟩ := c.def_ 34 (d := D_Text_hear) rfl
  obtain ⟨fd35, F35⟩ := c.def_ 35 (d := D_Signs___init__) rfl
  obtain ⟨fd36, F36⟩ := c.def_ 36 (d := D_Marks___init__) rfl
  obtain ⟨fd37, F37⟩ := c.def_ 37 (d := D_Text___init__) rfl
  have T : TX mg := ⟨He.free_ok X G (c.fact 20 (f := .free "len") rfl), He.free_ok X G (c.fact 21 (f := .free "list") rfl), He.free_ok X G (c.fact 22 (f := .free "range") rfl), He.free_ok X G (c.fact 23 (f := .free "set") rfl), He.free_ok X G (c.fact 24 (f := .free "sorted") rfl), He.free_ok X G (c.fact 25 (f := .free "tuple") rfl), He.free_ok X G (c.fact 26 (f := .free "zip") rfl)⟩
  have e := hfa.symm.trans (He.glo_ok X G (c.fact 19 (f := .glo "law") rfl))
  cases e
  have b := FunD.bindsA (ps := ["_law_script"]) F19 fun _ _ _ _ _ _ us hl => match us, hl with | [_], _ => rfl
  refine ⟨fd19, fun s v => b s [v] rfl, fun base _ _ => ?_⟩
  have G__law_hands : Df P w K mg base 1 "_law_hands" m__law_hands d__law_hands := df__law_hands T  F0 (He.glo_ok X G (c.fact 0 (f := .glo "_law_hands") rfl))
  have C_Signs_kept : ∀ c ∈ (["Signs"] : List Str), ∀ C, mg c = some (.ref C) → Cls K C ∧ NoAttr K C "kept" := (cl_cons (He.glo_ok X G (c.fact 27 (f := .glo "Signs") rfl)) (He.cls_ok (c.fact 28 (f := .cls "Signs") rfl)) (He.noat_ok (c.fact 29 (f := .noat "Signs" "kept") rfl)) cl_nil)
  have O_Signs_rows := ok_Signs_rows (P := P) (w := w) (mg := mg) (base := base) T C_Signs_kept F21
  have C_Mark_name : ∀ c ∈ (["Mark"] : List Str), ∀ C, mg c = some (.ref C) → Cls K C ∧ NoAttr K C "name" := (cl_cons (He.glo_ok X G (c.fact 30 (f := .glo "Mark") rfl)) (He.cls_ok (c.fact 31 (f := .cls "Mark") rfl)) (He.noat_ok (c.fact 32 (f := .noat "Mark" "name") rfl)) cl_nil)
  have C_Mark_first : ∀ c ∈ (["Mark"] : List Str), ∀ C, mg c = some (.ref C) → Cls K C ∧ NoAttr K C "first" := (cl_cons (He.glo_ok X G (c.fact 30 (f := .glo "Mark") rfl)) (He.cls_ok (c.fact 31 (f := .cls "Mark") rfl)) (He.noat_ok (c.fact 33 (f := .noat "Mark" "first") rfl)) cl_nil)
  have C_Mark_last : ∀ c ∈ (["Mark"] : List Str), ∀ C, mg c = some (.ref C) → Cls K C ∧ NoAttr K C "last" := (cl_cons (He.glo_ok X G (c.fact 30 (f := .glo "Mark") rfl)) (He.cls_ok (c.fact 31 (f := .cls "Mark") rfl)) (He.noat_ok (c.fact 34 (f := .noat "Mark" "last") rfl)) cl_nil)
  have C_Mark_word : ∀ c ∈ (["Mark"] : List Str), ∀ C, mg c = some (.ref C) → Cls K C ∧ NoAttr K C "word" := (cl_cons (He.glo_ok X G (c.fact 30 (f := .glo "Mark") rfl)) (He.cls_ok (c.fact 31 (f := .cls "Mark") rfl)) (He.noat_ok (c.fact 35 (f := .noat "Mark" "word") rfl)) cl_nil)
  have C_Mark_holes : ∀ c ∈ (["Mark"] : List Str), ∀ C, mg c = some (.ref C) → Cls K C ∧ NoAttr K C "holes" := (cl_cons (He.glo_ok X G (c.fact 30 (f := .glo "Mark") rfl)) (He.cls_ok (c.fact 31 (f := .cls "Mark") rfl)) (He.noat_ok (c.fact 36 (f := .noat "Mark" "holes") rfl)) cl_nil)
  have O_Mark_row := ok_Mark_row (P := P) (w := w) (mg := mg) (base := base) T C_Mark_name C_Mark_first C_Mark_last C_Mark_word C_Mark_holes F20
  have C_Marks_kept : ∀ c ∈ (["Marks"] : List Str), ∀ C, mg c = some (.ref C) → Cls K C ∧ NoAttr K C "kept" := (cl_cons (He.glo_ok X G (c.fact 37 (f := .glo "Marks") rfl)) (He.cls_ok (c.fact 38 (f := .cls "Marks") rfl)) (He.noat_ok (c.fact 39 (f := .noat "Marks" "kept") rfl)) cl_nil)
  have M_Mark_row : Mf P w K mg base 1 "row" [] tb_Mark_row := (Mf.cons (He.glo_ok X G (c.fact 30 (f := .glo "Mark") rfl)) (He.cls_ok (c.fact 31 (f := .cls "Mark") rfl)) (He.meth_ok (c.fact 40 (f := .meth "Mark" "row") rfl)) O_Mark_row (by decide) (FunD.bindsN F20 fun _ _ _ _ _ _ us hl => match us, hl with | [_], _ => rfl) Mf.nil)
  have O_Marks_rows := ok_Marks_rows (P := P) (w := w) (mg := mg) (base := base) T C_Marks_kept M_Mark_row F22
  have C_Text_signs : ∀ c ∈ (["Text"] : List Str), ∀ C, mg c = some (.ref C) → Cls K C ∧ NoAttr K C "signs" := (cl_cons (He.glo_ok X G (c.fact 41 (f := .glo "Text") rfl)) (He.cls_ok (c.fact 42 (f := .cls "Text") rfl)) (He.noat_ok (c.fact 43 (f := .noat "Text" "signs") rfl)) cl_nil)
  have C_Text_marks : ∀ c ∈ (["Text"] : List Str), ∀ C, mg c = some (.ref C) → Cls K C ∧ NoAttr K C "marks" := (cl_cons (He.glo_ok X G (c.fact 41 (f := .glo "Text") rfl)) (He.cls_ok (c.fact 42 (f := .cls "Text") rfl)) (He.noat_ok (c.fact 44 (f := .noat "Text" "marks") rfl)) cl_nil)
  have M_Signs_rows : Mf P w K mg base 1 "rows" [] tb_Signs_rows := (Mf.cons (He.glo_ok X G (c.fact 27 (f := .glo "Signs") rfl)) (He.cls_ok (c.fact 28 (f := .cls "Signs") rfl)) (He.meth_ok (c.fact 45 (f := .meth "Signs" "rows") rfl)) O_Signs_rows (by decide) (FunD.bindsN F21 fun _ _ _ _ _ _ us hl => match us, hl with | [_], _ => rfl) Mf.nil)
  have M_Marks_rows : Mf P w K mg base 2 "rows" [] tb_Marks_rows := (Mf.cons (He.glo_ok X G (c.fact 37 (f := .glo "Marks") rfl)) (He.cls_ok (c.fact 38 (f := .cls "Marks") rfl)) (He.meth_ok (c.fact 46 (f := .meth "Marks" "rows") rfl)) O_Marks_rows (by decide) (FunD.bindsN F22 fun _ _ _ _ _ _ us hl => match us, hl with | [_], _ => rfl) Mf.nil)
  have O_Text_content := ok_Text_content (P := P) (w := w) (mg := mg) (base := base) T C_Text_signs C_Text_marks M_Signs_rows M_Marks_rows F23
  have M_Text_content : Mf P w K mg base 3 "content" [] tb_Text_content := (Mf.cons (He.glo_ok X G (c.fact 41 (f := .glo "Text") rfl)) (He.cls_ok (c.fact 42 (f := .cls "Text") rfl)) (He.meth_ok (c.fact 47 (f := .meth "Text" "content") rfl)) O_Text_content (by decide) (FunD.bindsN F23 fun _ _ _ _ _ _ us hl => match us, hl with | [_], _ => rfl) Mf.nil)
  have G__law_marks : Df P w K mg base 4 "_law_marks" m__law_marks d__law_marks := df__law_marks T M_Text_content F1 (He.glo_ok X G (c.fact 1 (f := .glo "_law_marks") rfl))
  have G_place_key : Df P w K mg base 1 "place_key" m_place_key d_place_key := df_place_key T  F2 (He.glo_ok X G (c.fact 2 (f := .glo "place_key") rfl))
  have G_before : Df P w K mg base 2 "before" m_before d_before := df_before T G_place_key F3 (He.glo_ok X G (c.fact 3 (f := .glo "before") rfl))
  have G_within : Df P w K mg base 3 "within" m_within d_within := df_within T G_before F4 (He.glo_ok X G (c.fact 4 (f := .glo "within") rfl))
  have O_Mark_bears := ok_Mark_bears (P := P) (w := w) (mg := mg) (base := base) T G_within C_Mark_first C_Mark_last C_Mark_holes F24
  have M_Mark_bears : Mf P w K mg base 4 "bears" [false] tb_Mark_bears := (Mf.cons (He.glo_ok X G (c.fact 30 (f := .glo "Mark") rfl)) (He.cls_ok (c.fact 31 (f := .cls "Mark") rfl)) (He.meth_ok (c.fact 48 (f := .meth "Mark" "bears") rfl)) O_Mark_bears (by decide) (FunD.bindsN F24 fun _ _ _ _ _ _ us hl => match us, hl with | [_, _], _ => rfl) Mf.nil)
  have O_Marks_words_at := ok_Marks_words_at (P := P) (w := w) (mg := mg) (base := base) T C_Marks_kept C_Mark_word M_Mark_bears F25
  have M_Marks_words_at : Mf P w K mg base 5 "words_at" [false] tb_Marks_words_at := (Mf.cons (He.glo_ok X G (c.fact 37 (f := .glo "Marks") rfl)) (He.cls_ok (c.fact 38 (f := .cls "Marks") rfl)) (He.meth_ok (c.fact 49 (f := .meth "Marks" "words_at") rfl)) O_Marks_words_at (by decide) (FunD.bindsN F25 fun _ _ _ _ _ _ us hl => match us, hl with | [_, _], _ => rfl) Mf.nil)
  have O_Text_told := ok_Text_told (P := P) (w := w) (mg := mg) (base := base) T C_Text_signs C_Text_marks M_Signs_rows M_Marks_words_at F33
  have G_place_of : Df P w K mg base 1 "place_of" m_place_of d_place_of := df_place_of T  F5 (He.glo_ok X G (c.fact 5 (f := .glo "place_of") rfl))
  have G_places_of : Df P w K mg base 2 "places_of" m_places_of d_places_of := df_places_of T G_place_of F6 (He.glo_ok X G (c.fact 6 (f := .glo "places_of") rfl))
  have O_Signs_ahead_of := ok_Signs_ahead_of (P := P) (w := w) (mg := mg) (base := base) T G_before C_Signs_kept F26
  have M_Signs_ahead_of : Mf P w K mg base 3 "ahead_of" [false] tb_Signs_ahead_of := (Mf.cons (He.glo_ok X G (c.fact 27 (f := .glo "Signs") rfl)) (He.cls_ok (c.fact 28 (f := .cls "Signs") rfl)) (He.meth_ok (c.fact 50 (f := .meth "Signs" "ahead_of") rfl)) O_Signs_ahead_of (by decide) (FunD.bindsN F26 fun _ _ _ _ _ _ us hl => match us, hl with | [_, _], _ => rfl) Mf.nil)
  have O_Signs_write := ok_Signs_write (P := P) (w := w) (mg := mg) (base := base) T G_places_of C_Signs_kept M_Signs_ahead_of F29
  have O_Signs_cut := ok_Signs_cut (P := P) (w := w) (mg := mg) (base := base) T C_Signs_kept F30
  have O_Mark___init__ := ok_Mark___init__ (P := P) (w := w) (mg := mg) (base := base) T C_Mark_name C_Mark_first C_Mark_last C_Mark_word C_Mark_holes F27
  have K_Mark : MkD P w K mg base 1 "Mark" [false, false, false, false] d_Mark___init__ := ⟨_, _, _, _, He.glo_ok X G (c.fact 30 (f := .glo "Mark") rfl), He.mkr_ok (c.fact 51 (f := .mkr "Mark") rfl), O_Mark___init__, (FunD.bindsN F27 fun _ _ _ _ _ _ us hl => match us, hl with | [_, _, _, _, _], _ => rfl)⟩
  have O_Marks_mark := ok_Marks_mark (P := P) (w := w) (mg := mg) (base := base) T C_Marks_kept K_Mark F31
  have G_covers : Df P w K mg base 1 "covers" m_covers d_covers := df_covers T  F7 (He.glo_ok X G (c.fact 7 (f := .glo "covers") rfl))
  have O_Mark_pierce := ok_Mark_pierce (P := P) (w := w) (mg := mg) (base := base) T C_Mark_holes F28
  have M_Mark_pierce : Mf P w K mg base 1 "pierce" [false, false] tb_Mark_pierce := (Mf.cons (He.glo_ok X G (c.fact 30 (f := .glo "Mark") rfl)) (He.cls_ok (c.fact 31 (f := .cls "Mark") rfl)) (He.meth_ok (c.fact 52 (f := .meth "Mark" "pierce") rfl)) O_Mark_pierce (by decide) (FunD.bindsN F28 fun _ _ _ _ _ _ us hl => match us, hl with | [_, _, _], _ => rfl) Mf.nil)
  have O_Marks_clear := ok_Marks_clear (P := P) (w := w) (mg := mg) (base := base) T G_covers C_Marks_kept C_Mark_word C_Mark_name M_Mark_pierce F32
  have M_Signs_write : Mf P w K mg base 4 "write" [false] tb_Signs_write := (Mf.cons (He.glo_ok X G (c.fact 27 (f := .glo "Signs") rfl)) (He.cls_ok (c.fact 28 (f := .cls "Signs") rfl)) (He.meth_ok (c.fact 53 (f := .meth "Signs" "write") rfl)) O_Signs_write (by decide) (FunD.bindsN F29 fun _ _ _ _ _ _ us hl => match us, hl with | [_, _], _ => rfl) Mf.nil)
  have M_Signs_cut : Mf P w K mg base 1 "cut" [false] tb_Signs_cut := (Mf.cons (He.glo_ok X G (c.fact 27 (f := .glo "Signs") rfl)) (He.cls_ok (c.fact 28 (f := .cls "Signs") rfl)) (He.meth_ok (c.fact 54 (f := .meth "Signs" "cut") rfl)) O_Signs_cut (by decide) (FunD.bindsN F30 fun _ _ _ _ _ _ us hl => match us, hl with | [_, _], _ => rfl) Mf.nil)
  have M_Marks_mark : Mf P w K mg base 3 "mark" [false] tb_Marks_mark := (Mf.cons (He.glo_ok X G (c.fact 37 (f := .glo "Marks") rfl)) (He.cls_ok (c.fact 38 (f := .cls "Marks") rfl)) (He.meth_ok (c.fact 55 (f := .meth "Marks" "mark") rfl)) O_Marks_mark (by decide) (FunD.bindsN F31 fun _ _ _ _ _ _ us hl => match us, hl with | [_, _], _ => rfl) Mf.nil)
  have M_Marks_clear : Mf P w K mg base 2 "clear" [false] tb_Marks_clear := (Mf.cons (He.glo_ok X G (c.fact 37 (f := .glo "Marks") rfl)) (He.cls_ok (c.fact 38 (f := .cls "Marks") rfl)) (He.meth_ok (c.fact 56 (f := .meth "Marks" "clear") rfl)) O_Marks_clear (by decide) (FunD.bindsN F32 fun _ _ _ _ _ _ us hl => match us, hl with | [_, _], _ => rfl) Mf.nil)
  have O_Text_hear := ok_Text_hear (P := P) (w := w) (mg := mg) (base := base) T C_Text_signs C_Text_marks M_Signs_write M_Signs_cut M_Marks_mark M_Marks_clear F34
  have M_Text_told : Mf P w K mg base 6 "told" [] tb_Text_told := (Mf.cons (He.glo_ok X G (c.fact 41 (f := .glo "Text") rfl)) (He.cls_ok (c.fact 42 (f := .cls "Text") rfl)) (He.meth_ok (c.fact 57 (f := .meth "Text" "told") rfl)) O_Text_told (by decide) (FunD.bindsN F33 fun _ _ _ _ _ _ us hl => match us, hl with | [_], _ => rfl) Mf.nil)
  have M_Text_hear : Mf P w K mg base 5 "hear" [false] tb_Text_hear := (Mf.cons (He.glo_ok X G (c.fact 41 (f := .glo "Text") rfl)) (He.cls_ok (c.fact 42 (f := .cls "Text") rfl)) (He.meth_ok (c.fact 58 (f := .meth "Text" "hear") rfl)) O_Text_hear (by decide) (FunD.bindsN F34 fun _ _ _ _ _ _ us hl => match us, hl with | [_, _], _ => rfl) Mf.nil)
  have G__law_meet : Df P w K mg base 7 "_law_meet" m__law_meet d__law_meet := df__law_meet T G__law_marks M_Text_told M_Text_hear F8 (He.glo_ok X G (c.fact 8 (f := .glo "_law_meet") rfl))
  have G__law_name : Df P w K mg base 1 "_law_name" m__law_name d__law_name := df__law_name T  F9 (He.glo_ok X G (c.fact 9 (f := .glo "_law_name") rfl))
  have G__law_mixed : Df P w K mg base 1 "_law_mixed" m__law_mixed d__law_mixed := df__law_mixed T  F10 (He.glo_ok X G (c.fact 10 (f := .glo "_law_mixed") rfl))
  have G_gap : Df P w K mg base 3 "gap" m_gap d_gap := df_gap T G_before F11 (He.glo_ok X G (c.fact 11 (f := .glo "gap") rfl))
  have G__law_act : Df P w K mg base 4 "_law_act" m__law_act d__law_act := df__law_act T G__law_mixed G_gap F12 (He.glo_ok X G (c.fact 12 (f := .glo "_law_act") rfl))
  have G__law_written : Df P w K mg base 1 "_law_written" m__law_written d__law_written := df__law_written T  F13 (He.glo_ok X G (c.fact 13 (f := .glo "_law_written") rfl))
  have G__law_in : Df P w K mg base 1 "_law_in" m__law_in d__law_in := df__law_in T  F14 (He.glo_ok X G (c.fact 14 (f := .glo "_law_in") rfl))
  have G__law_covers : Df P w K mg base 1 "_law_covers" m__law_covers d__law_covers := df__law_covers T  F15 (He.glo_ok X G (c.fact 15 (f := .glo "_law_covers") rfl))
  have G__law_words : Df P w K mg base 2 "_law_words" m__law_words d__law_words := df__law_words T G__law_in G__law_covers F16 (He.glo_ok X G (c.fact 16 (f := .glo "_law_words") rfl))
  have G__law_key : Df P w K mg base 1 "_law_key" m__law_key d__law_key := df__law_key T  F17 (He.glo_ok X G (c.fact 17 (f := .glo "_law_key") rfl))
  have G__law_due : Df P w K mg base 4 "_law_due" m__law_due d__law_due := df__law_due T G__law_written G__law_words G__law_key F18 (He.glo_ok X G (c.fact 18 (f := .glo "_law_due") rfl))
  have O_Signs___init__ := ok_Signs___init__ (P := P) (w := w) (mg := mg) (base := base) T C_Signs_kept F35
  have O_Marks___init__ := ok_Marks___init__ (P := P) (w := w) (mg := mg) (base := base) T C_Marks_kept F36
  have K_Signs : MkD P w K mg base 1 "Signs" [] d_Signs___init__ := ⟨_, _, _, _, He.glo_ok X G (c.fact 27 (f := .glo "Signs") rfl), He.mkr_ok (c.fact 59 (f := .mkr "Signs") rfl), O_Signs___init__, (FunD.bindsN F35 fun _ _ _ _ _ _ us hl => match us, hl with | [_], _ => rfl)⟩
  have K_Marks : MkD P w K mg base 1 "Marks" [] d_Marks___init__ := ⟨_, _, _, _, He.glo_ok X G (c.fact 37 (f := .glo "Marks") rfl), He.mkr_ok (c.fact 60 (f := .mkr "Marks") rfl), O_Marks___init__, (FunD.bindsN F36 fun _ _ _ _ _ _ us hl => match us, hl with | [_], _ => rfl)⟩
  have O_Text___init__ := ok_Text___init__ (P := P) (w := w) (mg := mg) (base := base) T C_Text_signs C_Text_marks K_Signs K_Marks F37
  have K_Text : MkD P w K mg base 3 "Text" [] d_Text___init__ := ⟨_, _, _, _, He.glo_ok X G (c.fact 41 (f := .glo "Text") rfl), He.mkr_ok (c.fact 61 (f := .mkr "Text") rfl), O_Text___init__, (FunD.bindsN F37 fun _ _ _ _ _ _ us hl => match us, hl with | [_], _ => rfl)⟩
  exact ok_law T G__law_hands G__law_meet G__law_name G__law_act G__law_due K_Text M_Text_content M_Text_hear M_Text_told F19
end CML
end
section
set_option linter.all false
set_option maxRecDepth 100000
set_option maxHeartbeats 0
set_option autoImplicit false
namespace CML
open PySem CM

theorem cutL_up {α : Type} (xs : List α) {i : Int} (h : 0 ≤ i) : cutL xs none (some i) = xs.take i.toNat := by
  unfold cutL cutAt
  simp [h]
  rw [if_neg (by omega)]
  omega
theorem str_at {x : Str} {i : Int} {n : Nat} (hx : x.cps.size = n) (hn : 0 < n) : ∃ c, atD x.cps.toList (i % (n : Int)) = some c := by
  have h0 := Int.emod_nonneg i (show (n : Int) ≠ 0 by omega)
  have h1 := Int.emod_lt_of_pos i (show 0 < (n : Int) by omega)
  exact ⟨_, atD_lt h0 (by rw [Array.length_toList, hx]; exact h1)⟩
theorem alpha_size : str1.cps.size = 26 := by decide +kernel
theorem mixed_ev (c k : Int) (st : Store) : ∃ x : Int, 0 ≤ x ∧ d__law_mixed [.d (.int c), .d (.int k)] st = some (.sh (.int x), st) := by
  have p9 : gPow (.d (.int 10)) (.d (.int 9)) = some (.sh (.int 1000000000)) := by simp (disch := first | omega | (simp; done) | (simp; omega))
  by_cases c1 : c % 2 = 1
  · by_cases c2 : c > 1000000000
    · exact ⟨c / 2 % 1000000000, Int.emod_nonneg _ (by decide), by simp -implicitDefEqProofs (maxSteps := 2000000) (disch := first | omega | assumption | (simp; done) | (simp; omega)) [d__law_mixed, b__law_mixed, p9, c1, c2]⟩
    · exact ⟨(c + 7919 * k + 1) * 48271 % 2147483647 * ((c + 7919 * k + 1) * 48271 % 2147483647 / 1009 + 69621) % 2147483647, Int.emod_nonneg _ (by decide), by simp -implicitDefEqProofs (maxSteps := 2000000) (disch := first | omega | assumption | (simp; done) | (simp; omega)) [d__law_mixed, b__law_mixed, p9, c1, c2]⟩
  · exact ⟨(c + 7919 * k + 1) * 48271 % 2147483647 * ((c + 7919 * k + 1) * 48271 % 2147483647 / 1009 + 69621) % 2147483647, Int.emod_nonneg _ (by decide), by simp -implicitDefEqProofs (maxSteps := 2000000) (disch := first | omega | assumption | (simp; done) | (simp; omega)) [d__law_mixed, b__law_mixed, p9, c1]⟩
theorem sorted_strs (l : List Str) (hl : l.length ≤ 16777216) : gSorted [.d (.list (l.map PyData.str))] = some (.fr (.d (.list ((l.mergeSort fun a b => leD (.str a) (.str b)).map PyData.str)))) := by
  rw [gSorted_l (sortB_of PyData.str l (fun p _ => rfl) (fun p _ => by simp [PyData.depth]) (.inr fun _ _ => rfl) (fun p _ q _ => rfl) hl), sortD_map]
theorem alpha_nd : str1.cps.toList.Nodup := by decide +kernel
theorem nd_range {α : Type} (f : Nat → α) (m : Nat) (h : ∀ i j, i < m → j < m → f i = f j → i = j) : ((List.range m).map f).Nodup := by
  unfold List.Nodup
  rw [List.pairwise_map]
  refine List.Pairwise.imp_of_mem (fun {a b} ha hb ne e => ?_) (List.nodup_range (n := m))
  exact ne (h a b (List.mem_range.mp ha) (List.mem_range.mp hb) e)
theorem atD_idx {α : Type} {xs : List α} (nd : xs.Nodup) {i j : Int} {x : α} (hi : 0 ≤ i) (hj : 0 ≤ j) (e1 : atD xs i = some x) (e2 : atD xs j = some x) : i = j := by
  have g : ∀ {k : Int}, 0 ≤ k → atD xs k = some x → xs[k.toNat]? = some x := fun {k} hk e => by
    by_cases q : k < xs.length
    · rw [atD_lt hk q] at e
      rw [List.getElem?_eq_getElem (by omega)]
      exact e
    · exfalso
      unfold atD plc at e
      rw [Option.bind_eq_some_iff] at e
      obtain ⟨p, hp, hx⟩ := e
      have := (List.getElem?_eq_some_iff.mp hx).1
      split at hp <;> first | (cases hp; omega) | (split at hp <;> first | (cases hp; omega) | (cases hp) | omega) | cases hp
  have a := g hi e1
  have b := g hj e2
  have := (List.getElem?_inj (List.getElem?_eq_some_iff.mp a).1 nd).mp (a.trans b.symm)
  omega
structure Hd (h : Str) : Prop where
  ne : 1 ≤ h.cps.size
  le : h.cps.size ≤ 8
theorem kk_size (n : Nat) : (⟨(List.replicate n ("k" : Str).cps).foldl (· ++ ·) #[]⟩ : Str).cps.size = n := by
  show ((List.replicate n ("k" : Str).cps).foldl (· ++ ·) #[]).size = n
  rw [rep_size]
  have : ("k" : Str).cps.size = 1 := by decide
  rw [this]; simp
theorem k_one : ("k" : Str).cps.size = 1 := by decide
def wordK (A : Nat) (L : Nat → Nat) (Z : Nat) (k : Nat) : Str := ⟨((⟨(List.replicate A ("k" : Str).cps).foldl (· ++ ·) #[]⟩ : Str).cps ++ #[L k]) ++ (⟨(List.replicate Z ("k" : Str).cps).foldl (· ++ ·) #[]⟩ : Str).cps⟩
theorem wordK_size (A : Nat) (L : Nat → Nat) (Z : Nat) (k : Nat) : (wordK A L Z k).cps.size = A + 1 + Z := by
  have h1 := kk_size A
  have h2 := kk_size Z
  unfold wordK
  simp only [Array.size_append] at *
  rw [h1, h2]; rfl
theorem wordK_inj {A : Nat} {L : Nat → Nat} {Z : Nat} {i j : Nat} (e : wordK A L Z i = wordK A L Z j) : L i = L j := by
  unfold wordK at e
  have e := congrArg (fun s : Str => s.cps.toList) e
  simp at e
  exact e
def I_hdk (c : Int) (A Z m : Nat) (L : Nat → Nat) (st : Store) (i : Nat) (r : CM.Env) : Prop := ∃ s4 s5, r = ⟨[.sh (.int c), .sh (.int ((A + 1 + Z : Nat) : Int)), .sh (.int (A : Int)), .ow (.d (.list (((List.range i).map (wordK A L Z)).map PyData.str))), s4, s5], st⟩
theorem hands_ev (c : Int) (st : Store) : ∃ hs : List Str, hs.Nodup ∧ hs.length = 3 ∧ (∀ h ∈ hs, Hd h) ∧ d__law_hands [.d (.int c)] st = some (.fr (.d (.list (hs.map PyData.str))), st) := by
  have z1 := alpha_size
  have z2 := alpha_nd
  generalize hs1 : str1 = s1 at *
  have g0 := Int.emod_nonneg c (show (8 : Int) ≠ 0 by decide)
  have g1 := Int.emod_lt_of_pos c (show (0 : Int) < 8 by decide)
  have b0 := Int.emod_nonneg (c / 8) (show (1 + c % 8 : Int) ≠ 0 by omega)
  have b1 := Int.emod_lt_of_pos (c / 8) (show (0 : Int) < 1 + c % 8 by omega)
  have q0 := Int.emod_nonneg (c / 3) (show (8 : Int) ≠ 0 by decide)
  have q1 := Int.emod_lt_of_pos (c / 3) (show (0 : Int) < 8 by decide)
  obtain ⟨A, hA⟩ : ∃ A : Nat, c / 8 % (1 + c % 8) = (A : Int) := ⟨_, (Int.toNat_of_nonneg b0).symm⟩
  obtain ⟨Z, hZ⟩ : ∃ Z : Nat, c % 8 - (A : Int) = (Z : Int) := ⟨_, (Int.toNat_of_nonneg (by omega)).symm⟩
  obtain ⟨m, hm⟩ : ∃ m : Nat, m = 3 := ⟨3, rfl⟩
  have hS : 1 + c % 8 = ((A + 1 + Z : Nat) : Int) := by omega
  have let1 : ∀ k : Nat, ∃ d, atD s1.cps.toList ((c / 64 + (k : Int) * (1 + c / 3 % 8)) % 26) = some d := fun k => str_at (i := c / 64 + (k : Int) * (1 + c / 3 % 8)) z1 (by decide)
  obtain ⟨L, hL⟩ : ∃ L : Nat → Nat, ∀ k : Nat, atD s1.cps.toList ((c / 64 + (k : Int) * (1 + c / 3 % 8)) % 26) = some (L k) := ⟨fun k => Classical.choose (let1 k), fun k => Classical.choose_spec (let1 k)⟩
  have inj : ∀ i j, i < m → j < m → L i = L j → i = j := fun i j hi hj e => by
    have l1 := hL i
    have l2 := hL j
    rw [e] at l1
    have := atD_idx z2 (Int.emod_nonneg _ (by decide)) (Int.emod_nonneg _ (by decide)) l1 l2
    generalize hq : 1 + c / 3 % 8 = q at *
    have hq1 : 1 ≤ q ∧ q ≤ 8 := by omega
    have i6 : i < 6 := by omega
    have j6 : j < 6 := by omega
    have hh : q = 1 ∨ q = 2 ∨ q = 3 ∨ q = 4 ∨ q = 5 ∨ q = 6 ∨ q = 7 ∨ q = 8 := by omega
    rcases hh with h | h | h | h | h | h | h | h <;> subst h <;> omega
  obtain ⟨r', f1, s4, s5, rfl⟩ := for_rg (p := .v 4) (f := l1__law_hands) (I_hdk c A Z m L st) m ⟨[.sh (.int c), .sh (.int ((A + 1 + Z : Nat) : Int)), .sh (.int (A : Int)), .ow (.d (.list [])), .no, .no], st⟩ ⟨.no, .no, rfl⟩ fun i r hi hI => by
    obtain ⟨s4, s5, rfl⟩ := hI
    have hl := hL i
    have ka := kk_size A
    have kz := kk_size Z
    have k1 := k_one
    have ge : ((A + 1 + Z : Nat) : Int) - 1 - (A : Int) = (Z : Int) := by omega
    have gA : (A : Int).toNat = A := by omega
    have gZ : (Z : Int).toNat = Z := by omega
    have rg : (List.range (i + 1)).map (wordK A L Z) = (List.range i).map (wordK A L Z) ++ [wordK A L Z i] := by rw [List.range_succ, List.map_append]; rfl
    have wl : (((List.range i).map (wordK A L Z)).map PyData.str).length < 16777216 := by simp; omega
    refine ⟨_, ?_, .sh (.int (i : Int)), .sh (.str ⟨#[L i]⟩), rfl⟩
    rw [rg, List.map_append, List.map_singleton]
    have m1 : gMul (.d (.str "k")) (.d (.int (A : Int))) = some (.sh (.str ⟨(List.replicate A ("k" : Str).cps).foldl (· ++ ·) #[]⟩)) := by
      rw [gMul_s (by omega), gA]
    have m2 : gMul (.d (.str "k")) (.d (.int (Z : Int))) = some (.sh (.str ⟨(List.replicate Z ("k" : Str).cps).foldl (· ++ ·) #[]⟩)) := by
      rw [gMul_s (by omega), gZ]
    generalize ((List.range i).map (wordK A L Z)).map PyData.str = acc at *
    unfold wordK
    generalize (⟨(List.replicate A ("k" : Str).cps).foldl (· ++ ·) #[]⟩ : Str) = kA at *
    generalize (⟨(List.replicate Z ("k" : Str).cps).foldl (· ++ ·) #[]⟩ : Str) = kZ at *
    have gi : ((A + 1 + Z : Nat) : Int) - 1 - (A : Int) = (Z : Int) := ge
    generalize ((A + 1 + Z : Nat) : Int) = S at *
    simp -implicitDefEqProofs (maxSteps := 2000000) (disch := first | omega | assumption | (simp; done) | (simp; omega)) [l1__law_hands, hs1, hl, m1, m2, gi]
  have nd := nd_range (wordK A L Z) m fun i j hi hj e => inj i j hi hj (wordK_inj e)
  have sz : ∀ h ∈ (List.range m).map (wordK A L Z), Hd h := fun h hh => by
    rw [List.mem_map] at hh
    obtain ⟨k, _, rfl⟩ := hh
    exact ⟨by rw [wordK_size]; omega, by rw [wordK_size]; omega⟩
  have ln : ((List.range m).map (wordK A L Z)).length = 3 := by rw [List.length_map, List.length_range, hm]
  refine ⟨(List.range m).map (wordK A L Z), nd, ln, sz, ?_⟩
  generalize (List.range m).map (wordK A L Z) = hs at *
  subst hm
  rw [hS] at hA
  generalize ((A + 1 + Z : Nat) : Int) = S at *
  generalize hs.map PyData.str = acc at *
  have rk : rg1K 3 = some (rgD 0 3) := rg1K_ok (j := 3) (by decide)
  have rk2 : rgD 0 (3 : Int).toNat = rgD 0 3 := rfl
  simp -implicitDefEqProofs (maxSteps := 2000000) (disch := first | omega | assumption | (simp; done) | (simp; omega)) [d__law_hands, b__law_hands, hS, hA, f1, rk, rk2]
theorem sortB_strs (hs : List Str) (hl : hs.length ≤ 10000) : sortB (hs.map PyData.str) = true := by
  unfold sortB alikeB
  simp only [Bool.and_eq_true, Bool.or_eq_true, List.all_eq_true, decide_eq_true_eq]
  have m : ∀ x ∈ hs.map PyData.str, ∃ h, x = PyData.str h := fun x hx => by
    rw [List.mem_map] at hx
    obtain ⟨h, _, rfl⟩ := hx
    exact ⟨h, rfl⟩
  refine ⟨⟨⟨⟨nods_iff.mpr fun x hx => ?_, fun x hx y hy => ?_⟩, .inr fun x hx => ?_⟩, fun x hx => ?_⟩, by rw [List.length_map]; omega⟩
  · obtain ⟨h, rfl⟩ := m x hx; rfl
  · obtain ⟨h, rfl⟩ := m x hx
    obtain ⟨g, rfl⟩ := m y hy
    rfl
  · obtain ⟨h, rfl⟩ := m x hx; rfl
  · obtain ⟨h, rfl⟩ := m x hx; simp [PyData.depth]
def deedD (h : Str) (n : Int) (sn : List (Str × Int)) (act : D) : D := .tuple [.tuple [.str h, .int n], .tuple (sn.map prD), act]
structure Dd where
  h : Str
  n : Int
  sn : List (Str × Int)
  act : D
def Dd.d (x : Dd) : D := deedD x.h x.n x.sn x.act
def Dd.st (x : Dd) : Int := 1 + (x.sn.map (·.2)).sum
def Dd.key (x : Dd) : D := .tuple [.int x.st, .str x.h, .int x.n]
def keyLt (x y : Dd) : Bool := if x.st = y.st then (if x.h = y.h then decide (x.n < y.n) else O4.tx .lt x.h.cps.toList y.h.cps.toList) else decide (x.st < y.st)
theorem key_shallow (x y : Dd) : shallow x.key y.key = true := by
  simp [shallow, Dd.key, PyData.depth, PyData.depthAll, nod, nods]
theorem key_cmp (x y : Dd) : cmpD .lt x.key y.key = some (keyLt x y) := by
  unfold keyLt Dd.key
  have e1 : ∀ a b : Str, ((a == b) = true) = (a = b) := fun a b => by rw [beq_iff_eq]
  have e2 : ∀ a b : Int, ((a == b) = true) = (a = b) := fun a b => by rw [beq_iff_eq]
  simp only [cmpD, cmpDs, eqv_ii, eqv_ss, e1, e2]
  by_cases a : x.st = y.st
  · rw [if_pos a, if_pos a]
    by_cases b : x.h = y.h
    · rw [if_pos b, if_pos b]
      by_cases c : x.n = y.n
      · rw [if_pos c, decide_eq_false (by omega)]; rfl
      · rw [if_neg c]; rfl
    · rw [if_neg b, if_neg b]
      by_cases c : x.n = y.n
      · rw [if_pos c]; rfl
      · rw [if_neg c]; rfl
  · rw [if_neg a, if_neg a]
    by_cases b : x.h = y.h
    · rw [if_pos b]
      by_cases c : x.n = y.n
      · rw [if_pos c]; rfl
      · rw [if_neg c]; rfl
    · rw [if_neg b]
      by_cases c : x.n = y.n
      · rw [if_pos c]; rfl
      · rw [if_neg c]; rfl
@[simp] theorem key_lt (x y : Dd) : gCmp .lt (.d x.key) (.d y.key) = some (.sh (.bool (keyLt x y))) := by
  rw [gCmp_d (key_shallow x y), key_cmp]; rfl
@[simp] theorem key_arg (x : Dd) : argSlot false (.d x.key) = some (.sh x.key) := rfl
@[simp] theorem deed_arg (x : Dd) : argSlot false (.d x.d) = some (.sh x.d) := rfl
@[simp] theorem key_ge (x y : Dd) : gCmp .ge (.d x.key) (.d y.key) = some (.sh (.bool (!keyLt x y))) := by
  rw [gCmp_d (key_shallow x y)]
  unfold keyLt Dd.key
  have e1 : ∀ a b : Str, ((a == b) = true) = (a = b) := fun a b => by rw [beq_iff_eq]
  have e2 : ∀ a b : Int, ((a == b) = true) = (a = b) := fun a b => by rw [beq_iff_eq]
  simp only [cmpD, cmpDs, eqv_ii, eqv_ss, e1, e2]
  by_cases a : x.st = y.st
  · rw [if_pos a, if_pos a]
    by_cases b : x.h = y.h
    · rw [if_pos b, if_pos b]
      by_cases c : x.n = y.n
      · rw [if_pos c, decide_eq_false (by omega)]; rfl
      · rw [if_neg c]
        have : (!decide (x.n < y.n)) = decide (y.n ≤ x.n) := by by_cases z : x.n < y.n <;> simp [z] <;> omega
        rw [this]; rfl
    · rw [if_neg b, if_neg b]
      by_cases c : x.n = y.n
      · rw [if_pos c]; rfl
      · rw [if_neg c]; rfl
  · rw [if_neg a, if_neg a]
    have : (!decide (x.st < y.st)) = decide (y.st ≤ x.st) := by by_cases z : x.st < y.st <;> simp [z] <;> omega
    rw [this]
    by_cases b : x.h = y.h
    · rw [if_pos b]
      by_cases c : x.n = y.n
      · rw [if_pos c]; rfl
      · rw [if_neg c]; rfl
    · rw [if_neg b]
      by_cases c : x.n = y.n
      · rw [if_pos c]; rfl
      · rw [if_neg c]; rfl
def Dd.nm (x : Dd) : List Ky := nmK x.h x.n
open Classical in
theorem nd_of_map {α β : Type} {f : α → β} : ∀ {l : List α}, (l.map f).Nodup → l.Nodup
  | [], _ => List.nodup_nil
  | x :: r, h => by
    rw [List.map_cons, List.nodup_cons] at h
    rw [List.nodup_cons]
    exact ⟨fun z => h.1 (List.mem_map.mpr ⟨x, z, rfl⟩), nd_of_map h.2⟩
structure Gd (x : Dd) : Prop where
  hd : Hd x.h
  le : x.sn.length ≤ 10
  ac : Fl 5 x.act
theorem Gd.fl {x : Dd} (g : Gd x) : Fl 7 x.d := by
  refine Fl.t (k := 6) fun y hy => ?_
  rcases List.mem_cons.mp hy with rfl | hy
  · exact (Fl.t (k := 0) fun z hz => by
      rcases List.mem_cons.mp hz with rfl | hz
      · exact Fl.s _
      · rw [List.mem_singleton.mp hz]; exact Fl.i _).up (by omega)
  rcases List.mem_cons.mp hy with rfl | hy
  · refine (Fl.t (k := 1) fun z hz => ?_).up (by omega)
    rw [List.mem_map] at hz
    obtain ⟨p, _, rfl⟩ := hz
    exact Fl.t (k := 0) fun u hu => by
      rcases List.mem_cons.mp hu with rfl | hu
      · exact Fl.s _
      · rw [List.mem_singleton.mp hu]; exact Fl.i _
  · rw [List.mem_singleton.mp hy]; exact g.ac.up (by omega)
theorem eqv_self {k : Nat} {d : D} (h : Fl k d) : PyData.eqv d d = true := (eqv_pln d d h.p h.p).mpr rfl
theorem Gd.nz {x : Dd} (g : Gd x) : x.h.cps.size ≠ 0 := by have := g.hd.ne; omega
def Dd.nD (x : Dd) : D := .tuple [.str x.h, .int x.n]
@[simp] theorem deed_0 (x : Dd) : gIx (.d x.d) (.d (.int 0)) = some (.sh x.nD) := rfl
@[simp] theorem deed_1 (x : Dd) : gIx (.d x.d) (.d (.int 1)) = some (.sh (.tuple (x.sn.map prD))) := rfl
@[simp] theorem deed_2 (x : Dd) : gIx (.d x.d) (.d (.int 2)) = some (.sh x.act) := rfl
@[simp] theorem name_0 (x : Dd) : gIx (.d x.nD) (.d (.int 0)) = some (.sh (.str x.h)) := rfl
@[simp] theorem name_1 (x : Dd) : gIx (.d x.nD) (.d (.int 1)) = some (.sh (.int x.n)) := rfl
@[simp] theorem name_arg (x : Dd) : argSlot false (.d x.nD) = some (.sh x.nD) := rfl
@[simp] theorem deed_len (x : Dd) : gLen [.d x.d] = some (.sh (.int 3)) := rfl
@[simp] theorem deed_bind (i j k : Nat) (x : Dd) (r : CM.Env) : bindP (.t [i, j, k]) x.d r = setAll [i, j, k] [x.nD, .tuple (x.sn.map prD), x.act] r := rfl
@[simp] theorem get_nm {kvs : List (List Ky × D)} {x : Dd} (nz : x.h.cps.size ≠ 0) : cGet (.dt kvs) x.nD = some (aGet kvs x.nm) := cGet_tn nz
theorem keysD_map {α : Type} {f : DF} (e k : α → D) : ∀ {xs : List α}, (∀ x ∈ xs, f [.d (e x)] [] = some (.sh (k x), [])) → keysD f (xs.map e) = some (xs.map k)
  | [], _ => rfl
  | x :: xs, h => by
    show (f [.d (e x)] []).bind _ = _
    rw [h x List.mem_cons_self, Option.bind_some]
    show (keysD f (xs.map e)).bind _ = _
    rw [keysD_map e k fun y hy => h y (List.mem_cons_of_mem _ hy)]; rfl
theorem sortK_map {α : Type} {f : DF} (b : Bool) (e k : α → D) {xs : List α} (hn : nods (xs.map e) = true) (h : ∀ x ∈ xs, f [.d (e x)] [] = some (.sh (k x), [])) (hs : sortB (xs.map k) = true) :
    gSortK f b (.d (.list (xs.map e))) = some (.fr (.d (.list ((xs.mergeSort fun x y => leR b (k x) (k y)).map e)))) := by
  show (if nods (xs.map e) = true then _ else none) = _
  rw [if_pos hn, keysD_map e k h, Option.bind_some, if_pos hs]
  unfold sortKD
  rw [List.zip_map', ← List.map_mergeSort (r := fun x y => leR b (k x) (k y)) (s := W.dataLe b fun p : D × D => p.2) (f := fun x => (e x, k x)) (fun _ _ _ _ => rfl), List.map_map]
  rfl
theorem st_get {st : Store} {i : Nat} {o : Ob} (h : st[i]? = some o) (x : Ob) : (st.set i x)[i]? = some x := by
  obtain ⟨hl, _⟩ := List.getElem?_eq_some_iff.mp h
  rw [List.getElem?_set_self hl]
theorem st_put {st : Store} {i : Nat} {o : Ob} (h : st[i]? = some o) (f : Str) (v : Fd) : stPut st i f v = st.set i ⟨o.cls, putFd f v o.fs⟩ := by
  obtain ⟨hl, _⟩ := List.getElem?_eq_some_iff.mp h
  unfold stPut
  refine List.ext_getElem? fun j => ?_
  rw [List.getElem?_modify, List.getElem?_set]
  by_cases e : i = j
  · subst e
    rw [if_pos rfl, h, if_pos hl]; simp
  · rw [if_neg e]
    cases st[j]? <;> simp [e]
theorem st_put2 {st : Store} {i : Nat} {o : Ob} (h : st[i]? = some o) (x : Ob) (f : Str) (v : Fd) : stPut (st.set i x) i f v = st.set i ⟨x.cls, putFd f v x.fs⟩ := by
  rw [st_put (st_get h x), List.set_set]
theorem st_same {st : Store} {i : Nat} {o : Ob} (h : st[i]? = some o) : st.set i o = st := by
  obtain ⟨hl, e⟩ := List.getElem?_eq_some_iff.mp h
  subst e
  exact List.set_getElem_self hl
abbrev Nm := Str × Int
def nmD (p : Str × Int) : D := .tuple [.str p.1, .int p.2]
def cov : List (Str × Int) → Str → Int → Bool
  | [], _, _ => false
  | p :: r, h, n => if p.1 = h then decide (n ≤ p.2) else cov r h n
theorem beq_str (a b : Str) : (a == b) = decide (a = b) := by rw [Bool.eq_iff_iff, beq_iff_eq, decide_eq_true_iff]
theorem cov_loop (h : Str) (n : Int) (st : Store) (s0 : CM.Slot) : ∀ (sn : List (Str × Int)) (s2 s3 : CM.Slot), ∃ fl r', (fl = .nx ∧ cov sn h n = false ∨ fl = .rt (.sh (.bool (cov sn h n)))) ∧ r'.st = st ∧
    runFor (.t [2, 3]) l1_covers (sn.map prD) ⟨[s0, .sh (.tuple [.str h, .int n]), s2, s3], st⟩ = some (fl, r')
  | [], s2, s3 => ⟨.nx, _, .inl ⟨rfl, rfl⟩, rfl, rfl⟩
  | p :: r, s2, s3 => by
    rw [List.map_cons, runFor_cons]
    by_cases e : p.1 = h
    · refine ⟨.rt (.sh (.bool (cov (p :: r) h n))), ⟨[s0, .sh (.tuple [.str h, .int n]), .sh (.str p.1), .sh (.int p.2)], st⟩, .inr rfl, rfl, ?_⟩
      simp -implicitDefEqProofs (maxSteps := 2000000) (disch := first | omega | assumption | (simp; done) | (simp; omega)) [l1_covers, prD, beq_str, e, cov]
    · obtain ⟨fl, r', c1, c2, c3⟩ := cov_loop h n st s0 r (.sh (.str p.1)) (.sh (.int p.2))
      refine ⟨fl, r', ?_, c2, ?_⟩
      · simpa [cov, e] using c1
      · rw [← c3]
        simp -implicitDefEqProofs (maxSteps := 2000000) (disch := first | omega | assumption | (simp; done) | (simp; omega)) [l1_covers, prD, beq_str, e]
theorem covers_ev (sn : List (Str × Int)) (h : Str) (n : Int) (st : Store) : d_covers [.d (.tuple (sn.map prD)), .d (.tuple [.str h, .int n])] st = some (.sh (.bool (cov sn h n)), st) := by
  obtain ⟨fl, r', c1, c2, c3⟩ := cov_loop h n st (.sh (.tuple (sn.map prD))) sn .no .no
  generalize sn.map prD = ss at *
  rcases c1 with ⟨c1, c4⟩ | c1
  · subst c1
    simp -implicitDefEqProofs (maxSteps := 2000000) (disch := first | omega | assumption | (simp; done) | (simp; omega)) [d_covers, b_covers, c3, c4, c2]
  · subst c1
    simp -implicitDefEqProofs (maxSteps := 2000000) (disch := first | omega | assumption | (simp; done) | (simp; omega)) [d_covers, b_covers, c3, c2]
abbrev Sp := Int × Str × Int × Int
def sd (s : Sp) : D := .tuple [.int s.1, .str s.2.1, .int s.2.2.1, .int s.2.2.2]
def pd (p : List Sp) : D := .tuple (p.map sd)
def Sp.Ok (s : Sp) : Prop := (s.1 = 1 ∨ s.1 = -1) ∧ s.2.1.cps.size ≤ 8
theorem sd_fl (s : Sp) : Fl 1 (sd s) := .t fun x hx => by
  simp at hx
  rcases hx with e | e | e | e <;> subst e
  · exact .i _
  · exact .s _
  · exact .i _
  · exact .i _
theorem pd_fl (p : List Sp) : Fl 2 (pd p) := .t fun d hd => by
  rw [List.mem_map] at hd
  obtain ⟨s, _, rfl⟩ := hd
  exact sd_fl s
theorem sd_inj {s t : Sp} : sd s = sd t ↔ s = t := by
  constructor
  · intro h
    obtain ⟨a, b, c, d⟩ := s
    obtain ⟨a', b', c', d'⟩ := t
    simp [sd] at h
    obtain ⟨h1, h2, h3, h4⟩ := h
    subst h1; subst h2; subst h3; subst h4; rfl
  · intro h; rw [h]
theorem pd_inj {p q : List Sp} : pd p = pd q ↔ p = q := by
  constructor
  · intro h
    unfold pd at h
    have h := PyData.tuple.inj h
    exact (List.map_inj_right (fun _ _ e => sd_inj.mp e)).mp h
  · intro h; rw [h]
theorem eqv_sd (s t : Sp) : PyData.eqv (sd s) (sd t) = decide (s = t) := by
  rw [Bool.eq_iff_iff, eqv_pln _ _ (sd_fl s).p (sd_fl t).p, sd_inj, decide_eq_true_iff]
theorem eqv_pd (s t : List Sp) : PyData.eqv (pd s) (pd t) = decide (s = t) := by
  rw [Bool.eq_iff_iff, eqv_pln _ _ (pd_fl s).p (pd_fl t).p, pd_inj, decide_eq_true_iff]
theorem sh_pd (s t : List Sp) : shallow (pd s) (pd t) = true := shallow_fl (pd_fl s) (pd_fl t) (.inl (by decide))
def txLt (x y : Str) : Bool := decide (x.cps.toList < y.cps.toList)
def sLt (s t : Sp) : Bool :=
  if s.1 = t.1 then if s.2.1 = t.2.1 then if s.2.2.1 = t.2.2.1 then decide (s.2.2.2 < t.2.2.2) else decide (s.2.2.1 < t.2.2.1) else txLt s.2.1 t.2.1 else decide (s.1 < t.1)
theorem cmp_sd (s t : Sp) : cmpD .lt (sd s) (sd t) = some (sLt s t) := by
  obtain ⟨a, b, c, d⟩ := s
  obtain ⟨a', b', c', d'⟩ := t
  have hb : PyData.eqv (.str b) (.str b') = decide (b = b') := by
    rw [Bool.eq_iff_iff, eqv_pln _ _ rfl rfl, decide_eq_true_iff]
    exact ⟨fun h => PyData.str.inj h, fun h => by rw [h]⟩
  unfold sd sLt txLt
  simp only [cmpD, cmpDs, eqv_ii, hb, O4.int, O4.tx, O4.len, Option.bind_some, beq_iff_eq, decide_eq_true_eq, List.length_nil]
  by_cases h1 : a = a'
  · by_cases h2 : b = b'
    · by_cases h3 : c = c'
      · by_cases h4 : d = d'
        · simp [h1, h2, h3, h4]
        · simp [h1, h2, h3, h4]
      · by_cases h4 : d = d' <;> simp [h1, h2, h3, h4]
    · by_cases h3 : c = c' <;> by_cases h4 : d = d' <;> simp [h1, h2, h3, h4]
  · by_cases h2 : b = b' <;> by_cases h3 : c = c' <;> by_cases h4 : d = d' <;> simp [h1, h2, h3, h4]
def e0 : D := .tuple [.int 0]
def keyD (p : List Sp) : List D := p.map sd ++ [e0]
def bef : List Sp → List Sp → Bool
  | [], [] => false
  | [], t :: _ => decide (0 < t.1)
  | s :: _, [] => decide (s.1 < 0)
  | s :: xs, t :: ys => if s = t then bef xs ys else sLt s t
theorem Sp.Ok.ne {s : Sp} (h : s.Ok) : s.1 ≠ 0 := by
  rcases h.1 with e | e <;> rw [e] <;> decide
theorem eqv_e0 {s : Sp} (h : s.Ok) : PyData.eqv e0 (sd s) = false ∧ PyData.eqv (sd s) e0 = false := by
  constructor <;> simp [e0, sd, PyData.eqv, PyData.eqvAll]
theorem cmp_e0 {s : Sp} (h : s.Ok) : cmpD .lt e0 (sd s) = some (decide (0 < s.1)) ∧ cmpD .lt (sd s) e0 = some (decide (s.1 < 0)) := by
  have n := h.ne
  have n' : ¬ (0 = s.1) := fun e => n e.symm
  constructor <;> simp [e0, sd, cmpD, cmpDs, O4.int, O4.len, n, n']
theorem cmp_bef : ∀ (xs ys : List Sp), (∀ s ∈ xs, s.Ok) → (∀ s ∈ ys, s.Ok) → cmpDs .lt (keyD xs) (keyD ys) = some (bef xs ys)
  | [], [], _, _ => by simp [keyD, e0, cmpDs, bef, PyData.eqv, PyData.eqvAll, O4.len]
  | [], t :: ys, _, hy => by
    have h := hy t List.mem_cons_self
    show cmpDs .lt (e0 :: []) (sd t :: (ys.map sd ++ [e0])) = _
    rw [cmpDs, (eqv_e0 h).1, (cmp_e0 h).1]
    cases ys <;> simp [cmpDs, bef]
  | s :: xs, [], hx, _ => by
    have h := hx s List.mem_cons_self
    show cmpDs .lt (sd s :: (xs.map sd ++ [e0])) (e0 :: []) = _
    rw [cmpDs, (eqv_e0 h).2, (cmp_e0 h).2]
    cases xs <;> simp [cmpDs, bef]
  | s :: xs, t :: ys, hx, hy => by
    show cmpDs .lt (sd s :: keyD xs) (sd t :: keyD ys) = _
    rw [cmpDs, eqv_sd, cmp_sd, cmp_bef xs ys (fun z hz => hx z (List.mem_cons_of_mem _ hz)) (fun z hz => hy z (List.mem_cons_of_mem _ hz))]
    by_cases e : s = t <;> simp [bef, e]
theorem keyD_fl (p : List Sp) : Fl 2 (.tuple (keyD p)) := .t fun d hd => by
  unfold keyD at hd
  rw [List.mem_append, List.mem_map, List.mem_singleton] at hd
  rcases hd with ⟨s, _, rfl⟩ | rfl
  · exact sd_fl s
  · refine .t fun x hx => ?_
    simp at hx
    subst hx
    exact .i _
theorem pkey_ev (p : List Sp) (hl : p.length ≤ 100000) (st : Store) : d_place_key [.d (pd p)] st = some (.sh (.tuple (keyD p)), st) := by
  unfold pd keyD e0
  simp -implicitDefEqProofs (disch := first | omega | (simp; done) | (simp; omega)) [d_place_key, b_place_key]
theorem before_ev (p q : List Sp) (hp : p.length ≤ 100000) (hq : q.length ≤ 100000) (op : ∀ s ∈ p, s.Ok) (oq : ∀ s ∈ q, s.Ok) (st : Store) : d_before [.d (pd p), .d (pd q)] st = some (.sh (.bool (bef p q)), st) := by
  have h1 := pkey_ev p hp st
  have h2 := pkey_ev q hq st
  have h3 : shallow (.tuple (keyD p)) (.tuple (keyD q)) = true := shallow_fl (keyD_fl p) (keyD_fl q) (.inl (by decide))
  have h4 : cmpD .lt (.tuple (keyD p)) (.tuple (keyD q)) = some (bef p q) := by rw [cmpD]; exact cmp_bef p q op oq
  have h5 : ∃ xs, pd p = .tuple xs := ⟨_, rfl⟩
  have h6 : ∃ xs, pd q = .tuple xs := ⟨_, rfl⟩
  obtain ⟨xs, e1⟩ := h5
  obtain ⟨ys, e2⟩ := h6
  rw [e1] at h1 ⊢
  rw [e2] at h2 ⊢
  generalize keyD p = kp at *
  generalize keyD q = kq at *
  simp -implicitDefEqProofs (disch := first | omega | assumption | (simp; done) | (simp; omega)) [d_before, b_before, h1, h2, h4]
theorem txLt_irr (x : Str) : txLt x x = false := by
  unfold txLt
  exact decide_eq_false (List.lt_irrefl _)
theorem str_ext {x y : Str} (h : x.cps.toList = y.cps.toList) : x = y := by
  obtain ⟨a⟩ := x
  obtain ⟨b⟩ := y
  have : a = b := Array.toList_inj.mp h
  rw [this]
theorem txLt_tri (x y : Str) : txLt y x = (decide (x ≠ y) && !txLt x y) := by
  unfold txLt
  by_cases e : x = y
  · subst e
    simp [List.lt_irrefl]
  · have ne : x.cps.toList ≠ y.cps.toList := fun h => e (str_ext h)
    by_cases l : x.cps.toList < y.cps.toList
    · have := List.lt_asymm l
      simp [l, this]
    · have h2 : y.cps.toList ≤ x.cps.toList := l
      have h3 : y.cps.toList < x.cps.toList := by
        apply Decidable.byContradiction
        intro h4
        exact ne (List.le_antisymm h4 h2)
      simp [l, h3, e]
theorem txLt_trans {x y z : Str} (h1 : txLt x y = true) (h2 : txLt y z = true) : txLt x z = true := by
  unfold txLt at *
  rw [decide_eq_true_iff] at *
  exact List.lt_trans h1 h2
theorem sLt_tri (s t : Sp) : sLt t s = (decide (s ≠ t) && !sLt s t) := by
  obtain ⟨a, b, c, d⟩ := s
  obtain ⟨a', b', c', d'⟩ := t
  unfold sLt
  rw [txLt_tri b b']
  by_cases h1 : a = a'
  · subst h1
    by_cases h2 : b = b'
    · subst h2
      by_cases h3 : c = c'
      · subst h3
        by_cases h4 : d = d'
        · subst h4; simp
        · simp [h4]
          rw [← decide_not]
          exact decide_eq_decide.mpr (by omega)
      · have h3' : ¬ c' = c := fun e => h3 e.symm
        simp [h3, h3']
        rw [← decide_not]
        exact decide_eq_decide.mpr (by omega)
    · have h2' : ¬ b' = b := fun e => h2 e.symm
      simp [h2, h2']
  · have h1' : ¬ a' = a := fun e => h1 e.symm
    simp [h1, h1']
    rw [← decide_not]
    exact decide_eq_decide.mpr (by omega)
theorem sLt_trans {s t u : Sp} (h1 : sLt s t = true) (h2 : sLt t u = true) : sLt s u = true := by
  obtain ⟨a, b, c, d⟩ := s
  obtain ⟨a', b', c', d'⟩ := t
  obtain ⟨a'', b'', c'', d''⟩ := u
  unfold sLt at *
  simp only at *
  by_cases e1 : a = a'
  · subst e1
    by_cases f1 : a = a''
    · subst f1
      simp only [if_true] at *
      by_cases e2 : b = b'
      · subst e2
        by_cases f2 : b = b''
        · subst f2
          simp only [if_true] at *
          by_cases e3 : c = c'
          · subst e3
            by_cases f3 : c = c''
            · subst f3
              simp only [if_true, decide_eq_true_eq] at *
              omega
            · simp only [f3, if_true, if_false, decide_eq_true_eq] at *; assumption
          · simp only [e3, if_false, decide_eq_true_eq] at h1
            by_cases f3 : c' = c''
            · subst f3; simp only [e3, if_false, decide_eq_true_eq]; assumption
            · simp only [f3, if_false, decide_eq_true_eq] at h2
              rw [if_neg (by omega), decide_eq_true_eq]; omega
        · simp only [f2, if_true, if_false] at *; assumption
      · simp only [e2, if_false] at h1
        by_cases f2 : b' = b''
        · subst f2; simp only [e2, if_false]; assumption
        · simp only [f2, if_false] at h2
          have h3 := txLt_trans h1 h2
          have : b ≠ b'' := fun e => by subst e; rw [txLt_irr] at h3; cases h3
          simp only [this, if_false]; assumption
    · simp only [f1, if_true, if_false] at *; assumption
  · simp only [e1, if_false, decide_eq_true_eq] at h1
    by_cases f1 : a' = a''
    · subst f1; simp only [e1, if_false, decide_eq_true_eq]; assumption
    · simp only [f1, if_false, decide_eq_true_eq] at h2
      rw [if_neg (by omega), decide_eq_true_eq]; omega
theorem sLt_irr (s : Sp) : sLt s s = false := by
  have := sLt_tri s s
  simpa using this
theorem bef_irr : ∀ xs, bef xs xs = false
  | [] => rfl
  | x :: xs => by simp [bef, bef_irr xs]
theorem bef_tri : ∀ (xs ys : List Sp), (∀ s ∈ xs, s.Ok) → (∀ s ∈ ys, s.Ok) → bef ys xs = (decide (xs ≠ ys) && !bef xs ys)
  | [], [], _, _ => by simp [bef]
  | [], t :: ys, _, hy => by
    have := hy t List.mem_cons_self
    have h := this.ne
    simp [bef]
    rw [← decide_not]
    exact decide_eq_decide.mpr (by omega)
  | s :: xs, [], hx, _ => by
    have := hx s List.mem_cons_self
    have h := this.ne
    simp [bef]
    rw [← decide_not]
    exact decide_eq_decide.mpr (by omega)
  | s :: xs, t :: ys, hx, hy => by
    have ih := bef_tri xs ys (fun z hz => hx z (List.mem_cons_of_mem _ hz)) (fun z hz => hy z (List.mem_cons_of_mem _ hz))
    by_cases e : s = t
    · subst e
      simp only [bef, if_true, ih]
      simp
    · have e' : ¬ t = s := fun z => e z.symm
      simp only [bef, if_neg e, if_neg e', sLt_tri s t]
      simp [e]
theorem bef_trans : ∀ (xs ys zs : List Sp), (∀ s ∈ xs, s.Ok) → (∀ s ∈ ys, s.Ok) → (∀ s ∈ zs, s.Ok) → bef xs ys = true → bef ys zs = true → bef xs zs = true
  | [], [], _, _, _, _, h, _ => by simp [bef] at h
  | [], t :: ys, [], _, _, _, h1, h2 => by
    simp only [bef, decide_eq_true_eq] at *
    omega
  | [], t :: ys, u :: zs, _, hy, hz, h1, h2 => by
    simp only [bef, decide_eq_true_eq] at *
    by_cases e : t = u
    · subst e; exact h1
    · rw [if_neg e] at h2
      unfold sLt at h2
      split at h2
      · omega
      · rw [decide_eq_true_eq] at h2; omega
  | s :: xs, [], [], _, _, _, h1, h2 => by simp [bef] at h2
  | s :: xs, [], u :: zs, _, _, _, h1, h2 => by
    simp only [bef, decide_eq_true_eq] at h1 h2
    have e : s ≠ u := fun e => by subst e; omega
    simp only [bef, if_neg e]
    unfold sLt
    rw [if_neg (by omega), decide_eq_true_eq]
    omega
  | s :: xs, t :: ys, [], _, _, _, h1, h2 => by
    simp only [bef, decide_eq_true_eq] at *
    by_cases e : s = t
    · subst e; exact h2
    · rw [if_neg e] at h1
      unfold sLt at h1
      split at h1
      · omega
      · rw [decide_eq_true_eq] at h1; omega
  | s :: xs, t :: ys, u :: zs, hx, hy, hz, h1, h2 => by
    have ih := bef_trans xs ys zs (fun z h => hx z (List.mem_cons_of_mem _ h)) (fun z h => hy z (List.mem_cons_of_mem _ h)) (fun z h => hz z (List.mem_cons_of_mem _ h))
    simp only [bef] at *
    by_cases e : s = t
    · subst e
      by_cases f : s = u
      · subst f
        simp only [if_true] at *
        exact ih h1 h2
      · simp only [if_true, if_neg f] at *
        exact h2
    · rw [if_neg e] at h1
      by_cases f : t = u
      · subst f
        rw [if_neg e]; exact h1
      · rw [if_neg f] at h2
        have h3 := sLt_trans h1 h2
        have g : s ≠ u := fun g => by subst g; rw [sLt_irr] at h3; cases h3
        rw [if_neg g]; exact h3
theorem place_of_ev (under : List D) (side h n : D) (st : Store) (hl : under.length ≤ 1000000) : d_place_of [.d (.tuple [.tuple under, side]), .d (.tuple [h, n])] st = some (.sh (.tuple (under ++ [.tuple [side, h, n, .int 0]])), st) := by
  simp (disch := first | omega | (simp; done) | (simp; omega)) [d_place_of, b_place_of]
def wr (under : List D) (side : Int) (h : Str) (n : Int) : Nat → List D
  | 0 => under ++ [.tuple [.int side, .str h, .int n, .int 0]]
  | k + 1 => wr under side h n k ++ [.tuple [.int 1, .str h, .int n, .int (k + 1 : Nat)]]
theorem wr_len (under : List D) (side : Int) (h : Str) (n : Int) : ∀ k, (wr under side h n k).length = under.length + 1 + k
  | 0 => by simp [wr]
  | k + 1 => by simp [wr, wr_len under side h n k]; omega
def wrs (under : List D) (side : Int) (h : Str) (n : Int) (m : Nat) : List D := (List.range m).map fun k => .tuple (wr under side h n k)
theorem places_of_ev (under : List D) (hl : under.length ≤ 100000) (side : Int) (h : Str) (n : Int) (seen word thing : D) (w : Str) (m : Nat) (hw : w.cps.size = m + 1) (hm : m ≤ 100) (st : Store) :
    d_places_of [.d (.tuple [.tuple [.str h, .int n], seen, .tuple [word, thing, .tuple under, .int side, .str w]])] st = some (.fr (.d (.list (wrs under side h n (m + 1)))), st) := by
  obtain ⟨r', h1, h2⟩ := runFor_inv0 (p := .v 6) (f := l1_places_of) (fun k r => ∃ (s : CM.Slot), r = ⟨[.sh (.tuple [.tuple [.str h, .int n], seen, .tuple [word, thing, .tuple under, .int side, .str w]]), .sh (.tuple [.str h, .int n]), .sh seen, .sh (.tuple [word, thing, .tuple under, .int side, .str w]), .sh (.tuple (wr under side h n k)), .ow (.d (.list (wrs under side h n (k + 1)))), s], st⟩)
    (rgD 1 m) ⟨[.sh (.tuple [.tuple [.str h, .int n], seen, .tuple [word, thing, .tuple under, .int side, .str w]]), .sh (.tuple [.str h, .int n]), .sh seen, .sh (.tuple [word, thing, .tuple under, .int side, .str w]), .sh (.tuple (wr under side h n 0)), .ow (.d (.list [.tuple (wr under side h n 0)])), .no], st⟩ ⟨.no, rfl⟩ fun i r x hi hx => by
      obtain ⟨s, rfl⟩ := hi
      obtain ⟨hi, rfl⟩ := rgD_get hx
      refine ⟨_, .nx, _, rfl, ?_, .inl rfl, .sh (.int (1 + i)), rfl⟩
      have l1 := wr_len under side h n (i)
      have l2 : (wrs under side h n (i + 1)).length = i + 1 := by simp [wrs]
      have e1 : wrs under side h n (i + 1 + 1) = wrs under side h n (i + 1) ++ [.tuple (wr under side h n (i + 1))] := by
        unfold wrs
        rw [List.range_succ, List.map_append]
        rfl
      have e2 : wr under side h n (i + 1) = wr under side h n (i) ++ [.tuple [.int 1, .str h, .int n, .int (1 + (i : Int))]] := by
        show wr under side h n (i) ++ _ = _
        rw [show (((i + 1 : Nat)) : Int) = 1 + (i : Int) by omega]
      rw [e1, e2]
      simp (disch := first | omega | (simp; done) | (simp; omega)) [l1_places_of]
  obtain ⟨s, rfl⟩ := h2
  have e0 : wr under side h n 0 = under ++ [.tuple [.int side, .str h, .int n, .int 0]] := rfl
  rw [e0] at h1
  rw [rgD_len] at h1
  have hp := place_of_ev under (.int side) (.str h) (.int n) st (by omega)
  simp (disch := first | omega | (simp; done) | (simp; omega)) [d_places_of, b_places_of, hp, hw, h1]
def wrp (u : List Sp) (a : Int) (h : Str) (n : Int) : Nat → List Sp
  | 0 => u ++ [(a, h, n, 0)]
  | k + 1 => wrp u a h n k ++ [(1, h, n, ((k + 1 : Nat) : Int))]
theorem wr_wrp (u : List Sp) (a : Int) (h : Str) (n : Int) : ∀ k, wr (u.map sd) a h n k = (wrp u a h n k).map sd
  | 0 => by rw [wr, wrp, List.map_append]; rfl
  | k + 1 => by rw [wr, wrp, List.map_append, wr_wrp u a h n k]; rfl
def wrps (u : List Sp) (a : Int) (h : Str) (n : Int) (m : Nat) : List (List Sp) := (List.range m).map (wrp u a h n)
theorem wrs_wrps (u : List Sp) (a : Int) (h : Str) (n : Int) (m : Nat) : wrs (u.map sd) a h n m = (wrps u a h n m).map pd := by
  unfold wrs wrps
  rw [List.map_map]
  exact List.map_congr_left fun k _ => by rw [wr_wrp]; rfl
theorem wrp_len (u : List Sp) (a : Int) (h : Str) (n : Int) : ∀ k, (wrp u a h n k).length = u.length + 1 + k
  | 0 => by simp [wrp]
  | k + 1 => by simp [wrp, wrp_len u a h n k]; omega
theorem wrp_ok {u : List Sp} (hu : ∀ s ∈ u, s.Ok) {a : Int} (ha : a = 1 ∨ a = -1) {h : Str} (hh : h.cps.size ≤ 8) (n : Int) : ∀ k, ∀ s ∈ wrp u a h n k, s.Ok
  | 0, s, hs => by
    rw [wrp, List.mem_append, List.mem_singleton] at hs
    rcases hs with hs | rfl
    · exact hu s hs
    · exact ⟨ha, hh⟩
  | k + 1, s, hs => by
    rw [wrp, List.mem_append, List.mem_singleton] at hs
    rcases hs with hs | rfl
    · exact wrp_ok hu ha hh n k s hs
    · exact ⟨.inl rfl, hh⟩
theorem wrps_len (u : List Sp) (a : Int) (h : Str) (n : Int) (m : Nat) : (wrps u a h n m).length = m := by simp [wrps]
theorem rw_succ (t : TF) (g : SF) (n : Nat) (r : CM.Env) : runWhile t g (n + 1) r = (t r).bind fun b => if b.1 = true then (g b.2).bind fun p => match p.1 with
      | .nx => runWhile t g n p.2
      | .ct => runWhile t g n p.2
      | .bk => some (.nx, p.2)
      | .rt z => some (.rt z, p.2)
    else some (.nx, b.2) := rfl
abbrev Sg := List Sp × Str
def rowS (r : Sg) : D := .tuple [pd r.1, .str r.2]
def sg (L : List D) : Ob := ⟨"Signs", [("kept", .ow (.d (.list L)))]⟩
def sgL (L : List D) : Ob := ⟨"Signs", [("kept", .lk (.d (.list L)))]⟩
structure Pk (p : List Sp) : Prop where
  le : p.length ≤ 4000
  ok : ∀ s ∈ p, s.Ok
def Asc (l : List Sg) : Prop := l.Pairwise fun a b => bef a.1 b.1 = true
structure Cnt (l : List Sg) (p : List Sp) (k : Nat) : Prop where
  le : k ≤ l.length
  lo : ∀ (j : Nat) (r : Sg), l[j]? = some r → j < k → bef r.1 p = true
  hi : ∀ (j : Nat) (r : Sg), l[j]? = some r → k ≤ j → bef r.1 p = false
theorem asc_get {l : List Sg} (h : Asc l) {i j : Nat} {a b : Sg} (ha : l[i]? = some a) (hb : l[j]? = some b) (hij : i < j) : bef a.1 b.1 = true := by
  obtain ⟨h1, e1⟩ := List.getElem?_eq_some_iff.mp ha
  obtain ⟨h2, e2⟩ := List.getElem?_eq_some_iff.mp hb
  have := List.pairwise_iff_getElem.mp h i j h1 h2 hij
  rw [e1, e2] at this
  exact this
theorem ahead_loop (i : Nat) (l : List Sg) (hl : l.length ≤ 4000) (ok : ∀ r ∈ l, Pk r.1) (asc : Asc l) (p : List Sp) (hp : Pk p) (st : Store) (h : st[i]? = some (sgL (l.map rowS))) : ∀ (d low high : Nat), high - low = d → low ≤ high → high ≤ l.length →
    (∀ (j : Nat) (r : Sg), l[j]? = some r → j < low → bef r.1 p = true) → (∀ (j : Nat) (r : Sg), l[j]? = some r → high ≤ j → bef r.1 p = false) → ∀ (fuel : Nat) (s4 : CM.Slot), d < fuel →
    ∃ (k : Nat) (s4' : CM.Slot), Cnt l p k ∧ runWhile wt1_Signs_ahead_of w1_Signs_ahead_of fuel ⟨[.sh (obD i), .sh (pd p), .sh (.int low), .sh (.int high), s4], st⟩ = some (.nx, ⟨[.sh (obD i), .sh (pd p), .sh (.int k), .sh (.int k), s4'], st⟩) := by
  intro d
  induction d using Nat.strongRecOn with
  | ind d ih =>
    intro low high hd hlh hhl lo hi fuel s4 hf
    obtain ⟨fuel, rfl⟩ : ∃ f, fuel = f + 1 := ⟨fuel - 1, by omega⟩
    rw [rw_succ]
    by_cases c : low < high
    · have c' : (low : Int) < (high : Int) := by omega
      obtain ⟨m, hm⟩ : ∃ m : Nat, m = (low + high) / 2 := ⟨_, rfl⟩
      have hm' : ((low : Int) + (high : Int)) / 2 = (m : Int) := by omega
      obtain ⟨q, hq⟩ : ∃ q, l[m]? = some q := ⟨_, List.getElem?_eq_getElem (by omega)⟩
      have hqk := ok q (List.mem_of_getElem? hq)
      have hat := atD_nat (xs := l.map rowS) (n := m) (x := rowS q) (by rw [List.getElem?_map, hq]; rfl)
      have hb := before_ev q.1 p (by have := hqk.le; omega) (by have := hp.le; omega) hqk.ok hp.ok st
      have tp : ∀ p, ∃ xs, pd p = .tuple xs := fun _ => ⟨_, rfl⟩
      obtain ⟨xs, ex⟩ := tp q.1
      unfold rowS at hat
      rw [ex] at hat hb
      have hlen : (l.map rowS).length ≤ 4000 := by rw [List.length_map]; exact hl
      cases cb : bef q.1 p with
      | true =>
        obtain ⟨k, s4', hk, e⟩ := ih (high - (m + 1)) (by omega) (m + 1) high rfl (by omega) hhl (fun j r hj hjm => by
          rcases Nat.lt_or_ge j m with z | z
          · exact bef_trans _ _ _ (ok r (List.mem_of_getElem? hj)).ok hqk.ok hp.ok (asc_get asc hj hq z) cb
          · have : j = m := by omega
            subst this
            rw [hq] at hj; cases hj; exact cb) hi fuel (.sh (.int m)) (by omega)
        refine ⟨k, s4', hk, ?_⟩
        rw [← e, show (((m + 1 : Nat)) : Int) = (m : Int) + 1 by omega]
        rw [cb] at hb
        obtain ⟨ys, ey⟩ := tp p
        rw [ey] at hb ⊢
        unfold sgL at h
        unfold rowS at h
        generalize (l.map fun r : Sg => PyData.tuple [pd r.1, .str r.2]) = L at *
        simp -implicitDefEqProofs (maxSteps := 2000000) (disch := first | omega | assumption | (simp; done) | (simp; omega)) [wt1_Signs_ahead_of, w1_Signs_ahead_of, c', hm', h, hat, hb]
      | false =>
        obtain ⟨k, s4', hk, e⟩ := ih (m - low) (by omega) low m rfl (by omega) (by omega) lo (fun j r hj hjm => by
          rcases Nat.lt_or_ge m j with z | z
          · have hr := ok r (List.mem_of_getElem? hj)
            cases w : bef r.1 p with
            | false => rfl
            | true =>
              have := bef_trans _ _ _ hqk.ok hr.ok hp.ok (asc_get asc hq hj z) w
              rw [cb] at this; cases this
          · have : j = m := by omega
            subst this
            rw [hq] at hj; cases hj; exact cb) fuel (.sh (.int m)) (by omega)
        refine ⟨k, s4', hk, ?_⟩
        rw [← e]
        rw [cb] at hb
        obtain ⟨ys, ey⟩ := tp p
        rw [ey] at hb ⊢
        unfold sgL at h
        unfold rowS at h
        generalize (l.map fun r : Sg => PyData.tuple [pd r.1, .str r.2]) = L at *
        simp -implicitDefEqProofs (maxSteps := 2000000) (disch := first | omega | assumption | (simp; done) | (simp; omega)) [wt1_Signs_ahead_of, w1_Signs_ahead_of, c', hm', h, hat, hb]
    · have e : low = high := by omega
      subst e
      refine ⟨low, s4, ⟨hhl, lo, hi⟩, ?_⟩
      generalize pd p = dp at *
      simp -implicitDefEqProofs (maxSteps := 2000000) (disch := first | omega | assumption | (simp; done) | (simp; omega)) [wt1_Signs_ahead_of]
theorem ahead_ev (i : Nat) (l : List Sg) (hl : l.length ≤ 4000) (ok : ∀ r ∈ l, Pk r.1) (asc : Asc l) (p : List Sp) (hp : Pk p) (st : Store) (h : st[i]? = some (sgL (l.map rowS))) : ∃ k, Cnt l p k ∧ d_Signs_ahead_of [.d (obD i), .d (pd p)] st = some (.sh (.int (k : Nat)), st) := by
  obtain ⟨k, s4', hk, e⟩ := ahead_loop i l hl ok asc p hp st h l.length 0 l.length (by omega) (Nat.zero_le _) (Nat.le_refl _) (fun j r _ z => by omega) (fun j r hj z => by
    have := (List.getElem?_eq_some_iff.mp hj).1; omega) 1000000 .no (by omega)
  refine ⟨k, hk, ?_⟩
  have hlen : (l.map rowS).length = l.length := List.length_map ..
  have e0 : ((0 : Nat) : Int) = 0 := rfl
  rw [e0] at e
  obtain ⟨ys, ey⟩ : ∃ xs, pd p = .tuple xs := ⟨_, rfl⟩
  rw [ey] at e ⊢
  unfold sgL at h
  generalize l.map rowS = L at *
  generalize hF : (1000000 : Nat) = fuel at *
  simp -implicitDefEqProofs (maxSteps := 2000000) (disch := first | omega | assumption | (simp; done) | (simp; omega)) [d_Signs_ahead_of, b_Signs_ahead_of, h, hlen, hF, e]
def insS (l : List Sg) (k : Nat) (r : Sg) : List Sg := l.take k ++ [r] ++ l.drop k
theorem insS_perm (l : List Sg) (k : Nat) (r : Sg) : (insS l k r).Perm (l ++ [r]) := by
  unfold insS
  have h : (l.take k ++ [r] ++ l.drop k).Perm (l.take k ++ l.drop k ++ [r]) := by
    rw [List.append_assoc, List.append_assoc]
    exact List.Perm.append_left _ List.perm_append_comm
  rw [List.take_append_drop] at h
  exact h
theorem insS_asc {l : List Sg} {p : List Sp} {k : Nat} (asc : Asc l) (ok : ∀ r ∈ l, Pk r.1) (hp : Pk p) (c : Cnt l p k) (new : ∀ r ∈ l, r.1 ≠ p) (s : Str) : Asc (insS l k (p, s)) := by
  unfold Asc insS
  have lo : ∀ r ∈ l.take k, bef r.1 p = true := fun r hr => by
    obtain ⟨j, hj⟩ := List.mem_iff_getElem?.mp hr
    rw [List.getElem?_take] at hj
    split at hj
    · rename_i z; exact c.lo j r hj z
    · cases hj
  have hi : ∀ r ∈ l.drop k, bef p r.1 = true := fun r hr => by
    obtain ⟨j, hj⟩ := List.mem_iff_getElem?.mp hr
    rw [List.getElem?_drop] at hj
    have h1 := c.hi (k + j) r hj (by omega)
    have hm := List.mem_of_mem_drop hr
    rw [bef_tri r.1 p (ok r hm).ok hp.ok, h1, decide_eq_true (new r hm)]; rfl
  have asc' := asc
  unfold Asc at asc'
  rw [← List.take_append_drop k l, List.pairwise_append] at asc'
  obtain ⟨a1, a2, a3⟩ := asc'
  rw [List.append_assoc, List.pairwise_append]
  refine ⟨a1, ?_, fun a ha b hb => ?_⟩
  · rw [List.singleton_append, List.pairwise_cons]
    exact ⟨fun b hb => hi b hb, a2⟩
  · rw [List.singleton_append] at hb
    rcases List.mem_cons.mp hb with rfl | hb
    · exact lo a ha
    · exact a3 a ha b hb
theorem insS_row (l : List Sg) (k : Nat) (r : Sg) : insD (l.map rowS) k (rowS r) = (insS l k r).map rowS := by
  unfold insD insS
  rw [List.map_append, List.map_append, List.map_take, List.map_drop]; rfl
theorem asc_one {l m : List Sg} (hl : Asc l) (hm : Asc m) (okl : ∀ r ∈ l, Pk r.1) (p : l.Perm m) : l = m := by
  refine List.Perm.eq_of_pairwise (le := fun a b : Sg => bef a.1 b.1 = true) (fun a b ha hb h1 h2 => ?_) hl hm p
  have h1 := h1
  rw [bef_tri b.1 a.1 (okl b (p.mem_iff.mpr hb)).ok (okl a ha).ok, h2] at h1
  simp at h1
structure Wr where
  t : D
  h : Str
  n : Int
  sn : D
  u : List Sp
  a : Int
  w : Str
structure WrOk (y : Wr) : Prop where
  h : y.h.cps.size ≤ 8
  a : y.a = 1 ∨ y.a = -1
  ul : y.u.length ≤ 900
  u : ∀ s ∈ y.u, s.Ok
  w1 : 1 ≤ y.w.cps.size
  w2 : y.w.cps.size ≤ 50
def Wr.d (y : Wr) : D := .tuple [.tuple [.str y.h, .int y.n], y.sn, .tuple [.str "write", y.t, pd y.u, .int y.a, .str y.w]]
def Wr.ps (y : Wr) : List (List Sp) := wrps y.u y.a y.h y.n y.w.cps.size
def Wr.rows (y : Wr) : List Sg := y.ps.zip (y.w.cps.toList.map fun c => (⟨#[c]⟩ : Str))
theorem Wr.rows_fst (y : Wr) : y.rows.map (·.1) = y.ps := by
  unfold Wr.rows
  exact List.map_fst_zip (by unfold Wr.ps; rw [wrps_len]; simp)
theorem Wr.rows_len (y : Wr) : y.rows.length = y.w.cps.size := by
  have := congrArg List.length y.rows_fst
  rw [List.length_map] at this
  rw [this]
  exact wrps_len ..
theorem Wr.ps_ok {y : Wr} (k : WrOk y) : ∀ p ∈ y.ps, Pk p := fun p hp => by
  unfold Wr.ps wrps at hp
  obtain ⟨i, hi, rfl⟩ := List.mem_map.mp hp
  rw [List.mem_range] at hi
  have := k.ul
  have := k.w2
  exact ⟨by rw [wrp_len]; omega, wrp_ok k.u k.a k.h y.n i⟩
theorem Wr.row_ok {y : Wr} (k : WrOk y) : ∀ r ∈ y.rows, Pk r.1 := fun r hr => by
  have : r.1 ∈ y.rows.map (·.1) := List.mem_map_of_mem hr
  rw [y.rows_fst] at this
  exact Wr.ps_ok k _ this
theorem zipX_rows (ps : List (List Sp)) (w : Str) : zipX (ps.map pd) w = (ps.zip (w.cps.toList.map fun c => (⟨#[c]⟩ : Str))).map rowS := by
  unfold zipX
  rw [List.zip_map_left, List.zip_map_right, List.map_map, List.map_map]
  rfl
theorem sput_ev (i : Nat) (l : List Sg) (hl : l.length ≤ 4000) (ok : ∀ r ∈ l, Pk r.1) (asc : Asc l) (q : Sg) (hq : Pk q.1) (new : ∀ r ∈ l, r.1 ≠ q.1) (st : Store) (h : st[i]? = some (sg (l.map rowS))) (s1 s2 s3 : CM.Slot) :
    ∃ l', Asc l' ∧ (∀ r ∈ l', Pk r.1) ∧ l'.Perm (l ++ [q]) ∧ (bindP (.t [2, 3]) (rowS q) ⟨[.sh (obD i), s1, s2, s3], st⟩).bind l1_Signs_write = some (.nx, ⟨[.sh (obD i), s1, .sh (pd q.1), .sh (.str q.2)], st.set i (sg (l'.map rowS))⟩) := by
  obtain ⟨k, hk, ea⟩ := ahead_ev i l hl ok asc q.1 hq (st.set i (sgL (l.map rowS))) (st_get h _)
  have hkl := hk.le
  refine ⟨insS l k q, insS_asc asc ok hq hk new q.2, fun r hr => ?_, insS_perm l k q, ?_⟩
  · rcases List.mem_append.mp ((insS_perm l k q).mem_iff.mp hr) with hr | hr
    · exact ok r hr
    · rw [List.mem_singleton] at hr; subst hr; exact hq
  · rw [← insS_row]
    have g1 := st_get h
    have g2 := st_put h
    have g3 := st_put2 h
    have g4 := st_same h
    have hlen : (l.map rowS).length ≤ 4000 := by rw [List.length_map]; exact hl
    have hk2 : (k : Int).toNat = k := by omega
    have hg : gIns (.d (.list (l.map rowS))) [.int (k : Int), rowS q] = some (.sh .none, .d (.list (insD (l.map rowS) k (rowS q)))) := by
      rw [gIns_l, if_pos ⟨by omega, by omega, by omega⟩, hk2]
    unfold rowS at hg
    obtain ⟨ys, ey⟩ : ∃ xs, pd q.1 = .tuple xs := ⟨_, rfl⟩
    unfold sg sgL at *
    unfold rowS
    rw [ey] at hg ea ⊢
    generalize insD (l.map fun r : Sg => PyData.tuple [pd r.1, .str r.2]) k (.tuple [.tuple ys, .str q.2]) = X at *
    unfold rowS at h g2 g4 ea
    generalize (l.map fun r : Sg => PyData.tuple [pd r.1, .str r.2]) = L at *
    simp -implicitDefEqProofs (maxSteps := 2000000) (disch := first | omega | assumption | (simp; done) | (simp; omega)) [l1_Signs_write, h, g1, g2, g3, g4, ea, hg]
theorem write_ev (i : Nat) (l : List Sg) (ok : ∀ r ∈ l, Pk r.1) (asc : Asc l) (y : Wr) (k : WrOk y) (nd : ((l ++ y.rows).map (·.1)).Nodup) (hl : l.length ≤ 3900) (st : Store) (h : st[i]? = some (sg (l.map rowS))) :
    ∃ l', Asc l' ∧ (∀ r ∈ l', Pk r.1) ∧ l'.Perm (l ++ y.rows) ∧ d_Signs_write [.d (obD i), .d y.d] st = some (.sh .none, st.set i (sg (l'.map rowS))) := by
  have hw := k.w2
  have hrl := y.rows_len
  obtain ⟨r', h1, l', s2, s3, rfl, a1, a2, a3⟩ := for_inv (p := .t [2, 3]) (f := l1_Signs_write) rowS (fun j r => ∃ (l' : List Sg) (s2 s3 : CM.Slot), r = (⟨[.sh (obD i), .sh y.d, s2, s3], st.set i (sg (l'.map rowS))⟩ : CM.Env) ∧ Asc l' ∧ (∀ r ∈ l', Pk r.1) ∧ l'.Perm (l ++ y.rows.take j)) y.rows ⟨[.sh (obD i), .sh y.d, .no, .no], st⟩
    ⟨l, .no, .no, by rw [st_same h], asc, ok, by rw [List.take_zero, List.append_nil]⟩ fun j r q hI hq => by
      obtain ⟨l', s2, s3, rfl, a1, a2, a3⟩ := hI
      have hj := (List.getElem?_eq_some_iff.mp hq).1
      have hlen : l'.length ≤ 4000 := by
        rw [a3.length_eq, List.length_append, List.length_take]; omega
      have new : ∀ r ∈ l', r.1 ≠ q.1 := fun r hr e => by
        have hr := a3.mem_iff.mp hr
        have nd' : ((l ++ (y.rows.take j ++ [q])).map (·.1)).Nodup := by
          have hs : (l ++ y.rows.take (j + 1)).Sublist (l ++ y.rows) := List.Sublist.append_left (List.take_sublist _ _) l
          have e : y.rows.take (j + 1) = y.rows.take j ++ [q] := by rw [List.take_add_one, hq]; rfl
          rw [e] at hs
          exact nd.sublist (hs.map _)
        rw [← List.append_assoc, List.map_append, List.nodup_append] at nd'
        exact nd'.2.2 r.1 (List.mem_map_of_mem hr) q.1 (by simp) e
      obtain ⟨l2, b1, b2, b3, b4⟩ := sput_ev i l' hlen a2 a1 q (Wr.row_ok k q (List.mem_of_getElem? hq)) new (st.set i (sg (l'.map rowS))) (st_get h _) (.sh y.d) s2 s3
      rw [List.set_set] at b4
      refine ⟨_, b4, l2, _, _, rfl, b1, b2, b3.trans ?_⟩
      have e : y.rows.take (j + 1) = y.rows.take j ++ [q] := by rw [List.take_add_one, hq]; rfl
      rw [e, ← List.append_assoc]
      exact List.Perm.append_right _ a3
  rw [List.take_length] at a3
  refine ⟨l', a1, a2, a3, ?_⟩
  obtain ⟨m, hm⟩ : ∃ m, y.w.cps.size = m + 1 := ⟨y.w.cps.size - 1, by have := k.w1; omega⟩
  have hp := places_of_ev (y.u.map sd) (by rw [List.length_map]; have := k.ul; omega) y.a y.h y.n y.sn (.str "write") y.t y.w m hm (by omega) st
  rw [wrs_wrps] at hp
  have ez : zipX ((wrps y.u y.a y.h y.n (m + 1)).map pd) y.w = y.rows.map rowS := by
    rw [zipX_rows]
    unfold Wr.rows Wr.ps
    rw [hm]
  unfold Wr.d at h1 ⊢
  have epd : pd y.u = .tuple (y.u.map sd) := rfl
  rw [epd] at h1 ⊢
  generalize y.u.map sd = us at *
  generalize (wrps y.u y.a y.h y.n (m + 1)).map pd = PP at *
  generalize y.rows.map rowS = RR at *
  generalize sg (l'.map rowS) = o' at *
  generalize st.set i o' = st' at *
  simp -implicitDefEqProofs (maxSteps := 2000000) (disch := first | omega | assumption | (simp; done) | (simp; omega)) [d_Signs_write, b_Signs_write, hp, ez, h1]
theorem Wr.ps_nd (y : Wr) : y.ps.Nodup := by
  unfold Wr.ps wrps
  refine List.Pairwise.map _ (fun a b h e => h ?_) List.nodup_range
  have := congrArg List.length e
  rw [wrp_len, wrp_len] at this
  omega
theorem in_pds (p : List Sp) (ps : List (List Sp)) : shallowAll (pd p) (ps.map pd) = true ∧ inDs (pd p) (ps.map pd) = decide (p ∈ ps) := by
  constructor
  · unfold shallowAll
    rw [Bool.and_eq_true, List.all_eq_true]
    refine ⟨?_, fun y hy => ?_⟩
    · exact pln_nod _ (pd_fl p).p
    · obtain ⟨z, _, rfl⟩ := List.mem_map.mp hy
      exact sh_pd z p
  · unfold inDs
    rw [Bool.eq_iff_iff, List.any_eq_true, decide_eq_true_iff]
    constructor
    · rintro ⟨y, hy, e⟩
      obtain ⟨z, hz, rfl⟩ := List.mem_map.mp hy
      rw [eqv_pd, decide_eq_true_iff] at e
      exact e ▸ hz
    · intro hh
      exact ⟨pd p, List.mem_map.mpr ⟨p, hh, rfl⟩, by rw [eqv_pd]; exact decide_eq_true rfl⟩
def outS (l : List Sg) (ps : List (List Sp)) : List Sg := l.filter fun r => !decide (r.1 ∈ ps)
theorem cut_comp1 (l : List Sg) (ps : List (List Sp)) (c : C) (hc : c = .d (.list (ps.map pd)) ∨ c = .d (.tuple (ps.map pd))) (s0 s1 s2 : CM.Slot) (hs : slotC s1 = some c) (st : Store) : runComp [3] (.v 3) ct1_Signs_cut ce1_Signs_cut (l.map rowS) ⟨[s0, s1, s2, .no], st⟩ = some ((l.filter fun r => decide (r.1 ∈ ps)).map rowS, ⟨[s0, s1, s2, .no], st⟩) :=
  comp_flt rowS (fun r => decide (r.1 ∈ ps)) rowS ⟨[s0, s1, s2, .no], st⟩ l fun r _ => by
    obtain ⟨i1, i2⟩ := in_pds r.1 ps
    unfold rowS
    generalize pd r.1 = dp at *
    generalize ps.map pd = PP at *
    rcases hc with rfl | rfl
    · cases q : decide (r.1 ∈ ps) <;> rw [q] at i2 <;> simp -implicitDefEqProofs (maxSteps := 2000000) (disch := first | omega | assumption | (simp; done) | (simp; omega)) [compStep, ct1_Signs_cut, ce1_Signs_cut, hs, i2]
    · cases q : decide (r.1 ∈ ps) <;> rw [q] at i2 <;> simp -implicitDefEqProofs (maxSteps := 2000000) (disch := first | omega | assumption | (simp; done) | (simp; omega)) [compStep, ct1_Signs_cut, ce1_Signs_cut, hs, i2]
theorem cut_comp2 (l : List Sg) (ps : List (List Sp)) (c : C) (hc : c = .d (.list (ps.map pd)) ∨ c = .d (.tuple (ps.map pd))) (s0 s1 s2 : CM.Slot) (hs : slotC s1 = some c) (st : Store) : runComp [3] (.v 3) ct2_Signs_cut ce2_Signs_cut (l.map rowS) ⟨[s0, s1, s2, .no], st⟩ = some ((outS l ps).map rowS, ⟨[s0, s1, s2, .no], st⟩) :=
  comp_flt rowS (fun r => !decide (r.1 ∈ ps)) rowS ⟨[s0, s1, s2, .no], st⟩ l fun r _ => by
    obtain ⟨i1, i2⟩ := in_pds r.1 ps
    unfold rowS
    generalize pd r.1 = dp at *
    generalize ps.map pd = PP at *
    rcases hc with rfl | rfl
    · cases q : decide (r.1 ∈ ps) <;> rw [q] at i2 <;> simp -implicitDefEqProofs (maxSteps := 2000000) (disch := first | omega | assumption | (simp; done) | (simp; omega)) [compStep, ct2_Signs_cut, ce2_Signs_cut, hs, i2]
    · cases q : decide (r.1 ∈ ps) <;> rw [q] at i2 <;> simp -implicitDefEqProofs (maxSteps := 2000000) (disch := first | omega | assumption | (simp; done) | (simp; omega)) [compStep, ct2_Signs_cut, ce2_Signs_cut, hs, i2]
theorem cut_ev (i : Nat) (l : List Sg) (hl : l.length ≤ 4000) (ps : List (List Sp)) (c : C) (hc : c = .d (.list (ps.map pd)) ∨ c = .d (.tuple (ps.map pd))) (st : Store) (h : st[i]? = some (sg (l.map rowS))) :
    ∃ X, d_Signs_cut [.d (obD i), c] st = some (.fr (.d (.list X)), st.set i (sg ((outS l ps).map rowS))) := by
  have g1 := st_get h
  have g2 := st_put h
  have g3 := st_put2 h
  have g4 := st_same h
  have hlm : (l.map rowS).length ≤ 4000 := by rw [List.length_map]; exact hl
  have k1 := fun s0 s1 s2 hs st => cut_comp1 l ps c hc s0 s1 s2 hs st
  have k2 := fun s0 s1 s2 hs st => cut_comp2 l ps c hc s0 s1 s2 hs st
  refine ⟨(l.filter fun r => decide (r.1 ∈ ps)).map rowS, ?_⟩
  unfold sg at *
  generalize (l.filter fun r => decide (r.1 ∈ ps)).map rowS = X at *
  generalize (outS l ps).map rowS = Y at *
  generalize l.map rowS = L at *
  generalize ps.map pd = PP at *
  rcases hc with rfl | rfl
  · have k1 := fun s0 s2 st => k1 s0 (.bo (.d (.list PP))) s2 rfl st
    have k2 := fun s0 s2 st => k2 s0 (.bo (.d (.list PP))) s2 rfl st
    simp -implicitDefEqProofs (maxSteps := 2000000) (disch := first | omega | assumption | (simp; done) | (simp; omega)) [d_Signs_cut, b_Signs_cut, h, g1, g2, g3, g4, k1, k2]
  · have k1 := fun s0 s2 st => k1 s0 (.sh (.tuple PP)) s2 rfl st
    have k2 := fun s0 s2 st => k2 s0 (.sh (.tuple PP)) s2 rfl st
    simp -implicitDefEqProofs (maxSteps := 2000000) (disch := first | omega | assumption | (simp; done) | (simp; omega)) [d_Signs_cut, b_Signs_cut, h, g1, g2, g3, g4, k1, k2]
theorem rowsS_ev {st : Store} {i : Nat} {L : List D} (h : st[i]? = some (sg L)) : d_Signs_rows [.d (obD i)] st = some (.fr (.d (.list L)), st) := by
  unfold sg at h
  simp -implicitDefEqProofs (maxSteps := 2000000) (disch := first | omega | assumption | (simp; done) | (simp; omega)) [d_Signs_rows, b_Signs_rows, h]
structure Mr where
  h : Str
  n : Int
  f : List Sp
  l : List Sp
  w : Str
  hs : List (List Sp × List Sp)
structure MrOk (m : Mr) : Prop where
  f : Pk m.f
  l : Pk m.l
  hs : ∀ e ∈ m.hs, Pk e.1 ∧ Pk e.2
  few : m.hs.length ≤ 4000
def mnD (m : Mr) : D := .tuple [.str m.h, .int m.n]
def hoD (e : List Sp × List Sp) : D := .tuple [pd e.1, pd e.2]
def mkF (m : Mr) (x : Fd) : Ob := ⟨"Mark", [("name", .d (mnD m)), ("first", .d (pd m.f)), ("last", .d (pd m.l)), ("word", .d (.str m.w)), ("holes", x)]⟩
def mkO (m : Mr) : Ob := mkF m (.ow (.d (.list (m.hs.map hoD))))
def mkA (L : List D) : Ob := ⟨"Marks", [("kept", .ow (.d (.list L)))]⟩
def mkL (L : List D) : Ob := ⟨"Marks", [("kept", .lk (.d (.list L)))]⟩
structure MS (st : Store) (a : Nat) (is : List Nat) (ms : List Mr) : Prop where
  top : st[a]? = some (mkA (is.map obD))
  ln : is.length = ms.length
  at_ : ∀ q ∈ is.zip ms, st[q.1]? = some (mkO q.2)
  na : a ∉ is
  nd : is.Nodup
theorem MS.lt {st : Store} {a : Nat} {is : List Nat} {ms : List Mr} (s : MS st a is ms) : a < st.length ∧ ∀ i ∈ is, i < st.length := by
  refine ⟨(List.getElem?_eq_some_iff.mp s.top).1, fun i hi => ?_⟩
  obtain ⟨k, hk⟩ := List.mem_iff_getElem?.mp hi
  have kl := (List.getElem?_eq_some_iff.mp hk).1
  obtain ⟨m, hm⟩ : ∃ m, ms[k]? = some m := ⟨_, List.getElem?_eq_getElem (by rw [← s.ln]; exact kl)⟩
  have : (i, m) ∈ is.zip ms := List.mem_of_getElem? (i := k) (by rw [List.getElem?_zip_eq_some]; exact ⟨hk, hm⟩)
  exact (List.getElem?_eq_some_iff.mp (s.at_ _ this)).1
theorem MS.same {st st' : Store} {a : Nat} {is : List Nat} {ms : List Mr} (s : MS st a is ms) (h : ∀ j, j < st.length → st'[j]? = st[j]?) : MS st' a is ms :=
  ⟨(h a s.lt.1).trans s.top, s.ln, fun q hq => (h _ (s.lt.2 _ (List.of_mem_zip hq).1)).trans (s.at_ q hq), s.na, s.nd⟩
theorem MS.frame {st st' : Store} {a : Nat} {is : List Nat} {ms : List Mr} (s : MS st a is ms) (h : ∀ j, j = a ∨ j ∈ is → st'[j]? = st[j]?) : MS st' a is ms :=
  ⟨(h a (.inl rfl)).trans s.top, s.ln, fun q hq => (h _ (.inr (List.of_mem_zip hq).1)).trans (s.at_ q hq), s.na, s.nd⟩
theorem zip_map_l {is : List Nat} {ms : List Mr} (e : is.length = ms.length) : (is.zip ms).map (fun q => obD q.1) = is.map obD := by
  have := List.map_fst_zip (l₁ := is) (l₂ := ms) (by omega)
  conv => rhs; rw [← this, List.map_map]
  rfl
theorem zip_flt_r {β : Type} {is : List Nat} {ms : List Mr} (e : is.length = ms.length) (b : Mr → Bool) (g : Mr → β) : ((is.zip ms).filter fun q => b q.2).map (fun q => g q.2) = (ms.filter b).map g := by
  have := List.map_snd_zip (l₁ := is) (l₂ := ms) (by omega)
  conv => rhs; rw [← this, List.filter_map, List.map_map]
  rfl
theorem mkO_cls (m : Mr) : (mkO m).cls = "Mark" := rfl
theorem mkO_no (m : Mr) (x : Str) (h : ((mkO m).fs.lookup x) = none) : noFd x (mkO m) = some () := noFd_ok h
theorem set_ne {st : Store} {a i : Nat} (x : Ob) (h : i ≠ a) : (st.set a x)[i]? = st[i]? := List.getElem?_set_ne (Ne.symm h)
def mk0 (h : Str) (n : Int) (f l : List Sp) (w : Str) : Mr := ⟨h, n, f, l, w, []⟩
theorem init_ev {st : Store} {i : Nat} (h : st[i]? = some ⟨"Mark", []⟩) (hh : Str) (n : Int) (f l : List Sp) (w : Str) : d_Mark___init__ [.d (obD i), .d (.tuple [.str hh, .int n]), .d (pd f), .d (pd l), .d (.str w)] st = some (.sh .none, st.set i (mkO (mk0 hh n f l w))) := by
  have g1 := st_get h
  have g2 := st_put h
  have g3 := st_put2 h
  have e2 : ∃ xs, pd f = .tuple xs := ⟨_, rfl⟩
  have e3 : ∃ xs, pd l = .tuple xs := ⟨_, rfl⟩
  unfold mkO mkF mk0 mnD
  obtain ⟨ys, e2⟩ := e2
  obtain ⟨zs, e3⟩ := e3
  rw [List.map_nil]
  simp only
  rw [e2, e3]
  simp -implicitDefEqProofs (maxSteps := 2000000) (disch := first | omega | assumption | (simp; done) | (simp; omega)) [d_Mark___init__, b_Mark___init__, h, g1, g2, g3]
theorem mark_ev {st : Store} {a : Nat} {is : List Nat} {ms : List Mr} (s : MS st a is ms) (hl : ms.length ≤ 4000) (h : Str) (n : Int) (f l : List Sp) (w : Str) (seen t : D) :
    d_Marks_mark [.d (obD a), .d (.tuple [.tuple [.str h, .int n], seen, .tuple [.str "mark", t, pd f, pd l, .str w]])] st = some (.sh .none, (st ++ [mkO (mk0 h n f l w)]).set a (mkA ((is ++ [st.length]).map obD))) ∧
    MS ((st ++ [mkO (mk0 h n f l w)]).set a (mkA ((is ++ [st.length]).map obD))) a (is ++ [st.length]) (ms ++ [mk0 h n f l w]) := by
  have al := s.lt.1
  constructor
  · have hli : (is.map obD).length = ms.length := by rw [List.length_map, s.ln]
    have h0 : ((st.set a (mkL (is.map obD))) ++ [(⟨"Mark", []⟩ : Ob)])[st.length]? = some ⟨"Mark", []⟩ := by
      rw [List.getElem?_append_right (by rw [List.length_set]; exact Nat.le_refl _), List.length_set, Nat.sub_self]; rfl
    have hi := init_ev h0 h n f l w
    have hs : ((st.set a (mkL (is.map obD))) ++ [(⟨"Mark", []⟩ : Ob)]).set st.length (mkO (mk0 h n f l w)) = st.set a (mkL (is.map obD)) ++ [mkO (mk0 h n f l w)] := by
      rw [List.set_append_right _ _ (by rw [List.length_set]; exact Nat.le_refl _), List.length_set, Nat.sub_self]; rfl
    rw [hs] at hi
    have t0 := s.top
    have g1 := st_get t0
    have g2 := st_put t0
    have g4 := st_same t0
    have ln : (st.set a (mkL (is.map obD))).length = st.length := List.length_set ..
    have h3 : (st.set a (mkL (is.map obD)) ++ [mkO (mk0 h n f l w)])[a]? = some (mkL (is.map obD)) := by rw [List.getElem?_append_left (by rw [List.length_set]; exact al)]; exact g1 _
    have h4 := st_put h3
    have h5 : ∀ x, (st.set a (mkL (is.map obD)) ++ [mkO (mk0 h n f l w)]).set a x = (st ++ [mkO (mk0 h n f l w)]).set a x := fun x => by
      rw [List.set_append_left _ _ (by rw [List.length_set]; exact al), List.set_set, List.set_append_left _ _ al]
    have ma : (is ++ [st.length]).map obD = is.map obD ++ [obD st.length] := by rw [List.map_append]; rfl
    rw [ma]
    have h6 : (st ++ [mkO (mk0 h n f l w)])[a]? = some (mkA (is.map obD)) := by rw [List.getElem?_append_left al]; exact t0
    have g5 := st_get h6
    have g6 := st_put2 h6
    have e2 : ∃ xs, pd f = .tuple xs := ⟨_, rfl⟩
    have e3 : ∃ xs, pd l = .tuple xs := ⟨_, rfl⟩
    obtain ⟨ys, e2⟩ := e2
    obtain ⟨zs, e3⟩ := e3
    rw [e2, e3] at hi
    rw [e2, e3]
    clear al hs h0 h6
    unfold mkA at *
    unfold mkL at *
    generalize mkO (mk0 h n f l w) = o at *
    generalize is.map obD = L at *
    simp -implicitDefEqProofs (maxSteps := 2000000) (disch := first | omega | assumption | (simp; done) | (simp; omega)) [d_Marks_mark, b_Marks_mark, t0, g1, g2, g4, ln, hi, h3, h4, h5, g5, g6, hli]
  · refine ⟨?_, by rw [List.length_append, List.length_append, s.ln]; rfl, fun q hq => ?_, ?_, ?_⟩
    · rw [List.getElem?_set_self (by rw [List.length_append]; omega)]
    · rw [List.zip_append s.ln, List.mem_append] at hq
      rcases hq with hq | hq
      · have hm := (List.of_mem_zip hq).1
        have ne : q.1 ≠ a := fun z => s.na (z ▸ hm)
        rw [List.getElem?_set_ne (Ne.symm ne), List.getElem?_append_left (s.lt.2 _ hm)]
        exact s.at_ q hq
      · have hq : q = (st.length, mk0 h n f l w) := by simpa using hq
        subst hq
        rw [List.getElem?_set_ne (by omega), List.getElem?_append_right (Nat.le_refl _), Nat.sub_self]; rfl
    · rw [List.mem_append, List.mem_singleton]
      rintro (z | z)
      · exact s.na z
      · omega
    · rw [List.nodup_append]
      refine ⟨s.nd, by simp, fun x hx y hy => ?_⟩
      rw [List.mem_singleton] at hy
      have := s.lt.2 x hx
      omega
def prc (m : Mr) (p q : List Sp) : Mr := { m with hs := m.hs ++ [(p, q)] }
theorem pierce_ev {st : Store} {i : Nat} {m : Mr} (h : st[i]? = some (mkO m)) (few : m.hs.length ≤ 4000) (p q : List Sp) : d_Mark_pierce [.d (obD i), .d (pd p), .d (pd q)] st = some (.sh .none, st.set i (mkO (prc m p q))) := by
  have g1 := st_get h
  have g2 := st_put h
  have g3 := st_put2 h
  have g4 := st_same h
  have e1 : mkO (prc m p q) = mkF m (.ow (.d (.list (m.hs.map hoD ++ [.tuple [pd p, pd q]])))) := by
    unfold mkO prc mkF
    rw [List.map_append]; rfl
  have ll : (m.hs.map hoD).length < 16777216 := by rw [List.length_map]; omega
  have e2 : ∃ xs, pd p = .tuple xs := ⟨_, rfl⟩
  have e3 : ∃ xs, pd q = .tuple xs := ⟨_, rfl⟩
  have e4 : ∃ xs, pd m.f = .tuple xs := ⟨_, rfl⟩
  have e5 : ∃ xs, pd m.l = .tuple xs := ⟨_, rfl⟩
  rw [e1]
  unfold mkO mkF at *
  obtain ⟨ys, e2⟩ := e2
  obtain ⟨zs, e3⟩ := e3
  obtain ⟨ws, e4⟩ := e4
  obtain ⟨vs, e5⟩ := e5
  rw [e4, e5] at h g2 g4
  rw [e2, e3, e4, e5]
  generalize m.hs.map hoD = hh at *
  generalize mnD m = nn at *
  simp -implicitDefEqProofs (maxSteps := 2000000) (disch := first | omega | assumption | (simp; done) | (simp; omega)) [d_Mark_pierce, b_Mark_pierce, h, g1, g2, g3, g4]
def clr (sn : List (Str × Int)) (w : Str) (p q : List Sp) (m : Mr) : Mr := if m.w = w ∧ cov sn m.h m.n = true then prc m p q else m
theorem clear_ev {st : Store} {a : Nat} {is : List Nat} {ms : List Mr} (s : MS st a is ms) (hl : ms.length ≤ 4000) (few : ∀ m ∈ ms, m.hs.length ≤ 4000) (h : Str) (n : Int) (sn : List (Str × Int)) (w : Str) (p q : List Sp) (t : D) :
    ∃ st', d_Marks_clear [.d (obD a), .d (.tuple [.tuple [.str h, .int n], .tuple (sn.map prD), .tuple [.str "clear", t, pd p, pd q, .str w]])] st = some (.sh .none, st') ∧
    MS st' a is (ms.map (clr sn w p q)) ∧ st'.length = st.length ∧ ∀ j, j ≠ a → j ∉ is → st'[j]? = st[j]? := by
  have t0 := s.top
  have g1 := st_get t0
  have g2 := st_put t0
  have g4 := st_same t0
  have al := s.lt.1
  have zl : (is.zip ms).length = ms.length := by rw [List.length_zip, s.ln, Nat.min_self]
  obtain ⟨r', e, st2, s5, rfl, b1, b2, b3, b4⟩ := for_inv (p := .v 5) (f := l1_Marks_clear) (fun q : Nat × Mr => obD q.1)
    (fun k r => ∃ st2 s5, r = ⟨[.sh (obD a), .sh (.tuple [.tuple [.str h, .int n], .tuple (sn.map prD), .tuple [.str "clear", t, pd p, pd q, .str w]]), .sh (.tuple [.str h, .int n]), .sh (.tuple (sn.map prD)), .sh (.tuple [.str "clear", t, pd p, pd q, .str w]), s5], st2⟩ ∧
      st2[a]? = some (mkL (is.map obD)) ∧ (∀ j z, (is.zip ms)[j]? = some z → st2[z.1]? = some (mkO (if j < k then clr sn w p q z.2 else z.2))) ∧ st2.length = st.length ∧ ∀ j, j ≠ a → j ∉ is → st2[j]? = st[j]?) (is.zip ms)
    ⟨[.sh (obD a), .sh (.tuple [.tuple [.str h, .int n], .tuple (sn.map prD), .tuple [.str "clear", t, pd p, pd q, .str w]]), .sh (.tuple [.str h, .int n]), .sh (.tuple (sn.map prD)), .sh (.tuple [.str "clear", t, pd p, pd q, .str w]), .no], st.set a (mkL (is.map obD))⟩
    ⟨_, .no, rfl, g1 _, fun j z hz => by
      have hm := List.mem_of_getElem? hz
      rw [if_neg (Nat.not_lt_zero _), set_ne _ (fun y : z.1 = a => s.na (by rw [← y]; exact (List.of_mem_zip hm).1))]
      exact s.at_ z hm, List.length_set .., fun j ne _ => set_ne _ ne⟩ fun k r x hi ek => by
    obtain ⟨st2, s5, rfl, b1, b2, b3, b4⟩ := hi
    have xm := List.mem_of_getElem? ek
    have hx : st2[x.1]? = some (mkO x.2) := by
      have := b2 k x ek
      rwa [if_neg (Nat.lt_irrefl _)] at this
    have xa : x.1 ≠ a := fun y => s.na (by rw [← y]; exact (List.of_mem_zip xm).1)
    have pe := pierce_ev hx (few x.2 (List.of_mem_zip xm).2) p q
    have cv := covers_ev sn x.2.h x.2.n st2
    have n1 := mkO_no x.2 "pierce" (by rfl)
    have n2 := mkO_cls x.2
    have hw : fldO ["Mark"] "word" (mkO x.2) = some (.d (.str x.2.w)) := rfl
    have hn : fldO ["Mark"] "name" (mkO x.2) = some (.d (.tuple [.str x.2.h, .int x.2.n])) := rfl
    have nx : ∀ j z, (is.zip ms)[j]? = some z → j ≠ k → z.1 ≠ x.1 := fun j z hz jk e => by
      have i1 : is[j]? = some z.1 := (List.getElem?_zip_eq_some.mp hz).1
      have i2 : is[k]? = some x.1 := (List.getElem?_zip_eq_some.mp ek).1
      rw [← e] at i2
      exact jk ((List.getElem?_inj (List.getElem?_eq_some_iff.mp i1).1 s.nd).mp (i1.trans i2.symm))
    have e2 : ∃ xs, pd p = .tuple xs := ⟨_, rfl⟩
    have e3 : ∃ xs, pd q = .tuple xs := ⟨_, rfl⟩
    obtain ⟨ys, e2⟩ := e2
    obtain ⟨zs, e3⟩ := e3
    by_cases c : x.2.w = w ∧ cov sn x.2.h x.2.n = true
    · have ce : clr sn w p q x.2 = prc x.2 p q := by unfold clr; rw [if_pos c]
      refine ⟨_, ?_, st2.set x.1 (mkO (prc x.2 p q)), .sh (obD x.1), rfl, ?_, fun j z hz => ?_, by rw [List.length_set]; exact b3, fun j j1 j2 => ?_⟩
      · obtain ⟨c1, c2⟩ := c
        rw [c2] at cv
        clear b1 b2 b3 b4 nx ek
        rw [e2, e3] at pe ⊢
        generalize mkO (prc x.2 p q) = o2 at *
        generalize mkO x.2 = o at *
        generalize sn.map prD = sd at *
        simp -implicitDefEqProofs (maxSteps := 2000000) (disch := first | omega | assumption | (simp; done) | (simp; omega)) [l1_Marks_clear, hx, hw, hn, n1, n2, c1, cv, pe]
      · rw [set_ne _ (Ne.symm xa)]; exact b1
      · by_cases jk : j = k
        · subst jk
          rw [ek] at hz
          cases hz
          rw [if_pos (Nat.lt_succ_self _), ce]
          exact st_get hx _
        · rw [set_ne _ (nx j z hz jk), b2 j z hz]
          by_cases lt : j < k
          · rw [if_pos lt, if_pos (by omega)]
          · rw [if_neg lt, if_neg (by omega)]
      · rw [set_ne _ (fun y => j2 (by rw [y]; exact (List.of_mem_zip xm).1))]
        exact b4 j j1 j2
    · have ce : clr sn w p q x.2 = x.2 := by unfold clr; rw [if_neg c]
      refine ⟨_, ?_, st2, .sh (obD x.1), rfl, b1, fun j z hz => ?_, b3, b4⟩
      · clear b1 b2 b3 b4 nx ek
        rw [e2, e3]
        generalize mkO x.2 = o at *
        generalize sn.map prD = sd at *
        by_cases c1 : x.2.w = w
        · have c2 : cov sn x.2.h x.2.n = false := by simpa [c1] using c
          rw [c2] at cv
          simp -implicitDefEqProofs (maxSteps := 2000000) (disch := first | omega | assumption | (simp; done) | (simp; omega)) [l1_Marks_clear, hx, hw, hn, n1, n2, c1, cv]
        · simp -implicitDefEqProofs (maxSteps := 2000000) (disch := first | omega | assumption | (simp; done) | (simp; omega)) [l1_Marks_clear, hx, hw, hn, n1, n2, c1]
      · by_cases jk : j = k
        · subst jk
          rw [ek] at hz
          cases hz
          rw [if_pos (Nat.lt_succ_self _), ce]
          exact hx
        · rw [b2 j z hz]
          by_cases lt : j < k
          · rw [if_pos lt, if_pos (by omega)]
          · rw [if_neg lt, if_neg (by omega)]
  rw [zip_map_l s.ln] at e
  have t2 := st_put b1
  have a2 : a < st2.length := by omega
  refine ⟨st2.set a (mkA (is.map obD)), ?_, ⟨st_get b1 _, by rw [List.length_map]; exact s.ln, fun z hz => ?_, s.na, s.nd⟩, by rw [List.length_set]; exact b3, fun j j1 j2 => by rw [set_ne _ j1]; exact b4 j j1 j2⟩
  · have hli : (is.map obD).length = ms.length := by rw [List.length_map, s.ln]
    have e2 : ∃ xs, pd p = .tuple xs := ⟨_, rfl⟩
    have e3 : ∃ xs, pd q = .tuple xs := ⟨_, rfl⟩
    obtain ⟨ys, e2⟩ := e2
    obtain ⟨zs, e3⟩ := e3
    rw [e2, e3] at e ⊢
    clear b2 b3 b4 al a2
    unfold mkA at *
    unfold mkL at *
    generalize is.map obD = L at *
    generalize sn.map prD = sd at *
    simp -implicitDefEqProofs (maxSteps := 2000000) (disch := first | omega | assumption | (simp; done) | (simp; omega)) [d_Marks_clear, b_Marks_clear, t0, g1, g2, e, b1, t2]
  · obtain ⟨j, hj⟩ := List.mem_iff_getElem?.mp hz
    obtain ⟨j1, j2⟩ := List.getElem?_zip_eq_some.mp hj
    rw [List.getElem?_map, Option.map_eq_some_iff] at j2
    obtain ⟨m, hm, em⟩ := j2
    have hz' : (is.zip ms)[j]? = some (z.1, m) := List.getElem?_zip_eq_some.mpr ⟨j1, hm⟩
    have := b2 j _ hz'
    have jl := (List.getElem?_eq_some_iff.mp hz').1
    rw [if_pos jl] at this
    rw [set_ne _ (fun y : z.1 = a => s.na (by rw [← y]; exact List.mem_of_getElem? j1)), ← em]
    exact this
theorem MS.more {st : Store} {a : Nat} {is : List Nat} {ms : List Mr} (s : MS st a is ms) (m : Mr) : MS ((st ++ [mkO m]).set a (mkA ((is ++ [st.length]).map obD))) a (is ++ [st.length]) (ms ++ [m]) := by
  have al := s.lt.1
  refine ⟨?_, by rw [List.length_append, List.length_append, s.ln]; rfl, fun q hq => ?_, ?_, ?_⟩
  · rw [List.getElem?_set_self (by rw [List.length_append]; omega)]
  · rw [List.zip_append s.ln, List.mem_append] at hq
    rcases hq with hq | hq
    · have hm := (List.of_mem_zip hq).1
      have ne : q.1 ≠ a := fun z => s.na (z ▸ hm)
      rw [List.getElem?_set_ne (Ne.symm ne), List.getElem?_append_left (s.lt.2 _ hm)]
      exact s.at_ q hq
    · have hq : q = (st.length, m) := by simpa using hq
      subst hq
      rw [List.getElem?_set_ne (by omega), List.getElem?_append_right (Nat.le_refl _), Nat.sub_self]; rfl
  · rw [List.mem_append, List.mem_singleton]
    rintro (z | z)
    · exact s.na z
    · omega
  · rw [List.nodup_append]
    refine ⟨s.nd, by simp, fun x hx y hy => ?_⟩
    rw [List.mem_singleton] at hy
    have := s.lt.2 x hx
    omega
def txO (s m : Nat) : Ob := ⟨"Text", [("signs", .d (obD s)), ("marks", .d (obD m))]⟩
structure En (st : Store) (s m : Nat) (l : List Sg) (is : List Nat) (ms : List Mr) : Prop where
  sg : st[s]? = some (sg (l.map rowS))
  mr : MS st m is ms
  sm : s ≠ m
  si : s ∉ is
structure Fr (st st' : Store) (s m : Nat) (is is' : List Nat) : Prop where
  le : st.length ≤ st'.length
  fr : ∀ j, j < st.length → j ≠ s → j ≠ m → j ∉ is → st'[j]? = st[j]?
  is : ∀ i ∈ is', i ∈ is ∨ st.length ≤ i
theorem En.lt {st : Store} {s m : Nat} {l : List Sg} {is : List Nat} {ms : List Mr} (e : En st s m l is ms) : s < st.length ∧ m < st.length ∧ ∀ i ∈ is, i < st.length := ⟨(List.getElem?_eq_some_iff.mp e.sg).1, e.mr.lt.1, e.mr.lt.2⟩
theorem En.frame {st st' : Store} {s m : Nat} {l : List Sg} {is : List Nat} {ms : List Mr} (e : En st s m l is ms) (h : ∀ j, j = s ∨ j = m ∨ j ∈ is → st'[j]? = st[j]?) : En st' s m l is ms :=
  ⟨(h s (.inl rfl)).trans e.sg, e.mr.frame fun j hj => h j (.inr hj), e.sm, e.si⟩
theorem asc_nd {l : List Sg} (h : Asc l) : (l.map (·.1)).Nodup := by
  unfold List.Nodup
  rw [List.pairwise_map]
  refine List.Pairwise.imp (fun {a b} x e => ?_) h
  rw [e, bef_irr] at x; cases x
theorem sgO_no (L : List D) (x : Str) (h : ((sg L).fs.lookup x) = none) : noFd x (sg L) = some () := noFd_ok h

def kTx : Ky → Str
  | .inl _ => ""
  | .inr s => s
def dedT (l : List Str) : List Str := (dedK (l.map Sum.inr)).map kTx
def srtT (l : List Str) : List Str := (dedT l).mergeSort fun a b => leD (.str a) (.str b)
theorem ksOf_strs : ∀ l : List Str, ksOf (l.map PyData.str) = some (l.map Sum.inr)
  | [] => rfl
  | x :: r => by
    rw [List.map_cons, List.map_cons]
    show (kOf (.str x)).bind _ = _
    rw [show kOf (.str x) = some (Sum.inr x : Ky) from rfl, Option.bind_some, ksOf_strs r]; rfl
theorem setSort_strs {l : List Str} (hl : l.length ≤ 4000) : gSetSort [.d (.list (l.map PyData.str))] = some (.fr (.d (.list ((srtT l).map PyData.str)))) := by
  unfold gSetSort
  dsimp only
  rw [ksOf_strs, Option.bind_some]
  have k1 : kindK (l.map (Sum.inr : Str → Ky)) = true := by
    unfold kindK
    rw [Bool.or_eq_true]
    right
    rw [List.all_eq_true]
    intro x hx
    obtain ⟨y, _, rfl⟩ := List.mem_map.mp hx
    rfl
  rw [k1, List.length_map, decide_eq_true hl, Bool.and_self, if_pos rfl]
  have e : (dedK (l.map (Sum.inr : Str → Ky))).map CM.kD = (dedT l).map PyData.str := by
    unfold dedT
    rw [List.map_map]
    refine List.map_congr_left fun k hk => ?_
    obtain ⟨y, _, rfl⟩ := List.mem_map.mp (dedK_mem.mp hk)
    rfl
  rw [e, sortD_map]; rfl
theorem nd_lenT {α : Type} [DecidableEq α] : ∀ (xs L : List α), xs.Nodup → (∀ x ∈ xs, x ∈ L) → xs.length ≤ L.length
  | [], _, _, _ => Nat.zero_le _
  | x :: r, L, nd, h => by
    have hx := h x List.mem_cons_self
    have nd' := List.nodup_cons.mp nd
    have := nd_lenT r (L.erase x) nd'.2 fun y hy => (List.mem_erase_of_ne (fun e => nd'.1 (by subst e; exact hy))).mpr (h y (List.mem_cons_of_mem _ hy))
    rw [List.length_erase_of_mem hx] at this
    have hl : 0 < L.length := List.length_pos_iff.mpr (List.ne_nil_of_mem hx)
    rw [List.length_cons]
    omega
theorem srtT_len (l : List Str) : (srtT l).length ≤ l.length := by
  unfold srtT dedT
  rw [List.length_mergeSort, List.length_map]
  have := nd_lenT (dedK (l.map Sum.inr)) (l.map Sum.inr) dedK_nodup fun x hx => dedK_mem.mp hx
  rw [List.length_map] at this
  exact this
theorem fl_strs (l : List Str) : Fl 1 (.list (l.map PyData.str)) := Fl.l (k := 0) fun x hx => by
  obtain ⟨y, _, rfl⟩ := List.mem_map.mp hx
  exact Fl.s y
theorem eq_self {k : Nat} {x : D} (h : Fl k x) (hk : k ≤ 60) : PyData.eqv x x = true ∧ shallow x x = true := ⟨(eqv_pln x x h.p h.p).mpr rfl, shallow_fl h h (.inl hk)⟩
theorem cmp_sd_le (s t : Sp) (n : s ≠ t) : cmpD .le (sd s) (sd t) = some (sLt s t) := by
  obtain ⟨a, b, c, d⟩ := s
  obtain ⟨a', b', c', d'⟩ := t
  have hb : PyData.eqv (.str b) (.str b') = decide (b = b') := by
    rw [Bool.eq_iff_iff, eqv_pln _ _ rfl rfl, decide_eq_true_iff]
    exact ⟨fun h => PyData.str.inj h, fun h => by rw [h]⟩
  have tl : ∀ x y : Str, x ≠ y → decide (y.cps.toList < x.cps.toList) = !decide (x.cps.toList < y.cps.toList) := fun x y ne => by
    have h := txLt_tri x y
    unfold txLt at h
    rw [decide_eq_true ne, Bool.true_and] at h
    exact h
  unfold sd sLt txLt
  simp only [cmpD, cmpDs, eqv_ii, hb, O4.int, O4.tx, O4.len, Option.bind_some, beq_iff_eq, decide_eq_true_eq, List.length_nil]
  by_cases h1 : a = a'
  · by_cases h2 : b = b'
    · by_cases h3 : c = c'
      · by_cases h4 : d = d'
        · subst h1; subst h2; subst h3; subst h4; exact absurd rfl n
        · simp [h1, h2, h3, h4]; omega
      · by_cases h4 : d = d' <;> simp [h1, h2, h3, h4] <;> omega
    · have := tl b b' h2
      by_cases h3 : c = c' <;> by_cases h4 : d = d' <;> simp [h1, h2, h3, h4] <;> simpa using this
  · by_cases h2 : b = b' <;> by_cases h3 : c = c' <;> by_cases h4 : d = d' <;> simp [h1, h2, h3, h4] <;> omega
theorem cmp_e0_le {s : Sp} (h : s.Ok) : cmpD .le e0 (sd s) = some (decide (0 < s.1)) ∧ cmpD .le (sd s) e0 = some (decide (s.1 < 0)) := by
  have n := h.ne
  have n' : ¬ (0 = s.1) := fun e => n e.symm
  constructor <;> simp [e0, sd, cmpD, cmpDs, O4.int, O4.len, n, n'] <;> omega
theorem cmp_le : ∀ (xs ys : List Sp), (∀ s ∈ xs, s.Ok) → (∀ s ∈ ys, s.Ok) → cmpDs .le (keyD xs) (keyD ys) = some (decide (xs = ys) || bef xs ys)
  | [], [], _, _ => by simp [keyD, e0, cmpDs, bef, PyData.eqv, PyData.eqvAll, O4.len]
  | [], t :: ys, _, hy => by
    have h := hy t List.mem_cons_self
    show cmpDs .le (e0 :: []) (sd t :: (ys.map sd ++ [e0])) = _
    rw [cmpDs, (eqv_e0 h).1, (cmp_e0_le h).1]
    cases ys <;> simp [cmpDs, bef]
  | s :: xs, [], hx, _ => by
    have h := hx s List.mem_cons_self
    show cmpDs .le (sd s :: (xs.map sd ++ [e0])) (e0 :: []) = _
    rw [cmpDs, (eqv_e0 h).2, (cmp_e0_le h).2]
    cases xs <;> simp [cmpDs, bef]
  | s :: xs, t :: ys, hx, hy => by
    show cmpDs .le (sd s :: keyD xs) (sd t :: keyD ys) = _
    rw [cmpDs, eqv_sd, cmp_le xs ys (fun z hz => hx z (List.mem_cons_of_mem _ hz)) (fun z hz => hy z (List.mem_cons_of_mem _ hz))]
    by_cases e : s = t
    · simp [bef, e]
    · rw [cmp_sd_le s t e]; simp [bef, e]
theorem le_not (xs ys : List Sp) (hx : ∀ s ∈ xs, s.Ok) (hy : ∀ s ∈ ys, s.Ok) : (decide (xs = ys) || bef xs ys) = !bef ys xs := by
  rw [bef_tri xs ys hx hy, Bool.not_and, Bool.not_not, ← decide_not]
  simp
def inP (p f l : List Sp) : Bool := !bef p f && !bef l p
theorem mwithin_ev {p f l : List Sp} (hp : Pk p) (hf : Pk f) (hl : Pk l) (st : Store) : d_within [.d (pd p), .d (pd f), .d (pd l)] st = some (.sh (.bool (inP p f l)), st) := by
  have h1 := before_ev p f (by have := hp.le; omega) (by have := hf.le; omega) hp.ok hf.ok st
  have h2 := before_ev l p (by have := hl.le; omega) (by have := hp.le; omega) hl.ok hp.ok st
  unfold inP
  have e1 : ∃ xs, pd p = .tuple xs := ⟨_, rfl⟩
  have e2 : ∃ xs, pd f = .tuple xs := ⟨_, rfl⟩
  have e3 : ∃ xs, pd l = .tuple xs := ⟨_, rfl⟩
  obtain ⟨xs, e1⟩ := e1
  obtain ⟨ys, e2⟩ := e2
  obtain ⟨zs, e3⟩ := e3
  rw [e1, e2] at h1
  rw [e1, e3] at h2
  rw [e1, e2, e3]
  cases c1 : bef p f <;> cases c2 : bef l p <;> rw [c1] at h1 <;> rw [c2] at h2 <;> simp -implicitDefEqProofs (maxSteps := 2000000) (disch := first | omega | assumption | (simp; done) | (simp; omega)) [d_within, b_within, h1, h2]
def bears (m : Mr) (p : List Sp) : Bool := inP p m.f m.l && m.hs.all fun e => !inP p e.1 e.2
theorem holes_loop {p : List Sp} (hp : Pk p) (s0 : CM.Slot) (st : Store) : ∀ (hs : List (List Sp × List Sp)) (ok : ∀ e ∈ hs, Pk e.1 ∧ Pk e.2) (s2 s3 : CM.Slot), ∃ fl sl, (fl = .nx ∧ (hs.all fun e => !inP p e.1 e.2) = true ∨ fl = .rt (.sh (.bool false)) ∧ (hs.all fun e => !inP p e.1 e.2) = false) ∧
    runFor (.t [2, 3]) l1_Mark_bears (hs.map hoD) ⟨[s0, .sh (pd p), s2, s3], st⟩ = some (fl, ⟨sl, st⟩)
  | [], _, s2, s3 => ⟨.nx, _, .inl ⟨rfl, rfl⟩, rfl⟩
  | e :: hs, ok, s2, s3 => by
    have oe := ok e List.mem_cons_self
    have w := mwithin_ev hp oe.1 oe.2 st
    rw [List.map_cons, runFor_cons]
    have e1 : ∃ xs, pd p = .tuple xs := ⟨_, rfl⟩
    have e2 : ∃ xs, pd e.1 = .tuple xs := ⟨_, rfl⟩
    have e3 : ∃ xs, pd e.2 = .tuple xs := ⟨_, rfl⟩
    cases c : inP p e.1 e.2 with
    | true =>
      refine ⟨.rt (.sh (.bool false)), [s0, .sh (pd p), .sh (pd e.1), .sh (pd e.2)], .inr ⟨rfl, by rw [List.all_cons, c]; rfl⟩, ?_⟩
      rw [c] at w
      unfold hoD
      generalize hs.map (fun e => PyData.tuple [pd e.1, pd e.2]) = r at *
      obtain ⟨xs, e1⟩ := e1
      obtain ⟨ys, e2⟩ := e2
      obtain ⟨zs, e3⟩ := e3
      rw [e1, e2, e3] at w ⊢
      simp -implicitDefEqProofs (maxSteps := 2000000) (disch := first | omega | assumption | (simp; done) | (simp; omega)) [l1_Mark_bears, w]
    | false =>
      obtain ⟨fl, sl, h1, h2⟩ := holes_loop hp s0 st hs (fun z hz => ok z (List.mem_cons_of_mem _ hz)) (.sh (pd e.1)) (.sh (pd e.2))
      refine ⟨fl, sl, ?_, ?_⟩
      · rw [List.all_cons, c, Bool.not_false, Bool.true_and]; exact h1
      · rw [c] at w
        have ee : hoD e = .tuple [pd e.1, pd e.2] := rfl
        rw [ee]
        generalize hs.map hoD = r at *
        rw [← h2]
        obtain ⟨xs, e1⟩ := e1
        obtain ⟨ys, e2⟩ := e2
        obtain ⟨zs, e3⟩ := e3
        rw [e1, e2, e3] at w ⊢
        simp -implicitDefEqProofs (maxSteps := 2000000) (disch := first | omega | assumption | (simp; done) | (simp; omega)) [l1_Mark_bears, w]
theorem bears_ev {st : Store} {i : Nat} {m : Mr} (hm : MrOk m) {p : List Sp} (hp : Pk p) (h : st[i]? = some (mkO m)) : d_Mark_bears [.d (obD i), .d (pd p)] st = some (.sh (.bool (bears m p)), st) := by
  have w := mwithin_ev hp hm.f hm.l st
  have g1 := st_get h
  have g2 := st_put h
  have g3 := st_put2 h
  have g4 := st_same h
  obtain ⟨fl, sl, lp, run⟩ := holes_loop hp (.sh (obD i)) (st.set i (mkF m (.lk (.d (.list (m.hs.map hoD)))))) m.hs hm.hs .no .no
  unfold bears
  generalize (m.hs.all fun e => !inP p e.1 e.2) = al at *
  have e1 : ∃ xs, pd p = .tuple xs := ⟨_, rfl⟩
  have e2 : ∃ xs, pd m.f = .tuple xs := ⟨_, rfl⟩
  have e3 : ∃ xs, pd m.l = .tuple xs := ⟨_, rfl⟩
  unfold mkO mkF at *
  generalize m.hs.map hoD = hh at *
  generalize mnD m = nn at *
  obtain ⟨xs, e1⟩ := e1
  obtain ⟨ys, e2⟩ := e2
  obtain ⟨zs, e3⟩ := e3
  rw [e1, e2, e3] at w
  rw [e2, e3] at h g2 g4 run
  rw [e1] at run ⊢
  cases c : inP p m.f m.l with
  | false => rw [c] at w; simp -implicitDefEqProofs (maxSteps := 2000000) (disch := first | omega | assumption | (simp; done) | (simp; omega)) [d_Mark_bears, b_Mark_bears, h, g1, g2, g3, g4, w]
  | true =>
    rw [c] at w
    rcases lp with ⟨rfl, rfl⟩ | ⟨rfl, rfl⟩
    · simp -implicitDefEqProofs (maxSteps := 2000000) (disch := first | omega | assumption | (simp; done) | (simp; omega)) [d_Mark_bears, b_Mark_bears, h, g1, g2, g3, g4, w, run]
    · simp -implicitDefEqProofs (maxSteps := 2000000) (disch := first | omega | assumption | (simp; done) | (simp; omega)) [d_Mark_bears, b_Mark_bears, h, g1, g2, g3, g4, w, run]
theorem wa_comp {st : Store} {is : List Nat} {ms : List Mr} (e : is.length = ms.length) (at_ : ∀ q ∈ is.zip ms, st[q.1]? = some (mkO q.2)) (ok : ∀ m ∈ ms, MrOk m) {p : List Sp} (hp : Pk p) (s0 : CM.Slot) : runComp [2] (.v 2) ct1_Marks_words_at ce1_Marks_words_at (is.map obD) ⟨[s0, .sh (pd p), .no], st⟩ = some ((ms.filter fun m => bears m p).map (fun m => PyData.str m.w), ⟨[s0, .sh (pd p), .no], st⟩) := by
  have := comp_flt (vs := [2]) (p := .v 2) (t := ct1_Marks_words_at) (a := ce1_Marks_words_at) (fun q : Nat × Mr => obD q.1) (fun q => bears q.2 p) (fun q => .str q.2.w) ⟨[s0, .sh (pd p), .no], st⟩ (is.zip ms) fun q hq => by
    have hg := at_ q hq
    have hok : MrOk q.2 := ok q.2 (List.of_mem_zip hq).2
    have hb := bears_ev hok hp hg
    have n1 := mkO_no q.2 "bears" (by rfl)
    have n2 := mkO_cls q.2
    have hw : fldO ["Mark"] "word" (mkO q.2) = some (.d (.str q.2.w)) := rfl
    have e1 : ∃ xs, pd p = .tuple xs := ⟨_, rfl⟩
    obtain ⟨xs, e1⟩ := e1
    rw [e1] at hb ⊢
    generalize mkO q.2 = o at *
    cases c : bears q.2 p
    · rw [c] at hb
      simp -implicitDefEqProofs (maxSteps := 2000000) (disch := first | omega | assumption | (simp; done) | (simp; omega)) [compStep, ct1_Marks_words_at, ce1_Marks_words_at, hg, n1, n2, hb]
    · rw [c] at hb
      simp -implicitDefEqProofs (maxSteps := 2000000) (disch := first | omega | assumption | (simp; done) | (simp; omega)) [compStep, ct1_Marks_words_at, ce1_Marks_words_at, hg, n1, n2, hb, hw]
  rw [zip_map_l e, show (fun q : Nat × Mr => PyData.str q.2.w) = (fun q : Nat × Mr => (fun m : Mr => PyData.str m.w) q.2) from rfl, zip_flt_r e (fun m => bears m p) (fun m => PyData.str m.w)] at this
  exact this
def wds (ms : List Mr) (p : List Sp) : List Str := (ms.filter fun m => bears m p).map Mr.w
theorem words_ev {st : Store} {a : Nat} {is : List Nat} {ms : List Mr} (s : MS st a is ms) (ok : ∀ m ∈ ms, MrOk m) (hl : ms.length ≤ 4000) {p : List Sp} (hp : Pk p) : d_Marks_words_at [.d (obD a), .d (pd p)] st = some (.fr (.d (.list ((srtT (wds ms p)).map PyData.str))), st) := by
  have h1 := wa_comp (st := st.set a (mkL (is.map obD))) s.ln (fun q hq => by rw [set_ne _ (fun z : q.1 = a => s.na (by rw [← z]; exact (List.of_mem_zip hq).1))]; exact s.at_ q hq) ok hp (.sh (obD a))
  have hw : (wds ms p).length ≤ 4000 := by
    unfold wds
    rw [List.length_map]
    have := List.length_filter_le (fun m => bears m p) ms
    omega
  have h2 := setSort_strs hw
  have e : (wds ms p).map PyData.str = (ms.filter fun m => bears m p).map (fun m => PyData.str m.w) := by unfold wds; rw [List.map_map]; rfl
  rw [e] at h2
  have hli : (is.map obD).length = ms.length := by rw [List.length_map, s.ln]
  have h := s.top
  have g1 := st_get h
  have g2 := st_put h
  have g3 := st_put2 h
  have g4 := st_same h
  have e1 : ∃ xs, pd p = .tuple xs := ⟨_, rfl⟩
  obtain ⟨xs, e1⟩ := e1
  rw [e1] at h1 ⊢
  unfold mkA at *
  unfold mkL at *
  generalize is.map obD = L at *
  generalize (srtT (wds ms p)).map PyData.str = Z at *
  generalize (ms.filter fun m => bears m p).map (fun m => PyData.str m.w) = W at *
  simp -implicitDefEqProofs (maxSteps := 2000000) (disch := first | omega | assumption | (simp; done) | (simp; omega)) [d_Marks_words_at, b_Marks_words_at, h, g1, g2, g3, g4, h1, h2, hli]

def Dd.p (x : Dd) : Nm := (x.h, x.n)
inductive TA where
  | w (u : List Sp) (a : Int) (x : Str)
  | c (ps : List (List Sp))
  | m (p q : List Sp) (x : Str)
  | k (p q : List Sp) (x : Str)
def TA.wd : TA → Str
  | .w _ _ _ => "write"
  | .c _ => "cut"
  | .m _ _ _ => "mark"
  | .k _ _ _ => "clear"
def TA.d (t : Nm) : TA → D
  | .w u a x => .tuple [.str "write", nmD t, pd u, .int a, .str x]
  | .c ps => .tuple [.str "cut", nmD t, .tuple (ps.map pd)]
  | .m p q x => .tuple [.str "mark", nmD t, pd p, pd q, .str x]
  | .k p q x => .tuple [.str "clear", nmD t, pd p, pd q, .str x]
def TA.ok : TA → Prop
  | .w u a x => u.length ≤ 900 ∧ (∀ s ∈ u, s.Ok) ∧ (a = 1 ∨ a = -1) ∧ 1 ≤ x.cps.size ∧ x.cps.size ≤ 12
  | .c _ => True
  | .m p q _ => Pk p ∧ Pk q
  | .k p q _ => Pk p ∧ Pk q
def rowsW (h : Str) (n : Int) (u : List Sp) (a : Int) (x : Str) : List Sg := (⟨.none, h, n, .none, u, a, x⟩ : Wr).rows
open Classical in
noncomputable def srtP (l : List Sg) : List Sg := if h : ∃ l', Asc l' ∧ (∀ r ∈ l', Pk r.1) ∧ l'.Perm l then Classical.choose h else l
theorem srtP_eq {l l' : List Sg} (h1 : Asc l') (h2 : ∀ r ∈ l', Pk r.1) (h3 : l'.Perm l) : srtP l = l' := by
  have h : ∃ l', Asc l' ∧ (∀ r ∈ l', Pk r.1) ∧ l'.Perm l := ⟨l', h1, h2, h3⟩
  unfold srtP
  rw [dif_pos h]
  obtain ⟨a1, a2, a3⟩ := Classical.choose_spec h
  exact asc_one a1 h1 a2 (a3.trans h3.symm)
noncomputable def hearT (x : Dd) (e : List Sg × List Mr) : TA → List Sg × List Mr
  | .w u a y => (srtP (e.1 ++ rowsW x.h x.n u a y), e.2)
  | .c ps => (outS e.1 ps, e.2)
  | .m p q y => (e.1, e.2 ++ [mk0 x.h x.n p q y])
  | .k p q y => (e.1, e.2.map (clr x.sn y p q))
structure TxOk (b : Nat) (l : List Sg) (ms : List Mr) : Prop where
  asc : Asc l
  ok : ∀ r ∈ l, Pk r.1
  ll : l.length ≤ 12 * b
  mo : ∀ m ∈ ms, MrOk m ∧ m.hs.length ≤ b
  ml : ms.length ≤ b
theorem TxOk.mono {b b' : Nat} {l : List Sg} {ms : List Mr} (T : TxOk b l ms) (h : b ≤ b') : TxOk b' l ms :=
  ⟨T.asc, T.ok, by have := T.ll; omega, fun m hm => ⟨(T.mo m hm).1, by have := (T.mo m hm).2; omega⟩, by have := T.ml; omega⟩
def lastP (p : List Sp) : Option Nm := p.getLast?.map fun s => (s.2.1, s.2.2.1)
def Fresh (p : Nm) (l : List Sg) : Prop := ∀ r ∈ l, lastP r.1 ≠ some p
theorem wrp_lastP (u : List Sp) (a : Int) (h : Str) (n : Int) (k : Nat) : lastP (wrp u a h n k) = some (h, n) := by
  unfold lastP
  cases k <;> simp [wrp]
theorem Wr.ps_lastP (y : Wr) : ∀ p ∈ y.ps, lastP p = some (y.h, y.n) := fun p hp => by
  unfold Wr.ps wrps at hp
  obtain ⟨i, hi, rfl⟩ := List.mem_map.mp hp
  exact wrp_lastP ..
structure TxAt (st : Store) (i : Nat) (is : List Nat) (l : List Sg) (ms : List Mr) : Prop where
  top : st[i]? = some (txO (i + 1) (i + 2))
  en : En st (i + 1) (i + 2) l is ms
  ni : i ∉ is
theorem TxAt.frame {st st' : Store} {i : Nat} {is : List Nat} {l : List Sg} {ms : List Mr} (t : TxAt st i is l ms) (h : ∀ j, j = i ∨ j = i + 1 ∨ j = i + 2 ∨ j ∈ is → st'[j]? = st[j]?) : TxAt st' i is l ms :=
  ⟨(h i (.inl rfl)).trans t.top, t.en.frame fun j hj => h j (.inr hj), t.ni⟩
def THear (x : Dd) (l : List Sg) (ms : List Mr) (l' : List Sg) (ms' : List Mr) : Prop := ∀ (st : Store) (i : Nat) (is : List Nat), TxAt st i is l ms → ∃ st' is', d_Text_hear [.d (obD i), .d x.d] st = some (.sh .none, st') ∧ TxAt st' i is' l' ms' ∧ Fr st st' (i + 1) (i + 2) is is'
theorem pd_tup (p : List Sp) : ∃ xs, pd p = .tuple xs := ⟨_, rfl⟩
theorem hear_w {x : Dd} {t : Nm} {u : List Sp} {a : Int} {y : Str} (hx : x.act = (TA.w u a y).d t) (ok : (TA.w u a y).ok) (xh : x.h.cps.size ≤ 8) {b : Nat} (hb : b ≤ 300) {l : List Sg} {ms : List Mr} (T : TxOk b l ms) (fr : Fresh x.p l) :
    TxOk (b + 1) (hearT x (l, ms) (.w u a y)).1 ms ∧ (∀ r ∈ (hearT x (l, ms) (.w u a y)).1, r ∈ l ∨ lastP r.1 = some x.p) ∧ THear x l ms (hearT x (l, ms) (.w u a y)).1 ms := by
  obtain ⟨u1, u2, a1, x1, x2⟩ := ok
  obtain ⟨w, hw⟩ : ∃ w : Wr, w = ⟨nmD t, x.h, x.n, .tuple (x.sn.map prD), u, a, y⟩ := ⟨_, rfl⟩
  have wo : WrOk w := by rw [hw]; exact ⟨xh, a1, u1, u2, x1, by show y.cps.size ≤ 50; omega⟩
  have wr : w.rows = rowsW x.h x.n u a y := by rw [hw]; rfl
  have wd : w.d = x.d := by
    rw [hw]
    show _ = PyData.tuple [nmD x.p, .tuple (x.sn.map prD), x.act]
    rw [hx]; rfl
  have rl := w.rows_len
  have wz : w.w.cps.size = y.cps.size := by rw [hw]
  have wp : (w.h, w.n) = x.p := by rw [hw]; rfl
  have nd : ((l ++ w.rows).map (·.1)).Nodup := by
    rw [List.map_append, List.nodup_append, w.rows_fst]
    refine ⟨asc_nd T.asc, w.ps_nd, fun p hp q hq e => ?_⟩
    obtain ⟨r, hr, rfl⟩ := List.mem_map.mp hp
    have := w.ps_lastP q hq
    rw [← e, wp] at this
    exact fr r hr this
  have gl := T.ll
  obtain ⟨l', a1', a2', a3', _⟩ := write_ev 0 l T.ok T.asc w wo nd (by omega) [sg (l.map rowS)] rfl
  have le : (hearT x (l, ms) (.w u a y)).1 = l' := by
    show srtP (l ++ rowsW x.h x.n u a y) = l'
    rw [← wr]
    exact srtP_eq a1' a2' a3'
  rw [le]
  refine ⟨⟨a1', a2', ?_, fun m hm => ⟨(T.mo m hm).1, by have := (T.mo m hm).2; omega⟩, by have := T.ml; omega⟩, fun r hr => ?_, fun st i is e => ?_⟩
  · rw [a3'.length_eq, List.length_append]; omega
  · rcases List.mem_append.mp (a3'.mem_iff.mp hr) with q | q
    · exact .inl q
    · right
      rw [← wp]
      exact w.ps_lastP _ (by rw [← w.rows_fst]; exact List.mem_map_of_mem q)
  · obtain ⟨l2, b1, b2, b3, b4⟩ := write_ev (i + 1) l T.ok T.asc w wo nd (by omega) st e.en.sg
    have : l2 = l' := asc_one b1 a1' b2 (b3.trans a3'.symm)
    subst this
    refine ⟨st.set (i + 1) (sg (l2.map rowS)), is, ?_, ⟨?_, ⟨st_get e.en.sg _, e.en.mr.frame fun j hj => set_ne _ fun z => ?_, e.en.sm, e.en.si⟩, e.ni⟩, ⟨by rw [List.length_set]; exact Nat.le_refl _, fun j _ j1 _ _ => set_ne _ j1, fun i hi => .inl hi⟩⟩
    · have c0 : (sg (l.map rowS)).cls = "Signs" := rfl
      have n0 := sgO_no (l.map rowS) "write" rfl
      have g0 := e.en.sg
      have ht := e.top
      have d2 := deed_2 x
      have b0 : gIx (.d ((TA.w u a y).d t)) (.d (.int 0)) = some (.sh (.str "write")) := rfl
      have ad := deed_arg x
      rw [hx] at d2
      rw [wd] at b4
      unfold txO at ht
      clear e le wd hx nd a3' b3
      generalize (TA.w u a y).d t = da at *
      generalize x.d = xd at *
      generalize sg (l.map rowS) = o at *
      generalize st.set (i + 1) (sg (l2.map rowS)) = st' at *
      simp -implicitDefEqProofs (maxSteps := 2000000) (disch := first | omega | assumption | (simp; done) | (simp; omega)) [d_Text_hear, b_Text_hear, ad, d2, b0, ht, g0, c0, n0, b4]
    · rw [set_ne _ (by omega)]; exact e.top
    · rcases hj with rfl | hj
      · omega
      · exact e.en.si (z ▸ hj)
theorem hear_c {x : Dd} {t : Nm} {ps : List (List Sp)} (hx : x.act = (TA.c ps).d t) {b : Nat} (hb : b ≤ 300) {l : List Sg} {ms : List Mr} (T : TxOk b l ms) :
    TxOk (b + 1) (outS l ps) ms ∧ THear x l ms (outS l ps) ms := by
  have ln : (outS l ps).length ≤ l.length := List.length_filter_le _ _
  have gl := T.ll
  refine ⟨⟨T.asc.sublist List.filter_sublist, fun r hr => T.ok r (List.mem_filter.mp hr).1, by omega, fun m hm => ⟨(T.mo m hm).1, by have := (T.mo m hm).2; omega⟩, by have := T.ml; omega⟩, fun st i is e => ?_⟩
  obtain ⟨X, ce⟩ := cut_ev (i + 1) l (by omega) ps _ (.inr rfl) st e.en.sg
  refine ⟨st.set (i + 1) (sg ((outS l ps).map rowS)), is, ?_, ⟨?_, ⟨st_get e.en.sg _, e.en.mr.frame fun j hj => set_ne _ fun z => ?_, e.en.sm, e.en.si⟩, e.ni⟩, ⟨by rw [List.length_set]; exact Nat.le_refl _, fun j _ j1 _ _ => set_ne _ j1, fun i hi => .inl hi⟩⟩
  · have c0 : (sg (l.map rowS)).cls = "Signs" := rfl
    have n0 := sgO_no (l.map rowS) "cut" rfl
    have g0 := e.en.sg
    have ht := e.top
    have d2 := deed_2 x
    have b0 : gIx (.d ((TA.c ps).d t)) (.d (.int 0)) = some (.sh (.str "cut")) := rfl
    have b2 : gIx (.d ((TA.c ps).d t)) (.d (.int 2)) = some (.sh (.tuple (ps.map pd))) := rfl
    have ad := deed_arg x
    rw [hx] at d2
    unfold txO at ht
    clear e hx
    generalize (TA.c ps).d t = da at *
    generalize x.d = xd at *
    generalize sg (l.map rowS) = o at *
    generalize st.set (i + 1) (sg ((outS l ps).map rowS)) = st' at *
    generalize ps.map pd = pp at *
    simp -implicitDefEqProofs (maxSteps := 2000000) (disch := first | omega | assumption | (simp; done) | (simp; omega)) [d_Text_hear, b_Text_hear, ad, d2, b0, b2, ht, g0, c0, n0, ce]
  · rw [set_ne _ (by omega)]; exact e.top
  · rcases hj with rfl | hj
    · omega
    · exact e.en.si (z ▸ hj)
theorem hear_m {x : Dd} {t : Nm} {p q : List Sp} {y : Str} (hx : x.act = (TA.m p q y).d t) (ok : (TA.m p q y).ok) {b : Nat} (hb : b ≤ 300) {l : List Sg} {ms : List Mr} (T : TxOk b l ms) :
    TxOk (b + 1) l (ms ++ [mk0 x.h x.n p q y]) ∧ THear x l ms l (ms ++ [mk0 x.h x.n p q y]) := by
  obtain ⟨pp, pq⟩ := ok
  have gm := T.ml
  refine ⟨⟨T.asc, T.ok, by have := T.ll; omega, fun m hm => ?_, by rw [List.length_append]; simp; omega⟩, fun st i is e => ?_⟩
  · rw [List.mem_append, List.mem_singleton] at hm
    rcases hm with hm | rfl
    · exact ⟨(T.mo m hm).1, by have := (T.mo m hm).2; omega⟩
    · exact ⟨⟨pp, pq, (fun e he => by cases he), by simp [mk0]⟩, by simp [mk0]⟩
  · obtain ⟨me, mm⟩ := mark_ev e.en.mr (by omega) x.h x.n p q y (.tuple (x.sn.map prD)) (nmD t)
    have lt := e.en.lt
    have il := (List.getElem?_eq_some_iff.mp e.top).1
    refine ⟨_, _, ?_, ⟨?_, ⟨?_, mm, e.en.sm, ?_⟩, ?_⟩, ⟨by rw [List.length_set, List.length_append]; omega, fun j j0 _ j2 _ => ?_, fun i hi => ?_⟩⟩
    · have c0 : (mkA (is.map obD)).cls = "Marks" := rfl
      have n0 : noFd "mark" (mkA (is.map obD)) = some () := noFd_ok rfl
      have g0 := e.en.mr.top
      have ht := e.top
      have d2 := deed_2 x
      have b0 : gIx (.d ((TA.m p q y).d t)) (.d (.int 0)) = some (.sh (.str "mark")) := rfl
      have ad := deed_arg x
      have xd : x.d = .tuple [.tuple [.str x.h, .int x.n], .tuple (x.sn.map prD), .tuple [.str "mark", nmD t, pd p, pd q, .str y]] := by
        show PyData.tuple [nmD x.p, .tuple (x.sn.map prD), x.act] = _
        rw [hx]; rfl
      rw [← xd] at me
      rw [hx] at d2
      unfold txO at ht
      clear mm lt e hx xd il
      generalize (st ++ [mkO (mk0 x.h x.n p q y)]).set (i + 2) (mkA ((is ++ [st.length]).map obD)) = st' at *
      generalize mkA (is.map obD) = o at *
      generalize (TA.m p q y).d t = da at *
      generalize x.d = xd at *
      simp -implicitDefEqProofs (maxSteps := 2000000) (disch := first | omega | assumption | (simp; done) | (simp; omega)) [d_Text_hear, b_Text_hear, ad, d2, b0, ht, g0, c0, n0, me]
    · rw [set_ne _ (by omega), List.getElem?_append_left il]; exact e.top
    · rw [set_ne _ e.en.sm, List.getElem?_append_left lt.1]; exact e.en.sg
    · rw [List.mem_append, List.mem_singleton]
      rintro (z | z)
      · exact e.en.si z
      · omega
    · rw [List.mem_append, List.mem_singleton]
      rintro (z | z)
      · exact e.ni z
      · omega
    · rw [set_ne _ j2, List.getElem?_append_left j0]
    · rw [List.mem_append, List.mem_singleton] at hi
      rcases hi with hi | rfl
      · exact .inl hi
      · exact .inr (Nat.le_refl _)
theorem hear_k {x : Dd} {t : Nm} {p q : List Sp} {y : Str} (hx : x.act = (TA.k p q y).d t) (ok : (TA.k p q y).ok) {b : Nat} (hb : b ≤ 300) {l : List Sg} {ms : List Mr} (T : TxOk b l ms) :
    TxOk (b + 1) l (ms.map (clr x.sn y p q)) ∧ THear x l ms l (ms.map (clr x.sn y p q)) := by
  obtain ⟨pp, pq⟩ := ok
  have gm := T.ml
  refine ⟨⟨T.asc, T.ok, by have := T.ll; omega, fun m hm => ?_, by rw [List.length_map]; omega⟩, fun st i is e => ?_⟩
  · obtain ⟨m0, h0, rfl⟩ := List.mem_map.mp hm
    obtain ⟨o1, o2⟩ := T.mo m0 h0
    unfold clr prc
    split
    · refine ⟨⟨o1.f, o1.l, fun e he => ?_, ?_⟩, ?_⟩
      · have he : e ∈ m0.hs ++ [(p, q)] := he
        rw [List.mem_append, List.mem_singleton] at he
        rcases he with he | rfl
        · exact o1.hs e he
        · exact ⟨pp, pq⟩
      · show (m0.hs ++ [(p, q)]).length ≤ 4000
        rw [List.length_append]; simp; omega
      · show (m0.hs ++ [(p, q)]).length ≤ b + 1
        rw [List.length_append]; simp; omega
    · exact ⟨o1, by omega⟩
  · obtain ⟨st', me, mm, ml', fr⟩ := clear_ev e.en.mr (by omega) (fun m hm => by have := (T.mo m hm).2; omega) x.h x.n x.sn y p q (nmD t)
    refine ⟨st', is, ?_, ⟨?_, ⟨?_, mm, e.en.sm, e.en.si⟩, e.ni⟩, ⟨by omega, fun j _ _ j2 j3 => fr j j2 j3, fun i hi => .inl hi⟩⟩
    · have c0 : (mkA (is.map obD)).cls = "Marks" := rfl
      have n0 : noFd "clear" (mkA (is.map obD)) = some () := noFd_ok rfl
      have g0 := e.en.mr.top
      have ht := e.top
      have d2 := deed_2 x
      have b0 : gIx (.d ((TA.k p q y).d t)) (.d (.int 0)) = some (.sh (.str "clear")) := rfl
      have ad := deed_arg x
      have xd : x.d = .tuple [.tuple [.str x.h, .int x.n], .tuple (x.sn.map prD), .tuple [.str "clear", nmD t, pd p, pd q, .str y]] := by
        show PyData.tuple [nmD x.p, .tuple (x.sn.map prD), x.act] = _
        rw [hx]; rfl
      rw [← xd] at me
      rw [hx] at d2
      unfold txO at ht
      clear mm fr e hx xd
      generalize mkA (is.map obD) = o at *
      generalize (TA.k p q y).d t = da at *
      generalize x.d = xd at *
      simp -implicitDefEqProofs (maxSteps := 2000000) (disch := first | omega | assumption | (simp; done) | (simp; omega)) [d_Text_hear, b_Text_hear, ad, d2, b0, ht, g0, c0, n0, me]
    · rw [fr i (by omega) e.ni]; exact e.top
    · rw [fr (i + 1) e.en.sm e.en.si]; exact e.en.sg
theorem text_hear {x : Dd} {t : Nm} {a : TA} (hx : x.act = a.d t) (ok : a.ok) (xh : x.h.cps.size ≤ 8) {b : Nat} (hb : b ≤ 300) {l : List Sg} {ms : List Mr} (T : TxOk b l ms) (fr : Fresh x.p l) :
    TxOk (b + 1) (hearT x (l, ms) a).1 (hearT x (l, ms) a).2 ∧ (∀ r ∈ (hearT x (l, ms) a).1, r ∈ l ∨ lastP r.1 = some x.p) ∧ THear x l ms (hearT x (l, ms) a).1 (hearT x (l, ms) a).2 := by
  cases a with
  | w u a y => exact hear_w hx ok xh hb T fr
  | c ps =>
    obtain ⟨h1, h2⟩ := hear_c hx hb T
    exact ⟨h1, fun r hr => .inl (List.mem_filter.mp hr).1, h2⟩
  | m p q y =>
    obtain ⟨h1, h2⟩ := hear_m hx ok hb T
    exact ⟨h1, fun r hr => .inl hr, h2⟩
  | k p q y =>
    obtain ⟨h1, h2⟩ := hear_k hx ok hb T
    exact ⟨h1, fun r hr => .inl hr, h2⟩
def rowM (m : Mr) : D := .tuple [mnD m, pd m.f, pd m.l, .str m.w, .list (m.hs.map hoD)]
theorem row_ev {st : Store} {i : Nat} {m : Mr} (few : m.hs.length ≤ 4000) (h : st[i]? = some (mkO m)) : d_Mark_row [.d (obD i)] st = some (.sh (rowM m), st) := by
  have hl : (m.hs.map hoD).length ≤ 4000 := by rw [List.length_map]; exact few
  unfold mkO mkF at h
  unfold rowM
  generalize mnD m = n at *
  generalize m.hs.map hoD = hs at *
  have e1 := pd_tup m.f
  have e2 := pd_tup m.l
  obtain ⟨x1, e1⟩ := e1
  obtain ⟨x2, e2⟩ := e2
  rw [e1, e2] at h ⊢
  simp -implicitDefEqProofs (maxSteps := 2000000) (disch := first | omega | assumption | (simp; done) | (simp; omega)) [d_Mark_row, b_Mark_row, h]
theorem rows_comp {st : Store} (s0 : CM.Slot) : ∀ (is : List Nat) (ms : List Mr), is.length = ms.length → (∀ q ∈ is.zip ms, st[q.1]? = some (mkO q.2)) → (∀ m ∈ ms, m.hs.length ≤ 4000) →
    runComp [1] (.v 1) tYesD ce1_Marks_rows (is.map obD) ⟨[s0, .no], st⟩ = some (ms.map rowM, ⟨[s0, .no], st⟩) := fun is ms ln at_ few => by
  have cm := comp_map (vs := [1]) (p := .v 1) (t := tYesD) (a := ce1_Marks_rows) (fun q : Nat × Mr => obD q.1) (fun q => rowM q.2) ⟨[s0, .no], st⟩ (is.zip ms) fun q hq => by
    have hg := at_ q hq
    have re := row_ev (few q.2 (List.of_mem_zip hq).2) hg
    have n1 := mkO_no q.2 "row" (by rfl)
    have n2 := mkO_cls q.2
    generalize rowM q.2 = rm at *
    generalize mkO q.2 = o at *
    simp -implicitDefEqProofs (maxSteps := 2000000) (disch := first | omega | assumption | (simp; done) | (simp; omega)) [compStep, ce1_Marks_rows, hg, n1, n2, re]
  rw [zip_map_l ln] at cm
  have : (is.zip ms).map (fun q => rowM q.2) = ms.map rowM := by
    have h2 := List.map_snd_zip (l₁ := is) (l₂ := ms) (by omega)
    conv => rhs; rw [← h2, List.map_map]
    rfl
  rw [this] at cm
  exact cm
theorem mrows_ev {st : Store} {a : Nat} {is : List Nat} {ms : List Mr} (s : MS st a is ms) (hl : ms.length ≤ 4000) (few : ∀ m ∈ ms, m.hs.length ≤ 4000) : d_Marks_rows [.d (obD a)] st = some (.fr (.d (.list (ms.map rowM))), st) := by
  have hli : (is.map obD).length = ms.length := by rw [List.length_map, s.ln]
  have h := s.top
  have g1 := st_get h
  have g2 := st_put h
  have g3 := st_put2 h
  have g4 := st_same h
  have cm := rows_comp (st := st.set a (mkL (is.map obD))) (.sh (obD a)) is ms s.ln (fun q hq => by rw [set_ne _ (fun z : q.1 = a => s.na (by rw [← z]; exact (List.of_mem_zip hq).1))]; exact s.at_ q hq) few
  unfold mkA at *
  unfold mkL at *
  generalize is.map obD = L at *
  generalize ms.map rowM = Z at *
  simp -implicitDefEqProofs (maxSteps := 2000000) (disch := first | omega | assumption | (simp; done) | (simp; omega)) [d_Marks_rows, b_Marks_rows, h, g1, g2, g3, g4, cm, hli]
def contT (e : List Sg × List Mr) : D := .tuple [.list (e.1.map rowS), .list (e.2.map rowM)]
theorem content_ev {st : Store} {i : Nat} {is : List Nat} {l : List Sg} {ms : List Mr} (e : TxAt st i is l ms) (ll : l.length ≤ 4000) (ml : ms.length ≤ 4000) (few : ∀ m ∈ ms, m.hs.length ≤ 4000) : d_Text_content [.d (obD i)] st = some (.sh (contT (l, ms)), st) := by
  have r1 := rowsS_ev e.en.sg
  have r2 := mrows_ev e.en.mr ml few
  have g0 := e.en.sg
  have g1 := e.en.mr.top
  have ht := e.top
  have c0 : (sg (l.map rowS)).cls = "Signs" := rfl
  have n0 := sgO_no (l.map rowS) "rows" rfl
  have c1 : (mkA (is.map obD)).cls = "Marks" := rfl
  have n1 : noFd "rows" (mkA (is.map obD)) = some () := noFd_ok rfl
  have l1 : (l.map rowS).length ≤ 4000 := by rw [List.length_map]; exact ll
  have l2 : (ms.map rowM).length ≤ 4000 := by rw [List.length_map]; exact ml
  unfold contT
  unfold txO at ht
  clear e few
  generalize sg (l.map rowS) = o at *
  generalize mkA (is.map obD) = o1 at *
  dsimp only
  generalize l.map rowS = L at *
  generalize ms.map rowM = Z at *
  simp -implicitDefEqProofs (maxSteps := 2000000) (disch := first | omega | assumption | (simp; done) | (simp; omega)) [d_Text_content, b_Text_content, ht, g0, c0, n0, g1, c1, n1, r1, r2]
def txTold (l : List Sg) (ms : List Mr) : List D := l.map fun r => .tuple [pd r.1, .str r.2, .list ((srtT (wds ms r.1)).map PyData.str)]
theorem ttold_ev {st : Store} {i : Nat} {is : List Nat} {l : List Sg} {ms : List Mr} (T : TxAt st i is l ms) (ok : ∀ r ∈ l, Pk r.1) (mo : ∀ m ∈ ms, MrOk m) (ll : l.length ≤ 4000) (ml : ms.length ≤ 4000) : d_Text_told [.d (obD i)] st = some (.fr (.d (.list (txTold l ms))), st) := by
  have h0 := T.top
  have h1 := T.en.sg
  have h2 := T.en.mr.top
  have r1 := rowsS_ev h1
  have c1 : (sg (l.map rowS)).cls = "Signs" := rfl
  have n1 := sgO_no (l.map rowS) "rows" rfl
  have c2 : (mkA (is.map obD)).cls = "Marks" := rfl
  have n2 : noFd "words_at" (mkA (is.map obD)) = some () := noFd_ok rfl
  have cm := comp_map (vs := [1, 2]) (p := .t [1, 2]) (t := tYesD) (a := ce1_Text_told) rowS (fun r => .tuple [pd r.1, .str r.2, .list ((srtT (wds ms r.1)).map PyData.str)]) ⟨[.sh (obD i), .no, .no], st⟩ l fun r hr => by
    have w := words_ev T.en.mr mo ml (ok r hr)
    have ap : argSlot false (.d (pd r.1)) = some (.sh (pd r.1)) := rfl
    have wl : ((srtT (wds ms r.1)).map PyData.str).length ≤ 4000 := by
      rw [List.length_map]
      refine Nat.le_trans (srtT_len _) ?_
      unfold wds
      rw [List.length_map]
      exact Nat.le_trans (List.length_filter_le _ _) ml
    unfold txO at h0
    unfold rowS
    clear r1 c1 n1 h1
    generalize mkA (is.map obD) = o2 at *
    generalize (srtT (wds ms r.1)).map PyData.str = W at *
    generalize pd r.1 = pr at *
    simp -implicitDefEqProofs (maxSteps := 2000000) (disch := first | omega | assumption | (simp; done) | (simp; omega)) [compStep, ce1_Text_told, h0, h2, c2, n2, ap, w]
  have ll2 : (l.map rowS).length ≤ 4000 := by rw [List.length_map]; exact ll
  have ll3 : (txTold l ms).length ≤ 4000 := by unfold txTold; rw [List.length_map]; exact ll
  have cm : runComp [1, 2] (.t [1, 2]) tYesD ce1_Text_told (l.map rowS) ⟨[.sh (obD i), .no, .no], st⟩ = some (txTold l ms, ⟨[.sh (obD i), .no, .no], st⟩) := cm
  unfold txO at h0
  clear T ok mo
  generalize sg (l.map rowS) = o1 at *
  generalize l.map rowS = rs at *
  generalize txTold l ms = tt at *
  simp -implicitDefEqProofs (maxSteps := 2000000) (disch := first | omega | assumption | (simp; done) | (simp; omega)) [d_Text_told, b_Text_told, h0, h1, c1, n1, r1, cm]
def bxLk (st : Store) (n : Nat) : Option C := (fldAt st n bxS).bind fdC
@[simp high] theorem ev_look_bx (r : CM.Env) (n : Nat) : look r (.fl n bxS) = bxLk r.st n := ev_look_fl
theorem bxLk_of {st : Store} {n : Nat} {c : C} (h : bxAt st n = some c) : bxLk st n = some c := by
  unfold bxLk
  rw [bxAt_fld h]; rfl
@[simp] theorem bx_arg (n : Nat) : argSlot false (.d (bxD n)) = some (.sh (bxD n)) := rfl
@[simp] theorem stPut_bx (st : Store) (n : Nat) (c : C) : stPut st n bxS (.ow c) = bxPut st n c := rfl
def bxLok (st : Store) (n : Nat) (c : C) : Store := stPut st n bxS (.lk c)
@[simp] theorem stPut_lk (st : Store) (n : Nat) (c : C) : stPut st n bxS (.lk c) = bxLok st n c := rfl
def bxLend (st : Store) (n : Nat) : Option (C × Lk) := (fldAt st n bxS).bind (fdL n bxS)
@[simp high] theorem ev_lend_bx (r : CM.Env) (n : Nat) : lendOf r (.fl n bxS) = bxLend r.st n := ev_lend_fl
theorem bxLend_of {st : Store} {n : Nat} {c : C} (h : bxAt st n = some c) : bxLend st n = some (c, .fl n bxS) := by
  unfold bxLend
  rw [bxAt_fld h]; rfl
def bxLock (st : Store) (n : Nat) : Store := (lock (.fl n bxS) ⟨[], st⟩).st
def bxUnlock (st : Store) (n : Nat) : Store := (unlock (.fl n bxS) ⟨[], st⟩).st
@[simp high] theorem ev_lock_bx (r : CM.Env) (n : Nat) : lock (.fl n bxS) r = ⟨r.sl, bxLock r.st n⟩ := by
  obtain ⟨sl, st⟩ := r
  unfold bxLock lock
  dsimp only
  cases fldAt st n bxS with
  | none => rfl
  | some d => cases d <;> rfl
@[simp high] theorem ev_unlock_bx (r : CM.Env) (n : Nat) : unlock (.fl n bxS) r = ⟨r.sl, bxUnlock r.st n⟩ := by
  obtain ⟨sl, st⟩ := r
  unfold bxUnlock unlock
  dsimp only
  cases fldAt st n bxS with
  | none => rfl
  | some d => cases d <;> rfl
theorem bxLock_of {st : Store} {n : Nat} {c : C} (h : bxAt st n = some c) : bxLock st n = bxLok st n c := by
  unfold bxLock lock
  dsimp only
  rw [bxAt_fld h]; rfl
theorem putFd_back (f : Str) (a b : Fd) : ∀ fs : List (Str × Fd), fs.lookup f = some a → putFd f a (putFd f b fs) = fs
  | [], h => by cases h
  | (k, x) :: r, h => by
    rw [show putFd f b ((k, x) :: r) = (if k = f then (k, b) :: r else (k, x) :: putFd f b r) from rfl]
    by_cases e : k = f
    · subst e
      simp only [List.lookup, beq_self_eq_true] at h
      cases h
      rw [if_pos rfl]
      show (if k = k then (k, a) :: r else _) = _
      rw [if_pos rfl]
    · have hb : (f == k) = false := beq_eq_false_iff_ne.mpr fun z => e z.symm
      simp only [List.lookup, hb] at h
      rw [if_neg e]
      show (if k = f then (k, a) :: putFd f b r else (k, x) :: putFd f a (putFd f b r)) = _
      rw [if_neg e, putFd_back f a b r h]
theorem bxUn_of {st : Store} {n : Nat} {c : C} (h : bxAt st n = some c) : bxUnlock (bxLok st n c) n = st := by
  have hf := bxAt_fld h
  have hl := bxAt_lt h
  unfold bxUnlock unlock bxLok
  dsimp only
  rw [fldAt_put hl, if_pos ⟨rfl, rfl⟩]
  show stPut (stPut st n bxS (.lk c)) n bxS (.ow c) = st
  refine List.ext_getElem? fun j => ?_
  rw [stPut_at, stPut_at]
  by_cases e : n = j
  · subst e
    unfold fldAt at hf
    cases q : st[n]? with
    | none => rfl
    | some o =>
      rw [q] at hf
      have hf : o.fs.lookup bxS = some (.ow c) := hf
      simp only [Option.map_some, if_pos rfl]
      simp only [↓reduceIte]
      rw [putFd_back _ _ _ _ hf]
  · cases st[j]? <;> simp [e]
theorem bxAt_same {st st' : Store} {n : Nat} (h : st'[n]? = st[n]?) : bxAt st' n = bxAt st n := by
  unfold bxAt fldAt
  rw [h]
theorem bxLok_ne {st : Store} {n j : Nat} {c : C} (ne : j ≠ n) : (bxLok st n c)[j]? = st[j]? := by
  unfold bxLok
  rw [stPut_at]
  cases st[j]? with
  | none => rfl
  | some o => rw [Option.map_some, if_neg (Ne.symm ne)]
theorem bef_pre (p : List Sp) : ∀ q t : List Sp, bef (p ++ q) (p ++ t) = bef q t := by
  induction p with
  | nil => intro q t; rfl
  | cons s p ih => intro q t; rw [List.cons_append, List.cons_append, bef, if_pos rfl]; exact ih q t
theorem bef_up (p t : List Sp) (s : Sp) (h : 0 < s.1) : bef p (p ++ s :: t) = true := by
  have := bef_pre p [] (s :: t)
  rw [List.append_nil] at this
  rw [this, bef, decide_eq_true h]
theorem bef_down (p t : List Sp) (s : Sp) (h : s.1 < 0) : bef (p ++ s :: t) p = true := by
  have := bef_pre p (s :: t) []
  rw [List.append_nil] at this
  rw [this, bef, decide_eq_true h]
theorem bef_more : ∀ (l r x : List Sp), bef l r = true → ¬ (∃ t, r = l ++ t) → bef (l ++ x) r = true
  | [], r, x, _, n => absurd ⟨r, rfl⟩ n
  | s :: l, [], x, h, _ => by rw [bef] at h; rw [List.cons_append, bef]; exact h
  | s :: l, t :: r, x, h, n => by
    rw [List.cons_append, bef]
    rw [bef] at h
    by_cases e : s = t
    · rw [if_pos e] at h ⊢
      exact bef_more l r x h fun ⟨u, hu⟩ => n ⟨u, by rw [hu, e]; rfl⟩
    · rw [if_neg e] at h ⊢; exact h
theorem bef_into (l r x : List Sp) (h : bef l (l ++ r) = true) : bef l (l ++ (r ++ x)) = true := by
  have a := bef_pre l [] r
  have b := bef_pre l [] (r ++ x)
  rw [List.append_nil] at a b
  rw [a] at h
  rw [b]
  cases r with
  | nil => rw [bef] at h; cases h
  | cons s r => rw [bef] at h; rw [List.cons_append, bef]; exact h
def gapP (l : List Sp) : Option (List Sp) → List Sp × Int
  | none => (l, 1)
  | some r => if r.take l.length = l then (r, -1) else (l, 1)
theorem wrp_head (u : List Sp) (a : Int) (h : Str) (n : Int) : ∀ j, ∃ t, wrp u a h n j = u ++ (a, h, n, 0) :: t
  | 0 => ⟨[], rfl⟩
  | j + 1 => by
    obtain ⟨t, e⟩ := wrp_head u a h n j
    exact ⟨t ++ [(1, h, n, ((j + 1 : Nat) : Int))], by rw [wrp, e, List.append_assoc]; rfl⟩
theorem take_pre {l r : List Sp} : r.take l.length = l ↔ ∃ t, r = l ++ t := by
  constructor
  · intro h
    exact ⟨r.drop l.length, by have := List.take_append_drop l.length r; rw [h] at this; exact this.symm⟩
  · rintro ⟨t, rfl⟩
    exact List.take_left
theorem gap_lo (l : List Sp) (r : Option (List Sp)) (hr : ∀ x, r = some x → bef l x = true) (h : Str) (n : Int) (j : Nat) : bef l (wrp (gapP l r).1 (gapP l r).2 h n j) = true := by
  obtain ⟨t, e⟩ := wrp_head (gapP l r).1 (gapP l r).2 h n j
  rw [e]
  cases r with
  | none => exact bef_up _ _ _ (by show (0 : Int) < 1; decide)
  | some r =>
    unfold gapP
    dsimp only
    by_cases c : r.take l.length = l
    · rw [if_pos c]
      obtain ⟨z, rfl⟩ := take_pre.mp c
      dsimp only
      rw [List.append_assoc]
      exact bef_into l z _ (hr _ rfl)
    · rw [if_neg c]
      exact bef_up _ _ _ (by show (0 : Int) < 1; decide)
theorem gap_hi (l r : List Sp) (hr : bef l r = true) (h : Str) (n : Int) (j : Nat) : bef (wrp (gapP l (some r)).1 (gapP l (some r)).2 h n j) r = true := by
  obtain ⟨t, e⟩ := wrp_head (gapP l (some r)).1 (gapP l (some r)).2 h n j
  rw [e]
  unfold gapP
  dsimp only
  by_cases c : r.take l.length = l
  · rw [if_pos c]
    exact bef_down _ _ _ (by show (-1 : Int) < 0; decide)
  · rw [if_neg c]
    exact bef_more l r _ hr fun z => c (take_pre.mpr z)
theorem wrp_next (u : List Sp) (a : Int) (h : Str) (n : Int) (i d : Nat) : ∃ t, wrp u a h n (i + d + 1) = wrp u a h n i ++ (1, h, n, ((i + 1 : Nat) : Int)) :: t := by
  induction d with
  | zero => exact ⟨[], rfl⟩
  | succ d ih =>
    obtain ⟨t, e⟩ := ih
    refine ⟨t ++ [(1, h, n, ((i + d + 1 + 1 : Nat) : Int))], ?_⟩
    show wrp u a h n (i + d + 1) ++ _ = _
    rw [e, List.append_assoc]; rfl
theorem wrp_asc (u : List Sp) (a : Int) (h : Str) (n : Int) {i j : Nat} (ij : i < j) : bef (wrp u a h n i) (wrp u a h n j) = true := by
  obtain ⟨d, rfl⟩ : ∃ d, j = i + d + 1 := ⟨j - i - 1, by omega⟩
  obtain ⟨t, e⟩ := wrp_next u a h n i d
  rw [e]
  exact bef_up _ _ _ (by show (0 : Int) < 1; decide)
theorem wrps_asc (u : List Sp) (a : Int) (h : Str) (n : Int) (m : Nat) : (wrps u a h n m).Pairwise fun p q => bef p q = true := by
  unfold wrps
  rw [List.pairwise_map]
  exact List.Pairwise.imp (fun {i j} ij => wrp_asc u a h n ij) List.pairwise_lt_range
theorem gapP_ok {l : List Sp} {r : Option (List Sp)} (hl : Pk l) (hr : ∀ x, r = some x → Pk x) : Pk (gapP l r).1 ∧ ((gapP l r).2 = 1 ∨ (gapP l r).2 = -1) := by
  cases r with
  | none => exact ⟨hl, .inl rfl⟩
  | some r =>
    unfold gapP
    dsimp only
    by_cases c : r.take l.length = l
    · rw [if_pos c]; exact ⟨hr r rfl, .inr rfl⟩
    · rw [if_neg c]; exact ⟨hl, .inl rfl⟩
theorem gap_ev0 (l : List Sp) (st : Store) : d_gap [.d (pd l), .d .none] st = some (.sh (.tuple [pd l, .int 1]), st) := by
  have e : ∃ xs, pd l = .tuple xs := ⟨_, rfl⟩
  obtain ⟨xs, e⟩ := e
  rw [e]
  simp -implicitDefEqProofs (maxSteps := 2000000) (disch := first | omega | assumption | (simp; done) | (simp; omega)) [d_gap, b_gap]
theorem gap_ev1 (l r : List Sp) (hl : Pk l) (hr : Pk r) (b : bef l r = true) (st : Store) : d_gap [.d (pd l), .d (pd r)] st = some (.sh (.tuple [pd (gapP l (some r)).1, .int (gapP l (some r)).2]), st) := by
  have be := before_ev l r (by have := hl.le; omega) (by have := hr.le; omega) hl.ok hr.ok st
  rw [b] at be
  have ln : ((l.map sd).length : Int) = (l.length : Int) := by rw [List.length_map]
  have ct : cutL (r.map sd) none (some (l.length : Int)) = (r.take l.length).map sd := by rw [cutL_up _ (by omega), List.map_take]; rfl
  have eq : PyData.eqv (.tuple ((r.take l.length).map sd)) (.tuple (l.map sd)) = decide (r.take l.length = l) := eqv_pd _ _
  have sh : shallow (.tuple ((r.take l.length).map sd)) (.tuple (l.map sd)) = true := sh_pd _ _
  have rl : (r.map sd).length ≤ 4000 := by rw [List.length_map]; exact hr.le
  unfold gapP
  dsimp only
  have pl : pd l = .tuple (l.map sd) := rfl
  have pr : pd r = .tuple (r.map sd) := rfl
  by_cases c : r.take l.length = l
  · rw [if_pos c]
    dsimp only
    rw [decide_eq_true c] at eq
    rw [pl, pr] at be ⊢
    generalize (r.take l.length).map sd = T at *
    generalize l.map sd = L at *
    generalize r.map sd = R at *
    generalize (l.length : Int) = N at *
    simp -implicitDefEqProofs (maxSteps := 2000000) (disch := first | omega | assumption | (simp; done) | (simp; omega)) [d_gap, b_gap, be, ln, ct, eq, sh]
  · rw [if_neg c]
    dsimp only
    rw [decide_eq_false c] at eq
    rw [pl, pr] at be ⊢
    generalize (r.take l.length).map sd = T at *
    generalize l.map sd = L at *
    generalize r.map sd = R at *
    generalize (l.length : Int) = N at *
    simp -implicitDefEqProofs (maxSteps := 2000000) (disch := first | omega | assumption | (simp; done) | (simp; omega)) [d_gap, b_gap, be, ln, ct, eq, sh]
def leftP (l : List Sg) : Nat → List Sp
  | 0 => []
  | k + 1 => ((l[k]?).map (·.1)).getD []
def rightP (l : List Sg) (n : Nat) : Option (List Sp) := (l[n]?).map (·.1)
theorem leftP_at {l : List Sg} {k : Nat} {p : Sg} (hp : l[k]? = some p) : leftP l (k + 1) = p.1 := by
  show ((l[k]?).map (·.1)).getD [] = _
  rw [hp]; rfl
def Up (l : List Sg) : Prop := ∀ r ∈ l, bef [] r.1 = true
theorem left_pk {l : List Sg} (ok : ∀ r ∈ l, Pk r.1) (n : Nat) : Pk (leftP l n) := by
  cases n with
  | zero => exact ⟨Nat.zero_le _, fun s h => by cases h⟩
  | succ k =>
    show Pk (((l[k]?).map (·.1)).getD [])
    cases e : l[k]? with
    | none => exact ⟨Nat.zero_le _, fun s h => by cases h⟩
    | some q => exact ok q (List.mem_of_getElem? e)
theorem right_pk {l : List Sg} (ok : ∀ r ∈ l, Pk r.1) (n : Nat) : ∀ x, rightP l n = some x → Pk x := fun x h => by
  unfold rightP at h
  cases e : l[n]? with
  | none => rw [e] at h; cases h
  | some q =>
    rw [e] at h
    cases h
    exact ok q (List.mem_of_getElem? e)
theorem left_right {l : List Sg} (asc : Asc l) (up : Up l) {n : Nat} (nl : n ≤ l.length) : ∀ x, rightP l n = some x → bef (leftP l n) x = true := fun x h => by
  unfold rightP at h
  cases e : l[n]? with
  | none => rw [e] at h; cases h
  | some q =>
    rw [e] at h
    cases h
    cases n with
    | zero => exact up q (List.mem_of_getElem? e)
    | succ k =>
      obtain ⟨p, hp⟩ : ∃ p, l[k]? = some p := ⟨_, List.getElem?_eq_getElem (by omega)⟩
      rw [leftP_at hp]
      exact asc_get asc hp e (by omega)
theorem take_left {l : List Sg} (asc : Asc l) {n : Nat} (nl : n ≤ l.length) {r : Sg} (hr : r ∈ l.take n) : r.1 = leftP l n ∨ bef r.1 (leftP l n) = true := by
  obtain ⟨j, hj⟩ := List.mem_iff_getElem?.mp hr
  rw [List.getElem?_take] at hj
  split at hj
  · rename_i z
    obtain ⟨k, rfl⟩ : ∃ k, n = k + 1 := ⟨n - 1, by omega⟩
    obtain ⟨p, hp⟩ : ∃ p, l[k]? = some p := ⟨_, List.getElem?_eq_getElem (by omega)⟩
    rw [leftP_at hp]
    rcases Nat.lt_or_ge j k with w | w
    · exact .inr (asc_get asc hj hp w)
    · have : j = k := by omega
      subst this
      rw [hp] at hj
      cases hj
      exact .inl rfl
  · cases hj
theorem drop_right {l : List Sg} (asc : Asc l) {n : Nat} {r : Sg} (hr : r ∈ l.drop n) : ∃ x, rightP l n = some x ∧ (r.1 = x ∨ bef x r.1 = true) := by
  obtain ⟨j, hj⟩ := List.mem_iff_getElem?.mp hr
  rw [List.getElem?_drop] at hj
  have jl := (List.getElem?_eq_some_iff.mp hj).1
  obtain ⟨p, hp⟩ : ∃ p, l[n]? = some p := ⟨_, List.getElem?_eq_getElem (by omega)⟩
  refine ⟨p.1, by unfold rightP; rw [hp]; rfl, ?_⟩
  cases j with
  | zero => rw [Nat.add_zero, hp] at hj; cases hj; exact .inl rfl
  | succ j => exact .inr (asc_get asc hp hj (by omega))
theorem wrote_asc {l : List Sg} (asc : Asc l) (ok : ∀ r ∈ l, Pk r.1) (up : Up l) {n : Nat} (nl : n ≤ l.length) (y : Wr) (yo : WrOk y) (hu : y.u = (gapP (leftP l n) (rightP l n)).1) (ha : y.a = (gapP (leftP l n) (rightP l n)).2) :
    Asc (l.take n ++ y.rows ++ l.drop n) ∧ ∀ r ∈ y.rows, bef (leftP l n) r.1 = true ∧ ∀ x, rightP l n = some x → bef r.1 x = true := by
  have lr := left_right asc up nl
  have nw : ∀ r ∈ y.rows, ∃ j, r.1 = wrp y.u y.a y.h y.n j ∧ ∀ s ∈ r.1, s.Ok := fun r hr => by
    have : r.1 ∈ y.ps := by rw [← y.rows_fst]; exact List.mem_map_of_mem hr
    unfold Wr.ps wrps at this
    obtain ⟨j, _, e⟩ := List.mem_map.mp this
    exact ⟨j, e.symm, by rw [← e]; exact wrp_ok yo.u yo.a yo.h _ j⟩
  have lo : ∀ r ∈ y.rows, bef (leftP l n) r.1 = true := fun r hr => by
    obtain ⟨j, e, _⟩ := nw r hr
    rw [e, hu, ha]
    exact gap_lo _ _ lr _ _ j
  have hi : ∀ r ∈ y.rows, ∀ x, rightP l n = some x → bef r.1 x = true := fun r hr x hx => by
    obtain ⟨j, e, _⟩ := nw r hr
    rw [e, hu, ha, hx]
    exact gap_hi _ _ (lr x hx) _ _ j
  refine ⟨?_, fun r hr => ⟨lo r hr, hi r hr⟩⟩
  have asc' := asc
  unfold Asc at asc'
  rw [← List.take_append_drop n l, List.pairwise_append] at asc'
  obtain ⟨a1, a2, a3⟩ := asc'
  have okl := (left_pk ok n).ok
  have up1 : ∀ a ∈ l.take n, ∀ b ∈ y.rows, bef a.1 b.1 = true := fun a ha b hb => by
    obtain ⟨j, e, ob⟩ := nw b hb
    rcases take_left asc nl ha with z | z
    · rw [z]; exact lo b hb
    · exact bef_trans _ _ _ (ok a (List.mem_of_mem_take ha)).ok okl ob z (lo b hb)
  have up2 : ∀ b ∈ y.rows, ∀ c ∈ l.drop n, bef b.1 c.1 = true := fun b hb c hc => by
    obtain ⟨j, e, ob⟩ := nw b hb
    obtain ⟨x, hx, z⟩ := drop_right asc hc
    rcases z with z | z
    · rw [z]; exact hi b hb x hx
    · exact bef_trans _ _ _ ob (right_pk ok n x hx).ok (ok c (List.mem_of_mem_drop hc)).ok (hi b hb x hx) z
  unfold Asc
  rw [List.append_assoc, List.pairwise_append, List.pairwise_append]
  refine ⟨a1, ⟨?_, a2, up2⟩, fun a ha b hb => ?_⟩
  · have : (y.rows.map (·.1)).Pairwise fun p q => bef p q = true := by
      rw [y.rows_fst]
      exact wrps_asc ..
    rw [List.pairwise_map] at this
    exact this
  · rcases List.mem_append.mp hb with hb | hb
    · exact up1 a ha b hb
    · exact a3 a ha b hb
def nkS (s : Sp) : NestedKey := .tup [.num s.1, .text s.2.1, .num s.2.2.1, .num s.2.2.2]
theorem srtS_perm {xs ys : List Str} (p : xs.Perm ys) : (xs.mergeSort fun a b => leD (.str a) (.str b)) = ys.mergeSort fun a b => leD (.str a) (.str b) := by
  have h := sort_keys_perm (p.map (Sum.inr : Str → Ky)) (fun x hx y hy => by
    obtain ⟨a, _, rfl⟩ := List.mem_map.mp hx
    obtain ⟨b, _, rfl⟩ := List.mem_map.mp hy
    rfl)
  have m : ∀ l : List Str, (l.map (Sum.inr : Str → Ky)).mergeSort (W.dataLe false CM.kD) = (l.mergeSort fun a b => leD (.str a) (.str b)).map Sum.inr := fun l =>
    (List.map_mergeSort (r := fun a b => leD (.str a) (.str b)) (s := W.dataLe false CM.kD) (f := (Sum.inr : Str → Ky)) fun _ _ _ _ => rfl).symm
  rw [m, m] at h
  exact (List.map_inj_right (fun _ _ e => Sum.inr.inj e)).mp h
theorem dedT_mem {l : List Str} {w : Str} : w ∈ dedT l ↔ w ∈ l := by
  unfold dedT
  rw [List.mem_map]
  constructor
  · rintro ⟨k, hk, rfl⟩
    obtain ⟨x, hx, rfl⟩ := List.mem_map.mp (dedK_mem.mp hk)
    exact hx
  · exact fun h => ⟨.inr w, dedK_mem.mpr (List.mem_map.mpr ⟨w, h, rfl⟩), rfl⟩
theorem dedT_nd {l : List Str} : (dedT l).Nodup := by
  unfold dedT List.Nodup
  rw [List.pairwise_map]
  refine List.Pairwise.imp_of_mem (fun {a b} ha hb ne e => ?_) (dedK_nodup (ks := l.map Sum.inr))
  obtain ⟨x, _, rfl⟩ := List.mem_map.mp (dedK_mem.mp ha)
  obtain ⟨y, _, rfl⟩ := List.mem_map.mp (dedK_mem.mp hb)
  have e : x = y := e
  exact ne (by rw [e])
theorem srtT_of {W l : List Str} (nd : W.Nodup) (h : ∀ w, w ∈ l ↔ w ∈ W) : (W.mergeSort fun a b => leD (.str a) (.str b)) = srtT l :=
  srtS_perm ((List.perm_ext_iff_of_nodup nd dedT_nd).mpr fun w => by rw [dedT_mem, h])
theorem notIn_strs (L : List Str) (h : Str) : gNotIn (.d (.str h)) (.d (.list (L.map PyData.str))) = some (.sh (.bool (!decide (h ∈ L)))) := by
  have e1 : shallowAll (.str h) (L.map PyData.str) = true := by
    unfold shallowAll
    rw [Bool.and_eq_true, List.all_eq_true]
    refine ⟨rfl, fun y hy => ?_⟩
    obtain ⟨z, _, rfl⟩ := List.mem_map.mp hy
    exact shallow_fl (Fl.s (k := 0) z) (Fl.s (k := 0) h) (.inl (by decide))
  have e2 : inDs (.str h) (L.map PyData.str) = decide (h ∈ L) := by
    unfold inDs
    rw [Bool.eq_iff_iff, List.any_eq_true, decide_eq_true_iff]
    constructor
    · rintro ⟨y, hy, e⟩
      obtain ⟨z, hz, rfl⟩ := List.mem_map.mp hy
      have := (eqv_pln _ _ rfl rfl).mp e
      injection this with this
      exact this ▸ hz
    · exact fun hh => ⟨.str h, List.mem_map.mpr ⟨h, hh, rfl⟩, (eqv_pln _ _ rfl rfl).mpr rfl⟩
  rw [gNotIn_l e1, e2]; rfl
structure Tq where
  h : Str
  n : Int
  sn : List (Str × Int)
  a : TA
def tN : Nm := ("t", 1)
def Tq.x (q : Tq) : Dd := ⟨q.h, q.n, q.sn, q.a.d tN⟩
def Tq.d (q : Tq) : D := q.x.d
def Tq.p (q : Tq) : Nm := (q.h, q.n)
def Tq.rows (q : Tq) : List Sg := match q.a with
  | .w u a y => rowsW q.h q.n u a y
  | _ => []
def Tq.gone (q : Tq) : List (List Sp) := match q.a with
  | .c ps => ps
  | _ => []
def wrL (L : List Tq) : List Sg := L.flatMap Tq.rows
def gnL (L : List Tq) : List (List Sp) := L.flatMap Tq.gone
def alive (L : List Tq) : List Sg := outS (wrL L) (gnL L)
theorem wrL_app (A B : List Tq) : wrL (A ++ B) = wrL A ++ wrL B := List.flatMap_append
theorem gnL_app (A B : List Tq) : gnL (A ++ B) = gnL A ++ gnL B := List.flatMap_append
theorem rowsW_last (h : Str) (n : Int) (u : List Sp) (a : Int) (y : Str) : ∀ r ∈ rowsW h n u a y, lastP r.1 = some (h, n) := fun r hr => by
  have := (⟨.none, h, n, .none, u, a, y⟩ : Wr).ps_lastP r.1 (by rw [← Wr.rows_fst]; exact List.mem_map_of_mem hr)
  exact this
theorem Tq.rows_p (q : Tq) : ∀ r ∈ q.rows, lastP r.1 = some q.p := fun r hr => by
  unfold Tq.rows at hr
  cases e : q.a with
  | w u a y => rw [e] at hr; exact rowsW_last _ _ _ _ _ r hr
  | c _ => rw [e] at hr; cases hr
  | m _ _ _ => rw [e] at hr; cases hr
  | k _ _ _ => rw [e] at hr; cases hr
theorem Tq.rows_nd (q : Tq) : (q.rows.map (·.1)).Nodup := by
  unfold Tq.rows
  cases e : q.a with
  | w u a y =>
    have := (⟨.none, q.h, q.n, .none, u, a, y⟩ : Wr).ps_nd
    rw [← Wr.rows_fst] at this
    exact this
  | c _ => exact List.nodup_nil
  | m _ _ _ => exact List.nodup_nil
  | k _ _ _ => exact List.nodup_nil
theorem wrL_p {L : List Tq} {r : Sg} (h : r ∈ wrL L) : ∃ d ∈ L, r ∈ d.rows ∧ lastP r.1 = some d.p := by
  obtain ⟨d, hd, hr⟩ := List.mem_flatMap.mp h
  exact ⟨d, hd, hr, d.rows_p r hr⟩
theorem wrL_nd : ∀ {L : List Tq}, (L.map Tq.p).Nodup → ((wrL L).map (·.1)).Nodup
  | [], _ => List.nodup_nil
  | d :: L, nd => by
    rw [List.map_cons, List.nodup_cons] at nd
    have ih := wrL_nd nd.2
    show ((d.rows ++ wrL L).map (·.1)).Nodup
    rw [List.map_append, List.nodup_append]
    refine ⟨d.rows_nd, ih, fun p hp q hq e => nd.1 ?_⟩
    obtain ⟨r, hr, rfl⟩ := List.mem_map.mp hp
    obtain ⟨s, hs, rfl⟩ := List.mem_map.mp hq
    obtain ⟨d', hd', hs', en⟩ := wrL_p hs
    have := d.rows_p r hr
    have e : r.1 = s.1 := e
    rw [e, en] at this
    rw [← Option.some.inj this]
    exact List.mem_map_of_mem hd'
theorem mem_wrL_sub {A B : List Tq} (h : ∀ d ∈ A, d ∈ B) {r : Sg} (hr : r ∈ wrL A) : r ∈ wrL B := by
  obtain ⟨d, hd, hr⟩ := List.mem_flatMap.mp hr
  exact List.mem_flatMap.mpr ⟨d, h d hd, hr⟩
def Con (G : List Tq) : Prop := (G.map Tq.p).Nodup
theorem con_eq {G : List Tq} (c : Con G) {a b : Tq} (ha : a ∈ G) (hb : b ∈ G) (e : a.p = b.p) : a = b := by
  unfold Con at c
  induction G with
  | nil => cases ha
  | cons x G ih =>
    rw [List.map_cons, List.nodup_cons] at c
    rcases List.mem_cons.mp ha with ea | ha' <;> rcases List.mem_cons.mp hb with eb | hb'
    · rw [ea, eb]
    · exact absurd (show x.p ∈ G.map Tq.p from by rw [← ea, e]; exact List.mem_map_of_mem hb') c.1
    · exact absurd (show x.p ∈ G.map Tq.p from by rw [← eb, ← e]; exact List.mem_map_of_mem ha') c.1
    · exact ih c.2 ha' hb'
structure Lg (G L : List Tq) : Prop where
  nd : (L.map Tq.p).Nodup
  sub : ∀ d ∈ L, d ∈ G
  cl : ∀ (i : Nat) (d : Tq), L[i]? = some d → ∀ p ∈ d.gone, ∃ r ∈ wrL (L.take i), r.1 = p
  sc : ∀ (i : Nat) (d : Tq), L[i]? = some d → ∀ m ∈ G, cov d.sn m.h m.n = true → m ∈ L.take i
  dc : ∀ m ∈ L, ∀ k ∈ G, k.h = m.h → k.n ≤ m.n → k ∈ L
theorem Lg.nil (G : List Tq) : Lg G [] := ⟨List.nodup_nil, fun d h => (by cases h), fun i d h => by simp at h, fun i d h => by simp at h, fun m h => by cases h⟩
theorem Lg.gone_in {G L : List Tq} (g : Lg G L) {p : List Sp} (h : p ∈ gnL L) : ∃ r ∈ wrL L, r.1 = p := by
  obtain ⟨d, hd, hp⟩ := List.mem_flatMap.mp h
  obtain ⟨i, hi⟩ := List.mem_iff_getElem?.mp hd
  obtain ⟨r, hr, e⟩ := g.cl i d hi p hp
  exact ⟨r, mem_wrL_sub (fun d h => List.mem_of_mem_take h) hr, e⟩
def Unk (L : List Tq) (d : Tq) : Bool := !decide (d.p ∈ L.map Tq.p)
def sent (L M : List Tq) : List Tq := M.filter (Unk L)
theorem filter_take {α : Type} (p : α → Bool) : ∀ (M : List α) (j : Nat) (d : α), (M.filter p)[j]? = some d → ∃ k, M[k]? = some d ∧ (M.filter p).take j = (M.take k).filter p
  | [], j, d, h => by simp at h
  | a :: M, j, d, h => by
    by_cases c : p a = true
    · rw [List.filter_cons_of_pos c] at h ⊢
      cases j with
      | zero =>
        cases h
        exact ⟨0, rfl, rfl⟩
      | succ j =>
        obtain ⟨k, h1, h2⟩ := filter_take p M j d (by simpa using h)
        exact ⟨k + 1, by simpa using h1, by rw [List.take_succ_cons, List.take_succ_cons, List.filter_cons_of_pos c, h2]⟩
    · rw [List.filter_cons_of_neg c] at h ⊢
      obtain ⟨k, h1, h2⟩ := filter_take p M j d h
      exact ⟨k + 1, by simpa using h1, by rw [List.take_succ_cons, List.filter_cons_of_neg c, h2]⟩
theorem unk_no {G L : List Tq} (c : Con G) (gL : Lg G L) {x : Tq} (hx : x ∈ G) (u : ¬ Unk L x = true) : x ∈ L := by
  unfold Unk at u
  have u : x.p ∈ L.map Tq.p := by simpa using u
  obtain ⟨x', hx', ex⟩ := List.mem_map.mp u
  rw [← con_eq c (gL.sub x' hx') hx ex]; exact hx'
theorem told_all {G L M : List Tq} (c : Con G) (gL : Lg G L) (gM : Lg G M) (d : Tq) : d ∈ L ++ sent L M ↔ d ∈ L ∨ d ∈ M := by
  rw [List.mem_append]
  constructor
  · rintro (h | h)
    · exact .inl h
    · exact .inr (List.mem_filter.mp h).1
  · rintro (h | h)
    · exact .inl h
    · by_cases u : Unk L d = true
      · exact .inr (List.mem_filter.mpr ⟨h, u⟩)
      · exact .inl (unk_no c gL (gM.sub d h) u)
theorem told_pre {G L M : List Tq} (c : Con G) (gL : Lg G L) (gM : Lg G M) {i j : Nat} {d : Tq} (il : ¬ i < L.length) (hi : (L ++ (sent L M).take j)[i]? = some d) : ∃ k, M[k]? = some d ∧ ∀ x ∈ M.take k, x ∈ (L ++ (sent L M).take j).take i := by
  rw [List.getElem?_append_right (by omega)] at hi
  rw [List.getElem?_take] at hi
  split at hi
  case isFalse => cases hi
  rename_i ij
  obtain ⟨k, hk, ek⟩ := filter_take (Unk L) M _ d hi
  refine ⟨k, hk, fun x hx => ?_⟩
  rw [List.take_append]
  by_cases u : Unk L x = true
  · refine List.mem_append_right _ ?_
    have : x ∈ (M.take k).filter (Unk L) := List.mem_filter.mpr ⟨hx, u⟩
    rw [← ek] at this
    rw [List.take_take]
    have e2 : min (i - L.length) j = i - L.length := by omega
    rw [e2]
    exact this
  · refine List.mem_append_left _ ?_
    rw [List.take_of_length_le (by omega)]
    exact unk_no c gL (gM.sub x (List.mem_of_mem_take hx)) u
theorem Lg.told {G L M : List Tq} (c : Con G) (gL : Lg G L) (gM : Lg G M) (j : Nat) (jm : j ≥ (sent L M).length ∨ True) : ((L ++ (sent L M).take j).map Tq.p).Nodup ∧ (∀ d ∈ L ++ (sent L M).take j, d ∈ G) ∧
    (∀ (i : Nat) (d : Tq), (L ++ (sent L M).take j)[i]? = some d → ∀ p ∈ d.gone, ∃ r ∈ wrL ((L ++ (sent L M).take j).take i), r.1 = p) ∧
    (∀ (i : Nat) (d : Tq), (L ++ (sent L M).take j)[i]? = some d → ∀ m ∈ G, cov d.sn m.h m.n = true → m ∈ (L ++ (sent L M).take j).take i) := by
  have un : ∀ d ∈ sent L M, d ∈ M ∧ d.p ∉ L.map Tq.p := fun d hd => by
    obtain ⟨h1, h2⟩ := List.mem_filter.mp hd
    refine ⟨h1, ?_⟩
    unfold Unk at h2
    simpa using h2
  refine ⟨?_, fun d hd => ?_, fun i d hi p hp => ?_, fun i d hi m hm cv => ?_⟩
  · rw [List.map_append, List.nodup_append]
    refine ⟨gL.nd, ?_, fun a ha b hb e => ?_⟩
    · have s : ((sent L M).take j).Sublist M := (List.take_sublist _ _).trans List.filter_sublist
      exact gM.nd.sublist (s.map _)
    · obtain ⟨d, hd, rfl⟩ := List.mem_map.mp hb
      exact (un d (List.mem_of_mem_take hd)).2 (by rw [← e]; exact ha)
  · rcases List.mem_append.mp hd with h | h
    · exact gL.sub d h
    · exact gM.sub d (un d (List.mem_of_mem_take h)).1
  · by_cases il : i < L.length
    · rw [List.getElem?_append_left il] at hi
      rw [List.take_append_of_le_length (by omega)]
      exact gL.cl i d hi p hp
    · obtain ⟨k, hk, ek⟩ := told_pre c gL gM il hi
      obtain ⟨r, hr, e⟩ := gM.cl k d hk p hp
      exact ⟨r, mem_wrL_sub ek hr, e⟩
  · by_cases il : i < L.length
    · rw [List.getElem?_append_left il] at hi
      rw [List.take_append_of_le_length (by omega)]
      exact gL.sc i d hi m hm cv
    · obtain ⟨k, hk, ek⟩ := told_pre c gL gM il hi
      exact ek m (gM.sc k d hk m hm cv)
theorem Lg.all {G L M : List Tq} (c : Con G) (gL : Lg G L) (gM : Lg G M) : Lg G (L ++ sent L M) := by
  obtain ⟨h1, h2, h3, h4⟩ := Lg.told c gL gM (sent L M).length (.inr trivial)
  rw [List.take_length] at h1 h2 h3 h4
  refine ⟨h1, h2, h3, h4, fun m hm k hk e l => ?_⟩
  rw [told_all c gL gM] at hm ⊢
  rcases hm with hm | hm
  · exact .inl (gL.dc m hm k hk e l)
  · exact .inr (gM.dc m hm k hk e l)
noncomputable def txQ (L : List Tq) : List Sg × List Mr := L.foldl (fun e q => hearT q.x e q.a) ([], [])
theorem txQ_snoc (L : List Tq) (q : Tq) : txQ (L ++ [q]) = hearT q.x (txQ L) q.a := by
  unfold txQ
  rw [List.foldl_append]; rfl
structure Qk (L : List Tq) : Prop where
  nd : (L.map Tq.p).Nodup
  ok : ∀ q ∈ L, q.a.ok ∧ q.h.cps.size ≤ 8
  cl : ∀ (i : Nat) (d : Tq), L[i]? = some d → ∀ p ∈ d.gone, ∃ r ∈ wrL (L.take i), r.1 = p
  ll : L.length ≤ 200
theorem Qk.pre {L : List Tq} {d : Tq} (g : Qk (L ++ [d])) : Qk L := ⟨by
    have := g.nd
    rw [List.map_append, List.nodup_append] at this
    exact this.1, fun y h => g.ok y (List.mem_append_left _ h), fun i e hi p hp => by
    have il := (List.getElem?_eq_some_iff.mp hi).1
    obtain ⟨r, hr, e'⟩ := g.cl i e (by rw [List.getElem?_append_left il]; exact hi) p hp
    rw [List.take_append_of_le_length (by omega)] at hr
    exact ⟨r, hr, e'⟩, by have := g.ll; rw [List.length_append] at this; omega⟩
theorem Qk.gone_in {L : List Tq} (g : Qk L) {p : List Sp} (h : p ∈ gnL L) : ∃ r ∈ wrL L, r.1 = p := by
  obtain ⟨d, hd, hp⟩ := List.mem_flatMap.mp h
  obtain ⟨i, hi⟩ := List.mem_iff_getElem?.mp hd
  obtain ⟨r, hr, e⟩ := g.cl i d hi p hp
  exact ⟨r, mem_wrL_sub (fun d h => List.mem_of_mem_take h) hr, e⟩
theorem Qk.new {L : List Tq} {d : Tq} (g : Qk (L ++ [d])) : ∀ e ∈ L, e.p ≠ d.p := fun e he z => by
  have nd := g.nd
  rw [List.map_append, List.nodup_append] at nd
  exact nd.2.2 _ (List.mem_map_of_mem he) _ (by simp) z
theorem one_rows (d : Tq) : wrL [d] = d.rows ∧ gnL [d] = d.gone := ⟨by unfold wrL; simp, by unfold gnL; simp⟩
theorem alive_snoc {L : List Tq} {d : Tq} (g : Qk (L ++ [d])) : alive (L ++ [d]) = outS (alive L) d.gone ++ d.rows := by
  unfold alive
  rw [wrL_app, gnL_app, (one_rows d).1, (one_rows d).2]
  unfold outS
  rw [List.filter_append]
  congr 1
  · rw [List.filter_filter]
    refine List.filter_congr fun r _ => ?_
    by_cases a : r.1 ∈ gnL L <;> by_cases b : r.1 ∈ d.gone <;> simp [List.mem_append, a, b]
  · refine List.filter_eq_self.mpr fun r hr => ?_
    rw [Bool.not_eq_true', decide_eq_false_iff_not]
    intro z
    have er := d.rows_p r hr
    have far : ∀ s ∈ wrL L, s.1 ≠ r.1 := fun s hs e => by
      obtain ⟨d', hd', _, en⟩ := wrL_p hs
      rw [e, er] at en
      exact g.new d' hd' (Option.some.inj en).symm
    rcases List.mem_append.mp z with z | z
    · obtain ⟨s, hs, e⟩ := g.pre.gone_in z
      exact far s hs e
    · obtain ⟨s, hs, e⟩ := g.cl L.length d (by rw [List.getElem?_append_right (Nat.le_refl _), Nat.sub_self]; rfl) r.1 z
      rw [List.take_left] at hs
      exact far s hs e
theorem Tq.fresh {L : List Tq} {d : Tq} (g : Qk (L ++ [d])) {l : List Sg} (pm : l.Perm (alive L)) : Fresh d.x.p l := fun r hr z => by
  have hr : r ∈ wrL L := (List.mem_filter.mp (pm.mem_iff.mp hr)).1
  obtain ⟨d', hd', _, en⟩ := wrL_p hr
  rw [en] at z
  exact g.new d' hd' (Option.some.inj z)
theorem w_perm {x : Dd} {t : Nm} {u : List Sp} {a : Int} {y : Str} (hx : x.act = (TA.w u a y).d t) (ok : (TA.w u a y).ok) (xh : x.h.cps.size ≤ 8) {b : Nat} (hb : b ≤ 300) {l : List Sg} {ms : List Mr} (T : TxOk b l ms) (fr : Fresh x.p l) :
    (hearT x (l, ms) (.w u a y)).1.Perm (l ++ rowsW x.h x.n u a y) := by
  obtain ⟨u1, u2, a1, x1, x2⟩ := ok
  obtain ⟨w, hw⟩ : ∃ w : Wr, w = ⟨nmD t, x.h, x.n, .tuple (x.sn.map prD), u, a, y⟩ := ⟨_, rfl⟩
  have wo : WrOk w := by rw [hw]; exact ⟨xh, a1, u1, u2, x1, by show y.cps.size ≤ 50; omega⟩
  have wr : w.rows = rowsW x.h x.n u a y := by rw [hw]; rfl
  have wp : (w.h, w.n) = x.p := by rw [hw]; rfl
  have nd : ((l ++ w.rows).map (·.1)).Nodup := by
    rw [List.map_append, List.nodup_append, w.rows_fst]
    refine ⟨asc_nd T.asc, w.ps_nd, fun p hp q hq e => ?_⟩
    obtain ⟨r, hr, rfl⟩ := List.mem_map.mp hp
    have := w.ps_lastP q hq
    rw [← e, wp] at this
    exact fr r hr this
  have gl := T.ll
  obtain ⟨l', a1', a2', a3', _⟩ := write_ev 0 l T.ok T.asc w wo nd (by omega) [sg (l.map rowS)] rfl
  have le : (hearT x (l, ms) (.w u a y)).1 = l' := by
    show srtP (l ++ rowsW x.h x.n u a y) = l'
    rw [← wr]
    exact srtP_eq a1' a2' a3'
  rw [le, ← wr]
  exact a3'
structure Tx (L : List Tq) : Prop where
  ok : TxOk L.length (txQ L).1 (txQ L).2
  pm : (txQ L).1.Perm (alive L)
theorem Tx.nil : Tx [] := ⟨⟨List.Pairwise.nil, (fun r h => by cases h), Nat.le_refl _, (fun m h => by cases h), Nat.le_refl _⟩, .nil⟩
theorem outS_nil (l : List Sg) : outS l [] = l := List.filter_eq_self.mpr fun r _ => by simp
theorem Tx.snoc {L : List Tq} {d : Tq} (T : Tx L) (g : Qk (L ++ [d])) : Tx (L ++ [d]) ∧ THear d.x (txQ L).1 (txQ L).2 (txQ (L ++ [d])).1 (txQ (L ++ [d])).2 := by
  have ll := g.ll
  rw [List.length_append, List.length_singleton] at ll
  have fr := Tq.fresh g T.pm
  have dk := g.ok d (List.mem_append_right _ (List.mem_singleton.mpr rfl))
  have hx : d.x.act = d.a.d tN := rfl
  obtain ⟨h1, h2, h3⟩ := text_hear hx dk.1 dk.2 (show L.length ≤ 300 by omega) T.ok fr
  have e : txQ (L ++ [d]) = hearT d.x ((txQ L).1, (txQ L).2) d.a := txQ_snoc L d
  rw [← e] at h1 h3
  refine ⟨⟨by rw [List.length_append]; exact h1, ?_⟩, h3⟩
  rw [alive_snoc g, e]
  unfold Tq.gone Tq.rows
  cases ea : d.a with
  | w u a y =>
    have := w_perm (show d.x.act = (TA.w u a y).d tN by rw [hx, ea]) (by rw [← ea]; exact dk.1) dk.2 (show L.length ≤ 300 by omega) T.ok fr
    dsimp only
    rw [outS_nil]
    exact this.trans (List.Perm.append_right _ T.pm)
  | c ps =>
    dsimp only
    rw [List.append_nil]
    exact T.pm.filter _
  | m p q y => dsimp only; rw [outS_nil, List.append_nil]; exact T.pm
  | k p q y => dsimp only; rw [outS_nil, List.append_nil]; exact T.pm
theorem tx_of_n : ∀ (n : Nat) (L : List Tq), L.length = n → Qk L → Tx L
  | 0, L, e, _ => by rw [List.length_eq_zero_iff.mp e]; exact Tx.nil
  | n + 1, L, e, g => by
    rcases List.eq_nil_or_concat L with z | ⟨A, d, z⟩
    · rw [z] at e; cases e
    · rw [List.concat_eq_append] at z
      rw [z] at e g ⊢
      rw [List.length_append, List.length_singleton] at e
      exact ((tx_of_n n A (by omega) g.pre).snoc g).1
theorem tx_of {L : List Tq} (g : Qk L) : Tx L := tx_of_n _ L rfl g
theorem tx_one {L M : List Tq} (gL : Qk L) (gM : Qk M) (h : ∀ d, d ∈ L ↔ d ∈ M) : (txQ L).1 = (txQ M).1 := by
  have R := tx_of gL
  have S := tx_of gM
  refine asc_one R.ok.asc S.ok.asc R.ok.ok (R.pm.trans (List.Perm.trans ?_ S.pm.symm))
  have nL : (alive L).Nodup := List.Nodup.sublist List.filter_sublist (nd_of_map (wrL_nd gL.nd))
  have nM : (alive M).Nodup := List.Nodup.sublist List.filter_sublist (nd_of_map (wrL_nd gM.nd))
  refine (List.perm_ext_iff_of_nodup nL nM).mpr fun r => ?_
  have mw : r ∈ wrL L ↔ r ∈ wrL M := ⟨mem_wrL_sub fun d => (h d).mp, mem_wrL_sub fun d => (h d).mpr⟩
  have mg : r.1 ∈ gnL L ↔ r.1 ∈ gnL M := by
    constructor
    · intro z; obtain ⟨d, hd, hp⟩ := List.mem_flatMap.mp z; exact List.mem_flatMap.mpr ⟨d, (h d).mp hd, hp⟩
    · intro z; obtain ⟨d, hd, hp⟩ := List.mem_flatMap.mp z; exact List.mem_flatMap.mpr ⟨d, (h d).mpr hd, hp⟩
  unfold alive outS
  rw [List.mem_filter, List.mem_filter, mw, decide_eq_decide.mpr mg]
def hl1 (w h : Str) (n : Int) (y : Tq) : List (List Sp × List Sp) := match y.a with
  | .k p q v => if w = v ∧ cov y.sn h n = true then [(p, q)] else []
  | _ => []
def hlL (w h : Str) (n : Int) (F : List Tq) : List (List Sp × List Sp) := F.flatMap (hl1 w h n)
def mk1 (G : List Tq) (x : Tq) : Option Mr := match x.a with
  | .m p q w => some ⟨x.h, x.n, p, q, w, hlL w x.h x.n G⟩
  | _ => none
def mrkL : List Tq → List Mr
  | [] => []
  | x :: r => match mk1 r x with
    | some m => m :: mrkL r
    | none => mrkL r
def moreM (F : List Tq) (m : Mr) : Mr := { m with hs := m.hs ++ hlL m.w m.h m.n F }
theorem hlL_cons (w h : Str) (n : Int) (x : Tq) (r : List Tq) : hlL w h n (x :: r) = hl1 w h n x ++ hlL w h n r := rfl
theorem hlL_app (w h : Str) (n : Int) (A B : List Tq) : hlL w h n (A ++ B) = hlL w h n A ++ hlL w h n B := List.flatMap_append
theorem txF_ms : ∀ (F : List Tq) (e : List Sg × List Mr), (F.foldl (fun e q => hearT q.x e q.a) e).2 = e.2.map (moreM F) ++ mrkL F
  | [], e => by
    have : moreM [] = id := funext fun m => by
      unfold moreM hlL
      simp
    rw [this, List.map_id]
    show e.2 = e.2 ++ []
    rw [List.append_nil]
  | x :: r, e => by
    show (r.foldl (fun e q => hearT q.x e q.a) (hearT x.x e x.a)).2 = _
    rw [txF_ms r]
    have same : (∀ w h n, hl1 w h n x = []) → moreM (x :: r) = moreM r := fun h => funext fun m => by
      unfold moreM
      rw [hlL_cons, h, List.nil_append]
    cases t : x.a with
    | w u s y =>
      have m0 : mrkL (x :: r) = mrkL r := by rw [mrkL, mk1, t]
      rw [same (fun w h n => by unfold hl1; rw [t]), m0]; rfl
    | c ps =>
      have m0 : mrkL (x :: r) = mrkL r := by rw [mrkL, mk1, t]
      rw [same (fun w h n => by unfold hl1; rw [t]), m0]; rfl
    | m p q w =>
      rw [same (fun w h n => by unfold hl1; rw [t])]
      have : mrkL (x :: r) = ⟨x.h, x.n, p, q, w, hlL w x.h x.n r⟩ :: mrkL r := by rw [mrkL, mk1, t]
      rw [this]
      show (e.2 ++ [mk0 x.h x.n p q w]).map (moreM r) ++ mrkL r = _
      rw [List.map_append, List.append_assoc]; rfl
    | k p q w =>
      have m0 : mrkL (x :: r) = mrkL r := by rw [mrkL, mk1, t]
      rw [m0]
      show (e.2.map (clr x.sn w p q)).map (moreM r) ++ mrkL r = _
      rw [List.map_map]
      congr 1
      refine List.map_congr_left fun m _ => ?_
      show moreM r (clr x.sn w p q m) = moreM (x :: r) m
      unfold moreM clr
      rw [hlL_cons]
      have h1 : hl1 m.w m.h m.n x = if m.w = w ∧ cov x.sn m.h m.n = true then [(p, q)] else [] := by
        unfold hl1
        rw [t]
      rw [h1]
      split
      · unfold prc
        simp
      · simp
theorem txQ_ms (L : List Tq) : (txQ L).2 = mrkL L := txF_ms L ([], [])
theorem mrkL_all {G L : List Tq} (g : Lg G L) : ∀ (A S : List Tq), L = A ++ S → mrkL S = S.filterMap (mk1 L)
  | _, [], _ => rfl
  | A, x :: S, e => by
    have ih := mrkL_all g (A ++ [x]) S (by rw [List.append_assoc]; exact e)
    have hx : L[A.length]? = some x := by rw [e, List.getElem?_append_right (Nat.le_refl _), Nat.sub_self]; rfl
    have hl : ∀ w, hlL w x.h x.n S = hlL w x.h x.n L := fun w => by
      have e2 : L = (A ++ [x]) ++ S := by rw [List.append_assoc]; exact e
      have z : hlL w x.h x.n (A ++ [x]) = [] := by
        unfold hlL
        rw [List.flatMap_eq_nil_iff]
        intro c hc
        unfold hl1
        cases ea : c.a with
        | k p q v =>
          dsimp only
          rw [if_neg]
          rintro ⟨_, cv⟩
          obtain ⟨j, hj⟩ := List.mem_iff_getElem?.mp hc
          have jl := (List.getElem?_eq_some_iff.mp hj).1
          rw [List.length_append, List.length_singleton] at jl
          have hj' : L[j]? = some c := by rw [e2, List.getElem?_append_left (by rw [List.length_append, List.length_singleton]; omega)]; exact hj
          have := g.sc j c hj' x (g.sub x (List.mem_of_getElem? hx)) cv
          obtain ⟨i, hi⟩ := List.mem_iff_getElem?.mp this
          rw [List.getElem?_take] at hi
          split at hi
          · rename_i ij
            have h1 : (L.map Tq.p)[i]? = some x.p := by rw [List.getElem?_map, hi]; rfl
            have h2 : (L.map Tq.p)[A.length]? = some x.p := by rw [List.getElem?_map, hx]; rfl
            have := (List.getElem?_inj (List.getElem?_eq_some_iff.mp h1).1 g.nd).mp (h1.trans h2.symm)
            omega
          · cases hi
        | _ => rfl
      rw [e2, hlL_app, z, List.nil_append]
    have mm : mk1 S x = mk1 L x := by
      unfold mk1
      cases ea : x.a with
      | m p q w => dsimp only; rw [hl w]
      | _ => rfl
    rw [mrkL, List.filterMap_cons, mm, ih]
    cases mk1 L x <;> rfl
theorem Lg.marks {G L : List Tq} (g : Lg G L) : (txQ L).2 = L.filterMap (mk1 L) := by
  rw [txQ_ms]; exact mrkL_all g [] L rfl
theorem hl_mem {w h : Str} {n : Int} {L : List Tq} {e : List Sp × List Sp} : e ∈ hlL w h n L ↔ ∃ c ∈ L, c.a = .k e.1 e.2 w ∧ cov c.sn h n = true := by
  unfold hlL
  rw [List.mem_flatMap]
  constructor
  · rintro ⟨c, hc, he⟩
    refine ⟨c, hc, ?_⟩
    unfold hl1 at he
    cases ea : c.a with
    | k p q v =>
      rw [ea] at he
      dsimp only at he
      split at he
      · rename_i z
        rw [List.mem_singleton.mp he]
        exact ⟨by rw [z.1], z.2⟩
      · cases he
    | _ => rw [ea] at he; cases he
  · rintro ⟨c, hc, ea, cv⟩
    refine ⟨c, hc, ?_⟩
    unfold hl1
    rw [ea]
    dsimp only
    rw [if_pos ⟨rfl, cv⟩]
    exact List.mem_singleton.mpr rfl
theorem wds_mem {G L : List Tq} (g : Lg G L) (p : List Sp) (v : Str) : v ∈ wds (txQ L).2 p ↔ ∃ x ∈ L, ∃ f l, x.a = .m f l v ∧ inP p f l = true ∧ ∀ c ∈ L, ∀ q r, c.a = .k q r v → cov c.sn x.h x.n = true → inP p q r = false := by
  rw [g.marks]
  unfold wds
  rw [List.mem_map]
  constructor
  · rintro ⟨m, hm, rfl⟩
    obtain ⟨h1, h2⟩ := List.mem_filter.mp hm
    obtain ⟨x, hx, ex⟩ := List.mem_filterMap.mp h1
    unfold mk1 at ex
    cases ea : x.a with
    | m f l w =>
      rw [ea] at ex
      have ex := Option.some.inj ex
      subst ex
      unfold bears at h2
      rw [Bool.and_eq_true, List.all_eq_true] at h2
      refine ⟨x, hx, f, l, ea, h2.1, fun c hc q r ec cv => ?_⟩
      have := h2.2 (q, r) (hl_mem.mpr ⟨c, hc, ec, cv⟩)
      rw [Bool.not_eq_true'] at this
      exact this
    | _ => rw [ea] at ex; cases ex
  · rintro ⟨x, hx, f, l, ea, ip, hc⟩
    refine ⟨⟨x.h, x.n, f, l, v, hlL v x.h x.n L⟩, List.mem_filter.mpr ⟨List.mem_filterMap.mpr ⟨x, hx, by unfold mk1; rw [ea]⟩, ?_⟩, rfl⟩
    unfold bears
    rw [Bool.and_eq_true, List.all_eq_true]
    refine ⟨ip, fun e he => ?_⟩
    obtain ⟨c, h1, h2, h3⟩ := hl_mem.mp he
    rw [Bool.not_eq_true']
    exact hc c h1 e.1 e.2 h2 h3
theorem srtT_same {a b : List Str} (h : ∀ v, v ∈ a ↔ v ∈ b) : srtT a = srtT b := by
  rw [← srtT_of (W := dedT b) dedT_nd fun w => by rw [dedT_mem]; exact h w]
  rfl
theorem told_one {G L M : List Tq} (gL : Lg G L) (gM : Lg G M) (qL : Qk L) (qM : Qk M) (h : ∀ d, d ∈ L ↔ d ∈ M) : txTold (txQ L).1 (txQ L).2 = txTold (txQ M).1 (txQ M).2 := by
  rw [tx_one qL qM h]
  unfold txTold
  refine List.map_congr_left fun r _ => ?_
  have : srtT (wds (txQ L).2 r.1) = srtT (wds (txQ M).2 r.1) := srtT_same fun v => by
    rw [wds_mem gL, wds_mem gM]
    constructor
    · rintro ⟨x, hx, f, l, ea, ip, hc⟩
      exact ⟨x, (h x).mp hx, f, l, ea, ip, fun c hc' => hc c ((h c).mpr hc')⟩
    · rintro ⟨x, hx, f, l, ea, ip, hc⟩
      exact ⟨x, (h x).mpr hx, f, l, ea, ip, fun c hc' => hc c ((h c).mp hc')⟩
  rw [this]
theorem dlt_anti {x y : D} (px : pln x = true) (py : pln y = true) (al : W.alike x y = true) (h1 : W.dataLt x y = false) (h2 : W.dataLt y x = false) : x = y := by
  have e : W.keyToks x = W.keyToks y := PyProof.Rows.lex_total (O := PyProof.Rows.itemOrd) _ _ h1 h2
  cases q : PyData.eqv x y with
  | true => exact (eqv_pln x y px py).mp q
  | false =>
    exfalso
    have t := (W.toks_eqv x y al).2 q [] [.inl 0]
    rw [e, W.lex_pre] at t
    have z : PyProof.Rows.lexLt PyProof.Rows.itemOrd ([] : List (Int ⊕ List Nat)) [.inl 0] = true := rfl
    have i : PyProof.Rows.lexLt PyProof.Rows.itemOrd (W.keyToks y) (W.keyToks y) = false := PyProof.Rows.lex_irrefl _
    rw [z, i] at t
    cases t
theorem sortD_perm {xs ys : List D} (p : xs.Perm ys) (pl : ∀ x ∈ xs, pln x = true) (al : ∀ x ∈ xs, ∀ y ∈ xs, W.alike x y = true) : sortD xs = sortD ys := by
  have tot : W.TotalLe leD := W.sortLe_total (PyProof.Rows.listOrd PyProof.Rows.itemOrd) false (fun x : D => W.keyToks x)
  have pw : ∀ l : List D, (sortD l).Pairwise fun a b => leD a b = true := fun l => List.pairwise_mergeSort tot.trans (fun a b => by rw [Bool.or_eq_true]; exact tot.total a b) l
  refine List.Perm.eq_of_pairwise (le := fun a b : D => leD a b = true) (fun a b ha hb h1 h2 => ?_) (pw xs) (pw ys) (((List.mergeSort_perm xs _).trans p).trans (List.mergeSort_perm ys _).symm)
  have ha : a ∈ xs := (List.mergeSort_perm xs _).mem_iff.mp ha
  have hb : b ∈ xs := p.mem_iff.mpr ((List.mergeSort_perm ys _).mem_iff.mp hb)
  unfold leD at h1 h2
  rw [Bool.not_eq_true'] at h1 h2
  exact dlt_anti (pl a ha) (pl b hb) (al a ha b hb) h2 h1
theorem alike_sd (s t : Sp) : W.alike (sd s) (sd t) = true := by simp [sd, W.alike, W.alikeAll]
theorem alikeAll_of {xs ys : List D} (h : ∀ x ∈ xs, ∀ y ∈ ys, W.alike x y = true) : W.alikeAll xs ys = true := by
  induction xs generalizing ys with
  | nil => cases ys <;> simp [W.alikeAll]
  | cons x xs ih =>
    cases ys with
    | nil => simp [W.alikeAll]
    | cons y ys =>
      rw [W.alikeAll, h x List.mem_cons_self y List.mem_cons_self, ih fun a ha b hb => h a (List.mem_cons_of_mem _ ha) b (List.mem_cons_of_mem _ hb)]; rfl
theorem alike_pd (p q : List Sp) : W.alike (pd p) (pd q) = true := by
  show W.alike (.tuple (p.map sd)) (.tuple (q.map sd)) = true
  rw [W.alike]
  refine alikeAll_of fun x hx y hy => ?_
  obtain ⟨s, _, rfl⟩ := List.mem_map.mp hx
  obtain ⟨t, _, rfl⟩ := List.mem_map.mp hy
  exact alike_sd s t
theorem hoD_fl (e : List Sp × List Sp) : Fl 3 (hoD e) := .t fun x hx => by
  rcases List.mem_cons.mp hx with rfl | hx
  · exact pd_fl _
  · rw [List.mem_singleton.mp hx]; exact pd_fl _
theorem alike_ho (a b : List Sp × List Sp) : W.alike (hoD a) (hoD b) = true := by
  unfold hoD
  have h1 := alike_pd a.1 b.1
  have h2 := alike_pd a.2 b.2
  simp [W.alike, W.alikeAll, h1, h2]
def lrow (m : Mr) : D := .tuple [mnD m, pd m.f, pd m.l, .str m.w, .list (sortD (m.hs.map hoD))]
theorem holes_perm {a b : List (List Sp × List Sp)} (p : a.Perm b) : sortD (a.map hoD) = sortD (b.map hoD) :=
  sortD_perm (p.map _) (fun x hx => by obtain ⟨e, _, rfl⟩ := List.mem_map.mp hx; exact (hoD_fl e).p) (fun x hx y hy => by
    obtain ⟨e, _, rfl⟩ := List.mem_map.mp hx
    obtain ⟨f, _, rfl⟩ := List.mem_map.mp hy
    exact alike_ho e f)
theorem sortD_mem {l : List D} {x : D} : x ∈ sortD l ↔ x ∈ l := (List.mergeSort_perm l _).mem_iff
theorem mn_fl (m : Mr) : Fl 1 (mnD m) := .t fun x hx => by
  rcases List.mem_cons.mp hx with rfl | hx
  · exact .s _
  · rw [List.mem_singleton.mp hx]; exact .i _
theorem lrow_fl (m : Mr) : Fl 5 (lrow m) := .t fun x hx => by
  rcases List.mem_cons.mp hx with rfl | hx
  · exact (mn_fl m).up (by decide)
  rcases List.mem_cons.mp hx with rfl | hx
  · exact (pd_fl _).up (by decide)
  rcases List.mem_cons.mp hx with rfl | hx
  · exact (pd_fl _).up (by decide)
  rcases List.mem_cons.mp hx with rfl | hx
  · exact .s _
  rw [List.mem_singleton.mp hx]
  refine Fl.l (k := 3) fun y hy => ?_
  obtain ⟨e, _, rfl⟩ := List.mem_map.mp (sortD_mem.mp hy)
  exact hoD_fl e
theorem alike_lrow (m n : Mr) : W.alike (lrow m) (lrow n) = true := by
  unfold lrow
  have h1 := alike_pd m.f n.f
  have h2 := alike_pd m.l n.l
  have h3 : W.alikeAll (sortD (m.hs.map hoD)) (sortD (n.hs.map hoD)) = true := alikeAll_of fun x hx y hy => by
    obtain ⟨e, _, rfl⟩ := List.mem_map.mp (sortD_mem.mp hx)
    obtain ⟨f, _, rfl⟩ := List.mem_map.mp (sortD_mem.mp hy)
    exact alike_ho e f
  have h4 : W.alike (mnD m) (mnD n) = true := by simp [mnD, W.alike, W.alikeAll]
  simp [W.alike, W.alikeAll, h1, h2, h3, h4]
theorem perm_of {L M : List Tq} (nL : (L.map Tq.p).Nodup) (nM : (M.map Tq.p).Nodup) (h : ∀ d, d ∈ L ↔ d ∈ M) : L.Perm M := (List.perm_ext_iff_of_nodup (nd_of_map nL) (nd_of_map nM)).mpr h
theorem marks_one {G L M : List Tq} (gL : Lg G L) (gM : Lg G M) (h : ∀ d, d ∈ L ↔ d ∈ M) : sortD ((txQ L).2.map lrow) = sortD ((txQ M).2.map lrow) := by
  have p := perm_of gL.nd gM.nd h
  rw [gL.marks, gM.marks]
  have fm : ∀ N : List Tq, ((N.filterMap (mk1 N)).map lrow) = N.filterMap fun x => (mk1 N x).map lrow := fun N => List.map_filterMap
  rw [fm, fm]
  have same : (fun x => (mk1 L x).map lrow) = fun x => (mk1 M x).map lrow := funext fun x => by
    unfold mk1
    cases ea : x.a with
    | m q r w =>
      dsimp only
      have hp : (hlL w x.h x.n L).Perm (hlL w x.h x.n M) := p.flatMap_right _
      have : lrow ⟨x.h, x.n, q, r, w, hlL w x.h x.n L⟩ = lrow ⟨x.h, x.n, q, r, w, hlL w x.h x.n M⟩ := by
        unfold lrow
        dsimp only
        rw [holes_perm hp]; rfl
      rw [Option.map_some, Option.map_some, this]
    | _ => rfl
  rw [same]
  have al : ∀ x ∈ L.filterMap fun x => (mk1 M x).map lrow, ∃ m, x = lrow m := fun x hx => by
    obtain ⟨y, _, e⟩ := List.mem_filterMap.mp hx
    obtain ⟨m, _, rfl⟩ := Option.map_eq_some_iff.mp e
    exact ⟨m, rfl⟩
  refine sortD_perm (p.filterMap _) (fun x hx => ?_) fun x hx y hy => ?_
  · obtain ⟨m, rfl⟩ := al x hx; exact (lrow_fl m).p
  · obtain ⟨m, rfl⟩ := al x hx
    obtain ⟨n, rfl⟩ := al y hy
    exact alike_lrow m n
theorem sortB_ho (l : List (List Sp × List Sp)) (hl : l.length ≤ 16777216) : sortB (l.map hoD) = true :=
  sortB_of hoD l (fun e _ => (hoD_fl e).p) (fun e _ => Nat.le_trans (hoD_fl e).k (by decide)) (.inl fun _ _ => rfl) (fun a _ b _ => alike_ho a b) hl
theorem sortB_lrow (l : List Mr) (hl : l.length ≤ 16777216) : sortB (l.map lrow) = true :=
  sortB_of lrow l (fun e _ => (lrow_fl e).p) (fun e _ => Nat.le_trans (lrow_fl e).k (by decide)) (.inl fun _ _ => rfl) (fun a _ b _ => alike_lrow a b) hl
theorem lmarks_ev {st : Store} {i : Nat} {is : List Nat} {l : List Sg} {ms : List Mr} (e : TxAt st i is l ms) (ll : l.length ≤ 4000) (ml : ms.length ≤ 4000) (few : ∀ m ∈ ms, m.hs.length ≤ 4000) :
    d__law_marks [.d (obD i)] st = some (.fr (.d (.list (sortD (ms.map lrow)))), st) := by
  have ce := content_ev e ll ml few
  have ht := e.top
  have nc : noFd "content" (txO (i + 1) (i + 2)) = some () := noFd_ok rfl
  have cc : (txO (i + 1) (i + 2)).cls = "Text" := rfl
  have so : gSorted [.d (.list (ms.map lrow))] = some (.fr (.d (.list (sortD (ms.map lrow))))) := gSorted_l (sortB_lrow ms (by omega))
  have cm := fun s0 s1 => comp_map (vs := [2, 3, 4, 5, 6]) (p := .t [2, 3, 4, 5, 6]) (t := tYesD) (a := ce1__law_marks) rowM lrow ⟨[s0, s1, .no, .no, .no, .no, .no], st⟩ ms fun m hm => by
    have sh : gSorted [.d (.list (m.hs.map hoD))] = some (.fr (.d (.list (sortD (m.hs.map hoD))))) := gSorted_l (sortB_ho m.hs (by have := few m hm; omega))
    have er : rowM m = .tuple [mnD m, pd m.f, pd m.l, .str m.w, .list (m.hs.map hoD)] := rfl
    have el : lrow m = .tuple [mnD m, pd m.f, pd m.l, .str m.w, .list (sortD (m.hs.map hoD))] := rfl
    obtain ⟨a, ea⟩ : ∃ xs, pd m.f = .tuple xs := ⟨_, rfl⟩
    obtain ⟨b, eb⟩ : ∃ xs, pd m.l = .tuple xs := ⟨_, rfl⟩
    obtain ⟨c, ec⟩ : ∃ xs, mnD m = .tuple xs := ⟨_, rfl⟩
    have h1 : (m.hs.map hoD).length ≤ 4000 := by rw [List.length_map]; exact few m hm
    rw [er, el, ea, eb, ec]
    clear ce so e er el few
    generalize sortD (m.hs.map hoD) = SH at *
    generalize m.hs.map hoD = HS at *
    simp -implicitDefEqProofs (maxSteps := 2000000) (disch := first | omega | assumption | (simp; done) | (simp; omega)) [compStep, ce1__law_marks, sh]
  have c1 : gIx (.d (contT (l, ms))) (.d (.int 1)) = some (.sh (.list (ms.map rowM))) := rfl
  have rl : (ms.map rowM).length ≤ 4000 := by rw [List.length_map]; exact ml
  have rl2 : (ms.map lrow).length ≤ 4000 := by rw [List.length_map]; exact ml
  unfold txO at ht nc cc
  clear e few
  generalize contT (l, ms) = ct at *
  generalize sortD (ms.map lrow) = SR at *
  generalize ms.map lrow = LR at *
  generalize ms.map rowM = RM at *
  simp -implicitDefEqProofs (maxSteps := 2000000) (disch := first | omega | assumption | (simp; done) | (simp; omega)) [d__law_marks, b__law_marks, ht, nc, cc, ce, c1, cm, so]
def Tq.nmD (d : Tq) : D := .tuple [.str d.h, .int d.n]
theorem Tq.tup (d : Tq) : ∃ a b, d.d = .tuple [d.nmD, a, b] := ⟨_, _, rfl⟩
theorem Tq.g0 (d : Tq) : gIx (.d d.d) (.d (.int 0)) = some (.sh d.nmD) := rfl
theorem Tq.g00 (d : Tq) : gIx (.d d.nmD) (.d (.int 0)) = some (.sh (.str d.h)) := rfl
theorem Tq.g1 (d : Tq) : gIx (.d d.d) (.d (.int 1)) = some (.sh (.tuple (d.sn.map prD))) := rfl
theorem Tq.g2 (d : Tq) : gIx (.d d.d) (.d (.int 2)) = some (.sh (d.a.d tN)) := rfl
theorem Tq.fl (d : Tq) : Fl 6 d.d := by
  have f0 : Fl 5 (.tuple [.str d.h, .int d.n]) := (Fl.t (k := 0) fun x hx => by
    rcases List.mem_cons.mp hx with rfl | hx
    · exact .s _
    · rw [List.mem_singleton.mp hx]; exact .i _).up (by decide)
  have ft : Fl 4 (.tuple [.str "t", .int 1]) := (Fl.t (k := 0) fun x hx => by
    rcases List.mem_cons.mp hx with rfl | hx
    · exact .s _
    · rw [List.mem_singleton.mp hx]; exact .i _).up (by decide)
  have f1 : Fl 5 (.tuple (d.sn.map prD)) := (Fl.t (k := 1) fun x hx => by
    obtain ⟨p, _, rfl⟩ := List.mem_map.mp hx
    exact .t fun y hy => by
      rcases List.mem_cons.mp hy with rfl | hy
      · exact .s _
      · rw [List.mem_singleton.mp hy]; exact .i _).up (by decide)
  have pf : ∀ p : List Sp, Fl 4 (pd p) := fun p => (pd_fl p).up (by decide)
  have f2 : Fl 5 (d.a.d tN) := by
    cases d.a with
    | w u a y =>
      exact .t fun x hx => by
        rcases List.mem_cons.mp hx with rfl | hx
        · exact .s _
        rcases List.mem_cons.mp hx with rfl | hx
        · exact ft
        rcases List.mem_cons.mp hx with rfl | hx
        · exact pf u
        rcases List.mem_cons.mp hx with rfl | hx
        · exact .i _
        rw [List.mem_singleton.mp hx]; exact .s _
    | c ps =>
      exact .t fun x hx => by
        rcases List.mem_cons.mp hx with rfl | hx
        · exact .s _
        rcases List.mem_cons.mp hx with rfl | hx
        · exact ft
        rw [List.mem_singleton.mp hx]
        refine (Fl.t (k := 2) fun y hy => ?_).up (by decide)
        obtain ⟨p, _, rfl⟩ := List.mem_map.mp hy
        exact pd_fl p
    | m p q y =>
      exact .t fun x hx => by
        rcases List.mem_cons.mp hx with rfl | hx
        · exact .s _
        rcases List.mem_cons.mp hx with rfl | hx
        · exact ft
        rcases List.mem_cons.mp hx with rfl | hx
        · exact pf p
        rcases List.mem_cons.mp hx with rfl | hx
        · exact pf q
        rw [List.mem_singleton.mp hx]; exact .s _
    | k p q y =>
      exact .t fun x hx => by
        rcases List.mem_cons.mp hx with rfl | hx
        · exact .s _
        rcases List.mem_cons.mp hx with rfl | hx
        · exact ft
        rcases List.mem_cons.mp hx with rfl | hx
        · exact pf p
        rcases List.mem_cons.mp hx with rfl | hx
        · exact pf q
        rw [List.mem_singleton.mp hx]; exact .s _
  exact .t fun x hx => by
    rcases List.mem_cons.mp hx with rfl | hx
    · exact f0
    rcases List.mem_cons.mp hx with rfl | hx
    · exact f1
    rw [List.mem_singleton.mp hx]; exact f2
theorem tq_inj {d e : Tq} (h : d.d = e.d) : d.p = e.p := by
  have h := PyData.tuple.inj h
  have h0 := (List.cons.inj h).1
  have h1 := PyData.tuple.inj h0
  have a := PyData.str.inj (List.cons.inj h1).1
  have b := PyData.int.inj (List.cons.inj (List.cons.inj h1).2).1
  unfold Tq.p
  exact Prod.ext a b
theorem in_log {G : List Tq} (c : Con G) {L : List Tq} (sL : ∀ d ∈ L, d ∈ G) {d : Tq} (hd : d ∈ G) : shallowAll d.d (L.map Tq.d) = true ∧ inDs d.d (L.map Tq.d) = !Unk L d := by
  constructor
  · unfold shallowAll
    rw [Bool.and_eq_true, List.all_eq_true]
    refine ⟨pln_nod _ (d.fl).p, fun y hy => ?_⟩
    obtain ⟨z, hz, rfl⟩ := List.mem_map.mp hy
    exact shallow_fl (z.fl) (d.fl) (.inl (by decide))
  · unfold inDs Unk
    rw [Bool.not_not, Bool.eq_iff_iff, List.any_eq_true, decide_eq_true_iff]
    constructor
    · rintro ⟨y, hy, e⟩
      obtain ⟨z, hz, rfl⟩ := List.mem_map.mp hy
      rw [eqv_pln _ _ (z.fl).p (d.fl).p] at e
      rw [← tq_inj e]
      exact List.mem_map_of_mem hz
    · intro h
      obtain ⟨z, hz, e⟩ := List.mem_map.mp h
      have : z = d := con_eq c (sL z hz) hd e
      subst this
      exact ⟨z.d, List.mem_map_of_mem hz, (eqv_pln _ _ (z.fl).p (z.fl).p).mpr rfl⟩
def ownL (h : Str) (L : List Tq) : List Tq := L.filter fun d => decide (d.h = h)
theorem geq_ss (a b : Str) : gEq (.d (.str a)) (.d (.str b)) = some (.sh (.bool (decide (a = b)))) := by
  show (if shallow (.str a) (.str b) = true then shB (PyData.eqv (.str a) (.str b)) else none) = _
  rw [if_pos (shallow_fl (Fl.s (k := 0) a) (Fl.s (k := 0) b) (.inl (by decide)))]
  have : PyData.eqv (.str a) (.str b) = decide (a = b) := by
    rw [Bool.eq_iff_iff, eqv_pln _ _ rfl rfl, decide_eq_true_iff]
    exact ⟨fun h => PyData.str.inj h, fun h => by rw [h]⟩
  rw [this]; rfl
section
variable (L : List Tq) (hs : List CM.D) (i : Int) (b : Nat) (s3 s4 s7 : CM.Slot) (st : Store)
theorem nm1_ev (h : Str) : runComp [6] (.v 6) ct1__law_name ce1__law_name (L.map Tq.d) ⟨[.bo (.d (.list hs)), .sh (.int i), .sh (bxD b), s3, s4, .sh (.str h), .no, s7], st⟩ = some ((ownL h L).map Tq.d, ⟨[.bo (.d (.list hs)), .sh (.int i), .sh (bxD b), s3, s4, .sh (.str h), .no, s7], st⟩) :=
  comp_flt (vs := [6]) (p := .v 6) (t := ct1__law_name) (a := ce1__law_name) Tq.d (fun d => decide (d.h = h)) Tq.d _ L fun d _ => by
    have g0 := d.g0
    have g1 := d.g00
    have ge := geq_ss d.h h
    obtain ⟨a, c, e⟩ := d.tup
    have nn : ∃ u v, d.nmD = .tuple [u, v] := ⟨_, _, rfl⟩
    obtain ⟨u, v, en⟩ := nn
    rw [e] at g0 ⊢
    rw [en] at g0 g1 ⊢
    cases q : decide (d.h = h) <;> rw [q] at ge <;> simp -implicitDefEqProofs (maxSteps := 2000000) (disch := first | omega | assumption | (simp; done) | (simp; omega)) [compStep, ct1__law_name, ce1__law_name, g0, g1, ge]
theorem nm2_ev (h : Str) (at' : atD hs i = some (.str h)) (s5 : CM.Slot) : runComp [6] (.v 6) ct2__law_name ce3__law_name (L.map Tq.d) ⟨[.bo (.d (.list hs)), .sh (.int i), .sh (bxD b), s3, s4, s5, .no, s7], st⟩ = some ((ownL h L).map Tq.d, ⟨[.bo (.d (.list hs)), .sh (.int i), .sh (bxD b), s3, s4, s5, .no, s7], st⟩) :=
  comp_flt (vs := [6]) (p := .v 6) (t := ct2__law_name) (a := ce3__law_name) Tq.d (fun d => decide (d.h = h)) Tq.d _ L fun d _ => by
    have g0 := d.g0
    have g1 := d.g00
    have ge := geq_ss d.h h
    obtain ⟨a, c, e⟩ := d.tup
    have nn : ∃ u v, d.nmD = .tuple [u, v] := ⟨_, _, rfl⟩
    obtain ⟨u, v, en⟩ := nn
    rw [e] at g0 ⊢
    rw [en] at g0 g1 ⊢
    cases q : decide (d.h = h) <;> rw [q] at ge <;> simp -implicitDefEqProofs (maxSteps := 2000000) (disch := first | omega | assumption | (simp; done) | (simp; omega)) [compStep, ct2__law_name, ce3__law_name, at', g0, g1, ge]
end
def snOf (hs2 : List Str) (L : List Tq) : List (Str × Int) := (hs2.map fun h => (h, ((ownL h L).length : Int))).filter fun p => decide (0 < p.2)
theorem name_ev (L : List Tq) (hL : L.length ≤ 1000) (hs : List Str) (hl : hs.length ≤ 1000) (i : Nat) (h : Str) (hi : hs[i]? = some h) (b : Nat) (st : Store) (hb : bxAt st b = some (.d (.list (L.map Tq.d)))) :
    ∃ hs2 : List Str, hs2.Perm hs ∧ d__law_name [.d (.list (hs.map PyData.str)), .d (.int (i : Int)), .d (bxD b)] st = some (.sh (.tuple [.tuple [.str h, .int (1 + ((ownL h L).length : Int))], .tuple ((snOf hs2 L).map prD)]), st) := by
  have at' : atD (hs.map PyData.str) (i : Int) = some (.str h) := atD_nat (by rw [List.getElem?_map, hi]; rfl)
  have so := sorted_strs hs (by omega)
  have pp := List.mergeSort_perm hs fun a b => leD (.str a) (.str b)
  have pm := pp.length_eq
  generalize hs.mergeSort (fun a b => leD (.str a) (.str b)) = hs2 at *
  have e1 := bxLk_of hb
  have e2 := bxLend_of hb
  have e3 := bxLock_of hb
  have e4 := bxUn_of hb
  have e5 : bxLk (bxLok st b (.d (.list (L.map Tq.d)))) b = some (.d (.list (L.map Tq.d))) := by
    unfold bxLk bxLok
    rw [fldAt_put (bxAt_lt hb), if_pos ⟨rfl, rfl⟩]; rfl
  have ll : (L.map Tq.d).length ≤ 1000 := by rw [List.length_map]; exact hL
  have ol : ∀ h, ((ownL h L).map Tq.d).length ≤ 1000 := fun h => by
    rw [List.length_map]
    exact Nat.le_trans (List.length_filter_le _ _) hL
  have oc : ∀ h, (((ownL h L).map Tq.d).length : Int) = ((ownL h L).length : Int) := fun h => by rw [List.length_map]
  have n1 := fun s3 s4 s7 st h => nm1_ev L (hs.map PyData.str) (i : Int) b s3 s4 s7 st h
  have n2 := fun s3 s4 s7 s5 st => nm2_ev L (hs.map PyData.str) (i : Int) b s3 s4 s7 st h at' s5
  have outer : ∀ s3 s4 s7, runComp [5] (.v 5) tYesD ce2__law_name (hs2.map PyData.str) ⟨[.bo (.d (.list (hs.map PyData.str))), .sh (.int (i : Int)), .sh (bxD b), s3, s4, .no, .no, s7], st⟩ = some ((hs2.map fun h => (h, ((ownL h L).length : Int))).map prD, ⟨[.bo (.d (.list (hs.map PyData.str))), .sh (.int (i : Int)), .sh (bxD b), s3, s4, .no, .no, s7], st⟩) := fun s3 s4 s7 => by
    rw [List.map_map]
    refine comp_map (vs := [5]) (p := .v 5) (t := tYesD) (a := ce2__law_name) PyData.str (fun h => prD (h, ((ownL h L).length : Int))) _ hs2 fun g _ => ?_
    have o1 := ol g
    have o2 := oc g
    have n1g := fun s3 s4 s7 st => n1 s3 s4 s7 st g
    unfold prD
    clear n1 n2 ol oc at' so
    generalize (ownL g L).map Tq.d = OG at *
    generalize ((ownL g L).length : Int) = og at *
    generalize L.map Tq.d = LD at *
    generalize hs.map PyData.str = HS at *
    simp -implicitDefEqProofs (maxSteps := 2000000) (disch := first | omega | assumption | (simp; done) | (simp; omega)) [compStep, ce2__law_name, e1, e2, e3, e4, e5, n1g, o2]
  have third : ∀ (ps : List (Str × Int)) s0 s1 s2 s3 s4 s5 s6, runComp [7] (.v 7) ct3__law_name ce4__law_name (ps.map prD) ⟨[s0, s1, s2, s3, s4, s5, s6, .no], st⟩ = some ((ps.filter fun p => decide (0 < p.2)).map prD, ⟨[s0, s1, s2, s3, s4, s5, s6, .no], st⟩) := fun ps s0 s1 s2 s3 s4 s5 s6 =>
    comp_flt (vs := [7]) (p := .v 7) (t := ct3__law_name) (a := ce4__law_name) prD (fun p => decide (0 < p.2)) prD _ ps fun p _ => by
      unfold prD
      by_cases c : 0 < p.2
      · rw [decide_eq_true c]; simp -implicitDefEqProofs (maxSteps := 2000000) (disch := first | omega | assumption | (simp; done) | (simp; omega)) [compStep, ct3__law_name, ce4__law_name, c]
      · rw [decide_eq_false c]; simp -implicitDefEqProofs (maxSteps := 2000000) (disch := first | omega | assumption | (simp; done) | (simp; omega)) [compStep, ct3__law_name, ce4__law_name, c]
  generalize hps : (hs2.map fun h => (h, ((ownL h L).length : Int))) = ps at *
  have pl : (ps.map prD).length ≤ 1000 := by rw [List.length_map, ← hps, List.length_map]; omega
  have fl2 : ((ps.filter fun p => decide (0 < p.2)).map prD).length ≤ 1000 := by
    rw [List.length_map]
    have := List.length_filter_le (fun p : Str × Int => decide (0 < p.2)) ps
    rw [List.length_map] at pl
    omega
  have t3 := third ps
  refine ⟨hs2, pp, ?_⟩
  unfold snOf
  rw [hps]
  have o1 := ol h
  have o2 := oc h
  have lh2 : (hs2.map PyData.str).length ≤ 1000 := by rw [List.length_map]; omega
  clear third n1 ol oc hps hi pp
  generalize (ps.filter fun p => decide (0 < p.2)).map prD = P3 at *
  generalize ps.map prD = P1 at *
  generalize (ownL h L).map Tq.d = OG at *
  generalize ((ownL h L).length : Int) = og at *
  generalize L.map Tq.d = LD at *
  generalize hs.map PyData.str = HS at *
  generalize hs2.map PyData.str = HS2 at *
  generalize (i : Int) = I at *
  simp -implicitDefEqProofs (maxSteps := 2000000) (disch := first | omega | assumption | (simp; done) | (simp; omega)) [d__law_name, b__law_name, so, outer, e1, e2, e3, e4, e5, n2, o2, at', t3]
theorem notin_ev {G : List Tq} (c : Con G) {M : List Tq} (sM : ∀ d ∈ M, d ∈ G) {d : Tq} (hd : d ∈ G) : gNotIn (.d d.d) (.d (.list (M.map Tq.d))) = some (.sh (.bool (Unk M d))) := by
  obtain ⟨h1, h2⟩ := in_log c sM hd
  show (if shallowAll d.d (M.map Tq.d) = true then shB (!inDs d.d (M.map Tq.d)) else none) = _
  rw [if_pos h1, h2, Bool.not_not]; rfl
theorem cov_some : ∀ {sn : List (Str × Int)} {h : Str} {n : Int}, cov sn h n = true → ∃ p ∈ sn, p.1 = h ∧ n ≤ p.2
  | [], _, _, e => by cases e
  | p :: r, h, n, e => by
    unfold cov at e
    by_cases c : p.1 = h
    · rw [if_pos c] at e
      exact ⟨p, List.mem_cons_self, c, of_decide_eq_true e⟩
    · rw [if_neg c] at e
      obtain ⟨q, hq, e1, e2⟩ := cov_some e
      exact ⟨q, List.mem_cons_of_mem _ hq, e1, e2⟩
theorem snOf_le {hs2 : List Str} {L : List Tq} {p : Str × Int} (h : p ∈ snOf hs2 L) : p.2 = ((ownL p.1 L).length : Int) := by
  obtain ⟨h1, _⟩ := List.mem_filter.mp h
  obtain ⟨g, _, rfl⟩ := List.mem_map.mp h1
  rfl
theorem cov_sn {hs2 : List Str} {L : List Tq} {h : Str} {n : Int} (c : cov (snOf hs2 L) h n = true) : n ≤ ((ownL h L).length : Int) := by
  obtain ⟨p, hp, e1, e2⟩ := cov_some c
  rw [snOf_le hp, e1] at e2
  exact e2
theorem own_mem {h : Str} {L : List Tq} {d : Tq} : d ∈ ownL h L ↔ d ∈ L ∧ d.h = h := by
  unfold ownL
  rw [List.mem_filter, decide_eq_true_iff]
theorem own_nd {h : Str} {L : List Tq} (nd : (L.map Tq.p).Nodup) : ((ownL h L).map Tq.n).Nodup := by
  have s : ((ownL h L).map Tq.p).Nodup := nd.sublist (List.filter_sublist.map _)
  unfold List.Nodup at s ⊢
  rw [List.pairwise_map] at s ⊢
  refine s.imp_of_mem fun {a b} ha hb ne e => ne ?_
  unfold Tq.p
  rw [(own_mem.mp ha).2, (own_mem.mp hb).2, e]
theorem own_le {h : Str} {A B : List Tq} (nd : (A.map Tq.p).Nodup) (s : ∀ d ∈ A, d ∈ B) : (ownL h A).length ≤ (ownL h B).length := by
  have n : (ownL h A).Nodup := (nd_of_map nd).sublist List.filter_sublist
  exact n.length_le_of_subset fun d hd => own_mem.mpr ⟨s d (own_mem.mp hd).1, (own_mem.mp hd).2⟩
def upto (n : Nat) : List Int := (List.range n).map fun i : Nat => (i : Int) + 1
theorem upto_nd (n : Nat) : (upto n).Nodup := nd_range (fun i : Nat => (i : Int) + 1) n fun i j _ _ e => by
  have e : (i : Int) + 1 = (j : Int) + 1 := e
  omega
theorem upto_len (n : Nat) : (upto n).length = n := by unfold upto; rw [List.length_map, List.length_range]
theorem upto_mem {n : Nat} {j : Int} : j ∈ upto n ↔ 1 ≤ j ∧ j ≤ n := by
  unfold upto
  rw [List.mem_map]
  constructor
  · rintro ⟨i, hi, rfl⟩
    have := List.mem_range.mp hi
    omega
  · intro ⟨h1, h2⟩
    exact ⟨(j - 1).toNat, List.mem_range.mpr (by omega), by show (((j - 1).toNat : Nat) : Int) + 1 = j; omega⟩
structure Gn (hs : List Str) (G : List Tq) : Prop where
  con : Con G
  pos : ∀ d ∈ G, 1 ≤ d.n
  gn : ∀ d ∈ G, ∀ j : Int, 1 ≤ j → j ≤ d.n → ∃ e ∈ G, e.h = d.h ∧ e.n = j
  sb : ∀ c ∈ G, ∀ p ∈ c.sn, p.2 ≤ ((ownL p.1 G).length : Int)
  ok : ∀ d ∈ G, d.a.ok ∧ d.h.cps.size ≤ 8
theorem own_ge {hs : List Str} {G L : List Tq} (w : Gn hs G) (g : Lg G L) {m : Tq} (hm : m ∈ L) : m.n ≤ ((ownL m.h L).length : Int) := by
  have mg := g.sub m hm
  have p := w.pos m mg
  have : (upto m.n.toNat).length ≤ ((ownL m.h L).map Tq.n).length := (upto_nd _).length_le_of_subset fun j hj => by
    obtain ⟨j1, j2⟩ := upto_mem.mp hj
    obtain ⟨e, he, e1, e2⟩ := w.gn m mg j j1 (by omega)
    exact List.mem_map.mpr ⟨e, own_mem.mpr ⟨g.dc m hm e he e1 (by omega), e1⟩, e2⟩
  rw [upto_len, List.length_map] at this
  omega
theorem own_lt {hs : List Str} {G L : List Tq} (w : Gn hs G) (g : Lg G L) {m : Tq} (hm : m ∈ G) (no : m ∉ L) : ((ownL m.h L).length : Int) < m.n := by
  have p := w.pos m hm
  have : ((ownL m.h L).map Tq.n).length ≤ (upto (m.n.toNat - 1)).length := (own_nd g.nd).length_le_of_subset fun j hj => by
    obtain ⟨d, hd, rfl⟩ := List.mem_map.mp hj
    obtain ⟨d1, d2⟩ := own_mem.mp hd
    have p2 := w.pos d (g.sub d d1)
    refine upto_mem.mpr ⟨p2, ?_⟩
    by_cases c : m.n ≤ d.n
    · exact absurd (g.dc d d1 m hm d2.symm c) no
    · omega
  rw [upto_len, List.length_map] at this
  omega
theorem own_all {hs : List Str} {G : List Tq} (w : Gn hs G) {h : Str} {j : Int} (j1 : 1 ≤ j) (j2 : j ≤ ((ownL h G).length : Int)) : ∃ e ∈ G, e.h = h ∧ e.n = j := by
  refine Classical.byContradiction fun no => ?_
  have : ((ownL h G).map Tq.n).length ≤ (upto (j.toNat - 1)).length := (own_nd w.con).length_le_of_subset fun k hk => by
    obtain ⟨d, hd, rfl⟩ := List.mem_map.mp hk
    obtain ⟨d1, d2⟩ := own_mem.mp hd
    have p2 := w.pos d d1
    refine upto_mem.mpr ⟨p2, ?_⟩
    by_cases c : j ≤ d.n
    · obtain ⟨e, he, e1, e2⟩ := w.gn d d1 j j1 c
      exact absurd ⟨e, he, e1.trans d2, e2⟩ no
    · omega
  rw [upto_len, List.length_map] at this
  omega
section
variable {hs hs2 : List Str} {G L : List Tq} (w : Gn hs G) (g : Lg G L) {h : Str} (own : ∀ d ∈ G, d.h = h → d ∈ L) {a : TA} (ak : a.ok) (h8 : h.cps.size ≤ 8)
include w g own
theorem own_same : (ownL h L).length = (ownL h G).length := Nat.le_antisymm (own_le g.nd g.sub) (by
  have n : (ownL h G).Nodup := (nd_of_map w.con).sublist List.filter_sublist
  exact n.length_le_of_subset fun d hd => own_mem.mpr ⟨own d (own_mem.mp hd).1 (own_mem.mp hd).2, (own_mem.mp hd).2⟩)
theorem new_far : ∀ e ∈ G, e.h = h → e.n < 1 + ((ownL h L).length : Int) := fun e he eh => by
  have := own_ge w g (own e he eh)
  rw [eh] at this
  omega
theorem new_fresh : ∀ e ∈ G, e.p ≠ (h, 1 + ((ownL h L).length : Int)) := fun e he z => by
  have := new_far w g own e he (congrArg Prod.fst z)
  have z : e.n = _ := congrArg Prod.snd z
  omega
include ak h8
theorem Gn.deed : Gn hs (G ++ [⟨h, 1 + ((ownL h L).length : Int), snOf hs2 L, a⟩]) := by
  have os := own_same w g own
  have gs : ∀ k : Str, (ownL k G).length ≤ (ownL k (G ++ [⟨h, 1 + ((ownL h L).length : Int), snOf hs2 L, a⟩])).length := fun k => by
    unfold ownL
    rw [List.filter_append, List.length_append]; omega
  refine ⟨?_, fun d hd => ?_, fun d hd j j1 j2 => ?_, fun c hc p hp => ?_, fun d hd => ?_⟩
  · unfold Con
    rw [List.map_append, List.nodup_append]
    refine ⟨w.con, by simp, fun x hx y hy e => ?_⟩
    obtain ⟨d, hd, rfl⟩ := List.mem_map.mp hx
    have hy : y = (h, 1 + ((ownL h L).length : Int)) := by simpa [Tq.p] using hy
    exact new_fresh w g own d hd (e.trans hy)
  · rcases List.mem_append.mp hd with hd | hd
    · exact w.pos d hd
    · rw [List.mem_singleton.mp hd]
      show 1 ≤ 1 + ((ownL h L).length : Int)
      omega
  · rcases List.mem_append.mp hd with hd | hd
    · obtain ⟨e, he, e1, e2⟩ := w.gn d hd j j1 j2
      exact ⟨e, List.mem_append_left _ he, e1, e2⟩
    · rw [List.mem_singleton.mp hd] at j2 ⊢
      have j2 : j ≤ 1 + ((ownL h L).length : Int) := j2
      by_cases c : j = 1 + ((ownL h L).length : Int)
      · exact ⟨_, List.mem_append_right _ (List.mem_singleton.mpr rfl), rfl, c.symm⟩
      · obtain ⟨e, he, e1, e2⟩ := own_all w (h := h) j1 (by rw [← os]; omega)
        exact ⟨e, List.mem_append_left _ he, e1, e2⟩
  · have := gs p.1
    rcases List.mem_append.mp hc with hc | hc
    · have := w.sb c hc p hp
      omega
    · rw [List.mem_singleton.mp hc] at hp
      have e := snOf_le (show p ∈ snOf hs2 L from hp)
      have := own_le (h := p.1) g.nd g.sub
      omega
  · rcases List.mem_append.mp hd with hd | hd
    · exact w.ok d hd
    · rw [List.mem_singleton.mp hd]; exact ⟨ak, h8⟩
omit ak h8
theorem Lg.still {M : List Tq} (gM : Lg G M) : Lg (G ++ [⟨h, 1 + ((ownL h L).length : Int), snOf hs2 L, a⟩]) M := by
  have os := own_same w g own
  refine ⟨gM.nd, fun d hd => List.mem_append_left _ (gM.sub d hd), gM.cl, fun i c hi m hm cv => ?_, fun m hm k hk e l => ?_⟩
  · rcases List.mem_append.mp hm with hm | hm
    · exact gM.sc i c hi m hm cv
    · exfalso
      rw [List.mem_singleton.mp hm] at cv
      obtain ⟨p, hp, e1, e2⟩ := cov_some cv
      have := w.sb c (gM.sub c (List.mem_of_getElem? hi)) p hp
      have e1 : p.1 = h := e1
      have e2 : 1 + ((ownL h L).length : Int) ≤ p.2 := e2
      rw [e1, ← os] at this
      omega
  · rcases List.mem_append.mp hk with hk | hk
    · exact gM.dc m hm k hk e l
    · exfalso
      rw [List.mem_singleton.mp hk] at e l
      have e : h = m.h := e
      have l : 1 + ((ownL h L).length : Int) ≤ m.n := l
      have := new_far w g own m (gM.sub m hm) e.symm
      omega
theorem Lg.deed (cl : ∀ p ∈ (⟨h, 1 + ((ownL h L).length : Int), snOf hs2 L, a⟩ : Tq).gone, ∃ r ∈ wrL L, r.1 = p) : Lg (G ++ [⟨h, 1 + ((ownL h L).length : Int), snOf hs2 L, a⟩]) (L ++ [⟨h, 1 + ((ownL h L).length : Int), snOf hs2 L, a⟩]) := by
  have S := Lg.still w g own (hs2 := hs2) (a := a) g
  have far := new_fresh w g own
  have os := own_same w g own
  generalize ed : (⟨h, 1 + ((ownL h L).length : Int), snOf hs2 L, a⟩ : Tq) = d at *
  have dp : d.p = (h, 1 + ((ownL h L).length : Int)) := by rw [← ed]; rfl
  have dh : d.h = h := by rw [← ed]
  have dn : d.n = 1 + ((ownL h L).length : Int) := by rw [← ed]
  have ds : d.sn = snOf hs2 L := by rw [← ed]
  have idx : ∀ {i : Nat} {e : Tq}, ¬ i < L.length → (L ++ [d])[i]? = some e → i = L.length ∧ e = d := fun {i e} il hi => by
    rw [List.getElem?_append_right (by omega)] at hi
    have i0 : i - L.length = 0 := by
      have := (List.getElem?_eq_some_iff.mp hi).1
      simp at this; omega
    rw [i0] at hi
    exact ⟨by omega, (Option.some.inj hi).symm⟩
  refine ⟨?_, fun e he => ?_, fun i e hi p hp => ?_, fun i e hi m hm cv => ?_, fun m hm k hk e l => ?_⟩
  · rw [List.map_append, List.nodup_append]
    refine ⟨g.nd, by simp, fun x hx y hy e => ?_⟩
    obtain ⟨z, hz, rfl⟩ := List.mem_map.mp hx
    have hy : y = d.p := by simpa using hy
    exact far z (g.sub z hz) (e.trans (hy.trans dp))
  · rcases List.mem_append.mp he with he | he
    · exact List.mem_append_left _ (g.sub e he)
    · exact List.mem_append_right _ he
  · by_cases il : i < L.length
    · rw [List.getElem?_append_left il] at hi
      rw [List.take_append_of_le_length (by omega)]
      exact g.cl i e hi p hp
    · obtain ⟨ie, ee⟩ := idx il hi
      rw [ie, List.take_left]
      rw [ee] at hp
      exact cl p hp
  · by_cases il : i < L.length
    · rw [List.getElem?_append_left il] at hi
      rw [List.take_append_of_le_length (by omega)]
      exact S.sc i e hi m hm cv
    · obtain ⟨ie, ee⟩ := idx il hi
      rw [ie, List.take_left]
      rw [ee, ds] at cv
      have cv := cov_sn cv
      rcases List.mem_append.mp hm with hm | hm
      · refine Classical.byContradiction fun no => ?_
        have := own_lt w g hm no
        omega
      · exfalso
        rw [List.mem_singleton.mp hm, dh, dn] at cv
        omega
  · rcases List.mem_append.mp hm with hm | hm
    · exact List.mem_append_left _ (S.dc m hm k hk e l)
    · rcases List.mem_append.mp hk with hk | hk
      · rw [List.mem_singleton.mp hm, dh] at e
        exact List.mem_append_left _ (own k hk e)
      · exact List.mem_append_right _ hk
end
theorem lg_len {G X : List Tq} (g : Lg G X) : X.length ≤ G.length := (nd_of_map g.nd).length_le_of_subset g.sub
theorem Lg.qk {hs : List Str} {G X : List Tq} (w : Gn hs G) (g : Lg G X) (gl : G.length ≤ 60) : Qk X := ⟨g.nd, fun q hq => w.ok q (g.sub q hq), g.cl, by have := lg_len g; omega⟩
theorem told_qk {hs : List Str} {G L M : List Tq} (w : Gn hs G) (gl : G.length ≤ 60) (gL : Lg G L) (gM : Lg G M) (j : Nat) : Qk (L ++ (sent L M).take j) := by
  obtain ⟨h1, h2, h3, h4⟩ := Lg.told w.con gL gM j (.inr trivial)
  refine ⟨h1, fun q hq => w.ok q (h2 q hq), h3, ?_⟩
  have a := lg_len gL
  have b := lg_len gM
  have c : ((sent L M).take j).length ≤ M.length := by
    rw [List.length_take]
    have : (sent L M).length ≤ M.length := List.length_filter_le ..
    omega
  rw [List.length_append]
  omega
def PL (l : List Sg) : List D := l.map fun r => pd r.1
theorem PL_len (l : List Sg) : (PL l).length = l.length := List.length_map _
theorem PL_at {l : List Sg} {k : Nat} {q : Sg} (h : l[k]? = some q) : atD (PL l) (k : Int) = some (pd q.1) := atD_nat (by unfold PL; rw [List.getElem?_map, h]; rfl)
theorem PL_fl (l : List Sg) : Fl 3 (.list (PL l)) := Fl.l (k := 2) fun x hx => by
  obtain ⟨r, _, rfl⟩ := List.mem_map.mp hx
  exact pd_fl _
theorem geq_nil (l : List Sg) : gEq (.d (.list (PL l))) (.d (.list [])) = some (.sh (.bool (decide (l = [])))) := by
  have f0 : Fl 1 (.list []) := Fl.l (k := 0) fun x hx => by cases hx
  rw [gEq_d (shallow_fl (PL_fl l) f0 (.inl (by decide)))]
  cases l with
  | nil => rfl
  | cons r l =>
    have : PyData.eqv (.list (PL (r :: l))) (.list []) = false := by unfold PL; rw [List.map_cons, PyData.eqv]; rfl
    rw [this]; rfl
theorem cutL_lh {α : Type} (xs : List α) {i j : Int} (hi : 0 ≤ i) (hj : 0 ≤ j) : cutL xs (some i) (some j) = (xs.drop i.toNat).take (j.toNat - i.toNat) := by
  unfold cutL cutAt
  simp only
  rw [if_neg (by omega), if_neg (by omega)]
  rcases Nat.le_total i.toNat xs.length with w | w
  · rw [show min i.toNat xs.length = i.toNat by omega]
    rcases Nat.le_total j.toNat xs.length with v | v
    · rw [show min j.toNat xs.length = j.toNat by omega]
    · rw [show min j.toNat xs.length = xs.length by omega, List.take_of_length_le (by rw [List.length_drop]; omega), List.take_of_length_le (by rw [List.length_drop]; omega)]
  · rw [show min i.toNat xs.length = xs.length by omega, List.drop_eq_nil_of_le (Nat.le_refl _), List.drop_eq_nil_of_le w]
    simp
inductive A46 (l : List Sg) : TA → Prop
  | w (k : Nat) (y : Str) : k ≤ l.length → 1 ≤ y.cps.size → y.cps.size ≤ 4 → A46 l (.w (gapP (leftP l k) (rightP l k)).1 (gapP (leftP l k) (rightP l k)).2 y)
  | c (ps : List (List Sp)) : (∀ p ∈ ps, p ∈ l.map (·.1)) → ps.length ≤ 4 → A46 l (.c ps)
  | m (p q : List Sp) (w : Str) : p ∈ l.map (·.1) → q ∈ l.map (·.1) → A46 l (.m p q w)
  | k (p q : List Sp) (w : Str) : p ∈ l.map (·.1) → q ∈ l.map (·.1) → A46 l (.k p q w)
theorem word3 (xs : List Str) (h : xs.length = 3) (x : Int) : ∃ w ∈ xs, atD (xs.map PyData.str) (x % 3) = some (.str w) := by
  have g0 := Int.emod_nonneg x (show (3 : Int) ≠ 0 by decide)
  have g1 := Int.emod_lt_of_pos x (show (0 : Int) < 3 by decide)
  obtain ⟨k, hk⟩ : ∃ k : Nat, x % 3 = (k : Int) := ⟨_, (Int.toNat_of_nonneg g0).symm⟩
  have kl : k < xs.length := by omega
  refine ⟨xs[k], List.getElem_mem kl, ?_⟩
  rw [hk]
  exact atD_nat (by rw [List.getElem?_map, List.getElem?_eq_getElem kl]; rfl)
theorem act_rest {l : List Sg} (ne : l ≠ []) (hl : l.length ≤ 4000) (c x : Int) (st : Store) (mx : d__law_mixed [.d (.int c), .d (.int 1)] st = some (.sh (.int x), st)) (c1 : ¬ x % 7 < 3) :
    ∃ a, A46 l a ∧ d__law_act [.d (.list (PL l)), .d (.int c)] st = some (.sh (a.d tN), st) := by
  have nn0 := geq_nil l
  rw [decide_eq_false ne] at nn0
  have lp : 0 < l.length := List.length_pos_iff.mpr ne
  have sl : ((PL l).length : Int) = (l.length : Int) := by rw [PL_len]
  have pz : (PL l).length ≤ 4000 := by rw [PL_len]; exact hl
  have p0 := Int.emod_nonneg (x / 7) (show (l.length : Int) ≠ 0 by omega)
  have p1 := Int.emod_lt_of_pos (x / 7) (show 0 < (l.length : Int) by omega)
  obtain ⟨k, hk⟩ : ∃ k : Nat, x / 7 % (l.length : Int) = (k : Int) := ⟨_, (Int.toNat_of_nonneg p0).symm⟩
  have gm : gMod (.d (.int (x / 7))) (.d (.int (l.length : Int))) = some (.sh (.int (k : Int))) := by rw [← hk]; exact gMod_i (by omega)
  by_cases c3 : x % 7 = 3
  · obtain ⟨j, hj4, hj⟩ : ∃ j : Nat, j ≤ 2 ∧ x / 301 % 3 = (j : Int) := ⟨(x / 301 % 3).toNat, by omega, by omega⟩
    have pB : cutL (PL l) (some (k : Int)) (some ((k : Int) + 1 + (j : Int))) = (((l.drop k).take (1 + j)).map (·.1)).map pd := by
      rw [cutL_lh _ (by omega) (by omega), show ((k : Int) + 1 + (j : Int)).toNat - (k : Int).toNat = 1 + j by omega, show (k : Int).toNat = k by omega]
      unfold PL
      rw [← List.map_drop, ← List.map_take, List.map_map]; rfl
    refine ⟨.c (((l.drop k).take (1 + j)).map (·.1)), .c _ (fun p hp => ?_) (by rw [List.length_map, List.length_take]; omega), ?_⟩
    · obtain ⟨r, hr, rfl⟩ := List.mem_map.mp hp
      exact List.mem_map_of_mem (List.mem_of_mem_drop (List.mem_of_mem_take hr))
    · have bl : ((((l.drop k).take (1 + j)).map (·.1)).map pd).length ≤ 4 := by rw [List.length_map, List.length_map, List.length_take]; omega
      rw [show (TA.c (((l.drop k).take (1 + j)).map (·.1))).d tN = .tuple [.str "cut", .tuple [.str "t", .int 1], .tuple ((((l.drop k).take (1 + j)).map (·.1)).map pd)] from rfl]
      clear hk p0 p1 lp ne
      generalize (((l.drop k).take (1 + j)).map (·.1)).map pd = PB at *
      generalize PL l = P1 at *
      generalize (l.length : Int) = LL at *
      generalize (k : Int) = K at *
      generalize (j : Int) = J at *
      simp -implicitDefEqProofs (maxSteps := 2000000) (disch := first | omega | assumption | (simp; done) | (simp; omega)) [d__law_act, b__law_act, mx, c1, nn0, sl, gm, c3, hj, pB]
  · have q0 := Int.emod_nonneg (x / 307) (show ((l.length : Int) - (k : Int)) ≠ 0 by omega)
    have q1 := Int.emod_lt_of_pos (x / 307) (show 0 < (l.length : Int) - (k : Int) by omega)
    obtain ⟨m, hm⟩ : ∃ m : Nat, (k : Int) + x / 307 % ((l.length : Int) - (k : Int)) = (m : Int) := ⟨_, (Int.toNat_of_nonneg (by omega)).symm⟩
    have gf : gMod (.d (.int (x / 307))) (.d (.int ((l.length : Int) - (k : Int)))) = some (.sh (.int (x / 307 % ((l.length : Int) - (k : Int))))) := gMod_i (by omega)
    have hk' : l[k]? = some l[k] := List.getElem?_eq_getElem (by omega)
    have hm' : l[m]? = some l[m] := List.getElem?_eq_getElem (by omega)
    generalize l[k] = rk at *
    generalize l[m] = rm at *
    have ak := PL_at hk'
    have am := PL_at hm'
    have k1 : rk.1 ∈ l.map (·.1) := List.mem_map_of_mem (List.mem_of_getElem? hk')
    have m1 : rm.1 ∈ l.map (·.1) := List.mem_map_of_mem (List.mem_of_getElem? hm')
    obtain ⟨v, _, av⟩ := word3 ["a", "ab", "bold"] rfl (x / 7001)
    have av : atD [PyData.str "a", .str "ab", .str "bold"] (x / 7001 % 3) = some (.str v) := av
    obtain ⟨XK, eK⟩ : ∃ xs, pd rk.1 = .tuple xs := ⟨_, rfl⟩
    obtain ⟨XM, eM⟩ : ∃ xs, pd rm.1 = .tuple xs := ⟨_, rfl⟩
    rw [eK] at ak
    rw [eM] at am
    by_cases c6 : x % 7 = 6
    · refine ⟨.k rk.1 rm.1 v, .k _ _ _ k1 m1, ?_⟩
      rw [show (TA.k rk.1 rm.1 v).d tN = .tuple [.str "clear", .tuple [.str "t", .int 1], pd rk.1, pd rm.1, .str v] from rfl, eK, eM]
      clear hk p0 p1 lp ne q0 q1 hk' hm' k1 m1 eK eM
      generalize x / 307 % ((l.length : Int) - (k : Int)) = F at *
      generalize PL l = P1 at *
      generalize (l.length : Int) = LL at *
      generalize (k : Int) = K at *
      generalize (m : Int) = M at *
      simp -implicitDefEqProofs (maxSteps := 2000000) (disch := first | omega | assumption | (simp; done) | (simp; omega)) [d__law_act, b__law_act, mx, c1, nn0, sl, gm, c3, gf, hm, av, c6, ak, am]
    · refine ⟨.m rk.1 rm.1 v, .m _ _ _ k1 m1, ?_⟩
      rw [show (TA.m rk.1 rm.1 v).d tN = .tuple [.str "mark", .tuple [.str "t", .int 1], pd rk.1, pd rm.1, .str v] from rfl, eK, eM]
      clear hk p0 p1 lp ne q0 q1 hk' hm' k1 m1 eK eM
      generalize x / 307 % ((l.length : Int) - (k : Int)) = F at *
      generalize PL l = P1 at *
      generalize (l.length : Int) = LL at *
      generalize (k : Int) = K at *
      generalize (m : Int) = M at *
      simp -implicitDefEqProofs (maxSteps := 2000000) (disch := first | omega | assumption | (simp; done) | (simp; omega)) [d__law_act, b__law_act, mx, c1, nn0, sl, gm, c3, gf, hm, av, c6, ak, am]
def w8 : Str := "ab Z~9,!"
theorem w8_size : w8.cps.size = 8 := by decide +kernel
theorem slice_ev (x : Int) : ∃ y : Str, 1 ≤ y.cps.size ∧ y.cps.size ≤ 4 ∧ gSl (.d (.str w8)) (some (x / 11 % 5)) (some (x / 11 % 5 + 1 + x / 301 % 4)) = some (.sh (.str y)) := by
  have z := w8_size
  have yl : w8.cps.toList.length = 8 := by rw [Array.length_toList, z]
  have a0 : 0 ≤ x / 11 % 5 ∧ x / 11 % 5 < 5 := by omega
  have b0 : 0 ≤ x / 301 % 4 ∧ x / 301 % 4 < 4 := by omega
  have e : cutL w8.cps.toList (some (x / 11 % 5)) (some (x / 11 % 5 + 1 + x / 301 % 4)) = (w8.cps.toList.drop (x / 11 % 5).toNat).take ((x / 11 % 5 + 1 + x / 301 % 4).toNat - (x / 11 % 5).toNat) := cutL_lh _ (by omega) (by omega)
  have ln : (cutL w8.cps.toList (some (x / 11 % 5)) (some (x / 11 % 5 + 1 + x / 301 % 4))).length = (1 + x / 301 % 4).toNat := by
    rw [e, List.length_take, List.length_drop, yl]; omega
  refine ⟨⟨(cutL w8.cps.toList (some (x / 11 % 5)) (some (x / 11 % 5 + 1 + x / 301 % 4))).toArray⟩, ?_, ?_, ?_⟩
  · show 1 ≤ (cutL w8.cps.toList _ _).toArray.size
    rw [List.size_toArray, ln]; omega
  · show (cutL w8.cps.toList _ _).toArray.size ≤ 4
    rw [List.size_toArray, ln]; omega
  · first
      | rfl
      | (unfold gSl; simp [z])
theorem act_write {l : List Sg} (asc : Asc l) (ok : ∀ r ∈ l, Pk r.1) (up : Up l) (hl : l.length ≤ 4000) (c x : Int) (st : Store) (mx : d__law_mixed [.d (.int c), .d (.int 1)] st = some (.sh (.int x), st)) (c1 : x % 7 < 3 ∨ l = []) :
    ∃ a, A46 l a ∧ d__law_act [.d (.list (PL l)), .d (.int c)] st = some (.sh (a.d tN), st) := by
  have nn0 := geq_nil l
  have sl : ((PL l).length : Int) = (l.length : Int) := by rw [PL_len]
  have pz : (PL l).length ≤ 4000 := by rw [PL_len]; exact hl
  have p0 := Int.emod_nonneg (x / 7) (show ((l.length : Int) + 1) ≠ 0 by omega)
  have p1 := Int.emod_lt_of_pos (x / 7) (show 0 < ((l.length : Int) + 1) by omega)
  obtain ⟨n, hn⟩ : ∃ n : Nat, x / 7 % ((l.length : Int) + 1) = (n : Int) := ⟨_, (Int.toNat_of_nonneg p0).symm⟩
  have nl : n ≤ l.length := by omega
  have gm : gMod (.d (.int (x / 7))) (.d (.int ((l.length : Int) + 1))) = some (.sh (.int (n : Int))) := by rw [← hn]; exact gMod_i (by omega)
  obtain ⟨y, y1, y4, sy⟩ := slice_ev x
  have lr := left_right asc up nl
  have okl := left_pk ok n
  have la : (¬ (0 : Int) < (n : Int) ∧ leftP l n = []) ∨ (0 < (n : Int) ∧ atD (PL l) ((n : Int) - 1) = some (pd (leftP l n))) := by
    cases n with
    | zero => exact .inl ⟨by omega, rfl⟩
    | succ k =>
      obtain ⟨p, hp⟩ : ∃ p, l[k]? = some p := ⟨_, List.getElem?_eq_getElem (by omega)⟩
      refine .inr ⟨by omega, ?_⟩
      rw [leftP_at hp, show ((k + 1 : Nat) : Int) - 1 = (k : Int) by omega]
      exact PL_at hp
  have rr : (¬ (n : Int) < (l.length : Int) ∧ d_gap [.d (pd (leftP l n)), .d .none] st = some (.sh (.tuple [pd (gapP (leftP l n) (rightP l n)).1, .int (gapP (leftP l n) (rightP l n)).2]), st)) ∨
      ∃ ys, (n : Int) < (l.length : Int) ∧ atD (PL l) (n : Int) = some (.tuple ys) ∧ d_gap [.d (pd (leftP l n)), .d (.tuple ys)] st = some (.sh (.tuple [pd (gapP (leftP l n) (rightP l n)).1, .int (gapP (leftP l n) (rightP l n)).2]), st) := by
    cases e : l[n]? with
    | none =>
      have h1 := List.getElem?_eq_none_iff.mp e
      have h2 : rightP l n = none := by unfold rightP; rw [e]; rfl
      refine .inl ⟨by omega, ?_⟩
      rw [h2]; exact gap_ev0 _ st
    | some q =>
      have h1 := (List.getElem?_eq_some_iff.mp e).1
      have h2 : rightP l n = some q.1 := by unfold rightP; rw [e]; rfl
      refine .inr ⟨q.1.map sd, by omega, PL_at e, ?_⟩
      rw [h2]
      exact gap_ev1 _ _ okl (ok q (List.mem_of_getElem? e)) (lr _ h2) st
  refine ⟨.w (gapP (leftP l n) (rightP l n)).1 (gapP (leftP l n) (rightP l n)).2 y, .w n y nl y1 y4, ?_⟩
  rw [show (TA.w (gapP (leftP l n) (rightP l n)).1 (gapP (leftP l n) (rightP l n)).2 y).d tN = .tuple [.str "write", .tuple [.str "t", .int 1], pd (gapP (leftP l n) (rightP l n)).1, .int (gapP (leftP l n) (rightP l n)).2, .str y] from rfl]
  obtain ⟨us, eu⟩ : ∃ us, pd (gapP (leftP l n) (rightP l n)).1 = .tuple us := ⟨_, rfl⟩
  obtain ⟨xs, ex⟩ : ∃ xs, pd (leftP l n) = .tuple xs := ⟨_, rfl⟩
  have lx : leftP l n = [] → xs = [] := fun z => by
    rw [z] at ex
    cases ex; rfl
  rw [eu] at rr ⊢
  rw [ex] at rr la
  have la' : (¬ (0 : Int) < (n : Int) ∧ xs = []) ∨ (0 < (n : Int) ∧ atD (PL l) ((n : Int) - 1) = some (.tuple xs)) := by
    rcases la with ⟨z, w⟩ | z
    · exact .inl ⟨z, lx w⟩
    · exact .inr z
  have cc : x % 7 < 3 ∨ (¬ x % 7 < 3 ∧ gEq (.d (.list (PL l))) (.d (.list [])) = some (.sh (.bool true))) := by
    by_cases z : x % 7 < 3
    · exact .inl z
    · refine .inr ⟨z, ?_⟩
      rw [decide_eq_true (c1.resolve_left z)] at nn0
      exact nn0
  have w8e : w8 = "ab Z~9,!" := rfl
  rw [w8e] at sy
  generalize (gapP (leftP l n) (rightP l n)).2 = ga at *
  clear hn p0 p1 lr okl asc ok up la lx nl ex eu y1 y4 nn0 c1 w8e
  generalize PL l = P1 at *
  generalize (n : Int) = NN at *
  generalize (l.length : Int) = LL at *
  rcases la' with ⟨l1, rfl⟩ | ⟨l1, l2⟩
  · rcases rr with ⟨r1, r3⟩ | ⟨ys, r1, r2, r3⟩
    · rcases cc with cc | ⟨cc, ce⟩
      · simp -implicitDefEqProofs (maxSteps := 2000000) (disch := first | omega | assumption | (simp; done) | (simp; omega)) [d__law_act, b__law_act, mx, cc, sl, gm, l1, r1, r3, sy]
      · simp -implicitDefEqProofs (maxSteps := 2000000) (disch := first | omega | assumption | (simp; done) | (simp; omega)) [d__law_act, b__law_act, mx, cc, ce, sl, gm, l1, r1, r3, sy]
    · rcases cc with cc | ⟨cc, ce⟩
      · simp -implicitDefEqProofs (maxSteps := 2000000) (disch := first | omega | assumption | (simp; done) | (simp; omega)) [d__law_act, b__law_act, mx, cc, sl, gm, l1, r1, r2, r3, sy]
      · simp -implicitDefEqProofs (maxSteps := 2000000) (disch := first | omega | assumption | (simp; done) | (simp; omega)) [d__law_act, b__law_act, mx, cc, ce, sl, gm, l1, r1, r2, r3, sy]
  · rcases rr with ⟨r1, r3⟩ | ⟨ys, r1, r2, r3⟩
    · rcases cc with cc | ⟨cc, ce⟩
      · simp -implicitDefEqProofs (maxSteps := 2000000) (disch := first | omega | assumption | (simp; done) | (simp; omega)) [d__law_act, b__law_act, mx, cc, sl, gm, l1, l2, r1, r3, sy]
      · simp -implicitDefEqProofs (maxSteps := 2000000) (disch := first | omega | assumption | (simp; done) | (simp; omega)) [d__law_act, b__law_act, mx, cc, ce, sl, gm, l1, l2, r1, r3, sy]
    · rcases cc with cc | ⟨cc, ce⟩
      · simp -implicitDefEqProofs (maxSteps := 2000000) (disch := first | omega | assumption | (simp; done) | (simp; omega)) [d__law_act, b__law_act, mx, cc, sl, gm, l1, l2, r1, r2, r3, sy]
      · simp -implicitDefEqProofs (maxSteps := 2000000) (disch := first | omega | assumption | (simp; done) | (simp; omega)) [d__law_act, b__law_act, mx, cc, ce, sl, gm, l1, l2, r1, r2, r3, sy]
theorem lact_ev {l : List Sg} (asc : Asc l) (ok : ∀ r ∈ l, Pk r.1) (up : Up l) (hl : l.length ≤ 4000) (c : Int) (st : Store) : ∃ a, A46 l a ∧ d__law_act [.d (.list (PL l)), .d (.int c)] st = some (.sh (a.d tN), st) := by
  obtain ⟨x, _, mx⟩ := mixed_ev c 1 st
  by_cases c1 : x % 7 < 3 ∨ l = []
  · exact act_write asc ok up hl c x st mx c1
  · rw [not_or] at c1
    exact act_rest c1.2 hl c x st mx c1.1
structure Tw (st : Store) (b : Nat) (c : Nat → Nat) (is : Nat → List Nat) (X L : Nat → List Tq) : Prop where
  tx : ∀ k, k < 3 → TxAt st (3 * k) (is k) (txQ (X k)).1 (txQ (X k)).2
  ob : bxAt st b = some (.d (.list [bxD (c 0), bxD (c 1), bxD (c 2)]))
  bx : ∀ k, k < 3 → bxAt st (c k) = some (.d (.list ((L k).map Tq.d)))
  b9 : 9 ≤ b
  c9 : ∀ k, k < 3 → 9 ≤ c k
  cb : ∀ k, k < 3 → b ≠ c k
  cj : ∀ k m, k < 3 → m < 3 → k ≠ m → c k ≠ c m
  ii : ∀ k, k < 3 → ∀ i ∈ is k, 9 ≤ i
  ij : ∀ k m, k < 3 → m < 3 → k ≠ m → ∀ i ∈ is k, i ∉ is m
  ib : ∀ k, k < 3 → ∀ i ∈ is k, i ≠ b ∧ ∀ m, m < 3 → i ≠ c m
def up1 {α : Type} (f : Nat → α) (i : Nat) (y : α) : Nat → α := fun k => if k = i then y else f k
theorem up1_i {α : Type} {f : Nat → α} {i : Nat} {y : α} : up1 f i y i = y := if_pos rfl
theorem up1_k {α : Type} {f : Nat → α} {i k : Nat} {y : α} (h1 : k ≠ i) : up1 f i y k = f k := if_neg h1
theorem tx_lt {st : Store} {i : Nat} {is : List Nat} {l : List Sg} {ms : List Mr} (t : TxAt st i is l ms) : i < st.length ∧ i + 1 < st.length ∧ i + 2 < st.length ∧ ∀ j ∈ is, j < st.length :=
  ⟨(List.getElem?_eq_some_iff.mp t.top).1, t.en.lt.1, t.en.lt.2.1, t.en.lt.2.2⟩
theorem hear_step {st : Store} {b : Nat} {c : Nat → Nat} {is : Nat → List Nat} {X L : Nat → List Tq} (W : Tw st b c is X L) {i : Nat} (hi : i < 3) {d : Tq} (q : Qk (X i ++ [d])) :
    ∃ st' is', d_Text_hear [.d (obD (3 * i)), .d d.d] st = some (.sh .none, st') ∧ Tw st' b c is' (up1 X i (X i ++ [d])) L := by
  obtain ⟨_, H⟩ := (tx_of q.pre).snoc q
  obtain ⟨st', is', e, T, F⟩ := H st (3 * i) (is i) (W.tx i hi)
  have b9 := W.b9
  have bl := bxAt_lt W.ob
  have cl := fun k hk => bxAt_lt (W.bx k hk)
  have same : ∀ j, j < st.length → j ≠ 3 * i + 1 → j ≠ 3 * i + 2 → j ∉ is i → st'[j]? = st[j]? := F.fr
  have bs : st'[b]? = st[b]? := same b bl (by omega) (by omega) fun z => (W.ib i hi b z).1 rfl
  have cs : ∀ k, k < 3 → st'[c k]? = st[c k]? := fun k hk => same (c k) (cl k hk) (by have := W.c9 k hk; omega) (by have := W.c9 k hk; omega) fun z => (W.ib i hi (c k) z).2 k hk rfl
  have new : ∀ j ∈ is', j ∈ is i ∨ st.length ≤ j := F.is
  refine ⟨st', up1 is i is', e, ⟨fun k hk => ?_, (bxAt_same bs).trans W.ob, fun k hk => (bxAt_same (cs k hk)).trans (W.bx k hk), W.b9, W.c9, W.cb, W.cj, fun k hk j hj => ?_, fun k m hk hm ne j hj => ?_, fun k hk j hj => ?_⟩⟩
  · by_cases a : k = i
    · subst a; rw [up1_i, up1_i]; exact T
    · rw [up1_k a, up1_k a]
      have lt := tx_lt (W.tx k hk)
      refine (W.tx k hk).frame fun j hj => same j ?_ ?_ ?_ ?_
      · rcases hj with rfl | rfl | rfl | hj
        · exact lt.1
        · exact lt.2.1
        · exact lt.2.2.1
        · exact lt.2.2.2 j hj
      · rcases hj with rfl | rfl | rfl | hj
        · omega
        · omega
        · omega
        · have := W.ii k hk j hj; omega
      · rcases hj with rfl | rfl | rfl | hj
        · omega
        · omega
        · omega
        · have := W.ii k hk j hj; omega
      · rcases hj with rfl | rfl | rfl | hj
        · intro z; have := W.ii i hi _ z; omega
        · intro z; have := W.ii i hi _ z; omega
        · intro z; have := W.ii i hi _ z; omega
        · exact W.ij k i hk hi a j hj
  · by_cases a : k = i
    · subst a
      rw [up1_i] at hj
      rcases new j hj with h | h
      · exact W.ii k hk j h
      · omega
    · rw [up1_k a] at hj; exact W.ii k hk j hj
  · by_cases a : k = i
    · subst a
      rw [up1_i] at hj
      rw [up1_k (fun z => ne z.symm)]
      rcases new j hj with h | h
      · exact W.ij k m hk hm ne j h
      · intro z
        have := (tx_lt (W.tx m hm)).2.2.2 j z
        omega
    · rw [up1_k a] at hj
      by_cases a2 : m = i
      · subst a2
        rw [up1_i]
        intro z
        rcases new j z with h | h
        · exact W.ij k m hk hm ne j hj h
        · have := (tx_lt (W.tx k hk)).2.2.2 j hj
          omega
      · rw [up1_k a2]; exact W.ij k m hk hm ne j hj
  · by_cases a : k = i
    · subst a
      rw [up1_i] at hj
      rcases new j hj with h | h
      · exact W.ib k hk j h
      · exact ⟨by omega, fun m hm => by have := cl m hm; omega⟩
    · rw [up1_k a] at hj; exact W.ib k hk j hj
theorem ds_at : ∀ {k : Nat}, k < 3 → atD [obD 0, obD 3, obD 6] (k : Int) = some (obD (3 * k))
  | 0, _ => rfl
  | 1, _ => rfl
  | 2, _ => rfl
theorem c_at {c : Nat → Nat} : ∀ {k : Nat}, k < 3 → [bxD (c 0), bxD (c 1), bxD (c 2)][k]? = some (bxD (c k))
  | 0, _ => rfl
  | 1, _ => rfl
  | 2, _ => rfl
theorem txO_no (i : Nat) (x : Str) (h : (x == ("signs" : Str)) = false) (h2 : (x == ("marks" : Str)) = false) : noFd x (txO (i + 1) (i + 2)) = some () := noFd_ok (show List.lookup x [(("signs" : Str), Fd.d (obD (i + 1))), ("marks", .d (obD (i + 2)))] = none by rw [List.lookup, h]; dsimp only; rw [List.lookup, h2]; rfl)
theorem tell_loop1 {hs : List Str} {G : List Tq} (w : Gn hs G) (gl : G.length ≤ 60) {A B : List Tq} (gA : Lg G A) (gB : Lg G B) {b : Nat} {c : Nat → Nat} {X L : Nat → List Tq} {j : Nat} (hj : j < 3) (xj : X j = A) {st : Store} {is : Nat → List Nat} (W : Tw st b c is X L) (s1 s2 s4 s5 s6 : CM.Slot) :
    ∃ st' is' t6, Tw st' b c is' (up1 X j (A ++ sent A B)) L ∧ runFor (.v 6) l1__law_meet ((sent A B).map Tq.d) ⟨[.bo (.d (.list [obD 0, obD 3, obD 6])), s1, s2, .sh (.int (j : Int)), s4, s5, s6], st⟩ =
      some (.nx, ⟨[.bo (.d (.list [obD 0, obD 3, obD 6])), s1, s2, .sh (.int (j : Int)), s4, s5, t6], st'⟩) := by
  obtain ⟨r', f, st', is', t6, rfl, W'⟩ := for_inv (p := .v 6) (f := l1__law_meet) Tq.d (fun k r => ∃ (st' : Store) (is' : Nat → List Nat) (t6 : CM.Slot), r = (⟨[.bo (.d (.list [obD 0, obD 3, obD 6])), s1, s2, .sh (.int (j : Int)), s4, s5, t6], st'⟩ : CM.Env) ∧ Tw st' b c is' (up1 X j (A ++ (sent A B).take k)) L) (sent A B)
    ⟨[.bo (.d (.list [obD 0, obD 3, obD 6])), s1, s2, .sh (.int (j : Int)), s4, s5, s6], st⟩ ⟨st, is, s6, rfl, by
      rw [List.take_zero, List.append_nil, ← xj]
      have : up1 X j (X j) = X := funext fun k => by unfold up1; split <;> simp_all
      rw [this]; exact W⟩ fun k r d hI hd => by
    obtain ⟨st', is', t6, rfl, W'⟩ := hI
    have tk : (sent A B).take (k + 1) = (sent A B).take k ++ [d] := by rw [List.take_add_one, hd]; rfl
    have q := told_qk w gl gA gB (k + 1)
    rw [tk, ← List.append_assoc] at q
    obtain ⟨st2, is2, e, W2⟩ := hear_step W' hj (d := d) (by rw [up1_i]; exact q)
    rw [up1_i] at W2
    have uu : up1 (up1 X j (A ++ (sent A B).take k)) j (A ++ (sent A B).take k ++ [d]) = up1 X j (A ++ (sent A B).take (k + 1)) := funext fun m => by
      unfold up1
      split
      · rw [tk, List.append_assoc]
      · rfl
    rw [uu] at W2
    refine ⟨_, ?_, st2, is2, .sh d.d, rfl, W2⟩
    have ht := (W'.tx j hj).top
    have n1 := txO_no (3 * j) "hear" (by decide) (by decide)
    have k1 : (txO (3 * j + 1) (3 * j + 2)).cls = "Text" := rfl
    have da := ds_at hj
    obtain ⟨u, v, ed⟩ := d.tup
    obtain ⟨z, ez⟩ : ∃ z, z = d.d := ⟨_, rfl⟩
    rw [ed] at e ⊢
    clear W' W2 uu tk q
    generalize txO (3 * j + 1) (3 * j + 2) = o at *
    generalize [obD 0, obD 3, obD 6] = DK at *
    simp -implicitDefEqProofs (maxSteps := 2000000) (disch := first | omega | assumption | (simp; done) | (simp; omega)) [l1__law_meet, da, ht, n1, k1, e]
  rw [List.take_length] at W'
  exact ⟨st', is', t6, W', f⟩
theorem tell_loop2 {hs : List Str} {G : List Tq} (w : Gn hs G) (gl : G.length ≤ 60) {A B : List Tq} (gA : Lg G A) (gB : Lg G B) {b : Nat} {c : Nat → Nat} {X L : Nat → List Tq} {j : Nat} (hj : j < 3) (xj : X j = A) {st : Store} {is : Nat → List Nat} (W : Tw st b c is X L) (s1 s3 s4 s5 s6 : CM.Slot) :
    ∃ st' is' t6, Tw st' b c is' (up1 X j (A ++ sent A B)) L ∧ runFor (.v 6) l2__law_meet ((sent A B).map Tq.d) ⟨[.bo (.d (.list [obD 0, obD 3, obD 6])), s1, .sh (.int (j : Int)), s3, s4, s5, s6], st⟩ =
      some (.nx, ⟨[.bo (.d (.list [obD 0, obD 3, obD 6])), s1, .sh (.int (j : Int)), s3, s4, s5, t6], st'⟩) := by
  obtain ⟨r', f, st', is', t6, rfl, W'⟩ := for_inv (p := .v 6) (f := l2__law_meet) Tq.d (fun k r => ∃ (st' : Store) (is' : Nat → List Nat) (t6 : CM.Slot), r = (⟨[.bo (.d (.list [obD 0, obD 3, obD 6])), s1, .sh (.int (j : Int)), s3, s4, s5, t6], st'⟩ : CM.Env) ∧ Tw st' b c is' (up1 X j (A ++ (sent A B).take k)) L) (sent A B)
    ⟨[.bo (.d (.list [obD 0, obD 3, obD 6])), s1, .sh (.int (j : Int)), s3, s4, s5, s6], st⟩ ⟨st, is, s6, rfl, by
      rw [List.take_zero, List.append_nil, ← xj]
      have : up1 X j (X j) = X := funext fun k => by unfold up1; split <;> simp_all
      rw [this]; exact W⟩ fun k r d hI hd => by
    obtain ⟨st', is', t6, rfl, W'⟩ := hI
    have tk : (sent A B).take (k + 1) = (sent A B).take k ++ [d] := by rw [List.take_add_one, hd]; rfl
    have q := told_qk w gl gA gB (k + 1)
    rw [tk, ← List.append_assoc] at q
    obtain ⟨st2, is2, e, W2⟩ := hear_step W' hj (d := d) (by rw [up1_i]; exact q)
    rw [up1_i] at W2
    have uu : up1 (up1 X j (A ++ (sent A B).take k)) j (A ++ (sent A B).take k ++ [d]) = up1 X j (A ++ (sent A B).take (k + 1)) := funext fun m => by
      unfold up1
      split
      · rw [tk, List.append_assoc]
      · rfl
    rw [uu] at W2
    refine ⟨_, ?_, st2, is2, .sh d.d, rfl, W2⟩
    have ht := (W'.tx j hj).top
    have n1 := txO_no (3 * j) "hear" (by decide) (by decide)
    have k1 : (txO (3 * j + 1) (3 * j + 2)).cls = "Text" := rfl
    have da := ds_at hj
    obtain ⟨u, v, ed⟩ := d.tup
    rw [ed] at e ⊢
    clear W' W2 uu tk q
    generalize txO (3 * j + 1) (3 * j + 2) = o at *
    generalize [obD 0, obD 3, obD 6] = DK at *
    simp -implicitDefEqProofs (maxSteps := 2000000) (disch := first | omega | assumption | (simp; done) | (simp; omega)) [l2__law_meet, da, ht, n1, k1, e]
  rw [List.take_length] at W'
  exact ⟨st', is', t6, W', f⟩
section
variable {G L M : List Tq} (c : Con G) (sL : ∀ d ∈ L, d ∈ G) (sM : ∀ d ∈ M, d ∈ G) (b bj : Nat) (BL : List D) (J : Int) (st : Store)
  (h1 : bxLk st b = some (.d (.list BL))) (h2 : atD BL J = some (bxD bj)) (h3 : bxLk st bj = some (.d (.list (M.map Tq.d)))) (s0 s2 s3 s4 s5 : CM.Slot)
include c sL sM h1 h2 h3
theorem mc1 : runComp [6] (.v 6) ct1__law_meet ce1__law_meet (L.map Tq.d) ⟨[s0, .sh (bxD b), s2, .sh (.int J), s4, s5, .no], st⟩ = some ((sent M L).map Tq.d, ⟨[s0, .sh (bxD b), s2, .sh (.int J), s4, s5, .no], st⟩) :=
  comp_flt (vs := [6]) (p := .v 6) (t := ct1__law_meet) (a := ce1__law_meet) Tq.d (Unk M) Tq.d _ L fun d hd => by
    have n := notin_ev c sM (sL d hd)
    obtain ⟨x, y, e⟩ := d.tup
    rw [e] at n ⊢
    generalize M.map Tq.d = MD at *
    cases q : Unk M d <;> rw [q] at n <;> simp -implicitDefEqProofs (maxSteps := 2000000) (disch := first | omega | assumption | (simp; done) | (simp; omega)) [compStep, ct1__law_meet, ce1__law_meet, h1, h2, h3, n]
theorem mc2 : runComp [6] (.v 6) ct2__law_meet ce2__law_meet (L.map Tq.d) ⟨[s0, .sh (bxD b), .sh (.int J), s3, s4, s5, .no], st⟩ = some ((sent M L).map Tq.d, ⟨[s0, .sh (bxD b), .sh (.int J), s3, s4, s5, .no], st⟩) :=
  comp_flt (vs := [6]) (p := .v 6) (t := ct2__law_meet) (a := ce2__law_meet) Tq.d (Unk M) Tq.d _ L fun d hd => by
    have n := notin_ev c sM (sL d hd)
    obtain ⟨x, y, e⟩ := d.tup
    rw [e] at n ⊢
    generalize M.map Tq.d = MD at *
    cases q : Unk M d <;> rw [q] at n <;> simp -implicitDefEqProofs (maxSteps := 2000000) (disch := first | omega | assumption | (simp; done) | (simp; omega)) [compStep, ct2__law_meet, ce2__law_meet, h1, h2, h3, n]
end
theorem bxLk_lok {st : Store} {n m : Nat} {c c' : C} (h : bxAt st n = some c') (ne : n ≠ m) : bxLk (bxLok st m c) n = some c' := bxLk_of (by rw [bxAt_same (bxLok_ne ne)]; exact h)
theorem a_meet {G L M : List Tq} (c : Con G) (sL : ∀ d ∈ L, d ∈ G) (sM : ∀ d ∈ M, d ∈ G) (lL : L.length ≤ 1000) (lM : M.length ≤ 1000) {b bi bj : Nat} {I J : Int} {ds BL : List D} {st : Store}
    (hb : bxAt st b = some (.d (.list BL))) (ai : atD BL I = some (bxD bi)) (aj : atD BL J = some (bxD bj)) (li : bxAt st bi = some (.d (.list (L.map Tq.d)))) (lj : bxAt st bj = some (.d (.list (M.map Tq.d)))) (n1 : b ≠ bi) (n2 : b ≠ bj) (n3 : bi ≠ bj) :
    b__law_meet ⟨[.bo (.d (.list ds)), .sh (bxD b), .sh (.int I), .sh (.int J), .no, .no, .no], st⟩ =
      k3__law_meet ⟨[.bo (.d (.list ds)), .sh (bxD b), .sh (.int I), .sh (.int J), .ow (.d (.list ((sent M L).map Tq.d))), .ow (.d (.list ((sent L M).map Tq.d))), .no], st⟩ := by
  have b1 := bxLk_of hb
  have b2 := bxLk_of li
  have b3 := bxLk_of lj
  have e1 := bxLend_of li
  have e2 := bxLend_of lj
  have k1 := bxLock_of li
  have k2 := bxLock_of lj
  have u1 := bxUn_of li
  have u2 := bxUn_of lj
  have m1 := fun s0 s2 s4 s5 => mc1 c sL sM b bj BL J (bxLok st bi (.d (.list (L.map Tq.d)))) (bxLk_lok hb n1) aj (bxLk_lok lj n3.symm) s0 s2 s4 s5
  have m2 := fun s0 s3 s4 s5 => mc2 c sM sL b bi BL I (bxLok st bj (.d (.list (M.map Tq.d)))) (bxLk_lok hb n2) ai (bxLk_lok li n3) s0 s3 s4 s5
  have c1 : (L.map Tq.d).length ≤ 1000 := by rw [List.length_map]; exact lL
  have c2 : (M.map Tq.d).length ≤ 1000 := by rw [List.length_map]; exact lM
  clear hb li lj n1 n2 n3 c sL sM lL lM
  generalize (sent M L).map Tq.d = SM at *
  generalize (sent L M).map Tq.d = SB at *
  generalize L.map Tq.d = LD at *
  generalize M.map Tq.d = MD at *
  generalize bxLok st bi (.d (.list LD)) = st1 at *
  generalize bxLok st bj (.d (.list MD)) = st2 at *
  simp -implicitDefEqProofs (maxSteps := 2000000) (disch := first | omega | assumption | (simp; done) | (simp; omega)) [b__law_meet, ai, aj, b1, b2, b3, e1, e2, k1, k2, u1, u2, m1, m2]
theorem bxLk_app {st : Store} {o : Ob} {n : Nat} {c : C} (h : bxAt st n = some c) : bxAt (st ++ [o]) n = some c := by rw [bxAt_app (bxAt_lt h)]; exact h
def mvS (st : Store) (b : Nat) (c d : C) : Store := bxPut (st ++ [bxO c]) b d
theorem mvS_len (st : Store) (b : Nat) (c d : C) : (mvS st b c d).length = st.length + 1 := by unfold mvS; rw [bxPut_len]; simp
theorem mvS_b {st : Store} {b : Nat} {c d e : C} (h : bxAt st b = some e) : bxAt (mvS st b c d) b = some d := by
  have := bxAt_lt h
  unfold mvS
  rw [bxPut_at (by rw [List.length_append]; omega), if_pos rfl]
theorem mvS_at {st : Store} {b n : Nat} {c d e f : C} (h : bxAt st b = some e) (hn : bxAt st n = some f) (ne : b ≠ n) : bxAt (mvS st b c d) n = some f := by
  have := bxAt_lt h
  unfold mvS
  rw [bxPut_at (by rw [List.length_append]; omega), if_neg ne]
  exact bxLk_app hn
theorem mvS_new {st : Store} {b : Nat} {c d e : C} (h : bxAt st b = some e) : bxAt (mvS st b c d) st.length = some c := by
  have := bxAt_lt h
  unfold mvS
  rw [bxPut_at (by rw [List.length_append]; omega), if_neg (by omega)]
  exact bxAt_new
theorem mvS_st {st : Store} {b k : Nat} {c d : C} (ne : b ≠ k) (hk : k < st.length) : (mvS st b c d)[k]? = st[k]? := by
  unfold mvS bxPut
  rw [stPut_at, List.getElem?_append_left hk]
  cases st[k]? with
  | none => rfl
  | some o => simp [ne]
theorem k2_meet {st : Store} {b bi bj : Nat} {BL : List D} {I J : Int} {A B S T : List D} (FJ FI : D → List D) (hb : bxAt st b = some (.d (.list BL)))
    (pj : ∀ y, lSetC (.d (.list BL)) (.d (.int J)) y = some (.d (.list (FJ y)))) (pi : ∀ y, lSetC (.d (.list (FJ (bxD st.length)))) (.d (.int I)) y = some (.d (.list (FI y))))
    (hj : atD BL J = some (bxD bj)) (hi : atD (FJ (bxD st.length)) I = some (bxD bi)) (lj : bxAt st bj = some (.d (.list A))) (li : bxAt st bi = some (.d (.list B))) (ni : b ≠ bi) (l1 : (A ++ S).length ≤ 1000) (l2 : (B ++ T).length ≤ 1000) (s0 s6 : CM.Slot) :
    k2__law_meet ⟨[s0, .sh (bxD b), .sh (.int I), .sh (.int J), .ow (.d (.list S)), .ow (.d (.list T)), s6], st⟩ =
      k1__law_meet ⟨[s0, .sh (bxD b), .sh (.int I), .sh (.int J), .ow (.d (.list S)), .ow (.d (.list T)), s6], mvS (mvS st b (.d (.list (A ++ S))) (.d (.list (FJ (bxD st.length))))) b (.d (.list (B ++ T))) (.d (.list (FI (bxD (st.length + 1)))))⟩ := by
  have a1 := bxLk_of hb
  have a2 := bxLk_of lj
  have b1 := bxLk_of (mvS_b (c := .d (.list (A ++ S))) (d := .d (.list (FJ (bxD st.length)))) hb)
  have b2 := bxLk_of (mvS_at (c := .d (.list (A ++ S))) (d := .d (.list (FJ (bxD st.length)))) hb li ni)
  have c1 := bxLk_app (o := bxO (.d (.list (A ++ S)))) hb
  have c2 := bxLk_of c1
  have d1 := bxLk_app (o := bxO (.d (.list (B ++ T)))) (mvS_b (c := .d (.list (A ++ S))) (d := .d (.list (FJ (bxD st.length)))) hb)
  have d2 := bxLk_of d1
  have len := mvS_len st b (.d (.list (A ++ S))) (.d (.list (FJ (bxD st.length))))
  have m1 : bxPut (st ++ [bxO (.d (.list (A ++ S)))]) b (.d (.list (FJ (bxD st.length)))) = mvS st b (.d (.list (A ++ S))) (.d (.list (FJ (bxD st.length)))) := rfl
  generalize mvS st b (.d (.list (A ++ S))) (.d (.list (FJ (bxD st.length)))) = st1 at *
  have m2 : bxPut (st1 ++ [bxO (.d (.list (B ++ T)))]) b (.d (.list (FI (bxD (st.length + 1))))) = mvS st1 b (.d (.list (B ++ T))) (.d (.list (FI (bxD (st.length + 1))))) := rfl
  generalize mvS st1 b (.d (.list (B ++ T))) (.d (.list (FI (bxD (st.length + 1))))) = st2 at *
  have g1 : gAdd (.d (.list A)) (.d (.list S)) = some (.fr (.d (.list (A ++ S)))) := if_pos (by rw [List.length_append] at l1; omega)
  have g2 : gAdd (.d (.list B)) (.d (.list T)) = some (.fr (.d (.list (B ++ T)))) := if_pos (by rw [List.length_append] at l2; omega)
  clear l1 l2 lj li ni
  generalize A ++ S = AS at *
  generalize B ++ T = BT at *
  simp -implicitDefEqProofs (maxSteps := 2000000) (disch := first | omega | assumption | (simp; done) | (simp; omega)) [k2__law_meet, g1, g2, a1, a2, hj, hi, pj, pi, b1, b2, c1, c2, d1, d2, len, m1, m2]
def up2 {α : Type} (f : Nat → α) (j : Nat) (x : α) (i : Nat) (y : α) : Nat → α := fun k => if k = i then y else if k = j then x else f k
theorem up2_i {α : Type} {f : Nat → α} {j i : Nat} {x y : α} : up2 f j x i y i = y := if_pos rfl
theorem up2_j {α : Type} {f : Nat → α} {j i : Nat} {x y : α} (ne : i ≠ j) : up2 f j x i y j = x := by
  unfold up2
  rw [if_neg (fun z => ne z.symm), if_pos rfl]
theorem up2_k {α : Type} {f : Nat → α} {j i k : Nat} {x y : α} (h1 : k ≠ i) (h2 : k ≠ j) : up2 f j x i y k = f k := by
  unfold up2
  rw [if_neg h1, if_neg h2]
theorem lset_nat {xs : List D} {j : Nat} (h : j < xs.length) (y : D) : lSetC (.d (.list xs)) (.d (.int (j : Int))) y = some (.d (.list (xs.set j y))) := by
  show (plc xs.length (j : Int)).bind (fun n => some (C.d (.list (xs.set n y)))) = _
  have : plc xs.length (j : Int) = some j := by
    unfold plc
    rw [if_pos (by omega), if_pos (by omega), Int.toNat_natCast]
  rw [this]; rfl
theorem up2_list {c : Nat → Nat} {x y : Nat} {i j : Nat} (hi : i < 3) (hj : j < 3) (ij : i ≠ j) : ([bxD (c 0), bxD (c 1), bxD (c 2)].set j (bxD x)).set i (bxD y) = [bxD (up2 c j x i y 0), bxD (up2 c j x i y 1), bxD (up2 c j x i y 2)] := by
  have h1 : i = 0 ∨ i = 1 ∨ i = 2 := by omega
  have h2 : j = 0 ∨ j = 1 ∨ j = 2 := by omega
  rcases h1 with rfl | rfl | rfl <;> rcases h2 with rfl | rfl | rfl <;> first | rfl | exact absurd rfl ij
theorem TxAt.mv {st : Store} {b i : Nat} {c d : C} {is : List Nat} {l : List Sg} {ms : List Mr} (t : TxAt st i is l ms) (h : i ≠ b ∧ i + 1 ≠ b ∧ i + 2 ≠ b ∧ ∀ j ∈ is, j ≠ b) : TxAt (mvS st b c d) i is l ms := by
  have lt := tx_lt t
  refine t.frame fun j hj => ?_
  rcases hj with rfl | rfl | rfl | hj
  · exact mvS_st (fun z => h.1 z.symm) lt.1
  · exact mvS_st (fun z => h.2.1 z.symm) lt.2.1
  · exact mvS_st (fun z => h.2.2.1 z.symm) lt.2.2.1
  · exact mvS_st (fun z => h.2.2.2 j hj z.symm) (lt.2.2.2 j hj)
theorem fl_tt (l : List Sg) (ms : List Mr) : Fl 4 (.list (txTold l ms)) := Fl.l (k := 3) fun x hx => by
  unfold txTold at hx
  obtain ⟨r, _, rfl⟩ := List.mem_map.mp hx
  exact .t fun y hy => by
    rcases List.mem_cons.mp hy with rfl | hy
    · exact pd_fl _
    rcases List.mem_cons.mp hy with rfl | hy
    · exact .s _
    rw [List.mem_singleton.mp hy]; exact (fl_strs _).up (by decide)
theorem k1_meet {hs : List Str} {G A B : List Tq} (w : Gn hs G) (gl : G.length ≤ 60) (gA : Lg G A) (gB : Lg G B) (same : ∀ d, d ∈ A ↔ d ∈ B) {st : Store} {i j : Nat} {isA isB : List Nat} (TA' : TxAt st (3 * i) isA (txQ A).1 (txQ A).2) (TB : TxAt st (3 * j) isB (txQ B).1 (txQ B).2) (hi : i < 3) (hj : j < 3) (s1 s4 s5 s6 : CM.Slot) :
    k1__law_meet ⟨[.bo (.d (.list [obD 0, obD 3, obD 6])), s1, .sh (.int (i : Int)), .sh (.int (j : Int)), s4, s5, s6], st⟩ = some (.rt (.sh (.bool true)), ⟨[.bo (.d (.list [obD 0, obD 3, obD 6])), s1, .sh (.int (i : Int)), .sh (.int (j : Int)), s4, s5, s6], st⟩) := by
  have qA := gA.qk w gl
  have qB := gB.qk w gl
  have xA := (tx_of qA).ok
  have xB := (tx_of qB).ok
  have lA := qA.ll
  have lB := qB.ll
  have few : ∀ {n : Nat} {l : List Sg} {ms : List Mr}, TxOk n l ms → n ≤ 200 → l.length ≤ 4000 ∧ ms.length ≤ 4000 ∧ (∀ m ∈ ms, MrOk m) ∧ ∀ m ∈ ms, m.hs.length ≤ 4000 := fun {n l ms} T h => ⟨by have := T.ll; omega, by have := T.ml; omega, fun m hm => (T.mo m hm).1, fun m hm => by have := (T.mo m hm).2; omega⟩
  obtain ⟨a1, a2, a3, a4⟩ := few xA lA
  obtain ⟨b1, b2, b3, b4⟩ := few xB lB
  have tA := ttold_ev TA' xA.ok a3 a1 a2
  have tB := ttold_ev TB xB.ok b3 b1 b2
  have te := told_one gA gB qA qB same
  rw [← te] at tB
  have mA := lmarks_ev TA' a1 a2 a4
  have mB := lmarks_ev TB b1 b2 b4
  rw [← marks_one gA gB same] at mB
  have ne : gNe (.d (.list (txTold (txQ A).1 (txQ A).2))) (.d (.list (txTold (txQ A).1 (txQ A).2))) = some (.sh (.bool false)) := by
    have e := eq_self (fl_tt (txQ A).1 (txQ A).2) (by decide)
    rw [gNe_d e.2, e.1]; rfl
  have eq : gEq (.d (.list (sortD ((txQ A).2.map lrow)))) (.d (.list (sortD ((txQ A).2.map lrow)))) = some (.sh (.bool true)) := by
    have f : Fl 6 (.list (sortD ((txQ A).2.map lrow))) := Fl.l (k := 5) fun x hx => by
      obtain ⟨m, _, rfl⟩ := List.mem_map.mp (sortD_mem.mp hx)
      exact lrow_fl m
    have e := eq_self f (by decide)
    rw [gEq_d e.2, e.1]; rfl
  have hA := TA'.top
  have hB := TB.top
  have n1 := txO_no (3 * i) "told" (by decide) (by decide)
  have n2 := txO_no (3 * j) "told" (by decide) (by decide)
  have k1 : (txO (3 * i + 1) (3 * i + 2)).cls = "Text" := rfl
  have k2 : (txO (3 * j + 1) (3 * j + 2)).cls = "Text" := rfl
  have di := ds_at hi
  have dj := ds_at hj
  clear te gA gB qA qB xA xB few a3 a4 b3 b4 same w TA' TB
  generalize txTold (txQ A).1 (txQ A).2 = TT at *
  generalize sortD ((txQ A).2.map lrow) = SR at *
  generalize txO (3 * i + 1) (3 * i + 2) = oi at *
  generalize txO (3 * j + 1) (3 * j + 2) = oj at *
  generalize [obD 0, obD 3, obD 6] = DK at *
  simp -implicitDefEqProofs (maxSteps := 2000000) (disch := first | omega | assumption | (simp; done) | (simp; omega)) [k1__law_meet, di, dj, hA, hB, n1, n2, k1, k2, tA, tB, ne, mA, mB, eq]
structure Kw (hs : List Str) (G : List Tq) (L : Nat → List Tq) : Prop where
  w : Gn hs G
  lg : ∀ k, k < 3 → Lg G (L k)
  own : ∀ k, k < 3 → ∀ d ∈ G, hs[k]? = some d.h → d ∈ L k
theorem meet_ev {hs : List Str} {G : List Tq} {st : Store} {b : Nat} {c : Nat → Nat} {is : Nat → List Nat} {L : Nat → List Tq} (W : Tw st b c is L L) (K : Kw hs G L) (gl : G.length ≤ 60) {i j : Nat} (hi : i < 3) (hj : j < 3) (ij : i ≠ j) :
    ∃ st' c' is' L', d__law_meet [.d (.list [obD 0, obD 3, obD 6]), .d (bxD b), .d (.int (i : Int)), .d (.int (j : Int))] st = some (.sh (.bool true), st') ∧ Tw st' b c' is' L' L' ∧ Kw hs G L' ∧
      (∀ d, d ∈ L' i ↔ d ∈ L i ∨ d ∈ L j) ∧ (∀ d, d ∈ L' j ↔ d ∈ L i ∨ d ∈ L j) ∧ ∀ k, k ≠ i → k ≠ j → L' k = L k := by
  have w := K.w
  have gi := K.lg i hi
  have gj := K.lg j hj
  have ci := lg_len gi
  have cj := lg_len gj
  have i3 := ds_at hi
  have j3 := ds_at hj
  have ai : atD [bxD (c 0), bxD (c 1), bxD (c 2)] (i : Int) = some (bxD (c i)) := atD_nat (c_at hi)
  have aj : atD [bxD (c 0), bxD (c 1), bxD (c 2)] (j : Int) = some (bxD (c j)) := atD_nat (c_at hj)
  have A := a_meet (ds := [obD 0, obD 3, obD 6]) w.con gi.sub gj.sub (by omega) (by omega) W.ob ai aj (W.bx i hi) (W.bx j hj) (W.cb i hi) (W.cb j hj) (W.cj i j hi hj ij)
  obtain ⟨stA, isA, t6, WA, f1⟩ := tell_loop1 w gl gj gi hj rfl W (.sh (bxD b)) (.sh (.int (i : Int))) (.lk (.d (.list ((sent (L j) (L i)).map Tq.d)))) (.ow (.d (.list ((sent (L i) (L j)).map Tq.d)))) .no
  obtain ⟨st1, is1, t7, W1, f2⟩ := tell_loop2 w gl gi gj hi (up1_k (fun z => ij z)) WA (.sh (bxD b)) (.sh (.int (j : Int))) (.ow (.d (.list ((sent (L j) (L i)).map Tq.d)))) (.lk (.d (.list ((sent (L i) (L j)).map Tq.d)))) t6
  have mi : ∀ d, d ∈ L i ++ sent (L i) (L j) ↔ d ∈ L i ∨ d ∈ L j := told_all w.con gi gj
  have mj : ∀ d, d ∈ L j ++ sent (L j) (L i) ↔ d ∈ L i ∨ d ∈ L j := fun d => (told_all w.con gj gi d).trans Or.comm
  have ni := Lg.all w.con gi gj
  have nj := Lg.all w.con gj gi
  have cni := lg_len ni
  have cnj := lg_len nj
  have X2 : up1 (up1 L j (L j ++ sent (L j) (L i))) i (L i ++ sent (L i) (L j)) = up2 L j (L j ++ sent (L j) (L i)) i (L i ++ sent (L i) (L j)) := rfl
  rw [X2] at W1
  have b9 := W1.b9
  have bl : b < st1.length := bxAt_lt W1.ob
  have cl : ∀ k, k < 3 → c k < st1.length := fun k hk => bxAt_lt (W1.bx k hk)
  have ai2 : atD ([bxD (c 0), bxD (c 1), bxD (c 2)].set j (bxD st1.length)) (i : Int) = some (bxD (c i)) := atD_nat (by rw [List.getElem?_set_ne (fun z => ij z.symm)]; exact c_at hi)
  have Cx := k2_meet (st := st1) (S := (sent (L j) (L i)).map Tq.d) (T := (sent (L i) (L j)).map Tq.d) (fun y => [bxD (c 0), bxD (c 1), bxD (c 2)].set j y) (fun y => ([bxD (c 0), bxD (c 1), bxD (c 2)].set j (bxD st1.length)).set i y) W1.ob (lset_nat hj) (lset_nat (by rw [List.length_set]; exact hi)) aj ai2 (W1.bx j hj) (W1.bx i hi) (W1.cb i hi) (by rw [← List.map_append, List.length_map]; omega) (by rw [← List.map_append, List.length_map]; omega) (.bo (.d (.list [obD 0, obD 3, obD 6]))) t7
  have p1 := mvS_len st1 b (.d (.list ((L j).map Tq.d ++ (sent (L j) (L i)).map Tq.d))) (.d (.list ([bxD (c 0), bxD (c 1), bxD (c 2)].set j (bxD st1.length))))
  have q1 := mvS_b (c := .d (.list ((L j).map Tq.d ++ (sent (L j) (L i)).map Tq.d))) (d := .d (.list ([bxD (c 0), bxD (c 1), bxD (c 2)].set j (bxD st1.length)))) W1.ob
  have o1 := mvS_new (c := .d (.list ((L j).map Tq.d ++ (sent (L j) (L i)).map Tq.d))) (d := .d (.list ([bxD (c 0), bxD (c 1), bxD (c 2)].set j (bxD st1.length)))) W1.ob
  have v1 := fun k hk => mvS_at (c := .d (.list ((L j).map Tq.d ++ (sent (L j) (L i)).map Tq.d))) (d := .d (.list ([bxD (c 0), bxD (c 1), bxD (c 2)].set j (bxD st1.length)))) W1.ob (W1.bx k hk) (W1.cb k hk)
  have away : ∀ k, k < 3 → 3 * k ≠ b ∧ 3 * k + 1 ≠ b ∧ 3 * k + 2 ≠ b ∧ ∀ x ∈ is1 k, x ≠ b := fun k hk => ⟨by omega, by omega, by omega, fun x hx => (W1.ib k hk x hx).1⟩
  have y1 := fun k (hk : k < 3) => (W1.tx k hk).mv (c := .d (.list ((L j).map Tq.d ++ (sent (L j) (L i)).map Tq.d))) (d := .d (.list ([bxD (c 0), bxD (c 1), bxD (c 2)].set j (bxD st1.length)))) (away k hk)
  generalize mvS st1 b (.d (.list ((L j).map Tq.d ++ (sent (L j) (L i)).map Tq.d))) (.d (.list ([bxD (c 0), bxD (c 1), bxD (c 2)].set j (bxD st1.length)))) = st2 at *
  have q2 := mvS_b (c := .d (.list ((L i).map Tq.d ++ (sent (L i) (L j)).map Tq.d))) (d := .d (.list (([bxD (c 0), bxD (c 1), bxD (c 2)].set j (bxD st1.length)).set i (bxD (st1.length + 1))))) q1
  have o2 := mvS_new (c := .d (.list ((L i).map Tq.d ++ (sent (L i) (L j)).map Tq.d))) (d := .d (.list (([bxD (c 0), bxD (c 1), bxD (c 2)].set j (bxD st1.length)).set i (bxD (st1.length + 1))))) q1
  have v2 := fun k hk => mvS_at (c := .d (.list ((L i).map Tq.d ++ (sent (L i) (L j)).map Tq.d))) (d := .d (.list (([bxD (c 0), bxD (c 1), bxD (c 2)].set j (bxD st1.length)).set i (bxD (st1.length + 1))))) q1 (v1 k hk) (W1.cb k hk)
  have n2 := mvS_at (c := .d (.list ((L i).map Tq.d ++ (sent (L i) (L j)).map Tq.d))) (d := .d (.list (([bxD (c 0), bxD (c 1), bxD (c 2)].set j (bxD st1.length)).set i (bxD (st1.length + 1))))) q1 o1 (by omega)
  have y2 := fun k (hk : k < 3) => (y1 k hk).mv (c := .d (.list ((L i).map Tq.d ++ (sent (L i) (L j)).map Tq.d))) (d := .d (.list (([bxD (c 0), bxD (c 1), bxD (c 2)].set j (bxD st1.length)).set i (bxD (st1.length + 1))))) (away k hk)
  have Cx : _ = k1__law_meet ⟨_, mvS st2 b (.d (.list ((L i).map Tq.d ++ (sent (L i) (L j)).map Tq.d))) (.d (.list (([bxD (c 0), bxD (c 1), bxD (c 2)].set j (bxD st1.length)).set i (bxD (st1.length + 1)))))⟩ := Cx
  generalize mvS st2 b (.d (.list ((L i).map Tq.d ++ (sent (L i) (L j)).map Tq.d))) (.d (.list (([bxD (c 0), bxD (c 1), bxD (c 2)].set j (bxD st1.length)).set i (bxD (st1.length + 1))))) = st3 at *
  have xi := y2 i hi
  have xj := y2 j hj
  rw [up2_i] at xi
  rw [up2_j ij] at xj
  have e := k1_meet w gl ni nj (fun d => (mi d).trans (mj d).symm) xi xj hi hj (.sh (bxD b)) (.ow (.d (.list ((sent (L j) (L i)).map Tq.d)))) (.ow (.d (.list ((sent (L i) (L j)).map Tq.d)))) t7
  refine ⟨st3, up2 c j st1.length i (st1.length + 1), is1, up2 L j (L j ++ sent (L j) (L i)) i (L i ++ sent (L i) (L j)), ?_, ⟨y2, ?_, fun k hk => ?_, b9, fun k hk => ?_, fun k hk => ?_, fun k m hk hm ne => ?_, W1.ii, W1.ij, fun k hk x hx => ⟨(W1.ib k hk x hx).1, fun m hm => ?_⟩⟩, ⟨w, fun k hk => ?_, fun k hk d hd eh => ?_⟩, fun d => ?_, fun d => ?_, fun k h1 h2 => up2_k h1 h2⟩
  · clear y1 y2 o1 o2 q1 q2 v1 v2 n2 W W1 WA K mi mj ni nj gi gj away xi xj w X2
    generalize (sent (L j) (L i)).map Tq.d = S1 at *
    generalize (sent (L i) (L j)).map Tq.d = S2 at *
    generalize [obD 0, obD 3, obD 6] = DK at *
    generalize (i : Int) = I at *
    generalize (j : Int) = J at *
    have E : b__law_meet ⟨[.bo (.d (.list DK)), .sh (bxD b), .sh (.int I), .sh (.int J), .no, .no, .no], st⟩ = _ := A
    have B : k3__law_meet ⟨[.bo (.d (.list DK)), .sh (bxD b), .sh (.int I), .sh (.int J), .ow (.d (.list S1)), .ow (.d (.list S2)), .no], st⟩ = k2__law_meet ⟨[.bo (.d (.list DK)), .sh (bxD b), .sh (.int I), .sh (.int J), .ow (.d (.list S1)), .ow (.d (.list S2)), t7], st1⟩ := by
      clear A E Cx e
      simp -implicitDefEqProofs (maxSteps := 2000000) (disch := first | omega | assumption | (simp; done) | (simp; omega)) [k3__law_meet, f1, f2]
    have Z := (E.trans (B.trans Cx)).trans e
    clear A E B Cx e f1 f2
    simp -implicitDefEqProofs (maxSteps := 2000000) (disch := first | omega | assumption | (simp; done) | (simp; omega)) [d__law_meet, Z]
  · rw [up2_list hi hj ij] at q2; exact q2
  · by_cases a : k = i
    · subst a; rw [up2_i, up2_i, List.map_append, ← p1]; exact o2
    · by_cases e : k = j
      · subst e; rw [up2_j ij, up2_j ij, List.map_append]; exact n2
      · rw [up2_k a e, up2_k a e]; exact v2 k hk
  · have := W1.c9 k hk
    unfold up2; split
    · omega
    · split <;> omega
  · have := W1.cb k hk
    unfold up2; split
    · omega
    · split <;> omega
  · have h1 := cl k hk
    have h2 := cl m hm
    have h3 := W1.cj k m hk hm ne
    unfold up2
    repeat' split
    all_goals omega
  · have h1 := (W1.ib k hk x hx).2 m hm
    have h2 := (tx_lt (W1.tx k hk)).2.2.2 x hx
    unfold up2
    repeat' split
    all_goals omega
  · by_cases a : k = i
    · subst a; rw [up2_i]; exact ni
    · by_cases e : k = j
      · subst e; rw [up2_j ij]; exact nj
      · rw [up2_k a e]; exact K.lg k hk
  · have o := K.own k hk d hd eh
    by_cases a : k = i
    · subst a; rw [up2_i]; exact (mi d).mpr (.inl o)
    · by_cases e : k = j
      · subst e; rw [up2_j ij]; exact (mj d).mpr (.inr o)
      · rw [up2_k a e]; exact o
  · rw [up2_i]; exact mi d
  · rw [up2_j ij]; exact mj d
theorem bxPut_st {st : Store} {n k : Nat} {c : C} (ne : n ≠ k) : (bxPut st n c)[k]? = st[k]? := by
  unfold bxPut
  rw [stPut_at]
  cases st[k]? with
  | none => rfl
  | some o => simp [ne]
theorem Tw.put {st : Store} {b : Nat} {c : Nat → Nat} {is : Nat → List Nat} {X L : Nat → List Tq} (W : Tw st b c is X L) {i : Nat} (hi : i < 3) (M : List Tq) : Tw (bxPut st (c i) (.d (.list (M.map Tq.d)))) b c is X (up1 L i M) := by
  have cl : c i < st.length := bxAt_lt (W.bx i hi)
  have c9 := W.c9 i hi
  refine ⟨fun k hk => ?_, ?_, fun k hk => ?_, W.b9, W.c9, W.cb, W.cj, W.ii, W.ij, W.ib⟩
  · refine (W.tx k hk).frame fun j hj => bxPut_st ?_
    rcases hj with rfl | rfl | rfl | hj
    · omega
    · omega
    · omega
    · exact fun z => (W.ib k hk j hj).2 i hi z.symm
  · rw [bxPut_at cl, if_neg (fun z => W.cb i hi z.symm)]; exact W.ob
  · rw [bxPut_at cl]
    by_cases a : k = i
    · subst a; rw [if_pos rfl, up1_i]
    · rw [if_neg (W.cj i k hi hk (fun z => a z.symm)), up1_k a]; exact W.bx k hk
structure S46 (hs : List Str) (k : Nat) (st : Store) (b : Nat) (G : List Tq) (L : Nat → List Tq) (c : Nat → Nat) (is : Nat → List Nat) : Prop where
  W : Tw st b c is L L
  K : Kw hs G L
  gk : G.length ≤ k
  up : ∀ r ∈ wrL G, bef [] r.1 = true ∧ r.1.length ≤ 4 * G.length
  un : ∀ d ∈ G, (d.sn.map (·.1)).Nodup ∧ d.sn.length ≤ 1000
  gc : ∀ d ∈ G, d.gone.length ≤ 400
def I46 (hs : List Str) (s0 : CM.Slot) (b : Nat) (k : Nat) (r : CM.Env) : Prop := ∃ (st : Store) (s1 s5 s6 s7 s8 s9 : CM.Slot),
  r = (⟨[s0, s1, .ow (.d (.list (hs.map PyData.str))), .ow (.d (.list [obD 0, obD 3, obD 6])), .sh (bxD b), s5, s6, s7, s8, s9, .no, .no, .no, .no, .no, .no, .no, .no, .no], st⟩ : CM.Env) ∧ ∃ G L c is, S46 hs k st b G L c is
theorem meet_turn {hs : List Str} {s0 : CM.Slot} {b k : Nat} (kk : k ≤ 40) {G : List Tq} {L : Nat → List Tq} {c : Nat → Nat} {is : Nat → List Nat} {st : Store} (I : S46 hs k st b G L c is) (x : Int) (h3 : x / 3 % 4 = 3) (s5 s6 s7 s8 s9 : CM.Slot) :
    ∃ r2, l1_law ⟨[s0, .sh (.int x), .ow (.d (.list (hs.map PyData.str))), .ow (.d (.list [obD 0, obD 3, obD 6])), .sh (bxD b), s5, s6, s7, s8, s9, .no, .no, .no, .no, .no, .no, .no, .no, .no], st⟩ = some (.nx, r2) ∧ I46 hs s0 b (k + 1) r2 := by
  obtain ⟨i, hi⟩ : ∃ i : Nat, x % 3 = (i : Int) := ⟨(x % 3).toNat, by omega⟩
  obtain ⟨j, hj⟩ : ∃ j : Nat, ((i : Int) + 1 + x / 12 % 2) % 3 = (j : Int) := ⟨(((i : Int) + 1 + x / 12 % 2) % 3).toNat, by omega⟩
  have i3 : i < 3 := by omega
  have j3 : j < 3 := by omega
  have ij : i ≠ j := by omega
  have gk := I.gk
  obtain ⟨st', c', is', L', M, W', K', _, _, _⟩ := meet_ev I.W I.K (by omega) i3 j3 ij
  refine ⟨_, ?_, st', .sh (.int x), .sh (.int (i : Int)), s6, s7, s8, s9, rfl, G, L', c', is', ⟨W', K', by omega, I.up, I.un, I.gc⟩⟩
  clear I W' K'
  generalize hs.map PyData.str = HS at *
  generalize [obD 0, obD 3, obD 6] = DK at *
  generalize (i : Int) = ii at *
  generalize (j : Int) = jj at *
  simp -implicitDefEqProofs (maxSteps := 2000000) (disch := first | omega | assumption | (simp; done) | (simp; omega)) [l1_law, h3, hi, hj, M]
theorem gap_len {l : List Sp} {r : Option (List Sp)} {N : Nat} (hl : l.length ≤ N) (hr : ∀ x, r = some x → x.length ≤ N) : (gapP l r).1.length ≤ N := by
  cases r with
  | none => exact hl
  | some x =>
    unfold gapP
    dsimp only
    split
    · exact hr x rfl
    · exact hl
theorem alive_in {L : List Tq} {l : List Sg} (pm : l.Perm (alive L)) {r : Sg} (h : r ∈ l) : r ∈ wrL L := (List.mem_filter.mp (pm.mem_iff.mp h)).1
theorem act_ok {G L : List Tq} {l : List Sg} (asc : Asc l) (ok : ∀ r ∈ l, Pk r.1) (pm : l.Perm (alive L)) (s : ∀ d ∈ L, d ∈ G) (gl : G.length ≤ 40) (up : ∀ r ∈ wrL G, bef [] r.1 = true ∧ r.1.length ≤ 4 * G.length) {a : TA} (A : A46 l a) :
    a.ok ∧ (∀ h n sn, ∀ p ∈ (⟨h, n, sn, a⟩ : Tq).gone, ∃ r ∈ wrL L, r.1 = p) ∧ ∀ h n, ∀ sn, h.cps.size ≤ 8 → ∀ r ∈ wrL (G ++ [⟨h, n, sn, a⟩]), bef [] r.1 = true ∧ r.1.length ≤ 4 * (G ++ [(⟨h, n, sn, a⟩ : Tq)]).length := by
  have ups : ∀ r ∈ l, bef [] r.1 = true ∧ r.1.length ≤ 4 * G.length := fun r hr => up r (mem_wrL_sub s (alive_in pm hr))
  have upl : Up l := fun r hr => (ups r hr).1
  have old : ∀ (e : Tq), ∀ r ∈ wrL G, bef [] r.1 = true ∧ r.1.length ≤ 4 * (G ++ [e]).length := fun e r hr => ⟨(up r hr).1, by rw [List.length_append, List.length_singleton]; have := (up r hr).2; omega⟩
  have pk : ∀ p ∈ l.map (·.1), Pk p := fun p hp => by
    obtain ⟨r, hr, rfl⟩ := List.mem_map.mp hp
    exact ok r hr
  cases A with
  | w k y kl y1 y4 =>
    have okl := left_pk ok k
    have okr := right_pk ok k
    have gk := gapP_ok okl okr
    have ll : (leftP l k).length ≤ 4 * G.length := by
      cases k with
      | zero => exact Nat.zero_le _
      | succ k =>
        obtain ⟨p, hp⟩ : ∃ p, l[k]? = some p := ⟨_, List.getElem?_eq_getElem (by omega)⟩
        rw [leftP_at hp]
        exact (ups p (List.mem_of_getElem? hp)).2
    have rl : ∀ x, rightP l k = some x → x.length ≤ 4 * G.length := fun x hx => by
      unfold rightP at hx
      obtain ⟨p, hp, rfl⟩ := Option.map_eq_some_iff.mp hx
      exact (ups p (List.mem_of_getElem? hp)).2
    have ul := gap_len ll rl
    refine ⟨⟨by omega, gk.1.ok, gk.2, y1, by omega⟩, fun h n sn p hp => (by cases hp), fun h n sn h8 r hr => ?_⟩
    rw [wrL_app, (one_rows _).1] at hr
    rcases List.mem_append.mp hr with hr | hr
    · exact old _ r hr
    · obtain ⟨Y, hY⟩ : ∃ Y : Wr, Y = ⟨.none, h, n, .none, (gapP (leftP l k) (rightP l k)).1, (gapP (leftP l k) (rightP l k)).2, y⟩ := ⟨_, rfl⟩
      have yo : WrOk Y := by rw [hY]; exact ⟨h8, gk.2, by show (gapP (leftP l k) (rightP l k)).1.length ≤ 900; omega, gk.1.ok, y1, by show y.cps.size ≤ 50; omega⟩
      obtain ⟨_, wa⟩ := wrote_asc asc ok upl kl Y yo (by rw [hY]) (by rw [hY])
      have hr : r ∈ Y.rows := by rw [hY]; exact hr
      have lo := (wa r hr).1
      have ro := (Wr.row_ok yo r hr).ok
      refine ⟨?_, ?_⟩
      · cases k with
        | zero => exact lo
        | succ k =>
          obtain ⟨p, hp⟩ : ∃ p, l[k]? = some p := ⟨_, List.getElem?_eq_getElem (by omega)⟩
          have hm := List.mem_of_getElem? hp
          rw [leftP_at hp] at lo
          exact bef_trans _ _ _ (fun s h => by cases h) (ok p hm).ok ro (upl p hm) lo
      · have : r.1 ∈ Y.ps := by rw [← Y.rows_fst]; exact List.mem_map_of_mem hr
        unfold Wr.ps wrps at this
        obtain ⟨j, hj, e⟩ := List.mem_map.mp this
        have hj := List.mem_range.mp hj
        rw [← e, wrp_len, List.length_append, List.length_singleton]
        have yu : Y.u = (gapP (leftP l k) (rightP l k)).1 := by rw [hY]
        have yw : Y.w = y := by rw [hY]
        rw [yw] at hj
        rw [yu]
        omega
  | c ps hp pl =>
    refine ⟨trivial, fun h n sn p hq => ?_, fun h n sn h8 r hr => ?_⟩
    · obtain ⟨r, hr, rfl⟩ := List.mem_map.mp (hp p hq)
      exact ⟨r, alive_in pm hr, rfl⟩
    · rw [wrL_app, (one_rows _).1] at hr
      rcases List.mem_append.mp hr with hr | hr
      · exact old _ r hr
      · cases hr
  | m p q w hp hq =>
    refine ⟨⟨pk p hp, pk q hq⟩, fun h n sn p hq => (by cases hq), fun h n sn h8 r hr => ?_⟩
    rw [wrL_app, (one_rows _).1] at hr
    rcases List.mem_append.mp hr with hr | hr
    · exact old _ r hr
    · cases hr
  | k p q w hp hq =>
    refine ⟨⟨pk p hp, pk q hq⟩, fun h n sn p hq => (by cases hq), fun h n sn h8 r hr => ?_⟩
    rw [wrL_app, (one_rows _).1] at hr
    rcases List.mem_append.mp hr with hr | hr
    · exact old _ r hr
    · cases hr
theorem A46.few {l : List Sg} {a : TA} (A : A46 l a) (h : Str) (n : Int) (sn : List (Str × Int)) : (⟨h, n, sn, a⟩ : Tq).gone.length ≤ 400 := by
  cases A with
  | c ps hp pl => show ps.length ≤ 400; omega
  | _ => exact Nat.zero_le _
theorem sn_un {hs hs2 : List Str} (nd : hs.Nodup) (hl : hs.length ≤ 1000) (p : hs2.Perm hs) (L : List Tq) : ((snOf hs2 L).map (·.1)).Nodup ∧ (snOf hs2 L).length ≤ 1000 := by
  have n2 : hs2.Nodup := p.nodup_iff.mpr nd
  have e : (hs2.map fun h => (h, ((ownL h L).length : Int))).map (·.1) = hs2 := by rw [List.map_map]; exact List.map_id _
  refine ⟨?_, ?_⟩
  · have : ((snOf hs2 L).map (·.1)).Sublist ((hs2.map fun h => (h, ((ownL h L).length : Int))).map (·.1)) := List.filter_sublist.map _
    rw [e] at this
    exact n2.sublist this
  · refine Nat.le_trans (List.length_filter_le _ _) ?_
    rw [List.length_map, p.length_eq]; exact hl
theorem places_ev (l : List Sg) (s0 s1 s2 s3 s4 s5 s6 s7 s8 s9 s10 s11 s12 s13 s14 s17 s18 : CM.Slot) (st : Store) : runComp [15, 16] (.t [15, 16]) tYesD ce1_law (l.map rowS) ⟨[s0, s1, s2, s3, s4, s5, s6, s7, s8, s9, s10, s11, s12, s13, s14, .no, .no, s17, s18], st⟩ = some (PL l, ⟨[s0, s1, s2, s3, s4, s5, s6, s7, s8, s9, s10, s11, s12, s13, s14, .no, .no, s17, s18], st⟩) := by
  refine comp_map (vs := [15, 16]) (p := .t [15, 16]) (t := tYesD) (a := ce1_law) rowS (fun r => pd r.1) _ l fun r _ => ?_
  have er : rowS r = .tuple [pd r.1, .str r.2] := rfl
  obtain ⟨xs, ex⟩ : ∃ xs, pd r.1 = .tuple xs := ⟨_, rfl⟩
  rw [er, ex]
  simp -implicitDefEqProofs (maxSteps := 2000000) (disch := first | omega | assumption | (simp; done) | (simp; omega)) [compStep, ce1_law]
theorem few_of {n : Nat} {l : List Sg} {ms : List Mr} (T : TxOk n l ms) (h : n ≤ 200) : l.length ≤ 4000 ∧ ms.length ≤ 4000 ∧ (∀ m ∈ ms, MrOk m) ∧ ∀ m ∈ ms, m.hs.length ≤ 4000 := ⟨by have := T.ll; omega, by have := T.ml; omega, fun m hm => (T.mo m hm).1, fun m hm => by have := (T.mo m hm).2; omega⟩
theorem deed_turn {hs : List Str} (nd : hs.Nodup) (hl : hs.length = 3) (hd : ∀ h ∈ hs, Hd h) {s0 : CM.Slot} {b k : Nat} (hk : k < 36) {G : List Tq} {L : Nat → List Tq} {c : Nat → Nat} {is : Nat → List Nat} {st : Store} (I : S46 hs k st b G L c is) (x : Int) (h3 : ¬ x / 3 % 4 = 3) (s5 s6 s7 s8 s9 : CM.Slot) :
    ∃ r2, l1_law ⟨[s0, .sh (.int x), .ow (.d (.list (hs.map PyData.str))), .ow (.d (.list [obD 0, obD 3, obD 6])), .sh (bxD b), s5, s6, s7, s8, s9, .no, .no, .no, .no, .no, .no, .no, .no, .no], st⟩ = some (.nx, r2) ∧ I46 hs s0 b (k + 1) r2 := by
  obtain ⟨i, hi⟩ : ∃ i : Nat, x % 3 = (i : Int) := ⟨(x % 3).toNat, by omega⟩
  have i3 : i < 3 := by omega
  obtain ⟨h, hh⟩ : ∃ h, hs[i]? = some h := ⟨_, List.getElem?_eq_getElem (by omega)⟩
  have gk := I.gk
  have W := I.W
  have K := I.K
  have g := K.lg i i3
  have own : ∀ d ∈ G, d.h = h → d ∈ L i := fun d hd e => K.own i i3 d hd (by rw [e]; exact hh)
  have q := g.qk K.w (by omega)
  have T := tx_of q
  have ql := q.ll
  obtain ⟨f1, f2, f3, f4⟩ := few_of T.ok ql
  have up : Up (txQ (L i)).1 := fun r hr => (I.up r (mem_wrL_sub g.sub (alive_in T.pm hr))).1
  obtain ⟨a, A, D⟩ := lact_ev T.ok.asc T.ok.ok up f1 (x / 12) st
  obtain ⟨ak, acl, aup⟩ := act_ok T.ok.asc T.ok.ok T.pm g.sub (by omega) I.up A
  have h8 := (hd h (List.mem_of_getElem? hh)).le
  have lgl := lg_len g
  obtain ⟨hs2, pm, N⟩ := name_ev (L i) (by omega) hs (by omega) i h hh (c i) st (W.bx i i3)
  have w' := Gn.deed (hs2 := hs2) K.w g own ak h8
  have g' := Lg.deed (hs2 := hs2) (a := a) K.w g own (acl _ _ _)
  have still := fun k hk => Lg.still (hs2 := hs2) (a := a) K.w g own (K.lg k hk)
  have up' := aup h (1 + ((ownL h (L i)).length : Int)) (snOf hs2 (L i)) h8
  obtain ⟨d, ed⟩ : ∃ d : Tq, d = ⟨h, 1 + ((ownL h (L i)).length : Int), snOf hs2 (L i), a⟩ := ⟨_, rfl⟩
  have edd : d.d = .tuple [.tuple [.str h, .int (1 + ((ownL h (L i)).length : Int))], .tuple ((snOf hs2 (L i)).map prD), a.d tN] := by rw [ed]; rfl
  have dh : d.h = h := by rw [ed]
  have un' := sn_un nd (by omega) pm (L i)
  have gc' := A.few h (1 + ((ownL h (L i)).length : Int)) (snOf hs2 (L i))
  have ds : d.sn = snOf hs2 (L i) := by rw [ed]
  rw [← ed] at w' g' still up' gc'
  have q' := g'.qk w' (by rw [List.length_append, List.length_singleton]; omega)
  obtain ⟨st1, is1, H, W1⟩ := hear_step W i3 q'
  have W2 := W1.put i3 (L i ++ [d])
  have B1 := W1.bx i i3
  have b1 := bxLk_of W.ob
  have b2 := bxLk_of W1.ob
  refine ⟨⟨[s0, .sh (.int x), .ow (.d (.list (hs.map PyData.str))), .ow (.d (.list [obD 0, obD 3, obD 6])), .sh (bxD b), .sh (.int (i : Int)), .ow (.d (.list (PL (txQ (L i)).1))), .sh (.tuple [.str h, .int (1 + ((ownL h (L i)).length : Int))]), .sh (.tuple ((snOf hs2 (L i)).map prD)), .sh d.d, .no, .no, .no, .no, .no, .no, .no, .no, .no], bxPut st1 (c i) (.d (.list ((L i ++ [d]).map Tq.d)))⟩, ?_, _, _, _, _, _, _, _, rfl, G ++ [d], up1 L i (L i ++ [d]), c, is1, ⟨W2, ⟨w', fun k hk => ?_, fun k hk e he eh => ?_⟩, by rw [List.length_append]; exact Nat.succ_le_succ gk, up', fun e he => ?_, fun e he => ?_⟩⟩
  · have ht := (W.tx i i3).top
    have n1 := txO_no (3 * i) "content" (by decide) (by decide)
    have n2 := txO_no (3 * i) "hear" (by decide) (by decide)
    have k1 : (txO (3 * i + 1) (3 * i + 2)).cls = "Text" := rfl
    have ce := content_ev (W.tx i i3) f1 f2 f4
    have c0 : gIx (.d (contT (txQ (L i)))) (.d (.int 0)) = some (.sh (.list ((txQ (L i)).1.map rowS))) := rfl
    have pe := fun s0 s1 s2 s3 s4 s5 s6 s7 s8 s9 s10 s11 s12 s13 s14 s17 s18 => places_ev (txQ (L i)).1 s0 s1 s2 s3 s4 s5 s6 s7 s8 s9 s10 s11 s12 s13 s14 s17 s18 st
    have di := ds_at i3
    have ci : atD [bxD (c 0), bxD (c 1), bxD (c 2)] (i : Int) = some (bxD (c i)) := atD_nat (c_at i3)
    have ll : ((L i).map Tq.d).length ≤ 1000 := by rw [List.length_map]; omega
    have lr : ((txQ (L i)).1.map rowS).length ≤ 4000 := by rw [List.length_map]; exact f1
    have lp : (PL (txQ (L i)).1).length ≤ 4000 := by rw [PL_len]; exact f1
    have sl : ((snOf hs2 (L i)).map prD).length ≤ 1000 := by
      rw [List.length_map]
      refine Nat.le_trans (List.length_filter_le _ _) ?_
      rw [List.length_map, pm.length_eq]; omega
    have aa : ∃ xs, a.d tN = .tuple xs := by cases a <;> exact ⟨_, rfl⟩
    obtain ⟨AX, eA⟩ := aa
    rw [List.map_append, List.map_singleton]
    rw [edd] at H ⊢
    rw [eA] at D H ⊢
    have ce : d_Text_content [.d (obD (3 * i))] st = some (.sh (contT (txQ (L i))), st) := ce
    clear W W1 W2 K g own q T up A ak acl aup w' g' still up' q' I hh nd hl hd f3 f4 h8 pm ed edd dh eA un' gc' ds
    generalize contT (txQ (L i)) = CT at *
    generalize (txQ (L i)).1.map rowS = LR at *
    generalize PL (txQ (L i)).1 = P1 at *
    generalize txO (3 * i + 1) (3 * i + 2) = o1 at *
    generalize (snOf hs2 (L i)).map prD = SN at *
    generalize 1 + ((ownL h (L i)).length : Int) = nn at *
    generalize hs.map PyData.str = HS at *
    generalize [obD 0, obD 3, obD 6] = DK at *
    generalize [bxD (c 0), bxD (c 1), bxD (c 2)] = BK at *
    generalize (L i).map Tq.d = LD at *
    generalize c i = ci' at *
    generalize (i : Int) = ii at *
    simp -implicitDefEqProofs (maxSteps := 2000000) (disch := first | omega | assumption | (simp; done) | (simp; omega)) [l1_law, h3, hi, di, ht, n1, n2, k1, ce, c0, pe, b1, b2, ci, N, D, H, B1]
  · by_cases z : k = i
    · subst z; rw [up1_i]; exact g'
    · rw [up1_k z]; exact still k hk
  · rcases List.mem_append.mp he with he | he
    · have o := K.own k hk e he eh
      by_cases z : k = i
      · subst z; rw [up1_i]; exact List.mem_append_left _ o
      · rw [up1_k z]; exact o
    · rw [List.mem_singleton.mp he, dh] at eh
      have ki : k = i := (List.getElem?_inj (List.getElem?_eq_some_iff.mp eh).1 nd).mp (eh.trans hh.symm)
      subst ki
      rw [up1_i]
      exact List.mem_append_right _ he
  · rcases List.mem_append.mp he with he | he
    · exact I.un e he
    · rw [List.mem_singleton.mp he, ds]; exact un'
  · rcases List.mem_append.mp he with he | he
    · exact I.gc e he
    · rw [List.mem_singleton.mp he]; exact gc'
def plK (y : Wr) : Nat → List Sp
  | 0 => y.u
  | k + 1 => wrp y.u y.a y.h y.n k
def sdK (y : Wr) : Nat → Int
  | 0 => y.a
  | _ + 1 => 1
theorem plK_step (y : Wr) (k : Nat) : pd (plK y (k + 1)) = .tuple ((plK y k).map sd ++ [.tuple [.int (sdK y k), .str y.h, .int y.n, .int (k : Int)]]) := by
  cases k with
  | zero => simp [plK, sdK, wrp, pd, sd]
  | succ k => simp [plK, sdK, wrp, pd, sd, List.range_succ]
theorem rows_at (y : Wr) {k : Nat} (hk : k < y.w.cps.size) : ∃ c, y.w.cps.toList[k]? = some c ∧ y.rows[k]? = some (wrp y.u y.a y.h y.n k, (⟨#[c]⟩ : Str)) := by
  have h : k < y.w.cps.toList.length := by simpa using hk
  refine ⟨y.w.cps.toList[k], List.getElem?_eq_getElem h, ?_⟩
  unfold Wr.rows Wr.ps wrps
  rw [List.getElem?_zip_eq_some]
  refine ⟨?_, ?_⟩
  · rw [List.getElem?_map, List.getElem?_range hk]; rfl
  · rw [List.getElem?_map, List.getElem?_eq_getElem h]; rfl
theorem gix_str {x : Str} {k : Nat} {c : Nat} (hx : x.cps.size ≤ 1000) (h : x.cps.toList[k]? = some c) : gIx (.d (.str x)) (.d (.int (k : Int))) = some (.sh (.str ⟨#[c]⟩)) := by
  show (if x.cps.size ≤ 16777216 then (atD x.cps.toList (k : Int)).bind fun c => some (Res.sh (.str ⟨#[c]⟩)) else none) = _
  rw [if_pos (by omega), atD_nat h]; rfl
def wD (y : Wr) : D := .tuple [.tuple [.str y.h, .int y.n], y.sn, .tuple [.str "write", .tuple [.str "t", .int 1], pd y.u, .int y.a, .str y.w]]
theorem written_ev (y : Wr) (k : WrOk y) (st : Store) : ∃ z : Res, (z = .fr (.d (.list (y.rows.map rowS))) ∨ z = .sh (.list (y.rows.map rowS))) ∧ d__law_written [.d (wD y)] st = some (z, st) := by
  have w2 := k.w2
  have ul := k.ul
  have yd : wD y = .tuple [.tuple [.str y.h, .int y.n], y.sn, .tuple [.str "write", .tuple [.str "t", .int 1], pd y.u, .int y.a, .str y.w]] := rfl
  obtain ⟨r', f, s7, rfl⟩ := for_rg (p := .v 7) (f := l1__law_written) (fun j r => ∃ s7 : CM.Slot, r = (⟨[.sh (wD y), .sh (.tuple [.str y.h, .int y.n]), .sh y.sn, .sh (.tuple [.str "write", .tuple [.str "t", .int 1], pd y.u, .int y.a, .str y.w]), .sh (pd (plK y j)), .sh (.int (sdK y j)), .ow (.d (.list ((y.rows.take j).map rowS))), s7], st⟩ : CM.Env)) y.w.cps.size
    ⟨[.sh (wD y), .sh (.tuple [.str y.h, .int y.n]), .sh y.sn, .sh (.tuple [.str "write", .tuple [.str "t", .int 1], pd y.u, .int y.a, .str y.w]), .sh (pd y.u), .sh (.int y.a), .ow (.d (.list [])), .no], st⟩ ⟨.no, rfl⟩ fun j r hj hI => by
      obtain ⟨s7, rfl⟩ := hI
      obtain ⟨c, hc, hr⟩ := rows_at y hj
      have tk : (y.rows.take (j + 1)).map rowS = (y.rows.take j).map rowS ++ [rowS (plK y (j + 1), (⟨#[c]⟩ : Str))] := by
        rw [List.take_add_one, hr, List.map_append]; rfl
      have gi := gix_str (by omega) hc
      have ps := plK_step y j
      have pj : pd (plK y j) = .tuple ((plK y j).map sd) := rfl
      have pu : pd y.u = .tuple (y.u.map sd) := rfl
      have ln : ((plK y j).map sd).length ≤ 1000 := by
        rw [List.length_map]
        cases j with
        | zero => show y.u.length ≤ 1000; omega
        | succ j => show (wrp ..).length ≤ 1000; rw [wrp_len]; omega
      have ll : ((y.rows.take j).map rowS).length ≤ 1000 := by
        rw [List.length_map, List.length_take]; have := y.rows_len; omega
      refine ⟨_, ?_, .sh (.int (j : Int)), rfl⟩
      rw [tk]
      unfold rowS at ll ⊢
      dsimp only
      rw [ps, pj, pu]
      clear tk ps pj hr hc hj
      generalize (plK y j).map sd = PJ at *
      generalize y.u.map sd = UU at *
      generalize ((y.rows.take j).map fun r => PyData.tuple [pd r.1, .str r.2]) = RJ at *
      generalize sdK y j = SJ at *
      generalize wD y = DD at *
      have one : sdK y (j + 1) = 1 := rfl
      rw [one]
      simp -implicitDefEqProofs (maxSteps := 2000000) (disch := first | omega | assumption | (simp; done) | (simp; omega)) [l1__law_written, gi]
  have tl : y.rows.take y.w.cps.size = y.rows := List.take_of_length_le (by rw [y.rows_len]; exact Nat.le_refl _)
  rw [tl] at f
  have pu : pd y.u = .tuple (y.u.map sd) := rfl
  have pe : ∃ q, pd (plK y y.w.cps.size) = .tuple q := ⟨_, rfl⟩
  obtain ⟨q, eq⟩ := pe
  rw [eq] at f
  rw [yd, pu] at f ⊢
  refine ⟨_, .inl rfl, ?_⟩
  generalize y.rows.map rowS = RR at *
  generalize y.u.map sd = UU at *
  clear tl pu eq yd
  simp -implicitDefEqProofs (maxSteps := 2000000) (disch := first | omega | assumption | (simp; done) | (simp; omega)) [d__law_written, b__law_written, f]
theorem dlt_sd (s t : Sp) (n : s ≠ t) : W.dataLt (sd s) (sd t) = sLt s t := by
  obtain ⟨a, b, c, d⟩ := s
  obtain ⟨a', b', c', d'⟩ := t
  have hb : PyData.eqv (.str b) (.str b') = decide (b = b') := by
    rw [Bool.eq_iff_iff, eqv_pln _ _ rfl rfl, decide_eq_true_iff]
    exact ⟨fun h => PyData.str.inj h, fun h => by rw [h]⟩
  have hi : ∀ x y : Int, PyData.eqv (.int x) (.int y) = decide (x = y) := fun x y => by
    rw [Bool.eq_iff_iff, eqv_pln _ _ rfl rfl, decide_eq_true_iff]
    exact ⟨fun h => PyData.int.inj h, fun h => by rw [h]⟩
  have ai : ∀ x y : Int, W.alike (.int x) (.int y) = true := fun x y => by simp [W.alike]
  have as : ∀ x y : Str, W.alike (.str x) (.str y) = true := fun x y => by simp [W.alike]
  unfold sd sLt
  rw [W.dataLt_tuple]
  dsimp only
  by_cases h1 : a = a'
  · rw [if_pos h1, W.dataLt_all_yes (ai _ _) (by rw [hi, decide_eq_true h1])]
    by_cases h2 : b = b'
    · rw [if_pos h2, W.dataLt_all_yes (as _ _) (by rw [hb, decide_eq_true h2])]
      by_cases h3 : c = c'
      · rw [if_pos h3, W.dataLt_all_yes (ai _ _) (by rw [hi, decide_eq_true h3])]
        by_cases h4 : d = d'
        · subst h1; subst h2; subst h3; subst h4; exact absurd rfl n
        · rw [W.dataLt_all_no (ai _ _) (by rw [hi, decide_eq_false h4]), W.dataLt_int]
      · rw [if_neg h3, W.dataLt_all_no (ai _ _) (by rw [hi, decide_eq_false h3]), W.dataLt_int]
    · rw [if_neg h2, W.dataLt_all_no (as _ _) (by rw [hb, decide_eq_false h2]), W.dataLt_str]; rfl
  · rw [if_neg h1, W.dataLt_all_no (ai _ _) (by rw [hi, decide_eq_false h1]), W.dataLt_int]
theorem alike_e0 (s : Sp) : W.alike e0 (sd s) = true ∧ W.alike (sd s) e0 = true := by constructor <;> simp [sd, e0, W.alike, W.alikeAll]
theorem dlt_e0 {s : Sp} (h : s.Ok) : W.dataLt e0 (sd s) = decide (0 < s.1) ∧ W.dataLt (sd s) e0 = decide (s.1 < 0) := by
  have n := h.ne
  have hi : ∀ x y : Int, PyData.eqv (.int x) (.int y) = decide (x = y) := fun x y => by
    rw [Bool.eq_iff_iff, eqv_pln _ _ rfl rfl, decide_eq_true_iff]
    exact ⟨fun h => PyData.int.inj h, fun h => by rw [h]⟩
  have ai : ∀ x y : Int, W.alike (.int x) (.int y) = true := fun x y => by simp [W.alike]
  unfold e0 sd
  rw [W.dataLt_tuple, W.dataLt_tuple]
  constructor
  · rw [W.dataLt_all_no (ai _ _) (by rw [hi]; exact decide_eq_false fun e => n e.symm), W.dataLt_int]
  · rw [W.dataLt_all_no (ai _ _) (by rw [hi]; exact decide_eq_false n), W.dataLt_int]
theorem dlt_keys : ∀ (xs ys : List Sp), (∀ s ∈ xs, s.Ok) → (∀ s ∈ ys, s.Ok) → PyProof.Rows.lexLt PyProof.Rows.itemOrd (W.keyToksAll (keyD xs)) (W.keyToksAll (keyD ys)) = bef xs ys
  | [], [], _, _ => by
    show PyProof.Rows.lexLt PyProof.Rows.itemOrd _ _ = false
    first | exact PyProof.Rows.lex_irrefl _ | exact PySem.W.lex_irrefl _ | rfl
  | [], t :: ys, _, hy => by
    have h := hy t List.mem_cons_self
    show PyProof.Rows.lexLt PyProof.Rows.itemOrd (W.keyToksAll (e0 :: [])) (W.keyToksAll (sd t :: (ys.map sd ++ [e0]))) = _
    rw [W.dataLt_all_no (alike_e0 t).1 (eqv_e0 h).1, (dlt_e0 h).1]; rfl
  | s :: xs, [], hx, _ => by
    have h := hx s List.mem_cons_self
    show PyProof.Rows.lexLt PyProof.Rows.itemOrd (W.keyToksAll (sd s :: (xs.map sd ++ [e0]))) (W.keyToksAll (e0 :: [])) = _
    rw [W.dataLt_all_no (alike_e0 s).2 (eqv_e0 h).2, (dlt_e0 h).2]; rfl
  | s :: xs, t :: ys, hx, hy => by
    show PyProof.Rows.lexLt PyProof.Rows.itemOrd (W.keyToksAll (sd s :: keyD xs)) (W.keyToksAll (sd t :: keyD ys)) = _
    by_cases e : s = t
    · rw [W.dataLt_all_yes (alike_sd s t) (by rw [eqv_sd, decide_eq_true e]), dlt_keys xs ys (fun z hz => hx z (List.mem_cons_of_mem _ hz)) (fun z hz => hy z (List.mem_cons_of_mem _ hz)), bef, if_pos e]
    · rw [W.dataLt_all_no (alike_sd s t) (by rw [eqv_sd, decide_eq_false e]), dlt_sd s t e, bef, if_neg e]
def kyD (r : Sg) : D := .tuple (keyD r.1)
theorem alike_keys : ∀ (xs ys : List Sp), W.alikeAll (keyD xs) (keyD ys) = true
  | [], [] => by simp [keyD, e0, W.alike, W.alikeAll]
  | [], t :: ys => by
    show W.alikeAll (e0 :: []) (sd t :: keyD ys) = true
    rw [W.alikeAll, (alike_e0 t).1]; simp [W.alikeAll]
  | s :: xs, [] => by
    show W.alikeAll (sd s :: keyD xs) (e0 :: []) = true
    rw [W.alikeAll, (alike_e0 s).2]
    cases h : keyD xs <;> simp [W.alikeAll]
  | s :: xs, t :: ys => by
    show W.alikeAll (sd s :: keyD xs) (sd t :: keyD ys) = true
    rw [W.alikeAll, alike_sd, alike_keys xs ys]; rfl
noncomputable def srtS (l : List Sg) : List Sg := l.mergeSort fun x y => leR false (kyD x) (kyD y)
theorem srtG_perm (l : List Sg) : (srtS l).Perm l := List.mergeSort_perm _ _
theorem srtS_asc {l : List Sg} (ok : ∀ r ∈ l, Pk r.1) (nd : (l.map (·.1)).Nodup) : Asc (srtS l) := by
  have tot : W.TotalLe fun a b : Sg => leR false (kyD a) (kyD b) := W.sortLe_total (PyProof.Rows.listOrd PyProof.Rows.itemOrd) false (fun x : Sg => W.keyToks (kyD x))
  have pw : (srtS l).Pairwise fun a b => leR false (kyD a) (kyD b) = true := List.pairwise_mergeSort tot.trans (fun a b => by rw [Bool.or_eq_true]; exact tot.total a b) l
  have nd' : ((srtS l).map (·.1)).Nodup := ((srtG_perm l).map _).nodup_iff.mpr nd
  unfold List.Nodup at nd'
  rw [List.pairwise_map] at nd'
  refine (pw.and nd').imp_of_mem fun {a b} ha hb ⟨h1, h2⟩ => ?_
  have oa := (ok a ((srtG_perm l).mem_iff.mp ha)).ok
  have ob := (ok b ((srtG_perm l).mem_iff.mp hb)).ok
  have h1 : (!W.dataLt (kyD b) (kyD a)) = true := h1
  unfold kyD at h1
  rw [W.dataLt_tuple, dlt_keys _ _ ob oa] at h1
  have t := bef_tri b.1 a.1 ob oa
  rw [t, Bool.and_eq_true]
  exact ⟨decide_eq_true fun e => h2 e.symm, h1⟩
theorem srtS_is {l m : List Sg} (asc : Asc m) (p : m.Perm l) (ok : ∀ r ∈ m, Pk r.1) : srtS l = m := by
  have nd : (m.map (·.1)).Nodup := by
    unfold List.Nodup
    rw [List.pairwise_map]
    refine List.Pairwise.imp (fun {a b} x e => ?_) asc
    rw [e, bef_irr] at x; cases x
  have okl : ∀ r ∈ l, Pk r.1 := fun r hr => ok r (p.mem_iff.mpr hr)
  exact asc_one (srtS_asc okl ((p.map _).nodup_iff.mp nd)) asc (fun r hr => okl r ((srtG_perm l).mem_iff.mp hr)) ((srtG_perm l).trans p.symm)
theorem lkey_ev (r : Sg) (hl : r.1.length ≤ 100000) (st : Store) : d__law_key [.d (rowS r)] st = some (.sh (kyD r), st) := by
  unfold kyD rowS keyD e0
  rw [show pd r.1 = .tuple (r.1.map sd) from rfl]
  simp -implicitDefEqProofs (disch := first | omega | (simp; done) | (simp; omega)) [d__law_key, b__law_key]
theorem rowS_fl3 (r : Sg) : Fl 3 (rowS r) := .t fun d hd => by
  simp at hd
  rcases hd with e | e <;> subst e
  · exact pd_fl _
  · exact .s _
theorem lsorted_ev {l m : List Sg} (asc : Asc m) (p : m.Perm l) (ok : ∀ r ∈ m, Pk r.1) (hl : l.length ≤ 4000) : gSortK d__law_key false (.d (.list (l.map rowS))) = some (.fr (.d (.list (m.map rowS)))) := by
  have okl : ∀ r ∈ l, Pk r.1 := fun r hr => ok r (p.mem_iff.mpr hr)
  have hs := sortK_map (f := d__law_key) false rowS kyD (xs := l) (nods_iff.mpr fun y hy => by
      rw [List.mem_map] at hy
      obtain ⟨x, hx, rfl⟩ := hy
      exact pln_nod _ (rowS_fl3 x).p) (fun r hr => lkey_ev r (by have := (okl r hr).le; omega) [])
    (sortB_of kyD l (fun x _ => (keyD_fl x.1).p) (fun x _ => Nat.le_trans (keyD_fl x.1).k (by decide)) (.inl fun x _ => by unfold kyD keyD; cases x.1 <;> rfl) (fun x _ y _ => by show W.alike (.tuple (keyD x.1)) (.tuple (keyD y.1)) = true; rw [W.alike]; exact alike_keys _ _) (by omega))
  rw [show (l.mergeSort fun x y => leR false (kyD x) (kyD y)) = m from srtS_is asc p ok] at hs
  exact hs
theorem gle_key (p q : List Sp) (op : ∀ s ∈ p, s.Ok) (oq : ∀ s ∈ q, s.Ok) : gCmp .le (.d (.tuple (keyD p))) (.d (.tuple (keyD q))) = some (.sh (.bool (!bef q p))) := by
  have c : cmpD .le (.tuple (keyD p)) (.tuple (keyD q)) = some (!bef q p) := by
    show cmpDs .le (keyD p) (keyD q) = _
    rw [cmp_le p q op oq, le_not p q op oq]
  show (if shallow (.tuple (keyD p)) (.tuple (keyD q)) = true then (cmpD .le (.tuple (keyD p)) (.tuple (keyD q))).bind _ else none) = _
  rw [if_pos (shallow_fl (keyD_fl p) (keyD_fl q) (.inl (by decide))), c]; rfl
theorem lin_ev {p f l : List Sp} (hp : Pk p) (hf : Pk f) (hl : Pk l) {act : D} (a2 : gIx (.d act) (.d (.int 2)) = some (.sh (pd f))) (a3 : gIx (.d act) (.d (.int 3)) = some (.sh (pd l))) (ar : argSlot false (.d act) = some (.sh act)) (st : Store) :
    d__law_in [.d (pd p), .d act] st = some (.sh (.bool (inP p f l)), st) := by
  have b1 := gle_key f p hf.ok hp.ok
  have b2 := gle_key p l hp.ok hl.ok
  have k : ∀ q : List Sp, Pk q → gAdd (.d (pd q)) (.d (.tuple [.tuple [.int 0]])) = some (.sh (.tuple (keyD q))) := fun q hq => by
    show (if (q.map sd).length + 1 ≤ 16777216 then some (Res.sh (.tuple (q.map sd ++ [.tuple [.int 0]]))) else none) = _
    rw [if_pos (by rw [List.length_map]; have := hq.le; omega)]; rfl
  have kp := k p hp
  have kf := k f hf
  have kl := k l hl
  obtain ⟨XP, eP⟩ : ∃ xs, pd p = .tuple xs := ⟨_, rfl⟩
  obtain ⟨XF, eF⟩ : ∃ xs, pd f = .tuple xs := ⟨_, rfl⟩
  obtain ⟨XL, eL⟩ : ∃ xs, pd l = .tuple xs := ⟨_, rfl⟩
  unfold inP
  rw [eP] at kp ⊢
  rw [eF] at kf a2
  rw [eL] at kl a3
  clear k
  generalize keyD p = KP at *
  generalize keyD f = KF at *
  generalize keyD l = KL at *
  cases c1 : bef p f <;> cases c2 : bef l p <;> rw [c1] at b1 <;> rw [c2] at b2 <;> simp -implicitDefEqProofs (maxSteps := 2000000) (disch := first | omega | assumption | (simp; done) | (simp; omega)) [d__law_in, b__law_in, a2, a3, ar, kp, kf, kl, b1, b2]
def anyC (sn : List (Str × Int)) (h : Str) (n : Int) : Bool := sn.any fun p => decide (p.1 = h) && decide (n ≤ p.2)
theorem any_cov : ∀ {sn : List (Str × Int)}, (sn.map (·.1)).Nodup → ∀ (h : Str) (n : Int), anyC sn h n = cov sn h n
  | [], _, _, _ => rfl
  | p :: r, nd, h, n => by
    rw [List.map_cons, List.nodup_cons] at nd
    have ih := any_cov nd.2 h n
    show ((decide (p.1 = h) && decide (n ≤ p.2)) || anyC r h n) = if p.1 = h then decide (n ≤ p.2) else cov r h n
    by_cases c : p.1 = h
    · rw [if_pos c, decide_eq_true c, Bool.true_and]
      have : anyC r h n = false := by
        unfold anyC
        rw [List.any_eq_false]
        intro q hq z
        rw [Bool.and_eq_true, decide_eq_true_iff] at z
        exact nd.1 (List.mem_map.mpr ⟨q, hq, z.1.trans c.symm⟩)
      rw [this, Bool.or_false]
    · rw [if_neg c, decide_eq_false c, Bool.false_and, Bool.false_or, ih]
theorem gne_strs (l : List Str) : gNe (.d (.list (l.map PyData.str))) (.d (.list [])) = some (.sh (.bool (!l.isEmpty))) := by
  have f0 : Fl 1 (.list []) := Fl.l (k := 0) fun x hx => by cases hx
  rw [gNe_d (shallow_fl (fl_strs l) f0 (.inl (by decide)))]
  cases l with
  | nil => rfl
  | cons r l =>
    have : PyData.eqv (.list ((r :: l).map PyData.str)) (.list []) = false := by rw [List.map_cons, PyData.eqv]; rfl
    rw [this]; rfl
theorem lcovers_ev (sn : List (Str × Int)) (h : Str) (n : Int) (st : Store) (sl : sn.length ≤ 1000) : d__law_covers [.d (.tuple (sn.map prD)), .d (.tuple [.str h, .int n])] st = some (.sh (.bool (anyC sn h n)), st) := by
  have cm := comp_flt (vs := [2, 3]) (p := .t [2, 3]) (t := ct1__law_covers) (a := ce1__law_covers) prD (fun p => decide (p.1 = h) && decide (n ≤ p.2)) (fun p => .str p.1) ⟨[.sh (.tuple (sn.map prD)), .sh (.tuple [.str h, .int n]), .no, .no], st⟩ sn fun p _ => by
    have sb := beq_str p.1 h
    have e : prD p = .tuple [.str p.1, .int p.2] := rfl
    rw [e]
    generalize sn.map prD = SN at *
    by_cases c1 : p.1 = h <;> by_cases c2 : n ≤ p.2
    · rw [decide_eq_true c1, decide_eq_true c2]
      rw [decide_eq_true c1] at sb
      simp -implicitDefEqProofs (maxSteps := 2000000) (disch := first | omega | assumption | (simp; done) | (simp; omega)) [compStep, ct1__law_covers, ce1__law_covers, sb, c2]
    · rw [decide_eq_true c1, decide_eq_false c2]
      rw [decide_eq_true c1] at sb
      simp -implicitDefEqProofs (maxSteps := 2000000) (disch := first | omega | assumption | (simp; done) | (simp; omega)) [compStep, ct1__law_covers, ce1__law_covers, sb, c2]
    · rw [decide_eq_false c1]
      rw [decide_eq_false c1] at sb
      simp -implicitDefEqProofs (maxSteps := 2000000) (disch := first | omega | assumption | (simp; done) | (simp; omega)) [compStep, ct1__law_covers, ce1__law_covers, sb]
    · rw [decide_eq_false c1]
      rw [decide_eq_false c1] at sb
      simp -implicitDefEqProofs (maxSteps := 2000000) (disch := first | omega | assumption | (simp; done) | (simp; omega)) [compStep, ct1__law_covers, ce1__law_covers, sb]
  have fm : ((sn.filter fun p => decide (p.1 = h) && decide (n ≤ p.2)).map fun p => PyData.str p.1) = ((sn.filter fun p => decide (p.1 = h) && decide (n ≤ p.2)).map (·.1)).map PyData.str := by rw [List.map_map]; rfl
  rw [fm] at cm
  have gn := gne_strs ((sn.filter fun p => decide (p.1 = h) && decide (n ≤ p.2)).map (·.1))
  have ee : (!((sn.filter fun p => decide (p.1 = h) && decide (n ≤ p.2)).map (·.1)).isEmpty) = anyC sn h n := by
    unfold anyC
    rw [Bool.eq_iff_iff, Bool.not_eq_true', List.isEmpty_eq_false_iff, List.any_eq_true]
    constructor
    · intro z
      rw [ne_eq, List.map_eq_nil_iff] at z
      obtain ⟨p, hp⟩ := List.exists_mem_of_ne_nil _ z
      obtain ⟨h1, h2⟩ := List.mem_filter.mp hp
      exact ⟨p, h1, h2⟩
    · rintro ⟨p, h1, h2⟩ z
      rw [List.map_eq_nil_iff, List.filter_eq_nil_iff] at z
      exact z p h1 h2
  rw [ee] at gn
  have fl : (((sn.filter fun p => decide (p.1 = h) && decide (n ≤ p.2)).map (·.1)).map PyData.str).length ≤ 1000 := by
    rw [List.length_map, List.length_map]
    exact Nat.le_trans (List.length_filter_le _ _) sl
  have sl' : (sn.map prD).length ≤ 1000 := by rw [List.length_map]; exact sl
  clear fm ee
  generalize ((sn.filter fun p => decide (p.1 = h) && decide (n ≤ p.2)).map (·.1)).map PyData.str = FL at *
  generalize sn.map prD = SN at *
  generalize anyC sn h n = A at *
  simp -implicitDefEqProofs (maxSteps := 2000000) (disch := first | omega | assumption | (simp; done) | (simp; omega)) [d__law_covers, b__law_covers, cm, gn]
theorem tq_a0 (a : TA) : gIx (.d (a.d tN)) (.d (.int 0)) = some (.sh (.str a.wd)) := by cases a <;> rfl
theorem tq_arg (a : TA) : argSlot false (.d (a.d tN)) = some (.sh (a.d tN)) := by cases a <;> rfl
def isM (p : List Sp) (d : Tq) : Bool := match d.a with
  | .m f l _ => inP p f l
  | _ => false
def isK (p : List Sp) (d : Tq) : Bool := match d.a with
  | .k f l _ => inP p f l
  | _ => false
def wdO (d : Tq) : Str := match d.a with
  | .m _ _ w => w
  | .k _ _ w => w
  | _ => ""
section
variable {L : List Tq} (ok : ∀ q ∈ L, q.a.ok) {p : List Sp} (hp : Pk p) (s0 s2 s3 s4 s6 s7 s8 : CM.Slot) (st : Store)
include ok hp
theorem wm_ev : runComp [5] (.v 5) ct1__law_words ce1__law_words (L.map Tq.d) ⟨[s0, .sh (pd p), s2, s3, s4, .no, s6, s7, s8], st⟩ = some ((L.filter (isM p)).map Tq.d, ⟨[s0, .sh (pd p), s2, s3, s4, .no, s6, s7, s8], st⟩) :=
  comp_flt (vs := [5]) (p := .v 5) (t := ct1__law_words) (a := ce1__law_words) Tq.d (isM p) Tq.d _ L fun d hd => by
    have g2 := d.g2
    have a0 := tq_a0 d.a
    have sb := beq_str d.a.wd "mark"
    have oa := ok d hd
    obtain ⟨u, v, ed⟩ := d.tup
    obtain ⟨XP, eP⟩ : ∃ xs, pd p = .tuple xs := ⟨_, rfl⟩
    unfold isM
    cases ea : d.a with
    | m f l w =>
      rw [ea] at a0 sb oa g2
      have li := lin_ev hp oa.1 oa.2 (act := (TA.m f l w).d tN) rfl rfl (tq_arg _) st
      rw [decide_eq_true (show (TA.m f l w).wd = "mark" from rfl)] at sb
      rw [eP] at li ⊢
      rw [ed] at g2 ⊢
      dsimp only
      have ar := tq_arg (TA.m f l w)
      clear oa ea
      obtain ⟨da, eda⟩ : ∃ da, da = (TA.m f l w).d tN := ⟨_, rfl⟩
      rw [← eda] at li ar g2 a0
      obtain ⟨wd, ewd⟩ : ∃ wd, wd = (TA.m f l w).wd := ⟨_, rfl⟩
      rw [← ewd] at a0 sb
      clear eda ewd
      by_cases c : inP p f l = true
      · rw [if_pos c]
        rw [c] at li
        simp -implicitDefEqProofs (maxSteps := 2000000) (disch := first | omega | assumption | (simp; done) | (simp; omega)) [compStep, ct1__law_words, ce1__law_words, g2, a0, sb, li, ar]
      · rw [if_neg c]
        rw [Bool.not_eq_true] at c
        rw [c] at li
        simp -implicitDefEqProofs (maxSteps := 2000000) (disch := first | omega | assumption | (simp; done) | (simp; omega)) [compStep, ct1__law_words, ce1__law_words, g2, a0, sb, li, ar]
    | w u' a' y =>
      rw [ea] at a0 sb g2
      rw [decide_eq_false (show ¬ (TA.w u' a' y).wd = "mark" by show ¬ ("write" : Str) = "mark"; decide)] at sb
      rw [eP]
      rw [ed] at g2 ⊢
      dsimp only
      have ar := tq_arg (TA.w u' a' y)
      generalize (TA.w u' a' y).d tN = da at *
      generalize (TA.w u' a' y).wd = wd at *
      simp -implicitDefEqProofs (maxSteps := 2000000) (disch := first | omega | assumption | (simp; done) | (simp; omega)) [compStep, ct1__law_words, ce1__law_words, g2, a0, sb, ar]
    | c ps =>
      rw [ea] at a0 sb g2
      rw [decide_eq_false (show ¬ (TA.c ps).wd = "mark" by show ¬ ("cut" : Str) = "mark"; decide)] at sb
      rw [eP]
      rw [ed] at g2 ⊢
      dsimp only
      have ar := tq_arg (TA.c ps)
      generalize (TA.c ps).d tN = da at *
      generalize (TA.c ps).wd = wd at *
      simp -implicitDefEqProofs (maxSteps := 2000000) (disch := first | omega | assumption | (simp; done) | (simp; omega)) [compStep, ct1__law_words, ce1__law_words, g2, a0, sb, ar]
    | k f l w =>
      rw [ea] at a0 sb g2
      rw [decide_eq_false (show ¬ (TA.k f l w).wd = "mark" by show ¬ ("clear" : Str) = "mark"; decide)] at sb
      rw [eP]
      rw [ed] at g2 ⊢
      dsimp only
      have ar := tq_arg (TA.k f l w)
      generalize (TA.k f l w).d tN = da at *
      generalize (TA.k f l w).wd = wd at *
      simp -implicitDefEqProofs (maxSteps := 2000000) (disch := first | omega | assumption | (simp; done) | (simp; omega)) [compStep, ct1__law_words, ce1__law_words, g2, a0, sb, ar]
theorem wk_ev : runComp [5] (.v 5) ct2__law_words ce2__law_words (L.map Tq.d) ⟨[s0, .sh (pd p), s2, s3, s4, .no, s6, s7, s8], st⟩ = some ((L.filter (isK p)).map Tq.d, ⟨[s0, .sh (pd p), s2, s3, s4, .no, s6, s7, s8], st⟩) :=
  comp_flt (vs := [5]) (p := .v 5) (t := ct2__law_words) (a := ce2__law_words) Tq.d (isK p) Tq.d _ L fun d hd => by
    have g2 := d.g2
    have a0 := tq_a0 d.a
    have sb := beq_str d.a.wd "clear"
    have oa := ok d hd
    obtain ⟨u, v, ed⟩ := d.tup
    obtain ⟨XP, eP⟩ : ∃ xs, pd p = .tuple xs := ⟨_, rfl⟩
    unfold isK
    cases ea : d.a with
    | k f l w =>
      rw [ea] at a0 sb oa g2
      have li := lin_ev hp oa.1 oa.2 (act := (TA.k f l w).d tN) rfl rfl (tq_arg _) st
      rw [decide_eq_true (show (TA.k f l w).wd = "clear" from rfl)] at sb
      rw [eP] at li ⊢
      rw [ed] at g2 ⊢
      dsimp only
      have ar := tq_arg (TA.k f l w)
      clear oa ea
      obtain ⟨da, eda⟩ : ∃ da, da = (TA.k f l w).d tN := ⟨_, rfl⟩
      rw [← eda] at li ar g2 a0
      obtain ⟨wd, ewd⟩ : ∃ wd, wd = (TA.k f l w).wd := ⟨_, rfl⟩
      rw [← ewd] at a0 sb
      clear eda ewd
      by_cases c : inP p f l = true
      · rw [if_pos c]
        rw [c] at li
        simp -implicitDefEqProofs (maxSteps := 2000000) (disch := first | omega | assumption | (simp; done) | (simp; omega)) [compStep, ct2__law_words, ce2__law_words, g2, a0, sb, li, ar]
      · rw [if_neg c]
        rw [Bool.not_eq_true] at c
        rw [c] at li
        simp -implicitDefEqProofs (maxSteps := 2000000) (disch := first | omega | assumption | (simp; done) | (simp; omega)) [compStep, ct2__law_words, ce2__law_words, g2, a0, sb, li, ar]
    | w u' a' y =>
      rw [ea] at a0 sb g2
      rw [decide_eq_false (show ¬ (TA.w u' a' y).wd = "clear" by show ¬ ("write" : Str) = "clear"; decide)] at sb
      rw [eP]
      rw [ed] at g2 ⊢
      dsimp only
      have ar := tq_arg (TA.w u' a' y)
      generalize (TA.w u' a' y).d tN = da at *
      generalize (TA.w u' a' y).wd = wd at *
      simp -implicitDefEqProofs (maxSteps := 2000000) (disch := first | omega | assumption | (simp; done) | (simp; omega)) [compStep, ct2__law_words, ce2__law_words, g2, a0, sb, ar]
    | c ps =>
      rw [ea] at a0 sb g2
      rw [decide_eq_false (show ¬ (TA.c ps).wd = "clear" by show ¬ ("cut" : Str) = "clear"; decide)] at sb
      rw [eP]
      rw [ed] at g2 ⊢
      dsimp only
      have ar := tq_arg (TA.c ps)
      generalize (TA.c ps).d tN = da at *
      generalize (TA.c ps).wd = wd at *
      simp -implicitDefEqProofs (maxSteps := 2000000) (disch := first | omega | assumption | (simp; done) | (simp; omega)) [compStep, ct2__law_words, ce2__law_words, g2, a0, sb, ar]
    | m f l w =>
      rw [ea] at a0 sb g2
      rw [decide_eq_false (show ¬ (TA.m f l w).wd = "clear" by show ¬ ("mark" : Str) = "clear"; decide)] at sb
      rw [eP]
      rw [ed] at g2 ⊢
      dsimp only
      have ar := tq_arg (TA.m f l w)
      generalize (TA.m f l w).d tN = da at *
      generalize (TA.m f l w).wd = wd at *
      simp -implicitDefEqProofs (maxSteps := 2000000) (disch := first | omega | assumption | (simp; done) | (simp; omega)) [compStep, ct2__law_words, ce2__law_words, g2, a0, sb, ar]
end
theorem geq_nilK {k : Nat} (hk : k ≤ 50) (l : List D) (h : ∀ x ∈ l, Fl k x) : gEq (.d (.list l)) (.d (.list [])) = some (.sh (.bool l.isEmpty)) := by
  rw [gEq_d (shallow_fl (Fl.l h) (Fl.l (k := 0) (xs := []) fun x hx => by cases hx) (.inl (by omega)))]
  cases l with
  | nil =>
    have : PyData.eqv (.list []) (.list []) = true := by rw [PyData.eqv]; rfl
    rw [this]; rfl
  | cons a r =>
    have : PyData.eqv (.list (a :: r)) (.list []) = false := by rw [PyData.eqv]; rfl
    rw [this]; rfl
def hitB (x c : Tq) : Bool := decide (wdO c = wdO x) && anyC c.sn x.h x.n
def gotH (K : List Tq) (x : Tq) : Bool := K.any (hitB x)
def fstep (K : List Tq) (acc : List Str) (x : Tq) : List Str := if gotH K x = false ∧ wdO x ∉ acc then acc ++ [wdO x] else acc
theorem fst_mem (K : List Tq) : ∀ (M : List Tq) (acc : List Str) (v : Str), v ∈ M.foldl (fstep K) acc ↔ v ∈ acc ∨ ∃ x ∈ M, wdO x = v ∧ gotH K x = false
  | [], acc, v => by simp
  | x :: M, acc, v => by
    rw [List.foldl_cons, fst_mem K M]
    unfold fstep
    by_cases c : gotH K x = false ∧ wdO x ∉ acc
    · rw [if_pos c, List.mem_append, List.mem_singleton]
      constructor
      · rintro ((h | h) | ⟨y, hy, e⟩)
        · exact .inl h
        · exact .inr ⟨x, List.mem_cons_self, h.symm, c.1⟩
        · exact .inr ⟨y, List.mem_cons_of_mem _ hy, e⟩
      · rintro (h | ⟨y, hy, e1, e2⟩)
        · exact .inl (.inl h)
        · rcases List.mem_cons.mp hy with rfl | hy
          · exact .inl (.inr e1.symm)
          · exact .inr ⟨y, hy, e1, e2⟩
    · rw [if_neg c]
      constructor
      · rintro (h | ⟨y, hy, e⟩)
        · exact .inl h
        · exact .inr ⟨y, List.mem_cons_of_mem _ hy, e⟩
      · rintro (h | ⟨y, hy, e1, e2⟩)
        · exact .inl h
        · rcases List.mem_cons.mp hy with rfl | hy
          · refine .inl (Classical.byContradiction fun no => c ⟨e2, by rw [e1]; exact no⟩)
          · exact .inr ⟨y, hy, e1, e2⟩
theorem fst_nd (K : List Tq) : ∀ (M : List Tq) (acc : List Str), acc.Nodup → (M.foldl (fstep K) acc).Nodup
  | [], acc, h => h
  | x :: M, acc, h => by
    rw [List.foldl_cons]
    refine fst_nd K M _ ?_
    unfold fstep
    split
    · rename_i c
      rw [List.nodup_append]
      refine ⟨h, by simp, fun a ha b hb e => ?_⟩
      rw [List.mem_singleton.mp hb] at e
      exact c.2 (e ▸ ha)
    · exact h
theorem fst_len (K : List Tq) : ∀ (M : List Tq) (acc : List Str), (M.foldl (fstep K) acc).length ≤ acc.length + M.length
  | [], acc => Nat.le_refl _
  | x :: M, acc => by
    rw [List.foldl_cons, List.length_cons]
    refine Nat.le_trans (fst_len K M _) ?_
    unfold fstep
    split
    · rw [List.length_append, List.length_singleton]; omega
    · omega
theorem isM_at {p : List Sp} {x : Tq} (h : isM p x = true) : ∃ f l w, x.a = .m f l w ∧ inP p f l = true ∧ wdO x = w := by
  unfold isM at h
  cases ea : x.a with
  | m f l w => rw [ea] at h; exact ⟨f, l, w, rfl, h, by unfold wdO; rw [ea]⟩
  | _ => rw [ea] at h; cases h
theorem isK_at {p : List Sp} {x : Tq} (h : isK p x = true) : ∃ f l w, x.a = .k f l w ∧ inP p f l = true ∧ wdO x = w := by
  unfold isK at h
  cases ea : x.a with
  | k f l w => rw [ea] at h; exact ⟨f, l, w, rfl, h, by unfold wdO; rw [ea]⟩
  | _ => rw [ea] at h; cases h
theorem words_in {G L : List Tq} (g : Lg G L) (un : ∀ d ∈ L, (d.sn.map (·.1)).Nodup) (p : List Sp) (v : Str) : v ∈ wds (txQ L).2 p ↔ v ∈ (L.filter (isM p)).foldl (fstep (L.filter (isK p))) [] := by
  rw [wds_mem g, fst_mem]
  constructor
  · rintro ⟨x, hx, f, l, ea, ip, hc⟩
    refine .inr ⟨x, List.mem_filter.mpr ⟨hx, by unfold isM; rw [ea]; exact ip⟩, by unfold wdO; rw [ea], ?_⟩
    unfold gotH
    rw [List.any_eq_false]
    intro c hk z
    obtain ⟨ck, ic⟩ := List.mem_filter.mp hk
    obtain ⟨q, r, w, eb, ib, ew⟩ := isK_at ic
    unfold hitB at z
    rw [Bool.and_eq_true, decide_eq_true_iff, any_cov (un c ck)] at z
    have wv : wdO x = v := by unfold wdO; rw [ea]
    have : w = v := by rw [← ew, z.1, wv]
    subst this
    rw [hc c ck q r eb z.2] at ib
    cases ib
  · rintro (h | ⟨x, hx, wv, gh⟩)
    · cases h
    · obtain ⟨xl, ix⟩ := List.mem_filter.mp hx
      obtain ⟨f, l, w, ea, ip, ew⟩ := isM_at ix
      have : w = v := ew.symm.trans wv
      subst this
      refine ⟨x, xl, f, l, ea, ip, fun c hc q r eb cv => ?_⟩
      cases z : inP p q r with
      | false => rfl
      | true =>
        exfalso
        unfold gotH at gh
        rw [List.any_eq_false] at gh
        refine gh c (List.mem_filter.mpr ⟨hc, by unfold isK; rw [eb]; exact z⟩) ?_
        unfold hitB
        rw [Bool.and_eq_true, decide_eq_true_iff, any_cov (un c hc)]
        exact ⟨by rw [ew]; unfold wdO; rw [eb], cv⟩
theorem hit_ev {p : List Sp} {x : Tq} {K : List Tq} (hK : ∀ c ∈ K, isK p c = true ∧ c.sn.length ≤ 1000) (s0 s1 s2 s3 s4 s7 : CM.Slot) (st : Store) :
    runComp [8] (.v 8) ct3__law_words ce3__law_words (K.map Tq.d) ⟨[s0, s1, s2, s3, s4, .sh x.d, .sh (.str (wdO x)), s7, .no], st⟩ = some ((K.filter (hitB x)).map Tq.d, ⟨[s0, s1, s2, s3, s4, .sh x.d, .sh (.str (wdO x)), s7, .no], st⟩) :=
  comp_flt (vs := [8]) (p := .v 8) (t := ct3__law_words) (a := ce3__law_words) Tq.d (hitB x) Tq.d _ K fun c hc => by
    obtain ⟨ic, cl⟩ := hK c hc
    obtain ⟨q, r, w, eb, _, ew⟩ := isK_at ic
    have g2 := c.g2
    have g1 := c.g1
    have x0 := x.g0
    have a4 : gIx (.d (c.a.d tN)) (.d (.int 4)) = some (.sh (.str (wdO c))) := by rw [ew, eb]; rfl
    have cv := lcovers_ev c.sn x.h x.n st cl
    have sb := beq_str (wdO c) (wdO x)
    have xn : x.nmD = .tuple [.str x.h, .int x.n] := rfl
    obtain ⟨u, v, ed⟩ := c.tup
    obtain ⟨u', v', ed'⟩ := x.tup
    rw [xn] at x0 ed'
    rw [ed'] at x0 ⊢
    rw [ed] at g2 g1 ⊢
    unfold hitB
    clear hK ed ed' eb ew
    generalize c.a.d tN = ca at *
    generalize c.sn.map prD = SN at *
    generalize anyC c.sn x.h x.n = A at *
    generalize wdO c = wc at *
    generalize wdO x = wx at *
    by_cases e : wc = wx
    · rw [decide_eq_true e] at sb ⊢
      cases A <;> simp -implicitDefEqProofs (maxSteps := 2000000) (disch := first | omega | assumption | (simp; done) | (simp; omega)) [compStep, ct3__law_words, ce3__law_words, g2, a4, sb, g1, x0, cv]
    · rw [decide_eq_false e] at sb ⊢
      simp -implicitDefEqProofs (maxSteps := 2000000) (disch := first | omega | assumption | (simp; done) | (simp; omega)) [compStep, ct3__law_words, ce3__law_words, g2, a4, sb, g1, x0]
theorem lwords_ev {G L : List Tq} (g : Lg G L) (ok : ∀ q ∈ L, q.a.ok) (un : ∀ d ∈ L, (d.sn.map (·.1)).Nodup ∧ d.sn.length ≤ 1000) (ll : L.length ≤ 1000) {p : List Sp} (hp : Pk p) (b : Nat) (st : Store) (hb : bxAt st b = some (.d (.list (L.map Tq.d)))) :
    d__law_words [.d (bxD b), .d (pd p)] st = some (.fr (.d (.list ((srtT (wds (txQ L).2 p)).map PyData.str))), st) := by
  obtain ⟨M, hM⟩ : ∃ M, M = L.filter (isM p) := ⟨_, rfl⟩
  obtain ⟨K, hK⟩ : ∃ K, K = L.filter (isK p) := ⟨_, rfl⟩
  have ml : M.length ≤ 1000 := by rw [hM]; exact Nat.le_trans (List.length_filter_le _ _) ll
  have kl : K.length ≤ 1000 := by rw [hK]; exact Nat.le_trans (List.length_filter_le _ _) ll
  have Kq : ∀ c ∈ K, isK p c = true ∧ c.sn.length ≤ 1000 := fun c hc => by
    rw [hK] at hc
    obtain ⟨h1, h2⟩ := List.mem_filter.mp hc
    exact ⟨h2, (un c h1).2⟩
  have Mq : ∀ x ∈ M, isM p x = true := fun x hx => by
    rw [hM] at hx
    exact (List.mem_filter.mp hx).2
  have mem := words_in g (fun d hd => (un d hd).1) p
  rw [← hM, ← hK] at mem
  have wm := fun s0 s2 s3 s4 s6 s7 s8 => wm_ev ok hp s0 s2 s3 s4 s6 s7 s8 (bxLok st b (.d (.list (L.map Tq.d))))
  have wk := fun s0 s2 s3 s4 s6 s7 s8 => wk_ev ok hp s0 s2 s3 s4 s6 s7 s8 (bxLok st b (.d (.list (L.map Tq.d))))
  rw [← hM] at wm
  rw [← hK] at wk
  obtain ⟨r', f, s5, s6, s7, rfl⟩ := for_inv (p := .v 5) (f := l1__law_words) Tq.d (fun k r => ∃ (s5 s6 s7 : CM.Slot), r = (⟨[.sh (bxD b), .sh (pd p), .lk (.d (.list (M.map Tq.d))), .ow (.d (.list (K.map Tq.d))), .ow (.d (.list (((M.take k).foldl (fstep K) []).map PyData.str))), s5, s6, s7, .no], st⟩ : CM.Env)) M
    ⟨[.sh (bxD b), .sh (pd p), .lk (.d (.list (M.map Tq.d))), .ow (.d (.list (K.map Tq.d))), .ow (.d (.list [])), .no, .no, .no, .no], st⟩ ⟨.no, .no, .no, rfl⟩ fun k r x hI hx => by
      obtain ⟨s5, s6, s7, rfl⟩ := hI
      have xm := List.mem_of_getElem? hx
      obtain ⟨ff, l, w, ea, _, ew⟩ := isM_at (Mq x xm)
      have tk : M.take (k + 1) = M.take k ++ [x] := by rw [List.take_add_one, hx]; rfl
      have fs : (M.take (k + 1)).foldl (fstep K) [] = fstep K ((M.take k).foldl (fstep K) []) x := by rw [tk, List.foldl_append]; rfl
      have al := fst_len K (M.take k) []
      have hl : (M.take k).length ≤ M.length := by rw [List.length_take]; omega
      rw [fs]
      generalize (M.take k).foldl (fstep K) [] = acc at *
      have h8 := fun s0 s1 s2 s3 s4 s7 => hit_ev (x := x) Kq s0 s1 s2 s3 s4 s7 st
      have gn := geq_nilK (k := 6) (by decide) ((K.filter (hitB x)).map Tq.d) fun y hy => by
        obtain ⟨c, _, rfl⟩ := List.mem_map.mp hy
        exact c.fl
      have em : ((K.filter (hitB x)).map Tq.d).isEmpty = !gotH K x := by
        unfold gotH
        rw [Bool.eq_iff_iff, List.isEmpty_iff, List.map_eq_nil_iff, List.filter_eq_nil_iff, Bool.not_eq_true', List.any_eq_false]
      rw [em] at gn
      have ni := notIn_strs acc (wdO x)
      have g2 := x.g2
      have a4 : gIx (.d (x.a.d tN)) (.d (.int 4)) = some (.sh (.str (wdO x))) := by rw [ew, ea]; rfl
      have acl : (acc.map PyData.str).length ≤ 2000 := by rw [List.length_map]; simp at al; omega
      have kl' : (K.map Tq.d).length ≤ 1000 := by rw [List.length_map]; exact kl
      have fl : ((K.filter (hitB x)).map Tq.d).length ≤ 1000 := by rw [List.length_map]; exact Nat.le_trans (List.length_filter_le _ _) kl
      obtain ⟨u, v, ed⟩ := x.tup
      obtain ⟨XP, eP⟩ : ∃ xs, pd p = .tuple xs := ⟨_, rfl⟩
      refine ⟨_, ?_, .sh x.d, .sh (.str (wdO x)), .ow (.d (.list ((K.filter (hitB x)).map Tq.d))), rfl⟩
      unfold fstep
      rw [eP]
      clear wm wk mem Kq Mq em tk fs hx xm ea ew al hl
      rw [ed] at g2 h8 ⊢
      generalize x.a.d tN = xa at *
      generalize (K.filter (hitB x)).map Tq.d = KF at *
      generalize K.map Tq.d = KD at *
      generalize M.map Tq.d = MD at *
      by_cases c1 : gotH K x = false ∧ wdO x ∉ acc
      · rw [if_pos c1, List.map_append, List.map_singleton]
        rw [c1.1] at gn
        rw [decide_eq_false c1.2] at ni
        generalize acc.map PyData.str = AC at *
        generalize wdO x = wx at *
        simp -implicitDefEqProofs (maxSteps := 2000000) (disch := first | omega | assumption | (simp; done) | (simp; omega)) [l1__law_words, g2, a4, h8, gn, ni]
      · rw [if_neg c1]
        by_cases c2 : gotH K x = false
        · rw [c2] at gn
          rw [decide_eq_true (Classical.byContradiction fun no => c1 ⟨c2, no⟩)] at ni
          generalize acc.map PyData.str = AC at *
          generalize wdO x = wx at *
          simp -implicitDefEqProofs (maxSteps := 2000000) (disch := first | omega | assumption | (simp; done) | (simp; omega)) [l1__law_words, g2, a4, h8, gn, ni]
        · rw [Bool.not_eq_false] at c2
          rw [c2] at gn
          generalize acc.map PyData.str = AC at *
          generalize wdO x = wx at *
          simp -implicitDefEqProofs (maxSteps := 2000000) (disch := first | omega | assumption | (simp; done) | (simp; omega)) [l1__law_words, g2, a4, h8, gn, ni]
  rw [List.take_length] at f
  have nd := fst_nd K M [] List.nodup_nil
  have fl := fst_len K M []
  have sw := srtT_of nd (l := wds (txQ L).2 p) fun w => mem w
  have so : gSorted [.d (.list ((M.foldl (fstep K) []).map PyData.str))] = some (.fr (.d (.list ((srtT (wds (txQ L).2 p)).map PyData.str)))) := by
    rw [gSorted_l (sortB_strs _ (by simp at fl; omega)), sortD_map, sw]
  have b1 := bxLk_of hb
  have b2 := bxLend_of hb
  have b3 := bxLock_of hb
  have b4 := bxUn_of hb
  have c1 : (L.map Tq.d).length ≤ 1000 := by rw [List.length_map]; exact ll
  have c2 : (M.map Tq.d).length ≤ 1000 := by rw [List.length_map]; exact ml
  have c3 : (K.map Tq.d).length ≤ 1000 := by rw [List.length_map]; exact kl
  obtain ⟨XP, eP⟩ : ∃ xs, pd p = .tuple xs := ⟨_, rfl⟩
  rw [eP] at f wm wk ⊢
  clear sw mem nd fl Kq Mq hM hK
  generalize (M.foldl (fstep K) []).map PyData.str = AC at *
  generalize (srtT (wds (txQ L).2 p)).map PyData.str = SW at *
  generalize L.map Tq.d = LD at *
  generalize M.map Tq.d = MD at *
  generalize K.map Tq.d = KD at *
  generalize bxLok st b (.d (.list LD)) = st1 at *
  simp -implicitDefEqProofs (maxSteps := 2000000) (disch := first | omega | assumption | (simp; done) | (simp; omega)) [d__law_words, b__law_words, b1, b2, b3, b4, wm, wk, f, so]
theorem due_turn (d : Tq) (dk : d.a.ok) (h8 : d.h.cps.size ≤ 8) (gs : List (List Sp)) (ws : List Sg) (gl : gs.length ≤ 100000) (wl : ws.length ≤ 100000) (pl : d.gone.length ≤ 100000) (s0 s4 s5 s6 s7 : CM.Slot) (st : Store) :
    l1__law_due ⟨[s0, .ow (.d (.list (gs.map pd))), .ow (.d (.list (ws.map rowS))), .sh d.d, s4, s5, s6, s7], st⟩ = some (.nx, ⟨[s0, .ow (.d (.list ((gs ++ d.gone).map pd))), .ow (.d (.list ((ws ++ d.rows).map rowS))), .sh d.d, s4, s5, s6, s7], st⟩) := by
  have g2 := d.g2
  have a0 := tq_a0 d.a
  have sb1 := beq_str d.a.wd "cut"
  have sb2 := beq_str d.a.wd "write"
  obtain ⟨u, v, ed⟩ := d.tup
  have gl' : (gs.map pd).length ≤ 100000 := by rw [List.length_map]; exact gl
  have wl' : (ws.map rowS).length ≤ 100000 := by rw [List.length_map]; exact wl
  unfold Tq.gone at pl ⊢
  unfold Tq.rows
  cases ea : d.a with
  | w u' a' y =>
    rw [ea] at a0 sb1 sb2 g2 dk
    obtain ⟨Y, hY⟩ : ∃ Y : Wr, Y = ⟨.none, d.h, d.n, .tuple (d.sn.map prD), u', a', y⟩ := ⟨_, rfl⟩
    have yo : WrOk Y := by rw [hY]; exact ⟨h8, dk.2.2.1, dk.1, dk.2.1, dk.2.2.2.1, by show y.cps.size ≤ 50; have := dk.2.2.2.2; omega⟩
    obtain ⟨z, hz, ew⟩ := written_ev Y yo st
    have yd : wD Y = d.d := by
      rw [hY]
      show _ = PyData.tuple [d.nmD, .tuple (d.sn.map prD), d.a.d tN]
      rw [ea]; rfl
    have yr : Y.rows = rowsW d.h d.n u' a' y := by rw [hY]; rfl
    have rl : (Y.rows.map rowS).length ≤ 50 := by rw [List.length_map, Y.rows_len]; exact yo.w2
    rw [yd] at ew
    rw [yr] at hz rl
    rw [decide_eq_false (show ¬ (TA.w u' a' y).wd = "cut" by show ¬ ("write" : Str) = "cut"; decide)] at sb1
    rw [decide_eq_true (show (TA.w u' a' y).wd = "write" from rfl)] at sb2
    dsimp only
    rw [List.append_nil, List.map_append]
    have ga : gAdd (.d (.list (ws.map rowS))) (.d (.list ((rowsW d.h d.n u' a' y).map rowS))) = some (.fr (.d (.list (ws.map rowS ++ (rowsW d.h d.n u' a' y).map rowS)))) := if_pos (by omega)
    have ar := tq_arg (TA.w u' a' y)
    rw [ed] at ew g2 ⊢
    clear ea dk yo yd yr hY ed
    generalize (rowsW d.h d.n u' a' y).map rowS = RW at *
    generalize ws.map rowS = WS at *
    generalize gs.map pd = GS at *
    generalize (TA.w u' a' y).wd = wd at *
    generalize (TA.w u' a' y).d tN = da at *
    rcases hz with rfl | rfl <;> simp -implicitDefEqProofs (maxSteps := 2000000) (disch := first | omega | assumption | (simp; done) | (simp; omega)) [l1__law_due, g2, a0, sb1, sb2, ew, ga]
  | c ps =>
    rw [ea] at a0 sb1 sb2 g2 pl
    dsimp only at pl ⊢
    have a2 : gIx (.d ((TA.c ps).d tN)) (.d (.int 2)) = some (.sh (.tuple (ps.map pd))) := rfl
    rw [decide_eq_true (show (TA.c ps).wd = "cut" from rfl)] at sb1
    rw [decide_eq_false (show ¬ (TA.c ps).wd = "write" by show ¬ ("cut" : Str) = "write"; decide)] at sb2
    rw [List.append_nil, List.map_append]
    have pl' : (ps.map pd).length ≤ 100000 := by rw [List.length_map]; exact pl
    have ga : gAdd (.d (.list (gs.map pd))) (.d (.list (ps.map pd))) = some (.fr (.d (.list (gs.map pd ++ ps.map pd)))) := if_pos (by omega)
    rw [ed] at g2 ⊢
    clear ea ed dk
    generalize ps.map pd = PS at *
    generalize ws.map rowS = WS at *
    generalize gs.map pd = GS at *
    generalize (TA.c ps).wd = wd at *
    generalize (TA.c ps).d tN = da at *
    simp -implicitDefEqProofs (maxSteps := 2000000) (disch := first | omega | assumption | (simp; done) | (simp; omega)) [l1__law_due, g2, a0, sb1, sb2, a2, ga]
  | m p q w =>
    rw [ea] at a0 sb1 sb2 g2
    rw [decide_eq_false (show ¬ (TA.m p q w).wd = "cut" by show ¬ ("mark" : Str) = "cut"; decide)] at sb1
    rw [decide_eq_false (show ¬ (TA.m p q w).wd = "write" by show ¬ ("mark" : Str) = "write"; decide)] at sb2
    dsimp only
    rw [List.append_nil, List.append_nil]
    rw [ed] at g2 ⊢
    clear ea ed dk
    generalize ws.map rowS = WS at *
    generalize gs.map pd = GS at *
    generalize (TA.m p q w).wd = wd at *
    generalize (TA.m p q w).d tN = da at *
    simp -implicitDefEqProofs (maxSteps := 2000000) (disch := first | omega | assumption | (simp; done) | (simp; omega)) [l1__law_due, g2, a0, sb1, sb2]
  | k p q w =>
    rw [ea] at a0 sb1 sb2 g2
    rw [decide_eq_false (show ¬ (TA.k p q w).wd = "cut" by show ¬ ("clear" : Str) = "cut"; decide)] at sb1
    rw [decide_eq_false (show ¬ (TA.k p q w).wd = "write" by show ¬ ("clear" : Str) = "write"; decide)] at sb2
    dsimp only
    rw [List.append_nil, List.append_nil]
    rw [ed] at g2 ⊢
    clear ea ed dk
    generalize ws.map rowS = WS at *
    generalize gs.map pd = GS at *
    generalize (TA.k p q w).wd = wd at *
    generalize (TA.k p q w).d tN = da at *
    simp -implicitDefEqProofs (maxSteps := 2000000) (disch := first | omega | assumption | (simp; done) | (simp; omega)) [l1__law_due, g2, a0, sb1, sb2]
theorem due_flt (l : List Sg) (gs : List (List Sp)) (s0 s2 s3 s4 s6 s7 : CM.Slot) (st : Store) :
    runComp [5] (.v 5) ct1__law_due ce1__law_due (l.map rowS) ⟨[s0, .ow (.d (.list (gs.map pd))), s2, s3, s4, .no, s6, s7], st⟩ = some ((outS l gs).map rowS, ⟨[s0, .ow (.d (.list (gs.map pd))), s2, s3, s4, .no, s6, s7], st⟩) :=
  comp_flt (vs := [5]) (p := .v 5) (t := ct1__law_due) (a := ce1__law_due) rowS (fun r => !decide (r.1 ∈ gs)) rowS _ l fun r _ => by
    obtain ⟨h1, h2⟩ := in_pds r.1 gs
    have ni : gNotIn (.d (pd r.1)) (.d (.list (gs.map pd))) = some (.sh (.bool (!decide (r.1 ∈ gs)))) := by
      rw [gNotIn_l h1, h2]; rfl
    have er : rowS r = .tuple [pd r.1, .str r.2] := rfl
    obtain ⟨xs, ex⟩ : ∃ xs, pd r.1 = .tuple xs := ⟨_, rfl⟩
    rw [ex] at ni
    rw [er, ex]
    generalize gs.map pd = GS at *
    clear h1 h2
    generalize decide (r.1 ∈ gs) = z at *
    cases z <;> simp -implicitDefEqProofs (maxSteps := 2000000) (disch := first | omega | assumption | (simp; done) | (simp; omega)) [compStep, ct1__law_due, ce1__law_due, ni]
theorem due_ev {G L : List Tq} (g : Lg G L) (q : Qk L) (un : ∀ d ∈ L, (d.sn.map (·.1)).Nodup ∧ d.sn.length ≤ 1000) (gn : ∀ d ∈ L, d.gone.length ≤ 400) (b : Nat) (st : Store) (hb : bxAt st b = some (.d (.list (L.map Tq.d)))) :
    d__law_due [.d (bxD b)] st = some (.fr (.d (.list (txTold (txQ L).1 (txQ L).2))), st) := by
  have T := tx_of q
  have ll := q.ll
  have f1 := T.ok.ll
  obtain ⟨r', f, s3, rfl, _, w50⟩ := for_inv (p := .v 3) (f := l1__law_due) Tq.d (fun k r => ∃ s3 : CM.Slot, r = (⟨[.sh (bxD b), .ow (.d (.list ((gnL (L.take k)).map pd))), .ow (.d (.list ((wrL (L.take k)).map rowS))), s3, .no, .no, .no, .no], bxLok st b (.d (.list (L.map Tq.d)))⟩ : CM.Env) ∧ (gnL (L.take k)).length ≤ 400 * k ∧ (wrL (L.take k)).length ≤ 50 * k) L
    ⟨[.sh (bxD b), .ow (.d (.list [])), .ow (.d (.list [])), .no, .no, .no, .no, .no], bxLok st b (.d (.list (L.map Tq.d)))⟩ ⟨.no, rfl, Nat.le_refl _, Nat.le_refl _⟩ fun k r d hI hd => by
      obtain ⟨s3, rfl, l1, l2⟩ := hI
      have hk := (List.getElem?_eq_some_iff.mp hd).1
      have dm := List.mem_of_getElem? hd
      have tk : L.take (k + 1) = L.take k ++ [d] := by rw [List.take_add_one, hd]; rfl
      have dg := gn d dm
      have dk := q.ok d dm
      have w1 : wrL (L.take (k + 1)) = wrL (L.take k) ++ d.rows := by rw [tk, wrL_app, (one_rows d).1]
      have w2 : gnL (L.take (k + 1)) = gnL (L.take k) ++ d.gone := by rw [tk, gnL_app, (one_rows d).2]
      have dr : d.rows.length ≤ 50 := by
        unfold Tq.rows
        cases ea : d.a with
        | w u a y =>
          have o := dk.1
          rw [ea] at o
          have := (⟨.none, d.h, d.n, .none, u, a, y⟩ : Wr).rows_len
          show (⟨.none, d.h, d.n, .none, u, a, y⟩ : Wr).rows.length ≤ 50
          rw [this]
          show y.cps.size ≤ 50
          have := o.2.2.2.2
          omega
        | _ => exact Nat.zero_le _
      have D := due_turn d dk.1 dk.2 (gnL (L.take k)) (wrL (L.take k)) (by omega) (by omega) (by omega) (.sh (bxD b)) .no .no .no .no (bxLok st b (.d (.list (L.map Tq.d))))
      refine ⟨_, ?_, .sh d.d, rfl, by rw [w2, List.length_append]; omega, by rw [w1, List.length_append]; omega⟩
      rw [w1, w2]
      show l1__law_due _ = _
      exact D
  rw [List.take_length] at f w50
  have al : (alive L).length ≤ 4000 := by rw [← T.pm.length_eq]; omega
  have fl := fun s2 s3 s4 s6 s7 => due_flt (wrL L) (gnL L) (.sh (bxD b)) s2 s3 s4 s6 s7 st
  have so := lsorted_ev T.ok.asc T.pm T.ok.ok al
  have cm := fun s1 s2 s3 s4 s5 => comp_map (vs := [6, 7]) (p := .t [6, 7]) (t := tYesD) (a := ce2__law_due) rowS (fun r => .tuple [pd r.1, .str r.2, .list ((srtT (wds (txQ L).2 r.1)).map PyData.str)]) ⟨[.sh (bxD b), s1, s2, s3, s4, s5, .no, .no], st⟩ (txQ L).1 fun r hr => by
    have w := lwords_ev g (fun q' hq => (q.ok q' hq).1) un (by omega) (T.ok.ok r hr) b st hb
    have wl : ((srtT (wds (txQ L).2 r.1)).map PyData.str).length ≤ 4000 := by
      rw [List.length_map]
      refine Nat.le_trans (srtT_len _) ?_
      unfold wds
      rw [List.length_map]
      refine Nat.le_trans (List.length_filter_le _ _) ?_
      have := T.ok.ml; omega
    have er : rowS r = .tuple [pd r.1, .str r.2] := rfl
    obtain ⟨xs, ex⟩ : ∃ xs, pd r.1 = .tuple xs := ⟨_, rfl⟩
    rw [ex] at w ⊢
    rw [er, ex]
    generalize (srtT (wds (txQ L).2 r.1)).map PyData.str = SW at *
    simp -implicitDefEqProofs (maxSteps := 2000000) (disch := first | omega | assumption | (simp; done) | (simp; omega)) [compStep, ce2__law_due, w]
  have cm : ∀ s1 s2 s3 s4 s5, runComp [6, 7] (.t [6, 7]) tYesD ce2__law_due ((txQ L).1.map rowS) ⟨[.sh (bxD b), s1, s2, s3, s4, s5, .no, .no], st⟩ = some (txTold (txQ L).1 (txQ L).2, ⟨[.sh (bxD b), s1, s2, s3, s4, s5, .no, .no], st⟩) := cm
  have e0 : outS (wrL L) (gnL L) = alive L := rfl
  rw [e0] at fl
  have b2 := bxLend_of hb
  have b3 := bxLock_of hb
  have b4 := bxUn_of hb
  have c1 : (L.map Tq.d).length ≤ 1000 := by rw [List.length_map]; omega
  have c2 : ((alive L).map rowS).length ≤ 4000 := by rw [List.length_map]; exact al
  have c3 : ((txQ L).1.map rowS).length ≤ 4000 := by rw [List.length_map]; omega
  have c4 : ((wrL L).map rowS).length ≤ 100000 := by
    rw [List.length_map]; omega
  clear un gn g q T e0
  generalize txTold (txQ L).1 (txQ L).2 = TT at *
  generalize (txQ L).1.map rowS = LR at *
  generalize (alive L).map rowS = AR at *
  generalize (wrL L).map rowS = WR at *
  generalize (gnL L).map pd = GR at *
  generalize L.map Tq.d = LD at *
  generalize bxLok st b (.d (.list LD)) = st1 at *
  simp -implicitDefEqProofs (maxSteps := 2000000) (disch := first | omega | assumption | (simp; done) | (simp; omega)) [d__law_due, b__law_due, b2, b3, b4, f, fl, so, cm]
theorem law_loop {hs : List Str} (nd : hs.Nodup) (hl : hs.length = 3) (hd : ∀ h ∈ hs, Hd h) (s0 s1 : CM.Slot) (st0 : Store) (b : Nat) (c : Nat → Nat) (is : Nat → List Nat) (S0 : S46 hs 0 st0 b [] (fun _ => []) c is) (xs : List Int) (hx : xs.length ≤ 36) :
    ∃ r', runFor (.v 1) l1_law (xs.map PyData.int) ⟨[s0, s1, .ow (.d (.list (hs.map PyData.str))), .ow (.d (.list [obD 0, obD 3, obD 6])), .sh (bxD b), .no, .no, .no, .no, .no, .no, .no, .no, .no, .no, .no, .no, .no, .no], st0⟩ = some (.nx, r') ∧ I46 hs s0 b xs.length r' := by
  refine for_inv (p := .v 1) (f := l1_law) PyData.int (fun k r => k ≤ xs.length → I46 hs s0 b k r) xs _ (fun _ => ⟨st0, s1, .no, .no, .no, .no, .no, rfl, [], _, c, is, S0⟩) (fun k r x hI hx' => ?_) |>.imp fun r' h => ⟨h.1, h.2 (Nat.le_refl _)⟩
  have kl := (List.getElem?_eq_some_iff.mp hx').1
  obtain ⟨st, s1, s5, s6, s7, s8, s9, rfl, G, L, c', is', S⟩ := hI (by omega)
  have T : ∃ r2, l1_law ⟨[s0, .sh (.int x), .ow (.d (.list (hs.map PyData.str))), .ow (.d (.list [obD 0, obD 3, obD 6])), .sh (bxD b), s5, s6, s7, s8, s9, .no, .no, .no, .no, .no, .no, .no, .no, .no], st⟩ = some (.nx, r2) ∧ I46 hs s0 b (k + 1) r2 := by
    by_cases h3 : x / 3 % 4 = 3
    · exact meet_turn (by omega) S x h3 s5 s6 s7 s8 s9
    · exact deed_turn nd hl hd (by omega) S x h3 s5 s6 s7 s8 s9
  obtain ⟨r2, e, I2⟩ := T
  refine ⟨r2, ?_, fun _ => I2⟩
  clear S I2 hI S0
  generalize hs.map PyData.str = HS at *
  simp -implicitDefEqProofs (maxSteps := 2000000) (disch := first | omega | assumption | (simp; done) | (simp; omega)) [e]
theorem meets_ev {hs : List Str} {G : List Tq} {st : Store} {b : Nat} {c : Nat → Nat} {is : Nat → List Nat} {L : Nat → List Tq} (W : Tw st b c is L L) (K : Kw hs G L) (gl : G.length ≤ 60) :
    ∃ s1 s2 s3 c3 is3 L3, d__law_meet [.d (.list [obD 0, obD 3, obD 6]), .d (bxD b), .d (.int 0), .d (.int 1)] st = some (.sh (.bool true), s1) ∧
      d__law_meet [.d (.list [obD 0, obD 3, obD 6]), .d (bxD b), .d (.int 0), .d (.int 2)] s1 = some (.sh (.bool true), s2) ∧
      d__law_meet [.d (.list [obD 0, obD 3, obD 6]), .d (bxD b), .d (.int 1), .d (.int 0)] s2 = some (.sh (.bool true), s3) ∧ Tw s3 b c3 is3 L3 L3 ∧ Kw hs G L3 ∧ (∀ d, d ∈ L3 1 ↔ d ∈ L3 0) ∧ ∀ d, d ∈ L3 2 ↔ d ∈ L3 0 := by
  obtain ⟨s1, c1, is1, L1, M1, W1, K1, a1, a2, a3⟩ := meet_ev W K gl (i := 0) (j := 1) (by decide) (by decide) (by decide)
  obtain ⟨s2, c2, is2, L2, M2, W2, K2, b1, b2, b3⟩ := meet_ev W1 K1 gl (i := 0) (j := 2) (by decide) (by decide) (by decide)
  obtain ⟨s3, c3, is3, L3, M3, W3, K3, d1, d2, d3⟩ := meet_ev W2 K2 gl (i := 1) (j := 0) (by decide) (by decide) (by decide)
  have e0 : ∀ d, d ∈ L3 0 ↔ d ∈ L 0 ∨ d ∈ L 1 ∨ d ∈ L 2 := fun d => by
    have x1 := b3 1 (by decide) (by decide)
    have x2 := a3 2 (by decide) (by decide)
    rw [d2, x1, b1, a2, a1, x2]
    constructor
    · rintro ((h | h) | (h | h) | h) <;> simp [h]
    · rintro (h | h | h) <;> simp [h]
  have e2 : ∀ d, d ∈ L3 2 ↔ d ∈ L 0 ∨ d ∈ L 1 ∨ d ∈ L 2 := fun d => by
    have x1 := d3 2 (by decide) (by decide)
    have x2 := a3 2 (by decide) (by decide)
    rw [x1, b2, a1, x2]
    exact or_assoc
  exact ⟨s1, s2, s3, c3, is3, L3, M1, M2, M3, W3, K3, fun d => by rw [d1, d2], fun d => (e2 d).trans (e0 d).symm⟩
theorem three_ev {DK : List D} {b : Nat} {st s1 s2 s3 : Store} (M1 : d__law_meet [.d (.list DK), .d (bxD b), .d (.int 0), .d (.int 1)] st = some (.sh (.bool true), s1)) (M2 : d__law_meet [.d (.list DK), .d (bxD b), .d (.int 0), .d (.int 2)] s1 = some (.sh (.bool true), s2))
    (M3 : d__law_meet [.d (.list DK), .d (bxD b), .d (.int 1), .d (.int 0)] s2 = some (.sh (.bool true), s3)) (z0 z1 z2 z5 z6 z7 z8 z9 z10 z11 : CM.Slot) :
    runFor (.t [12, 13]) l2_law [.tuple [.int 0, .int 1], .tuple [.int 0, .int 2], .tuple [.int 1, .int 0]] ⟨[z0, z1, z2, .ow (.d (.list DK)), .sh (bxD b), z5, z6, z7, z8, z9, z10, z11, .no, .no, .no, .no, .no, .no, .no], st⟩ =
      some (.nx, ⟨[z0, z1, z2, .ow (.d (.list DK)), .sh (bxD b), z5, z6, z7, z8, z9, z10, z11, .sh (.int 1), .sh (.int 0), .no, .no, .no, .no, .no], s3⟩) := by
  simp -implicitDefEqProofs (maxSteps := 2000000) (disch := first | omega | assumption | (simp; done) | (simp; omega)) [runFor, l2_law, M1, M2, M3]
theorem kept_ev (TT : List D) (h : ∀ x ∈ TT, ∃ p s w, x = .tuple [.tuple p, .str s, .list w] ∧ w.length ≤ 4000) (z0 z1 z2 z3 z4 z5 z6 z7 z8 z9 z10 z11 z12 z13 z14 z18 : CM.Slot) (st : Store) :
    runComp [15, 16, 17] (.t [15, 16, 17]) tYesD ce2_law TT ⟨[z0, z1, z2, z3, z4, z5, z6, z7, z8, z9, z10, z11, z12, z13, z14, .no, .no, .no, z18], st⟩ = some (TT, ⟨[z0, z1, z2, z3, z4, z5, z6, z7, z8, z9, z10, z11, z12, z13, z14, .no, .no, .no, z18], st⟩) := by
  have := comp_map (vs := [15, 16, 17]) (p := .t [15, 16, 17]) (t := tYesD) (a := ce2_law) (fun x : D => x) (fun x => x) ⟨[z0, z1, z2, z3, z4, z5, z6, z7, z8, z9, z10, z11, z12, z13, z14, .no, .no, .no, z18], st⟩ TT fun x hx => by
    obtain ⟨p, s, w, rfl, wl⟩ := h x hx
    simp -implicitDefEqProofs (maxSteps := 2000000) (disch := first | omega | assumption | (simp; done) | (simp; omega)) [compStep, ce2_law]
  rw [List.map_id'] at this
  exact this
theorem pre_ev (ns : List Int) : ∃ c : Int, ((ns = [] ∧ c = 0) ∨ ns[0]? = some c) ∧ ∀ (tl : List CM.Slot) (rest : SF) (st : Store),
    sSeq (sSet 1 (eC (.int 0))) (sSeq (sIf ((tE (eOp (gCmp .gt) ((eUn (fun c => gLen [c]) (eVar 0))) (eC (.int 0))))) (sSet 1 ((eOp gIx (eVar 0) (eC (.int 0))))) sNext) rest) ⟨.bo (.d (.list (ns.map PyData.int))) :: .no :: tl, st⟩ =
    rest ⟨.bo (.d (.list (ns.map PyData.int))) :: .sh (.int c) :: tl, st⟩ := by
  cases ns with
  | nil =>
    refine ⟨0, .inl ⟨rfl, rfl⟩, fun tl rest st => ?_⟩
    rw [List.map_nil]
    simp -implicitDefEqProofs (maxSteps := 2000000) (disch := first | omega | assumption | (simp; done) | (simp; omega)) []
  | cons a r =>
    refine ⟨a, .inr rfl, fun tl rest st => ?_⟩
    have h : atD ((a :: r).map PyData.int) 0 = some (.int a) := at0 _ _
    have l : 0 < ((a :: r).map PyData.int).length := by simp
    generalize (a :: r).map PyData.int = nn at *
    simp -implicitDefEqProofs (maxSteps := 2000000) (disch := first | omega | assumption | (simp; done) | (simp; omega)) [h, l]
theorem sinit_ev (st : Store) (n : Nat) (hn : st.length = n) : d_Signs___init__ [.d (obD n)] (st ++ [⟨"Signs", []⟩]) = some (.sh .none, st ++ [sg []]) := by
  subst hn
  have hg : (st ++ [(⟨"Signs", []⟩ : Ob)])[st.length]? = some ⟨"Signs", []⟩ := by rw [List.getElem?_append_right (Nat.le_refl _)]; simp
  have g2 := st_put hg
  have hset : ∀ y, (st ++ [(⟨"Signs", []⟩ : Ob)]).set st.length y = st ++ [y] := fun y => by rw [List.set_append_right _ _ (Nat.le_refl _)]; simp
  unfold sg
  simp only [hset] at g2
  generalize st.length = n at *
  generalize hs0 : st ++ [(⟨"Signs", []⟩ : Ob)] = s0 at *
  simp -implicitDefEqProofs (maxSteps := 2000000) (disch := first | omega | assumption | (simp; done) | (simp; omega)) [d_Signs___init__, b_Signs___init__, hg, g2]
theorem minit_ev (st : Store) (n : Nat) (hn : st.length = n) : d_Marks___init__ [.d (obD n)] (st ++ [⟨"Marks", []⟩]) = some (.sh .none, st ++ [mkA []]) := by
  subst hn
  have hg : (st ++ [(⟨"Marks", []⟩ : Ob)])[st.length]? = some ⟨"Marks", []⟩ := by rw [List.getElem?_append_right (Nat.le_refl _)]; simp
  have g2 := st_put hg
  have hset : ∀ y, (st ++ [(⟨"Marks", []⟩ : Ob)]).set st.length y = st ++ [y] := fun y => by rw [List.set_append_right _ _ (Nat.le_refl _)]; simp
  unfold mkA
  simp only [hset] at g2
  generalize st.length = n at *
  generalize hs0 : st ++ [(⟨"Marks", []⟩ : Ob)] = s0 at *
  simp -implicitDefEqProofs (maxSteps := 2000000) (disch := first | omega | assumption | (simp; done) | (simp; omega)) [d_Marks___init__, b_Marks___init__, hg, g2]
theorem tinit0 : d_Text___init__ [.d (obD 0)] [⟨"Text", []⟩] = some (.sh .none, [txO 1 2, sg [], mkA []]) := by
  have a := sinit_ev [⟨"Text", []⟩] 1 rfl
  have b := minit_ev [⟨"Text", [("signs", .d (obD 1))]⟩, sg []] 2 rfl
  unfold txO
  generalize sg [] = o1 at *
  generalize mkA [] = o2 at *
  have a : d_Signs___init__ [.d (obD 1)] [⟨"Text", []⟩, ⟨"Signs", []⟩] = some (.sh .none, [⟨"Text", []⟩, o1]) := a
  have b : d_Marks___init__ [.d (obD 2)] [⟨"Text", [("signs", .d (obD 1))]⟩, o1, ⟨"Marks", []⟩] = some (.sh .none, [⟨"Text", [("signs", .d (obD 1))]⟩, o1, o2]) := b
  simp -implicitDefEqProofs (maxSteps := 2000000) (disch := first | omega | assumption | (simp; done) | (simp; omega)) [d_Text___init__, b_Text___init__, a, b]
theorem tinit1 (x y z : Ob) : d_Text___init__ [.d (obD 3)] [x, y, z, ⟨"Text", []⟩] = some (.sh .none, [x, y, z, txO 4 5, sg [], mkA []]) := by
  have a := sinit_ev [x, y, z, ⟨"Text", []⟩] 4 rfl
  have b := minit_ev [x, y, z, ⟨"Text", [("signs", .d (obD 4))]⟩, sg []] 5 rfl
  unfold txO
  generalize sg [] = o1 at *
  generalize mkA [] = o2 at *
  have a : d_Signs___init__ [.d (obD 4)] [x, y, z, ⟨"Text", []⟩, ⟨"Signs", []⟩] = some (.sh .none, [x, y, z, ⟨"Text", []⟩, o1]) := a
  have b : d_Marks___init__ [.d (obD 5)] [x, y, z, ⟨"Text", [("signs", .d (obD 4))]⟩, o1, ⟨"Marks", []⟩] = some (.sh .none, [x, y, z, ⟨"Text", [("signs", .d (obD 4))]⟩, o1, o2]) := b
  simp -implicitDefEqProofs (maxSteps := 2000000) (disch := first | omega | assumption | (simp; done) | (simp; omega)) [d_Text___init__, b_Text___init__, a, b]
theorem tinit2 (x y z x' y' z' : Ob) : d_Text___init__ [.d (obD 6)] [x, y, z, x', y', z', ⟨"Text", []⟩] = some (.sh .none, [x, y, z, x', y', z', txO 7 8, sg [], mkA []]) := by
  have a := sinit_ev [x, y, z, x', y', z', ⟨"Text", []⟩] 7 rfl
  have b := minit_ev [x, y, z, x', y', z', ⟨"Text", [("signs", .d (obD 7))]⟩, sg []] 8 rfl
  unfold txO
  generalize sg [] = o1 at *
  generalize mkA [] = o2 at *
  have a : d_Signs___init__ [.d (obD 7)] [x, y, z, x', y', z', ⟨"Text", []⟩, ⟨"Signs", []⟩] = some (.sh .none, [x, y, z, x', y', z', ⟨"Text", []⟩, o1]) := a
  have b : d_Marks___init__ [.d (obD 8)] [x, y, z, x', y', z', ⟨"Text", [("signs", .d (obD 7))]⟩, o1, ⟨"Marks", []⟩] = some (.sh .none, [x, y, z, x', y', z', ⟨"Text", [("signs", .d (obD 7))]⟩, o1, o2]) := b
  simp -implicitDefEqProofs (maxSteps := 2000000) (disch := first | omega | assumption | (simp; done) | (simp; omega)) [d_Text___init__, b_Text___init__, a, b]
def st0 : Store := [txO 1 2, sg [], mkA [], txO 4 5, sg [], mkA [], txO 7 8, sg [], mkA [], bxO (.d (.list [])), bxO (.d (.list [])), bxO (.d (.list [])), bxO (.d (.list [bxD 9, bxD 10, bxD 11]))]
theorem tx0 : ∀ k, k < 3 → TxAt st0 (3 * k) [] [] [] := fun k hk => by
  have : k = 0 ∨ k = 1 ∨ k = 2 := by omega
  rcases this with rfl | rfl | rfl <;> exact ⟨rfl, ⟨rfl, ⟨rfl, rfl, (fun q hq => by cases hq), (fun h => by cases h), List.nodup_nil⟩, by decide, (fun h => by cases h)⟩, (fun h => by cases h)⟩
theorem s46_0 (hs : List Str) : S46 hs 0 st0 12 [] (fun _ => []) (fun k => k + 9) (fun _ => []) := by
  refine ⟨⟨fun k hk => tx0 k hk, rfl, fun k hk => ?_, by decide, fun k hk => by show 9 ≤ k + 9; omega, fun k hk => by show 12 ≠ k + 9; omega, fun k m hk hm ne => by show k + 9 ≠ m + 9; omega, fun k hk i hi => (by cases hi), fun k m hk hm ne i hi => (by cases hi), fun k hk i hi => (by cases hi)⟩, ⟨⟨List.nodup_nil, fun d h => (by cases h), fun d h => (by cases h), fun d h => (by cases h), fun d h => (by cases h)⟩, fun k hk => Lg.nil _, fun k hk d h => (by cases h)⟩, Nat.le_refl _, fun r h => (by cases h), fun d h => (by cases h), fun d h => (by cases h)⟩
  have : k = 0 ∨ k = 1 ∨ k = 2 := by omega
  rcases this with rfl | rfl | rfl <;> rfl
theorem told_of {st : Store} {k : Nat} {is : List Nat} {L : List Tq} (q : Qk L) (t : TxAt st (3 * k) is (txQ L).1 (txQ L).2) : d_Text_told [.d (obD (3 * k))] st = some (.fr (.d (.list (txTold (txQ L).1 (txQ L).2))), st) := by
  have T := tx_of q
  obtain ⟨f1, f2, f3, f4⟩ := few_of T.ok q.ll
  exact ttold_ev t T.ok.ok f3 f1 f2
theorem tt_shape {L : List Tq} (q : Qk L) : (∀ x ∈ txTold (txQ L).1 (txQ L).2, ∃ p s w, x = .tuple [.tuple p, .str s, .list w] ∧ w.length ≤ 4000) ∧ (txTold (txQ L).1 (txQ L).2).length ≤ 4000 := by
  have T := tx_of q
  obtain ⟨f1, f2, f3, f4⟩ := few_of T.ok q.ll
  refine ⟨fun x hx => ?_, by unfold txTold; rw [List.length_map]; exact f1⟩
  unfold txTold at hx
  obtain ⟨r, _, rfl⟩ := List.mem_map.mp hx
  refine ⟨_, _, _, rfl, ?_⟩
  rw [List.length_map]
  refine Nat.le_trans (srtT_len _) ?_
  unfold wds
  rw [List.length_map]
  exact Nat.le_trans (List.length_filter_le _ _) f2
theorem law_true : ∀ ns : List Int, ns.length ≤ 63 → ∃ st', d_law [.d (.list (ns.map PyData.int))] [] = some (.sh (.bool true), st') := by
  intro ns hn
  obtain ⟨c0, _, pre⟩ := pre_ev ns
  obtain ⟨hs, nd, hl, hd, he⟩ := hands_ev c0 []
  have sl : cutL (ns.map PyData.int) (some 1) (some 25) = ((ns.drop 1).take 24).map PyData.int := by
    rw [cutL_lh _ (by decide) (by decide), ← List.map_drop, ← List.map_take]; rfl
  have xl : ((ns.drop 1).take 24).length ≤ 24 := by rw [List.length_take]; omega
  obtain ⟨r', lp, st, s1, s5, s6, s7, s8, s9, rfl, G, L, c, is, S⟩ := law_loop nd hl hd (.bo (.d (.list (ns.map PyData.int)))) (.sh (.int c0)) st0 12 _ _ (s46_0 hs) ((ns.drop 1).take 24) (by omega)
  have gk := S.gk
  have gl : G.length ≤ 60 := by omega
  obtain ⟨t1, t2, t3, c3, is3, L3, M1, M2, M3, W3, K3, e1, e2⟩ := meets_ev S.W S.K gl
  have g0 := S.K.lg 0 (by decide)
  have q0 := g0.qk S.K.w gl
  have H0 := told_of q0 (S.W.tx 0 (by decide))
  have h0 := (S.W.tx 0 (by decide)).top
  obtain ⟨sh, shl⟩ := tt_shape q0
  have kp := fun z0 z1 z2 z3 z4 z5 z6 z7 z8 z9 z10 z11 z12 z13 z14 z18 => kept_ev _ sh z0 z1 z2 z3 z4 z5 z6 z7 z8 z9 z10 z11 z12 z13 z14 z18 st
  have ge0 : gEq (.d (.list (txTold (txQ (L 0)).1 (txQ (L 0)).2))) (.d (.list (txTold (txQ (L 0)).1 (txQ (L 0)).2))) = some (.sh (.bool true)) := by
    have e := eq_self (fl_tt (txQ (L 0)).1 (txQ (L 0)).2) (by decide)
    rw [gEq_d e.2, e.1]; rfl
  have G0 := K3.lg 0 (by decide)
  have G1 := K3.lg 1 (by decide)
  have G2 := K3.lg 2 (by decide)
  have Q0 := G0.qk K3.w gl
  have Q1 := G1.qk K3.w gl
  have Q2 := G2.qk K3.w gl
  have T0 := told_of Q0 (W3.tx 0 (by decide))
  have T1 := told_of Q1 (W3.tx 1 (by decide))
  have T2 := told_of Q2 (W3.tx 2 (by decide))
  rw [told_one G1 G0 Q1 Q0 e1] at T1
  rw [told_one G2 G0 Q2 Q0 e2] at T2
  have k0 := (W3.tx 0 (by decide)).top
  have k1 := (W3.tx 1 (by decide)).top
  have k2 := (W3.tx 2 (by decide)).top
  have due := due_ev G0 Q0 (fun d hd => S.un d (G0.sub d hd)) (fun d hd => S.gc d (G0.sub d hd)) (c3 0) t3 (W3.bx 0 (by decide))
  have dl := (tt_shape Q0).2
  have fT : Fl 4 (.list (txTold (txQ (L3 0)).1 (txQ (L3 0)).2)) := fl_tt _ _
  generalize txTold (txQ (L3 0)).1 (txQ (L3 0)).2 = TT at *
  generalize txTold (txQ (L 0)).1 (txQ (L 0)).2 = HT at *
  have nt : ∀ i, noFd "told" (txO (i + 1) (i + 2)) = some () := fun i => txO_no i "told" (by decide) (by decide)
  have ct : ∀ i, (txO (i + 1) (i + 2)).cls = "Text" := fun i => rfl
  have n0 := nt (3 * 0)
  have n1 := nt (3 * 1)
  have n2 := nt (3 * 2)
  have z0 := ct (3 * 0)
  have z1 := ct (3 * 1)
  have z2 := ct (3 * 2)
  have cm : ∀ y0 y1 y2 y3 y4 y5 y6 y7 y8 y9 y10 y11 y12 y13 y14 y15 y16 y17, runComp [18] (.v 18) tYesD ce3_law [obD 0, obD 3, obD 6] ⟨[y0, y1, y2, y3, y4, y5, y6, y7, y8, y9, y10, y11, y12, y13, y14, y15, y16, y17, .no], t3⟩ = some ([.list TT, .list TT, .list TT], ⟨[y0, y1, y2, y3, y4, y5, y6, y7, y8, y9, y10, y11, y12, y13, y14, y15, y16, y17, .no], t3⟩) := fun y0 y1 y2 y3 y4 y5 y6 y7 y8 y9 y10 y11 y12 y13 y14 y15 y16 y17 => by
    have := comp_map (vs := [18]) (p := .v 18) (t := tYesD) (a := ce3_law) (fun k : Nat => obD (3 * k)) (fun _ => .list TT) ⟨[y0, y1, y2, y3, y4, y5, y6, y7, y8, y9, y10, y11, y12, y13, y14, y15, y16, y17, .no], t3⟩ [0, 1, 2] fun k hk => by
      have hk : k = 0 ∨ k = 1 ∨ k = 2 := by simpa using hk
      clear kp lp M1 M2 M3 due he pre H0 h0
      rcases hk with rfl | rfl | rfl
      · generalize txO (3 * 0 + 1) (3 * 0 + 2) = o at *
        simp -implicitDefEqProofs (maxSteps := 2000000) (disch := first | omega | assumption | (simp; done) | (simp; omega)) [compStep, ce3_law, k0, n0, z0, T0]
      · generalize txO (3 * 1 + 1) (3 * 1 + 2) = o at *
        simp -implicitDefEqProofs (maxSteps := 2000000) (disch := first | omega | assumption | (simp; done) | (simp; omega)) [compStep, ce3_law, k1, n1, z1, T1]
      · generalize txO (3 * 2 + 1) (3 * 2 + 2) = o at *
        simp -implicitDefEqProofs (maxSteps := 2000000) (disch := first | omega | assumption | (simp; done) | (simp; omega)) [compStep, ce3_law, k2, n2, z2, T2]
    exact this
  have ge3 : gEq (.d (.list [.list TT, .list TT, .list TT])) (.d (.list [.list TT, .list TT, .list TT])) = some (.sh (.bool true)) := by
    have f : Fl 5 (.list [.list TT, .list TT, .list TT]) := Fl.l (k := 4) fun x hx => by
      rcases List.mem_cons.mp hx with rfl | hx
      · exact fT
      rcases List.mem_cons.mp hx with rfl | hx
      · exact fT
      rw [List.mem_singleton.mp hx]; exact fT
    have e := eq_self f (by decide)
    rw [gEq_d e.2, e.1]; rfl
  have b1 := bxLk_of W3.ob
  have TH := fun z0 z1 z2 z5 z6 z7 z8 z9 z10 z11 => three_ev M1 M2 M3 z0 z1 z2 z5 z6 z7 z8 z9 z10 z11
  have i1 := tinit1 (txO 1 2) (sg []) (mkA [])
  have i2 := tinit2 (txO 1 2) (sg []) (mkA []) (txO 4 5) (sg []) (mkA [])
  have i0 := tinit0
  unfold st0 at lp
  have hl3 : (hs.map PyData.str).length ≤ 1000 := by rw [List.length_map]; omega
  refine ⟨t3, ?_⟩
  have e0' : d_law [.d (.list (ns.map PyData.int))] [] = (b_law ⟨[.bo (.d (.list (ns.map PyData.int))), .no, .no, .no, .no, .no, .no, .no, .no, .no, .no, .no, .no, .no, .no, .no, .no, .no, .no], []⟩).bind defK := by
    clear lp pre sl
    generalize ns.map PyData.int = nn
    simp -implicitDefEqProofs (maxSteps := 2000000) (disch := first | omega | assumption | (simp; done) | (simp; omega)) [d_law]
  rw [e0']
  unfold b_law
  rw [pre]
  have z3 : 3 * 0 = 0 := rfl
  rw [z3] at H0 h0 n0 z0
  clear e0' pre W3 K3 G0 G1 G2 Q0 Q1 Q2 T0 T1 T2 k0 k1 k2 S q0 g0 sh hd nd hl e1 e2 M1 M2 M3 n1 n2 z1 z2 nt ct fT gk xl gl z3
  generalize hs.map PyData.str = HS at *
  generalize ((ns.drop 1).take 24).map PyData.int = XS at *
  generalize ns.map PyData.int = NN at *
  generalize txO 1 2 = o1 at *
  generalize txO 4 5 = o4 at *
  generalize txO 7 8 = o7 at *
  generalize sg [] = g0 at *
  generalize mkA [] = m0 at *
  simp -implicitDefEqProofs (maxSteps := 2000000) (disch := first | omega | assumption | (simp; done) | (simp; omega)) [he, i0, i1, i2, sl, lp, h0, n0, z0, H0, kp, TH, b1, due, ge0, cm, ge3]
end CML
end
open PySem PySem.W PySem.Calls PyProof.Rows
set_option maxRecDepth 100000 in
set_option maxHeartbeats 0 in
theorem PySem.Challenge.cw_copymeet_k46_whole_texts_apart_holds : PySem.Challenge.rw_copymeet_k46_whole_texts_apart.Holds := by
  w_on; o_law
  refine HandSHeadRun.head_any (r := OpenLaw.row PySem.Challenge.rw_copymeet_k46_whole_texts_apart) (q := view (OpenLaw.row PySem.Challenge.rw_copymeet_k46_whole_texts_apart).prog [35]) (H := CML.hk) (ob := CML.ob) (M := 4000) (loose := CML.names) (d := HandSHeadRun.topDef (OpenLaw.row PySem.Challenge.rw_copymeet_k46_whole_texts_apart).prog 35) (kwd := []) CML.ob_eq
    (by kernel_rfl) (fun s => by kernel_rfl) CML.run (by kernel_rfl) (by kernel_rfl) (by kernel_rfl) (by rfl) (by first | assumption | decide +kernel) (by decide +kernel) ⟨rfl, rfl, rfl, rfl, rfl, by decide +kernel⟩ ?hw ?hc
  case hw => w_witness2
  case hc =>
    refine L2.walk_ofE (l := PySem.Challenge.rw_copymeet_k46_whole_texts_apart) (n := 63) (k := 8) (x := "_law_script") (CX := L2.CX0) rfl (by decide) (by kernel_rfl) ⟨rfl, by decide, by decide⟩ ?F (fun _ _ _ _ z => z)
    intro w mg fa h Y G hmg0
    obtain ⟨K, KX, c⟩ := Y
    have hmg : mg ("law" : PySem.Str) = some (.ref fa) := by
      have e : (HandSHeadRun.topDef (OpenLaw.row PySem.Challenge.rw_copymeet_k46_whole_texts_apart).prog 35).name = ("law" : PySem.Str) := by kernel_rfl
      rw [← e]
      exact hmg0
    obtain ⟨fd, hb, hF⟩ := CML.facts (P := (PySem.Challenge.rw_copymeet_k46_whole_texts_apart).prog) (w := w) KX G hmg c
    exact ⟨K, fd, _, KX, hb, fun H a ns hl _ hS => CM.law_sp (K := ⟨K, mg, w⟩) CML.law_true H a ns hl hS, hF⟩
