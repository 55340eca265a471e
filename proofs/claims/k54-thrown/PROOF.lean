import PyProof.Rows.All
import PyProof.Rows.Walk
import PyProof.EqLayable
import HandS.ForMost
import HandS.EndBits
import HandS.Gcd
import HandS.Wide
import HandS.IsInst
import HandS.TupAny
import HandS.SortInts
import HandS.TupMul
import HandS.TupLe
import HandS.Deep
import HandS.Iter
import HandS.Style
import HandS.Conv
import HandS.Small
import HandS.More
import HandS.Dict
import KE.KSortTupG
import HandS.TupSets
import HandS.SetFor
import KE.IntBitsLaws
import PySem.Challenge.RW_nosurebet_k54_whole_dice_thrown_together
set_option Elab.async false
set_option linter.all false
set_option maxRecDepth 100000
set_option maxHeartbeats 2000000
/-! Py0: slots and the meanings of the pieces of a text, without a heap. Values are PyData. -/
namespace Py
open PySem

abbrev PV := PyData
abbrev Key := Sum Int Str

/-- what may be changed -/
inductive Ob where
  | lst (xs : List PV) | dct (kvs : List (Key × PV))
/-- what a name holds: a value, an object of its own, a caller's object -/
inductive Sl where
  | val (v : PV) | own (o : Ob) | ref (o : Ob) | lck (kvs : List (Key × PV))
/-- what an expression gives: a value, a new object, the object of a name -/
inductive R where
  | val (v : PV) | new (o : Ob) | bor (i : Nat)
/-- what a result holds when it is looked at -/
inductive Ct where
  | pv (v : PV) | ob (o : Ob)

abbrev Env := List (Option Sl)
abbrev M := Env → Option (R × Env)
abbrev MT := Env → Option (Bool × Env)
inductive Fl where
  | nx | rt (r : R) | bk | ct
abbrev SM := Env → Option (Fl × Env)
/-- a target, a row of targets -/
abbrev MG := R → Env → Option Env
/-- what a for walks: the items, and the environment while it walks -/
abbrev MI := Env → Option (List PV × Env)
abbrev ML := Env → Option (List PV × Env)

def line : Nat := 16777216

def Ct.lst? : Ct → Option (List PV)
  | .pv (.list xs) => some xs
  | .ob (.lst xs) => some xs
  | _ => none
def Ct.tup? : Ct → Option (List PV)
  | .pv (.tuple xs) => some xs
  | _ => none
def Ct.seq? : Ct → Option (List PV)
  | .pv (.list xs) => some xs
  | .pv (.tuple xs) => some xs
  | .ob (.lst xs) => some xs
  | _ => none
def Sl.ct : Sl → Ct
  | .val v => .pv v
  | .own o => .ob o
  | .ref o => .ob o
  | .lck kvs => .ob (.dct kvs)
def get (ρ : Env) (i : Nat) : Option Sl := (ρ[i]?).getD none
def look : R → Env → Option Ct
  | .val v, _ => some (.pv v)
  | .new o, _ => some (.ob o)
  | .bor i, ρ => (get ρ i).map Sl.ct
/-- made a value that is never changed again -/
def frzO : Ob → Option PV
  | .lst xs => some (.list xs)
  | .dct _ => none
def frz : R → Env → Option (PV × Env)
  | .val v, ρ => some (v, ρ)
  | .new o, ρ => (frzO o).map fun v => (v, ρ)
  | .bor i, ρ => match get ρ i with
    | some (.val v) => some (v, ρ)
    | some (.own o) => (frzO o).map fun v => (v, ρ.set i (some (.val v)))
    | _ => none
def isRef : Option Sl → Bool
  | some (.ref _) => true
  | some (.lck _) => true
  | _ => false
/-- stored at a name that holds no caller's object -/
def put (i : Nat) (s : Option Sl) (ρ : Env) : Option Env := if isRef (get ρ i) then none else some (ρ.set i s)
def forget : List Nat → Env → Env
  | [], ρ => ρ
  | i :: r, ρ => if isRef (get (forget r ρ) i) then forget r ρ else (forget r ρ).set i none

/-! ### expressions -/
def mC (v : PV) : M := fun ρ => some (.val v, ρ)
def mVar (i : Nat) : M := fun ρ => match get ρ i with
  | some (.val v) => some (.val v, ρ)
  | some (.own _) => some (.bor i, ρ)
  | some (.ref _) => some (.bor i, ρ)
  | some (.lck _) => some (.bor i, ρ)
  | none => none
def mOp (f : Ct → Ct → Option R) (a b : M) : M := fun ρ =>
  (a ρ).bind fun x => (b x.2).bind fun y => (look x.1 y.2).bind fun cx => (look y.1 y.2).bind fun cy => (f cx cy).map fun z => (z, y.2)
def mUn (f : Ct → Option R) (a : M) : M := fun ρ =>
  (a ρ).bind fun x => (look x.1 x.2).bind fun cx => (f cx).map fun z => (z, x.2)
def boolOf : Ct → Option Bool
  | .pv (.bool b) => some b
  | _ => none
/-- a test by its value, a bool -/
def mB (a : M) : MT := fun ρ => (a ρ).bind fun x => (look x.1 x.2).bind fun cx => (boolOf cx).map fun b => (b, x.2)
def truOf : Ct → Option Bool
  | .pv .none => some false
  | .pv (.bool b) => some b
  | .pv (.int i) => some (i != 0)
  | .pv (.tuple xs) => some !xs.isEmpty
  | .pv (.list xs) => some !xs.isEmpty
  | .ob (.lst xs) => some !xs.isEmpty
  | _ => none
/-- a test by its value's truth -/
def mTru (a : M) : MT := fun ρ => (a ρ).bind fun x => (look x.1 x.2).bind fun cx => (truOf cx).map fun b => (b, x.2)
def mAnd (a b : MT) : MT := fun ρ => (a ρ).bind fun x => if x.1 then b x.2 else some (false, x.2)
def mOr (a b : MT) : MT := fun ρ => (a ρ).bind fun x => if x.1 then some (true, x.2) else b x.2
def mNot (a : MT) : MT := fun ρ => (a ρ).bind fun x => some (!x.1, x.2)
/-- and, or, not as values (of bools) -/
def mAndV (a b : M) : M := fun ρ => (a ρ).bind fun x => (look x.1 x.2).bind fun cx => (boolOf cx).bind fun k => if k then b x.2 else some (.val (.bool false), x.2)
def mOrV (a b : M) : M := fun ρ => (a ρ).bind fun x => (look x.1 x.2).bind fun cx => (boolOf cx).bind fun k => if k then some (.val (.bool true), x.2) else b x.2
def mNotV (a : M) : M := fun ρ => (a ρ).bind fun x => (look x.1 x.2).bind fun cx => (boolOf cx).bind fun k => some (.val (.bool (!k)), x.2)
def mIfE (t : MT) (a b : M) : M := fun ρ => (t ρ).bind fun x => if x.1 then a x.2 else b x.2
/-- a op b op' c, of values -/
def mChain (f g : Ct → Ct → Option R) (a b c : M) : M := fun ρ =>
  (a ρ).bind fun x => (b x.2).bind fun y => (look x.1 y.2).bind fun cx => (look y.1 y.2).bind fun cy => (f cx cy).bind fun z => (look z y.2).bind fun cz => (boolOf cz).bind fun k =>
    if k then (c y.2).bind fun w => (look y.1 w.2).bind fun cy => (look w.1 w.2).bind fun cw => (g cy cw).map fun z => (z, w.2) else some (.val (.bool false), y.2)
/-- a name's list given away as a value -/
def mFrz (a : M) : M := fun ρ => (a ρ).bind fun x => (frz x.1 x.2).map fun v => (.val v.1, v.2)
def lNil : ML := fun ρ => some ([], ρ)
def lCons (a : M) (r : ML) : ML := fun ρ => (a ρ).bind fun x => (frz x.1 x.2).bind fun v => (r v.2).map fun vs => (v.1 :: vs.1, vs.2)
def mTup (l : ML) : M := fun ρ => (l ρ).bind fun vs => if vs.1.length ≤ line then some (.val (.tuple vs.1), vs.2) else none
def mLst (l : ML) : M := fun ρ => (l ρ).bind fun vs => if vs.1.length ≤ line then some (.new (.lst vs.1), vs.2) else none
def mDct0 : M := fun ρ => some (.new (.dct []), ρ)

/-! ### operators by content -/
def fAdd : Ct → Ct → Option R
  | .pv (.int a), .pv (.int b) => some (.val (.int (a + b)))
  | .pv (.str a), .pv (.str b) => if a.length + b.length ≤ line then some (.val (.str (a ++ b))) else none
  | .pv (.tuple xs), .pv (.tuple ys) => if xs.length + ys.length ≤ line then some (.val (.tuple (xs ++ ys))) else none
  | .ob (.lst xs), .ob (.lst ys) => if xs.length + ys.length ≤ line then some (.new (.lst (xs ++ ys))) else none
  | _, _ => none
def fSub : Ct → Ct → Option R
  | .pv (.int a), .pv (.int b) => some (.val (.int (a - b)))
  | _, _ => none
/-- the bits of both factors together within the line -/
def mulOk (a b : Int) : Bool := decide (a.natAbs.log2 + b.natAbs.log2 < 100000000)
def fMul : Ct → Ct → Option R
  | .pv (.int a), .pv (.int b) => if mulOk a b then some (.val (.int (a * b))) else none
  | .pv (.tuple xs), .pv (.int k) => if -(2 ^ 62) < k ∧ k ≤ 1000 ∧ xs.length ≤ 1000 then some (.val (.tuple (List.replicate k.toNat xs).flatten)) else none
  | .ob (.lst xs), .pv (.int k) => if xs.length * k.toNat ≤ line ∧ k < 2 ^ 62 ∧ -(2 ^ 62) < k then some (.new (.lst (List.replicate k.toNat xs).flatten)) else none
  | _, _ => none
def fDiv : Ct → Ct → Option R
  | .pv (.int a), .pv (.int b) => if b = 0 then none else some (.val (.int (a.fdiv b)))
  | _, _ => none
def fMod : Ct → Ct → Option R
  | .pv (.int a), .pv (.int b) => if b = 0 then none else some (.val (.int (a.fmod b)))
  | _, _ => none
def fPow : Ct → Ct → Option R
  | .pv (.int a), .pv (.int b) => if 0 ≤ b ∧ b ≤ 1000000 ∧ a.natAbs < 2 ^ 64 then some (.val (.int (a ^ b.toNat))) else none
  | _, _ => none
def fNeg : Ct → Option R
  | .pv (.int a) => some (.val (.int (-a)))
  | _ => none
def cI (p : Int → Int → Bool) : Ct → Ct → Option R
  | .pv (.int a), .pv (.int b) => some (.val (.bool (p a b)))
  | _, _ => none
def fLt := cI fun a b => decide (a < b)
def fLe := cI fun a b => decide (a ≤ b)
def fGt := cI fun a b => decide (b < a)
def fGe := cI fun a b => decide (b ≤ a)
def eqD (neg : Bool) : Ct → Ct → Option R
  | .pv (.int a), .pv (.int b) => some (.val (.bool (neg ^^ decide (a = b))))
  | .pv (.bool a), .pv (.bool b) => some (.val (.bool (neg ^^ (a == b))))
  | .pv (.str a), .pv (.str b) => some (.val (.bool (neg ^^ decide (a = b))))
  | .pv d, .pv e => if SeqAt.shaped d = true ∧ SeqAt.shaped e = true then some (.val (.bool (neg ^^ PyData.eqv d e))) else none
  | _, _ => none
def fEq := eqD false
def fNe := eqD true
def isNone : PV → Bool
  | .none => true
  | _ => false
/-- is None (the right side None) -/
def fIs (neg : Bool) : Ct → Ct → Option R
  | .pv v, .pv .none => some (.val (.bool (neg ^^ isNone v)))
  | .ob _, .pv .none => some (.val (.bool neg))
  | _, _ => none
/-- the place of an index -/
def ixN (n : Nat) (i : Int) : Option Nat := if 0 ≤ i then (if i < n then some i.toNat else none) else if -(n : Int) ≤ i then some (i + n).toNat else none
def atI (xs : List PV) (i : Int) : Option PV := (ixN xs.length i).bind fun j => xs[j]?
def keyOf : PV → Option Key
  | .int i => some (.inl i)
  | .str x => some (.inr x)
  | _ => none
def dGet (kvs : List (Key × PV)) (k : Key) : Option PV := (kvs.find? fun kv => decide (kv.1 = k)).map (·.2)
def dPut (kvs : List (Key × PV)) (k : Key) (v : PV) : List (Key × PV) :=
  if (kvs.find? fun kv => decide (kv.1 = k)).isSome then kvs.map fun kv => if kv.1 = k then (k, v) else kv else kvs ++ [(k, v)]
def fIx : Ct → Ct → Option R
  | .pv (.tuple xs), .pv (.int i) => (atI xs i).map .val
  | .pv (.list xs), .pv (.int i) => (atI xs i).map .val
  | .ob (.lst xs), .pv (.int i) => (atI xs i).map .val
  | .pv (.str x), .pv (.int i) => if x.length ≤ line then ((ixN x.length i).bind fun j => x.cps[j]?).map fun c => .val (.str ⟨#[c]⟩) else none
  | _, _ => none
/-! slices -/
def sIx (n d : Nat) : Option Int → Nat
  | none => d
  | some i => if i < 0 then (i + n).toNat else min i.toNat n
def cut {α : Type} (xs : List α) (lo hi : Option Int) : List α := (xs.drop (sIx xs.length 0 lo)).take (sIx xs.length xs.length hi - sIx xs.length 0 lo)
abbrev MO := Env → Option (Option Int × Env)
def oNone : MO := fun ρ => some (none, ρ)
def intOf : Ct → Option Int
  | .pv (.int i) => some i
  | _ => none
def oSome (a : M) : MO := fun ρ => (a ρ).bind fun x => (look x.1 x.2).bind fun c => (intOf c).map fun i => (some i, x.2)
def fSl (lo hi : Option Int) : Ct → Option R
  | .pv (.tuple xs) => some (.val (.tuple (cut xs lo hi)))
  | .pv (.list xs) => some (.new (.lst (cut xs lo hi)))
  | .ob (.lst xs) => some (.new (.lst (cut xs lo hi)))
  | _ => none
def mSl (a : M) (l h : MO) : M := fun ρ => (a ρ).bind fun x => (l x.2).bind fun i => (h i.2).bind fun j => (look x.1 j.2).bind fun c => (fSl i.1 j.1 c).map fun z => (z, j.2)

/-! ### built-ins by content -/
def fLen : Ct → Option R
  | .pv (.tuple xs) => some (.val (.int xs.length))
  | .pv (.list xs) => some (.val (.int xs.length))
  | .pv (.str x) => if x.length ≤ line then some (.val (.int x.length)) else none
  | .ob (.lst xs) => some (.val (.int xs.length))
  | _ => none
def fInt : Ct → Option R
  | .pv (.int i) => some (.val (.int i))
  | .pv (.bool b) => some (.val (.int (if b then 1 else 0)))
  | _ => none
def fAbs : Ct → Option R
  | .pv (.int i) => some (.val (.int i.natAbs))
  | _ => none
def fMin2 : Ct → Ct → Option R
  | .pv (.int i), .pv (.int j) => some (.val (.int (if j < i then j else i)))
  | _, _ => none
def fMax2 : Ct → Ct → Option R
  | .pv (.int i), .pv (.int j) => some (.val (.int (if j > i then j else i)))
  | _, _ => none
def fGcd : Ct → Ct → Option R
  | .pv (.int i), .pv (.int j) => some (.val (.int (Int.gcd i j)))
  | _, _ => none
def fTuple : Ct → Option R
  | .pv (.tuple xs) => some (.val (.tuple xs))
  | .pv (.list xs) => some (.val (.tuple xs))
  | .ob (.lst xs) => some (.val (.tuple xs))
  | _ => none
def fList : Ct → Option R
  | .pv (.tuple xs) => some (.new (.lst xs))
  | .pv (.list xs) => some (.new (.lst xs))
  | .ob (.lst xs) => some (.new (.lst xs))
  | _ => none
def intV? : PV → Option Int
  | .int i => some i
  | _ => none
def boolV? : PV → Option Bool
  | .bool b => some b
  | _ => none
def ints? (xs : List PV) : Option (List Int) := xs.mapM intV?
def bools? (xs : List PV) : Option (List Bool) := xs.mapM boolV?
def fSum (c : Ct) : Option R := c.lst?.bind fun xs => (ints? xs).map fun ns => .val (.int ns.sum)
def fAll (c : Ct) : Option R := c.lst?.bind fun xs => (bools? xs).map fun bs => .val (.bool (bs.all id))
def fAny (c : Ct) : Option R := c.lst?.bind fun xs => (bools? xs).map fun bs => .val (.bool (bs.any id))
def maxL : List Int → Int
  | [] => 0
  | x :: r => r.foldl max x
def minL : List Int → Int
  | [] => 0
  | x :: r => r.foldl min x
def fMax (c : Ct) : Option R := c.lst?.bind fun xs => (ints? xs).bind fun ns => if ns = [] then none else some (.val (.int (maxL ns)))
def fMin (c : Ct) : Option R := c.lst?.bind fun xs => (ints? xs).bind fun ns => if ns = [] then none else some (.val (.int (minL ns)))
def isort (ns : List Int) : List Int := ns.mergeSort fun a b => decide (a ≤ b)
def fSorted (c : Ct) : Option R := c.lst?.bind fun xs => (ints? xs).map fun ns => .new (.lst ((isort ns).map .int))
/-- += of ints and texts -/
def fIAdd : Ct → Ct → Option R
  | .pv (.int a), .pv (.int b) => some (.val (.int (a + b)))
  | .pv (.str a), .pv (.str b) => if a.length + b.length ≤ line then some (.val (.str (a ++ b))) else none
  | _, _ => none
def fMulI : Ct → Ct → Option R
  | .pv (.int a), .pv (.int b) => if mulOk a b then some (.val (.int (a * b))) else none
  | _, _ => none
/-- the types that isinstance is asked of -/
inductive Ty where
  | bool | int | str | tuple
def isTy : Ty → PV → Bool
  | .bool, .bool _ => true
  | .int, .int _ => true
  | .int, .bool _ => true
  | .str, .str _ => true
  | .tuple, .tuple _ => true
  | _, _ => false
def fIsi (t : Ty) : Ct → Option R
  | .pv v => some (.val (.bool (isTy t v)))
  | .ob (.lst _) => some (.val (.bool false))
  | .ob (.dct _) => none

/-! ### statements -/
def sNext : SM := fun ρ => some (.nx, ρ)
def sSeq (a b : SM) : SM := fun ρ => (a ρ).bind fun x => match x.1 with
  | .nx => b x.2
  | f => some (f, x.2)
def sBrk : SM := fun ρ => some (.bk, ρ)
def sCont : SM := fun ρ => some (.ct, ρ)
def sRet (a : M) : SM := fun ρ => (a ρ).map fun x => (.rt x.1, x.2)
def sRetN : SM := fun ρ => some (.rt (.val .none), ρ)
def sIf (t : MT) (a b : SM) : SM := fun ρ => (t ρ).bind fun x => if x.1 then a x.2 else b x.2
def sExpr (a : M) : SM := fun ρ => (a ρ).map fun x => (.nx, x.2)
/-- what a name holds behind a store: a list of another name becomes a value of both -/
def gName (i : Nat) : MG := fun r ρ => match r with
  | .val v => put i (some (.val v)) ρ
  | .new o => put i (some (.own o)) ρ
  | .bor j => (frz (.bor j) ρ).bind fun v => put i (some (.val v.1)) v.2
def gNames : List Nat → List PV → Env → Option Env
  | [], [], ρ => some ρ
  | i :: is, v :: vs, ρ => (put i (some (.val v)) ρ).bind fun ρ1 => gNames is vs ρ1
  | _, _, _ => none
/-- a, b = t (a tuple) -/
def gTup (is : List Nat) : MG := fun r ρ => match r with
  | .val (.tuple xs) => gNames is xs ρ
  | _ => none
def sAsg (a : M) (g : MG) : SM := fun ρ => (a ρ).bind fun x => (g x.1 x.2).map fun ρ' => (.nx, ρ')
def sPar (i j : Nat) (a b : M) : SM := fun ρ => (a ρ).bind fun x => (frz x.1 x.2).bind fun v => (b v.2).bind fun y => (frz y.1 y.2).bind fun w =>
  (put i (some (.val v.1)) w.2).bind fun ρ1 => (put j (some (.val w.1)) ρ1).map fun ρ2 => (.nx, ρ2)
/-- an object of a name -/
def obAt (ρ : Env) (i : Nat) : Option Ob := match get ρ i with
  | some (.own o) => some o
  | some (.ref o) => some o
  | _ => none
def lstAt (ρ : Env) (i : Nat) : Option (List PV) := match obAt ρ i with
  | some (.lst xs) => some xs
  | _ => none
def setOb (ρ : Env) (i : Nat) (o : Ob) : Env := match get ρ i with
  | some (.ref _) => ρ.set i (some (.ref o))
  | some (.lck _) => ρ.set i (some (.ref o))
  | _ => ρ.set i (some (.own o))
/-- xs.append(e) -/
def mAppend (i : Nat) (a : M) : M := fun ρ => (lstAt ρ i).bind fun _ => (a ρ).bind fun x => (frz x.1 x.2).bind fun v => (lstAt v.2 i).bind fun xs =>
  if xs.length < line then some (.val .none, setOb v.2 i (.lst (xs ++ [v.1]))) else none
/-- xs.pop() -/
def mPop (i : Nat) : M := fun ρ => (lstAt ρ i).bind fun xs => (xs.getLast?).map fun v => (.val v, setOb ρ i (.lst xs.dropLast))
/-- xs.pop(e) -/
def mPopAt (i : Nat) (a : M) : M := fun ρ => (lstAt ρ i).bind fun _ => (a ρ).bind fun x => (look x.1 x.2).bind fun c => (intOf c).bind fun k => (lstAt x.2 i).bind fun xs =>
  if -(2 ^ 62) < k ∧ k < 2 ^ 62 then (ixN xs.length k).bind fun j => (xs[j]?).map fun v => (.val v, setOb x.2 i (.lst (xs.eraseIdx j))) else none
/-- xs.reverse() -/
def mReverse (i : Nat) : M := fun ρ => (lstAt ρ i).map fun xs => (.val .none, setOb ρ i (.lst xs.reverse))
/-- xs[e] = v -/
def sSetIx (i : Nat) (e : M) (a : M) : SM := fun ρ => (a ρ).bind fun x => (frz x.1 x.2).bind fun v => (lstAt v.2 i).bind fun _ => (e v.2).bind fun y => (look y.1 y.2).bind fun c => (intOf c).bind fun k => (lstAt y.2 i).bind fun xs =>
  (ixN xs.length k).map fun j => (.nx, setOb y.2 i (.lst (xs.set j v.1)))
/-- name op= e, of values -/
def sAug (i : Nat) (f : Ct → Ct → Option R) (a : M) : SM := fun ρ => (get ρ i).bind fun s => match s with
  | .val v => (a ρ).bind fun x => (look x.1 x.2).bind fun c => (f (.pv v) c).bind fun z => match z with
    | .val w => (put i (some (.val w)) x.2).map fun ρ' => (.nx, ρ')
    | _ => none
  | _ => none
/-- xs += e, a list -/
def sAugL (i : Nat) (a : M) : SM := fun ρ => (lstAt ρ i).bind fun _ => (a ρ).bind fun x => match x.1 with
  | .new (.lst ys) => (lstAt x.2 i).bind fun xs => if xs.length + ys.length ≤ line then some (.nx, setOb x.2 i (.lst (xs ++ ys))) else none
  | _ => none

/-! ### loops -/
def iSeq (a : M) : MI := fun ρ => (a ρ).bind fun x => match x.1 with
  | .val (.list xs) => some (xs, x.2)
  | .val (.tuple xs) => some (xs, x.2)
  | .new (.lst xs) => some (xs, x.2)
  | _ => none
/-- a name's own list, which the body doesn't see -/
def iHide (i : Nat) : MI := fun ρ => (lstAt ρ i).map fun xs => (xs, ρ.set i none)
def rangeL (lo : Int) (n : Nat) : List PV := (List.range n).map fun (k : Nat) => .int (lo + (k : Int))
def iRng1 (a : M) : MI := fun ρ => (a ρ).bind fun x => (look x.1 x.2).bind fun c => (intOf c).bind fun n => if n ≤ line ∧ -(2 ^ 62) ≤ n then some (rangeL 0 n.toNat, x.2) else none
def iRng2 (a b : M) : MI := fun ρ => (a ρ).bind fun x => (look x.1 x.2).bind fun c => (intOf c).bind fun lo => (b x.2).bind fun y => (look y.1 y.2).bind fun d => (intOf d).bind fun hi =>
  if -(2 ^ 61) ≤ lo ∧ lo < 2 ^ 61 ∧ -(2 ^ 61) ≤ hi ∧ hi < 2 ^ 61 ∧ (hi - lo) ≤ line then some (rangeL lo (hi - lo).toNat, y.2) else none
def loopF (g : MG) (b : SM) : List PV → SM
  | [], ρ => some (.nx, ρ)
  | x :: xs, ρ => (g (.val x) ρ).bind fun ρ1 => (b ρ1).bind fun y => match y.1 with
    | .nx => loopF g b xs y.2
    | .ct => loopF g b xs y.2
    | .bk => some (.nx, y.2)
    | .rt r => some (.rt r, y.2)
def sFor (it : MI) (g : MG) (b : SM) : SM := fun ρ => (it ρ).bind fun xs => loopF g b xs.1 xs.2
/-- for over a name's own list: the name holds it again behind the loop -/
def sForH (i : Nat) (g : MG) (b : SM) : SM := fun ρ => (get ρ i).bind fun s => (iHide i ρ).bind fun xs => (loopF g b xs.1 xs.2).bind fun y => match get y.2 i with
  | none => some (y.1, y.2.set i (some s))
  | _ => none
def whileF (t : MT) (b : SM) : Nat → SM
  | 0, _ => none
  | n + 1, ρ => (t ρ).bind fun x => if x.1 then (b x.2).bind fun y => match y.1 with
      | .nx => whileF t b n y.2
      | .ct => whileF t b n y.2
      | .bk => some (.nx, y.2)
      | .rt r => some (.rt r, y.2)
    else some (.nx, x.2)
open Classical in
noncomputable def sWhile (t : MT) (b : SM) : SM := fun ρ => if h : ∃ n, (whileF t b n ρ).isSome = true then whileF t b h.choose ρ else none
/-- names that are not read any more -/
def sFgt (is : List Nat) (a : SM) : SM := fun ρ => (a ρ).map fun x => match x.1 with
  | .rt r => (.rt r, x.2)
  | f => (f, forget is x.2)

/-! ### comprehensions -/
def wipe (ρ : Env) : List Nat → Env
  | [] => ρ
  | i :: r => (wipe ρ r).set i none
def back (ρ0 : Env) : List Nat → Env → Env
  | [], ρ => ρ
  | i :: r, ρ => (back ρ0 r ρ).set i (get ρ0 i)
def lcF (f : PV → Env → Option (List PV × Env)) : List PV → Env → Option (List PV × Env)
  | [], ρ => some ([], ρ)
  | x :: xs, ρ => (f x ρ).bind fun y => (lcF f xs y.2).map fun z => (y.1 ++ z.1, z.2)
def tYes : MT := fun ρ => some (true, ρ)
def lcTurn (g : MG) (vs : List Nat) (t : MT) (e : M) (x : PV) (ρ : Env) : Option (List PV × Env) :=
  (g (.val x) (wipe ρ vs)).bind fun ρ1 => (t ρ1).bind fun b => if b.1 then (e b.2).bind fun r => (frz r.1 r.2).map fun v => ([v.1], v.2) else some ([], b.2)
def mLc (it : MI) (g : MG) (vs : List Nat) (t : MT) (e : M) : M := fun ρ => (it ρ).bind fun xs => if xs.1.length ≤ line then
  (lcF (lcTurn g vs t e) xs.1 xs.2).map fun y => (.new (.lst y.1), back xs.2 vs y.2) else none

/-! ### defs -/
abbrev Den := List Sl → Option (R × List Ob)
def leave : R → Env → Option R
  | .val v, _ => some (.val v)
  | .new o, _ => some (.new o)
  | .bor i, ρ => match get ρ i with
    | some (.val v) => some (.val v)
    | some (.own o) => some (.new o)
    | _ => none
/-- the callers' objects behind the call -/
def outs : List Sl → Env → Option (List Ob)
  | [], _ => some []
  | .ref _ :: as, some (.ref o) :: ρ => (outs as ρ).map (o :: ·)
  | .ref _ :: _, _ => none
  | .val _ :: as, _ :: ρ => outs as ρ
  | _, _ => none
def startE (n : Nat) (as : List Sl) : Env := as.map some ++ List.replicate (n - as.length) none
def mkDen (n : Nat) (body : SM) : Den := fun as => (body (startE n as)).bind fun x => match x.1 with
  | .nx => (outs as x.2).map fun os => (.val .none, os)
  | .rt r => (leave r x.2).bind fun r' => (outs as x.2).map fun os => (r', os)
  | _ => none
/-- an argument: a value, or a name's object handed on -/
inductive Ag where
  | v (a : M) | r (i : Nat)
def agsEval : List Ag → Env → Option (List Sl × Env)
  | [], ρ => some ([], ρ)
  | .v a :: r, ρ => (a ρ).bind fun x => (frz x.1 x.2).bind fun v => (agsEval r v.2).map fun z => (.val v.1 :: z.1, z.2)
  | .r i :: r, ρ => (obAt ρ i).bind fun _ => (agsEval r ρ).bind fun z => (obAt z.2 i).map fun o => (.ref o :: z.1, z.2)
def refsOf : List Ag → List Nat
  | [] => []
  | .v _ :: r => refsOf r
  | .r i :: r => i :: refsOf r
def setObs : List Nat → List Ob → Env → Env
  | i :: is, o :: os, ρ => setObs is os (setOb ρ i o)
  | _, _, ρ => ρ
def mCall (d : Den) (as : List Ag) : M := fun ρ => (agsEval as ρ).bind fun z => if (refsOf as).Nodup then (d z.1).map fun y => (y.1, setObs (refsOf as) y.2 z.2) else none
end Py
/-! Py1: what binds the meanings of Py0 to the readings of the hand layer. -/
namespace Py
open PySem PySem.Spec PyProof.Rows L2

abbrev Ex (H H' : Hp) : Prop := ∀ a o, H a = some o → H' a = some o
theorem ex_rd {H H' : Hp} {a : Addr} {u : HO} (e : Ex H H') (h : Rd H a u) : Rd H' a u := by
  rcases h with h | ⟨o, h⟩
  · exact .inl (e a _ h)
  · exact .inr ⟨o, e a _ h⟩
theorem ex_l {K : PySem.W.Frag} {H H' : Hp} {a : Addr} {xs : List V} (e : Ex H H') (h : SqL K H a xs) : SqL K H' a xs := by
  rcases h with h | h
  · exact .inl (ex_rd e h)
  · exact .inr h
theorem ex_t {K : PySem.W.Frag} {H H' : Hp} {a : Addr} {xs : List V} (e : Ex H H') (h : SqT K H a xs) : SqT K H' a xs := by
  rcases h with h | h
  · exact .inl (ex_rd e h)
  · exact .inr h
mutual
theorem dp_mono {K : PySem.W.Frag} {H H' : Hp} (e : Ex H H') : ∀ (d : PyData) (v : V), Dp K H v d → Dp K H' v d
  | .none, _, h => by cases h; exact .non
  | .bool b, _, h => by cases h; exact .bl b
  | .int i, _, h => by cases h; exact .int i
  | .str x, _, h => by cases h; exact .str x
  | .list ds, _, h => by
    cases h with
    | lst hs ha => exact .lst (ex_l e hs) (dps_mono e ds _ ha)
  | .tuple ds, _, h => by
    cases h with
    | tup hs ha => exact .tup (ex_t e hs) (dps_mono e ds _ ha)
  | .dict _, _, h => by cases h
theorem dps_mono {K : PySem.W.Frag} {H H' : Hp} (e : Ex H H') : ∀ (ds : List PyData) (vs : List V), DpAll K H vs ds → DpAll K H' vs ds
  | [], _, h => by cases h; exact .nil
  | d :: ds, _, h => by
    cases h with
    | cons h1 h2 => exact .cons (dp_mono e d _ h1) (dps_mono e ds _ h2)
end
section
variable {K : PySem.W.Frag} {H H' : Hp}
theorem dps_len : ∀ {vs : List V} {ds : List PyData}, DpAll K H vs ds → vs.length = ds.length
  | _, _, .nil => rfl
  | _, _, .cons _ t => by simp [dps_len t]
theorem dps_get : ∀ {vs : List V} {ds : List PyData} {i : Nat} {d : PyData}, DpAll K H vs ds → ds[i]? = some d → ∃ v, vs[i]? = some v ∧ Dp K H v d
  | _, _, _, _, .nil, e => by simp at e
  | _, _, 0, _, .cons r _, e => by simp at e; subst e; exact ⟨_, rfl, r⟩
  | _, _, i + 1, d, .cons _ t, e => by
    obtain ⟨v, h1, h2⟩ := dps_get (i := i) (d := d) t (by simpa using e)
    exact ⟨v, by simpa using h1, h2⟩
theorem dps_get' {vs : List V} {ds : List PyData} {i : Nat} {v : V} (h : DpAll K H vs ds) (e : vs[i]? = some v) : ∃ d, ds[i]? = some d ∧ Dp K H v d := by
  have hl := dps_len h
  have hi : i < vs.length := (List.getElem?_eq_some_iff.mp e).1
  obtain ⟨w, h1, h2⟩ := dps_get (i := i) (d := ds[i]'(by omega)) h (by simp)
  rw [e] at h1; cases h1
  exact ⟨_, by simp, h2⟩
theorem dps_app : ∀ {vs ws : List V} {ds es : List PyData}, DpAll K H vs ds → DpAll K H ws es → DpAll K H (vs ++ ws) (ds ++ es)
  | _, _, _, _, .nil, s => s
  | _, _, _, _, .cons r t, s => .cons r (dps_app t s)
theorem dps_take : ∀ {vs : List V} {ds : List PyData} (n : Nat), DpAll K H vs ds → DpAll K H (vs.take n) (ds.take n)
  | _, _, 0, _ => .nil
  | _, _, _ + 1, .nil => .nil
  | _, _, n + 1, .cons r t => .cons r (dps_take n t)
theorem dps_drop : ∀ {vs : List V} {ds : List PyData} (n : Nat), DpAll K H vs ds → DpAll K H (vs.drop n) (ds.drop n)
  | _, _, 0, r => r
  | _, _, _ + 1, .nil => .nil
  | _, _, n + 1, .cons _ t => dps_drop n t
theorem dps_set {v : V} {d : PyData} (r : Dp K H v d) : ∀ {vs : List V} {ds : List PyData} (i : Nat), DpAll K H vs ds → DpAll K H (vs.set i v) (ds.set i d)
  | _, _, _, .nil => .nil
  | _, _, 0, .cons _ t => .cons r t
  | _, _, i + 1, .cons q t => .cons q (dps_set r i t)
theorem dps_erase : ∀ {vs : List V} {ds : List PyData} (i : Nat), DpAll K H vs ds → DpAll K H (vs.eraseIdx i) (ds.eraseIdx i)
  | _, _, _, .nil => .nil
  | _, _, 0, .cons _ t => t
  | _, _, i + 1, .cons q t => .cons q (dps_erase i t)
theorem dps_rev : ∀ {vs : List V} {ds : List PyData}, DpAll K H vs ds → DpAll K H vs.reverse ds.reverse
  | _, _, .nil => .nil
  | _, _, .cons r t => by
    rw [List.reverse_cons, List.reverse_cons]
    exact dps_app (dps_rev t) (.cons r .nil)
theorem dps_dropLast {vs : List V} {ds : List PyData} (h : DpAll K H vs ds) : DpAll K H vs.dropLast ds.dropLast := by
  rw [List.dropLast_eq_take, List.dropLast_eq_take, dps_len h]
  exact dps_take _ h
theorem dps_rep {vs : List V} {ds : List PyData} (h : DpAll K H vs ds) : ∀ k : Nat, DpAll K H (List.replicate k vs).flatten (List.replicate k ds).flatten
  | 0 => .nil
  | k + 1 => by
    rw [List.replicate_succ, List.replicate_succ, List.flatten_cons, List.flatten_cons]
    exact dps_app h (dps_rep h k)
end
/-- a dict's pairs -/
inductive KvAll (K : PySem.W.Frag) (H : Hp) : List (Key × V) → List (Key × PV) → Prop
  | nil : KvAll K H [] []
  | cons {k : Key} {v : V} {d : PV} {ws : List (Key × V)} {kvs : List (Key × PV)} : Dp K H v d → KvAll K H ws kvs → KvAll K H ((k, v) :: ws) ((k, d) :: kvs)
theorem kvs_mono {K : PySem.W.Frag} {H H' : Hp} (e : Ex H H') : ∀ {ws : List (Key × V)} {kvs : List (Key × PV)}, KvAll K H ws kvs → KvAll K H' ws kvs
  | _, _, .nil => .nil
  | _, _, .cons r t => .cons (dp_mono e _ _ r) (kvs_mono e t)

/-! ### what a slot stands for -/
def slot (σ : L2.St) (i : Nat) : Option V := (σ[i]?).getD none
def RepOb (K : PySem.W.Frag) (Hf H : Hp) (p : Addr) : Ob → Prop
  | .lst xs => ∃ vs, H p = some (.lst vs) ∧ DpAll K Hf vs xs
  | .dct kvs => ∃ ws, H p = some (.dK ws) ∧ KvAll K Hf ws kvs
def RepSl (K : PySem.W.Frag) (Hf H : Hp) : Sl → V → Prop
  | .val v, u => Dp K Hf u v
  | .own o, u => ∃ p, u = .ref p ∧ Hf p = none ∧ RepOb K Hf H p o
  | .ref o, u => ∃ p, u = .ref p ∧ Hf p = none ∧ RepOb K Hf H p o
  | .lck kvs, u => ∃ p, u = .ref p ∧ ∃ ws od, Hf p = some (.frz od (.dK ws)) ∧ KvAll K Hf ws kvs
def isOb : Option Sl → Bool
  | some (.own _) => true
  | some (.ref _) => true
  | _ => false
def OwnAt (ρ : Env) (σ : L2.St) (i : Nat) (p : Addr) : Prop := isOb (get ρ i) = true ∧ slot σ i = some (.ref p)
def Own (ρ : Env) (σ : L2.St) (p : Addr) : Prop := ∃ i, OwnAt ρ σ i p
structure RepE (K : PySem.W.Frag) (Hf H : Hp) (ρ : Env) (σ : L2.St) : Prop where
  len : ρ.length = σ.length
  ff : Ex Hf H
  sl : ∀ i s, get ρ i = some s → ∃ u, slot σ i = some u ∧ RepSl K Hf H s u
  dis : ∀ i j p, OwnAt ρ σ i p → OwnAt ρ σ j p → i = j
structure Step (O : Addr → Prop) (Hf H Hf' H' : Hp) : Prop where
  ff : Ex Hf Hf'
  fh : Ex Hf' H'
  keep : ∀ a o, H a = some o → ¬ O a → H' a = some o
  nof : ∀ a o, H a = some o → ¬ O a → Hf' a = Hf a
  dom : ∀ a o, H a = some o → ∃ o', H' a = some o'
/-- what is read of an object: a dict may be locked -/
def RepCo (K : PySem.W.Frag) (Hf H : Hp) (p : Addr) : Ob → Prop
  | .lst xs => ∃ vs, H p = some (.lst vs) ∧ DpAll K Hf vs xs
  | .dct kvs => ∃ ws, Rd H p (.dK ws) ∧ KvAll K Hf ws kvs
theorem RepOb.co {K : PySem.W.Frag} {Hf H : Hp} {p : Addr} {o : Ob} (h : RepOb K Hf H p o) : RepCo K Hf H p o := by
  cases o with
  | lst xs => exact h
  | dct kvs => obtain ⟨ws, a, b⟩ := h; exact ⟨ws, .inl a, b⟩
def RepC (K : PySem.W.Frag) (Hf H : Hp) : Ct → V → Prop
  | .pv v, u => Dp K Hf u v
  | .ob o, u => ∃ p, u = .ref p ∧ RepCo K Hf H p o
/-- H0: the heap in which a new object was not there -/
def RepR (K : PySem.W.Frag) (Hf H H0 : Hp) (σ : L2.St) : R → V → Prop
  | .val v, u => Dp K Hf u v
  | .new o, u => ∃ p, u = .ref p ∧ H0 p = none ∧ Hf p = none ∧ RepOb K Hf H p o
  | .bor i, u => slot σ i = some u
/-- what an expression may do to the names -/
structure Kp (ρ ρ' : Env) : Prop where
  own : ∀ i, isOb (get ρ' i) = true → isOb (get ρ i) = true
  ref : ∀ i, isRef (get ρ' i) = isRef (get ρ i)

section
variable {K : PySem.W.Frag} {Hf H Hf' H' Hf1 H1 Hf2 H2 H0 : Hp} {ρ ρ' ρ1 ρ2 : Env} {σ σ' : L2.St} {O O' O1 : Addr → Prop}

theorem get_set (ρ : Env) (i j : Nat) (s : Option Sl) : get (ρ.set i s) j = if i = j ∧ i < ρ.length then s else get ρ j := by
  unfold get
  by_cases h : i = j
  · subst h
    by_cases hl : i < ρ.length
    · rw [if_pos ⟨rfl, hl⟩, List.getElem?_set_self hl]; rfl
    · rw [if_neg (fun z => hl z.2), List.getElem?_eq_none (by simpa using hl), List.getElem?_eq_none (by simpa using hl)]
  · rw [if_neg (fun z => h z.1), List.getElem?_set_ne h]
theorem slot_set (σ : L2.St) (i j : Nat) (s : Option V) : slot (σ.set i s) j = if i = j ∧ i < σ.length then s else slot σ j := by
  unfold slot
  by_cases h : i = j
  · subst h
    by_cases hl : i < σ.length
    · rw [if_pos ⟨rfl, hl⟩, List.getElem?_set_self hl]; rfl
    · rw [if_neg (fun z => hl z.2), List.getElem?_eq_none (by simpa using hl), List.getElem?_eq_none (by simpa using hl)]
  · rw [if_neg (fun z => h z.1), List.getElem?_set_ne h]
theorem slot_at {i : Nat} {u : V} (h : slot σ i = some u) : σ[i]? = some (some u) := by
  unfold slot at h
  cases q : σ[i]? with
  | none => rw [q] at h; cases h
  | some x => rw [q] at h; exact congrArg some h

theorem Step.refl (e : Ex Hf H) : Step O Hf H Hf H := ⟨fun _ _ h => h, e, fun _ _ h _ => h, fun _ _ _ _ => rfl, fun _ o h => ⟨o, h⟩⟩
theorem Step.trans (a : Step O Hf H Hf1 H1) (b : Step O1 Hf1 H1 Hf2 H2) (h : ∀ p, O1 p → O p ∨ H p = none) : Step O Hf H Hf2 H2 := by
  have no : ∀ p o, H p = some o → ¬ O p → ¬ O1 p := fun p o e n z => by
    rcases h p z with q | q
    · exact n q
    · rw [e] at q; cases q
  refine ⟨fun p o e => b.ff p o (a.ff p o e), b.fh, fun p o e n => b.keep p o (a.keep p o e n) (no p o e n), fun p o e n => (b.nof p o (a.keep p o e n) (no p o e n)).trans (a.nof p o e n), fun p o e => ?_⟩
  obtain ⟨o', e'⟩ := a.dom p o e
  exact b.dom p o' e'
theorem Step.weak (a : Step O Hf H Hf1 H1) (h : ∀ p, O p → O1 p ∨ H p = none) : Step O1 Hf H Hf1 H1 := by
  have no : ∀ p o, H p = some o → ¬ O1 p → ¬ O p := fun p o e n z => by
    rcases h p z with q | q
    · exact n q
    · rw [e] at q; cases q
  exact ⟨a.ff, a.fh, fun p o e n => a.keep p o e (no p o e n), fun p o e n => a.nof p o e (no p o e n), a.dom⟩
theorem Step.fresh (a : Step O Hf H Hf1 H1) {p : Addr} (h : H1 p = none) : H p = none := by
  cases q : H p with
  | none => rfl
  | some o =>
    obtain ⟨o', e⟩ := a.dom p o q
    rw [h] at e; cases e

theorem RepOb.there {p : Addr} {o : Ob} (h : RepOb K Hf H p o) : ∃ x, H p = some x := by
  cases o with
  | lst xs => obtain ⟨_, e, _⟩ := h; exact ⟨_, e⟩
  | dct xs => obtain ⟨_, e, _⟩ := h; exact ⟨_, e⟩
theorem RepOb.step {p : Addr} {o : Ob} (h : RepOb K Hf H p o) (a : Step O Hf H Hf1 H1) (n : ¬ O p) : RepOb K Hf1 H1 p o := by
  cases o with
  | lst xs => obtain ⟨vs, e, d⟩ := h; exact ⟨vs, a.keep p _ e n, dps_mono a.ff _ _ d⟩
  | dct xs => obtain ⟨vs, e, d⟩ := h; exact ⟨vs, a.keep p _ e n, kvs_mono a.ff d⟩
theorem RepSl.step {s : Sl} {u : V} (h : RepSl K Hf H s u) (a : Step O Hf H Hf1 H1) (n : ∀ p, isOb (some s) = true → u = .ref p → ¬ O p) : RepSl K Hf1 H1 s u := by
  cases s with
  | val v => exact dp_mono a.ff _ _ h
  | own o =>
    obtain ⟨p, e, f, r⟩ := h
    obtain ⟨x, hx⟩ := r.there
    exact ⟨p, e, by rw [a.nof p x hx (n p rfl e)]; exact f, r.step a (n p rfl e)⟩
  | ref o =>
    obtain ⟨p, e, f, r⟩ := h
    obtain ⟨x, hx⟩ := r.there
    exact ⟨p, e, by rw [a.nof p x hx (n p rfl e)]; exact f, r.step a (n p rfl e)⟩
  | lck kvs => obtain ⟨p, e, ws, od, f, r⟩ := h; exact ⟨p, e, ws, od, a.ff p _ f, kvs_mono a.ff r⟩
/-- the names stand behind a step that touches none of their objects -/
theorem RepE.step (E : RepE K Hf H ρ σ) (a : Step O Hf H Hf1 H1) (n : ∀ p, Own ρ σ p → ¬ O p) : RepE K Hf1 H1 ρ σ := by
  refine ⟨E.len, a.fh, fun i s e => ?_, E.dis⟩
  obtain ⟨u, h1, h2⟩ := E.sl i s e
  refine ⟨u, h1, h2.step a fun p ho hu => n p ⟨i, ?_, ?_⟩⟩
  · rw [e]; exact ho
  · rw [h1, hu]
theorem RepE.there (E : RepE K Hf H ρ σ) {p : Addr} (h : Own ρ σ p) : (∃ x, H p = some x) ∧ Hf p = none := by
  obtain ⟨i, h1, h2⟩ := h
  cases q : get ρ i with
  | none => rw [q] at h1; cases h1
  | some s =>
    obtain ⟨u, h3, h4⟩ := E.sl i s q
    rw [h2] at h3; cases h3
    rw [q] at h1
    cases s with
    | val v => cases h1
    | own o => obtain ⟨p', e, f, r⟩ := h4; cases e; exact ⟨r.there, f⟩
    | ref o => obtain ⟨p', e, f, r⟩ := h4; cases e; exact ⟨r.there, f⟩
    | lck kvs => cases h1
theorem Kp.refl : Kp ρ ρ := ⟨fun _ h => h, fun _ => rfl⟩
theorem Kp.trans (a : Kp ρ ρ1) (b : Kp ρ1 ρ2) : Kp ρ ρ2 := ⟨fun i h => a.own i (b.own i h), fun i => (b.ref i).trans (a.ref i)⟩
theorem Kp.sub (a : Kp ρ ρ1) {p : Addr} (h : Own ρ1 σ p) : Own ρ σ p := by
  obtain ⟨i, h1, h2⟩ := h
  exact ⟨i, a.own i h1, h2⟩
theorem RepR.step {r : R} {u : V} (h : RepR K Hf H H0 σ r u) (a : Step O Hf H Hf1 H1) (n : ∀ p, O p → H0 p ≠ none) : RepR K Hf1 H1 H0 σ r u := by
  cases r with
  | val v => exact dp_mono a.ff _ _ h
  | new o =>
    obtain ⟨p, e, z, f, r⟩ := h
    obtain ⟨x, hx⟩ := r.there
    have np : ¬ O p := fun q => n p q z
    exact ⟨p, e, z, by rw [a.nof p x hx np]; exact f, r.step a np⟩
  | bor i => exact h
theorem RepR.back {r : R} {u : V} (h : RepR K Hf H H1 σ r u) (z : ∀ p, H1 p = none → H0 p = none) : RepR K Hf H H0 σ r u := by
  cases r with
  | val v => exact h
  | new o => obtain ⟨p, e, q, f, r⟩ := h; exact ⟨p, e, z p q, f, r⟩
  | bor i => exact h
theorem look_ok {r : R} {u : V} {c : Ct} (E : RepE K Hf H ρ σ) (h : RepR K Hf H H0 σ r u) (l : look r ρ = some c) : RepC K Hf H c u := by
  cases r with
  | val v => cases l; exact h
  | new o => cases l; obtain ⟨p, e, _, _, r⟩ := h; exact ⟨p, e, r.co⟩
  | bor i =>
    have l' : (get ρ i).map Sl.ct = some c := l
    cases q : get ρ i with
    | none => rw [q] at l'; cases l'
    | some s =>
      rw [q] at l'
      cases l'
      obtain ⟨u', h3, h4⟩ := E.sl i s q
      have h' : slot σ i = some u := h
      rw [h'] at h3; cases h3
      cases s with
      | val v => exact h4
      | own o => obtain ⟨p, e, _, r⟩ := h4; exact ⟨p, e, r.co⟩
      | ref o => obtain ⟨p, e, _, r⟩ := h4; exact ⟨p, e, r.co⟩
      | lck kvs => obtain ⟨p, e, ws, od, f, r⟩ := h4; exact ⟨p, e, ws, .inr ⟨od, E.ff p _ f⟩, r⟩
def isLck : Option Sl → Bool
  | some (.lck _) => true
  | _ => false
theorem isRef_isOb {s : Option Sl} (h : isRef s = true) (n : isLck s = false) : isOb s = true := by
  cases s with
  | none => cases h
  | some s => cases s <;> first | rfl | (cases h; done) | (simp [isLck] at n; done)
/-- a list that was nobody's, or a name's own, becomes a value -/
theorem frz_list {p : Addr} {xs : List PV} (e : Ex Hf H) (f : Hf p = none) (r : RepOb K Hf H p (.lst xs)) (hO : O p) :
    ∃ Hf', Step O Hf H Hf' H ∧ Dp K Hf' (.ref p) (.list xs) ∧ (∀ q, q ≠ p → Hf' q = Hf q) := by
  obtain ⟨vs, hv, d⟩ := r
  have ex : Ex Hf (upd Hf p (.lst vs)) := fun a o h => by
    rw [upd_ne (ne_of_none h f)]; exact h
  refine ⟨upd Hf p (.lst vs), ⟨ex, fun a o h => ?_, fun _ _ h _ => h, fun a o h n => ?_, fun _ o h => ⟨o, h⟩⟩, .lst (SqL.of upd_same) (dps_mono ex _ _ d), fun q hq => upd_ne hq⟩
  · by_cases ha : a = p
    · subst ha; rw [upd_same] at h; cases h; exact hv
    · rw [upd_ne ha] at h; exact e a o h
  · exact upd_ne fun z => n (z ▸ hO)
theorem frz_ok {r : R} {u : V} {v : PV} (E : RepE K Hf H ρ σ) (h : RepR K Hf H H0 σ r u) (no : ∀ q, Own ρ σ q → H0 q ≠ none) (l : frz r ρ = some (v, ρ')) :
    ∃ Hf', Step (fun p => Own ρ σ p ∨ H0 p = none) Hf H Hf' H ∧ RepE K Hf' H ρ' σ ∧ Dp K Hf' u v ∧ Kp ρ ρ' := by
  cases r with
  | val w => cases l; exact ⟨Hf, .refl E.ff, E, h, .refl⟩
  | new o =>
    obtain ⟨p, e, z, f, r⟩ := h
    subst e
    cases o with
    | dct kvs => cases l
    | lst xs =>
      cases l
      obtain ⟨Hf', S, d, hq⟩ := frz_list (O := fun p => p = p ∧ (Own ρ σ p ∨ H0 p = none)) E.ff f r ⟨rfl, .inr z⟩
      refine ⟨Hf', S.weak fun q hq => .inl hq.2, ⟨E.len, S.fh, fun i s e => ?_, E.dis⟩, d, .refl⟩
      obtain ⟨u, h1, h2⟩ := E.sl i s e
      refine ⟨u, h1, ?_⟩
      cases s with
      | val w => exact dp_mono S.ff _ _ h2
      | own o =>
        obtain ⟨q, e1, f1, r1⟩ := h2
        have nq : q ≠ p := fun y => no q ⟨i, by rw [e]; rfl, by rw [h1, e1]⟩ (y ▸ z)
        refine ⟨q, e1, by rw [hq q nq]; exact f1, ?_⟩
        cases o with
        | lst ys => obtain ⟨vs, a, b⟩ := r1; exact ⟨vs, a, dps_mono S.ff _ _ b⟩
        | dct ys => obtain ⟨vs, a, b⟩ := r1; exact ⟨vs, a, kvs_mono S.ff b⟩
      | ref o =>
        obtain ⟨q, e1, f1, r1⟩ := h2
        have nq : q ≠ p := fun y => no q ⟨i, by rw [e]; rfl, by rw [h1, e1]⟩ (y ▸ z)
        refine ⟨q, e1, by rw [hq q nq]; exact f1, ?_⟩
        cases o with
        | lst ys => obtain ⟨vs, a, b⟩ := r1; exact ⟨vs, a, dps_mono S.ff _ _ b⟩
        | dct ys => obtain ⟨vs, a, b⟩ := r1; exact ⟨vs, a, kvs_mono S.ff b⟩
      | lck kvs => obtain ⟨q, e1, ws, od, f, r⟩ := h2; exact ⟨q, e1, ws, od, S.ff q _ f, kvs_mono S.ff r⟩
  | bor i =>
    have h' : slot σ i = some u := h
    cases q : get ρ i with
    | none => simp only [frz, q] at l; cases l
    | some s =>
      obtain ⟨u', h3, h4⟩ := E.sl i s q
      rw [h'] at h3; cases h3
      cases s with
      | val w =>
        simp only [frz, q] at l
        cases l
        exact ⟨Hf, .refl E.ff, E, h4, .refl⟩
      | ref o => simp only [frz, q] at l; cases l
      | lck kvs => simp only [frz, q] at l; cases l
      | own o =>
        cases o with
        | dct kvs => simp only [frz, q, frzO] at l; cases l
        | lst xs =>
          simp only [frz, q, frzO, Option.map_some] at l
          cases l
          obtain ⟨p, e, f, r⟩ := h4
          subst e
          have oi : OwnAt ρ σ i p := ⟨by rw [q]; rfl, h'⟩
          obtain ⟨Hf', S, d, hq⟩ := frz_list (O := fun p => Own ρ σ p ∨ H0 p = none) E.ff f r (.inl ⟨i, oi⟩)
          have oth : ∀ j, OwnAt (ρ.set i (some (.val (.list xs)))) σ j p → False := fun j ⟨a, b⟩ => by
            rw [get_set] at a
            split at a
            · cases a
            · rename_i nn
              have ej := E.dis i j p oi ⟨a, b⟩
              subst ej
              refine nn ⟨rfl, ?_⟩
              have := (List.getElem?_eq_some_iff.mp (slot_at h')).1
              rw [E.len]; exact this
          have sub : ∀ j p', OwnAt (ρ.set i (some (.val (.list xs)))) σ j p' → OwnAt ρ σ j p' := fun j p' ⟨a, b⟩ => ⟨by
            rw [get_set] at a
            split at a
            · cases a
            · exact a, b⟩
          refine ⟨Hf', S, ⟨by rw [List.length_set]; exact E.len, S.fh, fun j s e => ?_, fun j k p' a b => E.dis j k p' (sub j p' a) (sub k p' b)⟩, d, ⟨fun j a => ?_, fun j => ?_⟩⟩
          · rw [get_set] at e
            split at e
            · rename_i hh
              cases e
              obtain ⟨rfl, _⟩ := hh
              exact ⟨_, h', d⟩
            · rename_i nn
              obtain ⟨u, h1, h2⟩ := E.sl j s e
              refine ⟨u, h1, ?_⟩
              cases s with
              | val w => exact dp_mono S.ff _ _ h2
              | own o =>
                obtain ⟨q', e1, f1, r1⟩ := h2
                have nq : q' ≠ p := fun y => oth j ⟨by rw [get_set, if_neg nn, e]; rfl, by rw [h1, e1, y]⟩
                refine ⟨q', e1, by rw [hq q' nq]; exact f1, ?_⟩
                cases o with
                | lst ys => obtain ⟨vs, a, b⟩ := r1; exact ⟨vs, a, dps_mono S.ff _ _ b⟩
                | dct ys => obtain ⟨vs, a, b⟩ := r1; exact ⟨vs, a, kvs_mono S.ff b⟩
              | ref o =>
                obtain ⟨q', e1, f1, r1⟩ := h2
                have nq : q' ≠ p := fun y => oth j ⟨by rw [get_set, if_neg nn, e]; rfl, by rw [h1, e1, y]⟩
                refine ⟨q', e1, by rw [hq q' nq]; exact f1, ?_⟩
                cases o with
                | lst ys => obtain ⟨vs, a, b⟩ := r1; exact ⟨vs, a, dps_mono S.ff _ _ b⟩
                | dct ys => obtain ⟨vs, a, b⟩ := r1; exact ⟨vs, a, kvs_mono S.ff b⟩
              | lck kvs => obtain ⟨q', e1, ws, od, f, r⟩ := h2; exact ⟨q', e1, ws, od, S.ff q' _ f, kvs_mono S.ff r⟩
          · rw [get_set] at a
            split at a
            · cases a
            · exact a
          · rw [get_set]
            split
            · rename_i hh
              obtain ⟨rfl, _⟩ := hh
              rw [q]; rfl
            · rfl
end
end Py
/-! Py2: expressions. -/
namespace Py
open PySem PySem.Spec PyProof.Rows L2

def Nobody : Addr → Prop := fun _ => False
/-- the sound meaning of a reading -/
def SE (K : PySem.W.Frag) (te : TE) (m : M) : Prop := ∀ (ρ : Env) (r : R) (ρ' : Env) (σ : L2.St) (Hf H : Hp), m ρ = some (r, ρ') → RepE K Hf H ρ σ → ∀ Q : VK,
  (∀ u Hf' H', Step (Own ρ σ) Hf H Hf' H' → RepE K Hf' H' ρ' σ → RepR K Hf' H' H σ r u → Kp ρ ρ' → Q u H') → te σ H Q
def ST (K : PySem.W.Frag) (tt : TT) (m : MT) : Prop := ∀ (ρ : Env) (b : Bool) (ρ' : Env) (σ : L2.St) (Hf H : Hp), m ρ = some (b, ρ') → RepE K Hf H ρ σ → ∀ Q : Bool → Hp → Prop,
  (∀ Hf' H', Step (Own ρ σ) Hf H Hf' H' → RepE K Hf' H' ρ' σ → Kp ρ ρ' → Q b H') → tt σ H Q
def SLs (K : PySem.W.Frag) (ta : TA) (m : ML) : Prop := ∀ (ρ : Env) (vs : List PV) (ρ' : Env) (σ : L2.St) (Hf H : Hp), m ρ = some (vs, ρ') → RepE K Hf H ρ σ → ∀ Q : List V → Hp → Prop,
  (∀ us Hf' H', Step (Own ρ σ) Hf H Hf' H' → RepE K Hf' H' ρ' σ → DpAll K Hf' us vs → Kp ρ ρ' → Q us H') → ta σ H Q
structure BE (X : Cx) (e : Expr) (m : M) : Prop where
  ex : ∃ te, PE X e te ∧ SE X.K te m
structure BT (X : Cx) (e : Expr) (m : MT) : Prop where
  ex : ∃ tt, PT X e tt ∧ ST X.K tt m
structure BW (X : Cx) (e : Expr) (m : MT) : Prop where
  ex : ∃ tt, PW X e tt ∧ ST X.K tt m
structure BL (X : Cx) (es : List Expr) (m : ML) : Prop where
  ex : ∃ ta, PA X es ta ∧ SLs X.K ta m
/-- a two-place operation by contents -/
def OpS (K : PySem.W.Frag) (r : R2) (f : Ct → Ct → Option R) : Prop := ∀ (Hf H : Hp) (c d : Ct) (x y : V) (z : R), Ex Hf H → RepC K Hf H c x → RepC K Hf H d y → f c d = some z → ∀ Q : VK,
  (∀ u Hf' H', Step Nobody Hf H Hf' H' → RepR K Hf' H' H [] z u → Q u H') → r x y H Q
structure OpB (X : Cx) (fn : Value → Value → Sem Value) (f : Ct → Ct → Option R) : Prop where
  ex : ∃ r, OpR X fn r ∧ OpS X.K r f
def UnS (K : PySem.W.Frag) (r : V → Hp → VK → Prop) (f : Ct → Option R) : Prop := ∀ (Hf H : Hp) (c : Ct) (x : V) (z : R), Ex Hf H → RepC K Hf H c x → f c = some z → ∀ Q : VK,
  (∀ u Hf' H', Step Nobody Hf H Hf' H' → RepR K Hf' H' H [] z u → Q u H') → r x H Q

section
variable {K : PySem.W.Frag} {Hf H Hf' H' Hf1 H1 Hf2 H2 H0 : Hp} {ρ ρ' ρ1 ρ2 : Env} {σ σ' : L2.St} {O O' O1 : Addr → Prop}
theorem RepR.any {r : R} {u : V} (h : RepR K Hf H H0 [] r u) : RepR K Hf H H0 σ r u := by
  cases r with
  | val v => exact h
  | new o => exact h
  | bor i =>
    have h' : slot [] i = some u := h
    simp [slot] at h'
/-- behind a: what holds there, for what comes behind it -/
structure Bh (K : PySem.W.Frag) (Hf H : Hp) (ρ : Env) (σ : L2.St) (Hf1 H1 : Hp) (ρ1 : Env) : Prop where
  st : Step (Own ρ σ) Hf H Hf1 H1
  en : RepE K Hf1 H1 ρ1 σ
  kp : Kp ρ ρ1
theorem Bh.refl (E : RepE K Hf H ρ σ) : Bh K Hf H ρ σ Hf H ρ := ⟨.refl E.ff, E, .refl⟩
theorem Bh.trans (a : Bh K Hf H ρ σ Hf1 H1 ρ1) (b : Bh K Hf1 H1 ρ1 σ Hf2 H2 ρ2) : Bh K Hf H ρ σ Hf2 H2 ρ2 :=
  ⟨a.st.trans b.st fun p h => .inl (a.kp.sub h), b.en, a.kp.trans b.kp⟩
/-- a step that touches nobody's object -/
theorem Bh.more (a : Bh K Hf H ρ σ Hf1 H1 ρ1) (b : Step Nobody Hf1 H1 Hf2 H2) : Bh K Hf H ρ σ Hf2 H2 ρ1 :=
  ⟨a.st.trans b fun p h => h.elim, a.en.step b fun _ _ h => h, a.kp⟩
theorem Bh.fresh (a : Bh K Hf H ρ σ Hf1 H1 ρ1) {p : Addr} (h : H1 p = none) : H p = none := a.st.fresh h
theorem Bh.no (a : Bh K Hf H ρ σ Hf1 H1 ρ1) (E : RepE K Hf H ρ σ) : ∀ q, Own ρ1 σ q → H q ≠ none := fun q h z => by
  obtain ⟨⟨x, hx⟩, _⟩ := E.there (a.kp.sub h)
  rw [z] at hx; cases hx
/-- an older result, behind what came behind it -/
theorem Bh.keepR (a : Bh K Hf H ρ σ Hf1 H1 ρ1) (E : RepE K Hf H ρ σ) (b : Bh K Hf1 H1 ρ1 σ Hf2 H2 ρ2) {r : R} {u : V} (h : RepR K Hf1 H1 H σ r u) : RepR K Hf2 H2 H σ r u :=
  h.step b.st fun p hp => a.no E p hp
theorem Bh.frz (a : Bh K Hf H ρ σ Hf1 H1 ρ1) (E : RepE K Hf H ρ σ) {r : R} {u : V} {v : PV} (h : RepR K Hf1 H1 H σ r u) (l : Py.frz r ρ1 = some (v, ρ2)) : ∃ Hf2, Bh K Hf H ρ σ Hf2 H1 ρ2 ∧ Dp K Hf2 u v := by
  obtain ⟨Hf2, S, E2, d, k⟩ := frz_ok a.en h (a.no E) l
  refine ⟨Hf2, ⟨a.st.trans S fun p hp => ?_, E2, a.kp.trans k⟩, d⟩
  rcases hp with hp | hp
  · exact .inl (a.kp.sub hp)
  · exact .inr hp

/-! ### the pieces -/
theorem se_c {v : PV} {u : V} (h : ∀ Hf, Dp K Hf u v) : SE K (tC u) (mC v) := by
  intro ρ r ρ' σ Hf H hm E Q q
  cases hm
  exact q u Hf H (.refl E.ff) E (h Hf) .refl
theorem se_var (i : Nat) : SE K (tVar i) (mVar i) := by
  intro ρ r ρ' σ Hf H hm E Q q
  unfold mVar at hm
  cases g : get ρ i with
  | none => rw [g] at hm; cases hm
  | some s =>
    rw [g] at hm
    obtain ⟨u, h1, h2⟩ := E.sl i s g
    refine ⟨u, slot_at h1, ?_⟩
    cases s with
    | val v => cases hm; exact q u Hf H (.refl E.ff) E h2 .refl
    | own o => cases hm; exact q u Hf H (.refl E.ff) E h1 .refl
    | ref o => cases hm; exact q u Hf H (.refl E.ff) E h1 .refl
    | lck kvs => cases hm; exact q u Hf H (.refl E.ff) E h1 .refl
theorem se_op {ta tb : TE} {a b : M} {r : R2} {f : Ct → Ct → Option R} (ha : SE K ta a) (hb : SE K tb b) (hr : OpS K r f) : SE K (tOp r ta tb) (mOp f a b) := by
  intro ρ r' ρ' σ Hf H hm E Q q
  simp only [mOp, Option.bind_eq_some_iff, Option.map_eq_some_iff, Prod.mk.injEq] at hm
  obtain ⟨⟨x, ρ1⟩, e1, ⟨y, ρ2⟩, e2, c, e3, d, e4, z, e5, rfl, rfl⟩ := hm
  refine ha ρ x ρ1 σ Hf H e1 E _ fun u Hf1 H1 S1 E1 R1 k1 => ?_
  have B1 : Bh K Hf H ρ σ Hf1 H1 ρ1 := ⟨S1, E1, k1⟩
  refine hb ρ1 y ρ2 σ Hf1 H1 e2 E1 _ fun w Hf2 H2 S2 E2 R2 k2 => ?_
  have B2 : Bh K Hf1 H1 ρ1 σ Hf2 H2 ρ2 := ⟨S2, E2, k2⟩
  have R1' := B1.keepR E B2 R1
  refine hr Hf2 H2 c d u w z E2.ff (look_ok E2 R1' e3) (look_ok E2 R2 e4) e5 _ fun t Hf3 H3 S3 R3 => ?_
  have B3 := (B1.trans B2).more S3
  exact q t Hf3 H3 B3.st B3.en (R3.any.back fun p hp => (B1.trans B2).fresh hp) B3.kp
theorem se_un {ta : TE} {a : M} {r : V → Hp → VK → Prop} {f : Ct → Option R} (ha : SE K ta a) (hr : UnS K r f) : SE K (tUn r ta) (mUn f a) := by
  intro ρ r' ρ' σ Hf H hm E Q q
  simp only [mUn, Option.bind_eq_some_iff, Option.map_eq_some_iff, Prod.mk.injEq] at hm
  obtain ⟨⟨x, ρ1⟩, e1, c, e3, z, e5, rfl, rfl⟩ := hm
  refine ha ρ x ρ1 σ Hf H e1 E _ fun u Hf1 H1 S1 E1 R1 k1 => ?_
  have B1 : Bh K Hf H ρ σ Hf1 H1 ρ1 := ⟨S1, E1, k1⟩
  refine hr Hf1 H1 c u z E1.ff (look_ok E1 R1 e3) e5 _ fun t Hf3 H3 S3 R3 => ?_
  have B3 := B1.more S3
  exact q t Hf3 H3 B3.st B3.en (R3.any.back fun p hp => B1.fresh hp) B3.kp
theorem boolOf_some {c : Ct} {b : Bool} (h : boolOf c = some b) : c = .pv (.bool b) := by
  unfold boolOf at h
  split at h
  · cases h; rfl
  · cases h
theorem rep_bool {b : Bool} {u : V} (h : RepC K Hf H (.pv (.bool b)) u) : u = .bl b := by cases h; rfl
theorem st_B {ta : TE} {a : M} (ha : SE K ta a) : ST K (tTest ta) (mB a) := by
  intro ρ b ρ' σ Hf H hm E Q q
  simp only [mB, Option.bind_eq_some_iff, Option.map_eq_some_iff, Prod.mk.injEq] at hm
  obtain ⟨⟨x, ρ1⟩, e1, c, e3, z, e5, rfl, rfl⟩ := hm
  refine ha ρ x ρ1 σ Hf H e1 E _ fun u Hf1 H1 S1 E1 R1 k1 => ?_
  have hc := look_ok E1 R1 e3
  rw [boolOf_some e5] at hc
  exact ⟨z, rep_bool hc, q Hf1 H1 S1 E1 k1⟩
theorem dps_isEmpty {us : List V} {vs : List PV} (h : DpAll K H us vs) : (!us.isEmpty) = !vs.isEmpty := by cases h <;> rfl
theorem kvs_isEmpty {us : List (Key × V)} {vs : List (Key × PV)} (h : KvAll K H us vs) : (!us.isEmpty) = !vs.isEmpty := by cases h <;> rfl
theorem tru_of {c : Ct} {b : Bool} {u : V} (e : Ex Hf H) (h : truOf c = some b) (r : RepC K Hf H c u) : TruV K u H b := by
  cases c with
  | pv v =>
    cases v with
    | none => cases h; cases r; exact rfl
    | bool b => cases h; cases r; exact rfl
    | int i => cases h; cases r; exact rfl
    | str x => cases h
    | list xs => cases h; cases r with | lst hs ha => exact .inl ⟨_, ex_l e hs, (dps_isEmpty ha).symm⟩
    | tuple xs => cases h; cases r with | tup hs ha => exact .inr (.inl ⟨_, ex_t e hs, (dps_isEmpty ha).symm⟩)
    | dict kvs => cases h
  | ob o =>
    obtain ⟨p, rfl, r⟩ := r
    cases o with
    | lst xs => cases h; obtain ⟨vs, e1, d⟩ := r; exact .inl ⟨_, SqL.of e1, (dps_isEmpty d).symm⟩
    | dct xs => cases h
theorem st_tru {ta : TE} {a : M} (ha : SE K ta a) : ST K (fun σ H Q => ta σ H fun x H' => ∃ k, TruV K x H' k ∧ Q k H') (mTru a) := by
  intro ρ b ρ' σ Hf H hm E Q q
  simp only [mTru, Option.bind_eq_some_iff, Option.map_eq_some_iff, Prod.mk.injEq] at hm
  obtain ⟨⟨x, ρ1⟩, e1, c, e3, z, e5, rfl, rfl⟩ := hm
  refine ha ρ x ρ1 σ Hf H e1 E _ fun u Hf1 H1 S1 E1 R1 k1 => ?_
  exact ⟨z, tru_of E1.ff e5 (look_ok E1 R1 e3), q Hf1 H1 S1 E1 k1⟩
theorem st_and {ta tb : TT} {a b : MT} (ha : ST K ta a) (hb : ST K tb b) : ST K (tAnd ta tb) (mAnd a b) := by
  intro ρ z ρ' σ Hf H hm E Q q
  simp only [mAnd, Option.bind_eq_some_iff] at hm
  obtain ⟨⟨x, ρ1⟩, e1, e2⟩ := hm
  refine ha ρ x ρ1 σ Hf H e1 E _ fun Hf1 H1 S1 E1 k1 => ?_
  have B1 : Bh K Hf H ρ σ Hf1 H1 ρ1 := ⟨S1, E1, k1⟩
  cases x with
  | true =>
    simp only [if_true] at e2 ⊢
    refine hb ρ1 z ρ' σ Hf1 H1 e2 E1 _ fun Hf2 H2 S2 E2 k2 => ?_
    have B2 := B1.trans (⟨S2, E2, k2⟩ : Bh K Hf1 H1 ρ1 σ Hf2 H2 ρ')
    exact q Hf2 H2 B2.st B2.en B2.kp
  | false =>
    simp only [Bool.false_eq_true, if_false] at e2 ⊢
    cases e2
    exact q Hf1 H1 S1 E1 k1
theorem st_or {ta tb : TT} {a b : MT} (ha : ST K ta a) (hb : ST K tb b) : ST K (tOr ta tb) (mOr a b) := by
  intro ρ z ρ' σ Hf H hm E Q q
  simp only [mOr, Option.bind_eq_some_iff] at hm
  obtain ⟨⟨x, ρ1⟩, e1, e2⟩ := hm
  refine ha ρ x ρ1 σ Hf H e1 E _ fun Hf1 H1 S1 E1 k1 => ?_
  have B1 : Bh K Hf H ρ σ Hf1 H1 ρ1 := ⟨S1, E1, k1⟩
  cases x with
  | false =>
    simp only [Bool.false_eq_true, if_false] at e2 ⊢
    refine hb ρ1 z ρ' σ Hf1 H1 e2 E1 _ fun Hf2 H2 S2 E2 k2 => ?_
    have B2 := B1.trans (⟨S2, E2, k2⟩ : Bh K Hf1 H1 ρ1 σ Hf2 H2 ρ')
    exact q Hf2 H2 B2.st B2.en B2.kp
  | true =>
    simp only [if_true] at e2 ⊢
    cases e2
    exact q Hf1 H1 S1 E1 k1
theorem st_not {ta : TT} {a : MT} (ha : ST K ta a) : ST K (tNot ta) (mNot a) := by
  intro ρ z ρ' σ Hf H hm E Q q
  simp only [mNot, Option.bind_eq_some_iff, Option.some.injEq, Prod.mk.injEq] at hm
  obtain ⟨⟨x, ρ1⟩, e1, rfl, rfl⟩ := hm
  exact ha ρ x ρ1 σ Hf H e1 E _ fun Hf1 H1 S1 E1 k1 => q Hf1 H1 S1 E1 k1
theorem se_andV {ta tb : TE} {a b : M} (ha : SE K ta a) (hb : SE K tb b) : SE K (tAndV ta tb) (mAndV a b) := by
  intro ρ z ρ' σ Hf H hm E Q q
  simp only [mAndV, Option.bind_eq_some_iff] at hm
  obtain ⟨⟨x, ρ1⟩, e1, c, e2, k, e3, e4⟩ := hm
  refine ha ρ x ρ1 σ Hf H e1 E _ fun u Hf1 H1 S1 E1 R1 k1 => ?_
  have B1 : Bh K Hf H ρ σ Hf1 H1 ρ1 := ⟨S1, E1, k1⟩
  have hc := look_ok E1 R1 e2
  rw [boolOf_some e3] at hc
  refine ⟨k, rep_bool hc, ?_⟩
  cases k with
  | true =>
    simp only [if_true] at e4 ⊢
    refine hb ρ1 z ρ' σ Hf1 H1 e4 E1 _ fun w Hf2 H2 S2 E2 R2 k2 => ?_
    have B2 := B1.trans (⟨S2, E2, k2⟩ : Bh K Hf1 H1 ρ1 σ Hf2 H2 ρ')
    exact q w Hf2 H2 B2.st B2.en (R2.back fun p hp => B1.fresh hp) B2.kp
  | false =>
    simp only [Bool.false_eq_true, if_false] at e4 ⊢
    cases e4
    exact q _ Hf1 H1 S1 E1 (.bl false) k1
theorem se_orV {ta tb : TE} {a b : M} (ha : SE K ta a) (hb : SE K tb b) : SE K (tOrV ta tb) (mOrV a b) := by
  intro ρ z ρ' σ Hf H hm E Q q
  simp only [mOrV, Option.bind_eq_some_iff] at hm
  obtain ⟨⟨x, ρ1⟩, e1, c, e2, k, e3, e4⟩ := hm
  refine ha ρ x ρ1 σ Hf H e1 E _ fun u Hf1 H1 S1 E1 R1 k1 => ?_
  have B1 : Bh K Hf H ρ σ Hf1 H1 ρ1 := ⟨S1, E1, k1⟩
  have hc := look_ok E1 R1 e2
  rw [boolOf_some e3] at hc
  refine ⟨k, rep_bool hc, ?_⟩
  cases k with
  | false =>
    simp only [Bool.false_eq_true, if_false] at e4 ⊢
    refine hb ρ1 z ρ' σ Hf1 H1 e4 E1 _ fun w Hf2 H2 S2 E2 R2 k2 => ?_
    have B2 := B1.trans (⟨S2, E2, k2⟩ : Bh K Hf1 H1 ρ1 σ Hf2 H2 ρ')
    exact q w Hf2 H2 B2.st B2.en (R2.back fun p hp => B1.fresh hp) B2.kp
  | true =>
    simp only [if_true] at e4 ⊢
    cases e4
    exact q _ Hf1 H1 S1 E1 (.bl true) k1
theorem se_notV {ta : TE} {a : M} (ha : SE K ta a) : SE K (tNotV ta) (mNotV a) := by
  intro ρ z ρ' σ Hf H hm E Q q
  simp only [mNotV, Option.bind_eq_some_iff, Option.some.injEq, Prod.mk.injEq] at hm
  obtain ⟨⟨x, ρ1⟩, e1, c, e2, k, e3, rfl, rfl⟩ := hm
  refine ha ρ x ρ1 σ Hf H e1 E _ fun u Hf1 H1 S1 E1 R1 k1 => ?_
  have hc := look_ok E1 R1 e2
  rw [boolOf_some e3] at hc
  exact ⟨k, rep_bool hc, q _ Hf1 H1 S1 E1 (.bl (!k)) k1⟩
theorem se_if {tt : TT} {ta tb : TE} {t : MT} {a b : M} (ht : ST K tt t) (ha : SE K ta a) (hb : SE K tb b) : SE K (tIf tt ta tb) (mIfE t a b) := by
  intro ρ z ρ' σ Hf H hm E Q q
  simp only [mIfE, Option.bind_eq_some_iff] at hm
  obtain ⟨⟨x, ρ1⟩, e1, e2⟩ := hm
  refine ht ρ x ρ1 σ Hf H e1 E _ fun Hf1 H1 S1 E1 k1 => ?_
  have B1 : Bh K Hf H ρ σ Hf1 H1 ρ1 := ⟨S1, E1, k1⟩
  cases x with
  | true =>
    simp only [if_true] at e2 ⊢
    refine ha ρ1 z ρ' σ Hf1 H1 e2 E1 _ fun w Hf2 H2 S2 E2 R2 k2 => ?_
    have B2 := B1.trans (⟨S2, E2, k2⟩ : Bh K Hf1 H1 ρ1 σ Hf2 H2 ρ')
    exact q w Hf2 H2 B2.st B2.en (R2.back fun p hp => B1.fresh hp) B2.kp
  | false =>
    simp only [Bool.false_eq_true, if_false] at e2 ⊢
    refine hb ρ1 z ρ' σ Hf1 H1 e2 E1 _ fun w Hf2 H2 S2 E2 R2 k2 => ?_
    have B2 := B1.trans (⟨S2, E2, k2⟩ : Bh K Hf1 H1 ρ1 σ Hf2 H2 ρ')
    exact q w Hf2 H2 B2.st B2.en (R2.back fun p hp => B1.fresh hp) B2.kp
theorem se_chain {ta tb tc : TE} {a b c : M} {r r' : R2} {f g : Ct → Ct → Option R} (ha : SE K ta a) (hb : SE K tb b) (hc : SE K tc c) (hr : OpS K r f) (hr' : OpS K r' g) : SE K (tChain r r' ta tb tc) (mChain f g a b c) := by
  intro ρ z ρ' σ Hf H hm E Q q
  simp only [mChain, Option.bind_eq_some_iff] at hm
  obtain ⟨⟨x, ρ1⟩, e1, ⟨y, ρ2⟩, e2, c1, e3, c2, e4, z1, e5, cz, e6, k, e7, e8⟩ := hm
  refine ha ρ x ρ1 σ Hf H e1 E _ fun u Hf1 H1 S1 E1 R1 k1 => ?_
  have B1 : Bh K Hf H ρ σ Hf1 H1 ρ1 := ⟨S1, E1, k1⟩
  refine hb ρ1 y ρ2 σ Hf1 H1 e2 E1 _ fun w Hf2 H2 S2 E2 R2 k2 => ?_
  have B2 : Bh K Hf1 H1 ρ1 σ Hf2 H2 ρ2 := ⟨S2, E2, k2⟩
  have R1' := B1.keepR E B2 R1
  refine hr Hf2 H2 c1 c2 u w z1 E2.ff (look_ok E2 R1' e3) (look_ok E2 R2 e4) e5 _ fun t Hf3 H3 S3 R3 => ?_
  have B3 := (B1.trans B2).more S3
  have hz := look_ok (σ := σ) B3.en (R3.any.back fun p hp => hp) e6
  rw [boolOf_some e7] at hz
  refine ⟨k, rep_bool hz, ?_⟩
  have R2' : RepR K Hf3 H3 H σ y w := (R2.back fun p hp => B1.fresh hp).step S3 fun p h => h.elim
  cases k with
  | true =>
    simp only [if_true, Option.bind_eq_some_iff, Option.map_eq_some_iff, Prod.mk.injEq] at e8 ⊢
    obtain ⟨⟨w2, ρ3⟩, d1, c3, d2, c4, d3, z2, d4, rfl, rfl⟩ := e8
    refine hc ρ2 w2 ρ3 σ Hf3 H3 d1 B3.en _ fun w' Hf4 H4 S4 E4 R4 k4 => ?_
    have B4 : Bh K Hf3 H3 ρ2 σ Hf4 H4 ρ3 := ⟨S4, E4, k4⟩
    have R2'' := B3.keepR E B4 R2'
    refine hr' Hf4 H4 c3 c4 w w' z2 E4.ff (look_ok E4 R2'' d2) (look_ok E4 R4 d3) d4 _ fun t' Hf5 H5 S5 R5 => ?_
    have B5 := (B3.trans B4).more S5
    exact q t' Hf5 H5 B5.st B5.en (R5.any.back fun p hp => (B3.trans B4).fresh hp) B5.kp
  | false =>
    simp only [Bool.false_eq_true, if_false] at e8 ⊢
    cases e8
    exact q _ Hf3 H3 B3.st B3.en (.bl false) B3.kp
theorem sl_nil : SLs K tNil lNil := by
  intro ρ vs ρ' σ Hf H hm E Q q
  cases hm
  exact q [] Hf H (.refl E.ff) E .nil .refl
theorem sl_cons {ta : TE} {tr : TA} {a : M} {r : ML} (ha : SE K ta a) (hr : SLs K tr r) : SLs K (tCons ta tr) (lCons a r) := by
  intro ρ vs ρ' σ Hf H hm E Q q
  simp only [lCons, Option.bind_eq_some_iff, Option.map_eq_some_iff, Prod.mk.injEq] at hm
  obtain ⟨⟨x, ρ1⟩, e1, ⟨v, ρ2⟩, e2, ⟨vs', ρ3⟩, e3, rfl, rfl⟩ := hm
  refine ha ρ x ρ1 σ Hf H e1 E _ fun u Hf1 H1 S1 E1 R1 k1 => ?_
  have B1 : Bh K Hf H ρ σ Hf1 H1 ρ1 := ⟨S1, E1, k1⟩
  obtain ⟨Hf2, B2, d⟩ := B1.frz E R1 e2
  refine hr ρ2 vs' ρ3 σ Hf2 H1 e3 B2.en _ fun us Hf3 H3 S3 E3 D3 k3 => ?_
  have B3 := B2.trans (⟨S3, E3, k3⟩ : Bh K Hf2 H1 ρ2 σ Hf3 H3 ρ3)
  exact q (u :: us) Hf3 H3 B3.st B3.en (.cons (dp_mono S3.ff _ _ d) D3) B3.kp
theorem line_eq : line = sizeLine := by rw [sizeLine_eq]; rfl
/-- a new tuple, a new list -/
theorem new_tup {us : List V} {vs : List PV} (e : Ex Hf H) (d : DpAll K Hf us vs) {p : Addr} (hp : H p = none) : Step Nobody Hf H (upd Hf p (.tup us)) (upd H p (.tup us)) ∧ Dp K (upd Hf p (.tup us)) (.ref p) (.tuple vs) := by
  have fp : Hf p = none := by
    cases z : Hf p with
    | none => rfl
    | some o => have := e p o z; rw [hp] at this; cases this
  have ex : Ex Hf (upd Hf p (.tup us)) := fun a o h => by rw [upd_ne (ne_of_none h fp)]; exact h
  refine ⟨⟨ex, fun a o h => ?_, fun a o h _ => by rw [upd_ne (ne_of_none h hp)]; exact h, fun a o h _ => upd_ne (ne_of_none h hp), fun a o h => ⟨o, by rw [upd_ne (ne_of_none h hp)]; exact h⟩⟩, .tup (SqT.of upd_same) (dps_mono ex _ _ d)⟩
  by_cases ha : a = p
  · subst ha; rw [upd_same] at h ⊢; exact h
  · rw [upd_ne ha] at h ⊢; exact e a o h
theorem new_ob {o : HO} (e : Ex Hf H) {p : Addr} (hp : H p = none) : Step Nobody Hf H Hf (upd H p o) ∧ Hf p = none := by
  have fp : Hf p = none := by
    cases z : Hf p with
    | none => rfl
    | some o => have := e p o z; rw [hp] at this; cases this
  exact ⟨⟨fun _ _ h => h, fun a o h => by rw [upd_ne (ne_of_none h fp)]; exact e a o h, fun a o h _ => by rw [upd_ne (ne_of_none h hp)]; exact h, fun _ _ _ _ => rfl, fun a o h => ⟨o, by rw [upd_ne (ne_of_none h hp)]; exact h⟩⟩, fp⟩
theorem se_tup {ta : TA} {l : ML} (hl : SLs K ta l) : SE K (tTup ta) (mTup l) := by
  intro ρ z ρ' σ Hf H hm E Q q
  simp only [mTup, Option.bind_eq_some_iff] at hm
  obtain ⟨⟨vs, ρ1⟩, e1, e2⟩ := hm
  split at e2
  · rename_i hz
    cases e2
    refine hl ρ vs ρ1 σ Hf H e1 E _ fun us Hf1 H1 S1 E1 D1 k1 => ?_
    have B1 : Bh K Hf H ρ σ Hf1 H1 ρ1 := ⟨S1, E1, k1⟩
    refine ⟨by rw [dps_len D1, ← line_eq]; exact hz, fun p hp => ?_⟩
    obtain ⟨S, d⟩ := new_tup E1.ff D1 hp
    have B2 := B1.more S
    exact q _ _ _ B2.st B2.en d B2.kp
  · cases e2
theorem se_lst {ta : TA} {l : ML} (hl : SLs K ta l) : SE K (tLst ta) (mLst l) := by
  intro ρ z ρ' σ Hf H hm E Q q
  simp only [mLst, Option.bind_eq_some_iff] at hm
  obtain ⟨⟨vs, ρ1⟩, e1, e2⟩ := hm
  split at e2
  · rename_i hz
    cases e2
    refine hl ρ vs ρ1 σ Hf H e1 E _ fun us Hf1 H1 S1 E1 D1 k1 => ?_
    have B1 : Bh K Hf H ρ σ Hf1 H1 ρ1 := ⟨S1, E1, k1⟩
    refine ⟨by rw [dps_len D1, ← line_eq]; exact hz, fun p hp => ?_⟩
    obtain ⟨S, fp⟩ := new_ob (o := .lst us) E1.ff hp
    have B2 := B1.more S
    exact q _ _ _ B2.st B2.en ⟨p, rfl, B1.fresh hp, fp, us, upd_same, D1⟩ B2.kp
  · cases e2
end

/-! ### the rules a derivation is made of -/
section
variable {X : Cx} {a b c : Expr} {ma mb mc : M} {ta tb : MT} {pos : Pos}
theorem be_var (i : Nat) {x : Str} {pos : Pos} (hN : X.N[i]? = some x := by rfl) (hv : Vis X.env.scope x := by first | exact Or.inl rfl | exact Or.inr (Or.inl rfl) | exact Or.inr (Or.inr rfl)) (hd : (x == ("__debug__" : Str)) = false := by decide)
    (hcd : (x == ("__classdict__" : Str)) = false := by decide) : BE X (.Name x pos) (mVar i) := ⟨_, pe_var hN hv hd hcd, se_var i⟩
theorem be_int {i j pos} : BE X (.Constant (.int i) j pos) (mC (.int i)) := ⟨_, pe_int, se_c fun _ => .int i⟩
theorem be_bl {b j pos} : BE X (.Constant (.bool b) j pos) (mC (.bool b)) := ⟨_, pe_bl, se_c fun _ => .bl b⟩
theorem be_non {j pos} : BE X (.Constant .none j pos) (mC .none) := ⟨_, pe_non, se_c fun _ => .non⟩
theorem be_str {x j pos} : BE X (.Constant (.str x) j pos) (mC (.str x)) := ⟨_, pe_str, se_c fun _ => .str x⟩
theorem be_op {op : Operator} {f : Ct → Ct → Option R} (ho : OpB X (binaryOp op) f) (ha : BE X a ma) (hb : BE X b mb) : BE X (.BinOp a op b pos) (mOp f ma mb) := by
  obtain ⟨r, h1, h2⟩ := ho
  obtain ⟨t1, a1, a2⟩ := ha
  obtain ⟨t2, b1, b2⟩ := hb
  exact ⟨_, pe_op h1 a1 b1, se_op a2 b2 h2⟩
theorem be_cmp {op : CmpOp} {f : Ct → Ct → Option R} (ho : OpB X (compareOp op) f) (ha : BE X a ma) (hb : BE X b mb) (hm : behindInMarks op b = false := by first | exact nomark _ | with_unfolding_all rfl) : BE X (.Compare a [op] [b] pos) (mOp f ma mb) := by
  obtain ⟨r, h1, h2⟩ := ho
  obtain ⟨t1, a1, a2⟩ := ha
  obtain ⟨t2, b1, b2⟩ := hb
  exact ⟨_, pe_cmpR h1 a1 b1 hm, se_op a2 b2 h2⟩
theorem bt_cmp {op : CmpOp} {f : Ct → Ct → Option R} (ho : OpB X (compareOp op) f) (ha : BE X a ma) (hb : BE X b mb) (hm : behindInMarks op b = false := by first | exact nomark _ | with_unfolding_all rfl) : BT X (.Compare a [op] [b] pos) (mB (mOp f ma mb)) := by
  obtain ⟨r, h1, h2⟩ := ho
  obtain ⟨t1, a1, a2⟩ := ha
  obtain ⟨t2, b1, b2⟩ := hb
  exact ⟨_, pt_cmpR h1 a1 b1 hm, st_B (se_op a2 b2 h2)⟩
theorem be_chain {op op' : CmpOp} {f g : Ct → Ct → Option R} (ho : OpB X (compareOp op) f) (ho' : OpB X (compareOp op') g) (ha : BE X a ma) (hb : BE X b mb) (hc : BE X c mc) (hm : lastMarks [op, op'] [b, c] = false := by with_unfolding_all rfl) :
    BE X (.Compare a [op, op'] [b, c] pos) (mChain f g ma mb mc) := by
  obtain ⟨r, h1, h2⟩ := ho
  obtain ⟨r', h1', h2'⟩ := ho'
  obtain ⟨t1, a1, a2⟩ := ha
  obtain ⟨t2, b1, b2⟩ := hb
  obtain ⟨t3, c1, c2⟩ := hc
  exact ⟨_, pe_chain h1 h1' a1 b1 c1 hm, se_chain a2 b2 c2 h2 h2'⟩
theorem bt_chain {op op' : CmpOp} {f g : Ct → Ct → Option R} (ho : OpB X (compareOp op) f) (ho' : OpB X (compareOp op') g) (ha : BE X a ma) (hb : BE X b mb) (hc : BE X c mc) (hm : lastMarks [op, op'] [b, c] = false := by with_unfolding_all rfl) :
    BT X (.Compare a [op, op'] [b, c] pos) (mB (mChain f g ma mb mc)) := by
  obtain ⟨r, h1, h2⟩ := ho
  obtain ⟨r', h1', h2'⟩ := ho'
  obtain ⟨t1, a1, a2⟩ := ha
  obtain ⟨t2, b1, b2⟩ := hb
  obtain ⟨t3, c1, c2⟩ := hc
  exact ⟨_, pt_chain h1 h1' a1 b1 c1 hm, st_B (se_chain a2 b2 c2 h2 h2')⟩
/-- a test that is its value's truth -/
theorem bt_tru (ha : BE X a ma) (he : ∀ whole, isTrue a X.env whole = (do let v ← whole; standAt a.pos; holding [v] (truthy v)) := by intro _; rfl) : BT X a (mTru ma) := by
  obtain ⟨t, a1, a2⟩ := ha
  exact ⟨_, pt_truth a1 he, st_tru a2⟩
variable {rest : List Expr} {tr : MT}
theorem bw_and1 (ha : BT X a ta) : BW X (.BoolOp .And [a] pos) ta := let ⟨t, h1, h2⟩ := ha; ⟨t, pw_and1 h1, h2⟩
theorem bw_or1 (ha : BT X a ta) : BW X (.BoolOp .Or [a] pos) ta := let ⟨t, h1, h2⟩ := ha; ⟨t, pw_or1 h1, h2⟩
theorem bw_and (ha : BT X a ta) (hb : BW X (.BoolOp .And (b :: rest) pos) tr) : BW X (.BoolOp .And (a :: b :: rest) pos) (mAnd ta tr) := let ⟨t, h1, h2⟩ := ha; let ⟨u, h3, h4⟩ := hb; ⟨_, pw_and h1 h3, st_and h2 h4⟩
theorem bw_or (ha : BT X a ta) (hb : BW X (.BoolOp .Or (b :: rest) pos) tr) : BW X (.BoolOp .Or (a :: b :: rest) pos) (mOr ta tr) := let ⟨t, h1, h2⟩ := ha; let ⟨u, h3, h4⟩ := hb; ⟨_, pw_or h1 h3, st_or h2 h4⟩
theorem bt_w (ha : BW X a ta) : BT X a ta := let ⟨t, h1, h2⟩ := ha; ⟨t, h1.pt, h2⟩
theorem bt_not (ha : BT X a ta) : BT X (.UnaryOp .Not a pos) (mNot ta) := let ⟨t, h1, h2⟩ := ha; ⟨_, pt_not h1, st_not h2⟩
theorem be_one {op} (ha : BE X a ma) : BE X (.BoolOp op [a] pos) ma := let ⟨t, h1, h2⟩ := ha; ⟨_, pe_one h1, h2⟩
theorem be_and (ha : BE X a ma) (hb : BE X (.BoolOp .And (b :: rest) pos) mb) : BE X (.BoolOp .And (a :: b :: rest) pos) (mAndV ma mb) := let ⟨t, h1, h2⟩ := ha; let ⟨u, h3, h4⟩ := hb; ⟨_, pe_and h1 h3, se_andV h2 h4⟩
theorem be_or (ha : BE X a ma) (hb : BE X (.BoolOp .Or (b :: rest) pos) mb) : BE X (.BoolOp .Or (a :: b :: rest) pos) (mOrV ma mb) := let ⟨t, h1, h2⟩ := ha; let ⟨u, h3, h4⟩ := hb; ⟨_, pe_or h1 h3, se_orV h2 h4⟩
theorem be_not (ha : BE X a ma) : BE X (.UnaryOp .Not a pos) (mNotV ma) := let ⟨t, h1, h2⟩ := ha; ⟨_, pe_not h1, se_notV h2⟩
theorem be_if (hc : BT X c ta) (ha : BE X a ma) (hb : BE X b mb) : BE X (.IfExp c a b pos) (mIfE ta ma mb) := let ⟨t, h1, h2⟩ := hc; let ⟨u, h3, h4⟩ := ha; let ⟨w, h5, h6⟩ := hb; ⟨_, pe_ifExp h1 h3 h5, se_if h2 h4 h6⟩
variable {es : List Expr} {ml : ML}
theorem bl_nil : BL X [] lNil := ⟨_, pa_nil, sl_nil⟩
theorem bl_cons (ha : BE X a ma) (hr : BL X es ml) (hs : starEach (a :: es) X.env = (false, eval a X.env) :: starEach es X.env := by rfl) : BL X (a :: es) (lCons ma ml) := let ⟨t, h1, h2⟩ := ha; let ⟨u, h3, h4⟩ := hr; ⟨_, pa_cons h1 h3 hs, sl_cons h2 h4⟩
theorem be_tup {k} (h : BL X es ml) : BE X (.Tuple es k pos) (mTup ml) := let ⟨t, h1, h2⟩ := h; ⟨_, pe_tup h1, se_tup h2⟩
theorem be_lst (h : BL X es ml) : BE X (.List es pos) (mLst ml) := let ⟨t, h1, h2⟩ := h; ⟨_, pe_lst h1, se_lst h2⟩
end
end Py
namespace L2
open PySem PySem.Spec PyProof.Rows
theorem tuple_mulS (l : Addr) (items : Array Value) (n : Nat) (dd : Option Addr) (sl : Array (Option Value)) (x : Int) (u : Tok) (c0 : (decide (x < -(2 ^ 63)) || decide (x ≥ 2 ^ 63)) = false) (c1 : (items.isEmpty || x == 1) = true) :
    Meets (Builtin.«tuple.__mul__» ⟨[.ref l, .int x u], []⟩) (fun _ R s => s.heap.get? l = some { cls := .type "tuple", dict := dd, data := .seq items n, slots := sl } ∧ R (.ok (.ret (.ref l))) s) :=
  .of_wp fun prog w A R s h => by
    obtain ⟨hp, g, d, tk, os⟩ := s
    obtain ⟨hl, h⟩ := h
    have f1 := AutoSeq1.idx_int
    wp_walk using wpAny_loadPart' hl
    repeat (first
      | (refine wpAny_ite_false (decide_eq_false (by rw [c0]; exact Bool.false_ne_true)) ?_; wp_walk using wpAny_loadPart' hl)
      | (refine wpAny_ite_true (decide_eq_true c1) ?_; wp_walk using wpAny_loadPart' hl))
    exact ⟨_, rfl, h⟩
theorem tuple_mulE (l : Addr) (items : Array Value) (n : Nat) (dd : Option Addr) (sl : Array (Option Value)) (x : Int) (u : Tok) (c0 : (decide (x < -(2 ^ 63)) || decide (x ≥ 2 ^ 63)) = false) (c1 : (items.isEmpty || x == 1) = false) (c2 : (decide (x ≤ 0) || items.isEmpty) = true) :
    Meets (Builtin.«tuple.__mul__» ⟨[.ref l, .int x u], []⟩) (fun _ R s => s.heap.get? l = some { cls := .type "tuple", dict := dd, data := .seq items n, slots := sl } ∧
      R (.ok (.ret (Value.ref s.heap.objs.size))) { s with heap := s.heap.push { cls := Value.type "tuple", data := Data.seq #[] }, toks := s.toks }) :=
  .of_wp fun prog w A R s h => by
    obtain ⟨hp, g, d, tk, os⟩ := s
    obtain ⟨hl, h⟩ := h
    have f1 := AutoSeq1.idx_int
    wp_walk using wpAny_loadPart' hl
    repeat (first
      | (refine wpAny_ite_false (decide_eq_false (by rw [c0]; exact Bool.false_ne_true)) ?_; wp_walk using wpAny_loadPart' hl)
      | (refine wpAny_ite_false (decide_eq_false (by rw [c1]; exact Bool.false_ne_true)) ?_; wp_walk using wpAny_loadPart' hl)
      | (refine wpAny_ite_true (decide_eq_true c2) ?_; wp_walk using wpAny_loadPart' hl))
    exact ⟨_, rfl, h⟩
def rRepS (K : PySem.W.Frag) : R2 := fun x y H Q => ∃ l k xs, x = .ref l ∧ y = .int k ∧ SqT K H l xs ∧ (xs = [] ∨ k = 1) ∧ -(2 ^ 62) < k ∧ k ≤ 1000 ∧ Q (.ref l) H
def rRepE (K : PySem.W.Frag) : R2 := fun x y H Q => ∃ l k xs, x = .ref l ∧ y = .int k ∧ SqT K H l xs ∧ xs ≠ [] ∧ -(2 ^ 62) < k ∧ k ≤ 0 ∧ ∀ p, H p = none → Q (.ref p) (upd H p (.tup []))
theorem op_repS {X : Cx} : OpR X (binaryOp .Mult) (rRepS X.K) := by
  intro pins s σ H x y v u Q I rx ry h
  obtain ⟨l, k, xs, rfl, rfl, hT, hne, h1, h2, q⟩ := h
  cases rx
  obtain ⟨t, rfl⟩ := ry
  obtain ⟨its, r, ⟨⟨cls, dd, data, sl⟩, ho, hc, n, hd⟩, hs⟩ := I.tuple hT
  simp only at hc hd
  subst hc hd
  have c0 : (decide (k < -(2 ^ 63)) || decide (k ≥ 2 ^ 63)) = false := by
    rw [decide_eq_false (by omega), decide_eq_false (by omega)] <;> rfl
  have c1 : (its.toArray.isEmpty || k == 1) = true := by
    rcases hne with e | e
    · subst e
      have : its = [] := List.eq_nil_of_length_eq_zero (by rw [← r.length]; rfl)
      subst this
      rfl
    · subst e
      simp
  refine wpAny_binaryOp_repeat_ref (T := "tuple") (U := "int") (by decide) ⟨_, ho, rfl⟩ (fun s' => typeIs_int s' k t) noFill_tuple_mul F.fills_int_mul F.slot_int_rmul repeat_tuple F.slot_int_index.lookup
    (call_meets F.slot_int_rmul (typeIs_int s k t) F.entry_int_rmul (F.args_int_rmul_2 _ _) (int_rmul_tuple k t l its.toArray n dd sl)
      ⟨ho, rfl, ⟨_, ho, rfl⟩, call_meets F.slot_tuple_mul ⟨_, ho, rfl⟩ F.entry_tuple_mul (F.args_tuple_mul_2 _ _) (tuple_mulS l its.toArray n dd sl k t c0 c1) ⟨ho, ?_⟩⟩)
  exact ⟨.ref l, H, I, rfl, q⟩
theorem op_repE {X : Cx} : OpR X (binaryOp .Mult) (rRepE X.K) := by
  intro pins s σ H x y v u Q I rx ry h
  obtain ⟨l, k, xs, rfl, rfl, hT, hne, h1, h2, q⟩ := h
  cases rx
  obtain ⟨t, rfl⟩ := ry
  obtain ⟨its, r, ⟨⟨cls, dd, data, sl⟩, ho, hc, n, hd⟩, hs⟩ := I.tuple hT
  simp only at hc hd
  subst hc hd
  have hle : its.length = xs.length := r.length.symm
  have hn : its ≠ [] := fun e => hne (by
    rw [e] at hle
    exact List.eq_nil_of_length_eq_zero hle.symm)
  have hi : its.toArray.isEmpty = false := by
    cases its with
    | nil => exact absurd rfl hn
    | cons a b => rfl
  have c0 : (decide (k < -(2 ^ 63)) || decide (k ≥ 2 ^ 63)) = false := by
    rw [decide_eq_false (by omega), decide_eq_false (by omega)] <;> rfl
  have c1 : (its.toArray.isEmpty || k == 1) = false := by
    rw [hi, Bool.false_or]
    exact beq_eq_false_iff_ne.mpr (by omega)
  have c2 : (decide (k ≤ 0) || its.toArray.isEmpty) = true := by
    rw [decide_eq_true h2]
    rfl
  refine wpAny_binaryOp_repeat_ref (T := "tuple") (U := "int") (by decide) ⟨_, ho, rfl⟩ (fun s' => typeIs_int s' k t) noFill_tuple_mul F.fills_int_mul F.slot_int_rmul repeat_tuple F.slot_int_index.lookup
    (call_meets F.slot_int_rmul (typeIs_int s k t) F.entry_int_rmul (F.args_int_rmul_2 _ _) (int_rmul_tuple k t l its.toArray n dd sl)
      ⟨ho, rfl, ⟨_, ho, rfl⟩, call_meets F.slot_tuple_mul ⟨_, ho, rfl⟩ F.entry_tuple_mul (F.args_tuple_mul_2 _ _) (tuple_mulE l its.toArray n dd sl k t c0 c1 c2) ⟨ho, ?_⟩⟩)
  refine ⟨.ref s.heap.objs.size, _, I.laid (t' := s.toks) (o := .tup []) (fun b ob q => Heap.get?_push_of_some _ q) (Nat.le_refl _) ?_, rfl, q _ (I.hok.fresh (Nat.le_refl _))⟩
  exact ⟨by rw [sizeLine_eq]; exact Nat.zero_le _, [], .nil, IsTup.new _ _⟩
end L2
/-! Py3: operators and built-ins by contents. -/
namespace Py
open PySem PySem.Spec PyProof.Rows L2

/-- a division of any size has room -/
structure DivOk (X : Cx) : Prop where
  seer : X.base.NoSeer
  tree : X.prog.given.tree = none
  deep : X.A.depth + Builtin.pylongFrames < recursionLimit
  top : ∃ env l, X.stack = env :: l ∧ env.scope.isGenerator = false ∧ env.scope.isCoroutine = false ∧ env.builtins = builtinsNs ∧ env.globals = mainGlobals
theorem DivOk.room {X : Cx} (D : DivOk X) {pins : List (Addr × Obj)} {σ : L2.St} {H : Hp} {s : Shared} (I : Inv X pins σ H s) : PylongRoom (model X.prog X.w) X.A s := by
  obtain ⟨env, l, e, h1, h2, h3, h4⟩ := D.top
  exact PylongRoom.of I.nolimit D.deep (SeerAt.of (D.seer.keeps I.bk) D.tree (by rw [I.ok.frames, e]) h1 h2 h3 h4)

section
variable {K : PySem.W.Frag} {Hf H Hf' H' : Hp} {X : Cx}
/-- a value that is there already -/
theorem old {v : PV} {u : V} {Q : VK} (e : Ex Hf H) (d : Dp K Hf u v) (q : ∀ u Hf' H', Step Nobody Hf H Hf' H' → RepR K Hf' H' H [] (.val v) u → Q u H') : Q u H := q u Hf H (.refl e) d
theorem newL {us : List V} {vs : List PV} {Q : VK} (e : Ex Hf H) (d : DpAll K Hf us vs) (q : ∀ u Hf' H', Step Nobody Hf H Hf' H' → RepR K Hf' H' H [] (.new (.lst vs)) u → Q u H') : ∀ p, H p = none → Q (.ref p) (upd H p (.lst us)) := fun p hp => by
  obtain ⟨S, fp⟩ := new_ob (o := .lst us) e hp
  exact q _ _ _ S ⟨p, rfl, hp, fp, us, upd_same, d⟩
theorem newT {us : List V} {vs : List PV} {Q : VK} (e : Ex Hf H) (d : DpAll K Hf us vs) (q : ∀ u Hf' H', Step Nobody Hf H Hf' H' → RepR K Hf' H' H [] (.val (.tuple vs)) u → Q u H') : ∀ p, H p = none → Q (.ref p) (upd H p (.tup us)) := fun p hp => by
  obtain ⟨S, d'⟩ := new_tup e d hp
  exact q _ _ _ S d'
theorem opB_or {fn : Value → Value → Sem Value} {r r' : R2} {f : Ct → Ct → Option R} (h : OpR X fn r) (h' : OpR X fn r') (hs : OpS X.K (fun x y H Q => r x y H Q ∨ r' x y H Q) f) : OpB X fn f := ⟨_, h.or h', hs⟩
theorem opB_int : ∀ {fn : Value → Value → Sem Value} {C : Int → Int → Prop} {g : Int → Int → V} {f : Ct → Ct → Option R}, OpR X fn (rI C g) →
    (∀ c d z, f c d = some z → ∃ i j v, c = .pv (.int i) ∧ d = .pv (.int j) ∧ C i j ∧ z = .val v ∧ ∀ Hf, Dp X.K Hf (g i j) v) → OpB X fn f := fun h hf => ⟨_, h, fun Hf H c d x y z e hc hd e5 Q q => by
  obtain ⟨i, j, v, rfl, rfl, hC, rfl, hv⟩ := hf c d z e5
  cases hc
  cases hd
  exact ⟨i, j, rfl, rfl, hC, old e (hv Hf) q⟩⟩
theorem opB_int0 {fn : Value → Value → Sem Value} {g : Int → Int → V} {f : Ct → Ct → Option R} (h : OpR X fn (rI0 g))
    (hf : ∀ c d z, f c d = some z → ∃ i j v, c = .pv (.int i) ∧ d = .pv (.int j) ∧ z = .val v ∧ ∀ Hf, Dp X.K Hf (g i j) v) : OpB X fn f := ⟨_, h, fun Hf H c d x y z e hc hd e5 Q q => by
  obtain ⟨i, j, v, rfl, rfl, rfl, hv⟩ := hf c d z e5
  cases hc
  cases hd
  exact ⟨i, j, rfl, rfl, old e (hv Hf) q⟩⟩
theorem cI_some {p : Int → Int → Bool} {c d : Ct} {z : R} (h : cI p c d = some z) : ∃ i j v, c = .pv (.int i) ∧ d = .pv (.int j) ∧ z = .val v ∧ ∀ Hf, Dp K Hf (.bl (p i j)) v := by
  unfold cI at h
  split at h
  · cases h; exact ⟨_, _, _, rfl, rfl, rfl, fun _ => .bl _⟩
  · cases h
theorem ob_lt : OpB X (compareOp .Lt) fLt := opB_int0 op_lt fun _ _ _ h => cI_some h
theorem ob_le : OpB X (compareOp .LtE) fLe := opB_int0 op_le fun _ _ _ h => cI_some h
theorem ob_gt : OpB X (compareOp .Gt) fGt := opB_int0 op_gt fun _ _ _ h => cI_some h
theorem ob_ge : OpB X (compareOp .GtE) fGe := opB_int0 op_ge fun _ _ _ h => cI_some h
theorem ob_sub : OpB X (binaryOp .Sub) fSub := opB_int0 op_sub fun c d z h => by
  unfold fSub at h
  split at h
  · cases h; exact ⟨_, _, _, rfl, rfl, rfl, fun _ => .int _⟩
  · cases h
theorem ob_isub : OpB X (inplaceOp .Sub) fSub := opB_int0 iop_sub fun c d z h => by
  unfold fSub at h
  split at h
  · cases h; exact ⟨_, _, _, rfl, rfl, rfl, fun _ => .int _⟩
  · cases h
def rAddAll (K : PySem.W.Frag) : R2 := fun x y H Q => rI0 (fun i j => .int (i + j)) x y H Q ∨ (∃ i j, x = .str i ∧ y = .str j ∧ i.length + j.length ≤ sizeLine ∧ Q (.str (i ++ j)) H) ∨ rCatA K x y H Q ∨ rCat x y H Q
theorem add_all {fn : Value → Value → Sem Value} (h1 : OpR X fn (rI0 fun i j => .int (i + j))) (h2 : OpR X fn (fun x y H Q => ∃ i j, x = .str i ∧ y = .str j ∧ i.length + j.length ≤ sizeLine ∧ Q (.str (i ++ j)) H)) (h3 : OpR X fn (rCatA X.K)) (h4 : OpR X fn rCat) :
    OpR X fn (rAddAll X.K) := h1.or (h2.or (h3.or h4))
theorem add_S : OpS K (rAddAll K) fAdd := fun Hf H c d x y z e hc hd e5 Q q => by
  unfold fAdd at e5
  split at e5
  · cases e5; cases hc; cases hd; exact .inl ⟨_, _, rfl, rfl, old e (.int _) q⟩
  · split at e5
    · rename_i hz; cases e5; cases hc; cases hd; exact .inr (.inl ⟨_, _, rfl, rfl, by rw [← line_eq]; exact hz, old e (.str _) q⟩)
    · cases e5
  · rename_i xs ys
    split at e5
    · rename_i hz
      cases e5
      cases hc with
      | @tup a us _ hs ha =>
        cases hd with
        | @tup b ws _ hs2 hb =>
          refine .inr (.inr (.inl ⟨a, b, us, ws, rfl, rfl, ex_t e hs, ex_t e hs2, by rw [dps_len ha, dps_len hb, ← line_eq]; exact hz, fun h0 => ?_, fun _ h0 => ?_, fun _ _ => newT e (dps_app ha hb) q⟩))
          · have e0 : xs = [] := List.eq_nil_of_length_eq_zero (by rw [← dps_len ha, h0]; rfl)
            rw [e0] at q
            exact old e (.tup hs2 hb) q
          · have e0 : ys = [] := List.eq_nil_of_length_eq_zero (by rw [← dps_len hb, h0]; rfl)
            rw [e0, List.append_nil] at q
            exact old e (.tup hs ha) q
    · cases e5
  · rename_i xs ys
    split at e5
    · rename_i hz
      cases e5
      obtain ⟨a, rfl, us, h1, d1⟩ := hc
      obtain ⟨b, rfl, ws, h2, d2⟩ := hd
      exact .inr (.inr (.inr ⟨a, b, us, ws, rfl, rfl, h1, h2, by rw [dps_len d1, dps_len d2, ← line_eq]; exact hz, newL e (dps_app d1 d2) q⟩))
    · cases e5
  all_goals cases e5
theorem ob_add : OpB X (binaryOp .Add) fAdd := ⟨_, add_all op_add op_add_str op_catA op_cat, add_S⟩
theorem mulOk_ok {i j : Int} (h : mulOk i j = true) : IntMulOk i j := by
  have h' : i.natAbs.log2 + j.natAbs.log2 < 100000000 := of_decide_eq_true h
  have b : ∀ x : Int, Builtin.Int.intBits x ≤ x.natAbs.log2 + 1 := fun x => by
    unfold Builtin.Int.intBits
    split <;> omega
  have h1 := b i
  have h2 := b j
  have e : bitsLine = 134217728 := by decide
  unfold IntMulOk
  intro z
  have z2 := (Bool.and_eq_true_iff.mp z).2
  unfold Builtin.Int.intTooBig at z2
  have z3 := of_decide_eq_true z2
  rw [e] at z3
  omega
theorem op_mulB : OpR X (binaryOp .Mult) (rI (fun i j => mulOk i j = true) fun i j => .int (i * j)) := opI fun _ _ _ _ _ _ _ hc q => mul_int q (mulOk_ok hc)
theorem iop_mulB : OpR X (inplaceOp .Mult) (rI (fun i j => mulOk i j = true) fun i j => .int (i * j)) := opI fun _ _ _ _ _ _ _ hc q => imul_int q (mulOk_ok hc)
theorem mul_S : OpS K (fun x y H Q => rI (fun i j => mulOk i j = true) (fun i j => .int (i * j)) x y H Q ∨ rRep x y H Q ∨ rRepT K x y H Q ∨ rRepS K x y H Q ∨ rRepE K x y H Q) fMul := fun Hf H c d x y z e hc hd e5 Q q => by
  unfold fMul at e5
  split at e5
  · split at e5
    · rename_i hz; cases e5; cases hc; cases hd; exact .inl ⟨_, _, rfl, rfl, hz, old e (.int _) q⟩
    · cases e5
  · rename_i xs k
    split at e5
    · rename_i hz
      cases e5
      cases hd
      have hc' := hc
      cases hc with
      | @tup a us _ hs ha =>
        by_cases h1 : xs = [] ∨ k = 1
        · have eq : (List.replicate k.toNat xs).flatten = xs := by
            rcases h1 with h1 | h1
            · subst h1; simp
            · subst h1; simp
          rw [eq] at q
          refine .inr (.inr (.inr (.inl ⟨a, k, us, rfl, rfl, ex_t e hs, ?_, hz.1, hz.2.1, old e hc' q⟩)))
          rcases h1 with h1 | h1
          · left
            subst h1
            exact List.eq_nil_of_length_eq_zero (by rw [dps_len ha]; rfl)
          · exact .inr h1
        · have hne : us ≠ [] := fun z => h1 (.inl (List.eq_nil_of_length_eq_zero (by rw [← dps_len ha, z]; rfl)))
          by_cases h2 : 2 ≤ k
          · exact .inr (.inr (.inl ⟨a, k, us, rfl, rfl, ex_t e hs, hne, h2, hz.2.1, by rw [dps_len ha]; exact hz.2.2, newT e (dps_rep ha _) q⟩))
          · have h3 : k ≤ 0 := by
              have : k ≠ 1 := fun e => h1 (.inr e)
              omega
            have eq : (List.replicate k.toNat xs).flatten = [] := by
              have : k.toNat = 0 := by omega
              rw [this]; rfl
            rw [eq] at q
            exact .inr (.inr (.inr (.inr ⟨a, k, us, rfl, rfl, ex_t e hs, hne, hz.1, h3, newT e .nil q⟩)))
    · cases e5
  · rename_i xs k
    split at e5
    · rename_i hz
      cases e5
      obtain ⟨a, rfl, us, h1, d1⟩ := hc
      cases hd
      exact .inr (.inl ⟨a, k, us, rfl, rfl, h1, by omega, by omega, by rw [dps_len d1, ← line_eq]; exact hz.1, newL e (dps_rep d1 _) q⟩)
    · cases e5
  all_goals cases e5
theorem ob_mul : OpB X (binaryOp .Mult) fMul := ⟨_, op_mulB.or (op_rep.or (op_repT.or (op_repS.or op_repE))), mul_S⟩
theorem op_divB (D : DivOk X) : OpR X (binaryOp .FloorDiv) (rI (fun _ j => j ≠ 0) fun i j => .int (i.fdiv j)) := by
  intro pins s σ H x y v u Q I rx ry h
  obtain ⟨i, j, rfl, rfl, hc, q⟩ := h
  obtain ⟨t, rfl⟩ := rx
  obtain ⟨t', rfl⟩ := ry
  exact floordiv_int hc ⟨.int (i.fdiv j), H, I.tok _, ⟨_, rfl⟩, q⟩ (.inr (D.room I))
theorem iop_divB (D : DivOk X) : OpR X (inplaceOp .FloorDiv) (rI (fun _ j => j ≠ 0) fun i j => .int (i.fdiv j)) := by
  intro pins s σ H x y v u Q I rx ry h
  obtain ⟨i, j, rfl, rfl, hc, q⟩ := h
  obtain ⟨t, rfl⟩ := rx
  obtain ⟨t', rfl⟩ := ry
  exact ifloordiv_int hc ⟨.int (i.fdiv j), H, I.tok _, ⟨_, rfl⟩, q⟩ (.inr (D.room I))
theorem div_some {c d : Ct} {z : R} (h : fDiv c d = some z) : ∃ i j v, c = .pv (.int i) ∧ d = .pv (.int j) ∧ j ≠ 0 ∧ z = .val v ∧ ∀ Hf, Dp K Hf (.int (i.fdiv j)) v := by
  unfold fDiv at h
  split at h
  · split at h
    · cases h
    · rename_i hj; cases h; exact ⟨_, _, _, rfl, rfl, hj, rfl, fun _ => .int _⟩
  · cases h
theorem ob_div (D : DivOk X) : OpB X (binaryOp .FloorDiv) fDiv := opB_int (op_divB D) fun _ _ _ h => div_some h
theorem ob_mod : OpB X (binaryOp .Mod) fMod := opB_int op_modN fun c d z h => by
  unfold fMod at h
  split at h
  · split at h
    · cases h
    · rename_i hj; cases h; exact ⟨_, _, _, rfl, rfl, hj, rfl, fun _ => .int _⟩
  · cases h
theorem ob_pow : OpB X (binaryOp .Pow) fPow := opB_int op_pow fun c d z h => by
  unfold fPow at h
  split at h
  · split at h
    · rename_i hj; cases h; exact ⟨_, _, _, rfl, rfl, hj, rfl, fun _ => .int _⟩
    · cases h
  · cases h
/-! ### == -/
theorem eqD_S {neg : Bool} : OpS K (fun x y H Q => (if neg then rNe else rEq) x y H Q ∨ (if neg then rNeD K else rEqD K) x y H Q) (eqD neg) := fun Hf H c d x y z e hc hd e5 Q q => by
  unfold eqD at e5
  have sc : ∀ {a b : V} {k : Bool}, scal a b = true → decide (a = b) = k → (∀ u Hf' H', Step Nobody Hf H Hf' H' → RepR K Hf' H' H [] (.val (.bool (neg ^^ k))) u → Q u H') → (if neg then rNe else rEq) a b H Q := fun {a b k} h1 h2 q => by
    cases neg with
    | true => exact ⟨h1, by rw [h2]; have := old e (.bl (true ^^ k)) q; simpa using this⟩
    | false => exact ⟨h1, by rw [h2]; have := old e (.bl (false ^^ k)) q; simpa using this⟩
  split at e5
  · cases e5; cases hc; cases hd; exact .inl (sc rfl (by simp) q)
  · cases e5; cases hc; cases hd; exact .inl (sc rfl dec_bl q)
  · cases e5; cases hc; cases hd; exact .inl (sc rfl (by simp) q)
  · split at e5
    · rename_i hz
      cases e5
      refine .inr ?_
      cases neg with
      | true => exact ⟨_, _, dp_mono e _ _ hc, dp_mono e _ _ hd, hz.1, hz.2, by have := old e (.bl _) q; simpa using this⟩
      | false => exact ⟨_, _, dp_mono e _ _ hc, dp_mono e _ _ hd, hz.1, hz.2, by have := old e (.bl _) q; simpa using this⟩
    · cases e5
  · cases e5
theorem ob_eq (hu : X.A.units + 64 < cLine) : OpB X (compareOp .Eq) fEq := ⟨_, op_eq.or (op_eqD hu), eqD_S (neg := false)⟩
theorem ob_ne (hu : X.A.units + 64 < cLine) : OpB X (compareOp .NotEq) fNe := ⟨_, op_ne.or (op_neD hu), eqD_S (neg := true)⟩
theorem isNone_of {v : PV} {u : V} (d : Dp K Hf u v) : decide (u = .non) = isNone v := by
  cases d <;> rfl
theorem is_S {neg : Bool} : OpS K (fun x y H Q => y = .non ∧ Q (.bl (neg ^^ decide (x = .non))) H) (fIs neg) := fun Hf H c d x y z e hc hd e5 Q q => by
  unfold fIs at e5
  split at e5
  · cases e5
    cases hd
    refine ⟨rfl, ?_⟩
    rw [isNone_of hc]
    exact old e (.bl _) q
  · cases e5
    cases hd
    obtain ⟨p, rfl, _⟩ := hc
    refine ⟨rfl, ?_⟩
    have := old e (.bl neg) q
    simpa using this
  · cases e5
theorem ob_is : OpB X (compareOp .Is) (fIs false) := by
  refine ⟨_, ?_, is_S⟩
  have h := op_isN (X := X)
  intro pins s σ H x y v u Q I rx ry hq
  exact h pins s σ H x y v u Q I rx ry ⟨hq.1, by simpa using hq.2⟩
theorem ob_isNot : OpB X (compareOp .IsNot) (fIs true) := by
  refine ⟨_, ?_, is_S⟩
  have h := op_notN (X := X)
  intro pins s σ H x y v u Q I rx ry hq
  exact h pins s σ H x y v u Q I rx ry ⟨hq.1, by simpa using hq.2⟩

/-! ### one place -/
theorem be_neg {a : Expr} {ma : M} {pos : Pos} (ha : BE X a ma) : BE X (.UnaryOp .USub a pos) (mUn fNeg ma) := by
  obtain ⟨t, h1, h2⟩ := ha
  refine ⟨_, pe_un un_neg h1, se_un h2 fun Hf H c x z e hc e5 Q q => ?_⟩
  unfold fNeg at e5
  split at e5
  · cases e5; cases hc; exact ⟨_, rfl, old e (.int _) q⟩
  · cases e5
/-- a built-in of one argument -/
theorem se_call1 {te : TE} {m : M} {r : List V → Hp → VK → Prop} {f : Ct → Option R} (ha : SE K te m) (hr : UnS K (fun x H Q => r [x] H Q) f) : SE K (tCB r (tCons te tNil)) (mUn f m) := se_un ha hr
theorem se_call2 {te tu : TE} {m n : M} {r : List V → Hp → VK → Prop} {f : Ct → Ct → Option R} (ha : SE K te m) (hb : SE K tu n) (hr : OpS K (fun x y H Q => r [x, y] H Q) f) : SE K (tCB r (tCons te (tCons tu tNil))) (mOp f m n) := se_op ha hb hr
structure C1 (X : Cx) (f : Value) (g : Ct → Option R) : Prop where
  ex : ∃ r, CallR X f r ∧ UnS X.K (fun x H Q => r [x] H Q) g
structure C2 (X : Cx) (f : Value) (g : Ct → Ct → Option R) : Prop where
  ex : ∃ r, CallR X f r ∧ OpS X.K (fun x y H Q => r [x, y] H Q) g
variable {a b : Expr} {ma mb : M} {x : Str} {p pos : Pos} {id : String} {g : Ct → Option R} {g2 : Ct → Ct → Option R}
theorem be_b1 (hc : C1 X (.builtin id) g) (hg : Gl X x) (hm : X.mg x = none) (hv : bootBuiltins x = some (.builtin id)) (ha : BE X a ma) (hn : x ≠ "__name__" := by decide) (hdb : (x == ("__debug__" : Str)) = false := by decide)
    (hs : starEach [a] X.env = (false, eval a X.env) :: starEach [] X.env := by rfl) (hp : (backTo pos (starEach [] X.env)).any (·.1) = false := by rfl) : BE X (.Call (.Name x p) [a] [] pos) (mUn g ma) := by
  obtain ⟨r, h1, h2⟩ := hc
  obtain ⟨t, a1, a2⟩ := ha
  exact ⟨_, pe_callB h1 hg hm hv (pa_cons a1 pa_nil hs) hn hdb hs hp, se_call1 a2 h2⟩
theorem be_t1 {T : String} (hc : C1 X (.type T) g) (hg : Gl X x) (hm : X.mg x = none) (hv : bootBuiltins x = some (.type T)) (ha : BE X a ma) (hn : x ≠ "__name__" := by decide) (hdb : (x == ("__debug__" : Str)) = false := by decide)
    (hs : starEach [a] X.env = (false, eval a X.env) :: starEach [] X.env := by rfl) (hp : (backTo pos (starEach [] X.env)).any (·.1) = false := by rfl) : BE X (.Call (.Name x p) [a] [] pos) (mUn g ma) := by
  obtain ⟨r, h1, h2⟩ := hc
  obtain ⟨t, a1, a2⟩ := ha
  exact ⟨_, pe_callTy h1 hg hm hv (pa_cons a1 pa_nil hs) hn hdb hs hp, se_call1 a2 h2⟩
theorem be_b2 (hc : C2 X (.builtin id) g2) (hg : Gl X x) (hm : X.mg x = none) (hv : bootBuiltins x = some (.builtin id)) (ha : BE X a ma) (hb : BE X b mb) (hn : x ≠ "__name__" := by decide) (hdb : (x == ("__debug__" : Str)) = false := by decide)
    (hs : starEach [a, b] X.env = (false, eval a X.env) :: starEach [b] X.env := by rfl) (hs2 : starEach [b] X.env = (false, eval b X.env) :: starEach [] X.env := by rfl) (hp : (backTo pos (starEach [b] X.env)).any (·.1) = false := by rfl) : BE X (.Call (.Name x p) [a, b] [] pos) (mOp g2 ma mb) := by
  obtain ⟨r, h1, h2⟩ := hc
  obtain ⟨t, a1, a2⟩ := ha
  obtain ⟨u, b1, b2⟩ := hb
  exact ⟨_, pe_callB h1 hg hm hv (pa_cons a1 (pa_cons b1 pa_nil hs2) hs) hn hdb hs hp, se_call2 a2 b2 h2⟩
/-- gcd, imported -/
theorem be_gcd (hg : Gl X x) (hm : X.mg x = some (.builtin "math.gcd")) (ha : BE X a ma) (hb : BE X b mb) (hdb : (x == ("__debug__" : Str)) = false := by decide)
    (hs : starEach [a, b] X.env = (false, eval a X.env) :: starEach [b] X.env := by rfl) (hs2 : starEach [b] X.env = (false, eval b X.env) :: starEach [] X.env := by rfl) (hp : (backTo pos (starEach [b] X.env)).any (·.1) = false := by rfl) : BE X (.Call (.Name x p) [a, b] [] pos) (mOp fGcd ma mb) := by
  obtain ⟨t, a1, a2⟩ := ha
  obtain ⟨u, b1, b2⟩ := hb
  refine ⟨_, pe_callBfun cr_gcd hg hm (pa_cons a1 (pa_cons b1 pa_nil hs2) hs) hdb hs hp, se_call2 a2 b2 fun Hf H c d x y z e hc hd e5 Q q => ?_⟩
  unfold fGcd at e5
  split at e5
  · cases e5; cases hc; cases hd; exact ⟨_, _, rfl, old e (.int _) q⟩
  · cases e5

theorem c_len : C1 X (.builtin "len") fLen := ⟨_, call_len, fun Hf H c x z e hc e5 Q q => by
  unfold fLen at e5
  split at e5
  · cases e5; cases hc with | tup hs ha => exact ⟨_, _, rfl, .inr ⟨_, ex_t e hs, rfl⟩, by rw [dps_len ha]; exact old e (.int _) q⟩
  · cases e5; cases hc with | lst hs ha => exact ⟨_, _, rfl, .inl ⟨_, ex_l e hs, rfl⟩, by rw [dps_len ha]; exact old e (.int _) q⟩
  · split at e5
    · rename_i hz; cases e5; cases hc; exact ⟨_, _, rfl, ⟨by rw [← line_eq]; exact hz, rfl⟩, old e (.int _) q⟩
    · cases e5
  · cases e5; obtain ⟨a, rfl, us, h1, d1⟩ := hc; exact ⟨_, _, rfl, .inl ⟨_, SqL.of h1, rfl⟩, by rw [dps_len d1]; exact old e (.int _) q⟩
  · cases e5⟩
theorem c_int : C1 X (.type "int") fInt := ⟨_, call_int1, fun Hf H c x z e hc e5 Q q => by
  unfold fInt at e5
  split at e5
  · cases e5; cases hc; exact .inl ⟨_, rfl, old e (.int _) q⟩
  · cases e5; cases hc; exact .inr ⟨_, rfl, old e (.int _) q⟩
  · cases e5⟩
theorem abs_if (i : Int) : (if i < 0 then -i else i) = (i.natAbs : Int) := by split <;> omega
theorem c_abs : C1 X (.builtin "abs") fAbs := ⟨_, call_abs, fun Hf H c x z e hc e5 Q q => by
  unfold fAbs at e5
  split at e5
  · cases e5; cases hc; exact ⟨_, rfl, by rw [abs_if]; exact old e (.int _) q⟩
  · cases e5⟩
theorem c_min2 (hc : X.calm = true) : C2 X (.builtin "min") fMin2 := ⟨_, call_min2 hc, fun Hf H c d x y z e hc hd e5 Q q => by
  unfold fMin2 at e5
  split at e5
  · cases e5; cases hc; cases hd; exact ⟨_, _, rfl, old e (.int _) q⟩
  · cases e5⟩
theorem c_max2 (hc : X.calm = true) : C2 X (.builtin "max") fMax2 := ⟨_, call_max2 hc, fun Hf H c d x y z e hc hd e5 Q q => by
  unfold fMax2 at e5
  split at e5
  · cases e5; cases hc; cases hd; exact ⟨_, _, rfl, old e (.int _) q⟩
  · cases e5⟩
theorem c_tuple : C1 X (.type "tuple") fTuple := ⟨_, call_tuple_of, fun Hf H c x z e hc e5 Q q => by
  unfold fTuple at e5
  split at e5
  · cases e5; cases hc with | tup hs ha => exact ⟨_, _, rfl, .inr ⟨ex_t e hs, old e (.tup hs ha) q⟩⟩
  · cases e5; cases hc with | lst hs ha => exact ⟨_, _, rfl, .inl ⟨ex_l e hs, newT e ha q⟩⟩
  · cases e5; obtain ⟨a, rfl, us, h1, d1⟩ := hc; exact ⟨_, _, rfl, .inl ⟨SqL.of h1, newT e d1 q⟩⟩
  · cases e5⟩
theorem c_list : C1 X (.type "list") fList := ⟨_, call_list_of, fun Hf H c x z e hc e5 Q q => by
  unfold fList at e5
  split at e5
  · cases e5; cases hc with | tup hs ha => exact ⟨_, _, rfl, .inr (ex_t e hs), newL e ha q⟩
  · cases e5; cases hc with | lst hs ha => exact ⟨_, _, rfl, .inl (ex_l e hs), newL e ha q⟩
  · cases e5; obtain ⟨a, rfl, us, h1, d1⟩ := hc; exact ⟨_, _, rfl, .inl (SqL.of h1), newL e d1 q⟩
  · cases e5⟩
/-! lists of ints, of bools -/
theorem lst_ok {c : Ct} {xs : List PV} {u : V} (e : Ex Hf H) (hc : RepC K Hf H c u) (h : c.lst? = some xs) : ∃ a us, u = .ref a ∧ SqL K H a us ∧ DpAll K Hf us xs := by
  unfold Ct.lst? at h
  split at h
  · cases h; cases hc with | lst hs ha => exact ⟨_, _, rfl, ex_l e hs, ha⟩
  · cases h; obtain ⟨a, rfl, us, h1, d1⟩ := hc; exact ⟨_, _, rfl, SqL.of h1, d1⟩
  · cases h
theorem ints_ok : ∀ {xs : List PV} {ns : List Int} {us : List V}, ints? xs = some ns → DpAll K Hf us xs → us = ns.map V.int
  | [], ns, us, h, d => by cases d; simp [ints?] at h; subst h; rfl
  | x :: xs, ns, us, h, d => by
    simp only [ints?, List.mapM_cons, Option.bind_eq_bind, Option.bind_eq_some_iff, Option.pure_def, Option.some.injEq] at h
    obtain ⟨n, h1, ms, h2, rfl⟩ := h
    cases d with
    | cons d1 d2 =>
      unfold intV? at h1
      split at h1
      · cases h1; cases d1; rw [ints_ok (ns := ms) h2 d2]; rfl
      · cases h1
theorem bools_ok : ∀ {xs : List PV} {ns : List Bool} {us : List V}, bools? xs = some ns → DpAll K Hf us xs → us = ns.map V.bl
  | [], ns, us, h, d => by cases d; simp [bools?] at h; subst h; rfl
  | x :: xs, ns, us, h, d => by
    simp only [bools?, List.mapM_cons, Option.bind_eq_bind, Option.bind_eq_some_iff, Option.pure_def, Option.some.injEq] at h
    obtain ⟨n, h1, ms, h2, rfl⟩ := h
    cases d with
    | cons d1 d2 =>
      unfold boolV? at h1
      split at h1
      · cases h1; cases d1; rw [bools_ok (ns := ms) h2 d2]; rfl
      · cases h1
theorem dps_ints : ∀ ns : List Int, DpAll K Hf (ns.map V.int) (ns.map PyData.int)
  | [] => .nil
  | n :: ns => .cons (.int n) (dps_ints ns)
theorem c_sum (hc : X.calm = true) : C1 X (.builtin "sum") fSum := ⟨_, cr_sum hc, fun Hf H c x z e hc e5 Q q => by
  simp only [fSum, Option.bind_eq_some_iff, Option.map_eq_some_iff] at e5
  obtain ⟨xs, h1, ns, h2, rfl⟩ := e5
  obtain ⟨a, us, rfl, hs, d⟩ := lst_ok e hc h1
  rw [ints_ok h2 d] at hs
  exact ⟨a, ns, rfl, hs, old e (.int _) q⟩⟩
theorem c_all (hc : X.calm = true) : C1 X (.builtin "all") fAll := ⟨_, cr_all hc, fun Hf H c x z e hc e5 Q q => by
  simp only [fAll, Option.bind_eq_some_iff, Option.map_eq_some_iff] at e5
  obtain ⟨xs, h1, ns, h2, rfl⟩ := e5
  obtain ⟨a, us, rfl, hs, d⟩ := lst_ok e hc h1
  rw [bools_ok h2 d] at hs
  exact ⟨a, ns, rfl, hs, old e (.bl _) q⟩⟩
theorem c_any (hc : X.calm = true) : C1 X (.builtin "any") fAny := ⟨_, cr_any hc, fun Hf H c x z e hc e5 Q q => by
  simp only [fAny, Option.bind_eq_some_iff, Option.map_eq_some_iff] at e5
  obtain ⟨xs, h1, ns, h2, rfl⟩ := e5
  obtain ⟨a, us, rfl, hs, d⟩ := lst_ok e hc h1
  rw [bools_ok h2 d] at hs
  exact ⟨a, ns, rfl, hs, old e (.bl _) q⟩⟩
theorem maxF_ge : ∀ (r : List Int) (x y : Int), (y ≤ x ∨ y ∈ r) → y ≤ r.foldl max x
  | [], x, y, h => by rcases h with h | h; exact h; cases h
  | a :: r, x, y, h => by
    refine maxF_ge r (max x a) y ?_
    rcases h with h | h
    · exact .inl (by omega)
    · rcases List.mem_cons.mp h with h | h
      · exact .inl (by omega)
      · exact .inr h
theorem maxL_ge {ns : List Int} {y : Int} (h : y ∈ ns) : y ≤ maxL ns := by
  cases ns with
  | nil => cases h
  | cons x r =>
    rcases List.mem_cons.mp h with h | h
    · exact maxF_ge r x y (.inl (by omega))
    · exact maxF_ge r x y (.inr h)
theorem maxF_mem : ∀ (r : List Int) (x : Int), r.foldl max x = x ∨ r.foldl max x ∈ r
  | [], x => .inl rfl
  | a :: r, x => by
    rcases maxF_mem r (max x a) with h | h
    · by_cases hx : a ≤ x
      · exact .inl (by rw [List.foldl_cons, h]; omega)
      · exact .inr (by rw [List.foldl_cons, h]; have : max x a = a := by omega
                       rw [this]; exact List.mem_cons_self)
    · exact .inr (List.mem_cons_of_mem _ h)
theorem maxL_mem {ns : List Int} (h : ns ≠ []) : maxL ns ∈ ns := by
  cases ns with
  | nil => exact absurd rfl h
  | cons x r =>
    rcases maxF_mem r x with e | e
    · show r.foldl max x ∈ _; rw [e]; exact List.mem_cons_self
    · exact List.mem_cons_of_mem _ e
theorem minF_le : ∀ (r : List Int) (x y : Int), (x ≤ y ∨ y ∈ r) → r.foldl min x ≤ y
  | [], x, y, h => by rcases h with h | h; exact h; cases h
  | a :: r, x, y, h => by
    refine minF_le r (min x a) y ?_
    rcases h with h | h
    · exact .inl (by omega)
    · rcases List.mem_cons.mp h with h | h
      · exact .inl (by omega)
      · exact .inr h
theorem minL_le {ns : List Int} {y : Int} (h : y ∈ ns) : minL ns ≤ y := by
  cases ns with
  | nil => cases h
  | cons x r =>
    rcases List.mem_cons.mp h with h | h
    · exact minF_le r x y (.inl (by omega))
    · exact minF_le r x y (.inr h)
theorem minF_mem : ∀ (r : List Int) (x : Int), r.foldl min x = x ∨ r.foldl min x ∈ r
  | [], x => .inl rfl
  | a :: r, x => by
    rcases minF_mem r (min x a) with h | h
    · by_cases hx : x ≤ a
      · exact .inl (by rw [List.foldl_cons, h]; omega)
      · exact .inr (by rw [List.foldl_cons, h]; have : min x a = a := by omega
                       rw [this]; exact List.mem_cons_self)
    · exact .inr (List.mem_cons_of_mem _ h)
theorem minL_mem {ns : List Int} (h : ns ≠ []) : minL ns ∈ ns := by
  cases ns with
  | nil => exact absurd rfl h
  | cons x r =>
    rcases minF_mem r x with e | e
    · show r.foldl min x ∈ _; rw [e]; exact List.mem_cons_self
    · exact List.mem_cons_of_mem _ e
theorem c_max (hc : X.calm = true) : C1 X (.builtin "max") fMax := ⟨_, cr_max hc, fun Hf H c x z e hc e5 Q q => by
  simp only [fMax, Option.bind_eq_some_iff] at e5
  obtain ⟨xs, h1, ns, h2, h3⟩ := e5
  split at h3
  · cases h3
  · rename_i hne
    cases h3
    obtain ⟨a, us, rfl, hs, d⟩ := lst_ok e hc h1
    rw [ints_ok h2 d] at hs
    refine ⟨a, ns, rfl, hs, List.length_pos_iff.mpr hne, fun m m1 m2 => ?_⟩
    have em : m = maxL ns := Int.le_antisymm (maxL_ge m1) (m2 _ (maxL_mem hne))
    rw [em]
    exact old e (.int _) q⟩
theorem c_min (hc : X.calm = true) : C1 X (.builtin "min") fMin := ⟨_, cr_min hc, fun Hf H c x z e hc e5 Q q => by
  simp only [fMin, Option.bind_eq_some_iff] at e5
  obtain ⟨xs, h1, ns, h2, h3⟩ := e5
  split at h3
  · cases h3
  · rename_i hne
    cases h3
    obtain ⟨a, us, rfl, hs, d⟩ := lst_ok e hc h1
    rw [ints_ok h2 d] at hs
    refine ⟨a, ns, rfl, hs, List.length_pos_iff.mpr hne, fun m m1 m2 => ?_⟩
    have em : m = minL ns := Int.le_antisymm (m2 _ (minL_mem hne)) (minL_le m1)
    rw [em]
    exact old e (.int _) q⟩
/-! isinstance -/
def Ty.nm : Ty → String
  | .bool => "bool" | .int => "int" | .str => "str" | .tuple => "tuple"
theorem ty_tup {a : Addr} {us : List V} (h : SqT K H a us) : TyX K H (.ref a) (.type "tuple") := by
  rcases h with (h | ⟨o, h⟩) | ⟨o, its, n, h1, h2, _⟩
  · exact .base (.tup h)
  · exact .fTuple h
  · exact .kTuple h1 h2
theorem ty_lst {a : Addr} {us : List V} (h : SqL K H a us) : TyX K H (.ref a) (.type "list") := by
  rcases h with (h | ⟨o, h⟩) | ⟨o, its, n, h1, h2, _⟩
  · exact .base (.lst h)
  · exact .base (.frz h)
  · exact .kList h1 h2
def tyNm : PV → String
  | .none => "NoneType" | .bool _ => "bool" | .int _ => "int" | .str _ => "str" | .list _ => "list" | .tuple _ => "tuple" | .dict _ => "dict"
theorem kit_v (t : Ty) (v : PV) : PySem.W.kitOne K (.type (tyNm v)) (.type t.nm) = some (isTy t v) := by
  cases t <;> cases v <;> (refine kit_ty ?_; dsimp only [tyNm, Ty.nm, isTy]; decide +kernel)
theorem kit_l (t : Ty) : PySem.W.kitOne K (.type "list") (.type t.nm) = some false := by cases t <;> exact kit_ty (by decide +kernel)
theorem kit_d (t : Ty) : PySem.W.kitOne K (.type "dict") (.type t.nm) = some false := by cases t <;> exact kit_ty (by decide +kernel)
theorem ty_v {v : PV} {u : V} (d : Dp K H u v) : TyX K H u (.type (tyNm v)) := by
  cases d with
  | non => exact .base .non
  | bl b => exact .base (.bl b)
  | int i => exact .base (.int i)
  | str x => exact .base (.str x)
  | lst h _ => exact ty_lst h
  | tup h _ => exact ty_tup h
theorem isi_S {t : Ty} : UnS K (fun x H Q => rIsi K [x, .ty t.nm] H Q) (fIsi t) := fun Hf H c x z e hc e5 Q q => by
  unfold fIsi at e5
  split at e5
  · cases e5
    exact ⟨x, _, _, _, _, rfl, .ty _, ty_v (dp_mono e _ _ hc), kit_v t _, old e (.bl _) q⟩
  · cases e5
    obtain ⟨p, rfl, vs, h1, _⟩ := hc
    exact ⟨_, _, _, _, _, rfl, .ty _, .base (.lst h1), kit_l t, old e (.bl _) q⟩
  · cases e5
/-- isinstance(e, T) -/
theorem be_isi (t : Ty) {y : Str} {p' : Pos} (hg : Gl X x) (hm : X.mg x = none) (hv : bootBuiltins x = some (.builtin "isinstance")) (hg' : Gl X y) (hm' : X.mg y = none) (hv' : bootBuiltins y = some (.type t.nm)) (ha : BE X a ma) (hn : x ≠ "__name__" := by decide) (hdb : (x == ("__debug__" : Str)) = false := by decide)
    (hn' : y ≠ "__name__" := by decide) (hdb' : (y == ("__debug__" : Str)) = false := by decide)
    (hs : starEach [a, .Name y p'] X.env = (false, eval a X.env) :: starEach [.Name y p'] X.env := by rfl) (hs2 : starEach [.Name y p'] X.env = (false, eval (.Name y p') X.env) :: starEach [] X.env := by rfl) (hp : (backTo pos (starEach [.Name y p'] X.env)).any (·.1) = false := by rfl) :
    BE X (.Call (.Name x p) [a, .Name y p'] [] pos) (mUn (fIsi t) ma) := by
  obtain ⟨te, a1, a2⟩ := ha
  exact ⟨_, pe_callB call_isi hg hm hv (pa_cons a1 (pa_cons (pe_bltn (v := .ty t.nm) hg' hm' hv' rfl hn' hdb') pa_nil hs2) hs) hn hdb hs hp, se_un a2 isi_S⟩

/-! ### items, slices -/
theorem ixN_eq (n : Nat) (i : Int) : ixN n i = L2.ixN n i := rfl
theorem at_ok {xs : List PV} {us : List V} {i : Int} {v : PV} (d : DpAll K Hf us xs) (h : atI xs i = some v) : ∃ u, L2.atI us i = some u ∧ Dp K Hf u v := by
  unfold atI at h
  rw [Option.bind_eq_some_iff] at h
  obtain ⟨j, h1, h2⟩ := h
  obtain ⟨u, h3, h4⟩ := dps_get d h2
  refine ⟨u, ?_, h4⟩
  unfold L2.atI
  rw [dps_len d, ← ixN_eq, h1]
  exact h3
theorem ix_S : OpS K (rIx K) fIx := fun Hf H c d x y z e hc hd e5 Q q => by
  unfold fIx at e5
  split at e5
  · rw [Option.map_eq_some_iff] at e5
    obtain ⟨v, h1, rfl⟩ := e5
    cases hd
    cases hc with
    | tup hs ha =>
      obtain ⟨u, h2, h3⟩ := at_ok ha h1
      exact .inr (.inl ⟨_, _, _, u, rfl, rfl, ex_t e hs, h2, old e h3 q⟩)
  · rw [Option.map_eq_some_iff] at e5
    obtain ⟨v, h1, rfl⟩ := e5
    cases hd
    cases hc with
    | lst hs ha =>
      obtain ⟨u, h2, h3⟩ := at_ok ha h1
      exact .inl ⟨_, _, _, u, rfl, rfl, ex_l e hs, h2, old e h3 q⟩
  · rw [Option.map_eq_some_iff] at e5
    obtain ⟨v, h1, rfl⟩ := e5
    cases hd
    obtain ⟨p, rfl, us, h4, ha⟩ := hc
    obtain ⟨u, h2, h3⟩ := at_ok ha h1
    exact .inl ⟨_, _, _, u, rfl, rfl, SqL.of h4, h2, old e h3 q⟩
  · split at e5
    · rename_i hz
      rw [Option.map_eq_some_iff] at e5
      obtain ⟨v, h1, rfl⟩ := e5
      cases hc
      cases hd
      refine .inr (.inr ⟨_, _, v, rfl, rfl, by rw [← line_eq]; exact hz, ?_, old e (.str _) q⟩)
      unfold L2.atI
      rw [Option.bind_eq_some_iff] at h1 ⊢
      obtain ⟨j, h2, h3⟩ := h1
      exact ⟨j, h2, by simpa using h3⟩
    · cases e5
  · cases e5
theorem be_ix (ha : BE X a ma) (hb : BE X b mb) (hs : PlainIx b := by intro _ _; rfl) : BE X (.Subscript a b pos) (mOp fIx ma mb) := by
  obtain ⟨t, a1, a2⟩ := ha
  obtain ⟨u, b1, b2⟩ := hb
  exact ⟨_, pe_ix ix_seq a1 b1 hs, se_op a2 b2 ix_S⟩
structure BO (X : Cx) (e : Option Expr) (m : MO) : Prop where
  ex : ∃ t, PO X e t ∧ ∀ (ρ : Env) (r : Option Int) (ρ' : Env) (σ : L2.St) (Hf H : Hp), m ρ = some (r, ρ') → RepE X.K Hf H ρ σ → ∀ Q : Option Int → Hp → Prop,
    (∀ Hf' H', Step (Own ρ σ) Hf H Hf' H' → RepE X.K Hf' H' ρ' σ → Kp ρ ρ' → Q r H') → t σ H Q
theorem bo_none : BO X none oNone := ⟨_, po_none, fun ρ r ρ' σ Hf H hm E Q q => by cases hm; exact q Hf H (.refl E.ff) E .refl⟩
theorem bo_some (ha : BE X a ma) : BO X (some a) (oSome ma) := by
  obtain ⟨t, a1, a2⟩ := ha
  refine ⟨_, po_some a1, fun ρ r ρ' σ Hf H hm E Q q => ?_⟩
  simp only [oSome, Option.bind_eq_some_iff, Option.map_eq_some_iff, Prod.mk.injEq] at hm
  obtain ⟨⟨x, ρ1⟩, e1, c, e3, i, e5, rfl, rfl⟩ := hm
  refine a2 ρ x ρ1 σ Hf H e1 E _ fun u Hf1 H1 S1 E1 R1 k1 => ?_
  have hc := look_ok E1 R1 e3
  unfold intOf at e5
  split at e5
  · cases e5; cases hc; exact ⟨i, rfl, q Hf1 H1 S1 E1 k1⟩
  · cases e5
theorem cut_ok {xs : List PV} {us : List V} {lo hi : Option Int} (d : DpAll K Hf us xs) : DpAll K Hf (cutV us lo hi) (cut xs lo hi) := by
  unfold cut cutV
  rw [dps_len d]
  have e1 : ∀ n d o, sIx n d o = HT.sIx n d o := fun n d o => by cases o <;> rfl
  rw [e1, e1]
  exact dps_take _ (dps_drop _ d)
theorem sl_S {lo hi : Option Int} : UnS K (fun x H Q => rSlL K x lo hi H Q ∨ rSlA K x lo hi H Q) (fSl lo hi) := fun Hf H c x z e hc e5 Q q => by
  unfold fSl at e5
  split at e5
  · rename_i xs
    cases e5
    cases hc with
    | @tup a us _ hs ha =>
      refine .inr ⟨a, us, rfl, ex_t e hs, fun ⟨h1, h2⟩ => ?_, fun _ => newT e (cut_ok ha) q⟩
      have e1 : cut xs lo hi = xs := by
        have e1 : ∀ n d o, sIx n d o = HT.sIx n d o := fun n d o => by cases o <;> rfl
        unfold cut
        rw [e1, e1, ← dps_len ha, h1, h2, dps_len ha]
        simp
      rw [e1] at q
      exact old e (.tup hs ha) q
  · cases e5
    cases hc with
    | lst hs ha => exact .inl ⟨_, _, rfl, ex_l e hs, newL e (cut_ok ha) q⟩
  · cases e5
    obtain ⟨p, rfl, us, h4, ha⟩ := hc
    exact .inl ⟨_, _, rfl, SqL.of h4, newL e (cut_ok ha) q⟩
  · cases e5
theorem be_sl {lo hi : Option Expr} {ml mh : MO} {p2 : Pos} (ha : BE X a ma) (hl : BO X lo ml) (hh : BO X hi mh) : BE X (.Subscript a (.Slice lo hi none p2) pos) (mSl ma ml mh) := by
  obtain ⟨t, a1, a2⟩ := ha
  obtain ⟨tl, l1, l2⟩ := hl
  obtain ⟨th, h1, h2⟩ := hh
  refine ⟨_, pe_slice (sl_list.or sl_tupA) a1 l1 h1, fun ρ r ρ' σ Hf H hm E Q q => ?_⟩
  simp only [mSl, Option.bind_eq_some_iff, Option.map_eq_some_iff, Prod.mk.injEq] at hm
  obtain ⟨⟨x, ρ1⟩, e1, ⟨i, ρ2⟩, e2, ⟨j, ρ3⟩, e3, c, e4, z, e5, rfl, rfl⟩ := hm
  refine a2 ρ x ρ1 σ Hf H e1 E _ fun u Hf1 H1 S1 E1 R1 k1 => ?_
  have B1 : Bh X.K Hf H ρ σ Hf1 H1 ρ1 := ⟨S1, E1, k1⟩
  refine l2 ρ1 i ρ2 σ Hf1 H1 e2 E1 _ fun Hf2 H2 S2 E2 k2 => ?_
  have B2 : Bh X.K Hf1 H1 ρ1 σ Hf2 H2 ρ2 := ⟨S2, E2, k2⟩
  refine h2 ρ2 j ρ3 σ Hf2 H2 e3 E2 _ fun Hf3 H3 S3 E3 k3 => ?_
  have B3 : Bh X.K Hf2 H2 ρ2 σ Hf3 H3 ρ3 := ⟨S3, E3, k3⟩
  have R1' := B1.keepR E (B2.trans B3) R1
  refine sl_S Hf3 H3 c u z E3.ff (look_ok E3 R1' e4) e5 _ fun t Hf4 H4 S4 R4 => ?_
  have B4 := (B1.trans (B2.trans B3)).more S4
  exact q t Hf4 H4 B4.st B4.en (R4.any.back fun p hp => (B1.trans (B2.trans B3)).fresh hp) B4.kp
end
end Py
/-! Py4: what changes a name's object; statements. -/
namespace Py
open PySem PySem.Spec PyProof.Rows L2

section
variable {K : PySem.W.Frag} {Hf H Hf' H' Hf1 H1 Hf2 H2 H0 : Hp} {ρ ρ' ρ1 ρ2 : Env} {σ σ' σ1 σ2 : L2.St} {O O' O1 : Addr → Prop} {X : Cx}
theorem obAt_ok {i : Nat} {o : Ob} (E : RepE K Hf H ρ σ) (h : obAt ρ i = some o) : ∃ p, OwnAt ρ σ i p ∧ slot σ i = some (.ref p) ∧ Hf p = none ∧ RepOb K Hf H p o ∧ i < ρ.length := by
  unfold obAt at h
  cases g : get ρ i with
  | none => rw [g] at h; cases h
  | some s =>
    have hi : i < ρ.length := by
      by_cases hl : i < ρ.length
      · exact hl
      · unfold get at g
        rw [List.getElem?_eq_none (by omega)] at g
        cases g
    obtain ⟨u, h1, h2⟩ := E.sl i s g
    cases s with
    | val v => rw [g] at h; cases h
    | own o' => rw [g] at h; cases h; obtain ⟨p, rfl, f, r⟩ := h2; exact ⟨p, ⟨by rw [g]; rfl, h1⟩, h1, f, r, hi⟩
    | ref o' => rw [g] at h; cases h; obtain ⟨p, rfl, f, r⟩ := h2; exact ⟨p, ⟨by rw [g]; rfl, h1⟩, h1, f, r, hi⟩
    | lck kvs => rw [g] at h; cases h
theorem lstAt_ok {i : Nat} {xs : List PV} (E : RepE K Hf H ρ σ) (h : lstAt ρ i = some xs) : obAt ρ i = some (.lst xs) := by
  unfold lstAt at h
  split at h
  · cases h; assumption
  · cases h
theorem get_setOb (i j : Nat) (o : Ob) (hi : i < ρ.length) : get (setOb ρ i o) j = if i = j then (if isRef (get ρ i) then some (.ref o) else some (.own o)) else get ρ j := by
  unfold setOb
  cases g : get ρ i with
  | none => dsimp only; rw [get_set]; by_cases h : i = j <;> simp [h, hi, isRef] <;> (intro z; omega)
  | some s =>
    cases s <;> (dsimp only; rw [get_set]; by_cases h : i = j <;> simp [h, hi, isRef] <;> (intro z; omega))
/-- a name's object is changed -/
theorem mut_ok {i : Nat} {o o' : Ob} {p : Addr} {ho : HO} (E : RepE K Hf H ρ σ) (ha : OwnAt ρ σ i p) (hi : i < ρ.length) (r : RepOb K Hf (upd H p ho) p o') :
    Bh K Hf H ρ σ Hf (upd H p ho) (setOb ρ i o') := by
  obtain ⟨⟨x, hx⟩, fp⟩ := E.there ⟨i, ha⟩
  have ob : ∀ j, isOb (get (setOb ρ i o') j) = true → isOb (get ρ j) = true := fun j h => by
    rw [get_setOb i j o' hi] at h
    by_cases e : i = j
    · rw [← e]; exact ha.1
    · rw [if_neg e] at h; exact h
  refine ⟨⟨fun _ _ h => h, fun a o h => ?_, fun a o h n => ?_, fun _ _ _ _ => rfl, fun a o h => ?_⟩, ⟨?_, fun a o h => ?_, fun j s h => ?_, fun j k q a b => E.dis j k q ⟨ob j a.1, a.2⟩ ⟨ob k b.1, b.2⟩⟩, ⟨ob, fun j => ?_⟩⟩
  · rw [upd_ne (ne_of_none h fp)]; exact E.ff a o h
  · rw [upd_ne (fun z => n ⟨i, by rw [z]; exact ha⟩)]; exact h
  · by_cases e : a = p
    · subst e; exact ⟨_, upd_same⟩
    · exact ⟨o, by rw [upd_ne e]; exact h⟩
  · unfold setOb; split <;> rw [List.length_set] <;> exact E.len
  · rw [upd_ne (ne_of_none h fp)]; exact E.ff a o h
  · rw [get_setOb i j o' hi] at h
    by_cases e : i = j
    · subst e
      rw [if_pos rfl] at h
      refine ⟨_, ha.2, ?_⟩
      split at h
      · cases h; exact ⟨p, rfl, fp, r⟩
      · cases h; exact ⟨p, rfl, fp, r⟩
    · rw [if_neg e] at h
      obtain ⟨u, h1, h2⟩ := E.sl j s h
      refine ⟨u, h1, ?_⟩
      have np : ∀ q, u = .ref q → isOb (some s) = true → q ≠ p := fun q hu hb z => e (E.dis i j p ha ⟨by rw [h]; exact hb, by rw [h1, hu, z]⟩)
      cases s with
      | val v => exact h2
      | own o2 =>
        obtain ⟨q, e1, f1, r1⟩ := h2
        refine ⟨q, e1, f1, ?_⟩
        cases o2 with
        | lst ys => obtain ⟨vs, a, b⟩ := r1; exact ⟨vs, by rw [upd_ne (np q e1 rfl)]; exact a, b⟩
        | dct ys => obtain ⟨vs, a, b⟩ := r1; exact ⟨vs, by rw [upd_ne (np q e1 rfl)]; exact a, b⟩
      | ref o2 =>
        obtain ⟨q, e1, f1, r1⟩ := h2
        refine ⟨q, e1, f1, ?_⟩
        cases o2 with
        | lst ys => obtain ⟨vs, a, b⟩ := r1; exact ⟨vs, by rw [upd_ne (np q e1 rfl)]; exact a, b⟩
        | dct ys => obtain ⟨vs, a, b⟩ := r1; exact ⟨vs, by rw [upd_ne (np q e1 rfl)]; exact a, b⟩
      | lck kvs => exact h2
  · rw [get_setOb i j o' hi]
    by_cases e : i = j
    · subst e
      rw [if_pos rfl]
      cases hr : isRef (get ρ i) <;> simp [isRef]
    · rw [if_neg e]
/-! ### methods of a name's list -/
theorem se_append {i : Nat} {te : TE} {a : M} (ha : SE K te a) : SE K (tBM K "list" rAppend (tVar i) (tCons te tNil)) (mAppend i a) := by
  intro ρ r ρ' σ Hf H hm E Q q
  simp only [mAppend, Option.bind_eq_some_iff] at hm
  obtain ⟨ys, h0, ⟨x, ρ1⟩, e1, ⟨v, ρ2⟩, e2, xs, e3, e4⟩ := hm
  split at e4
  · rename_i hz
    cases e4
    obtain ⟨p, o1, s1, f1, ⟨vs, hv, dv⟩, _⟩ := obAt_ok E (lstAt_ok E h0)
    refine ⟨_, slot_at s1, .inl ⟨rfl, _, SqL.of hv⟩, ?_⟩
    refine ha ρ x ρ1 σ Hf H e1 E _ fun u Hf1 H1 S1 E1 R1 k1 => ?_
    have B1 : Bh K Hf H ρ σ Hf1 H1 ρ1 := ⟨S1, E1, k1⟩
    obtain ⟨Hf2, B2, d⟩ := B1.frz E R1 e2
    obtain ⟨p', o2, s2, f2, ⟨ws, hw, dw⟩, hi⟩ := obAt_ok B2.en (lstAt_ok B2.en e3)
    rw [s1] at s2
    cases s2
    have B3 := mut_ok (o := .lst xs) (o' := .lst (xs ++ [v])) (ho := .lst (ws ++ [u])) B2.en o2 hi ⟨_, upd_same, dps_app dw (.cons d .nil)⟩
    have B4 := B2.trans B3
    exact ⟨p, ws, u, rfl, rfl, hw, by rw [dps_len dw, ← line_eq]; exact hz, q _ _ _ B4.st B4.en .non B4.kp⟩
  · cases e4
theorem se_pop {i : Nat} : SE K (tBM0 K "list" rPop (tVar i)) (mPop i) := by
  intro ρ r ρ' σ Hf H hm E Q q
  simp only [mPop, Option.bind_eq_some_iff, Option.map_eq_some_iff, Prod.mk.injEq] at hm
  obtain ⟨xs, h0, v, e1, rfl, rfl⟩ := hm
  obtain ⟨p, o1, s1, f1, ⟨vs, hv, dv⟩, hi⟩ := obAt_ok E (lstAt_ok E h0)
  rw [List.getLast?_eq_getElem?] at e1
  obtain ⟨u, h1, h2⟩ := dps_get dv e1
  rw [← dps_len dv] at h1
  have B := mut_ok (o := .lst xs) (o' := .lst xs.dropLast) (ho := .lst vs.dropLast) E o1 hi ⟨_, upd_same, dps_dropLast dv⟩
  exact ⟨_, slot_at s1, .inl ⟨rfl, _, SqL.of hv⟩, p, vs, u, rfl, rfl, hv, h1, q _ _ _ B.st B.en h2 B.kp⟩
theorem se_reverse {i : Nat} : SE K (tBM0 K "list" rReverse (tVar i)) (mReverse i) := by
  intro ρ r ρ' σ Hf H hm E Q q
  simp only [mReverse, Option.map_eq_some_iff, Prod.mk.injEq] at hm
  obtain ⟨xs, h0, rfl, rfl⟩ := hm
  obtain ⟨p, o1, s1, f1, ⟨vs, hv, dv⟩, hi⟩ := obAt_ok E (lstAt_ok E h0)
  have B := mut_ok (o := .lst xs) (o' := .lst xs.reverse) (ho := .lst vs.reverse) E o1 hi ⟨_, upd_same, dps_rev dv⟩
  exact ⟨_, slot_at s1, .inl ⟨rfl, _, SqL.of hv⟩, p, vs, rfl, rfl, hv, q _ _ _ B.st B.en .non B.kp⟩
theorem seqIx {i : Int} {n j : Nat} (h : ixN n i = some j) : seqIndex? i n = some j ∧ j < n ∧ -(n : Int) ≤ i ∧ i < n := by
  rw [ixN_eq] at h
  exact ixN_seq h
theorem se_popAt {i : Nat} {te : TE} {a : M} (ha : SE K te a) : SE K (tBM K "list" rPopAt (tVar i) (tCons te tNil)) (mPopAt i a) := by
  intro ρ r ρ' σ Hf H hm E Q q
  simp only [mPopAt, Option.bind_eq_some_iff] at hm
  obtain ⟨ys, h0, ⟨x, ρ1⟩, e1, c, e2, k, e3, xs, e4, e5⟩ := hm
  split at e5
  · rename_i hz
    simp only [Option.bind_eq_some_iff, Option.map_eq_some_iff, Prod.mk.injEq] at e5
    obtain ⟨j, e6, v, e7, rfl, rfl⟩ := e5
    obtain ⟨p, o1, s1, f1, ⟨vs, hv, dv⟩, _⟩ := obAt_ok E (lstAt_ok E h0)
    refine ⟨_, slot_at s1, .inl ⟨rfl, _, SqL.of hv⟩, ?_⟩
    refine ha ρ x ρ1 σ Hf H e1 E _ fun u Hf1 H1 S1 E1 R1 k1 => ?_
    have B1 : Bh K Hf H ρ σ Hf1 H1 ρ1 := ⟨S1, E1, k1⟩
    have hc := look_ok E1 R1 e2
    unfold intOf at e3
    split at e3
    · cases e3
      cases hc
      obtain ⟨p', o2, s2, f2, ⟨ws, hw, dw⟩, hi⟩ := obAt_ok B1.en (lstAt_ok B1.en e4)
      rw [s1] at s2
      cases s2
      obtain ⟨w, h1, h2⟩ := dps_get dw e7
      have B3 := mut_ok (o := .lst xs) (o' := .lst (xs.eraseIdx j)) (ho := .lst (ws.eraseIdx j)) B1.en o2 hi ⟨_, upd_same, dps_erase _ dw⟩
      have B4 := B1.trans B3
      exact ⟨p, ws, k, j, w, rfl, rfl, hw, by omega, by omega, by rw [dps_len dw]; exact (seqIx e6).1, h1, q _ _ _ B4.st B4.en h2 B4.kp⟩
    · cases e3
  · cases e5
variable {a b : Expr} {ma mb : M} {x : Str} {p pos apos : Pos}
theorem be_append (i : Nat) (ho : PE X (.Name x p) (tVar i)) (ha : BE X a ma) (hbase : attributeBase (.Name x p) "append" X.env (eval (.Name x p) X.env) = eval (.Name x p) X.env := by rfl)
    (hfew : ((backTo pos (starEach [a] X.env)).all (fun x => !x.1) && (backToKw pos (keywordEach [] X.env)).all (fun x => x.1.isSome) && decide (([a] : List Expr).length + ([] : List Keyword).length + (if ([] : List Keyword).isEmpty then 0 else 1) < 30)) = true := by rfl)
    (hline : (apos.endLine == pos.line) = true := by rfl) (hs : starEach [a] X.env = (false, eval a X.env) :: starEach [] X.env := by rfl) (hp : (backTo pos (starEach [] X.env)).any (·.1) = false := by rfl) :
    BE X (.Call (.Attribute (.Name x p) "append" apos) [a] [] pos) (mAppend i ma) := by
  obtain ⟨t, a1, a2⟩ := ha
  exact ⟨_, pe_bm PySem.F.plainAttrs_list PySem.F.slot_list_append PySem.F.type_list_append mt_append ho (pa_cons a1 pa_nil hs) hbase hfew hline hs hp, se_append a2⟩
theorem be_popAt (i : Nat) (ho : PE X (.Name x p) (tVar i)) (ha : BE X a ma) (hbase : attributeBase (.Name x p) "pop" X.env (eval (.Name x p) X.env) = eval (.Name x p) X.env := by rfl)
    (hfew : ((backTo pos (starEach [a] X.env)).all (fun x => !x.1) && (backToKw pos (keywordEach [] X.env)).all (fun x => x.1.isSome) && decide (([a] : List Expr).length + ([] : List Keyword).length + (if ([] : List Keyword).isEmpty then 0 else 1) < 30)) = true := by rfl)
    (hline : (apos.endLine == pos.line) = true := by rfl) (hs : starEach [a] X.env = (false, eval a X.env) :: starEach [] X.env := by rfl) (hp : (backTo pos (starEach [] X.env)).any (·.1) = false := by rfl) :
    BE X (.Call (.Attribute (.Name x p) "pop" apos) [a] [] pos) (mPopAt i ma) := by
  obtain ⟨t, a1, a2⟩ := ha
  exact ⟨_, pe_bm PySem.F.plainAttrs_list PySem.F.slot_list_pop PySem.F.type_list_pop mt_popAt ho (pa_cons a1 pa_nil hs) hbase hfew hline hs hp, se_popAt a2⟩
theorem be_pop (i : Nat) (ho : PE X (.Name x p) (tVar i)) (hbase : attributeBase (.Name x p) "pop" X.env (eval (.Name x p) X.env) = eval (.Name x p) X.env := by rfl) (hline : (apos.endLine == pos.line) = true := by rfl) :
    BE X (.Call (.Attribute (.Name x p) "pop" apos) [] [] pos) (mPop i) :=
  ⟨_, pe_bm0 PySem.F.plainAttrs_list PySem.F.slot_list_pop PySem.F.type_list_pop mt_pop ho hbase hline, se_pop⟩
theorem be_reverse (i : Nat) (ho : PE X (.Name x p) (tVar i)) (hbase : attributeBase (.Name x p) "reverse" X.env (eval (.Name x p) X.env) = eval (.Name x p) X.env := by rfl) (hline : (apos.endLine == pos.line) = true := by rfl) :
    BE X (.Call (.Attribute (.Name x p) "reverse" apos) [] [] pos) (mReverse i) :=
  ⟨_, pe_bm0 PySem.F.plainAttrs_list PySem.F.slot_list_reverse PySem.F.type_list_reverse mt_reverse ho hbase hline, se_reverse⟩
theorem be_frz (ha : BE X a ma) : BE X a (mFrz ma) := by
  obtain ⟨t, a1, a2⟩ := ha
  refine ⟨t, a1, fun ρ r ρ' σ Hf H hm E Q q => ?_⟩
  simp only [mFrz, Option.bind_eq_some_iff, Option.map_eq_some_iff, Prod.mk.injEq] at hm
  obtain ⟨⟨x, ρ1⟩, e1, ⟨v, ρ2⟩, e2, rfl, rfl⟩ := hm
  refine a2 ρ x ρ1 σ Hf H e1 E _ fun u Hf1 H1 S1 E1 R1 k1 => ?_
  obtain ⟨Hf2, B2, d⟩ := (⟨S1, E1, k1⟩ : Bh X.K Hf H ρ σ Hf1 H1 ρ1).frz E R1 e2
  exact q u Hf2 H1 B2.st B2.en d B2.kp
/-- a constant tuple of the module -/
theorem be_glob {vs : List PV} {g : Addr} (hg : Gl X x) (hm : X.mg x = some (.ref g)) (hd : ∀ H : Hp, Dp X.K H (.ref g) (.tuple vs)) (hdb : (x == ("__debug__" : Str)) = false := by decide) : BE X (.Name x pos) (mC (.tuple vs)) :=
  ⟨_, pe_glob (v := .ref g) hg hm rfl hdb, se_c hd⟩
theorem be_dct0 : BE X (.Dict [] [] pos) mDct0 := ⟨_, pe_dnewK, fun ρ r ρ' σ Hf H hm E Q q => by
  cases hm
  intro p hp
  obtain ⟨S, fp⟩ := new_ob (o := .dK []) E.ff hp
  have B := (Bh.refl E).more S
  exact q _ _ _ B.st B.en ⟨p, rfl, hp, fp, [], upd_same, .nil⟩ B.kp⟩
end

/-! ### statements -/
structure BhS (K : PySem.W.Frag) (Hf H : Hp) (ρ : Env) (σ : L2.St) (Hf1 H1 : Hp) (ρ1 : Env) (σ1 : L2.St) : Prop where
  st : Step (Own ρ σ) Hf H Hf1 H1
  en : RepE K Hf1 H1 ρ1 σ1
  own : ∀ p, Own ρ1 σ1 p → Own ρ σ p ∨ H p = none
  ref : ∀ i, isRef (get ρ1 i) = isRef (get ρ i) ∧ (isRef (get ρ i) = true → slot σ1 i = slot σ i)
def FlR (K : PySem.W.Frag) (D : Ends) (f : Fl) (Hf H H0 : Hp) (σ : L2.St) : Prop := match f with
  | .nx => D.nx σ H
  | .bk => D.bk σ H
  | .ct => D.ct σ H
  | .rt r => ∀ u, RepR K Hf H H0 σ r u → D.rt u H
def SS (K : PySem.W.Frag) (ts : TS) (m : SM) : Prop := ∀ (ρ : Env) (f : Fl) (ρ' : Env) (σ : L2.St) (Hf H : Hp), m ρ = some (f, ρ') → RepE K Hf H ρ σ → ∀ D : Ends,
  (∀ σ' Hf' H', BhS K Hf H ρ σ Hf' H' ρ' σ' → FlR K D f Hf' H' H σ') → ts D σ H
structure BS (X : Cx) (st : Stmt) (m : SM) : Prop where
  ex : ∃ t, PS X st t ∧ SS X.K t m
structure BSs (X : Cx) (st : List Stmt) (m : SM) : Prop where
  ex : ∃ t, PSs X st t ∧ SS X.K t m
/-- a target: nothing in the heap changes -/
structure BhG (K : PySem.W.Frag) (Hf H H0 : Hp) (ρ : Env) (σ : L2.St) (Hf1 : Hp) (ρ1 : Env) (σ1 : L2.St) : Prop where
  st : Step (fun p => Own ρ σ p ∨ H0 p = none) Hf H Hf1 H
  en : RepE K Hf1 H ρ1 σ1
  own : ∀ p, Own ρ1 σ1 p → Own ρ σ p ∨ H0 p = none
  ref : ∀ i, isRef (get ρ1 i) = isRef (get ρ i) ∧ (isRef (get ρ i) = true → slot σ1 i = slot σ i)
def SG (K : PySem.W.Frag) (g : TG) (m : MG) : Prop := ∀ (r : R) (ρ ρ' : Env) (σ : L2.St) (Hf H H0 : Hp) (u : V), m r ρ = some ρ' → RepE K Hf H ρ σ → RepR K Hf H H0 σ r u → (∀ q, Own ρ σ q → H0 q ≠ none) → ∀ Q : L2.St → Hp → Prop,
  (∀ σ' Hf', BhG K Hf H H0 ρ σ Hf' ρ' σ' → Q σ' H) → g u σ H Q
structure BG (X : Cx) (tg : Expr) (m : MG) : Prop where
  ex : ∃ g, PG X tg g ∧ SG X.K g m

section
variable {K : PySem.W.Frag} {Hf H Hf' H' Hf1 H1 Hf2 H2 H0 : Hp} {ρ ρ' ρ1 ρ2 : Env} {σ σ' σ1 σ2 : L2.St} {O O' O1 : Addr → Prop} {X : Cx}
theorem Bh.s (a : Bh K Hf H ρ σ Hf1 H1 ρ1) : BhS K Hf H ρ σ Hf1 H1 ρ1 σ := ⟨a.st, a.en, fun _ h => .inl (a.kp.sub h), fun i => ⟨a.kp.ref i, fun _ => rfl⟩⟩
theorem BhS.refl (E : RepE K Hf H ρ σ) : BhS K Hf H ρ σ Hf H ρ σ := (Bh.refl E).s
theorem BhS.trans (a : BhS K Hf H ρ σ Hf1 H1 ρ1 σ1) (b : BhS K Hf1 H1 ρ1 σ1 Hf2 H2 ρ2 σ2) : BhS K Hf H ρ σ Hf2 H2 ρ2 σ2 := by
  refine ⟨a.st.trans b.st a.own, b.en, fun p h => ?_, fun i => ?_⟩
  · rcases b.own p h with z | z
    · exact a.own p z
    · exact .inr (a.st.fresh z)
  · obtain ⟨x1, x2⟩ := a.ref i
    obtain ⟨y1, y2⟩ := b.ref i
    exact ⟨y1.trans x1, fun h => (y2 (x1.trans h)).trans (x2 h)⟩
theorem BhS.fresh (a : BhS K Hf H ρ σ Hf1 H1 ρ1 σ1) {p : Addr} (h : H1 p = none) : H p = none := a.st.fresh h
theorem Bh.g (a : Bh K Hf H ρ σ Hf1 H1 ρ1) (b : BhG K Hf1 H1 H ρ1 σ Hf2 ρ2 σ2) : BhS K Hf H ρ σ Hf2 H1 ρ2 σ2 := by
  refine ⟨a.st.trans b.st fun p h => ?_, b.en, fun p h => ?_, fun i => ?_⟩
  · rcases h with h | h
    · exact .inl (a.kp.sub h)
    · exact .inr h
  · rcases b.own p h with z | z
    · exact .inl (a.kp.sub z)
    · exact .inr z
  · obtain ⟨y1, y2⟩ := b.ref i
    exact ⟨y1.trans (a.kp.ref i), fun h => y2 ((a.kp.ref i).trans h)⟩
theorem FlR.back {D : Ends} {f : Fl} (h : FlR K D f Hf H H0 σ) (z : ∀ p, H1 p = none → H0 p = none) : FlR K D f Hf H H1 σ := by
  cases f with
  | nx => exact h
  | bk => exact h
  | ct => exact h
  | rt r => exact fun u hu => h u (hu.back z)
theorem get_lt {i : Nat} {s : Sl} (h : get ρ i = some s) : i < ρ.length := by
  by_cases hl : i < ρ.length
  · exact hl
  · unfold get at h
    rw [List.getElem?_eq_none (by omega)] at h
    cases h
/-- a value, or a new object, at a name -/
theorem put_ok {i : Nat} {s : Sl} {u : V} (E : RepE K Hf H ρ σ) (h : put i (some s) ρ = some ρ') (r : RepSl K Hf H s u) (n : ∀ p, isOb (some s) = true → u = .ref p → ¬ Own ρ σ p) :
    RepE K Hf H ρ' (σ.set i (some u)) ∧ (∀ p, Own ρ' (σ.set i (some u)) p → Own ρ σ p ∨ (isOb (some s) = true ∧ u = .ref p)) ∧ (∀ j, (isRef (get ρ' j) = true → isRef (some s) = true) ∨ isRef (get ρ' j) = isRef (get ρ j)) ∧
      (∀ j, isRef (some s) = false → isRef (get ρ' j) = isRef (get ρ j) ∧ (isRef (get ρ j) = true → slot (σ.set i (some u)) j = slot σ j)) := by
  unfold put at h
  split at h
  · cases h
  · rename_i nr
    cases h
    have hg : ∀ j, get (ρ.set i (some s)) j = if i = j ∧ i < ρ.length then some s else get ρ j := fun j => get_set ρ i j (some s)
    have hs : ∀ j, slot (σ.set i (some u)) j = if i = j ∧ i < σ.length then some u else slot σ j := fun j => slot_set σ i j (some u)
    have ow : ∀ j p, OwnAt (ρ.set i (some s)) (σ.set i (some u)) j p → (i = j ∧ i < ρ.length ∧ isOb (some s) = true ∧ u = .ref p) ∨ (OwnAt ρ σ j p ∧ ¬ (i = j ∧ i < ρ.length)) := fun j p ⟨a, b⟩ => by
      rw [hg] at a
      rw [hs, ← E.len] at b
      by_cases c : i = j ∧ i < ρ.length
      · rw [if_pos c] at a b
        cases b
        exact .inl ⟨c.1, c.2, a, rfl⟩
      · rw [if_neg c] at a b
        exact .inr ⟨⟨a, b⟩, c⟩
    refine ⟨⟨by rw [List.length_set, List.length_set]; exact E.len, E.ff, fun j t e => ?_, fun j k p a b => ?_⟩, fun p ⟨j, a⟩ => ?_, fun j => ?_, fun j hr => ⟨?_, fun hj => ?_⟩⟩
    · rw [hg] at e
      rw [hs, ← E.len]
      by_cases c : i = j ∧ i < ρ.length
      · rw [if_pos c] at e ⊢
        cases e
        exact ⟨u, rfl, r⟩
      · rw [if_neg c] at e ⊢
        exact E.sl j t e
    · rcases ow j p a with ⟨e1, l1, b1, u1⟩ | ⟨a1, c1⟩ <;> rcases ow k p b with ⟨e2, l2, b2, u2⟩ | ⟨a2, c2⟩
      · omega
      · exact absurd ⟨k, a2⟩ (n p b1 u1)
      · exact absurd ⟨j, a1⟩ (n p b2 u2)
      · exact E.dis j k p a1 a2
    · rcases ow j p a with ⟨e1, l1, b1, u1⟩ | ⟨a1, c1⟩
      · exact .inr ⟨b1, u1⟩
      · exact .inl ⟨j, a1⟩
    · rw [hg]
      by_cases c : i = j ∧ i < ρ.length
      · rw [if_pos c]; exact .inl fun z => z
      · rw [if_neg c]; exact .inr rfl
    · rw [hg]
      by_cases c : i = j ∧ i < ρ.length
      · rw [if_pos c, hr, ← c.1]; simpa using nr
      · rw [if_neg c]
    · rw [hs]
      have c : ¬ (i = j ∧ i < σ.length) := fun c => by
        rw [← c.1] at hj
        rw [hj] at nr
        exact nr rfl
      rw [if_neg c]
theorem sg_name (i : Nat) : SG K (L2.gName i) (Py.gName i) := by
  intro r ρ ρ' σ Hf H H0 u hm E R no Q q
  cases r with
  | val v =>
    obtain ⟨E1, h1, _, h3⟩ := put_ok (u := u) E hm R fun p h => nomatch h
    exact q _ Hf ⟨.refl E.ff, E1, fun p hp => (h1 p hp).imp id (fun z => nomatch z.1), fun j => h3 j rfl⟩
  | new o =>
    obtain ⟨p, rfl, z, f, r⟩ := R
    have np : ¬ Own ρ σ p := fun h => no p h z
    obtain ⟨E1, h1, _, h3⟩ := put_ok (s := .own o) (u := .ref p) E hm ⟨p, rfl, f, r⟩ fun p' _ h => by cases h; exact np
    exact q _ Hf ⟨.refl E.ff, E1, fun p' hp => (h1 p' hp).imp id fun z' => by cases z'.2; exact z, fun j => h3 j rfl⟩
  | bor j =>
    have hm' : (frz (.bor j) ρ).bind (fun v => put i (some (.val v.1)) v.2) = some ρ' := hm
    rw [Option.bind_eq_some_iff] at hm'
    obtain ⟨⟨v, ρ1⟩, e1, e2⟩ := hm'
    obtain ⟨Hf1, S, E1, d, k⟩ := frz_ok E R no e1
    obtain ⟨E2, h1, _, h3⟩ := put_ok (s := .val v) (u := u) E1 e2 d fun p h => nomatch h
    exact q _ Hf1 ⟨S, E2, fun p hp => (h1 p hp).elim (fun z => .inl (k.sub z)) (fun z => nomatch z.1), fun l => ⟨((h3 l rfl).1).trans (k.ref l), fun hl => (h3 l rfl).2 ((k.ref l).trans hl)⟩⟩
theorem bg_name (i : Nat) {x : Str} {pos : Pos} (hN : X.N.Nodup) (hi : X.N[i]? = some x := by rfl) (hx : Loc X.env.scope x := by first | exact Or.inl rfl | exact Or.inr rfl) (hf : X.fn x = true ∨ X.env.scope.names.lookup x = some .local := by first | exact .inl rfl | exact .inr rfl | assumption) : BG X (.Name x pos) (Py.gName i) :=
  ⟨_, pg_name hN hi hx hf, sg_name i⟩
end
end Py
/-! Py5: statements, loops, comprehensions. -/
namespace Py
open PySem PySem.Spec PyProof.Rows L2

section
variable {K : PySem.W.Frag} {Hf H Hf' H' Hf1 H1 Hf2 H2 H0 : Hp} {ρ ρ' ρ1 ρ2 : Env} {σ σ' σ1 σ2 : L2.St} {O O' O1 : Addr → Prop} {X : Cx}
theorem ss_next : SS K tNext sNext := by
  intro ρ f ρ' σ Hf H hm E D q
  cases hm
  exact q σ Hf H (.refl E)
theorem ss_brk : SS K tBreak sBrk := by
  intro ρ f ρ' σ Hf H hm E D q
  cases hm
  exact q σ Hf H (.refl E)
theorem ss_cont : SS K tCont sCont := by
  intro ρ f ρ' σ Hf H hm E D q
  cases hm
  exact q σ Hf H (.refl E)
theorem ss_seq {t u : TS} {a b : SM} (ha : SS K t a) (hb : SS K u b) : SS K (tSeq t u) (sSeq a b) := by
  intro ρ f ρ' σ Hf H hm E D q
  simp only [sSeq, Option.bind_eq_some_iff] at hm
  obtain ⟨⟨f1, ρ1⟩, e1, e2⟩ := hm
  refine ha ρ f1 ρ1 σ Hf H e1 E _ fun σ1 Hf1 H1 B1 => ?_
  cases f1 with
  | nx =>
    refine hb ρ1 f ρ' σ1 Hf1 H1 e2 B1.en D fun σ2 Hf2 H2 B2 => ?_
    exact (q σ2 Hf2 H2 (B1.trans B2)).back fun p hp => B1.fresh hp
  | bk => cases e2; exact q σ1 Hf1 H1 B1
  | ct => cases e2; exact q σ1 Hf1 H1 B1
  | rt r => cases e2; exact q σ1 Hf1 H1 B1
theorem ss_if {tt : TT} {t u : TS} {c : MT} {a b : SM} (hc : ST K tt c) (ha : SS K t a) (hb : SS K u b) : SS K (tIfS tt t u) (sIf c a b) := by
  intro ρ f ρ' σ Hf H hm E D q
  simp only [sIf, Option.bind_eq_some_iff] at hm
  obtain ⟨⟨x, ρ1⟩, e1, e2⟩ := hm
  refine hc ρ x ρ1 σ Hf H e1 E _ fun Hf1 H1 S1 E1 k1 => ?_
  have B1 : Bh K Hf H ρ σ Hf1 H1 ρ1 := ⟨S1, E1, k1⟩
  cases x with
  | true =>
    simp only [if_true] at e2 ⊢
    exact ha ρ1 f ρ' σ Hf1 H1 e2 E1 D fun σ2 Hf2 H2 B2 => (q σ2 Hf2 H2 (B1.s.trans B2)).back fun p hp => B1.fresh hp
  | false =>
    simp only [Bool.false_eq_true, if_false] at e2 ⊢
    exact hb ρ1 f ρ' σ Hf1 H1 e2 E1 D fun σ2 Hf2 H2 B2 => (q σ2 Hf2 H2 (B1.s.trans B2)).back fun p hp => B1.fresh hp
theorem ss_ret {te : TE} {a : M} (ha : SE K te a) : SS K (tRet te) (sRet a) := by
  intro ρ f ρ' σ Hf H hm E D q
  simp only [sRet, Option.map_eq_some_iff, Prod.mk.injEq] at hm
  obtain ⟨⟨x, ρ1⟩, e1, rfl, rfl⟩ := hm
  exact ha ρ x ρ1 σ Hf H e1 E _ fun u Hf1 H1 S1 E1 R1 k1 => q σ Hf1 H1 (⟨S1, E1, k1⟩ : Bh K Hf H ρ σ Hf1 H1 ρ1).s u R1
theorem ss_retN : SS K tRetN sRetN := by
  intro ρ f ρ' σ Hf H hm E D q
  cases hm
  exact q σ Hf H (.refl E) .non .non
theorem ss_expr {te : TE} {a : M} (ha : SE K te a) : SS K (tDrop te) (sExpr a) := by
  intro ρ f ρ' σ Hf H hm E D q
  simp only [sExpr, Option.map_eq_some_iff, Prod.mk.injEq] at hm
  obtain ⟨⟨x, ρ1⟩, e1, rfl, rfl⟩ := hm
  exact ha ρ x ρ1 σ Hf H e1 E _ fun u Hf1 H1 S1 E1 R1 k1 => q σ Hf1 H1 (⟨S1, E1, k1⟩ : Bh K Hf H ρ σ Hf1 H1 ρ1).s
theorem ss_asg {te : TE} {g : TG} {a : M} {m : MG} (ha : SE K te a) (hg : SG K g m) : SS K (tAsg te g) (sAsg a m) := by
  intro ρ f ρ' σ Hf H hm E D q
  simp only [sAsg, Option.bind_eq_some_iff, Option.map_eq_some_iff, Prod.mk.injEq] at hm
  obtain ⟨⟨x, ρ1⟩, e1, ρ2, e2, rfl, rfl⟩ := hm
  refine ha ρ x ρ1 σ Hf H e1 E _ fun u Hf1 H1 S1 E1 R1 k1 => ?_
  have B1 : Bh K Hf H ρ σ Hf1 H1 ρ1 := ⟨S1, E1, k1⟩
  exact hg x ρ1 ρ2 σ Hf1 H1 H u e2 E1 R1 (B1.no E) _ fun σ2 Hf2 B2 => q σ2 Hf2 H1 (B1.g B2)
theorem sg_names : ∀ (is : List Nat) (ts : TGs), (∃ K' : PySem.W.Frag, True) → True := fun _ _ _ => trivial
/-- several names, a tuple's items -/
def tNames : List Nat → TGs
  | [] => gNil
  | i :: is => gCons (L2.gName i) (tNames is)
theorem names_ok : ∀ (is : List Nat) (vs : List PV) (us : List V) (ρ ρ' : Env) (σ : L2.St), gNames is vs ρ = some ρ' → RepE K Hf H ρ σ → DpAll K Hf us vs → ∀ Q : L2.St → Hp → Prop,
    (∀ σ', BhG K Hf H H0 ρ σ Hf ρ' σ' → Q σ' H) → tNames is us σ H Q := by
  intro is
  induction is with
  | nil =>
    intro vs us ρ ρ' σ hm E d Q q
    cases vs with
    | nil => cases hm; cases d; exact ⟨rfl, q σ ⟨.refl E.ff, E, fun _ h => .inl h, fun _ => ⟨rfl, fun _ => rfl⟩⟩⟩
    | cons v vs => cases hm
  | cons i is ih =>
    intro vs us ρ ρ' σ hm E d Q q
    cases vs with
    | nil => cases hm
    | cons v vs =>
      simp only [gNames, Option.bind_eq_some_iff] at hm
      obtain ⟨ρ1, e1, e2⟩ := hm
      cases d with
      | @cons u us' _ _ d1 d2 =>
        obtain ⟨E1, h1, _, h3⟩ := put_ok (s := .val v) (u := u) E e1 d1 fun p h => nomatch h
        refine ⟨u, us', rfl, ?_⟩
        refine ih vs us' ρ1 ρ' _ e2 E1 d2 Q fun σ' B => q σ' ⟨.refl E.ff, B.en, fun p hp => ?_, fun j => ?_⟩
        · rcases B.own p hp with z | z
          · exact (h1 p z).imp id fun z => nomatch z.1
          · exact .inr z
        · obtain ⟨y1, y2⟩ := B.ref j
          obtain ⟨x1, x2⟩ := h3 j rfl
          exact ⟨y1.trans x1, fun h => (y2 (x1.trans h)).trans (x2 h)⟩
theorem sg_tup {is : List Nat} {n : Nat} (hn : is.length = n) : SG K (L2.gTup K n (tNames is)) (Py.gTup is) := by
  intro r ρ ρ' σ Hf H H0 u hm E R no Q q
  unfold Py.gTup at hm
  split at hm
  · rename_i xs
    have R' : Dp K Hf u (.tuple xs) := R
    cases R' with
    | @tup a us _ hs ha =>
      have hl : ∀ (is : List Nat) (xs : List PV) (ρ ρ' : Env), gNames is xs ρ = some ρ' → is.length = xs.length := by
        intro is
        induction is with
        | nil => intro xs ρ ρ' h; cases xs with
          | nil => rfl
          | cons x xs => cases h
        | cons i is ih => intro xs ρ ρ' h; cases xs with
          | nil => cases h
          | cons x xs =>
            simp only [gNames, Option.bind_eq_some_iff] at h
            obtain ⟨ρ1, _, e2⟩ := h
            rw [List.length_cons, List.length_cons, ih xs ρ1 ρ' e2]
      exact ⟨a, us, rfl, ex_t E.ff hs, by rw [dps_len ha, ← hl is xs ρ ρ' hm, hn], names_ok is xs us ρ ρ' σ hm E ha Q fun σ' B => q σ' Hf B⟩
  · cases hm
/-- a, b = x, y -/
def parPut (i j : Nat) (x y : R) (ρ : Env) : Option Env := (Py.gName i x ρ).bind fun ρ1 => Py.gName j y ρ1
theorem ss_par {i j : Nat} {ta tb : TE} {a b : M} (ha : SE K ta a) (hb : SE K tb b) : SS K (tPar i j (tCons ta (tCons tb tNil))) (sPar i j a b) := by
  intro ρ f ρ' σ Hf H hm E D q
  simp only [sPar, Option.bind_eq_some_iff, Option.map_eq_some_iff, Prod.mk.injEq] at hm
  obtain ⟨⟨x, ρ1⟩, e1, ⟨v, ρ2⟩, e2, ⟨y, ρ3⟩, e3, ⟨w, ρ4⟩, e4, ρ5, e5, ρ6, e6, rfl, rfl⟩ := hm
  refine ha ρ x ρ1 σ Hf H e1 E _ fun u Hf1 H1 S1 E1 R1 k1 => ?_
  have B1 : Bh K Hf H ρ σ Hf1 H1 ρ1 := ⟨S1, E1, k1⟩
  obtain ⟨Hf2, B2, d⟩ := B1.frz E R1 e2
  refine hb ρ2 y ρ3 σ Hf2 H1 e3 B2.en _ fun u2 Hf3 H3 S3 E3 R3 k3 => ?_
  have B3' : Bh K Hf2 H1 ρ2 σ Hf3 H3 ρ3 := ⟨S3, E3, k3⟩
  obtain ⟨Hf4, B4', d4⟩ := B3'.frz B2.en R3 e4
  have B4 := B2.trans B4'
  have d' := dp_mono B4'.st.ff _ _ d
  obtain ⟨E5, h1, _, h3⟩ := put_ok (s := .val v) (u := u) B4.en e5 d' fun p h => nomatch h
  obtain ⟨E6, h4, _, h6⟩ := put_ok (s := .val w) (u := u2) E5 e6 d4 fun p h => nomatch h
  refine ⟨u, u2, rfl, q _ Hf4 H3 ⟨B4.st, E6, fun p hp => ?_, fun l => ?_⟩⟩
  · rcases h4 p hp with z | z
    · rcases h1 p z with z | z
      · exact .inl (B4.kp.sub z)
      · cases z.1
    · cases z.1
  · obtain ⟨a1, a2⟩ := h3 l rfl
    obtain ⟨b1, b2⟩ := h6 l rfl
    have c := B4.kp.ref l
    exact ⟨b1.trans (a1.trans c), fun h => (b2 (a1.trans (c.trans h))).trans (a2 (c.trans h))⟩
/-- xs[e] = v -/
theorem ss_setIx {i : Nat} {te ti : TE} {a e : M} (ha : SE K te a) (he : SE K ti e) : SS K (tAsg te (gSub (tVar i) ti rSetL)) (sSetIx i e a) := by
  intro ρ f ρ' σ Hf H hm E D q
  simp only [sSetIx, Option.bind_eq_some_iff, Option.map_eq_some_iff, Prod.mk.injEq] at hm
  obtain ⟨⟨x, ρ1⟩, e1, ⟨v, ρ2⟩, e2, ys, h0, ⟨y, ρ3⟩, e3, c, e4, k, e5, xs, e6, j, e7, rfl, rfl⟩ := hm
  refine ha ρ x ρ1 σ Hf H e1 E _ fun u Hf1 H1 S1 E1 R1 k1 => ?_
  have B1 : Bh K Hf H ρ σ Hf1 H1 ρ1 := ⟨S1, E1, k1⟩
  obtain ⟨Hf2, B2, d⟩ := B1.frz E R1 e2
  obtain ⟨p, o1, s1, f1, ⟨vs, hv, dv⟩, _⟩ := obAt_ok B2.en (lstAt_ok B2.en h0)
  refine ⟨_, slot_at s1, ?_⟩
  refine he ρ2 y ρ3 σ Hf2 H1 e3 B2.en _ fun w Hf3 H3 S3 E3 R3 k3 => ?_
  have B3' : Bh K Hf2 H1 ρ2 σ Hf3 H3 ρ3 := ⟨S3, E3, k3⟩
  have B3 := B2.trans B3'
  have hc := look_ok E3 R3 e4
  unfold intOf at e5
  split at e5
  · cases e5
    cases hc
    obtain ⟨p', o2, s2, f2, ⟨ws, hw, dw⟩, hi⟩ := obAt_ok B3.en (lstAt_ok B3.en e6)
    rw [s1] at s2
    cases s2
    have d' := dp_mono S3.ff _ _ d
    have B4 := B3.trans (mut_ok (o := .lst xs) (o' := .lst (xs.set j v)) (ho := .lst (ws.set j u)) B3.en o2 hi ⟨_, upd_same, dps_set d' _ dw⟩)
    exact ⟨p, ws, k, j, rfl, rfl, hw, by rw [dps_len dw]; exact e7, q σ Hf3 _ B4.s⟩
  · cases e5
theorem ss_fgt {t : TS} {a : SM} (is : List Nat) (ha : SS K t a) : SS K t (sFgt is a) := by
  intro ρ f ρ' σ Hf H hm E D q
  simp only [sFgt, Option.map_eq_some_iff] at hm
  obtain ⟨⟨f1, ρ1⟩, e1, e2⟩ := hm
  refine ha ρ f1 ρ1 σ Hf H e1 E D fun σ' Hf' H' B => ?_
  have e3 : (f = f1 ∧ ρ' = ρ1) ∨ (f = f1 ∧ ρ' = forget is ρ1) := by
    cases f1 <;> (cases e2; first | exact .inl ⟨rfl, rfl⟩ | exact .inr ⟨rfl, rfl⟩)
  rcases e3 with ⟨rfl, rfl⟩ | ⟨rfl, rfl⟩
  · exact q σ' Hf' H' B
  refine q σ' Hf' H' ?_
  have key : ∀ is : List Nat, (forget is ρ1).length = ρ1.length ∧ (∀ j, get (forget is ρ1) j = get ρ1 j ∨ (get (forget is ρ1) j = none ∧ isRef (get ρ1 j) = false)) := by
    intro is
    induction is with
    | nil => exact ⟨rfl, fun _ => .inl rfl⟩
    | cons i is ih =>
      obtain ⟨h1, h2⟩ := ih
      unfold forget
      split
      · exact ⟨h1, h2⟩
      · rename_i nr
        refine ⟨by rw [List.length_set]; exact h1, fun j => ?_⟩
        rw [get_set]
        split
        · rename_i c
          refine .inr ⟨rfl, ?_⟩
          rw [c.1] at nr
          rcases h2 j with z | z
          · rw [z] at nr; simpa using nr
          · exact z.2
        · exact h2 j
  obtain ⟨kl, kg⟩ := key is
  have sub : ∀ j p, OwnAt (forget is ρ1) σ' j p → OwnAt ρ1 σ' j p := fun j p ⟨x, y⟩ => by
    refine ⟨?_, y⟩
    rcases kg j with z | z
    · rw [z] at x; exact x
    · rw [z.1] at x
      cases x
  refine ⟨B.st, ⟨kl.trans B.en.len, B.en.ff, fun j s e => ?_, fun j k p x y => B.en.dis j k p (sub j p x) (sub k p y)⟩, fun p ⟨j, x⟩ => B.own p ⟨j, sub j p x⟩, fun j => ⟨?_, (B.ref j).2⟩⟩
  · rcases kg j with z | z
    · rw [z] at e; exact B.en.sl j s e
    · rw [z.1] at e; cases e
  · rw [← (B.ref j).1]
    rcases kg j with z | z
    · rw [z]
    · rw [z.1, z.2]; rfl
/-- name op= e, of values -/
theorem ss_aug {i : Nat} {te : TE} {a : M} {r : R2} {f : Ct → Ct → Option R} (ha : SE K te a) (hr : OpS K r f) : SS K (tAug i te r) (sAug i f a) := by
  intro ρ fl ρ' σ Hf H hm E D q
  simp only [sAug, Option.bind_eq_some_iff] at hm
  obtain ⟨s, e0, e1⟩ := hm
  obtain ⟨u0, s0, r0⟩ := E.sl i s e0
  cases s with
  | own o => cases e1
  | ref o => cases e1
  | lck kvs => cases e1
  | val v =>
    simp only [Option.bind_eq_some_iff] at e1
    obtain ⟨⟨x, ρ1⟩, e2, c, e3, z, e4, e5⟩ := e1
    refine ⟨u0, slot_at s0, ?_⟩
    refine ha ρ x ρ1 σ Hf H e2 E _ fun u Hf1 H1 S1 E1 R1 k1 => ?_
    have B1 : Bh K Hf H ρ σ Hf1 H1 ρ1 := ⟨S1, E1, k1⟩
    refine hr Hf1 H1 (.pv v) c u0 u z E1.ff (dp_mono S1.ff _ _ r0) (look_ok E1 R1 e3) e4 _ fun w Hf2 H2 S2 R2 => ?_
    have B2 := B1.more S2
    cases z with
    | val z =>
      simp only [Option.map_eq_some_iff, Prod.mk.injEq] at e5
      obtain ⟨ρ2, e6, rfl, rfl⟩ := e5
      obtain ⟨E3, h1, _, h3⟩ := put_ok (s := .val z) (u := w) B2.en e6 R2 fun p h => nomatch h
      refine q _ Hf2 H2 ⟨B2.st, E3, fun p hp => ?_, fun l => ?_⟩
      · rcases h1 p hp with z | z
        · exact .inl (B2.kp.sub z)
        · cases z.1
      · obtain ⟨a1, a2⟩ := h3 l rfl
        have c := B2.kp.ref l
        exact ⟨a1.trans c, fun h => a2 (c.trans h)⟩
    | new o => cases e5
    | bor j => cases e5

/-! ### what a for walks -/
def Walk (K : PySem.W.Frag) (J : It) (xs : List PV) (O : Addr → Prop) (Hf H : Hp) : Prop := ∀ Hf2 H2, Step O Hf H Hf2 H2 → ∀ i : Nat,
  (∀ x, xs[i]? = some x → J.go i H2 ∧ ∀ u H3, J.yld i H2 u H3 → H3 = H2 ∧ Dp K Hf2 u x) ∧ (xs.length ≤ i → J.stop i H2)
def SI (K : PySem.W.Frag) (wi : TI) (m : MI) : Prop := ∀ (ρ : Env) (xs : List PV) (ρ' : Env) (σ : L2.St) (Hf H : Hp), m ρ = some (xs, ρ') → RepE K Hf H ρ σ → ∀ R : It → Hp → Prop,
  (∀ J Hf' H', Bh K Hf H ρ σ Hf' H' ρ' → Walk K J xs (Own ρ' σ) Hf' H' → R J H') → wi σ H R
structure BI (X : Cx) (tg e : Expr) (m : MI) : Prop where
  ex : ∃ wi, PI X tg e wi ∧ SI X.K wi m
/-- a list or a tuple -/
def iSq (K : PySem.W.Frag) (tl : TE) : TI := fun σ H R => tl σ H fun x H1 => ∃ a, x = .ref a ∧ (((∃ xs, SqL K H1 a xs) ∧ R (Itl K a) H1) ∨ ((∃ xs, SqT K H1 a xs) ∧ R (Itt K a) H1))
theorem pi_sq {tg l : Expr} {tl : TE} (hl : PE X l tl) : PI X tg l (iSq X.K tl) := by
  constructor
  intro pins s σ H R I h
  refine thn (hl.run pins s σ H _ I h) ?_
  rintro v s1 ⟨x, Ha, Ia, rx, a, rfl, hc⟩
  cases rx
  have old : ∀ o : Obj, Inv X pins σ Ha { s1 with heap := s1.heap.push o } := fun o => Ia.kept (t' := s1.toks) (fun _ _ z => Heap.get?_push_of_some _ z)
  have fp : ∀ b ∈ [s1.heap.objs.size], FpOk X pins Ha b := by
    intro b hb
    rw [List.mem_singleton.mp hb]
    exact Ia.fpOk (Nat.le_refl _) (Ia.hok.fresh (Nat.le_refl _))
  rcases hc with ⟨⟨xs, hq⟩, q⟩ | ⟨⟨xs, hq⟩, q⟩
  · obtain ⟨its, _, pl, _⟩ := Ia.list hq
    exact wpAny_pyIter_list pl.isList ⟨_, [_], _, _, Ha, rfl, old _, turn_list a _, ⟨_, Heap.get?_push_size _ rfl, rfl, rfl⟩, fp, q⟩
  · obtain ⟨its, _, pl, _⟩ := Ia.tuple hq
    exact wpAny_pyIter_tuple (show s1.heap.IsTuple a its.toArray from pl) ⟨_, [_], _, _, Ha, rfl, old _, turn_tuple a _, ⟨_, Heap.get?_push_size _ rfl, rfl, rfl⟩, fp, q⟩
theorem sqL_fun {a : Addr} {us ws : List V} {H : Hp} (h : SqL K H a us) (h' : SqL K H a ws) : True := trivial
/-- how a list at a is walked -/
theorem walk_l {a : Addr} {us : List V} {xs : List PV} (keep : ∀ Hf2 H2, Step O Hf H Hf2 H2 → SqL K H2 a us) (d : DpAll K Hf us xs) : Walk K (Itl K a) xs O Hf H := by
  intro Hf2 H2 S i
  refine ⟨fun x hx => ?_, fun hi => ⟨us, keep _ _ S, by rw [dps_len d]; exact hi⟩⟩
  obtain ⟨u, h1, h2⟩ := dps_get d hx
  refine ⟨⟨us, u, keep _ _ S, h1⟩, fun u' H3 ⟨e, y⟩ => ⟨e, ?_⟩⟩
  have h3 := y us (keep _ _ S)
  rw [h1] at h3
  cases h3
  exact dp_mono S.ff _ _ h2
theorem walk_t {a : Addr} {us : List V} {xs : List PV} (keep : ∀ Hf2 H2, Step O Hf H Hf2 H2 → SqT K H2 a us) (d : DpAll K Hf us xs) : Walk K (Itt K a) xs O Hf H := by
  intro Hf2 H2 S i
  refine ⟨fun x hx => ?_, fun hi => ⟨us, keep _ _ S, by rw [dps_len d]; exact hi⟩⟩
  obtain ⟨u, h1, h2⟩ := dps_get d hx
  refine ⟨⟨us, u, keep _ _ S, h1⟩, fun u' H3 ⟨e, y⟩ => ⟨e, ?_⟩⟩
  have h3 := y us (keep _ _ S)
  rw [h1] at h3
  cases h3
  exact dp_mono S.ff _ _ h2
theorem si_seq {te : TE} {a : M} (ha : SE K te a) : SI K (iSq K te) (iSeq a) := by
  intro ρ xs ρ' σ Hf H hm E R q
  simp only [iSeq, Option.bind_eq_some_iff] at hm
  obtain ⟨⟨x, ρ1⟩, e1, e2⟩ := hm
  refine ha ρ x ρ1 σ Hf H e1 E _ fun u Hf1 H1 S1 E1 R1 k1 => ?_
  have B1 : Bh K Hf H ρ σ Hf1 H1 ρ1 := ⟨S1, E1, k1⟩
  cases x with
  | val v =>
    have R1' : Dp K Hf1 u v := R1
    cases v with
    | list ys =>
      cases e2
      cases R1' with
      | lst hs d => exact ⟨_, rfl, .inl ⟨⟨_, ex_l E1.ff hs⟩, q _ Hf1 H1 B1 (walk_l (fun Hf2 H2 S => ex_l S.fh (ex_l S.ff hs)) d)⟩⟩
    | tuple ys =>
      cases e2
      cases R1' with
      | tup hs d => exact ⟨_, rfl, .inr ⟨⟨_, ex_t E1.ff hs⟩, q _ Hf1 H1 B1 (walk_t (fun Hf2 H2 S => ex_t S.fh (ex_t S.ff hs)) d)⟩⟩
    | none => cases e2
    | bool b => cases e2
    | int i => cases e2
    | str y => cases e2
    | dict y => cases e2
  | new o =>
    cases o with
    | lst ys =>
      cases e2
      obtain ⟨p, rfl, z, f, us, hu, d⟩ := R1
      exact ⟨p, rfl, .inl ⟨⟨us, SqL.of hu⟩, q _ Hf1 H1 B1 (walk_l (fun Hf2 H2 S => SqL.of (S.keep p _ hu fun w => B1.no E p w z)) d)⟩⟩
    | dct ys => cases e2
  | bor i => cases e2
theorem walk_r {lo : Int} {n : Nat} : Walk K (Itr lo n) (rangeL lo n) O Hf H := by
  intro Hf2 H2 S i
  unfold rangeL
  constructor
  · intro x hx
    rw [List.getElem?_map, Option.map_eq_some_iff] at hx
    obtain ⟨k, h1, rfl⟩ := hx
    obtain ⟨h2, h3⟩ := List.getElem?_eq_some_iff.mp h1
    rw [List.getElem_range] at h3
    subst h3
    rw [List.length_range] at h2
    exact ⟨h2, fun u H3 ⟨e1, e2⟩ => ⟨e1, by rw [e2]; exact .int _⟩⟩
  · intro hi
    have h : n ≤ i := by simpa using hi
    exact h
theorem intOf_some {c : Ct} {i : Int} {u : V} (h : intOf c = some i) (r : RepC K Hf H c u) : u = .int i := by
  unfold intOf at h
  split at h
  · cases h; cases r; rfl
  · cases h
theorem si_rng1 {te : TE} {a : M} (ha : SE K te a) : SI K (L2.iRng1 (tCons te tNil)) (Py.iRng1 a) := by
  intro ρ xs ρ' σ Hf H hm E R q
  simp only [Py.iRng1, Option.bind_eq_some_iff] at hm
  obtain ⟨⟨x, ρ1⟩, e1, c, e2, n, e3, e4⟩ := hm
  split at e4
  · rename_i hz
    cases e4
    refine ha ρ x ρ1 σ Hf H e1 E _ fun u Hf1 H1 S1 E1 R1 k1 => ?_
    have B1 : Bh K Hf H ρ σ Hf1 H1 ρ1 := ⟨S1, E1, k1⟩
    have hl : (line : Int) = 16777216 := rfl
    exact ⟨n, by rw [intOf_some e3 (look_ok E1 R1 e2)], by omega, by omega, q _ Hf1 H1 B1 walk_r⟩
  · cases e4
theorem si_rng2 {te tf : TE} {a b : M} (ha : SE K te a) (hb : SE K tf b) : SI K (L2.iRng2 (tCons te (tCons tf tNil))) (Py.iRng2 a b) := by
  intro ρ xs ρ' σ Hf H hm E R q
  simp only [Py.iRng2, Option.bind_eq_some_iff] at hm
  obtain ⟨⟨x, ρ1⟩, e1, c, e2, n, e3, ⟨y, ρ2⟩, e4, d, e5, k, e6, e7⟩ := hm
  split at e7
  · rename_i hz
    cases e7
    refine ha ρ x ρ1 σ Hf H e1 E _ fun u Hf1 H1 S1 E1 R1 k1 => ?_
    have B1 : Bh K Hf H ρ σ Hf1 H1 ρ1 := ⟨S1, E1, k1⟩
    have eu := intOf_some e3 (look_ok E1 R1 e2)
    refine hb ρ1 y ρ2 σ Hf1 H1 e4 E1 _ fun w Hf2 H2 S2 E2 R2 k2 => ?_
    have B2 := B1.trans (⟨S2, E2, k2⟩ : Bh K Hf1 H1 ρ1 σ Hf2 H2 ρ2)
    exact ⟨n, k, by rw [eu, intOf_some e6 (look_ok E2 R2 e5)], ⟨by omega, by omega, by omega, by omega⟩, q _ Hf2 H2 B2 walk_r⟩
  · cases e7
theorem drop_get {α : Type} {xs : List α} {i : Nat} {x : α} {r : List α} (h : xs.drop i = x :: r) : xs[i]? = some x ∧ xs.drop (i + 1) = r := by
  have h1 : (xs.drop i)[0]? = some x := by rw [h]; rfl
  rw [List.getElem?_drop, Nat.add_zero] at h1
  refine ⟨h1, ?_⟩
  rw [← List.drop_drop, h]
  rfl
/-- the loop: f, ρ' its end -/
theorem loop_ok {J : It} {xs : List PV} {g : TG} {mg : MG} {tb : TS} {b : SM} {f : Fl} {D : Ends} (hg : SG K g mg) (hb : SS K tb b) (E1 : RepE K Hf1 H1 ρ1 σ) (w : Walk K J xs (Own ρ1 σ) Hf1 H1) (hl : loopF mg b xs ρ1 = some (f, ρ'))
    (q : ∀ σ' Hf' H', BhS K Hf1 H1 ρ1 σ Hf' H' ρ' σ' → FlR K D f Hf' H' H1 σ') :
    ∃ W : Nat → Nat → L2.St → Hp → Prop, (∃ m, W 0 m σ H1) ∧ ∀ i m σ H, W i m σ H → (J.stop i H ∧ D.nx σ H) ∨
      (J.go i H ∧ ∃ N : L2.St → Hp → Prop, (∀ σ' H', N σ' H' → ∃ m', m' < m ∧ W (i + 1) m' σ' H') ∧ ∀ x H', J.yld i H x H' → g x σ H' fun σ2 H2 => tb { D with nx := N, ct := N, bk := D.nx } σ2 H2) := by
  refine ⟨fun i m σ2 H2 => m = xs.length - i ∧ i ≤ xs.length ∧ ∃ ρ2 Hf2, loopF mg b (xs.drop i) ρ2 = some (f, ρ') ∧ BhS K Hf1 H1 ρ1 σ Hf2 H2 ρ2 σ2, ⟨_, rfl, Nat.zero_le _, ρ1, Hf1, hl, .refl E1⟩, ?_⟩
  rintro i m σ2 H2 ⟨rfl, hi, ρ2, Hf2, e, B⟩
  obtain ⟨w1, w2⟩ := w Hf2 H2 B.st i
  cases hd : xs.drop i with
  | nil =>
    rw [hd] at e
    cases e
    have hle : xs.length ≤ i := by
      have := congrArg List.length hd
      rw [List.length_drop, List.length_nil] at this
      omega
    exact .inl ⟨w2 hle, q σ2 Hf2 H2 B⟩
  | cons x r =>
    rw [hd] at e
    obtain ⟨hx, hr⟩ := drop_get hd
    have hlt : i < xs.length := (List.getElem?_eq_some_iff.mp hx).1
    obtain ⟨go, yl⟩ := w1 x hx
    simp only [loopF, Option.bind_eq_some_iff] at e
    obtain ⟨ρ3, e1, ⟨fb, ρ4⟩, e2, e3⟩ := e
    refine .inr ⟨go, fun σ' H' => ∃ ρ5 Hf5, loopF mg b (xs.drop (i + 1)) ρ5 = some (f, ρ') ∧ BhS K Hf1 H1 ρ1 σ Hf5 H' ρ5 σ', fun σ' H' ⟨ρ5, Hf5, h1, h2⟩ => ⟨_, by omega, rfl, hlt, ρ5, Hf5, h1, h2⟩, fun u H3 hy => ?_⟩
    obtain ⟨rfl, du⟩ := yl u H3 hy
    refine hg (.val x) ρ2 ρ3 σ2 Hf2 H3 H3 u e1 B.en du (fun p hp => by obtain ⟨⟨o, ho⟩, _⟩ := B.en.there hp; rw [ho]; exact fun z => nomatch z) _ fun σ3 Hf3 B3 => ?_
    have B3' : BhS K Hf1 H1 ρ1 σ Hf3 H3 ρ3 σ3 := B.trans ((Bh.refl B.en).g B3)
    refine hb ρ3 fb ρ4 σ3 Hf3 H3 e2 B3.en _ fun σ4 Hf4 H4 B4 => ?_
    have B4' := B3'.trans B4
    cases fb with
    | nx => exact ⟨ρ4, Hf4, by rw [hr]; exact e3, B4'⟩
    | ct => exact ⟨ρ4, Hf4, by rw [hr]; exact e3, B4'⟩
    | bk => cases e3; exact q σ4 Hf4 H4 B4'
    | rt r' => cases e3; exact (q σ4 Hf4 H4 B4').back fun p hp => B3'.fresh hp
theorem ss_for {wi : TI} {g : TG} {tb : TS} {it : MI} {mg : MG} {b : SM} (hi : SI K wi it) (hg : SG K g mg) (hb : SS K tb b) : SS K (tFor wi g tb) (sFor it mg b) := by
  intro ρ f ρ' σ Hf H hm E D q
  simp only [sFor, Option.bind_eq_some_iff] at hm
  obtain ⟨⟨xs, ρ1⟩, e1, e2⟩ := hm
  refine hi ρ xs ρ1 σ Hf H e1 E _ fun J Hf1 H1 B1 w => ?_
  exact loop_ok hg hb B1.en w e2 fun σ' Hf' H' B => (q σ' Hf' H' (B1.s.trans B)).back fun p hp => B1.fresh hp
theorem whileF_some {t : MT} {b : SM} {x : Fl × Env} (h : sWhile t b ρ = some x) : ∃ n, whileF t b n ρ = some x := by
  unfold sWhile at h
  split at h
  · rename_i c; exact ⟨_, h⟩
  · cases h
theorem ss_while {tt : TT} {tb : TS} {t : MT} {b : SM} (ht : ST K tt t) (hb : SS K tb b) : SS K (tWhile tt tb) (sWhile t b) := by
  intro ρ f ρ' σ Hf H hm E D q
  obtain ⟨n, hn⟩ := whileF_some hm
  refine ⟨fun m σ2 H2 => ∃ ρ2 Hf2, whileF t b m ρ2 = some (f, ρ') ∧ BhS K Hf H ρ σ Hf2 H2 ρ2 σ2, ⟨n, ρ, Hf, hn, .refl E⟩, ?_⟩
  rintro m σ2 H2 ⟨ρ2, Hf2, e, B⟩
  cases m with
  | zero => cases e
  | succ m =>
    simp only [whileF, Option.bind_eq_some_iff] at e
    obtain ⟨⟨x, ρ3⟩, e1, e2⟩ := e
    refine ht ρ2 x ρ3 σ2 Hf2 H2 e1 B.en _ fun Hf3 H3 S3 E3 k3 => ?_
    have B3 := B.trans (⟨S3, E3, k3⟩ : Bh K Hf2 H2 ρ2 σ2 Hf3 H3 ρ3).s
    cases x with
    | false =>
      simp only [Bool.false_eq_true, if_false] at e2 ⊢
      cases e2
      exact q σ2 Hf3 H3 B3
    | true =>
      simp only [if_true, Option.bind_eq_some_iff] at e2 ⊢
      obtain ⟨⟨fb, ρ4⟩, e3, e4⟩ := e2
      refine ⟨fun σ' H' => ∃ ρ5 Hf5, whileF t b m ρ5 = some (f, ρ') ∧ BhS K Hf H ρ σ Hf5 H' ρ5 σ', fun σ' H' h => ⟨m, Nat.lt_succ_self _, h⟩, ?_⟩
      refine hb ρ3 fb ρ4 σ2 Hf3 H3 e3 E3 _ fun σ4 Hf4 H4 B4 => ?_
      have B4' := B3.trans B4
      cases fb with
      | nx => exact ⟨ρ4, Hf4, e4, B4'⟩
      | ct => exact ⟨ρ4, Hf4, e4, B4'⟩
      | bk => cases e4; exact q σ4 Hf4 H4 B4'
      | rt r' => cases e4; exact (q σ4 Hf4 H4 B4').back fun p hp => B3.fresh hp
end

/-! ### the rules -/
section
variable {X : Cx} {a b c : Expr} {ma mb mc : M} {mt : MT} {m n : SM} {st : Stmt} {sts sts2 : List Stmt} {x y : Str} {p p' pos : Pos} {mi : MI} {g : MG}
theorem bss_nil : BSs X [] sNext := ⟨_, pss_nil, ss_next⟩
theorem bss_one (h : BS X st m) : BSs X [st] m := let ⟨t, h1, h2⟩ := h; ⟨_, pss_one h1, h2⟩
theorem bss_cons (h : BS X st m) (hr : BSs X sts n) : BSs X (st :: sts) (sSeq m n) := let ⟨t, h1, h2⟩ := h; let ⟨u, h3, h4⟩ := hr; ⟨_, pss_cons h1 h3, ss_seq h2 h4⟩
theorem bss_fgt (is : List Nat) (h : BSs X sts m) : BSs X sts (sFgt is m) := let ⟨t, h1, h2⟩ := h; ⟨_, h1, ss_fgt is h2⟩
theorem bs_fgt (is : List Nat) (h : BS X st m) : BS X st (sFgt is m) := let ⟨t, h1, h2⟩ := h; ⟨_, h1, ss_fgt is h2⟩
theorem bs_pass : BS X (.Pass pos) sNext := ⟨_, ps_pass, ss_next⟩
theorem bs_brk : BS X (.Break pos) sBrk := ⟨_, ps_break, ss_brk⟩
theorem bs_cont : BS X (.Continue pos) sCont := ⟨_, ps_continue, ss_cont⟩
theorem bs_if (hc : BT X c mt) (ha : BSs X sts m) (hb : BSs X sts2 n) : BS X (.If c sts sts2 pos) (sIf mt m n) := let ⟨t, h1, h2⟩ := hc; let ⟨u, h3, h4⟩ := ha; let ⟨w, h5, h6⟩ := hb; ⟨_, ps_if h1 h3 h5, ss_if h2 h4 h6⟩
theorem bs_ret (ha : BE X a ma) : BS X (.Return (some a) pos) (sRet ma) := let ⟨t, h1, h2⟩ := ha; ⟨_, ps_ret h1, ss_ret h2⟩
theorem bs_retN : BS X (.Return none pos) sRetN := ⟨_, ps_retN, ss_retN⟩
theorem bs_expr (ha : BE X a ma) (hs : swapsWith a none pos.line X.env = pure false := by rfl) : BS X (.Expr a pos) (sExpr ma) := let ⟨t, h1, h2⟩ := ha; ⟨_, ps_expr h1 hs, ss_expr h2⟩
theorem bs_set (i : Nat) (hN : X.N.Nodup) (ha : BE X a ma) (hi : X.N[i]? = some x := by rfl) (hx : Loc X.env.scope x := by first | exact Or.inl rfl | exact Or.inr rfl) (hs : swapsWith a (some (.Name x p')) pos.line X.env = pure false := by rfl)
    (hf : X.fn x = true ∨ X.env.scope.names.lookup x = some .local := by first | exact .inl rfl | exact .inr rfl | assumption) : BS X (.Assign [.Name x p'] a pos) (sAsg ma (Py.gName i)) :=
  let ⟨t, h1, h2⟩ := ha; ⟨_, ps_set hN hi hx h1 hs hf, ss_asg h2 (sg_name i)⟩
theorem bs_asg {tg : Expr} (ha : BE X a ma) (hg : BG X tg g) (hs : swapsWithSole [tg] a pos.line X.env = pure false := by rfl) (hw : swappedStores [tg] a X.env = pure none := by rfl) (h1 : (assignEach [tg] X.env).map (·.2) = [assign tg X.env] := by rfl) : BS X (.Assign [tg] a pos) (sAsg ma g) :=
  let ⟨t, a1, a2⟩ := ha; let ⟨u, g1, g2⟩ := hg; ⟨_, ps_asg a1 g1 hs hw h1, ss_asg a2 g2⟩
theorem bs_par (i j : Nat) {k k2 pt pt2} (hc : X.calm = true) (hN : X.N.Nodup) (ha : BE X a ma) (hb : BE X b mb) (hij : i ≠ j := by decide) (hi : X.N[i]? = some x := by rfl) (hj : X.N[j]? = some y := by rfl) (hx : X.env.scope.names.lookup x = some .local := by rfl) (hy : X.env.scope.names.lookup y = some .local := by rfl)
    (h1 : starEach [a, b] X.env = (false, eval a X.env) :: starEach [b] X.env := by rfl) (h2 : starEach [b] X.env = (false, eval b X.env) :: starEach [] X.env := by rfl)
    (hw : swappedStores [.Tuple [.Name x p, .Name y p'] k pt] (.Tuple [a, b] k2 pt2) X.env = pure (some [x, y]) := by rfl) (hs : swapsWithSole [.Tuple [.Name x p, .Name y p'] k pt] (.Tuple [a, b] k2 pt2) pos.line X.env = pure false := by rfl) :
    BS X (.Assign [.Tuple [.Name x p, .Name y p'] k pt] (.Tuple [a, b] k2 pt2) pos) (sPar i j ma mb) := by
  obtain ⟨t, a1, a2⟩ := ha
  obtain ⟨u, b1, b2⟩ := hb
  exact ⟨_, ps_par hc hN hi hj hij hx hy (pa_cons a1 (pa_cons b1 pa_nil h2) h1) hw hs, ss_par a2 b2⟩
theorem bs_setIx (i : Nat) {e : Expr} {me : M} (ho : PE X (.Name x p) (tVar i)) (he : BE X e me) (ha : BE X a ma) (hs : swapsWithSole [.Subscript (.Name x p) e p'] a pos.line X.env = pure false := by rfl) (hw : swappedStores [.Subscript (.Name x p) e p'] a X.env = pure none := by rfl)
    (h1 : (assignEach [.Subscript (.Name x p) e p'] X.env).map (·.2) = [assign (.Subscript (.Name x p) e p') X.env] := by rfl)
    (hq : ∀ v, assign (.Subscript (.Name x p) e p') X.env v = (do
      let ov ← holding [v] (eval (.Name x p) X.env)
      let iv ← holding [v, ov] (eval e X.env)
      standAt p'
      holding [v, ov, iv] (setItem ov iv v)
      release [v, ov, iv] []) := by intro _; rfl) : BS X (.Assign [.Subscript (.Name x p) e p'] a pos) (sSetIx i me ma) := by
  obtain ⟨t, a1, a2⟩ := ha
  obtain ⟨u, b1, b2⟩ := he
  exact ⟨_, ps_asg a1 (pg_sub ho b1 set_list hq) hs hw h1, ss_setIx a2 b2⟩
theorem bs_aug (i : Nat) {op : Operator} {f : Ct → Ct → Option R} (hN : X.N.Nodup) (ho : OpB X (inplaceOp op) f) (ha : BE X a ma) (hi : X.N[i]? = some x := by rfl) (hx : Loc X.env.scope x := by first | exact Or.inl rfl | exact Or.inr rfl)
    (hf : X.fn x = true ∨ X.env.scope.names.lookup x = some .local := by first | exact .inl rfl | exact .inr rfl | assumption) : BS X (.AugAssign (.Name x p') op a pos) (sAug i f ma) := by
  obtain ⟨r, o1, o2⟩ := ho
  obtain ⟨t, a1, a2⟩ := ha
  exact ⟨_, ps_aug hN hi hx a1 (fun pins s σ H x y v u Q I rx ry q => o1 pins s σ H x y v u Q I rx ry q) hf, ss_aug a2 o2⟩
structure BGs (X : Cx) (ts : List Expr) (is : List Nat) : Prop where
  ex : PGs X ts (tNames is)
theorem bgs_nil : BGs X [] [] := ⟨pgs_nil⟩
theorem bgs_cons (i : Nat) {ts : List Expr} {is : List Nat} (hN : X.N.Nodup) (hr : BGs X ts is) (hi : X.N[i]? = some x := by rfl) (hx : Loc X.env.scope x := by first | exact Or.inl rfl | exact Or.inr rfl) (hf : X.fn x = true ∨ X.env.scope.names.lookup x = some .local := by first | exact .inl rfl | exact .inr rfl | assumption)
    (hs : (assignEach (.Name x p :: ts) X.env).map (·.2) = assign (.Name x p) X.env :: (assignEach ts X.env).map (·.2) := by rfl) : BGs X (.Name x p :: ts) (i :: is) := ⟨pgs_cons (pg_name hN hi hx hf) hr.ex hs⟩
theorem bg_tup {ts : List Expr} {is : List Nat} {k : Nat} (hc : X.calm = true) (h : BGs X ts is) (hn : (assignEach ts X.env).length = is.length := by rfl) (hst : (assignEach ts X.env).findIdx? (·.1) = none := by rfl) : BG X (.Tuple ts k pos) (Py.gTup is) :=
  ⟨_, pg_tup hc h.ex hn hst, sg_tup rfl⟩
theorem bi_seq {tg : Expr} (ha : BE X a ma) : BI X tg a (iSeq ma) := let ⟨t, h1, h2⟩ := ha; ⟨_, pi_sq h1, si_seq h2⟩
theorem bi_rng1 {tg : Expr} (hg : Gl X "range") (hm : X.mg "range" = none) (ha : BE X a ma) (hs : starEach [a] X.env = [(false, eval a X.env)] := by rfl) (hs' : starEach [a] X.env = (false, eval a X.env) :: starEach [] X.env := by rfl) : BI X tg (.Call (.Name "range" p) [a] [] pos) (Py.iRng1 ma) :=
  let ⟨t, h1, h2⟩ := ha; ⟨_, pi_range1 hg hm (pa_cons h1 pa_nil hs') hs, si_rng1 h2⟩
theorem bi_rng2 {tg : Expr} (hg : Gl X "range") (hm : X.mg "range" = none) (ha : BE X a ma) (hb : BE X b mb) (hs : starEach [a, b] X.env = [(false, eval a X.env), (false, eval b X.env)] := by rfl) (hs2 : starEach [b] X.env = [(false, eval b X.env)] := by rfl)
    (h3 : starEach [a, b] X.env = (false, eval a X.env) :: starEach [b] X.env := by rfl) (h4 : starEach [b] X.env = (false, eval b X.env) :: starEach [] X.env := by rfl) : BI X tg (.Call (.Name "range" p) [a, b] [] pos) (Py.iRng2 ma mb) :=
  let ⟨t, h1, h2⟩ := ha; let ⟨u, h5, h6⟩ := hb; ⟨_, pi_range2 hg hm (pa_cons h1 (pa_cons h5 pa_nil h4) h3) hs hs2, si_rng2 h2 h6⟩
theorem bs_for {tg : Expr} (hp : PassesOwn (model X.prog X.w) X.A X.env X.xe) (hc : X.calm = true) (hi : BI X tg a mi) (hg : BG X tg g) (hb : BSs X sts m) (hs : ∀ x, foldedSetIterable a X.env x = pure x := by intro _; rfl) : BS X (.For tg a sts [] pos) (sFor mi g m) :=
  let ⟨t, h1, h2⟩ := hi; let ⟨u, h3, h4⟩ := hg; let ⟨w, h5, h6⟩ := hb; ⟨_, ps_for hp hc h1 h3 h5 hs, ss_for h2 h4 h6⟩
theorem bs_while (hp : PassesOwn (model X.prog X.w) X.A X.env X.xe) (hc : BT X c mt) (hb : BSs X sts m) : BS X (.While c sts [] pos) (sWhile mt m) :=
  let ⟨t, h1, h2⟩ := hc; let ⟨w, h5, h6⟩ := hb; ⟨_, ps_while hp h1 h5, ss_while h2 h6⟩
end
end Py
/-! Py6: comprehensions; defs and their calls. -/
namespace Py
open PySem PySem.Spec PyProof.Rows L2

/-- the reading that a meaning has of itself -/
def rE (K : PySem.W.Frag) (m : M) : TE := fun σ H Q => ∃ (ρ : Env) (r : R) (ρ' : Env) (Hf : Hp), m ρ = some (r, ρ') ∧ RepE K Hf H ρ σ ∧ ∀ u Hf' H', Step (Own ρ σ) Hf H Hf' H' → RepE K Hf' H' ρ' σ → RepR K Hf' H' H σ r u → Kp ρ ρ' → Q u H'
def rT (K : PySem.W.Frag) (m : MT) : TT := fun σ H Q => ∃ (ρ : Env) (b : Bool) (ρ' : Env) (Hf : Hp), m ρ = some (b, ρ') ∧ RepE K Hf H ρ σ ∧ ∀ Hf' H', Step (Own ρ σ) Hf H Hf' H' → RepE K Hf' H' ρ' σ → Kp ρ ρ' → Q b H'
theorem se_rE {K : PySem.W.Frag} {m : M} : SE K (rE K m) m := fun ρ r ρ' σ Hf H hm E Q q => ⟨ρ, r, ρ', Hf, hm, E, q⟩
theorem st_rT {K : PySem.W.Frag} {m : MT} : ST K (rT K m) m := fun ρ r ρ' σ Hf H hm E Q q => ⟨ρ, r, ρ', Hf, hm, E, q⟩
theorem BE.can {X : Cx} {e : Expr} {m : M} (h : BE X e m) : PE X e (rE X.K m) := by
  obtain ⟨te, h1, h2⟩ := h
  exact ⟨fun pins s σ H Q I ⟨ρ, r, ρ', Hf, hm, E, q⟩ => h1.run pins s σ H Q I (h2 ρ r ρ' σ Hf H hm E Q q)⟩
theorem BT.can {X : Cx} {e : Expr} {m : MT} (h : BT X e m) : PT X e (rT X.K m) := by
  obtain ⟨te, h1, h2⟩ := h
  exact ⟨fun pins s σ H Q I ⟨ρ, r, ρ', Hf, hm, E, q⟩ => h1.run pins s σ H Q I (h2 ρ r ρ' σ Hf H hm E Q q)⟩
structure BTs (X : Cx) (ifs : List Expr) (m : MT) : Prop where
  ex : ∃ tt, PTs X ifs tt ∧ ST X.K tt m
theorem bts_nil {X : Cx} : BTs X [] tYes := ⟨_, pts_nil, fun ρ r ρ' σ Hf H hm E Q q => by cases hm; exact q Hf H (.refl E.ff) E .refl⟩
theorem bts_one {X : Cx} {c : Expr} {m : MT} (h : BT X c m) : BTs X [c] m := let ⟨t, h1, h2⟩ := h; ⟨_, pts_one h1, h2⟩
theorem BTs.can {X : Cx} {e : List Expr} {m : MT} (h : BTs X e m) : PTs X e (rT X.K m) := by
  obtain ⟨te, h1, h2⟩ := h
  exact ⟨fun pins s σ H Q I ⟨ρ, r, ρ', Hf, hm, E, q⟩ => h1.run pins s σ H Q I (h2 ρ r ρ' σ Hf H hm E Q q)⟩

section
variable {K : PySem.W.Frag} {Hf H Hf' H' Hf1 H1 Hf2 H2 H0 : Hp} {ρ ρ' ρ1 ρ2 : Env} {σ σ' σ1 σ2 : L2.St} {O O' O1 : Addr → Prop} {X : Cx}
theorem get_wipe (vs : List Nat) (j : Nat) : get (Py.wipe ρ vs) j = if j ∈ vs then none else get ρ j := by
  induction vs with
  | nil => simp [Py.wipe]
  | cons v vs ih =>
    unfold Py.wipe
    rw [get_set, ih]
    by_cases h : v = j
    · subst h
      by_cases hl : v < (Py.wipe ρ vs).length
      · simp [hl]
      · rw [if_neg (fun z => hl z.2)]
        have : get ρ v = none := by
          have wl : ∀ vs : List Nat, (Py.wipe ρ vs).length = ρ.length := fun vs => by
            induction vs with
            | nil => rfl
            | cons w ws ih => unfold Py.wipe; rw [List.length_set]; exact ih
          rw [wl] at hl
          unfold get
          rw [List.getElem?_eq_none (by omega)]
          rfl
        simp [this]
    · rw [if_neg (fun z => h z.1)]
      simp only [List.mem_cons]
      by_cases hj : j ∈ vs
      · simp [hj]
      · simp [hj, Ne.symm h]
theorem wipe_len (vs : List Nat) : (Py.wipe ρ vs).length = ρ.length := by
  induction vs with
  | nil => rfl
  | cons w ws ih => unfold Py.wipe; rw [List.length_set]; exact ih
theorem slot_wipe (vs : List Nat) (j : Nat) : slot (L2.wipe σ vs) j = if j ∈ vs then none else slot σ j := by
  induction vs with
  | nil => simp [L2.wipe]
  | cons v vs ih =>
    unfold L2.wipe
    rw [slot_set, ih]
    by_cases h : v = j
    · subst h
      by_cases hl : v < (L2.wipe σ vs).length
      · simp [hl]
      · rw [if_neg (fun z => hl z.2)]
        have : slot σ v = none := by
          rw [wipe_length] at hl
          unfold slot
          rw [List.getElem?_eq_none (by omega)]
          rfl
        simp [this]
    · rw [if_neg (fun z => h z.1)]
      simp only [List.mem_cons]
      by_cases hj : j ∈ vs
      · simp [hj]
      · simp [hj, Ne.symm h]
theorem RepE.wipe (E : RepE K Hf H ρ σ) (vs : List Nat) : RepE K Hf H (Py.wipe ρ vs) (L2.wipe σ vs) := by
  have sub : ∀ j p, OwnAt (Py.wipe ρ vs) (L2.wipe σ vs) j p → OwnAt ρ σ j p := fun j p ⟨a, b⟩ => by
    rw [get_wipe] at a
    rw [slot_wipe] at b
    by_cases hj : j ∈ vs
    · rw [if_pos hj] at a; cases a
    · rw [if_neg hj] at a b; exact ⟨a, b⟩
  refine ⟨by rw [wipe_len, wipe_length]; exact E.len, E.ff, fun j s e => ?_, fun j k p a b => E.dis j k p (sub j p a) (sub k p b)⟩
  rw [get_wipe] at e
  rw [slot_wipe]
  by_cases hj : j ∈ vs
  · rw [if_pos hj] at e; cases e
  · rw [if_neg hj] at e ⊢; exact E.sl j s e
theorem wipe_get? (σ : L2.St) (vs : List Nat) (j : Nat) : (L2.wipe σ vs)[j]? = if j ∈ vs ∧ j < σ.length then some none else σ[j]? := by
  induction vs with
  | nil => simp [L2.wipe]
  | cons v vs ih =>
    unfold L2.wipe
    by_cases h : v = j
    · subst h
      by_cases hl : v < σ.length
      · rw [List.getElem?_set_self (by rw [wipe_length]; exact hl)]; simp [hl]
      · rw [List.getElem?_eq_none (by rw [List.length_set, wipe_length]; omega)]; simp [hl]
    · rw [List.getElem?_set_ne h, ih]
      simp [Ne.symm h]
/-- a target of a comprehension: it stores at the block's own names alone -/
structure TgIn (g : TG) (mg : MG) (vs : List Nat) : Prop where
  a : ∀ u σ H Q, g u σ H Q → g u σ H fun σ2 H2 => Q σ2 H2 ∧ L2.wipe σ2 vs = L2.wipe σ vs
  b : ∀ v ρ ρ', mg (.val v) ρ = some ρ' → ∀ j, j ∉ vs → get ρ' j = get ρ j
  c : ∀ u σ H (Q Q' : L2.St → Hp → Prop), (∀ σ2 H2, Q σ2 H2 → Q' σ2 H2) → g u σ H Q → g u σ H Q'
theorem wipe_set {vs : List Nat} {i : Nat} (h : i ∈ vs) (x : Option V) : L2.wipe (σ.set i x) vs = L2.wipe σ vs := by
  apply List.ext_getElem?
  intro j
  rw [wipe_get?, wipe_get?, List.length_set]
  by_cases hj : j ∈ vs ∧ j < σ.length
  · rw [if_pos hj, if_pos hj]
  · rw [if_neg hj, if_neg hj]
    by_cases e : i = j
    · subst e
      have : ¬ i < σ.length := fun z => hj ⟨h, z⟩
      rw [List.getElem?_eq_none (by rw [List.length_set]; omega), List.getElem?_eq_none (by omega)]
    · rw [List.getElem?_set_ne e]
theorem tgIn_name {i : Nat} {vs : List Nat} (h : i ∈ vs) : TgIn (L2.gName i) (Py.gName i) vs := ⟨fun u σ H Q q => ⟨q, wipe_set h _⟩, fun v ρ ρ' hm j hj => by
  have hm' : put i (some (.val v)) ρ = some ρ' := hm
  unfold put at hm'
  split at hm'
  · cases hm'
  · cases hm'
    rw [get_set, if_neg]
    rintro ⟨rfl, _⟩
    exact hj h, fun u σ H Q Q' h q => h _ _ q⟩
theorem tgIn_tup {is vs : List Nat} {n : Nat} (h : ∀ i ∈ is, i ∈ vs) : TgIn (L2.gTup K n (tNames is)) (Py.gTup is) vs := by
  have key : ∀ (is : List Nat), (∀ i ∈ is, i ∈ vs) → ∀ us σ H Q, tNames is us σ H Q → tNames is us σ H fun σ2 H2 => Q σ2 H2 ∧ L2.wipe σ2 vs = L2.wipe σ vs := by
    intro is
    induction is with
    | nil => intro _ us σ H Q q; exact ⟨q.1, q.2, rfl⟩
    | cons i is ih =>
      intro h us σ H Q q
      obtain ⟨v, r, e, q⟩ := q
      refine ⟨v, r, e, ?_⟩
      have q' := ih (fun j hj => h j (List.mem_cons_of_mem _ hj)) r (σ.set i (some v)) H Q q
      have e2 : L2.wipe (σ.set i (some v)) vs = L2.wipe σ vs := wipe_set (h i List.mem_cons_self) _
      rw [e2] at q'
      exact q'
  have key2 : ∀ (is : List Nat), (∀ i ∈ is, i ∈ vs) → ∀ xs ρ ρ', gNames is xs ρ = some ρ' → ∀ j, j ∉ vs → get ρ' j = get ρ j := by
    intro is
    induction is with
    | nil => intro _ xs ρ ρ' hm j hj; cases xs with
      | nil => cases hm; rfl
      | cons x xs => cases hm
    | cons i is ih => intro h xs ρ ρ' hm j hj; cases xs with
      | nil => cases hm
      | cons x xs =>
        simp only [gNames, Option.bind_eq_some_iff] at hm
        obtain ⟨ρ1, e1, e2⟩ := hm
        rw [ih (fun j hj => h j (List.mem_cons_of_mem _ hj)) xs ρ1 ρ' e2 j hj]
        exact (tgIn_name (h i List.mem_cons_self)).b x ρ ρ1 e1 j hj
  have key3 : ∀ (is : List Nat) us σ H (Q Q' : L2.St → Hp → Prop), (∀ σ2 H2, Q σ2 H2 → Q' σ2 H2) → tNames is us σ H Q → tNames is us σ H Q' := by
    intro is
    induction is with
    | nil => intro us σ H Q Q' h q; exact ⟨q.1, h _ _ q.2⟩
    | cons i is ih =>
      intro us σ H Q Q' h q
      obtain ⟨v, r, e, q⟩ := q
      exact ⟨v, r, e, ih r _ H Q Q' h q⟩
  refine ⟨fun u σ H Q ⟨a, xs, e, hs, hl, q⟩ => ⟨a, xs, e, hs, hl, key is h xs σ H Q q⟩, fun v ρ ρ' hm j hj => ?_, fun u σ H Q Q' h' ⟨a, xs, e, hs, hl, q⟩ => ⟨a, xs, e, hs, hl, key3 is xs σ H Q Q' h' q⟩⟩
  unfold Py.gTup at hm
  split at hm
  · exact key2 is h _ ρ ρ' hm j hj
  · cases hm
/-- one object, which is nobody's, is laid or changed -/
theorem Step.at {D : Addr} {o : HO} (e : Ex Hf H) (f : Hf D = none) : Step (fun a => a = D) Hf H Hf (upd H D o) := by
  refine ⟨fun _ _ h => h, fun a u h => by rw [upd_ne (ne_of_none h f)]; exact e a u h, fun a u h n => by rw [upd_ne n]; exact h, fun _ _ _ _ => rfl, fun a u h => ?_⟩
  by_cases z : a = D
  · subst z; exact ⟨_, upd_same⟩
  · exact ⟨u, by rw [upd_ne z]; exact h⟩
/-- what a comprehension's turns leave of the names -/
def Nm (vs : List Nat) (ρ1 ρ2 : Env) : Prop := ρ2.length = ρ1.length ∧ ∀ j, j ∉ vs → (isOb (get ρ2 j) = true → isOb (get ρ1 j) = true) ∧ isRef (get ρ2 j) = isRef (get ρ1 j)
theorem own_wipe {vs : List Nat} (n : Nm vs ρ1 ρ2) {p : Addr} (h : Own (Py.wipe ρ2 vs) (L2.wipe σ vs) p) : Own (Py.wipe ρ1 vs) (L2.wipe σ vs) p := by
  obtain ⟨j, a, b⟩ := h
  refine ⟨j, ?_, b⟩
  rw [get_wipe] at a ⊢
  by_cases hj : j ∈ vs
  · rw [if_pos hj] at a; cases a
  · rw [if_neg hj] at a ⊢; exact (n.2 j hj).1 a
structure LcS (K : PySem.W.Frag) (Hf1 H1 : Hp) (ρ1 : Env) (σ : L2.St) (vs : List Nat) (D : Addr) (n : Nat) (done : List PV) (ρ2 : Env) (Hf2 H2 : Hp) : Prop where
  acc : ∃ us, H2 D = some (.lst us) ∧ DpAll K Hf2 us done
  few : done.length ≤ n
  fd : Hf2 D = none
  st : Step (Own (Py.wipe ρ1 vs) (L2.wipe σ vs)) Hf1 H1 Hf2 H2
  en : RepE K Hf2 H2 (Py.wipe ρ2 vs) (L2.wipe σ vs)
  nm : Nm vs ρ1 ρ2
theorem get_back (vs : List Nat) (j : Nat) (ρ0 : Env) : get (back ρ0 vs ρ) j = if j ∈ vs ∧ j < ρ.length then get ρ0 j else get ρ j := by
  have bl : ∀ vs : List Nat, (back ρ0 vs ρ).length = ρ.length := fun vs => by
    induction vs with
    | nil => rfl
    | cons v vs ih => unfold back; rw [List.length_set]; exact ih
  induction vs with
  | nil => simp [back]
  | cons v vs ih =>
    unfold back
    rw [get_set, ih, bl]
    by_cases h : v = j
    · subst h
      by_cases hl : v < ρ.length
      · simp [hl]
      · simp [hl]
    · rw [if_neg (fun z => h z.1)]
      simp only [List.mem_cons, Ne.symm h, false_or]
theorem back_len (vs : List Nat) (ρ0 : Env) : (back ρ0 vs ρ).length = ρ.length := by
  induction vs with
  | nil => rfl
  | cons v vs ih => unfold back; rw [List.length_set]; exact ih
/-- behind the comprehension -/
theorem lc_end {vs : List Nat} {D : Addr} {n : Nat} {done : List PV} (E1 : RepE K Hf1 H1 ρ1 σ) (hD : H1 D = none) (L : LcS K Hf1 H1 ρ1 σ vs D n done ρ2 Hf2 H2) :
    Bh K Hf1 H1 ρ1 σ Hf2 H2 (back ρ1 vs ρ2) ∧ RepR K Hf2 H2 H1 σ (.new (.lst done)) (.ref D) := by
  obtain ⟨us, h1, h2⟩ := L.acc
  have wsub : ∀ p, Own (Py.wipe ρ1 vs) (L2.wipe σ vs) p → ∃ j, j ∉ vs ∧ OwnAt ρ1 σ j p := fun p ⟨j, a, b⟩ => by
    rw [get_wipe] at a
    rw [slot_wipe] at b
    by_cases hj : j ∈ vs
    · rw [if_pos hj] at a; cases a
    · rw [if_neg hj] at a b; exact ⟨j, hj, a, b⟩
  have gb : ∀ j, get (back ρ1 vs ρ2) j = if j ∈ vs then get ρ1 j else get ρ2 j := fun j => by
    rw [get_back]
    by_cases hj : j ∈ vs
    · by_cases hl : j < ρ2.length
      · rw [if_pos ⟨hj, hl⟩, if_pos hj]
      · rw [if_neg (fun z => hl z.2), if_pos hj]
        have l1 : ¬ j < ρ1.length := by rw [← L.nm.1]; exact hl
        unfold get
        rw [List.getElem?_eq_none (by omega), List.getElem?_eq_none (by omega)]
    · rw [if_neg (fun z => hj z.1), if_neg hj]
  have ob : ∀ j, isOb (get (back ρ1 vs ρ2) j) = true → isOb (get ρ1 j) = true := fun j h => by
    rw [gb] at h
    by_cases hj : j ∈ vs
    · rw [if_pos hj] at h; exact h
    · rw [if_neg hj] at h; exact (L.nm.2 j hj).1 h
  refine ⟨⟨L.st.weak fun p hp => .inl (let ⟨j, _, h⟩ := wsub p hp; ⟨j, h⟩), ⟨?_, L.en.ff, fun j s e => ?_, fun j k p a b => E1.dis j k p ⟨ob j a.1, a.2⟩ ⟨ob k b.1, b.2⟩⟩, ⟨ob, fun j => ?_⟩⟩, ⟨D, rfl, hD, L.fd, us, h1, h2⟩⟩
  · rw [back_len, L.nm.1]; exact E1.len
  · rw [gb] at e
    by_cases hj : j ∈ vs
    · rw [if_pos hj] at e
      obtain ⟨u, a, b⟩ := E1.sl j s e
      refine ⟨u, a, b.step L.st fun p ho hu hp => ?_⟩
      obtain ⟨k, hk, ok⟩ := wsub p hp
      have : j = k := E1.dis j k p ⟨by rw [e]; exact ho, by rw [a, hu]⟩ ok
      exact hk (this ▸ hj)
    · rw [if_neg hj] at e
      have e' : get (Py.wipe ρ2 vs) j = some s := by rw [get_wipe, if_neg hj]; exact e
      obtain ⟨u, a, b⟩ := L.en.sl j s e'
      rw [slot_wipe, if_neg hj] at a
      exact ⟨u, a, b⟩
  · rw [gb]
    by_cases hj : j ∈ vs
    · rw [if_pos hj]
    · rw [if_neg hj]; exact (L.nm.2 j hj).2
theorem lc_turn {g : TG} {mg : MG} {tt : TT} {te : TE} {t : MT} {e : M} {vs : List Nat} {D : Addr} {n : Nat} {done ys : List PV} {x : PV} {u : V} {ρ3 : Env} (hg : SG K g mg) (hv : TgIn g mg vs) (ht : ST K tt t) (he : SE K te e) (hD : H1 D = none) (E1 : RepE K Hf1 H1 ρ1 σ)
    (hz : n < line) (L : LcS K Hf1 H1 ρ1 σ vs D n done ρ2 Hf2 H2) (hx : Dp K Hf2 u x) (hm : lcTurn mg vs t e x ρ2 = some (ys, ρ3)) {Nx : Hp → Prop} (hN : ∀ Hf3 H3, LcS K Hf1 H1 ρ1 σ vs D (n + 1) (done ++ ys) ρ3 Hf3 H3 → Nx H3) :
    g u (L2.wipe σ vs) H2 fun σ2 H3 => L2.wipe σ2 vs = L2.wipe σ vs ∧ tt σ2 H3 fun b H4 =>
      if b = true then te σ2 H4 fun y H5 => ∃ acc, H5 D = some (.lst acc) ∧ acc.length < sizeLine ∧ Nx (upd H5 D (.lst (acc ++ [y]))) else Nx H4 := by
  simp only [lcTurn, Option.bind_eq_some_iff] at hm
  obtain ⟨ρ4, e1, ⟨b, ρ5⟩, e2, e3⟩ := hm
  have ww : L2.wipe (L2.wipe σ vs) vs = L2.wipe σ vs := by
    apply List.ext_getElem?
    intro j
    rw [wipe_get?, wipe_length, wipe_get?]
    by_cases hj : j ∈ vs ∧ j < σ.length <;> simp [hj]
  have kn : ∀ q, Own (Py.wipe ρ2 vs) (L2.wipe σ vs) q → H2 q ≠ none := fun q hq z => by
    obtain ⟨⟨o, ho⟩, _⟩ := L.en.there hq
    rw [z] at ho; cases ho
  have g1 : g u (L2.wipe σ vs) H2 fun σ4 H3 => H3 = H2 ∧ ∃ Hf4, BhG K Hf2 H2 H2 (Py.wipe ρ2 vs) (L2.wipe σ vs) Hf4 ρ4 σ4 := hg (.val x) (Py.wipe ρ2 vs) ρ4 (L2.wipe σ vs) Hf2 H2 H2 u e1 L.en hx kn _ fun σ4 Hf4 B4 => ⟨rfl, Hf4, B4⟩
  refine hv.c u _ _ _ _ ?_ (hv.a u _ _ _ g1)
  rintro σ4 H3 ⟨⟨rfl, Hf4, B4⟩, w4⟩
  rw [ww] at w4
  refine ⟨w4, ?_⟩
  obtain ⟨us, hus, dus⟩ := L.acc
  -- the new list is none of the names' objects
  have own4 : ∀ p, Own ρ4 σ4 p → Own (Py.wipe ρ1 vs) (L2.wipe σ vs) p ∨ H1 p = none ∧ H3 p = none := fun p hp => by
    rcases B4.own p hp with z | z
    · exact .inl (own_wipe L.nm z)
    · exact .inr ⟨L.st.fresh z, z⟩
  have nD1 : ¬ Own (Py.wipe ρ1 vs) (L2.wipe σ vs) D := fun ⟨j, a, b⟩ => by
    rw [get_wipe] at a
    rw [slot_wipe] at b
    by_cases hj : j ∈ vs
    · rw [if_pos hj] at a; cases a
    · rw [if_neg hj] at a b
      obtain ⟨⟨o, ho⟩, _⟩ := E1.there ⟨j, a, b⟩
      rw [hD] at ho; cases ho
  have nD4 : ¬ Own ρ4 σ4 D := fun h => by
    rcases own4 D h with z | ⟨_, z⟩
    · exact nD1 z
    · rw [hus] at z; cases z
  have nm4 : ∀ j, j ∉ vs → get ρ4 j = get ρ2 j := fun j hj => by rw [hv.b x _ _ e1 j hj, get_wipe, if_neg hj]
  have len4 : ρ4.length = ρ1.length := by
    rw [B4.en.len, ← wipe_length σ4 vs, w4, wipe_length, ← E1.len]
  have st4 : Step (Own (Py.wipe ρ1 vs) (L2.wipe σ vs)) Hf1 H1 Hf4 H3 := L.st.trans B4.st fun p hp => by
    rcases hp with z | z
    · exact .inl (own_wipe L.nm z)
    · exact .inr (L.st.fresh z)
  have fd4 : Hf4 D = none := by rw [B4.st.nof D _ hus (fun z => by rcases z with z | z; exact nD1 (own_wipe L.nm z); rw [hus] at z; cases z)]; exact L.fd
  -- behind what was evaluated in the block
  have fin : ∀ {Hf5 H5 : Hp} {ρ5 : Env}, Bh K Hf4 H3 ρ4 σ4 Hf5 H5 ρ5 → Step (Own (Py.wipe ρ1 vs) (L2.wipe σ vs)) Hf1 H1 Hf5 H5 ∧ RepE K Hf5 H5 (Py.wipe ρ5 vs) (L2.wipe σ vs) ∧ Nm vs ρ1 ρ5 ∧ H5 D = some (.lst us) ∧ Hf5 D = none ∧ DpAll K Hf5 us done := fun {Hf5 H5 ρ5} B => by
    refine ⟨st4.trans B.st fun p hp => (own4 p hp).imp id (·.1), ?_, ⟨?_, fun j hj => ⟨fun h => ?_, ?_⟩⟩, B.st.keep D _ hus nD4, ?_, dps_mono B.st.ff _ _ (dps_mono B4.st.ff _ _ dus)⟩
    · have := B.en.wipe vs
      rw [w4] at this
      exact this
    · rw [B.en.len, ← B4.en.len]; exact len4
    · have h4 := B.kp.own j h
      rw [nm4 j hj] at h4
      exact (L.nm.2 j hj).1 h4
    · rw [B.kp.ref j, nm4 j hj]; exact (L.nm.2 j hj).2
    · rw [B.st.nof D _ hus nD4]; exact fd4
  refine ht ρ4 b ρ5 σ4 Hf4 H3 e2 B4.en _ fun Hf5 H5 S5 E5 k5 => ?_
  have B5 : Bh K Hf4 H3 ρ4 σ4 Hf5 H5 ρ5 := ⟨S5, E5, k5⟩
  cases b with
  | false =>
    simp only [Bool.false_eq_true, if_false] at e3 ⊢
    cases e3
    obtain ⟨f1, f2, f3, f4, f5, f6⟩ := fin B5
    rw [List.append_nil] at hN
    exact hN Hf5 H5 ⟨⟨us, f4, f6⟩, Nat.le_succ_of_le L.few, f5, f1, f2, f3⟩
  | true =>
    simp only [if_true, Option.bind_eq_some_iff, Option.map_eq_some_iff, Prod.mk.injEq] at e3 ⊢
    obtain ⟨⟨r, ρ6⟩, e4, ⟨v, ρ7⟩, e5, rfl, rfl⟩ := e3
    refine he ρ5 r ρ6 σ4 Hf5 H5 e4 E5 _ fun y Hf6 H6 S6 E6 R6 k6 => ?_
    have B6 : Bh K Hf5 H5 ρ5 σ4 Hf6 H6 ρ6 := ⟨S6, E6, k6⟩
    obtain ⟨Hf7, B7, d7⟩ := B6.frz E5 R6 e5
    obtain ⟨f1, f2, f3, f4, f5, f6⟩ := fin (B5.trans B7)
    have lu : us.length = done.length := dps_len f6
    have st := Step.at (o := .lst (us ++ [y])) f2.ff f5
    refine ⟨us, f4, by rw [← line_eq, lu]; exact Nat.lt_of_le_of_lt L.few hz, hN Hf7 _ ⟨⟨us ++ [y], upd_same, dps_app f6 (.cons d7 .nil)⟩, by rw [List.length_append]; exact Nat.succ_le_succ L.few, f5, f1.trans st fun p hp => .inr (by rw [hp]; exact hD), f2.step st fun p hp z => ?_, f3⟩⟩
    rw [z] at hp
    exact nD1 (own_wipe f3 hp)
theorem lcF_some {f : PV → Env → Option (List PV × Env)} {x : PV} {xs : List PV} {z : List PV × Env} (h : lcF f (x :: xs) ρ = some z) : ∃ ys ρ2 zs, f x ρ = some (ys, ρ2) ∧ lcF f xs ρ2 = some (zs, z.2) ∧ z.1 = ys ++ zs := by
  simp only [lcF, Option.bind_eq_some_iff, Option.map_eq_some_iff] at h
  obtain ⟨⟨ys, ρ2⟩, e1, ⟨zs, ρ3⟩, e2, rfl⟩ := h
  exact ⟨ys, ρ2, zs, e1, e2, rfl⟩
theorem se_lc {wi : TI} {g : TG} {tt : TT} {te : TE} {it : MI} {mg : MG} {t : MT} {e : M} (vs : List Nat) (hi : SI K wi it) (hg : SG K g mg) (hv : TgIn g mg vs) (ht : ST K tt t) (he : SE K te e) : SE K (tLc wi g tt te vs) (mLc it mg vs t e) := by
  intro ρ r ρ' σ Hf H hm E Q q
  simp only [mLc, Option.bind_eq_some_iff] at hm
  obtain ⟨⟨xs, ρ1⟩, e1, e2⟩ := hm
  split at e2
  · rename_i hz
    simp only [Option.map_eq_some_iff, Prod.mk.injEq] at e2
    obtain ⟨⟨total, ρe⟩, e3, rfl, rfl⟩ := e2
    refine hi ρ xs ρ1 σ Hf H e1 E _ fun J Hf1 H1 B1 w => ?_
    intro D hD
    have fD : Hf1 D = none := by
      cases z : Hf1 D with
      | none => rfl
      | some o => have := B1.en.ff D o z; rw [hD] at this; cases this
    have st0 := Step.at (o := .lst []) B1.en.ff fD
    have wsub : ∀ p, Own (Py.wipe ρ1 vs) (L2.wipe σ vs) p → Own ρ1 σ p := fun p ⟨j, a, b⟩ => by
      rw [get_wipe] at a
      rw [slot_wipe] at b
      by_cases hj : j ∈ vs
      · rw [if_pos hj] at a; cases a
      · rw [if_neg hj] at a b; exact ⟨j, a, b⟩
    refine ⟨fun i m H2 => m = xs.length - i ∧ i ≤ xs.length ∧ ∃ ρ2 Hf2 done rest, lcF (lcTurn mg vs t e) (xs.drop i) ρ2 = some (rest, ρe) ∧ total = done ++ rest ∧ LcS K Hf1 H1 ρ1 σ vs D i done ρ2 Hf2 H2,
      ⟨_, rfl, Nat.zero_le _, ρ1, Hf1, [], total, e3, rfl, ⟨⟨[], upd_same, .nil⟩, Nat.le_refl _, fD, st0.weak fun p hp => .inr (by rw [hp]; exact hD), ?_, rfl, fun j _ => ⟨id, rfl⟩⟩⟩, ?_⟩
    · refine (B1.en.wipe vs).step st0 fun p hp z => ?_
      obtain ⟨⟨o, ho⟩, _⟩ := B1.en.there (wsub p hp)
      rw [z, hD] at ho; cases ho
    · rintro i m H2 ⟨rfl, hi', ρ2, Hf2, done, rest, h1, rfl, L⟩
      obtain ⟨w1, w2⟩ := w Hf2 H2 (L.st.weak fun p hp => .inl (wsub p hp)) i
      cases hd : xs.drop i with
      | nil =>
        rw [hd] at h1
        cases h1
        have hle : xs.length ≤ i := by
          have := congrArg List.length hd
          rw [List.length_drop, List.length_nil] at this
          omega
        refine .inl ⟨w2 hle, ?_⟩
        obtain ⟨Be, Re⟩ := lc_end B1.en hD L
        rw [List.append_nil] at q
        have B := B1.trans Be
        exact q _ Hf2 H2 B.st B.en (Re.back fun p hp => B1.fresh hp) B.kp
      | cons x xr =>
        rw [hd] at h1
        obtain ⟨hx, hr⟩ := drop_get hd
        have hlt : i < xs.length := (List.getElem?_eq_some_iff.mp hx).1
        obtain ⟨go, yl⟩ := w1 x hx
        obtain ⟨ys, ρ3, zs, t1, t2, t3⟩ := lcF_some h1
        have t3' : rest = ys ++ zs := t3
        subst t3'
        refine .inr ⟨go, fun H' => ∃ Hf3, LcS K Hf1 H1 ρ1 σ vs D (i + 1) (done ++ ys) ρ3 Hf3 H', fun H' ⟨Hf3, L3⟩ => ⟨_, by omega, rfl, hlt, ρ3, Hf3, done ++ ys, zs, by rw [hr]; exact t2, by rw [List.append_assoc], L3⟩, fun u H3 hy => ?_⟩
        obtain ⟨rfl, du⟩ := yl u H3 hy
        exact lc_turn hg hv ht he hD B1.en (Nat.lt_of_lt_of_le hlt hz) L du t1 fun Hf3 H4 L3 => ⟨Hf3, L3⟩
  · cases e2
end
section
variable {X : Cx} {elt tg iter : Expr} {ifs : List Expr} {scope : Scope} {pos : Pos} {mi : MI} {mt : MT} {me : M} {x y : Str} {p : Pos}
/-- [elt for x in iter if ..] -/
theorem be_lcN (i : Nat) (own : List (Str × Nat)) (hc : X.calm = true) (hN : X.N.Nodup) (hi : BI X (.Name x p) iter mi) (ok : blkC X.N X.env.scope scope own = true) (hm : i ∈ own.map (·.2)) (hx : X.N[i]? = some x)
    (hg : ∀ (s : Shared) (H : Hp) (C : Addr) (cl : List (Str × Addr)) (fp : List Addr), PG (X.blk s H scope (compEnvC scope cl C X.env) fp) (.Name x p) (L2.gName i))
    (ht : ∀ (s : Shared) (H : Hp) (C : Addr) (cl : List (Str × Addr)) (fp : List Addr), BTs (X.blk s H scope (compEnvC scope cl C X.env) fp) ifs mt)
    (he : ∀ (s : Shared) (H : Hp) (C : Addr) (cl : List (Str × Addr)) (fp : List Addr), BE (X.blk s H scope (compEnvC scope cl C X.env) fp) elt me) (hs : ∀ x, foldedSetIterable iter X.env x = pure x := by intro _; rfl) :
    BE X (.ListComp elt [⟨.Name x p, iter, ifs, 0⟩] scope pos) (mLc mi (Py.gName i) (own.map (·.2)) mt me) := by
  obtain ⟨wi, h1, h2⟩ := hi
  exact ⟨_, pe_lc hc hN h1 (blkOk_by ok) hg (fun s H C cl fp => (ht s H C cl fp).can) (fun s H C cl fp => (he s H C cl fp).can) hs, se_lc _ h2 (sg_name i) (tgIn_name hm) st_rT se_rE⟩
theorem bs_setLcN (j : Nat) (i : Nat) (own : List (Str × Nat)) {py spos : Pos} (hc : X.calm = true) (hN : X.N.Nodup) (hj : X.N[j]? = some y) (hyl : X.env.scope.names.lookup y = some .local) (hi : BI X (.Name x p) iter mi) (ok : blkC X.N X.env.scope scope own = true) (hm : i ∈ own.map (·.2)) (hx : X.N[i]? = some x)
    (hsw : swapsWith (.ListComp elt [⟨.Name x p, iter, ifs, 0⟩] scope pos) (some (.Name y py)) spos.line X.env = pure true)
    (hg : ∀ (s : Shared) (H : Hp) (C : Addr) (cl : List (Str × Addr)) (fp : List Addr), PG (X.blk s H scope (compEnvC scope cl C X.env) fp) (.Name x p) (L2.gName i))
    (ht : ∀ (s : Shared) (H : Hp) (C : Addr) (cl : List (Str × Addr)) (fp : List Addr), BTs (X.blk s H scope (compEnvC scope cl C X.env) fp) ifs mt)
    (he : ∀ (s : Shared) (H : Hp) (C : Addr) (cl : List (Str × Addr)) (fp : List Addr), BE (X.blk s H scope (compEnvC scope cl C X.env) fp) elt me) (hs : ∀ x, foldedSetIterable iter X.env x = pure x := by intro _; rfl) :
    BS X (.Assign [.Name y py] (.ListComp elt [⟨.Name x p, iter, ifs, 0⟩] scope pos) spos) (sAsg (mLc mi (Py.gName i) (own.map (·.2)) mt me) (Py.gName j)) := by
  obtain ⟨wi, h1, h2⟩ := hi
  exact ⟨_, ps_setLc hc hN hj hyl hsw h1 (blkOk_by ok) hg (fun s H C cl fp => (ht s H C cl fp).can) (fun s H C cl fp => (he s H C cl fp).can) hs, ss_asg (se_lc _ h2 (sg_name i) (tgIn_name hm) st_rT se_rE) (sg_name j)⟩
theorem be_lcT (is : List Nat) (own : List (Str × Nat)) {ts : List Expr} {k : Nat} (hc : X.calm = true) (hN : X.N.Nodup) (hi : BI X (.Tuple ts k p) iter mi) (ok : blkC X.N X.env.scope scope own = true) (hm : ∀ i ∈ is, i ∈ own.map (·.2))
    (hg : ∀ (s : Shared) (H : Hp) (C : Addr) (cl : List (Str × Addr)) (fp : List Addr), PG (X.blk s H scope (compEnvC scope cl C X.env) fp) (.Tuple ts k p) (L2.gTup X.K is.length (tNames is)))
    (ht : ∀ (s : Shared) (H : Hp) (C : Addr) (cl : List (Str × Addr)) (fp : List Addr), BTs (X.blk s H scope (compEnvC scope cl C X.env) fp) ifs mt)
    (he : ∀ (s : Shared) (H : Hp) (C : Addr) (cl : List (Str × Addr)) (fp : List Addr), BE (X.blk s H scope (compEnvC scope cl C X.env) fp) elt me) (hs : ∀ x, foldedSetIterable iter X.env x = pure x := by intro _; rfl) :
    BE X (.ListComp elt [⟨.Tuple ts k p, iter, ifs, 0⟩] scope pos) (mLc mi (Py.gTup is) (own.map (·.2)) mt me) := by
  obtain ⟨wi, h1, h2⟩ := hi
  exact ⟨_, pe_lc hc hN h1 (blkOk_by ok) hg (fun s H C cl fp => (ht s H C cl fp).can) (fun s H C cl fp => (he s H C cl fp).can) hs, se_lc _ h2 (sg_tup rfl) (tgIn_tup hm) st_rT se_rE⟩
end
end Py
/-! Py7: defs and their calls. -/
namespace Py
open PySem PySem.Spec PyProof.Rows L2

/-- the objects handed on, behind the call -/
def OutsOk (K : PySem.W.Frag) (Hf H : Hp) : List Sl → List V → List Ob → Prop
  | [], [], [] => True
  | .ref _ :: as, v :: vs, o :: os => (∃ p, v = .ref p ∧ Hf p = none ∧ RepOb K Hf H p o) ∧ OutsOk K Hf H as vs os
  | .val _ :: as, _ :: vs, os => OutsOk K Hf H as vs os
  | _, _, _ => False
def notOwn : Sl → Bool
  | .own _ => false
  | _ => true
/-- what a def of this meaning promises -/
def spOf (K : PySem.W.Frag) (n : Nat) (d : Den) : Sp := fun vs H Q _ => vs.length = n ∧ ∃ (Hf : Hp) (as : List Sl) (r : R) (os : List Ob), d as = some (r, os) ∧ as.all notOwn = true ∧ RepE K Hf H (as.map some) (vs.map some) ∧
  ∀ u Hf' H', Step (Own (as.map some) (vs.map some)) Hf H Hf' H' → RepR K Hf' H' H [] r u → OutsOk K Hf' H' as vs os → Q u H'
theorem get_map (as : List Sl) (i : Nat) : get (as.map some) i = as[i]? := by
  unfold get
  rw [List.getElem?_map]
  cases as[i]? <;> rfl
theorem slot_map (vs : List V) (i : Nat) : slot (vs.map some) i = vs[i]? := by
  unfold slot
  rw [List.getElem?_map]
  cases vs[i]? <;> rfl
section
variable {K : PySem.W.Frag} {Hf H Hf' H' Hf1 H1 Hf2 H2 H0 : Hp} {ρ ρ' ρ1 ρ2 : Env} {σ σ' σ1 σ2 : L2.St} {O O' O1 : Addr → Prop} {X : Cx}
theorem get_start (n : Nat) (as : List Sl) (i : Nat) : get (startE n as) i = as[i]? := by
  unfold startE get
  by_cases h : i < as.length
  · rw [List.getElem?_append_left (by simpa using h), List.getElem?_map]
    cases as[i]? <;> rfl
  · rw [List.getElem?_append_right (by simpa using h), List.getElem?_eq_none (l := as) (by omega)]
    by_cases h2 : i - (as.map some).length < n - as.length
    · rw [List.getElem?_replicate, if_pos h2]; rfl
    · rw [List.getElem?_replicate, if_neg h2]; rfl
theorem slot_start (N : List Str) (vs : List V) (i : Nat) : slot (L2.start N vs) i = vs[i]? := by
  unfold L2.start slot
  by_cases h : i < vs.length
  · rw [List.getElem?_append_left (by simpa using h), List.getElem?_map]
    cases vs[i]? <;> rfl
  · rw [List.getElem?_append_right (by simpa using h), List.getElem?_eq_none (l := vs) (by omega)]
    by_cases h2 : i - (vs.map some).length < N.length - vs.length
    · rw [List.getElem?_replicate, if_pos h2]; rfl
    · rw [List.getElem?_replicate, if_neg h2]; rfl
theorem start_len {as : List Sl} {vs : List V} (N : List Str) (h : as.length = vs.length) : (startE N.length as).length = (L2.start N vs).length := by
  unfold startE L2.start
  simp [h]
theorem rep_start {as : List Sl} {vs : List V} (N : List Str) (E : RepE K Hf H (as.map some) (vs.map some)) : RepE K Hf H (startE N.length as) (L2.start N vs) ∧ ∀ i p, OwnAt (startE N.length as) (L2.start N vs) i p ↔ OwnAt (as.map some) (vs.map some) i p := by
  have hl : as.length = vs.length := by simpa using E.len
  have eq : ∀ i p, OwnAt (startE N.length as) (L2.start N vs) i p ↔ OwnAt (as.map some) (vs.map some) i p := fun i p => by
    unfold OwnAt
    rw [get_start, slot_start, get_map, slot_map]
  refine ⟨⟨start_len N hl, E.ff, fun i s e => ?_, fun i j p a b => E.dis i j p ((eq i p).mp a) ((eq j p).mp b)⟩, eq⟩
  rw [get_start, ← get_map] at e
  rw [slot_start, ← slot_map]
  exact E.sl i s e
theorem outs_ok : ∀ (as : List Sl) (vs : List V) (os : List Ob) (ρ' : Env) (σ' : L2.St), as.all notOwn = true → as.length = vs.length → outs as ρ' = some os → (∀ i s, get ρ' i = some s → ∃ u, slot σ' i = some u ∧ RepSl K Hf' H' s u) →
    (∀ i o, as[i]? = some (.ref o) → slot σ' i = vs[i]?) → OutsOk K Hf' H' as vs os
  | [], [], os, ρ', σ', _, _, h, _, _ => by cases h; trivial
  | [], _ :: _, _, _, _, _, hl, _, _, _ => by cases hl
  | _ :: _, [], _, _, _, _, hl, _, _, _ => by cases hl
  | .own o :: as, v :: vs, os, ρ', σ', ho, _, _, _, _ => by simp [notOwn] at ho
  | .val x :: as, v :: vs, os, ρ', σ', ho, hl, h, E, hs => by
    cases ρ' with
    | nil => cases h
    | cons s ρ' =>
      have h' : outs as ρ' = some os := h
      have e1 : ∀ i, get ρ' i = get (s :: ρ') (i + 1) := fun i => rfl
      have e2 : ∀ i, slot σ'.tail i = slot σ' (i + 1) := fun i => by cases σ' <;> simp [slot]
      refine outs_ok as vs os ρ' σ'.tail (by simpa [notOwn] using ho) (by simpa using hl) h' (fun i t e => ?_) fun i o e => ?_
      · rw [e1] at e
        rw [e2]
        exact E _ t e
      · rw [e2, hs (i + 1) o e]; rfl
  | .ref x :: as, v :: vs, os, ρ', σ', ho, hl, h, E, hs => by
    cases ρ' with
    | nil => cases h
    | cons s ρ' =>
      cases s with
      | none => cases h
      | some s =>
        cases s with
        | val w => cases h
        | own w => cases h
        | lck w => cases h
        | ref w =>
          have h' : (outs as ρ').map (w :: ·) = some os := h
          rw [Option.map_eq_some_iff] at h'
          obtain ⟨os', h1, rfl⟩ := h'
          have e1 : ∀ i, get ρ' i = get (some (.ref w) :: ρ') (i + 1) := fun i => rfl
          have e2 : ∀ i, slot σ'.tail i = slot σ' (i + 1) := fun i => by cases σ' <;> simp [slot]
          refine ⟨?_, outs_ok as vs os' ρ' σ'.tail (by simpa [notOwn] using ho) (by simpa using hl) h1 (fun i t e => ?_) fun i o e => ?_⟩
          · obtain ⟨u, s1, r1⟩ := E 0 (.ref w) rfl
            rw [hs 0 x rfl] at s1
            cases s1
            exact r1
          · rw [e1] at e
            rw [e2]
            exact E _ t e
          · rw [e2, hs (i + 1) o e]; rfl
theorem leave_ok {r r' : R} {u : V} (E : RepE K Hf' H' ρ' σ') (R1 : RepR K Hf' H' H σ' r u) (hl : leave r ρ' = some r') (nw : ∀ i o p, get ρ' i = some (.own o) → slot σ' i = some (.ref p) → H p = none) : RepR K Hf' H' H [] r' u := by
  cases r with
  | val v => cases hl; exact R1
  | new o => cases hl; exact R1
  | bor i =>
    have R1' : slot σ' i = some u := R1
    cases g : get ρ' i with
    | none => simp only [leave, g] at hl; cases hl
    | some s =>
      simp only [leave, g] at hl
      obtain ⟨u', h1, h2⟩ := E.sl i s g
      rw [R1'] at h1
      cases h1
      cases s with
      | val v => cases hl; exact h2
      | own o => cases hl; obtain ⟨p, rfl, f, rp⟩ := h2; exact ⟨p, rfl, nw i o p g R1', f, rp⟩
      | ref o => cases hl
      | lck kvs => cases hl
/-- what a body has at hand -/
structure Cok (X : Cx) (k : Nat) : Prop where
  calm : X.calm = true
  nd : X.N.Nodup
  pass : PassesOwn (model X.prog X.w) X.A X.env X.xe
  div : DivOk X
  units : X.A.units + 64 < cLine
  unitsD : X.A.units + 65 < cLine
  room : Room k X.A
/-- THE RULE for a def: its body's meaning is its own -/
theorem ok_of {P : Program} {w : World} {mg : Str → Option Value} {base : Heap} {x qual : Str} {st : Stmt} {f : Addr} {fd : FuncData} {N ps : List Str} {k : Nat} {m : SM} (F : Fun K x qual st f fd) (S : FnScope N ps (defScope st)) (hk : 40 ≤ k) (hs : base.NoSeer) (ht : P.given.tree = none)
    (hb : ∀ (cdv : Value) (A : Around) (outer : List PySem.Env) (s : Shared) (H : Hp) (E : XK), Cok (cxOf CX0 P w K mg base N qual (defScope st) f cdv A outer s H E).nox k → BSs (cxOf CX0 P w K mg base N qual (defScope st) f cdv A outer s H E).nox (defBody st) m) :
    FnOk P w K mg base CX0 (k + 1) f fd ps (spOf K ps.length (mkDen N.length m)) := by
  refine F.ok S (fun vs H Q E h => h.1) fun cdv A outer s H vs Q E hr h => ?_
  have hd := hr.dp
  have hu := hr.un
  obtain ⟨t, h1, h2⟩ := hb cdv A outer s H E ⟨rfl, S.nd, PassesOwn.never, ⟨hs, ht, by show (A.deeper (envOfC qual (defScope st) s.heap.objs.size f cdv)).depth + 100 < recursionLimit; omega, _, outer, rfl, S.gen, S.co, rfl, rfl⟩, by show (A.deeper (envOfC qual (defScope st) s.heap.objs.size f cdv)).units + 64 < cLine; omega, by show (A.deeper (envOfC qual (defScope st) s.heap.objs.size f cdv)).units + 65 < cLine; omega, hr⟩
  refine ⟨t, h1, ?_⟩
  obtain ⟨_, Hf, as, r, os, hd, ho, E0, q⟩ := h
  obtain ⟨E1, eq⟩ := rep_start N E0
  have ow : ∀ p, Own (startE N.length as) (L2.start N vs) p → Own (as.map some) (vs.map some) p := fun p ⟨i, h⟩ => ⟨i, (eq i p).mp h⟩
  have hl : as.length = vs.length := by simpa using E0.len
  unfold mkDen at hd
  simp only [Option.bind_eq_some_iff] at hd
  obtain ⟨⟨fl, ρ'⟩, e1, e2⟩ := hd
  have K' : (cxOf CX0 P w K mg base N qual (defScope st) f cdv A outer s H E).nox.K = K := rfl
  refine h2 (startE N.length as) fl ρ' (L2.start N vs) Hf H e1 E1 _ fun σ' Hf' H' B => ?_
  have refs : ∀ i o, as[i]? = some (.ref o) → isRef (get ρ' i) = true ∧ slot σ' i = vs[i]? := fun i o e => by
    obtain ⟨a, b⟩ := B.ref i
    have g : get (startE N.length as) i = some (.ref o) := by rw [get_start]; exact e
    rw [g] at a b
    exact ⟨a, (b rfl).trans (slot_start N vs i)⟩
  have fin : ∀ os', outs as ρ' = some os' → OutsOk K Hf' H' as vs os' := fun os' h => outs_ok as vs os' ρ' σ' ho hl h B.en.sl fun i o e => (refs i o e).2
  have st' : Step (Own (as.map some) (vs.map some)) Hf H Hf' H' := B.st.weak fun p hp => .inl (ow p hp)
  have nw : ∀ i o p, get ρ' i = some (.own o) → slot σ' i = some (.ref p) → H p = none := fun i o p g sl => by
    have oi : OwnAt ρ' σ' i p := ⟨by rw [g]; rfl, sl⟩
    rcases B.own p ⟨i, oi⟩ with z | z
    · obtain ⟨k, a, b⟩ := ow p z
      rw [get_map] at a
      cases hk : as[k]? with
      | none => rw [hk] at a; cases a
      | some s0 =>
        cases s0 with
        | val v => rw [hk] at a; cases a
        | own o0 =>
          have := List.all_eq_true.mp ho _ (List.mem_of_getElem? hk)
          cases this
        | lck o0 => rw [hk] at a; cases a
        | ref o0 =>
          obtain ⟨r1, r2⟩ := refs k o0 hk
          have sk : slot σ' k = some (.ref p) := by rw [r2, ← slot_map]; exact b
          have nl : isLck (get ρ' k) = false := by
            cases gk : get ρ' k with
            | none => rfl
            | some s =>
              cases s with
              | lck kvs =>
                exfalso
                obtain ⟨u1, a1, p1, e1, ws, od, f1, _⟩ := B.en.sl k _ gk
                rw [sk] at a1
                cases a1
                cases e1
                obtain ⟨u2, a2, p2, e2, f2, _⟩ := B.en.sl i _ g
                rw [sl] at a2
                cases a2
                cases e2
                rw [f2] at f1
                cases f1
              | _ => rfl
          have ok : OwnAt ρ' σ' k p := ⟨isRef_isOb r1 nl, sk⟩
          have : i = k := B.en.dis i k p oi ok
          subst this
          rw [g] at r1
          cases r1
    · exact z
  cases fl with
  | nx =>
    simp only [Option.map_eq_some_iff, Prod.mk.injEq] at e2
    obtain ⟨os', h3, rfl, rfl⟩ := e2
    exact q .non Hf' H' st' .non (fin _ h3)
  | rt r0 =>
    simp only [Option.bind_eq_some_iff, Option.map_eq_some_iff, Prod.mk.injEq] at e2
    obtain ⟨r', h4, os', h3, rfl, rfl⟩ := e2
    intro u R1
    exact q u Hf' H' st' (leave_ok B.en R1 h4 nw) (fin _ h3)
  | bk => cases e2
  | ct => cases e2

/-! ### calls -/
/-- the arguments, as they stand -/
def AgOk (K : PySem.W.Frag) (Hf : Hp) (ρ : Env) (σ : L2.St) : List Ag → List Sl → List V → Prop
  | [], [], [] => True
  | .v _ :: as, .val v :: ss, u :: us => Dp K Hf u v ∧ AgOk K Hf ρ σ as ss us
  | .r i :: as, .ref o :: ss, u :: us => slot σ i = some u ∧ obAt ρ i = some o ∧ AgOk K Hf ρ σ as ss us
  | _, _, _ => False
def SA (K : PySem.W.Frag) (ta : TA) (as : List Ag) : Prop := ∀ (ρ : Env) (ss : List Sl) (ρ' : Env) (σ : L2.St) (Hf H : Hp), agsEval as ρ = some (ss, ρ') → RepE K Hf H ρ σ → ∀ Q : List V → Hp → Prop,
  (∀ us Hf' H', Bh K Hf H ρ σ Hf' H' ρ' → AgOk K Hf' ρ' σ as ss us → Q us H') → ta σ H Q
structure BA (X : Cx) (es : List Expr) (as : List Ag) : Prop where
  ex : ∃ ta, PA X es ta ∧ SA X.K ta as
theorem sa_nil : SA K tNil [] := by
  intro ρ ss ρ' σ Hf H hm E Q q
  cases hm
  exact q [] Hf H (.refl E) trivial
theorem sa_v {te : TE} {tr : TA} {a : M} {as : List Ag} (ha : SE K te a) (hr : SA K tr as) : SA K (tCons te tr) (.v a :: as) := by
  intro ρ ss ρ' σ Hf H hm E Q q
  simp only [agsEval, Option.bind_eq_some_iff, Option.map_eq_some_iff, Prod.mk.injEq] at hm
  obtain ⟨⟨x, ρ1⟩, e1, ⟨v, ρ2⟩, e2, ⟨ss', ρ3⟩, e3, rfl, rfl⟩ := hm
  refine ha ρ x ρ1 σ Hf H e1 E _ fun u Hf1 H1 S1 E1 R1 k1 => ?_
  obtain ⟨Hf2, B2, d⟩ := (⟨S1, E1, k1⟩ : Bh K Hf H ρ σ Hf1 H1 ρ1).frz E R1 e2
  refine hr ρ2 ss' ρ3 σ Hf2 H1 e3 B2.en _ fun us Hf3 H3 B3 A3 => ?_
  exact q (u :: us) Hf3 H3 (B2.trans B3) ⟨dp_mono B3.st.ff _ _ d, A3⟩
theorem sa_r {tr : TA} {i : Nat} {as : List Ag} (hr : SA K tr as) : SA K (tCons (tVar i) tr) (.r i :: as) := by
  intro ρ ss ρ' σ Hf H hm E Q q
  simp only [agsEval, Option.bind_eq_some_iff, Option.map_eq_some_iff, Prod.mk.injEq] at hm
  obtain ⟨o0, e0, ⟨ss', ρ3⟩, e3, o, e4, rfl, rfl⟩ := hm
  obtain ⟨p, _, s1, _⟩ := obAt_ok E e0
  refine ⟨_, slot_at s1, ?_⟩
  refine hr ρ ss' ρ3 σ Hf H e3 E _ fun us Hf3 H3 B3 A3 => ?_
  exact q (.ref p :: us) Hf3 H3 B3 ⟨s1, e4, A3⟩
theorem AgOk.len : ∀ {as : List Ag} {ss : List Sl} {us : List V}, AgOk K Hf ρ σ as ss us → ss.length = us.length ∧ ss.all notOwn = true
  | [], [], [], _ => ⟨rfl, rfl⟩
  | .v _ :: as, .val v :: ss, u :: us, h => by obtain ⟨a, b⟩ := AgOk.len h.2; exact ⟨by simp [a], by simp [b, notOwn]⟩
  | .r i :: as, .ref o :: ss, u :: us, h => by obtain ⟨a, b⟩ := AgOk.len h.2.2; exact ⟨by simp [a], by simp [b, notOwn]⟩
  | [], _ :: _, _, h => by cases h
  | [], [], _ :: _, h => by cases h
  | .v _ :: _, [], _, h => by cases h
  | .v _ :: _, .own _ :: _, _, h => by cases h
  | .v _ :: _, .ref _ :: _, _, h => by cases h
  | .v _ :: _, .val _ :: _, [], h => by cases h
  | .r _ :: _, [], _, h => by cases h
  | .r _ :: _, .own _ :: _, _, h => by cases h
  | .r _ :: _, .val _ :: _, _, h => by cases h
  | .r _ :: _, .ref _ :: _, [], h => by cases h
/-- the k-th argument -/
theorem AgOk.at : ∀ {as : List Ag} {ss : List Sl} {us : List V}, AgOk K Hf ρ σ as ss us → ∀ (k : Nat) s, ss[k]? = some s → ∃ u, us[k]? = some u ∧ ((∃ v, s = .val v ∧ Dp K Hf u v) ∨ ∃ i o, s = .ref o ∧ as[k]? = some (Ag.r i) ∧ slot σ i = some u ∧ obAt ρ i = some o)
  | [], [], [], _, k, s, e => by simp at e
  | .v _ :: as, .val v :: ss, u :: us, h, 0, s, e => by cases e; exact ⟨u, rfl, .inl ⟨v, rfl, h.1⟩⟩
  | .r i :: as, .ref o :: ss, u :: us, h, 0, s, e => by cases e; exact ⟨u, rfl, .inr ⟨i, o, rfl, rfl, h.1, h.2.1⟩⟩
  | .v _ :: as, .val v :: ss, u :: us, h, k + 1, s, e => by
    obtain ⟨u', a, b⟩ := AgOk.at h.2 k s e
    exact ⟨u', a, b⟩
  | .r i :: as, .ref o :: ss, u :: us, h, k + 1, s, e => by
    obtain ⟨u', a, b⟩ := AgOk.at h.2.2 k s e
    exact ⟨u', a, b⟩
  | [], _ :: _, _, h, _, _, _ => by cases h
  | [], [], _ :: _, h, _, _, _ => by cases h
  | .v _ :: _, [], _, h, _, _, _ => by cases h
  | .v _ :: _, .own _ :: _, _, h, _, _, _ => by cases h
  | .v _ :: _, .ref _ :: _, _, h, _, _, _ => by cases h
  | .v _ :: _, .val _ :: _, [], h, _, _, _ => by cases h
  | .r _ :: _, [], _, h, _, _, _ => by cases h
  | .r _ :: _, .own _ :: _, _, h, _, _, _ => by cases h
  | .r _ :: _, .val _ :: _, _, h, _, _, _ => by cases h
  | .r _ :: _, .ref _ :: _, [], h, _, _, _ => by cases h
theorem refsOf_inj : ∀ {as : List Ag} {j k i : Nat}, (refsOf as).Nodup → as[j]? = some (Ag.r i) → as[k]? = some (Ag.r i) → j = k
  | [], _, _, _, _, h, _ => by simp at h
  | .v _ :: as, 0, _, _, _, h, _ => by simp at h
  | .v _ :: as, _ + 1, 0, _, _, _, h => by simp at h
  | .v _ :: as, j + 1, k + 1, i, n, h1, h2 => congrArg (· + 1) (refsOf_inj (as := as) (i := i) n (by simpa using h1) (by simpa using h2))
  | .r l :: as, 0, 0, i, n, h1, h2 => rfl
  | .r l :: as, 0, k + 1, i, n, h1, h2 => by
    have n' : l ∉ refsOf as ∧ (refsOf as).Nodup := List.nodup_cons.mp n
    have e : l = i := by simpa using h1
    have m : ∀ (as : List Ag) (k : Nat), as[k]? = some (Ag.r i) → i ∈ refsOf as := fun as => by
      induction as with
      | nil => intro k h; simp at h
      | cons a as ih =>
        intro k h
        cases k with
        | zero => cases a with
          | v m => simp at h
          | r l => have : l = i := by simpa using h
                   subst this; exact List.mem_cons_self
        | succ k => cases a with
          | v m => exact ih k (by simpa using h)
          | r l => exact List.mem_cons_of_mem _ (ih k (by simpa using h))
    exact absurd (m as k (by simpa using h2)) (e ▸ n'.1)
  | .r l :: as, j + 1, 0, i, n, h1, h2 => (refsOf_inj (as := .r l :: as) (j := 0) (k := j + 1) n h2 h1).symm
  | .r l :: as, j + 1, k + 1, i, n, h1, h2 => congrArg (· + 1) (refsOf_inj (as := as) (i := i) (List.nodup_cons.mp n).2 (by simpa using h1) (by simpa using h2))
  termination_by as j k => (as.length, j)
  decreasing_by all_goals simp_wf; all_goals omega
/-- the callee's view -/
theorem args_rep {as : List Ag} {ss : List Sl} {us : List V} (E : RepE K Hf H ρ σ) (h : AgOk K Hf ρ σ as ss us) (nd : (refsOf as).Nodup) : RepE K Hf H (ss.map some) (us.map some) ∧ ∀ p, Own (ss.map some) (us.map some) p → ∃ i k : Nat, as[k]? = some (Ag.r i) ∧ OwnAt ρ σ i p ∧ us[k]? = some (V.ref p) := by
  have at_ : ∀ k p, OwnAt (ss.map some) (us.map some) k p → ∃ i, as[k]? = some (Ag.r i) ∧ OwnAt ρ σ i p ∧ us[k]? = some (V.ref p) := fun k p ⟨a, b⟩ => by
    rw [get_map] at a
    rw [slot_map] at b
    cases hs : ss[k]? with
    | none => rw [hs] at a; cases a
    | some s =>
      obtain ⟨u, e1, e2⟩ := h.at k s hs
      rw [b] at e1
      cases e1
      rcases e2 with ⟨v, rfl, _⟩ | ⟨i, o, rfl, e3, e4, e5⟩
      · rw [hs] at a; cases a
      · obtain ⟨p', oi, s1, _⟩ := obAt_ok E e5
        rw [e4] at s1
        cases s1
        exact ⟨i, e3, oi, b⟩
  refine ⟨⟨by simpa using h.len.1, E.ff, fun k s e => ?_, fun j k p a b => ?_⟩, fun p ⟨k, a⟩ => ?_⟩
  · rw [get_map] at e
    rw [slot_map]
    obtain ⟨u, e1, e2⟩ := h.at k s e
    refine ⟨u, e1, ?_⟩
    rcases e2 with ⟨v, rfl, d⟩ | ⟨i, o, rfl, e3, e4, e5⟩
    · exact d
    · obtain ⟨p, oi, s1, f, r, _⟩ := obAt_ok E e5
      rw [e4] at s1
      cases s1
      exact ⟨p, rfl, f, r⟩
  · obtain ⟨i, h1, h2, _⟩ := at_ j p a
    obtain ⟨i', h3, h4, _⟩ := at_ k p b
    have : i = i' := E.dis i i' p h2 h4
    subst this
    exact refsOf_inj nd h1 h3
  · obtain ⟨i, h1, h2, h3⟩ := at_ k p a
    exact ⟨i, k, h1, h2, h3⟩
/-- what the objects are behind the call, by the names -/
theorem outs_by : ∀ {as : List Ag} {ss : List Sl} {us : List V} {os : List Ob}, AgOk K Hf ρ σ as ss us → OutsOk K Hf' H' ss us os → (refsOf as).length = os.length ∧ ∀ j o, (j, o) ∈ (refsOf as).zip os → ∃ p, slot σ j = some (.ref p) ∧ Hf' p = none ∧ RepOb K Hf' H' p o
  | [], [], [], [], _, _ => ⟨rfl, fun j o h => by simp [refsOf] at h⟩
  | .v _ :: as, .val v :: ss, u :: us, os, h, k => outs_by (as := as) h.2 k
  | .r i :: as, .ref o :: ss, u :: us, o' :: os, h, k => by
    obtain ⟨l, m⟩ := outs_by (as := as) h.2.2 k.2
    refine ⟨by simp [refsOf, l], fun j o2 hj => ?_⟩
    have hj' : (j, o2) ∈ (i, o') :: (refsOf as).zip os := hj
    rcases List.mem_cons.mp hj' with e | e
    · cases e
      obtain ⟨p, e1, f, r⟩ := k.1
      exact ⟨p, by rw [h.1, e1], f, r⟩
    · exact m j o2 e
  | [], _ :: _, _, _, h, _ => by cases h
  | [], [], _ :: _, _, h, _ => by cases h
  | [], [], [], _ :: _, _, k => by cases k
  | .v _ :: _, [], _, _, h, _ => by cases h
  | .v _ :: _, .own _ :: _, _, _, h, _ => by cases h
  | .v _ :: _, .ref _ :: _, _, _, h, _ => by cases h
  | .v _ :: _, .val _ :: _, [], _, h, _ => by cases h
  | .r _ :: _, [], _, _, h, _ => by cases h
  | .r _ :: _, .own _ :: _, _, _, h, _ => by cases h
  | .r _ :: _, .val _ :: _, _, _, h, _ => by cases h
  | .r _ :: _, .ref _ :: _, [], _, h, _ => by cases h
  | .r _ :: _, .ref _ :: _, _ :: _, [], _, k => by cases k
theorem setOb_len (i : Nat) (o : Ob) : (setOb ρ i o).length = ρ.length := by
  unfold setOb
  split <;> rw [List.length_set]
theorem setObs_get : ∀ (is : List Nat) (os : List Ob) (ρ : Env), is.Nodup → is.length = os.length → (∀ i ∈ is, i < ρ.length) → (setObs is os ρ).length = ρ.length ∧ (∀ j, j ∉ is → get (setObs is os ρ) j = get ρ j) ∧
    ∀ j o, (j, o) ∈ is.zip os → get (setObs is os ρ) j = if isRef (get ρ j) then some (.ref o) else some (.own o)
  | [], [], ρ, _, _, _ => ⟨rfl, fun _ _ => rfl, fun j o h => by simp at h⟩
  | [], _ :: _, _, _, h, _ => by cases h
  | _ :: _, [], _, _, h, _ => by cases h
  | i :: is, o :: os, ρ, nd, hl, hb => by
    obtain ⟨n1, n2⟩ := List.nodup_cons.mp nd
    have hi : i < ρ.length := hb i List.mem_cons_self
    obtain ⟨a, b, c⟩ := setObs_get is os (setOb ρ i o) n2 (by simpa using hl) fun k hk => by rw [setOb_len]; exact hb k (List.mem_cons_of_mem _ hk)
    refine ⟨a.trans (setOb_len i o), fun j hj => ?_, fun j o' h => ?_⟩
    · have h1 : j ∉ is := fun z => hj (List.mem_cons_of_mem _ z)
      have h2 : i ≠ j := fun z => hj (z ▸ List.mem_cons_self)
      show get (setObs is os (setOb ρ i o)) j = _
      rw [b j h1, get_setOb i j o hi, if_neg h2]
    · show get (setObs is os (setOb ρ i o)) j = _
      have h' : (j, o') ∈ (i, o) :: is.zip os := h
      rcases List.mem_cons.mp h' with e | e
      · cases e
        rw [b i n1, get_setOb i i o hi, if_pos rfl]
      · rw [c j o' e]
        have hij : i ≠ j := fun z => n1 (z ▸ (List.of_mem_zip e).1)
        rw [get_setOb i j o hi, if_neg hij]
theorem zip_mem : ∀ {is : List Nat} {os : List Ob} {j : Nat}, is.length = os.length → j ∈ is → ∃ o, (j, o) ∈ is.zip os
  | [], _, _, _, h => by cases h
  | _ :: _, [], _, h, _ => by cases h
  | i :: is, o :: os, j, hl, h => by
    rcases List.mem_cons.mp h with e | e
    · exact ⟨o, by rw [e]; exact List.mem_cons_self⟩
    · obtain ⟨o', h'⟩ := zip_mem (is := is) (os := os) (by simpa using hl) e
      exact ⟨o', List.mem_cons_of_mem _ h'⟩
theorem mem_refs : ∀ {as : List Ag} {i : Nat}, i ∈ refsOf as → ∃ k : Nat, as[k]? = some (Ag.r i)
  | [], _, h => by cases h
  | .v _ :: as, i, h => by obtain ⟨k, e⟩ := mem_refs (as := as) h; exact ⟨k + 1, by simpa using e⟩
  | .r l :: as, i, h => by
    have h' : i ∈ l :: refsOf as := h
    rcases List.mem_cons.mp h' with e | e
    · exact ⟨0, by simp [e]⟩
    · obtain ⟨k, e⟩ := mem_refs (as := as) e
      exact ⟨k + 1, by simpa using e⟩
theorem refs_mem : ∀ {as : List Ag} {i k : Nat}, as[k]? = some (Ag.r i) → i ∈ refsOf as
  | [], _, _, h => by simp at h
  | .v _ :: as, i, 0, h => by simp at h
  | .v _ :: as, i, k + 1, h => refs_mem (as := as) (k := k) (by simpa using h)
  | .r l :: as, i, 0, h => by have e : l = i := by simpa using h
                              exact e ▸ List.mem_cons_self
  | .r l :: as, i, k + 1, h => List.mem_cons_of_mem _ (refs_mem (as := as) (k := k) (by simpa using h))
theorem agOk_refs : ∀ {as : List Ag} {ss : List Sl} {us : List V}, AgOk K Hf ρ σ as ss us → ∀ i ∈ refsOf as, ∃ o, obAt ρ i = some o
  | [], [], [], _, i, h => by cases h
  | .v _ :: as, .val v :: ss, u :: us, h, i, hi => agOk_refs (as := as) h.2 i hi
  | .r l :: as, .ref o :: ss, u :: us, h, i, hi => by
    have hi' : i ∈ l :: refsOf as := hi
    rcases List.mem_cons.mp hi' with e | e
    · exact ⟨o, e ▸ h.2.1⟩
    · exact agOk_refs (as := as) h.2.2 i e
  | [], _ :: _, _, h, _, _ => by cases h
  | [], [], _ :: _, h, _, _ => by cases h
  | .v _ :: _, [], _, h, _, _ => by cases h
  | .v _ :: _, .own _ :: _, _, h, _, _ => by cases h
  | .v _ :: _, .ref _ :: _, _, h, _, _ => by cases h
  | .v _ :: _, .val _ :: _, [], h, _, _ => by cases h
  | .r _ :: _, [], _, h, _, _ => by cases h
  | .r _ :: _, .own _ :: _, _, h, _, _ => by cases h
  | .r _ :: _, .val _ :: _, _, h, _, _ => by cases h
  | .r _ :: _, .ref _ :: _, [], h, _, _ => by cases h
theorem se_call {ta : TA} {as : List Ag} {d : Den} {n : Nat} {E : XK} (hn : as.length = n) (ha : SA K ta as) : SE K (tCall (spOf K n d) [] E ta) (mCall d as) := by
  intro ρ r ρ' σ Hf H hm E0 Q q
  simp only [mCall, Option.bind_eq_some_iff] at hm
  obtain ⟨⟨ss, ρ1⟩, e1, e2⟩ := hm
  split at e2
  · rename_i nd
    simp only [Option.map_eq_some_iff, Prod.mk.injEq] at e2
    obtain ⟨⟨r', os⟩, e3, rfl, rfl⟩ := e2
    refine ha ρ ss ρ1 σ Hf H e1 E0 _ fun us Hf1 H1 B1 A1 => ?_
    have hle : ∀ {as : List Ag} {ss : List Sl} {us : List V}, AgOk K Hf1 ρ1 σ as ss us → us.length = as.length := by
      intro as
      induction as with
      | nil => intro ss us h; cases ss <;> cases us <;> first | rfl | cases h
      | cons a as ih =>
        intro ss us h
        cases ss with
        | nil => cases a <;> cases h
        | cons s ss =>
          cases us with
          | nil => cases a <;> cases s <;> cases h
          | cons u us =>
            cases a <;> cases s <;> first
              | exact congrArg (· + 1) (ih h.2)
              | exact congrArg (· + 1) (ih h.2.2)
              | cases h
    obtain ⟨E2, ow⟩ := args_rep B1.en A1 nd
    rw [List.append_nil]
    refine ⟨(hle A1).trans hn, Hf1, ss, r', os, e3, A1.len.2, E2, fun u Hf2 H2 S2 R2 O2 => ?_⟩
    obtain ⟨ol, ob⟩ := outs_by A1 O2
    have lt : ∀ i ∈ refsOf as, i < ρ1.length := fun i hi => by
      obtain ⟨o, h⟩ := agOk_refs A1 i hi
      obtain ⟨_, _, _, _, _, h⟩ := obAt_ok B1.en h
      exact h
    obtain ⟨l1, g1, g2⟩ := setObs_get (refsOf as) os ρ1 nd ol lt
    have isob : ∀ j, isOb (get (setObs (refsOf as) os ρ1) j) = true → isOb (get ρ1 j) = true := fun j h => by
      by_cases hj : j ∈ refsOf as
      · obtain ⟨o, ho⟩ := agOk_refs A1 j hj
        obtain ⟨_, oi, _⟩ := obAt_ok B1.en ho
        exact oi.1
      · rw [g1 j hj] at h; exact h
    have st : Step (Own ρ1 σ) Hf1 H1 Hf2 H2 := S2.weak fun p hp => by
      obtain ⟨i, k, _, h, _⟩ := ow p hp
      exact .inl ⟨i, h⟩
    have B2 : Bh K Hf1 H1 ρ1 σ Hf2 H2 (setObs (refsOf as) os ρ1) := by
      refine ⟨st, ⟨l1.trans B1.en.len, S2.fh, fun j s e => ?_, fun j k p a b => B1.en.dis j k p ⟨isob j a.1, a.2⟩ ⟨isob k b.1, b.2⟩⟩, ⟨isob, fun j => ?_⟩⟩
      · by_cases hj : j ∈ refsOf as
        · obtain ⟨o, hz⟩ := zip_mem ol hj
          obtain ⟨p, s1, f1, r1⟩ := ob j o hz
          rw [g2 j o hz] at e
          refine ⟨_, s1, ?_⟩
          split at e
          · cases e; exact ⟨p, rfl, f1, r1⟩
          · cases e; exact ⟨p, rfl, f1, r1⟩
        · rw [g1 j hj] at e
          obtain ⟨u', h1, h2⟩ := B1.en.sl j s e
          refine ⟨u', h1, h2.step S2 fun p ho hu hp => ?_⟩
          obtain ⟨i, k, hk, oi, _⟩ := ow p hp
          have : j = i := B1.en.dis j i p ⟨by rw [e]; exact ho, by rw [h1, hu]⟩ oi
          exact hj (this ▸ refs_mem hk)
      · by_cases hj : j ∈ refsOf as
        · obtain ⟨o, hz⟩ := zip_mem ol hj
          rw [g2 j o hz]
          cases hr : isRef (get ρ1 j) <;> simp [isRef]
        · rw [g1 j hj]
    have B := B1.trans B2
    exact q u Hf2 H2 B.st B.en (R2.any.back fun p hp => B1.fresh hp) B.kp
  · cases e2
end
section
variable {X : Cx} {e a : Expr} {es : List Expr} {m : M} {as : List Ag} {x y : Str} {p pos : Pos} {k n : Nat} {f : Addr} {fd : FuncData} {ps : List Str} {d : Den}
theorem ba_nil : BA X [] [] := ⟨_, pa_nil, sa_nil⟩
theorem ba_v (ha : BE X a m) (hr : BA X es as) (hs : starEach (a :: es) X.env = (false, eval a X.env) :: starEach es X.env := by rfl) : BA X (a :: es) (.v m :: as) := let ⟨t, h1, h2⟩ := ha; let ⟨u, h3, h4⟩ := hr; ⟨_, pa_cons h1 h3 hs, sa_v h2 h4⟩
theorem ba_r (i : Nat) (ho : PE X (.Name x p) (tVar i)) (hr : BA X es as) (hs : starEach (.Name x p :: es) X.env = (false, eval (.Name x p) X.env) :: starEach es X.env := by rfl) : BA X (.Name x p :: es) (.r i :: as) := let ⟨u, h3, h4⟩ := hr; ⟨_, pa_cons ho h3 hs, sa_r h4⟩
/-- f(e, ..) -/
theorem be_call (F : FnOk X.prog X.w X.K X.mg X.base CX0 k f fd ps (spOf X.K n d)) (hr : Room k X.A) (hg : Gl X x) (hm : X.mg x = some (.ref f)) (hk : PySem.W.keepIn X.K (.ref f) = true) (hb : Binds X.K fd ps []) (ha : BA X (e :: es) as) (hn : as.length = n := by rfl)
    (hdb : (x == ("__debug__" : Str)) = false := by decide) (he : starEach (e :: es) X.env = (false, eval e X.env) :: starEach es X.env := by rfl) (hpl : (backTo pos (starEach es X.env)).any (·.1) = false := by rfl) : BE X (.Call (.Name x p) (e :: es) [] pos) (mCall d as) := by
  obtain ⟨t, h1, h2⟩ := ha
  exact ⟨_, pe_call F hr hg hm hk hb .nil (pass0 (X := X)) h1 hdb he hpl, se_call hn h2⟩
end
/-- a def that is never come to -/
theorem ok_none {P : Program} {w : World} {K : PySem.W.Frag} {mg : Str → Option Value} {base : Heap} {k n : Nat} {f : Addr} {fd : FuncData} {ps : List Str} (hp : ps.length = n) : FnOk P w K mg base CX0 k f fd ps (spOf K n fun _ => none) :=
  ⟨fun vs H Q E h => h.1.trans hp.symm, fun A outer s H args us vs Q E hr he hb hv ⟨_, Hf, as, r, os, hd, _⟩ => nomatch hd⟩
end Py
/-! Py8: the law's end. -/
namespace Py
open PySem PySem.Spec PyProof.Rows L2

theorem dps_script (K : PySem.W.Frag) (H : Hp) (ns : List Int) : DpAll K H (ns.map V.int) (ns.map PyData.int) := dps_ints ns
/-- the script alone is tracked: the law's def, called -/
theorem law_core {P : Program} {w : World} {K : PySem.W.Frag} {mg mb : Str → Option Value} {k : Nat} {fa a : Addr} {fd : FuncData} {x : Str} {d : Den} {s₁ : Shared} {vs : List Value} {ns : List Int}
    (KX : K.In s₁.heap) (n1 : s₁.heap.Ns mainGlobals mg) (n2 : s₁.heap.Ns builtinsNs mb) (n3 : ∀ x : Str, x ≠ "__name__" → mb x = bootBuiltins x) (n4 : s₁.heap.NoLimit) (n5 : s₁.heap.NoSeer) (n6 : s₁.gens = #[])
    (ob : s₁.heap.get? a = some { cls := .type "list", data := .seq vs.toArray }) (hr : Room k callerA)
    (F : ∀ base : Heap, K.In base → base.Ns mainGlobals mg → base.NoSeer → FnOk P w K mg base CX0 k fa fd [x] (spOf K 1 d)) (bi : ∀ (s : Shared) (u : Value), BindsTo s fd ⟨[u], []⟩ [(x, u)])
    (pure : ∃ os, d [.val (.list (ns.map PyData.int))] = some (.val (.bool true), os)) (H : Hp) (hS : SqL K H a (ns.map V.int)) (hok : HOk P w H s₁.heap) (only : ∀ b u, H b = some u → b = a ∧ K.lookup a = none ∧ ∃ o xs, u = .frz o (.lst xs)) :
    codeAny (model P w) callerA (.call (.ref fa) ⟨[.ref a], []⟩) (fun r s' => r = .ok (.ret (.bool true)) ∧ OldK s₁.heap s'.heap ∧ s'.os = s₁.os ∧ AllBare s'.gens) s₁ := by
  have free : ∀ b, b ≠ a → H b = none := fun b h => by
    cases q : H b with
    | none => rfl
    | some u => exact absurd (only b u q).1 h
  have base_get : ∀ b o, b ≠ a → s₁.heap.get? b = some o → (hidT s₁.heap H).get? b = some o := fun b o h e => hidT_get e (free b h)
  have ns_get : ∀ b m, s₁.heap.Ns b m → (hidT s₁.heap H).Ns b m := by
    rintro b m ⟨o, es, ep, e, dd, r⟩
    refine ⟨o, es, ep, base_get b o (fun z => ?_) e, dd, r⟩
    rw [z, ob] at e
    cases e
    cases dd
  have kin : K.In (hidT s₁.heap H) := fun b o e => by
    by_cases h : b = a
    · subst h
      refine hidT_get (KX b o e) ?_
      cases q : H b with
      | none => rfl
      | some u => have := (only b u q).2.1; rw [e] at this; cases this
    · exact base_get b o h (KX b o e)
  have seer : (hidT s₁.heap H).NoSeer := by
    obtain ⟨⟨mc, c1, c2⟩, ⟨mm, m1, m2⟩, ⟨mb', b1, b2⟩, ⟨mg', bm, obm, g1, g2, g3, g4, g5⟩⟩ := n5
    refine ⟨⟨mc, ns_get _ _ c1, c2⟩, ⟨mm, ns_get _ _ m1, m2⟩, ⟨mb', ns_get _ _ b1, b2⟩, ⟨mg', bm, obm, ns_get _ _ g1, g2, base_get bm obm (fun z => ?_) g3, g4, g5⟩⟩
    rw [z, ob] at g3
    cases g3
    exact absurd (show Value.type "list" = Value.type "module" from g4) (by decide)
  have mod : Mod K mg (hidT s₁.heap H) := ⟨kin, ns_get _ _ n1, ⟨mb, ns_get _ _ n2, n3⟩, let ⟨mc, h1, h2⟩ := n4; ⟨mc, ns_get _ _ h1, h2⟩⟩
  have env : Env0 P w K mg (hidT s₁.heap H) callerA [] s₁ H := ⟨rfl, mod, fun b o e => of_hidT e, Nat.le_of_eq (hidT_size _ _), trivial, fun b hb => absurd hb List.not_mem_nil, hok, .of_eq n6⟩
  obtain ⟨os, hd⟩ := pure
  have args : RepE K H H ([Sl.val (.list (ns.map PyData.int))].map some) ([V.ref a].map some) := by
    refine ⟨rfl, fun _ _ h => h, fun i s e => ?_, fun i j p ha => ?_⟩
    · rw [get_map] at e
      rw [slot_map]
      cases i with
      | zero => cases e; exact ⟨_, rfl, .lst hS (dps_ints ns)⟩
      | succ i => cases e
    · have h1 := ha.1
      rw [get_map] at h1
      cases i with
      | zero => cases h1
      | succ i => cases h1
  have prom : spOf K 1 d [.ref a] H (fun v _ => v = .bl true) fun _ _ _ => False := ⟨rfl, H, _, _, os, hd, rfl, args, fun u Hf' H' _ R _ => by cases (show Dp K Hf' u (.bool true) from R); rfl⟩
  refine codeAny_mono ((F _ kin (ns_get _ _ n1) seer).run callerA [] s₁ H ⟨[.ref a], []⟩ [.ref a] [.ref a] _ _ hr env (bi s₁ (.ref a)) (.cons rfl .nil) prom) fun r s' h => ?_
  cases r with
  | error e => exact False.elim h
  | ok fl =>
    cases fl with
    | next => exact False.elim h
    | brk => exact False.elim h
    | cont => exact False.elim h
    | ret u =>
      obtain ⟨v, H', os', bare, un, hok', rv, q⟩ := h
      have q' : v = .bl true := q
      subst q'
      obtain rfl : u = Value.bool true := rv
      refine ⟨rfl, OldK.of_keep fun b o e => ?_, os', bare⟩
      cases z : H b with
      | none => exact un.keep b o e z (List.not_mem_nil) List.not_mem_nil
      | some u =>
        obtain ⟨_, _, o2, xs, rfl⟩ := only b u z
        have z1 := (hok b _ z).1
        have z2 := (hok' b _ (un.frzs b o2 _ z)).1
        rw [e] at z1
        cases z1
        exact z2
theorem law_py {P : Program} {w : World} {K : PySem.W.Frag} {mg mb : Str → Option Value} {k : Nat} {fa a : Addr} {fd : FuncData} {x : Str} {d : Den} {s₁ : Shared} {vs : List Value} {ns : List Int}
    (KX : K.In s₁.heap) (n1 : s₁.heap.Ns mainGlobals mg) (n2 : s₁.heap.Ns builtinsNs mb) (n3 : ∀ x : Str, x ≠ "__name__" → mb x = bootBuiltins x) (n4 : s₁.heap.NoLimit) (n5 : s₁.heap.NoSeer) (n6 : s₁.gens = #[])
    (ob : s₁.heap.get? a = some { cls := .type "list", data := .seq vs.toArray }) (hi : IntsAre vs ns) (hl : ns.length ≤ sizeLine) (hr : Room k callerA)
    (F : ∀ base : Heap, K.In base → base.Ns mainGlobals mg → base.NoSeer → FnOk P w K mg base CX0 k fa fd [x] (spOf K 1 d)) (bi : ∀ (s : Shared) (u : Value), BindsTo s fd ⟨[u], []⟩ [(x, u)])
    (pure : ∃ os, d [.val (.list (ns.map PyData.int))] = some (.val (.bool true), os)) :
    codeAny (model P w) callerA (.call (.ref fa) ⟨[.ref a], []⟩) (fun r s' => r = .ok (.ret (.bool true)) ∧ OldK s₁.heap s'.heap ∧ s'.os = s₁.os ∧ AllBare s'.gens) s₁ := by
  have rv := vals_ints hi
  have hlen : (ns.map V.int).length ≤ sizeLine := by rw [List.length_map]; exact hl
  cases hk : K.lookup a with
  | some o =>
    have e := KX a o hk
    rw [ob] at e
    cases e
    refine law_core KX n1 n2 n3 n4 n5 n6 ob hr F bi pure (fun _ => none) (.inr ⟨_, vs.toArray, _, hk, rfl, rfl, rfl, ?_, by simpa using rv⟩) (fun b u z => nomatch z) fun b u z => nomatch z
    have := rv.length
    rw [List.size_toArray, ← this]
    exact hlen
  | none =>
    refine law_core KX n1 n2 n3 n4 n5 n6 ob hr F bi pure (fun b => if b = a then some (.frz { cls := .type "list", data := .seq vs.toArray } (.lst (ns.map V.int))) else none) (.inl (.inr ⟨_, if_pos rfl⟩)) (fun b u z => ?_) fun b u z => ?_
    · by_cases hb : b = a
      · subst hb
        have z' := (if_pos rfl).symm.trans z
        cases z'
        exact ⟨ob, hlen, vs, _, rv, ob⟩
      · have z' := (if_neg hb).symm.trans z
        cases z'
    · by_cases hb : b = a
      · have z' := (if_pos hb).symm.trans z
        cases z'
        exact ⟨hb, hk, _, _, rfl⟩
      · have z' := (if_neg hb).symm.trans z
        cases z'
/-- the goal that k_head leaves, from the law's def -/
theorem walk_py {l : PySem.W.OpenLaw} {n k : Nat} {q : Program} {loose : List Str} {XP : (Str → Option Value) → Heap → Prop} {YP : World → Heap → Prop} {dr : DefRec} {K : Params → PySem.W.Frag} {x : Str} {d : Den}
    (hn : l.most = some n) (hn2 : n ≤ sizeLine) (hdf : dr.params.defaults = []) (hr : Room k callerA) (hq : importsNone q = true)
    (hY : ∀ (w : World) (h : Heap), YP w h → (K w.params).In h)
    (F : ∀ (w : World) (mg : Str → Option Value) (fa : Addr) (h : Heap), (K w.params).In h → h.Ns mainGlobals mg → mg dr.name = some (.ref fa) →
      ∃ fd : FuncData, (∀ (s : Shared) (u : Value), BindsTo s fd ⟨[u], []⟩ [(x, u)]) ∧
        ∀ base : Heap, (K w.params).In base → base.Ns mainGlobals mg → base.NoSeer → FnOk l.prog w (K w.params) mg base CX0 k fa fd [x] (spOf (K w.params) 1 d))
    (pure : ∀ ns : List Int, ns.length ≤ n → (∀ z ∈ ns, Builtin.Int.intBits z ≤ 1048576) → ∃ os, d [.val (.list (ns.map PyData.int))] = some (.val (.bool true), os)) :
    PySem.W.WalkO q loose XP YP l.row.toRowW dr [] (fun f vs => PySem.call f vs) := by
  refine Att.attach_callB hn hdf fun w s₀ s₁ mg mb fa o pm cd doc a vs ns G Y ho hd hcd hmg hobj hints hlen hbits hg => ?_
  have KX := hY w _ Y
  obtain ⟨fd, hb, hF⟩ := F w mg fa _ KX G.T.g hmg
  exact law_py KX G.T.g G.T.b G.T.builtins G.T.nolimit (G.T.seer hq) hg hobj hints (Nat.le_trans hlen hn2) hr hF hb (pure ns hlen hbits)
end Py
/-! Py9: words for the walk. -/
namespace Py
open PySem PySem.Spec PyProof.Rows L2
/-- a def of the text, as it stands behind the top -/
structure Df (K : PySem.W.Frag) (mg : Str → Option Value) (x : Str) (st : Stmt) where
  f : Addr
  fd : FuncData
  F : Fun K x x st f fd
  g : mg x = some (.ref f)
/-- a constant tuple -/
structure CT (K : PySem.W.Frag) (mg : Str → Option Value) (x : Str) (vs : List PV) where
  a : Addr
  m : mg x = some (.ref a)
  d : ∀ H : Hp, Dp K H (.ref a) (.tuple vs)
def ct_mk {K : PySem.W.Frag} {h : Heap} {mg : Str → Option Value} {x : Str} {i j : Int} {a : Addr} {t u : Tok} {od : Option Addr} {n : Nat} {sl : Array (Option Value)} (X : K.In h) (G : h.Ns mainGlobals mg) (q1 : PySem.W.nsIn K mainGlobals x = some (some (.ref a)))
    (q2 : K.lookup a = some ⟨.type "tuple", od, .seq #[.int i t, .int j u] n, sl⟩) : CT K mg x [.int i, .int j] :=
  ⟨a, PySem.W.mg_of X G q1, fun H => .tup (.inr ⟨_, _, _, q2, rfl, rfl, (by show 2 ≤ sizeLine; rw [sizeLine_eq]; decide), .cons (show RelV (.int i) _ from ⟨t, rfl⟩) (.cons (show RelV (.int j) _ from ⟨u, rfl⟩) .nil)⟩) (.cons (.int i) (.cons (.int j) .nil))⟩
theorem bt_len : bootBuiltins "len" = some (.builtin "len") := by decide +kernel
theorem bt_abs : bootBuiltins "abs" = some (.builtin "abs") := by decide +kernel
theorem bt_min : bootBuiltins "min" = some (.builtin "min") := by decide +kernel
theorem bt_max : bootBuiltins "max" = some (.builtin "max") := by decide +kernel
theorem bt_sum : bootBuiltins "sum" = some (.builtin "sum") := by decide +kernel
theorem bt_all : bootBuiltins "all" = some (.builtin "all") := by decide +kernel
theorem bt_any : bootBuiltins "any" = some (.builtin "any") := by decide +kernel
theorem bt_sorted : bootBuiltins "sorted" = some (.builtin "sorted") := by decide +kernel
theorem bt_isinstance : bootBuiltins "isinstance" = some (.builtin "isinstance") := by decide +kernel
theorem bt_int : bootBuiltins "int" = some (.type "int") := by decide +kernel
theorem bt_bool : bootBuiltins "bool" = some (.type "bool") := by decide +kernel
theorem bt_str : bootBuiltins "str" = some (.type "str") := by decide +kernel
theorem bt_tuple : bootBuiltins "tuple" = some (.type "tuple") := by decide +kernel
theorem bt_list : bootBuiltins "list" = some (.type "list") := by decide +kernel
theorem blk_at {N : List Str} {sc scope : Scope} {own : List (Str × Nat)} {X : Cx} (h1 : X.N = N) (h2 : X.env.scope = sc) (h : blkC N sc scope own = true) : blkC X.N X.env.scope scope own = true := by rw [h1, h2]; exact h
/-- the scope of a comprehension within another one -/
def relS (scope sc : Scope) : Scope := { scope with names := scope.names.map fun (n, k) => if (k == .free && sc.kind == .function && sc.names.lookup n == some .cell) then (n, .cell) else (n, k) }
theorem blk_in {N : List Str} {sc0 scope0 scope : Scope} {own : List (Str × Nat)} {X : Cx} {s : Shared} {H : Hp} {cl : List (Str × Addr)} {C : Addr} {fp : List Addr} (h1 : X.N = N) (h2 : X.env.scope = sc0) (h : blkC N (relS scope0 sc0) scope own = true) :
    blkC (X.blk s H scope0 (compEnvC scope0 cl C X.env) fp).N (X.blk s H scope0 (compEnvC scope0 cl C X.env) fp).env.scope scope own = true := by
  subst h1 h2
  exact h
theorem DivOk.blk {X : Cx} (D : DivOk X) {s : Shared} {H : Hp} {scope : Scope} {cenv : PySem.Env} {fp : List Addr} : DivOk (X.blk s H scope cenv fp) := ⟨D.seer, D.tree, D.deep, D.top⟩
section
variable {X : Cx} {elt iter : Expr} {ifs : List Expr} {scope : Scope} {pos : Pos} {mi : MI} {mt : MT} {me : M} {y : Str} {p : Pos}
theorem bs_setLcT (j : Nat) (is : List Nat) (own : List (Str × Nat)) {ts : List Expr} {k : Nat} {py spos : Pos} (hc : X.calm = true) (hN : X.N.Nodup) (hj : X.N[j]? = some y) (hyl : X.env.scope.names.lookup y = some .local) (hi : BI X (.Tuple ts k p) iter mi) (ok : blkC X.N X.env.scope scope own = true) (hm : ∀ i ∈ is, i ∈ own.map (·.2))
    (hsw : swapsWith (.ListComp elt [⟨.Tuple ts k p, iter, ifs, 0⟩] scope pos) (some (.Name y py)) spos.line X.env = pure true)
    (hg : ∀ (s : Shared) (H : Hp) (C : Addr) (cl : List (Str × Addr)) (fp : List Addr), PG (X.blk s H scope (compEnvC scope cl C X.env) fp) (.Tuple ts k p) (L2.gTup X.K is.length (tNames is)))
    (ht : ∀ (s : Shared) (H : Hp) (C : Addr) (cl : List (Str × Addr)) (fp : List Addr), BTs (X.blk s H scope (compEnvC scope cl C X.env) fp) ifs mt)
    (he : ∀ (s : Shared) (H : Hp) (C : Addr) (cl : List (Str × Addr)) (fp : List Addr), BE (X.blk s H scope (compEnvC scope cl C X.env) fp) elt me) (hs : ∀ x, foldedSetIterable iter X.env x = pure x := by intro _; rfl) :
    BS X (.Assign [.Name y py] (.ListComp elt [⟨.Tuple ts k p, iter, ifs, 0⟩] scope pos) spos) (sAsg (mLc mi (Py.gTup is) (own.map (·.2)) mt me) (Py.gName j)) := by
  obtain ⟨wi, h1, h2⟩ := hi
  exact ⟨_, ps_setLc hc hN hj hyl hsw h1 (blkOk_by ok) hg (fun s H C cl fp => (ht s H C cl fp).can) (fun s H C cl fp => (he s H C cl fp).can) hs, ss_asg (se_lc _ h2 (sg_tup rfl) (tgIn_tup hm) st_rT se_rE) (sg_name j)⟩
end
section
variable {K : PySem.W.Frag} {Hf H Hf' H' : Hp} {X : Cx}
theorem iadd_S : OpS K (fun x y H Q => rI0 (fun i j => .int (i + j)) x y H Q ∨ (∃ i j, x = .str i ∧ y = .str j ∧ i.length + j.length ≤ sizeLine ∧ Q (.str (i ++ j)) H)) fIAdd := fun Hf H c d x y z e hc hd e5 Q q => by
  unfold fIAdd at e5
  split at e5
  · cases e5; cases hc; cases hd; exact .inl ⟨_, _, rfl, rfl, old e (.int _) q⟩
  · split at e5
    · rename_i hz; cases e5; cases hc; cases hd; exact .inr ⟨_, _, rfl, rfl, by rw [← line_eq]; exact hz, old e (.str _) q⟩
    · cases e5
  · cases e5
theorem ob_iadd : OpB X (inplaceOp .Add) fIAdd := ⟨_, iop_add.or iop_add_str, iadd_S⟩
theorem ob_imul : OpB X (inplaceOp .Mult) fMulI := opB_int iop_mulB fun c d z h => by
  unfold fMulI at h
  split at h
  · split at h
    · rename_i hz; cases h; exact ⟨_, _, _, rfl, rfl, hz, rfl, fun _ => .int _⟩
    · cases h
  · cases h
theorem ob_idiv (D : DivOk X) : OpB X (inplaceOp .FloorDiv) fDiv := opB_int (iop_divB D) fun _ _ _ h => div_some h
/-! sorted, of ints -/
theorem pw_perm_eq : ∀ {xs ys : List Int}, xs.Perm ys → xs.Pairwise (· ≤ ·) → ys.Pairwise (· ≤ ·) → xs = ys := fun p h1 h2 =>
  List.Perm.eq_of_pairwise (fun a b _ _ h1 h2 => Int.le_antisymm h1 h2) h1 h2 p
theorem isort_perm (ns : List Int) : (isort ns).Perm ns := List.mergeSort_perm _ _
theorem isort_sorted (ns : List Int) : (isort ns).Pairwise (· ≤ ·) := by
  have h := List.pairwise_mergeSort (le := fun a b : Int => decide (a ≤ b)) (fun a b c h1 h2 => by simp only [decide_eq_true_eq] at *; omega) (fun a b => by simp only [Bool.or_eq_true, decide_eq_true_eq]; omega) ns
  exact h.imp fun z => by simpa using z
theorem c_sorted : C1 X (.builtin "sorted") fSorted := ⟨_, cr_sortedI, fun Hf H c x z e hc e5 Q q => by
  simp only [fSorted, Option.bind_eq_some_iff, Option.map_eq_some_iff] at e5
  obtain ⟨xs, h1, ns, h2, rfl⟩ := e5
  obtain ⟨a, us, rfl, hs, d⟩ := lst_ok e hc h1
  rw [ints_ok h2 d] at hs
  refine ⟨a, ns, rfl, hs, fun ns' p h3 h4 hp => ?_⟩
  rw [pw_perm_eq (h3.trans (isort_perm ns).symm) h4 (isort_sorted ns)]
  exact newL e (dps_ints _) q p hp⟩
end
end Py
/-! PyA0: further meanings. -/
namespace Py
open PySem
/-- is True, is False -/
def fIsB (neg : Bool) : Ct → Ct → Option R
  | .pv (.bool a), .pv (.bool b) => some (.val (.bool (neg ^^ (a == b))))
  | _, _ => none
def flatD : PV → Bool
  | .int _ => true
  | .str _ => true
  | _ => false
def inD (x : PV) (xs : List PV) : Bool := xs.any fun y => PyData.eqv y x
/-- x in a list or a tuple -/
def fIn (neg : Bool) (c d : Ct) : Option R := match c with
  | .pv x => d.seq?.bind fun xs => if flatD x = true ∧ xs.all flatD = true then some (.val (.bool (neg ^^ inD x xs))) else
    d.lst?.bind fun xs => if SeqAt.shaped x = true ∧ SeqAt.shaped (.list xs) = true then some (.val (.bool (neg ^^ inD x xs))) else none
  | _ => none
/-- list(range(n)), list(range(m, n)) -/
def mLstR1 (a : M) : M := fun ρ => (a ρ).bind fun x => (look x.1 x.2).bind fun c => (intOf c).bind fun n => if n ≤ line ∧ -(2 ^ 62) ≤ n then some (.new (.lst (rangeL 0 n.toNat)), x.2) else none
def mLstR2 (a b : M) : M := fun ρ => (a ρ).bind fun x => (look x.1 x.2).bind fun c => (intOf c).bind fun lo => (b x.2).bind fun y => (look y.1 y.2).bind fun d => (intOf d).bind fun hi =>
  if -(2 ^ 61) ≤ lo ∧ lo < 2 ^ 61 ∧ -(2 ^ 61) ≤ hi ∧ hi < 2 ^ 61 ∧ (hi - lo) ≤ line then some (.new (.lst (rangeL lo (hi - lo).toNat)), y.2) else none
/-- xs[e] op= a -/
def sAugIx (i : Nat) (e : M) (f : Ct → Ct → Option R) (a : M) : SM := fun ρ => (lstAt ρ i).bind fun _ => (e ρ).bind fun y => (look y.1 y.2).bind fun c => (intOf c).bind fun k => (lstAt y.2 i).bind fun xs => (atI xs k).bind fun v =>
  (a y.2).bind fun x => (look x.1 x.2).bind fun c2 => (f (.pv v) c2).bind fun z => match z with
    | .val w => (lstAt x.2 i).bind fun ys => (ixN ys.length k).map fun j => (.nx, setOb x.2 i (.lst (ys.set j w)))
    | _ => none
/-- xs[::-1] of a list -/
def fRevL (c : Ct) : Option R := c.lst?.map fun xs => .new (.lst xs.reverse)
def fRevT (c : Ct) : Option R := c.tup?.map fun xs => .val (.tuple xs.reverse)
/-- range(lo, hi, -1) -/
def rangeD (lo : Int) (n : Nat) : List PV := (List.range n).map fun (k : Nat) => .int (lo - (k : Int))
def iRngD (a b : M) : MI := fun ρ => (a ρ).bind fun x => (look x.1 x.2).bind fun c => (intOf c).bind fun lo => (b x.2).bind fun y => (look y.1 y.2).bind fun d => (intOf d).bind fun hi =>
  if -(2 ^ 61) ≤ lo ∧ lo < 2 ^ 61 ∧ -(2 ^ 61) ≤ hi ∧ hi < 2 ^ 61 ∧ (lo - hi) ≤ line then some (rangeD lo (lo - hi).toNat, y.2) else none
/-- xs.insert(e, v) -/
def mInsert (i : Nat) (e a : M) : M := fun ρ => (lstAt ρ i).bind fun _ => (e ρ).bind fun y => (look y.1 y.2).bind fun c => (intOf c).bind fun k => (a y.2).bind fun x => (frz x.1 x.2).bind fun v => (lstAt v.2 i).bind fun xs =>
  if 0 ≤ k ∧ k < 2 ^ 62 ∧ xs.length < line then some (.val .none, setOb v.2 i (.lst (xs.take k.toNat ++ [v.1] ++ xs.drop k.toNat))) else none
/-- xs.index(e) of flat items -/
def fIndex (c d : Ct) : Option R := match d with
  | .pv x => c.lst?.bind fun xs => if flatD x = true ∧ xs.all flatD = true then (xs.findIdx? fun y => PyData.eqv y x).map fun j => .val (.int (j : Nat)) else none
  | _ => none
/-! dicts -/
def dctAt (ρ : Env) (i : Nat) : Option (List (Key × PV)) := match obAt ρ i with
  | some (.dct kvs) => some kvs
  | _ => none
def keyC : Ct → Option Key
  | .pv v => keyOf v
  | _ => none
def fDget : Ct → Ct → Option R
  | .ob (.dct kvs), c => (keyC c).bind fun k => (dGet kvs k).map .val
  | _, _ => none
/-- k in d -/
def fDin (neg : Bool) : Ct → Ct → Option R
  | c, .ob (.dct kvs) => (keyC c).map fun k => .val (.bool (neg ^^ (dGet kvs k).isSome))
  | _, _ => none
/-- d.get(k, v) -/
def mDget2 (d k v : M) : M := fun ρ => (d ρ).bind fun x => (look x.1 x.2).bind fun _ => (k x.2).bind fun y => (look y.1 y.2).bind fun ck => (keyC ck).bind fun key => (v y.2).bind fun z => (look x.1 z.2).bind fun c => match c, z.1 with
  | .ob (.dct kvs), .val w => some (.val ((dGet kvs key).getD w), z.2)
  | _, _ => none
/-- d[k] = v -/
def sDput (i : Nat) (e a : M) : SM := fun ρ => (a ρ).bind fun x => (frz x.1 x.2).bind fun v => (dctAt v.2 i).bind fun _ => (e v.2).bind fun y => (look y.1 y.2).bind fun c => (keyC c).bind fun k => (dctAt y.2 i).bind fun kvs =>
  if kvs.length < line then some (.nx, setOb y.2 i (.dct (dPut kvs k v.1))) else none
end Py
namespace Py
open PySem
def mIndex (a b : M) : M := fun ρ => (a ρ).bind fun x => (look x.1 x.2).bind fun c0 => c0.lst?.bind fun _ => (b x.2).bind fun y => (look x.1 y.2).bind fun cx => (look y.1 y.2).bind fun cy => (fIndex cx cy).map fun z => (z, y.2)
end Py
/-! PyA: rules of the further meanings. -/
namespace Py
open PySem PySem.Spec PyProof.Rows L2
section
variable {K : PySem.W.Frag} {Hf H Hf' H' Hf1 H1 Hf2 H2 H0 : Hp} {ρ ρ' ρ1 ρ2 : Env} {σ σ' σ1 σ2 : L2.St} {O O' O1 : Addr → Prop} {X : Cx}
/-! is True -/
theorem isB_S {neg : Bool} : OpS K (fun x y H Q => ∃ a b : Bool, x = .bl a ∧ y = .bl b ∧ Q (.bl (neg ^^ (a == b))) H) (fIsB neg) := fun Hf H c d x y z e hc hd e5 Q q => by
  unfold fIsB at e5
  split at e5
  · cases e5; cases hc; cases hd; exact ⟨_, _, rfl, rfl, old e (.bl _) q⟩
  · cases e5
theorem beq_dec (a b : Bool) : (a == b) = decide (a = b) := by cases a <;> cases b <;> rfl
theorem op_isB : OpR X (compareOp .Is) (fun x y H Q => ∃ a b : Bool, x = .bl a ∧ y = .bl b ∧ Q (.bl (false ^^ (a == b))) H) := by
  intro pins s σ H x y v u Q I rx ry h
  obtain ⟨a, b, e1, e2, q⟩ := h
  refine op_is_bl pins s σ H x y v u Q I rx ry ⟨a, b, e1, e2, ?_⟩
  rwa [← beq_dec, ← Bool.false_xor (a == b)]
theorem op_isntB : OpR X (compareOp .IsNot) (fun x y H Q => ∃ a b : Bool, x = .bl a ∧ y = .bl b ∧ Q (.bl (true ^^ (a == b))) H) := by
  intro pins s σ H x y v u Q I rx ry h
  obtain ⟨a, b, e1, e2, q⟩ := h
  refine op_isnot_bl pins s σ H x y v u Q I rx ry ⟨a, b, e1, e2, ?_⟩
  rwa [← beq_dec, ← Bool.true_xor (a == b)]
theorem ob_isB : OpB X (compareOp .Is) (fIsB false) := ⟨_, op_isB, isB_S⟩
theorem ob_isntB : OpB X (compareOp .IsNot) (fIsB true) := ⟨_, op_isntB, isB_S⟩
/-! in -/
theorem flat_V {u : V} {v : PV} (d : Dp K Hf u v) (h : flatD v = true) : flatV u = true := by
  cases d with
  | int _ => rfl
  | str _ => rfl
  | _ => cases h
theorem flat_eq {u w : V} {v x : PV} (d : Dp K Hf u v) (d2 : Dp K Hf w x) (h : flatD v = true) (h2 : flatD x = true) : eqV u w = PyData.eqv v x := by
  cases d with
  | int i =>
    cases d2 with
    | int j => rfl
    | str _ => rfl
    | _ => cases h2
  | str i =>
    cases d2 with
    | int j => rfl
    | str _ => rfl
    | _ => cases h2
  | _ => cases h
theorem flat_all : ∀ {us : List V} {xs : List PV}, DpAll K Hf us xs → xs.all flatD = true → us.all flatV = true
  | _, _, .nil, _ => rfl
  | _, _, .cons d t, h => by
    rw [List.all_cons, Bool.and_eq_true] at h ⊢
    exact ⟨flat_V d h.1, flat_all t h.2⟩
theorem flat_in {w : V} {x : PV} (d2 : Dp K Hf w x) (h2 : flatD x = true) : ∀ {us : List V} {xs : List PV}, DpAll K Hf us xs → xs.all flatD = true → inV w us = inD x xs
  | _, _, .nil, _ => rfl
  | _, _, .cons d t, h => by
    rw [List.all_cons, Bool.and_eq_true] at h
    have := flat_in d2 h2 t h.2
    unfold inV inD at this ⊢
    rw [List.any_cons, List.any_cons, this, flat_eq d d2 h.1 h2]
theorem seq_ok {c : Ct} {xs : List PV} {u : V} (e : Ex Hf H) (hc : RepC K Hf H c u) (h : c.seq? = some xs) : ∃ a us, u = .ref a ∧ (SqL K H a us ∨ SqT K H a us) ∧ DpAll K Hf us xs := by
  unfold Ct.seq? at h
  split at h
  · cases h; cases hc with | lst hs ha => exact ⟨_, _, rfl, .inl (ex_l e hs), ha⟩
  · cases h; cases hc with | tup hs ha => exact ⟨_, _, rfl, .inr (ex_t e hs), ha⟩
  · cases h; obtain ⟨a, rfl, us, h1, d1⟩ := hc; exact ⟨_, _, rfl, .inl (SqL.of h1), d1⟩
  · cases h
theorem lst_dp {c : Ct} {xs : List PV} {u : V} (e : Ex Hf H) (hc : RepC K Hf H c u) (h : c.lst? = some xs) : Dp K H u (.list xs) := by
  obtain ⟨a, us, rfl, hs, ha⟩ := lst_ok e hc h
  exact .lst hs (dps_mono e _ _ ha)
theorem in_S {neg : Bool} : OpS K (fun x y H Q => rIn K neg x y H Q ∨ (∃ d ds, Dp K H x d ∧ Dp K H y (.list ds) ∧ SeqAt.shaped d = true ∧ SeqAt.shaped (.list ds) = true ∧ Q (.bl (neg ^^ (ds.any fun z => PyData.eqv z d))) H)) (fIn neg) := fun Hf H c d x y z e hc hd e5 Q q => by
  unfold fIn at e5
  split at e5
  · rename_i v
    simp only [Option.bind_eq_some_iff] at e5
    obtain ⟨xs, h1, h2⟩ := e5
    split at h2
    · rename_i hf
      cases h2
      obtain ⟨a, us, rfl, hs, da⟩ := seq_ok e hd h1
      refine .inl ⟨a, us, rfl, hs, flat_V (dp_mono e _ _ hc) hf.1, flat_all da hf.2, ?_⟩
      rw [flat_in hc hf.1 da hf.2]
      have eb : (if neg = true then !inD v xs else inD v xs) = (neg ^^ inD v xs) := by cases neg <;> simp
      rw [eb]
      exact old e (.bl _) q
    · simp only [Option.bind_eq_some_iff] at h2
      obtain ⟨ys, h3, h4⟩ := h2
      split at h4
      · rename_i hf
        cases h4
        exact .inr ⟨v, ys, dp_mono e _ _ hc, lst_dp e hd h3, hf.1, hf.2, old e (.bl _) q⟩
      · cases h4
  · cases e5
theorem op_inDx (hu : X.A.units + 65 < cLine) : OpR X (compareOp .In) (fun x y H Q => ∃ d ds, Dp X.K H x d ∧ Dp X.K H y (.list ds) ∧ SeqAt.shaped d = true ∧ SeqAt.shaped (.list ds) = true ∧ Q (.bl (false ^^ (ds.any fun z => PyData.eqv z d))) H) := by
  intro pins s σ H x y v u Q I rx ry h
  obtain ⟨d, ds, a1, a2, a3, a4, q⟩ := h
  exact op_inD hu pins s σ H x y v u Q I rx ry ⟨d, ds, a1, a2, a3, a4, by rwa [Bool.false_xor] at q⟩
theorem op_notInDx (hu : X.A.units + 65 < cLine) : OpR X (compareOp .NotIn) (fun x y H Q => ∃ d ds, Dp X.K H x d ∧ Dp X.K H y (.list ds) ∧ SeqAt.shaped d = true ∧ SeqAt.shaped (.list ds) = true ∧ Q (.bl (true ^^ (ds.any fun z => PyData.eqv z d))) H) := by
  intro pins s σ H x y v u Q I rx ry h
  obtain ⟨d, ds, a1, a2, a3, a4, q⟩ := h
  exact op_notInD hu pins s σ H x y v u Q I rx ry ⟨d, ds, a1, a2, a3, a4, by rwa [Bool.true_xor] at q⟩
theorem ob_in (hu : X.A.units + 65 < cLine) : OpB X (compareOp .In) (fIn false) := ⟨_, op_in_seq.or (op_inDx hu), in_S⟩
theorem ob_notIn (hu : X.A.units + 65 < cLine) : OpB X (compareOp .NotIn) (fIn true) := ⟨_, op_notIn_seq.or (op_notInDx hu), in_S⟩
/-! list(range(..)) -/
theorem dps_rng (lo : Int) (n : Nat) : DpAll K Hf ((List.range n).map fun i => V.int (lo + (i : Nat))) (rangeL lo n) := by
  unfold rangeL
  induction (List.range n) with
  | nil => exact .nil
  | cons a l ih => exact .cons (.int _) ih
theorem se_lstR1 {te : TE} {a : M} (ha : SE K te a) : SE K (tLstRg (tRg1 te)) (mLstR1 a) := by
  intro ρ r ρ' σ Hf H hm E Q q
  simp only [mLstR1, Option.bind_eq_some_iff] at hm
  obtain ⟨⟨x, ρ1⟩, e1, c, e2, n, e3, e4⟩ := hm
  split at e4
  · rename_i hz
    cases e4
    refine ha ρ x ρ1 σ Hf H e1 E _ fun u Hf1 H1 S1 E1 R1 k1 => ?_
    have B1 : Bh K Hf H ρ σ Hf1 H1 ρ1 := ⟨S1, E1, k1⟩
    have hl : (line : Int) = 16777216 := rfl
    refine ⟨n, intOf_some e3 (look_ok E1 R1 e2), ⟨by omega, by omega, by omega, by omega, by omega⟩, fun p hp => ?_⟩
    obtain ⟨S, fp⟩ := new_ob (o := .lst (rgV 0 n)) E1.ff hp
    have B2 := B1.more S
    refine q _ _ _ B2.st B2.en ⟨p, rfl, B1.fresh hp, fp, _, upd_same, ?_⟩ B2.kp
    unfold rgV
    rw [Int.sub_zero]
    exact dps_rng 0 n.toNat
  · cases e4
theorem se_lstR2 {te tf : TE} {a b : M} (ha : SE K te a) (hb : SE K tf b) : SE K (tLstRg (tRg2 te tf)) (mLstR2 a b) := by
  intro ρ r ρ' σ Hf H hm E Q q
  simp only [mLstR2, Option.bind_eq_some_iff] at hm
  obtain ⟨⟨x, ρ1⟩, e1, c, e2, n, e3, ⟨y, ρ2⟩, e4, d, e5, k, e6, e7⟩ := hm
  split at e7
  · rename_i hz
    cases e7
    refine ha ρ x ρ1 σ Hf H e1 E _ fun u Hf1 H1 S1 E1 R1 k1 => ?_
    have B1 : Bh K Hf H ρ σ Hf1 H1 ρ1 := ⟨S1, E1, k1⟩
    have eu := intOf_some e3 (look_ok E1 R1 e2)
    refine hb ρ1 y ρ2 σ Hf1 H1 e4 E1 _ fun w Hf2 H2 S2 E2 R2 k2 => ?_
    have B2 := B1.trans (⟨S2, E2, k2⟩ : Bh K Hf1 H1 ρ1 σ Hf2 H2 ρ2)
    have hl : (line : Int) = 16777216 := rfl
    refine ⟨n, k, eu, intOf_some e6 (look_ok E2 R2 e5), ⟨by omega, by omega, by omega, by omega, by omega⟩, fun p hp => ?_⟩
    obtain ⟨S, fp⟩ := new_ob (o := .lst (rgV n k)) E2.ff hp
    have B3 := B2.more S
    exact q _ _ _ B3.st B3.en ⟨p, rfl, B2.fresh hp, fp, _, upd_same, dps_rng n (k - n).toNat⟩ B3.kp
  · cases e7
end
section
variable {X : Cx} {a b : Expr} {ma mb : M} {p p' pos pos' : Pos}
theorem be_lstR1 (hc : X.calm = true) (hg : Gl X "list") (hm : X.mg "list" = none) (hg' : Gl X "range") (hm' : X.mg "range" = none) (ha : BE X a ma) (na : starEach [a] X.env = (false, eval a X.env) :: starEach [] X.env := by rfl)
    (na' : starEach [.Call (.Name "range" p') [a] [] pos'] X.env = (false, eval (.Call (.Name "range" p') [a] [] pos') X.env) :: starEach [] X.env := by rfl) : BE X (.Call (.Name "list" p) [.Call (.Name "range" p') [a] [] pos'] [] pos) (mLstR1 ma) := by
  obtain ⟨t, a1, a2⟩ := ha
  exact ⟨_, pe_listRg hc hg hm (prg_1 hg' hm' a1 na) na', se_lstR1 a2⟩
theorem be_lstR2 (hc : X.calm = true) (hg : Gl X "list") (hm : X.mg "list" = none) (hg' : Gl X "range") (hm' : X.mg "range" = none) (ha : BE X a ma) (hb : BE X b mb) (na : starEach [a, b] X.env = (false, eval a X.env) :: starEach [b] X.env := by rfl) (nb : starEach [b] X.env = (false, eval b X.env) :: starEach [] X.env := by rfl)
    (hp : (backTo pos' (starEach [b] X.env)).any (·.1) = false := by rfl)
    (na' : starEach [.Call (.Name "range" p') [a, b] [] pos'] X.env = (false, eval (.Call (.Name "range" p') [a, b] [] pos') X.env) :: starEach [] X.env := by rfl) : BE X (.Call (.Name "list" p) [.Call (.Name "range" p') [a, b] [] pos'] [] pos) (mLstR2 ma mb) := by
  obtain ⟨t, a1, a2⟩ := ha
  obtain ⟨u, b1, b2⟩ := hb
  exact ⟨_, pe_listRg hc hg hm (prg_2 hg' hm' a1 b1 na nb hp) na', se_lstR2 a2 b2⟩
end
end Py
/-! PyB: rules of the further meanings: stores, dicts. -/
namespace Py
open PySem PySem.Spec PyProof.Rows L2
section
variable {K : PySem.W.Frag} {Hf H Hf' H' Hf1 H1 Hf2 H2 H0 : Hp} {ρ ρ' ρ1 ρ2 : Env} {σ σ' σ1 σ2 : L2.St} {O O' O1 : Addr → Prop} {X : Cx}
theorem get_ixL : PGet X (rIxL X.K) := by
  intro pins s σ H x y v u Q I rx ry h
  obtain ⟨p, xs, i, z, rfl, rfl, hq, he, q⟩ := h
  cases rx
  obtain ⟨t, rfl⟩ := ry
  obtain ⟨its, r, pl, hz⟩ := I.list hq
  obtain ⟨j, h1, h2, h3, h4, h5⟩ := atI_get he
  obtain ⟨w, ew, rw'⟩ := r.get h2
  have hl := r.length
  have hn := line63
  have fin : EP X pins σ Q w s := ⟨z, H, I, rw', q⟩
  by_cases h0 : 0 ≤ i
  · have hj : i.toNat = j := by
      rw [seqIndex_of h0 h5] at h1
      exact Option.some.inj h1
    exact wpAny_getItem_list pl.isList h0 (by omega) (by rw [hj]; simpa using ew) fin
  · have hj : (i + (its.toArray.size : Int)).toNat = j := by
      rw [seqIndex_neg (by omega) h4] at h1
      rw [List.size_toArray, ← hl]
      exact Option.some.inj h1
    exact wpAny_getItem_list_neg pl.isList (by omega) (by rw [List.size_toArray] <;> omega) (by omega) (by rw [hj]; simpa using ew) fin
/-- xs[e] op= a -/
theorem ss_augIx {i : Nat} {te ti : TE} {a e : M} {r : R2} {f : Ct → Ct → Option R} (he : SE K ti e) (ha : SE K te a) (hr : OpS K r f) : SS K (tAugS (tVar i) ti te (rIxL K) r rSetL) (sAugIx i e f a) := by
  intro ρ fl ρ' σ Hf H hm E D q
  simp only [sAugIx, Option.bind_eq_some_iff] at hm
  obtain ⟨ys, h0, ⟨y, ρ1⟩, e1, c, e2, k, e3, xs, e4, v, e5, ⟨x, ρ2⟩, e6, c2, e7, z, e8, e9⟩ := hm
  cases z with
  | new o => cases e9
  | bor j => cases e9
  | val w =>
    simp only [Option.bind_eq_some_iff, Option.map_eq_some_iff, Prod.mk.injEq] at e9
    obtain ⟨zs, e10, j, e11, rfl, rfl⟩ := e9
    obtain ⟨p, o1, s1, f1, ⟨vs, hv, dv⟩, _⟩ := obAt_ok E (lstAt_ok E h0)
    refine ⟨_, slot_at s1, ?_⟩
    refine he ρ y ρ1 σ Hf H e1 E _ fun u Hf1 H1 S1 E1 R1 k1 => ?_
    have B1 : Bh K Hf H ρ σ Hf1 H1 ρ1 := ⟨S1, E1, k1⟩
    have eu := intOf_some e3 (look_ok E1 R1 e2)
    subst eu
    obtain ⟨p', o2, s2, f2, ⟨ws, hw, dw⟩, hi⟩ := obAt_ok E1 (lstAt_ok E1 e4)
    rw [s1] at s2
    cases s2
    obtain ⟨uv, g1, g2⟩ := at_ok dw e5
    refine ⟨p, ws, k, uv, rfl, rfl, SqL.of hw, g1, ?_⟩
    refine ha ρ1 x ρ2 σ Hf1 H1 e6 E1 _ fun u2 Hf2 H2 S2 E2 R2 k2 => ?_
    have B2 := B1.trans (⟨S2, E2, k2⟩ : Bh K Hf1 H1 ρ1 σ Hf2 H2 ρ2)
    refine hr Hf2 H2 (.pv v) c2 uv u2 _ E2.ff (dp_mono S2.ff _ _ g2) (look_ok E2 R2 e7) e8 _ fun t Hf3 H3 S3 R3 => ?_
    have B3 := B2.more S3
    obtain ⟨p', o3, s3, f3, ⟨ts, ht, dt⟩, hi3⟩ := obAt_ok B3.en (lstAt_ok B3.en e10)
    rw [s1] at s3
    cases s3
    have B4 := B3.trans (mut_ok (o := .lst zs) (o' := .lst (zs.set j w)) (ho := .lst (ts.set j t)) B3.en o3 hi3 ⟨_, upd_same, dps_set R3 _ dt⟩)
    exact ⟨p, ts, k, j, rfl, rfl, ht, by rw [dps_len dt]; exact e11, q σ Hf3 _ B4.s⟩
/-- range(lo, hi, -1) -/
theorem walk_d {lo : Int} {n : Nat} : Walk K (Itc lo (-1) n) (rangeD lo n) O Hf H := by
  intro Hf2 H2 S i
  unfold rangeD
  constructor
  · intro x hx
    rw [List.getElem?_map, Option.map_eq_some_iff] at hx
    obtain ⟨k, h1, rfl⟩ := hx
    obtain ⟨h2, h3⟩ := List.getElem?_eq_some_iff.mp h1
    rw [List.getElem_range] at h3
    subst h3
    rw [List.length_range] at h2
    refine ⟨h2, fun u H3 ⟨e1, e2⟩ => ⟨e1, ?_⟩⟩
    rw [e2, show lo + (i : Int) * -1 = lo - (i : Int) by omega]
    exact .int _
  · intro hi
    have h : n ≤ i := by simpa using hi
    exact h
theorem si_rngD {te tf tg : TE} {a b : M} (ha : SE K te a) (hb : SE K tf b) (hc : ∀ σ H Q, Q (.int (-1)) H → tg σ H Q) : SI K (L2.iRng3 (tCons te (tCons tf (tCons tg tNil)))) (Py.iRngD a b) := by
  intro ρ xs ρ' σ Hf H hm E R q
  simp only [Py.iRngD, Option.bind_eq_some_iff] at hm
  obtain ⟨⟨x, ρ1⟩, e1, c, e2, n, e3, ⟨y, ρ2⟩, e4, d, e5, k, e6, e7⟩ := hm
  split at e7
  · rename_i hz
    cases e7
    refine ha ρ x ρ1 σ Hf H e1 E _ fun u Hf1 H1 S1 E1 R1 k1 => ?_
    have B1 : Bh K Hf H ρ σ Hf1 H1 ρ1 := ⟨S1, E1, k1⟩
    have eu := intOf_some e3 (look_ok E1 R1 e2)
    refine hb ρ1 y ρ2 σ Hf1 H1 e4 E1 _ fun w Hf2 H2 S2 E2 R2 k2 => ?_
    have B2 := B1.trans (⟨S2, E2, k2⟩ : Bh K Hf1 H1 ρ1 σ Hf2 H2 ρ2)
    refine hc σ H2 _ ?_
    exact ⟨n, k, -1, (n - k).toNat, by rw [eu, intOf_some e6 (look_ok E2 R2 e5)], RgC.neg (by omega) (by omega) (by omega) (by omega), q _ Hf2 H2 B2 walk_d⟩
  · cases e7
/-- xs.insert(e, a) -/
theorem se_insert {i : Nat} {te ta : TE} {e a : M} (he : SE K te e) (ha : SE K ta a) : SE K (tBM K "list" (fun x vs H Q => ∃ (l : Addr) (xs : List V) (i : Int) (y : V), x = .ref l ∧ vs = [.int i, y] ∧ H l = some (.lst xs) ∧ xs.length < sizeLine ∧ 0 ≤ i ∧ i < 2 ^ 63 ∧
    Q .non (upd H l (.lst (xs.take i.toNat ++ [y] ++ xs.drop i.toNat)))) (tVar i) (tCons te (tCons ta tNil))) (mInsert i e a) := by
  intro ρ r ρ' σ Hf H hm E Q q
  simp only [mInsert, Option.bind_eq_some_iff] at hm
  obtain ⟨ys, h0, ⟨y, ρ1⟩, e1, c, e2, k, e3, ⟨x, ρ2⟩, e4, ⟨v, ρ3⟩, e5, xs, e6, e7⟩ := hm
  split at e7
  · rename_i hz
    cases e7
    obtain ⟨p, o1, s1, f1, ⟨vs, hv, dv⟩, _⟩ := obAt_ok E (lstAt_ok E h0)
    refine ⟨_, slot_at s1, .inl ⟨rfl, _, SqL.of hv⟩, ?_⟩
    refine he ρ y ρ1 σ Hf H e1 E _ fun u Hf1 H1 S1 E1 R1 k1 => ?_
    have B1 : Bh K Hf H ρ σ Hf1 H1 ρ1 := ⟨S1, E1, k1⟩
    have eu := intOf_some e3 (look_ok E1 R1 e2)
    refine ha ρ1 x ρ2 σ Hf1 H1 e4 E1 _ fun u2 Hf2 H2 S2 E2 R2 k2 => ?_
    have B2' : Bh K Hf1 H1 ρ1 σ Hf2 H2 ρ2 := ⟨S2, E2, k2⟩
    obtain ⟨Hf3, B3', d⟩ := B2'.frz E1 R2 e5
    have B3 := B1.trans B3'
    obtain ⟨p', o2, s2, f2, ⟨ws, hw, dw⟩, hi⟩ := obAt_ok B3.en (lstAt_ok B3.en e6)
    rw [s1] at s2
    cases s2
    have B4 := B3.trans (mut_ok (o := .lst xs) (o' := .lst (xs.take k.toNat ++ [v] ++ xs.drop k.toNat)) (ho := .lst (ws.take k.toNat ++ [u2] ++ ws.drop k.toNat)) B3.en o2 hi ⟨_, upd_same, dps_app (dps_app (dps_take _ dw) (.cons d .nil)) (dps_drop _ dw)⟩)
    exact ⟨p, ws, k, u2, rfl, by rw [eu], hw, by rw [dps_len dw, ← line_eq]; exact hz.2.2, hz.1, by omega, q _ _ _ B4.st B4.en .non B4.kp⟩
  · cases e7
end
section
variable {X : Cx} {a b e : Expr} {ma mb me : M} {x y : Str} {p p' apos pos pos' : Pos}
theorem bs_augIx (i : Nat) {op : Operator} {f : Ct → Ct → Option R} (ho : PE X (.Name x p) (tVar i)) (hop : OpB X (inplaceOp op) f) (he : BE X e me) (ha : BE X a ma)
    (hst : ∀ ov iv new, augStore e ov iv new = (do holding [new, ov, iv] (setItem ov iv new); release [new, ov, iv] []; pure .next) := by intros; rfl) (hs : PlainIx e := by intro _ _; rfl) : BS X (.AugAssign (.Subscript (.Name x p) e p') op a pos) (sAugIx i me f ma) := by
  obtain ⟨r, o1, o2⟩ := hop
  obtain ⟨t, a1, a2⟩ := ha
  obtain ⟨u, b1, b2⟩ := he
  exact ⟨_, ps_augS ho b1 get_ixL a1 (fun pins s σ H x y v u Q I rx ry q => o1 pins s σ H x y v u Q I rx ry q) set_list hst, ss_augIx b2 a2 o2⟩
end
end Py
/-! PyC: dicts. -/
namespace Py
open PySem PySem.Spec PyProof.Rows L2
section
variable {K : PySem.W.Frag} {Hf H Hf' H' Hf1 H1 Hf2 H2 H0 : Hp} {ρ ρ' ρ1 ρ2 : Env} {σ σ' σ1 σ2 : L2.St} {O O' O1 : Addr → Prop} {X : Cx}
theorem kvs_get : ∀ {ws : List (Key × V)} {kvs : List (Key × PV)} (k : Key), KvAll K Hf ws kvs → (∀ d, dGet kvs k = some d → ∃ u, valV ws k = some u ∧ Dp K Hf u d) ∧ (dGet kvs k = none → valV ws k = none)
  | _, _, k, .nil => ⟨(fun d h => by simp [dGet] at h), fun _ => rfl⟩
  | _, _, k, .cons (k := j) (v := v) (d := d) (ws := ws) (kvs := kvs) r t => by
    obtain ⟨h1, h2⟩ := kvs_get k t
    unfold dGet at h1 h2 ⊢
    by_cases e : j = k
    · rw [List.find?_cons_of_pos (by simpa using e)]
      refine ⟨fun d' h => ?_, fun h => by cases h⟩
      cases h
      exact ⟨v, valV_pos (p := (j, v)) e, r⟩
    · rw [List.find?_cons_of_neg (by simpa using e)]
      refine ⟨fun d' h => ?_, fun h => ?_⟩
      · rw [valV_neg (p := (j, v)) e]; exact h1 d' h
      · rw [valV_neg (p := (j, v)) e]; exact h2 h
theorem keyOf_ok {v : PV} {k : Key} {u : V} (h : keyOf v = some k) (d : Dp K Hf u v) : u = kV k := by
  unfold keyOf at h
  split at h
  · cases h; cases d; rfl
  · cases h; cases d; rfl
  · cases h
theorem keyC_ok {c : Ct} {k : Key} {u : V} (h : keyC c = some k) (r : RepC K Hf H c u) : u = kV k := by
  unfold keyC at h
  split at h
  · exact keyOf_ok h r
  · cases h
theorem dctAt_ok {i : Nat} {kvs : List (Key × PV)} (h : dctAt ρ i = some kvs) : obAt ρ i = some (.dct kvs) := by
  unfold dctAt at h
  split at h
  · cases h; assumption
  · cases h
theorem kvs_len : ∀ {ws : List (Key × V)} {kvs : List (Key × PV)}, KvAll K Hf ws kvs → ws.length = kvs.length
  | _, _, .nil => rfl
  | _, _, .cons _ t => by simp [kvs_len t]
theorem kvs_app : ∀ {ws ws2 : List (Key × V)} {kvs kvs2 : List (Key × PV)}, KvAll K Hf ws kvs → KvAll K Hf ws2 kvs2 → KvAll K Hf (ws ++ ws2) (kvs ++ kvs2)
  | _, _, _, _, .nil, t => t
  | _, _, _, _, .cons r s, t => .cons r (kvs_app s t)
theorem kvs_any (k : Key) : ∀ {ws : List (Key × V)} {kvs : List (Key × PV)}, KvAll K Hf ws kvs → (kvs.find? fun kv => decide (kv.1 = k)).isSome = (ws.any fun kv => decide (kv.1 = k))
  | _, _, .nil => rfl
  | _, _, .cons (k := j) (v := v) (d := d) r t => by
    rw [List.any_cons]
    by_cases e : j = k
    · rw [List.find?_cons_of_pos (by simpa using e)]; simp [e]
    · rw [List.find?_cons_of_neg (by simpa using e), kvs_any k t]; simp [e]
theorem kvs_map (k : Key) {v : PV} {u : V} (d0 : Dp K Hf u v) : ∀ {ws : List (Key × V)} {kvs : List (Key × PV)}, KvAll K Hf ws kvs → KvAll K Hf (ws.map fun kv => if kv.1 = k then (kv.1, u) else kv) (kvs.map fun kv => if kv.1 = k then (k, v) else kv)
  | _, _, .nil => .nil
  | _, _, .cons (k := j) (v := w) (d := d) r t => by
    rw [List.map_cons, List.map_cons]
    by_cases e : j = k
    · subst e
      rw [if_pos rfl, if_pos rfl]
      exact .cons d0 (kvs_map _ d0 t)
    · rw [if_neg e, if_neg e]
      exact .cons r (kvs_map _ d0 t)
theorem kvs_put {ws : List (Key × V)} {kvs : List (Key × PV)} (k : Key) {v : PV} {u : V} (r : KvAll K Hf ws kvs) (d : Dp K Hf u v) : KvAll K Hf (putK ws k u) (dPut kvs k v) := by
  unfold putK dPut
  rw [kvs_any k r]
  split
  · exact kvs_map k d r
  · exact kvs_app r (.cons d .nil)
/-- d[k] -/
theorem se_dget {td tk : TE} {a b : M} (ha : SE K td a) (hb : SE K tk b) : SE K (tDGet td tk) (mOp fDget a b) := by
  intro ρ r ρ' σ Hf H hm E Q q
  simp only [mOp, Option.bind_eq_some_iff, Option.map_eq_some_iff, Prod.mk.injEq] at hm
  obtain ⟨⟨x, ρ1⟩, e1, ⟨y, ρ2⟩, e2, cx, e3, cy, e4, z, e5, rfl, rfl⟩ := hm
  refine ha ρ x ρ1 σ Hf H e1 E _ fun u Hf1 H1 S1 E1 R1 k1 => ?_
  have B1 : Bh K Hf H ρ σ Hf1 H1 ρ1 := ⟨S1, E1, k1⟩
  refine hb ρ1 y ρ2 σ Hf1 H1 e2 E1 _ fun w Hf2 H2 S2 E2 R2 k2 => ?_
  have B2 : Bh K Hf1 H1 ρ1 σ Hf2 H2 ρ2 := ⟨S2, E2, k2⟩
  have R1' := B1.keepR E B2 R1
  have hx := look_ok E2 R1' e3
  have hy := look_ok E2 R2 e4
  have B3 := B1.trans B2
  unfold fDget at e5
  split at e5
  · simp only [Option.bind_eq_some_iff, Option.map_eq_some_iff] at e5
    obtain ⟨k, h1, d, h2, rfl⟩ := e5
    obtain ⟨p, rfl, ws, hw, kw⟩ := hx
    obtain ⟨t, g1, g2⟩ := (kvs_get k kw).1 d h2
    have ey := keyC_ok h1 hy
    subst ey
    exact ⟨p, t, rfl, by rw [← g1]; exact .inl ⟨_, _, hw, rfl, rfl⟩, q t Hf2 H2 B3.st B3.en g2 B3.kp⟩
  · cases e5
/-- k in d -/
theorem se_din {td tk : TE} {a b : M} (ha : SE K tk a) (hb : SE K td b) : SE K (tDIn tk td) (mOp (fDin false) a b) ∧ SE K (tDNotIn tk td) (mOp (fDin true) a b) := by
  constructor
  all_goals
    intro ρ r ρ' σ Hf H hm E Q q
    simp only [mOp, Option.bind_eq_some_iff, Option.map_eq_some_iff, Prod.mk.injEq] at hm
    obtain ⟨⟨x, ρ1⟩, e1, ⟨y, ρ2⟩, e2, cx, e3, cy, e4, z, e5, rfl, rfl⟩ := hm
    refine ha ρ x ρ1 σ Hf H e1 E _ fun u Hf1 H1 S1 E1 R1 k1 => ?_
    have B1 : Bh K Hf H ρ σ Hf1 H1 ρ1 := ⟨S1, E1, k1⟩
    refine hb ρ1 y ρ2 σ Hf1 H1 e2 E1 _ fun w Hf2 H2 S2 E2 R2 k2 => ?_
    have B2 : Bh K Hf1 H1 ρ1 σ Hf2 H2 ρ2 := ⟨S2, E2, k2⟩
    have R1' := B1.keepR E B2 R1
    have hx := look_ok E2 R1' e3
    have hy := look_ok E2 R2 e4
    have B3 := B1.trans B2
    unfold fDin at e5
    split at e5
    · simp only [Option.map_eq_some_iff] at e5
      obtain ⟨k, h1, rfl⟩ := e5
      obtain ⟨p, rfl, ws, hw, kw⟩ := hy
      have ey := keyC_ok h1 hx
      subst ey
      refine ⟨p, valV ws k, rfl, .inl ⟨_, _, hw, rfl, rfl⟩, ?_⟩
      rename_i kvs
      have es : (valV ws k).isSome = (dGet kvs k).isSome := by
        obtain ⟨g1, g2⟩ := kvs_get k kw
        cases hd : dGet kvs k with
        | none => rw [g2 hd]; rfl
        | some d => obtain ⟨u, h, _⟩ := g1 d hd; rw [h]; rfl
      rw [es]
      refine q _ Hf2 H2 B3.st B3.en ?_ B3.kp
      first
        | (rw [Bool.false_xor]; exact .bl _)
        | (rw [Bool.true_xor]; exact .bl _)
    · cases e5
/-- d[k] = v -/
theorem ss_dput {i : Nat} {te ti : TE} {a e : M} (ha : SE K te a) (he : SE K ti e) : SS K (sDPut (tVar i) ti te) (Py.sDput i e a) := by
  intro ρ f ρ' σ Hf H hm E D q
  simp only [Py.sDput, Option.bind_eq_some_iff] at hm
  obtain ⟨⟨x, ρ1⟩, e1, ⟨v, ρ2⟩, e2, ys, h0, ⟨y, ρ3⟩, e3, c, e4, k, e5, kvs, e6, e7⟩ := hm
  split at e7
  · rename_i hz
    cases e7
    refine ha ρ x ρ1 σ Hf H e1 E _ fun u Hf1 H1 S1 E1 R1 k1 => ?_
    have B1 : Bh K Hf H ρ σ Hf1 H1 ρ1 := ⟨S1, E1, k1⟩
    obtain ⟨Hf2, B2, d⟩ := B1.frz E R1 e2
    obtain ⟨p, o1, s1, f1, ⟨vs, hv, dv⟩, _⟩ := obAt_ok B2.en (dctAt_ok h0)
    refine ⟨_, slot_at s1, ?_⟩
    refine he ρ2 y ρ3 σ Hf2 H1 e3 B2.en _ fun w Hf3 H3 S3 E3 R3 k3 => ?_
    have B3' : Bh K Hf2 H1 ρ2 σ Hf3 H3 ρ3 := ⟨S3, E3, k3⟩
    have B3 := B2.trans B3'
    have ey := keyC_ok e5 (look_ok E3 R3 e4)
    subst ey
    obtain ⟨p', o2, s2, f2, ⟨ws, hw, kw⟩, hi⟩ := obAt_ok B3.en (dctAt_ok e6)
    rw [s1] at s2
    cases s2
    have d' := dp_mono S3.ff _ _ d
    have B4 := B3.trans (mut_ok (o := .dct kvs) (o' := .dct (dPut kvs k v)) (ho := .dK (putK ws k u)) B3.en o2 hi ⟨_, upd_same, kvs_put k kw d'⟩)
    exact ⟨p, _, rfl, DPut.k hw (by rw [kvs_len kw, ← line_eq]; exact hz), q σ Hf3 _ B4.s⟩
  · cases e7
end
section
variable {X : Cx} {a b e : Expr} {ma mb me : M} {x y : Str} {p p' apos pos pos' : Pos}
theorem be_dget (hu : X.A.units + 64 < cLine) (ha : BE X a ma) (hb : BE X b mb) (hs : NoSl b := by intro _ _; rfl) : BE X (.Subscript a b pos) (mOp fDget ma mb) := by
  obtain ⟨t, a1, a2⟩ := ha
  obtain ⟨u, b1, b2⟩ := hb
  exact ⟨_, pe_dget (by omega) a1 b1 hs, se_dget a2 b2⟩
theorem be_din (hu : X.A.units + 64 < cLine) (ha : BE X a ma) (hb : BE X b mb) (hm : behindInMarks .In b = false := by with_unfolding_all rfl) : BE X (.Compare a [.In] [b] pos) (mOp (fDin false) ma mb) := by
  obtain ⟨t, a1, a2⟩ := ha
  obtain ⟨u, b1, b2⟩ := hb
  exact ⟨_, pe_cmp (pc_din (by omega) a1 b1) hm, (se_din a2 b2).1⟩
theorem be_dnotIn (hu : X.A.units + 64 < cLine) (ha : BE X a ma) (hb : BE X b mb) (hm : behindInMarks .NotIn b = false := by with_unfolding_all rfl) : BE X (.Compare a [.NotIn] [b] pos) (mOp (fDin true) ma mb) := by
  obtain ⟨t, a1, a2⟩ := ha
  obtain ⟨u, b1, b2⟩ := hb
  exact ⟨_, pe_cmp (pc_dnotin (by omega) a1 b1) hm, (se_din a2 b2).2⟩
end
end Py
/-! PyD: methods, slices. -/
namespace Py
open PySem PySem.Spec PyProof.Rows L2
section
variable {K : PySem.W.Frag} {Hf H Hf' H' Hf1 H1 Hf2 H2 H0 : Hp} {ρ ρ' ρ1 ρ2 : Env} {σ σ' σ1 σ2 : L2.St} {O O' O1 : Addr → Prop} {X : Cx}
theorem find_first {xs : List PV} {p : PV → Bool} {j : Nat} (h : xs.findIdx? p = some j) : ∃ z, xs[j]? = some z ∧ p z = true ∧ ∀ m z', m < j → xs[m]? = some z' → p z' = false := by
  rw [List.findIdx?_eq_some_iff_getElem] at h
  obtain ⟨hl, h1, h2⟩ := h
  refine ⟨xs[j], by simp [hl], h1, fun m z' hm hz => ?_⟩
  obtain ⟨hm2, e⟩ := List.getElem?_eq_some_iff.mp hz
  have := h2 m hm
  rw [e] at this
  simpa using this
/-- xs.index(x) -/
theorem se_index {td tk : TE} {a b : M} (ha : SE K td a) (hb : SE K tk b) : SE K (tBM K "list" (rIndex K) td (tCons tk tNil)) (mIndex a b) := by
  intro ρ r ρ' σ Hf H hm E Q q
  simp only [mIndex, Option.bind_eq_some_iff, Option.map_eq_some_iff, Prod.mk.injEq] at hm
  obtain ⟨⟨x, ρ1⟩, e1, c0, f1, ys, f2, ⟨y, ρ2⟩, e2, cx, e3, cy, e4, z, e5, rfl, rfl⟩ := hm
  refine ha ρ x ρ1 σ Hf H e1 E _ fun u Hf1 H1 S1 E1 R1 k1 => ?_
  have B1 : Bh K Hf H ρ σ Hf1 H1 ρ1 := ⟨S1, E1, k1⟩
  obtain ⟨p0, us0, eu0, hs0, _⟩ := lst_ok E1.ff (look_ok E1 R1 f1) f2
  subst eu0
  refine ⟨.inl ⟨rfl, us0, hs0⟩, ?_⟩
  refine hb ρ1 y ρ2 σ Hf1 H1 e2 E1 _ fun w Hf2 H2 S2 E2 R2 k2 => ?_
  have B2 : Bh K Hf1 H1 ρ1 σ Hf2 H2 ρ2 := ⟨S2, E2, k2⟩
  have R1' := B1.keepR E B2 R1
  have hx := look_ok E2 R1' e3
  have hy := look_ok E2 R2 e4
  have B3 := B1.trans B2
  unfold fIndex at e5
  split at e5
  · rename_i v
    simp only [Option.bind_eq_some_iff] at e5
    obtain ⟨xs, h1, h2⟩ := e5
    split at h2
    · rename_i hf
      simp only [Option.map_eq_some_iff] at h2
      obtain ⟨j, h3, rfl⟩ := h2
      obtain ⟨p, us, ep, hs, da⟩ := lst_ok E2.ff hx h1
      obtain ⟨z, z1, z2, z3⟩ := find_first h3
      obtain ⟨t, t1, t2⟩ := dps_get da z1
      have fz : flatD z = true := List.all_eq_true.mp hf.2 z (List.mem_of_getElem? z1)
      refine ⟨p, us, w, j, t, ep, rfl, hs, flat_V hy hf.1, flat_all da hf.2, t1, by rw [flat_eq t2 hy fz hf.1]; exact z2, fun m z' hm hz => ?_, q _ Hf2 H2 B3.st B3.en (.int _) B3.kp⟩
      obtain ⟨d, d1, d2⟩ := dps_get' da hz
      have fd : flatD d = true := List.all_eq_true.mp hf.2 d (List.mem_of_getElem? d1)
      rw [flat_eq d2 hy fd hf.1]
      exact z3 m d hm d1
    · cases h2
  · cases e5
/-- xs[::-1] -/
theorem se_revL {te : TE} {a : M} (ha : SE K te a) : SE K (tRevL K te) (mUn fRevL a) := by
  intro ρ r ρ' σ Hf H hm E Q q
  simp only [mUn, Option.bind_eq_some_iff, Option.map_eq_some_iff, Prod.mk.injEq] at hm
  obtain ⟨⟨x, ρ1⟩, e1, c, e2, z, e3, rfl, rfl⟩ := hm
  refine ha ρ x ρ1 σ Hf H e1 E _ fun u Hf1 H1 S1 E1 R1 k1 => ?_
  have B1 : Bh K Hf H ρ σ Hf1 H1 ρ1 := ⟨S1, E1, k1⟩
  have hc := look_ok E1 R1 e2
  simp only [fRevL, Option.map_eq_some_iff] at e3
  obtain ⟨xs, h1, rfl⟩ := e3
  obtain ⟨p, us, ep, hs, da⟩ := lst_ok E1.ff hc h1
  refine ⟨p, us, ep, hs, fun t ht => ?_⟩
  obtain ⟨S, fp⟩ := new_ob (o := .lst us.reverse) E1.ff ht
  have B2 := B1.more S
  exact q _ _ _ B2.st B2.en ⟨t, rfl, B1.fresh ht, fp, _, upd_same, dps_rev da⟩ B2.kp
end
section
variable {X : Cx} {a b e : Expr} {ma mb me : M} {x y : Str} {p p' apos pos pos' : Pos}
theorem be_index (ha : BE X a ma) (hb : BE X b mb) (hbase : attributeBase a "index" X.env (eval a X.env) = eval a X.env := by rfl)
    (hfew : ((backTo pos (starEach [b] X.env)).all (fun x => !x.1) && (backToKw pos (keywordEach [] X.env)).all (fun x => x.1.isSome) && decide (([b] : List Expr).length + ([] : List Keyword).length + (if ([] : List Keyword).isEmpty then 0 else 1) < 30)) = true := by rfl)
    (hline : (apos.endLine == pos.line) = true := by rfl) (hs : starEach [b] X.env = (false, eval b X.env) :: starEach [] X.env := by rfl) (hp : (backTo pos (starEach [] X.env)).any (·.1) = false := by rfl) :
    BE X (.Call (.Attribute a "index" apos) [b] [] pos) (mIndex ma mb) := by
  obtain ⟨t, a1, a2⟩ := ha
  obtain ⟨u, b1, b2⟩ := hb
  exact ⟨_, pe_bm PySem.F.plainAttrs_list PySem.F.slot_list_index PySem.F.type_list_index mt_index a1 (pa_cons b1 pa_nil hs) hbase hfew hline hs hp, se_index a2 b2⟩
theorem be_insert (i : Nat) (ho : PE X (.Name x p) (tVar i)) (ha : BE X a ma) (hb : BE X b mb) (hbase : attributeBase (.Name x p) "insert" X.env (eval (.Name x p) X.env) = eval (.Name x p) X.env := by rfl)
    (hfew : ((backTo pos (starEach [a, b] X.env)).all (fun x => !x.1) && (backToKw pos (keywordEach [] X.env)).all (fun x => x.1.isSome) && decide (([a, b] : List Expr).length + ([] : List Keyword).length + (if ([] : List Keyword).isEmpty then 0 else 1) < 30)) = true := by rfl)
    (hline : (apos.endLine == pos.line) = true := by rfl) (hs : starEach [a, b] X.env = (false, eval a X.env) :: starEach [b] X.env := by rfl) (hs2 : starEach [b] X.env = (false, eval b X.env) :: starEach [] X.env := by rfl) (hp : (backTo pos (starEach [b] X.env)).any (·.1) = false := by rfl) :
    BE X (.Call (.Attribute (.Name x p) "insert" apos) [a, b] [] pos) (mInsert i ma mb) := by
  obtain ⟨t, a1, a2⟩ := ha
  obtain ⟨u, b1, b2⟩ := hb
  exact ⟨_, pe_bm PySem.F.plainAttrs_list PySem.F.slot_list_insert PySem.F.type_list_insert mt_insert ho (pa_cons a1 (pa_cons b1 pa_nil hs2) hs) hbase hfew hline hs hp, se_insert a2 b2⟩
theorem bs_dput (i : Nat) (hu : X.A.units + 64 < cLine) (ho : PE X (.Name x p) (tVar i)) (he : BE X e me) (ha : BE X a ma) (hs : swapsWith a (some (.Subscript (.Name x p) e p')) pos.line X.env = pure false := by rfl) :
    BS X (.Assign [.Subscript (.Name x p) e p'] a pos) (Py.sDput i me ma) := by
  obtain ⟨t, a1, a2⟩ := ha
  obtain ⟨u, b1, b2⟩ := he
  exact ⟨_, ps_dput (by omega) ho b1 a1 hs, ss_dput a2 b2⟩
theorem be_revL {k : Nat} {p1 p2 p3 : Pos} (ha : BE X a ma) : BE X (.Subscript a (.Slice none none (some (.UnaryOp .USub (.Constant (.int 1) k p1) p2)) p3) pos) (mUn fRevL ma) := let ⟨t, a1, a2⟩ := ha; ⟨_, pe_revL a1, se_revL a2⟩
theorem bi_rngD {tg : Expr} {k : Nat} {p1 p2 : Pos} (hg : Gl X "range") (hm : X.mg "range" = none) (ha : BE X a ma) (hb : BE X b mb)
    (hs : starEach [a, b, .UnaryOp .USub (.Constant (.int 1) k p1) p2] X.env = (false, eval a X.env) :: starEach [b, .UnaryOp .USub (.Constant (.int 1) k p1) p2] X.env := by rfl)
    (hs2 : starEach [b, .UnaryOp .USub (.Constant (.int 1) k p1) p2] X.env = (false, eval b X.env) :: starEach [.UnaryOp .USub (.Constant (.int 1) k p1) p2] X.env := by rfl)
    (hs3 : starEach [.UnaryOp .USub (.Constant (.int 1) k p1) p2] X.env = (false, eval (.UnaryOp .USub (.Constant (.int 1) k p1) p2) X.env) :: starEach [] X.env := by rfl)
    (hpl : (backTo pos (starEach [b, .UnaryOp .USub (.Constant (.int 1) k p1) p2] X.env)).any (·.1) = false := by rfl) :
    BI X tg (.Call (.Name "range" p) [a, b, .UnaryOp .USub (.Constant (.int 1) k p1) p2] [] pos) (Py.iRngD ma mb) := by
  obtain ⟨t, a1, a2⟩ := ha
  obtain ⟨u, b1, b2⟩ := hb
  have hst : PE X (.UnaryOp .USub (.Constant (.int 1) k p1) p2) (tUn (rU fun i => .int (-i)) (tC (.int 1))) := pe_un un_neg pe_int
  refine ⟨_, pi_range3 hg hm (pa_cons a1 (pa_cons b1 (pa_cons hst pa_nil hs3) hs2) hs) hs hpl, si_rngD a2 b2 fun σ H Q q => ⟨1, rfl, q⟩⟩
end
end Py
namespace Py
open PySem PySem.Spec PyProof.Rows L2
section
variable {X : Cx} {a b e : Expr} {ma mb me : M} {pos : Pos}
theorem bt_din (hu : X.A.units + 64 < cLine) (ha : BE X a ma) (hb : BE X b mb) (hm : behindInMarks .In b = false := by with_unfolding_all rfl) : BT X (.Compare a [.In] [b] pos) (mB (mOp (fDin false) ma mb)) := by
  obtain ⟨t, a1, a2⟩ := ha
  obtain ⟨u, b1, b2⟩ := hb
  exact ⟨_, pt_cmp (pc_din (by omega) a1 b1) hm, st_B (se_din a2 b2).1⟩
theorem bt_dnotIn (hu : X.A.units + 64 < cLine) (ha : BE X a ma) (hb : BE X b mb) (hm : behindInMarks .NotIn b = false := by with_unfolding_all rfl) : BT X (.Compare a [.NotIn] [b] pos) (mB (mOp (fDin true) ma mb)) := by
  obtain ⟨t, a1, a2⟩ := ha
  obtain ⟨u, b1, b2⟩ := hb
  exact ⟨_, pt_cmp (pc_dnotin (by omega) a1 b1) hm, st_B (se_din a2 b2).2⟩
end
end Py
/-! PyE: t[::-1] of a tuple. -/
namespace HT
open PySem PySem.Spec PyProof.Rows
variable {prog : Program} {w : World} {A : Around} {E : Value → Shared → Prop} {s : Shared}
theorem sliceApplied_rev {sl : Addr} {vl vu vs : Value} {n : Nat} {Q : Int × Int × Nat → Shared → Prop} (hs : s.heap.IsSliceOf sl vl vu vs) (pl : IsPart vl none) (pu : IsPart vu none) (ps : IsPart vs (some (-1)))
    (h : Q ((n : Int) - 1, -1, n) s) : wpAny (model prog w) A (Builtin.Slice.sliceApplied (.ref sl) (pure (n : Int))) Q E s := by
  obtain ⟨os, hos, hcs, hds⟩ := id hs
  unfold Builtin.Slice.sliceApplied Builtin.Slice.sliceFields
  refine wpAny_bind (wpAny_bind (wpAny_field hos hds (x := vl) rfl (wpAny_bind (wpAny_field hos hds (x := vu) rfl (wpAny_bind (wpAny_field hos hds (x := vs) rfl (wpAny_pure ?_)))))))
  refine wpAny_bind (slicePart_ ps ?_)
  show wpAny _ _ (if ((-1 : Int) == 0) = true then _ else _) _ _ s
  rw [if_neg (by decide)]
  refine wpAny_bind (slicePart_ pl (wpAny_bind (slicePart_ pu (wpAny_bind (wpAny_pure ?_)))))
  show wpAny _ _ (match Builtin.Slice.sliceAdjust none none (-1) (n : Int) with | (lo, hi) => pure (lo, (-1 : Int), Builtin.Slice.slicePlaces lo hi (-1))) _ _ s
  have e1 : Builtin.Slice.sliceAdjust none none (-1) (n : Int) = ((n : Int) - 1, -1) := rfl
  have e2 : Builtin.Slice.slicePlaces ((n : Int) - 1) (-1) (-1) = n := by
    unfold Builtin.Slice.slicePlaces
    rw [if_neg (by decide)]
    split
    · have : -(-1 : Int) = 1 := by decide
      rw [this, Int.ediv_one]
      omega
    · omega
  rw [e1]
  show wpAny _ _ (pure ((n : Int) - 1, (-1 : Int), Builtin.Slice.slicePlaces ((n : Int) - 1) (-1) (-1))) _ _ s
  rw [e2]
  exact wpAny_pure h
theorem pick_rev (xs : Array Value) : ((List.range xs.size).filterMap fun (m : Nat) => xs[(((xs.size : Nat) : Int) - 1 + (m : Int) * -1).toNat]?).toArray = xs.toList.reverse.toArray := by
  congr 1
  apply List.ext_getElem?
  have key : ∀ (l : List Nat), (∀ m ∈ l, m < xs.size) → (l.filterMap fun (m : Nat) => xs[(((xs.size : Nat) : Int) - 1 + (m : Int) * -1).toNat]?) = l.map fun m => xs.toList.reverse.getD m .none := by
    intro l
    induction l with
    | nil => intro _; rfl
    | cons a l ih =>
      intro h
      have ha := h a List.mem_cons_self
      have e : (((xs.size : Nat) : Int) - 1 + (a : Int) * -1).toNat = xs.size - 1 - a := by omega
      have hl : xs.size - 1 - a < xs.size := by omega
      rw [List.filterMap_cons, List.map_cons, ih fun m hm => h m (List.mem_cons_of_mem _ hm), e, Array.getElem?_eq_getElem hl]
      have e2 : xs.toList.reverse.getD a .none = xs[xs.size - 1 - a] := by
        rw [List.getD_eq_getElem?_getD, List.getElem?_reverse (by simpa using ha)]
        simp [hl]
      rw [e2]
  intro i
  rw [key _ fun m hm => List.mem_range.mp hm]
  by_cases hi : i < xs.size
  · rw [List.getElem?_map, List.getElem?_range hi, List.getElem?_eq_getElem (by simpa using hi)]
    simp [List.getD_eq_getElem?_getD, hi]
  · rw [List.getElem?_eq_none (by simpa using hi), List.getElem?_eq_none (by simpa using hi)]
theorem getItem_tuple_rev {t sl : Addr} {items : Array Value} {vl vu vs : Value} {Q : Value → Shared → Prop} (ht : IsTup s.heap t items) (hs : s.heap.IsSliceOf sl vl vu vs) (pl : IsPart vl none) (pu : IsPart vu none) (ps : IsPart vs (some (-1)))
    (h : Q (.ref s.heap.objs.size) { s with heap := s.heap.push { cls := .type "tuple", data := .seq items.toList.reverse.toArray } })
    (hsz : items.size ≤ sizeLine) : wpAny (model prog w) A (getItem (.ref t) (.ref sl)) Q E s := by
  have htake : sizeOk (.seq items.toList.reverse.toArray) := by
    show items.toList.reverse.toArray.size ≤ sizeLine
    simpa using hsz
  obtain ⟨os, hos, hcs, hds⟩ := id hs
  have hTs : s.TypeIs (.ref sl) "slice" := ⟨os, hos, hcs⟩
  unfold getItem
  try with_reducible refine wpAny_holding ?_
  first | refine wpAny_bind (wpAny_pure ?_) | skip
  refine wpAny_bind (wpAny_sequenceKey ht.typeIs (by decide) ?_)
  refine wpAny_bind (wpAny_callSpecial?_slot (name := Str.ofString "__getitem__") ht.typeIs PyProof.Rows.slot_tuple_getitem
    (wpAny_call_entry PyProof.Rows.slot_tuple_getitem ht.typeIs entry_tuple_getitem ?_ (args_tuple_getitem _ _)))
  show wpAny _ _ (Builtin.Tuple.tupleItemsOf (.ref t) >>= _) _ _ s
  refine wpAny_bind (tupleItemsOf_ ht ?_)
  refine wpAny_bind (wpAny_typeOf hTs ?_)
  rw [if_pos (by decide)]
  refine wpAny_bind (sliceApplied_rev hs pl pu ps ?_)
  have hno : ¬ ((((items.size : Int) - 1) == 0 && (-1 : Int) == 1 && items.size == items.size) = true) := by
    intro q
    rw [Bool.and_eq_true, Bool.and_eq_true] at q
    exact absurd (eq_of_beq q.1.2) (by decide)
  show wpAny _ _ (if (((items.size : Int) - 1) == 0 && (-1 : Int) == 1 && items.size == items.size) = true then _ else _) _ _ s
  rw [if_neg hno, pick_rev]
  first
    | exact wpAny_bind (m := Builtin.Tuple.tupleExact _) (wpAny_newObj_type (wpAny_pure ⟨_, rfl, wpAny_pure h⟩) htake)
    | exact wpAny_bind (m := Builtin.Tuple.tupleExact _) (wpAny_newObj_type (wpAny_bind (wpAny_pure (wpAny_pure ⟨_, rfl, wpAny_pure h⟩))) htake)
    | exact wpAny_bind (wpAny_bind (m := Builtin.Tuple.tupleExact _) (wpAny_newObj_type (wpAny_pure (wpAny_pure ⟨_, rfl, wpAny_pure h⟩)) htake))
    | exact wpAny_bind (wpAny_bind (m := Builtin.Tuple.tupleExact _) (wpAny_newObj_type (wpAny_pure ⟨_, rfl, wpAny_pure h⟩) htake))
end HT
namespace L2
open PySem PySem.Spec PyProof.Rows
variable {X : Cx}
def tRevT (K : PySem.W.Frag) (te : TE) : TE := fun σ H Q => te σ H fun x H1 => ∃ a xs, x = .ref a ∧ SqT K H1 a xs ∧ ∀ p, H1 p = none → Q (.ref p) (upd H1 p (.tup xs.reverse))
theorem pe_revT {e : Expr} {te : TE} {k : Nat} {p1 p2 p3 pos : Pos} (he : PE X e te) : PE X (.Subscript e (.Slice none none (some (.UnaryOp .USub (.Constant (.int 1) k p1) p2)) p3) pos) (tRevT X.K te) := by
  refine ⟨fun pins s σ H Q I h => ?_⟩
  refine Subscript_ (thn (he.run pins s σ H _ I h) fun v s1 ⟨x, H1, I1, r1, q1⟩ => ?_)
  obtain ⟨a, xs, ex, hx, q⟩ := q1
  subst ex
  cases r1
  have hst : PO X (some (.UnaryOp .USub (.Constant (.int 1) k p1) p2)) (tPart (tUn (rU fun i => .int (-i)) (tC (.int 1)))) := po_some (pe_un un_neg pe_int)
  refine wpAny_Slice (thn (po_none.run pins s1 σ H1 (fun o H2 => o = none ∧ H2 = H1) I1 ⟨rfl, rfl⟩) fun vl s2 ⟨l, H2, I2, pl, el, e2⟩ => ?_)
  subst el e2
  refine thn (po_none.run pins s2 σ H2 (fun o H3 => o = none ∧ H3 = H2) I2 ⟨rfl, rfl⟩) fun vu s3 ⟨u, H3, I3, pu, eu, e3⟩ => ?_
  subst eu e3
  refine thn (hst.run pins s3 σ H3 (fun o H4 => o = some (-1) ∧ H4 = H3) I3 ⟨1, rfl, -1, rfl, rfl, rfl⟩) fun vs s4 ⟨o, H4, I4, ps, eo, e4⟩ => ?_
  subst eo e4
  have I5 : Inv X pins σ H4 { s4 with heap := s4.heap.push { cls := .type "slice", data := .fields #[vl, vu, vs] } } := I4.kept (t' := s4.toks) fun b ob q => Heap.get?_push_of_some _ q
  obtain ⟨its, r, ht, hz⟩ := I5.tuple hx
  have hlen := r.length
  show wpAny (model X.prog X.w) X.A (subscriptTail e (.Slice none none (some (.UnaryOp .USub (.Constant (.int 1) k p1) p2)) p3) (.ref a) (.ref s4.heap.objs.size)) (EP X pins σ Q) X.xe { s4 with heap := s4.heap.push { cls := .type "slice", data := .fields #[vl, vu, vs] } }
  refine tail_any (ops := [.ref a, .ref s4.heap.objs.size]) ht.typeIs (PyProof.Rows.slot_tuple_getitem.lookup) ?_ (by with_unfolding_all rfl)
  refine HT.getItem_tuple_rev ht (Heap.IsSliceOf.new _ vl vu vs) pl pu ps ?_ (by rw [List.size_toArray]; omega)
  refine ⟨.ref _, _, I5.laid (t' := s4.toks) (o := .tup xs.reverse) (fun b ob q => Heap.get?_push_of_some _ q) (Nat.le_refl _) ?_, rfl, q _ (I5.hok.fresh (Nat.le_refl _))⟩
  exact ⟨by rw [List.length_reverse]; exact hz, its.reverse, r.reverse, IsTup.new _ _⟩
end L2
namespace Py
open PySem PySem.Spec PyProof.Rows L2
theorem tup_ok {K : PySem.W.Frag} {Hf H : Hp} {c : Ct} {xs : List PV} {u : V} (e : Ex Hf H) (hc : RepC K Hf H c u) (h : c.tup? = some xs) : ∃ a us, u = .ref a ∧ SqT K H a us ∧ DpAll K Hf us xs := by
  unfold Ct.tup? at h
  split at h
  · cases h; cases hc with | tup hs ha => exact ⟨_, _, rfl, ex_t e hs, ha⟩
  · cases h
theorem se_revT {K : PySem.W.Frag} {te : TE} {a : M} (ha : SE K te a) : SE K (tRevT K te) (mUn fRevT a) := by
  intro ρ r ρ' σ Hf H hm E Q q
  simp only [mUn, Option.bind_eq_some_iff, Option.map_eq_some_iff, Prod.mk.injEq] at hm
  obtain ⟨⟨x, ρ1⟩, e1, c, e2, z, e3, rfl, rfl⟩ := hm
  refine ha ρ x ρ1 σ Hf H e1 E _ fun u Hf1 H1 S1 E1 R1 k1 => ?_
  have B1 : Bh K Hf H ρ σ Hf1 H1 ρ1 := ⟨S1, E1, k1⟩
  have hc := look_ok E1 R1 e2
  simp only [fRevT, Option.map_eq_some_iff] at e3
  obtain ⟨xs, h1, rfl⟩ := e3
  obtain ⟨p, us, ep, hs, da⟩ := tup_ok E1.ff hc h1
  refine ⟨p, us, ep, hs, fun t ht => ?_⟩
  obtain ⟨S, d⟩ := new_tup E1.ff (dps_rev da) ht
  have B2 := B1.more S
  exact q _ _ _ B2.st B2.en d B2.kp
theorem be_revT {X : Cx} {a : Expr} {ma : M} {k : Nat} {p1 p2 p3 pos : Pos} (ha : BE X a ma) : BE X (.Subscript a (.Slice none none (some (.UnaryOp .USub (.Constant (.int 1) k p1) p2)) p3) pos) (mUn fRevT ma) := let ⟨t, a1, a2⟩ := ha; ⟨_, pe_revT a1, se_revT a2⟩
end Py
/-! PyF0: further meanings. -/
namespace Py
open PySem
def Ct.dat : Ct → Option PV
  | .pv v => some v
  | .ob (.lst xs) => some (.list xs)
  | _ => none
/-- == of lists -/
def fEqA (neg : Bool) (c d : Ct) : Option R := c.dat.bind fun x => d.dat.bind fun y => if SeqAt.shaped x = true ∧ SeqAt.shaped y = true then some (.val (.bool (neg ^^ PyData.eqv x y))) else none
end Py
/-! PyF: == of lists. -/
namespace Py
open PySem PySem.Spec PyProof.Rows L2
section
variable {K : PySem.W.Frag} {Hf H : Hp} {X : Cx}
theorem dat_ok {c : Ct} {x : PV} {u : V} (e : Ex Hf H) (hc : RepC K Hf H c u) (h : c.dat = some x) : Dp K H u x := by
  unfold Ct.dat at h
  split at h
  · cases h; exact dp_mono e _ _ hc
  · cases h; exact lst_dp e hc rfl
  · cases h
theorem eqA_S : OpS K (rEqD K) (fEqA false) := fun Hf H c d x y z e hc hd e5 Q q => by
  simp only [fEqA, Option.bind_eq_some_iff] at e5
  obtain ⟨v, h1, w, h2, h3⟩ := e5
  split at h3
  · rename_i hs
    cases h3
    refine ⟨v, w, dat_ok e hc h1, dat_ok e hd h2, hs.1, hs.2, ?_⟩
    rw [Bool.false_xor] at q
    exact old e (.bl _) q
  · cases h3
theorem neA_S : OpS K (rNeD K) (fEqA true) := fun Hf H c d x y z e hc hd e5 Q q => by
  simp only [fEqA, Option.bind_eq_some_iff] at e5
  obtain ⟨v, h1, w, h2, h3⟩ := e5
  split at h3
  · rename_i hs
    cases h3
    refine ⟨v, w, dat_ok e hc h1, dat_ok e hd h2, hs.1, hs.2, ?_⟩
    rw [Bool.true_xor] at q
    exact old e (.bl _) q
  · cases h3
theorem ob_eqA (hu : X.A.units + 64 < cLine) : OpB X (compareOp .Eq) (fEqA false) := ⟨_, op_eqD hu, eqA_S⟩
theorem ob_neA (hu : X.A.units + 64 < cLine) : OpB X (compareOp .NotEq) (fEqA true) := ⟨_, op_neD hu, neA_S⟩
end
end Py
/-! PyG0: sorted, of tuples of ints; two clauses. -/
namespace Py
open PySem
def tupI? : PV → Option (List Int)
  | .tuple xs => ints? xs
  | _ => none
/-- before, of tuples of ints -/
def lexB : List Int → List Int → Bool
  | _, [] => false
  | [], _ :: _ => true
  | a :: as, b :: bs => decide (a < b) || (decide (a = b) && lexB as bs)
def lexLe (a b : List Int) : Bool := !lexB b a
def tsort (nss : List (List Int)) : List (List Int) := nss.mergeSort lexLe
def tupV (ns : List Int) : PV := .tuple (ns.map .int)
def fSortedT (c : Ct) : Option R := c.lst?.bind fun xs => (xs.mapM tupI?).bind fun nss => if nss.all (fun ns => !ns.isEmpty) = true then some (.new (.lst ((tsort nss).map tupV))) else none
/-- of a tuple of ints -/
def fSumT (c : Ct) : Option R := c.tup?.bind fun xs => (ints? xs).map fun ns => .val (.int ns.sum)
def fMaxT (c : Ct) : Option R := c.tup?.bind fun xs => (ints? xs).bind fun ns => if ns = [] then none else some (.val (.int (maxL ns)))
/-- [e for x in a if t for y in b if u] -/
def lcTurn2 (g : MG) (vs : List Nat) (t : MT) (it1 : MI) (g1 : MG) (vs1 : List Nat) (t1 : MT) (e : M) (x : PV) (ρ : Env) : Option (List PV × Env) :=
  (g (.val x) (wipe ρ vs)).bind fun ρ1 => (t ρ1).bind fun b => if b.1 then (it1 b.2).bind fun ys => if ys.1.length ≤ line then lcF (lcTurn g1 vs1 t1 e) ys.1 ys.2 else none else some ([], b.2)
def mLc2 (it : MI) (g : MG) (vs : List Nat) (t : MT) (it1 : MI) (g1 : MG) (vs1 : List Nat) (t1 : MT) (e : M) : M := fun ρ => (it ρ).bind fun xs => if xs.1.length ≤ line then
  (lcF (lcTurn2 g vs t it1 g1 vs1 t1 e) xs.1 xs.2).bind fun y => if y.1.length ≤ line then some (.new (.lst y.1), back xs.2 vs y.2) else none else none
theorem lexB_irr : ∀ a : List Int, lexB a a = false
  | [] => rfl
  | a :: as => by simp [lexB, lexB_irr as]
theorem lexB_anti : ∀ a b : List Int, lexB a b = false → lexB b a = false → a = b
  | [], [], _, _ => rfl
  | [], _ :: _, h, _ => by simp [lexB] at h
  | _ :: _, [], _, h => by simp [lexB] at h
  | a :: as, b :: bs, h1, h2 => by
    simp only [lexB, Bool.or_eq_false_iff, decide_eq_false_iff_not, Bool.and_eq_false_iff] at h1 h2
    have e : a = b := by omega
    subst e
    rw [lexB_anti as bs (by simpa using h1.2) (by simpa using h2.2)]
theorem lexB_tr : ∀ a b c : List Int, lexB a b = true → lexB b c = true → lexB a c = true
  | _, _, [], _, h => by simp [lexB] at h
  | _, [], _ :: _, h, _ => by simp [lexB] at h
  | [], _ :: _, _ :: _, _, _ => rfl
  | a :: as, b :: bs, c :: cs, h1, h2 => by
    simp only [lexB, Bool.or_eq_true, decide_eq_true_eq, Bool.and_eq_true] at *
    rcases h1 with h1 | ⟨rfl, h1⟩
    · rcases h2 with h2 | ⟨rfl, h2⟩
      · exact .inl (by omega)
      · exact .inl h1
    · rcases h2 with h2 | ⟨rfl, h2⟩
      · exact .inl h2
      · exact .inr ⟨rfl, lexB_tr as bs cs h1 h2⟩
theorem lexB_neg : ∀ a b c : List Int, lexB a c = true → lexB a b = true ∨ lexB b c = true
  | _, _, [], h => by simp [lexB] at h
  | [], [], _ :: _, _ => .inr rfl
  | [], _ :: _, _ :: _, _ => .inl rfl
  | _ :: _, [], _ :: _, _ => .inr rfl
  | a :: as, b :: bs, c :: cs, h => by
    simp only [lexB, Bool.or_eq_true, decide_eq_true_eq, Bool.and_eq_true] at *
    rcases h with h | ⟨rfl, h⟩
    · by_cases h1 : a < b
      · exact .inl (.inl h1)
      · by_cases h2 : b < c
        · exact .inr (.inl h2)
        · omega
    · by_cases h1 : a < b
      · exact .inl (.inl h1)
      · by_cases h2 : b < a
        · exact .inr (.inl h2)
        · have e : a = b := by omega
          subst e
          rcases lexB_neg as bs cs h with z | z
          · exact .inl (.inr ⟨rfl, z⟩)
          · exact .inr (.inr ⟨rfl, z⟩)
theorem lexLe_tr (a b c : List Int) (h1 : lexLe a b = true) (h2 : lexLe b c = true) : lexLe a c = true := by
  unfold lexLe at *
  cases h : lexB c a with
  | false => rfl
  | true => rcases lexB_neg c b a h with z | z <;> simp [z] at h1 h2
theorem lexLe_total (a b : List Int) : (lexLe a b || lexLe b a) = true := by
  unfold lexLe
  cases h : lexB b a with
  | false => rfl
  | true =>
    cases h2 : lexB a b with
    | false => rfl
    | true => have := lexB_tr _ _ _ h h2; rw [lexB_irr] at this; cases this
theorem lexLe_anti (a b : List Int) (h1 : lexLe a b = true) (h2 : lexLe b a = true) : a = b := by
  unfold lexLe at *
  exact lexB_anti a b (by simpa using h2) (by simpa using h1)
theorem tsort_perm (nss : List (List Int)) : (tsort nss).Perm nss := List.mergeSort_perm _ _
theorem tsort_sorted (nss : List (List Int)) : (tsort nss).Pairwise (fun a b => lexLe a b = true) :=
  List.pairwise_mergeSort lexLe_tr lexLe_total nss
theorem tsort_eq {nss mss : List (List Int)} (p : mss.Perm nss) (h : mss.Pairwise fun a b => lexLe a b = true) : tsort nss = mss :=
  List.Perm.eq_of_pairwise (fun a b _ _ h1 h2 => lexLe_anti a b h1 h2) (tsort_sorted nss) h ((tsort_perm nss).trans p.symm)
end Py
/-! PyG: sorted, of tuples of ints. -/
namespace Py
open PySem PySem.Spec PyProof.Rows L2
theorem lexB_lt (O : PyProof.Rows.KeyOrd) : ∀ (a b : List Int), PyProof.Rows.lexLt PyProof.Rows.itemOrd (a.map Sum.inl) (b.map Sum.inl) = lexB a b
  | [], [] => rfl
  | [], _ :: _ => rfl
  | _ :: _, [] => rfl
  | a :: as, b :: bs => by
    have ih := lexB_lt O as bs
    rw [List.map_cons, List.map_cons, PyProof.Rows.lex_cons, ih]
    show (decide (a < b) || (!decide (b < a) && lexB as bs)) = (decide (a < b) || (decide (a = b) && lexB as bs))
    by_cases h1 : a < b
    · simp [h1]
    · by_cases h2 : a = b
      · subst h2; simp
      · have h3 : b < a := by omega
        simp [h1, h2, h3]
section
variable {K : PySem.W.Frag} {Hf H : Hp} {X : Cx}
theorem tupItems_ints : ∀ {vs : List Value} {ns : List Int} (i : Nat), IntsAre vs ns → PyProof.Rows.tupItems (fun _ => false) i vs = some (ns.map Sum.inl)
  | _, _, _, .nil => rfl
  | _, _, i, .cons n t r => by
    unfold PyProof.Rows.tupItems
    rw [if_neg (by simp), tupItems_ints (i + 1) r]
    rfl
theorem tupKeyC_ints {h : Heap} {v : Value} {ns : List Int} (t : TS.TupInts h v ns) : PyProof.Rows.G.tupKeyC h (fun _ => false) v = some (ns.map Sum.inl) := by
  obtain ⟨a, xs, rfl, ⟨o, ho, hc, n, hd⟩, hi⟩ := t
  have e : PyProof.Rows.G.isTupObj h (.ref a) = true := by simp [PyProof.Rows.G.isTupObj, ho, hc]
  unfold PyProof.Rows.G.tupKeyC
  rw [if_pos e]
  simp only [PyProof.Rows.tupKey, ho, hd]
  exact tupItems_ints 0 hi
theorem tupOf_ints {h : Heap} {v : Value} {ns : List Int} (t : TS.TupInts h v ns) (hn : ns ≠ []) : ∃ f, PyProof.Rows.TupOf h (fun _ => false) v f := by
  obtain ⟨a, xs, rfl, ⟨o, ho, hc, n, hd⟩, hi⟩ := t
  obtain ⟨xl⟩ := xs
  cases hi with
  | nil => exact absurd rfl hn
  | cons k tk r => exact ⟨_, a, o, _, n, rfl, ho, hc, hd, rfl, fun _ => ⟨k, tk, rfl⟩, fun z => by cases z⟩
theorem tupsOf_ints {h : Heap} : ∀ (vs : List Value), (∀ v ∈ vs, ∃ ns, ns ≠ [] ∧ TS.TupInts h v ns) → ∃ fs, PyProof.Rows.TupsOf h (fun _ => false) vs fs
  | [], _ => ⟨[], .nil⟩
  | v :: vs, hh => by
    obtain ⟨ns, hn, t⟩ := hh v List.mem_cons_self
    obtain ⟨f, hf⟩ := tupOf_ints t hn
    obtain ⟨fs, hfs⟩ := tupsOf_ints vs fun w hw => hh w (List.mem_cons_of_mem _ hw)
    exact ⟨f :: fs, .cons hf hfs⟩
/-- sorted(xs), xs a list of tuples of ints -/
def rSortV (K : PySem.W.Frag) : List V → Hp → VK → Prop := fun vs H Q => ∃ (a : Addr) (xs : List V), vs = [V.ref a] ∧ SqL K H a xs ∧ (∀ x ∈ xs, ∃ ns, ns ≠ [] ∧ TupI K H x ns) ∧
  ∀ (ys : List V) (p : Addr), ys.Perm xs → ys.Pairwise (fun x y => ∀ n m, TupI K H x n → TupI K H y m → lexLe n m = true) → H p = none → Q (.ref p) (upd H p (.lst ys))
theorem pairs_snd (vs : List Value) (out : Array PyProof.Rows.Keyed) (h : out.Perm (PyProof.Rows.pairsOf vs)) : (out.map (·.2)).toList.Perm vs ∧ ∀ p ∈ out.toList, p.1 = p.2 := by
  have h' : out.toList.Perm (PyProof.Rows.pairsOf vs).toList := Array.perm_iff_toList_perm.mp h
  rw [PyProof.Rows.pairsOf_toList] at h'
  refine ⟨?_, fun p hp => (PyProof.Rows.mem_zip_self (h'.mem_iff.mp hp)).1⟩
  rw [Array.toList_map]
  have z := h'.map Prod.snd
  rwa [List.map_snd_zip (Nat.le_refl _)] at z
theorem cr_sortV : CallR X (.builtin "sorted") (rSortV X.K) := by
  intro pins s σ H vs us Q I r h
  obtain ⟨a, xs, rfl, hs, hx, q⟩ := h
  obtain ⟨its, rv, hl, hz⟩ := I.list hs
  rw [Vals.ref1 r]
  obtain ⟨e1, e2⟩ := bkV_refs rv fun x m => by
    obtain ⟨ns, _, ⟨t, e, _⟩⟩ := hx x m
    exact ⟨t, e⟩
  have raw : ∀ v ∈ its, ∃ ns, ns ≠ [] ∧ TS.TupInts s.heap v ns := fun v hv => by
    obtain ⟨t, rfl⟩ := e2 v hv
    have hm : V.ref t ∈ xs := by
      rw [e1]
      exact List.mem_map.mpr ⟨_, hv, rfl⟩
    obtain ⟨ns, hn, ⟨t', e, ht⟩⟩ := hx _ hm
    cases e
    exact ⟨ns, hn, tupI_raw I ht⟩
  obtain ⟨fs, hfs⟩ := tupsOf_ints its raw
  refine PyProof.Rows.G.sorted_tups (shape := fun _ => false) hl.isList hfs (fun v hv => ?_) (by rw [← rv.length]; exact hz) fun st' h1 h2 h3 => ?_
  · obtain ⟨ns, _, t⟩ := raw v hv
    exact ⟨_, tupKeyC_ints t⟩
  · obtain ⟨p1, p2⟩ := pairs_snd its _ h1
    generalize hout : (PyProof.Rows.arrOf st').map (·.2) = out at p1 ⊢
    obtain ⟨ep, he'⟩ := PyProof.Rows.sortedAll_at s.heap its out
    have h4 : ∀ u ∈ out.toList, ∃ a, u = Value.ref a := fun u hu => e2 u (p1.mem_iff.mp hu)
    have hp : (out.toList.map bkV).Perm xs := by
      rw [e1]
      exact p1.map bkV
    have hlen : (out.toList.map bkV).length ≤ sizeLine := by
      rw [hp.length_eq]
      exact hz
    refine ⟨.ref _, upd H (s.heap.objs.size + 1) (.lst (out.toList.map bkV)), I.laid (t' := s.toks) (fun _ _ => PyProof.Rows.sortedAll_old) (Nat.le_succ _) ⟨hlen, out.toList, ep, bkV_vals h4, he'⟩, rfl, q _ _ hp ?_ (I.hok.fresh (Nat.le_succ _))⟩
    rw [List.pairwise_map, List.pairwise_iff_getElem]
    intro i j hi hj hij n m hn hm
    have ho : out = (PyProof.Rows.arrOf st').map (·.2) := hout.symm
    have hsz : out.size = (PyProof.Rows.arrOf st').size := by rw [ho, Array.size_map]
    have hi' : i < (PyProof.Rows.arrOf st').size := by rw [← hsz]; simpa using hi
    have hj' : j < (PyProof.Rows.arrOf st').size := by rw [← hsz]; simpa using hj
    have at_ : ∀ (k : Nat) (hk : k < out.toList.length) (hk' : k < (PyProof.Rows.arrOf st').size) (nk : List Int), TupI X.K H (bkV out.toList[k]) nk → PyProof.Rows.KK (PyProof.Rows.G.tupKindC s.heap fun _ => false) (PyProof.Rows.arrOf st') k = nk.map Sum.inl := by
      intro k hk hk' nk hnk
      obtain ⟨t, et, ht⟩ := hnk
      have eu := bkV_ref et
      have tr := tupI_raw I ht
      rw [← eu] at tr
      have ek : out.toList[k] = (PyProof.Rows.arrOf st')[k].2 := by simp [ho]
      have e1' := p2 (PyProof.Rows.arrOf st')[k] (by simp)
      rw [ek, ← e1'] at tr
      unfold PyProof.Rows.KK
      rw [Array.getElem?_eq_getElem hk']
      show ((PyProof.Rows.G.tupKindC s.heap fun _ => false).keyOf _).getD _ = _
      have := tupKeyC_ints tr
      show (PyProof.Rows.G.tupKeyC s.heap (fun _ => false) _).getD [] = _
      rw [this]; rfl
    have hle := h2 i j (Nat.le_of_lt hij) (by rw [← h1.size_eq]; exact hj')
    rw [at_ i hi hi' n hn, at_ j hj hj' m hm] at hle
    have hle' : PyProof.Rows.lexLt PyProof.Rows.itemOrd (m.map Sum.inl) (n.map Sum.inl) = false := hle
    rw [lexB_lt PyProof.Rows.itemOrd] at hle'
    unfold lexLe
    rw [hle']; rfl
/-! the meaning -/
theorem dps_perm : ∀ {us vs : List V} {ds : List PV}, vs.Perm us → DpAll K Hf us ds → ∃ es, es.Perm ds ∧ DpAll K Hf vs es := by
  intro us vs ds p
  induction p generalizing ds with
  | nil => intro h; exact ⟨ds, .refl _, h⟩
  | cons x p ih =>
    intro h
    cases h with
    | cons r t =>
      obtain ⟨es, e1, e2⟩ := ih t
      exact ⟨_ :: es, e1.cons _, .cons r e2⟩
  | swap x y l =>
    intro h
    cases h with
    | cons r t =>
      cases t with
      | cons r2 t => exact ⟨_ :: _ :: _, .swap _ _ _, .cons r2 (.cons r t)⟩
  | trans p1 p2 ih1 ih2 =>
    intro h
    obtain ⟨es, e1, e2⟩ := ih2 h
    obtain ⟨fs, f1, f2⟩ := ih1 e2
    exact ⟨fs, f1.trans e1, f2⟩
theorem ints_mapI {xs : List PV} {ns : List Int} (h : ints? xs = some ns) : xs = ns.map .int := by
  induction xs generalizing ns with
  | nil => cases h; rfl
  | cons x xs ih =>
    unfold ints? at h ih
    simp only [List.mapM_cons, Option.bind_eq_bind, Option.bind_eq_some_iff] at h
    obtain ⟨n, h1, ms, h2, h3⟩ := h
    cases h3
    cases x <;> simp [intV?] at h1
    subst h1
    rw [ih h2]; rfl
theorem tupI_map {xs : List PV} {nss : List (List Int)} (h : xs.mapM tupI? = some nss) : xs = nss.map tupV := by
  induction xs generalizing nss with
  | nil => cases h; rfl
  | cons x xs ih =>
    simp only [List.mapM_cons, Option.bind_eq_bind, Option.bind_eq_some_iff] at h
    obtain ⟨n, h1, ms, h2, h3⟩ := h
    cases h3
    rw [ih h2]
    cases x with
    | tuple ys => rw [ints_mapI (show ints? ys = some n from h1)]; rfl
    | _ => cases h1
theorem dp_tupI {ns : List Int} {u : V} (e : Ex Hf H) (d : Dp K Hf u (tupV ns)) : TupI K H u ns := by
  cases d with
  | tup hs ha =>
    have : ∀ {ns : List Int} {us : List V}, DpAll K Hf us (ns.map PyData.int) → us = ns.map V.int := by
      intro ns
      induction ns with
      | nil => intro us h; cases h; rfl
      | cons n ns ih =>
        intro us h
        cases h with
        | cons r t => cases r; rw [ih t]; rfl
    rw [this ha] at hs
    exact ⟨_, rfl, ex_t e hs⟩
theorem c_sortedT : C1 X (.builtin "sorted") fSortedT := ⟨_, cr_sortV, fun Hf H c x z e hc e5 Q q => by
  simp only [fSortedT, Option.bind_eq_some_iff] at e5
  obtain ⟨xs, h1, nss, h2, h3⟩ := e5
  split at h3
  · rename_i hne
    cases h3
    obtain ⟨a, us, rfl, hs, d⟩ := lst_ok e hc h1
    rw [tupI_map h2] at d
    have hne' : ∀ ns ∈ nss, ns ≠ [] := fun ns hn z => by
      have := List.all_eq_true.mp hne ns hn
      rw [z] at this; cases this
    have rep : ∀ {us : List V} {nss : List (List Int)}, DpAll X.K Hf us (nss.map tupV) → ∀ x ∈ us, ∃ ns ∈ nss, TupI X.K H x ns := by
      intro us
      induction us with
      | nil => intro nss _ x hx; cases hx
      | cons u us ih =>
        intro nss h x hx
        cases nss with
        | nil => cases h
        | cons n nss =>
          cases h with
          | cons r t =>
            rcases List.mem_cons.mp hx with rfl | hx
            · exact ⟨n, List.mem_cons_self, dp_tupI e r⟩
            · obtain ⟨m, hm, tm⟩ := ih t x hx
              exact ⟨m, List.mem_cons_of_mem _ hm, tm⟩
    refine ⟨a, us, rfl, hs, fun x hx => ?_, fun ys p h3 h4 hp => ?_⟩
    · obtain ⟨ns, hn, t⟩ := rep d x hx
      exact ⟨ns, hne' ns hn, t⟩
    obtain ⟨es, e1, e2⟩ := dps_perm h3 d
    obtain ⟨mss, hm1, hm2⟩ : ∃ mss : List (List Int), es = mss.map tupV ∧ mss.Perm nss := by
      have : ∀ {es ds : List PV}, es.Perm ds → ∀ nss : List (List Int), ds = nss.map tupV → ∃ mss : List (List Int), es = mss.map tupV ∧ mss.Perm nss := by
        intro es ds p
        induction p with
        | nil => intro nss h; exact ⟨nss, h, .refl _⟩
        | cons x p ih =>
          intro nss h
          cases nss with
          | nil => cases h
          | cons n nss =>
            rw [List.map_cons, List.cons.injEq] at h
            obtain ⟨mss, m1, m2⟩ := ih nss h.2
            exact ⟨n :: mss, by rw [h.1, m1]; rfl, m2.cons _⟩
        | swap x y l =>
          intro nss h
          cases nss with
          | nil => cases h
          | cons n nss =>
            cases nss with
            | nil => cases h
            | cons m nss =>
              rw [List.map_cons, List.map_cons, List.cons.injEq, List.cons.injEq] at h
              exact ⟨m :: n :: nss, by rw [h.1, h.2.1, h.2.2]; rfl, .swap _ _ _⟩
        | trans p1 p2 ih1 ih2 =>
          intro nss h
          obtain ⟨mss, m1, m2⟩ := ih2 nss h
          obtain ⟨kss, k1, k2⟩ := ih1 mss m1
          exact ⟨kss, k1, k2.trans m2⟩
      exact this e1 nss rfl
    subst hm1
    have hs4 : mss.Pairwise fun a b => lexLe a b = true := by
      have : ∀ {ys : List V} {mss : List (List Int)}, ys.Pairwise (fun x y => ∀ n m, TupI X.K H x n → TupI X.K H y m → lexLe n m = true) → DpAll X.K Hf ys (mss.map tupV) → mss.Pairwise fun a b => lexLe a b = true := by
        intro ys
        induction ys with
        | nil => intro mss _ h; cases mss with | nil => exact .nil | cons => cases h
        | cons y ys ih =>
          intro mss hpw h
          cases mss with
          | nil => cases h
          | cons n mss =>
            cases h with
            | cons r t =>
              rw [List.pairwise_cons] at hpw ⊢
              refine ⟨fun m hm => ?_, ih hpw.2 t⟩
              have : ∀ {ys : List V} {mss : List (List Int)}, DpAll X.K Hf ys (mss.map tupV) → ∀ m ∈ mss, ∃ y ∈ ys, TupI X.K H y m := by
                intro ys
                induction ys with
                | nil => intro mss h m hm; cases mss with | nil => cases hm | cons => cases h
                | cons y ys ih =>
                  intro mss h m hm
                  cases mss with
                  | nil => cases h
                  | cons k mss =>
                    cases h with
                    | cons r t =>
                      rcases List.mem_cons.mp hm with rfl | hm
                      · exact ⟨y, List.mem_cons_self, dp_tupI e r⟩
                      · obtain ⟨z, hz, tz⟩ := ih t m hm
                        exact ⟨z, List.mem_cons_of_mem _ hz, tz⟩
              obtain ⟨z, hz, tz⟩ := this t m hm
              exact hpw.1 z hz n m (dp_tupI e r) tz
      exact this h4 e2
    rw [tsort_eq hm2 hs4] at q
    exact newL e e2 q p hp
  · cases h3⟩
end
end Py

namespace Py
open PySem PySem.Spec PyProof.Rows L2
section
variable {prog : Program} {w : World} {A : Around} {E : Value → Shared → Prop} {s : Shared} {t : Addr} {xs : Array (Int × Tok)} {its : List Value} {ns : List Int} {Q : Value → Shared → Prop}
theorem isTuple_of {h : Heap} {a : Addr} {its : Array Value} (x : IsTup h a its) : h.IsTuple a its := x
theorem iter_intTup {R : Value → Shared → Prop} (ht : s.heap.IsTuple t (intItems xs))
    (h : ∀ s₂ : Shared, s₂ = { s with heap := s.heap.push { cls := .type "tuple_iterator", data := .fields #[.ref t, .int 0 0] } } → (s₂.heap.IsTupleIter s.heap.objs.size t 0 ∧ s₂.heap.IsTuple t (intItems xs)) →
      (∀ b ∈ [s.heap.objs.size, t], b < s₂.heap.objs.size) → t ≠ s.heap.objs.size → R (.ref s.heap.objs.size) s₂) : wpAny (model prog w) A (pyIter (.ref t)) R E s := by
  have ll : t < s.heap.objs.size := by obtain ⟨o, ho, _⟩ := ht; exact Heap.lt_size ho
  refine wpAny_pyIter_tuple ht (h _ rfl ⟨⟨_, Heap.get?_push_size _ rfl, rfl, rfl⟩, ?_⟩ (fun b hb => ?_) (Nat.ne_of_lt ll))
  · obtain ⟨o, ho, r⟩ := ht
    exact ⟨o, Heap.get?_push_of_some _ ho, r⟩
  · rw [Heap.size_push]
    rcases List.mem_cons.mp hb with rfl | hb
    · exact Nat.lt_succ_self _
    · rw [List.mem_singleton.mp hb]; exact Nat.lt_succ_of_lt ll
theorem kept_tup {h' : Heap} {o : Obj} (hk : ∀ b x, b ∉ [s.heap.objs.size] → (s.heap.push o).get? b = some x → h'.get? b = some x) : ∀ b x, s.heap.get? b = some x → h'.get? b = some x := fun b x e =>
  hk b x (by simp; exact Nat.ne_of_lt (Heap.lt_size e)) (Heap.get?_push_of_some _ e)
theorem sumT_raw (hh : A.handled = none) (hl : s.heap.IsTuple t its.toArray) (hi : IntsAre its ns)
    (h : ∀ h' tk t', (∀ b o, s.heap.get? b = some o → h'.get? b = some o) → Q (.int ns.sum t') { s with heap := h', toks := tk }) : wpAny (model prog w) A (call (.builtin "sum") [.ref t]) Q E s := by
  obtain ⟨xs, e⟩ := hi.allInts.items
  have hn : numsOf (intItems xs).toList = ns := by rw [← e]; exact hi.numsOf
  rw [nums_intItems] at hn
  rw [e] at hl
  refine call_sum_walkG (iter_intTup hl fun s₂ e st hfp hlI => ?_)
  subst e
  refine ⟨_, _, _, _, _, _, numAt xs, rfl, Walks.tuple (A := A.in1) hh _ t hlI (intItems xs), st, hfp, (fun _ _ => intItems_at), fun h' tk t' hk => ?_⟩
  have := h h' tk t' (kept_tup hk)
  rw [show (intItems xs).size = xs.size by simp [intItems], preSum_eq, List.take_of_length_le (by simp), hn]
  exact this
theorem maxT_raw (hh : A.handled = none) (hl : s.heap.IsTuple t its.toArray) (hi : IntsAre its ns) (hne : 0 < ns.length)
    (h : ∀ h' tk M t', (∀ b o, s.heap.get? b = some o → h'.get? b = some o) → M ∈ ns → (∀ a, a ∈ ns → a ≤ M) → Q (.int M t') { s with heap := h', toks := tk }) : wpAny (model prog w) A (call (.builtin "max") [.ref t]) Q E s := by
  obtain ⟨xs, e⟩ := hi.allInts.items
  have hn : numsOf (intItems xs).toList = ns := by rw [← e]; exact hi.numsOf
  rw [nums_intItems] at hn
  subst hn
  rw [e] at hl
  have hsz : 0 < xs.size := by simpa using hne
  refine call_max_walk (iter_intTup hl fun s₂ e st hfp hlI => ?_)
  subst e
  refine ⟨_, _, _, _, _, _, _, rfl, Walks.tuple (A := A.in1) hh _ t hlI (intItems xs), st, hfp, by simpa [intItems] using hsz, CmpOf.ints_gt (numAt xs) (fun _ _ => intItems_at), fun v h' tk hP hk => ?_⟩
  have hv : (intItems xs)[argBest (fun i j => decide (numAt xs i > numAt xs j)) (xs.size - 1)]? = some v := by simpa [intItems] using hP
  obtain ⟨t', rfl⟩ := intItems_at hv
  obtain ⟨h1, h2⟩ := argBest_gt (numAt xs) (xs.size - 1)
  refine h h' tk _ t' (kept_tup hk) ?_ fun a ha => ?_
  · rw [numAt_eq]; exact PySem.getD_mem (by rw [List.length_map, Array.length_toList]; omega)
  · obtain ⟨j, hj, rfl⟩ := mem_getD ha
    rw [List.length_map, Array.length_toList] at hj
    rw [← numAt_eq]; exact h2 j (by omega)
end
section
variable {K : PySem.W.Frag} {Hf H : Hp} {X : Cx}
def rSumT (K : PySem.W.Frag) : List V → Hp → VK → Prop := fun vs H Q => ∃ (a : Addr) (ns : List Int), vs = [V.ref a] ∧ SqT K H a (ns.map V.int) ∧ Q (.int ns.sum) H
def rMaxT (K : PySem.W.Frag) : List V → Hp → VK → Prop := fun vs H Q => ∃ (a : Addr) (ns : List Int), vs = [V.ref a] ∧ SqT K H a (ns.map V.int) ∧ 0 < ns.length ∧ ∀ m, m ∈ ns → (∀ y, y ∈ ns → y ≤ m) → Q (.int m) H
theorem cr_sumT (hc : X.calm = true) : CallR X (.builtin "sum") (rSumT X.K) := by
  intro pins s σ H vs us Q I r h
  obtain ⟨a, ns, rfl, hs, q⟩ := h
  obtain ⟨its, rv, hl, _⟩ := I.tuple hs
  rw [Vals.ref1 r]
  exact sumT_raw (I.ok.hd hc) (isTuple_of hl) rv.ints fun h' tk t' hk => ⟨.int _, H, I.kept hk, ⟨_, rfl⟩, q⟩
theorem cr_maxT (hc : X.calm = true) : CallR X (.builtin "max") (rMaxT X.K) := by
  intro pins s σ H vs us Q I r h
  obtain ⟨a, ns, rfl, hs, hne, q⟩ := h
  obtain ⟨its, rv, hl, _⟩ := I.tuple hs
  rw [Vals.ref1 r]
  exact maxT_raw (I.ok.hd hc) (isTuple_of hl) rv.ints hne fun h' tk m t' hk h1 h2 => ⟨.int _, H, I.kept hk, ⟨_, rfl⟩, q m h1 h2⟩
theorem c_sumT (hc : X.calm = true) : C1 X (.builtin "sum") fSumT := ⟨_, cr_sumT hc, fun Hf H c x z e hc e5 Q q => by
  simp only [fSumT, Option.bind_eq_some_iff, Option.map_eq_some_iff] at e5
  obtain ⟨xs, h1, ns, h2, rfl⟩ := e5
  obtain ⟨a, us, rfl, hs, d⟩ := tup_ok e hc h1
  rw [ints_ok h2 d] at hs
  exact ⟨a, ns, rfl, hs, old e (.int _) q⟩⟩
theorem maxL_spec {ns : List Int} {m : Int} (h1 : m ∈ ns) (h2 : ∀ y, y ∈ ns → y ≤ m) : maxL ns = m := by
  have key : ∀ (xs : List Int) (a : Int), (xs.foldl max a = a ∨ xs.foldl max a ∈ xs) ∧ a ≤ xs.foldl max a ∧ ∀ x ∈ xs, x ≤ xs.foldl max a := by
    intro xs
    induction xs with
    | nil => intro a; exact ⟨.inl rfl, Int.le_refl _, fun x hx => by cases hx⟩
    | cons y xs ih =>
      intro a
      obtain ⟨h0, h1, h2⟩ := ih (max a y)
      rw [List.foldl_cons]
      refine ⟨?_, by omega, fun x hx => ?_⟩
      · rcases h0 with h0 | h0
        · rw [h0]
          rcases Int.le_total a y with z | z
          · exact .inr (by rw [Int.max_eq_right z]; simp)
          · exact .inl (Int.max_eq_left z)
        · exact .inr (List.mem_cons_of_mem _ h0)
      · rcases List.mem_cons.mp hx with rfl | hx
        · omega
        · exact h2 x hx
  cases ns with
  | nil => cases h1
  | cons y ys =>
    obtain ⟨a, b, c⟩ := key ys y
    show ys.foldl max y = m
    have e1 : ys.foldl max y ≤ m := by
      rcases a with a | a
      · rw [a]; exact h2 y List.mem_cons_self
      · exact h2 _ (List.mem_cons_of_mem _ a)
    have e2 : m ≤ ys.foldl max y := by
      rcases List.mem_cons.mp h1 with rfl | h1
      · exact b
      · exact c m h1
    omega
theorem c_maxT (hc : X.calm = true) : C1 X (.builtin "max") fMaxT := ⟨_, cr_maxT hc, fun Hf H c x z e hc e5 Q q => by
  simp only [fMaxT, Option.bind_eq_some_iff] at e5
  obtain ⟨xs, h1, ns, h2, h3⟩ := e5
  split at h3
  · cases h3
  · rename_i hn
    cases h3
    obtain ⟨a, us, rfl, hs, d⟩ := tup_ok e hc h1
    rw [ints_ok h2 d] at hs
    refine ⟨a, ns, rfl, hs, List.length_pos_iff.mpr hn, fun m hm1 hm2 => ?_⟩
    rw [maxL_spec hm1 hm2] at q
    exact old e (.int _) q⟩
end
end Py
/-! PyH: comprehensions of two clauses. -/
namespace Py
open PySem PySem.Spec PyProof.Rows L2
section
variable {K : PySem.W.Frag} {Hf H Hf' H' Hf1 H1 Hf2 H2 H0 : Hp} {ρ ρ' ρ1 ρ2 : Env} {σ σ' σ1 σ2 : L2.St} {O O' O1 : Addr → Prop} {X : Cx}
/-- as SI, over any objects that were there ahead -/
def SI2 (K : PySem.W.Frag) (wi : TI) (m : MI) : Prop := ∀ (ρ : Env) (xs : List PV) (ρ' : Env) (σ : L2.St) (Hf H : Hp), m ρ = some (xs, ρ') → RepE K Hf H ρ σ → ∀ R : It → Hp → Prop,
  (∀ J Hf' H', Bh K Hf H ρ σ Hf' H' ρ' → (∀ O : Addr → Prop, (∀ p, O p → H p ≠ none) → Walk K J xs O Hf' H') → R J H') → wi σ H R
structure BI2 (X : Cx) (tg e : Expr) (m : MI) : Prop where
  ex : ∃ wi, PI X tg e wi ∧ SI2 X.K wi m
theorem si2_seq {te : TE} {a : M} (ha : SE K te a) : SI2 K (iSq K te) (iSeq a) := by
  intro ρ xs ρ' σ Hf H hm E R q
  simp only [iSeq, Option.bind_eq_some_iff] at hm
  obtain ⟨⟨x, ρ1⟩, e1, e2⟩ := hm
  refine ha ρ x ρ1 σ Hf H e1 E _ fun u Hf1 H1 S1 E1 R1 k1 => ?_
  have B1 : Bh K Hf H ρ σ Hf1 H1 ρ1 := ⟨S1, E1, k1⟩
  cases x with
  | val v =>
    have R1' : Dp K Hf1 u v := R1
    cases v with
    | list ys =>
      cases e2
      cases R1' with
      | lst hs d => exact ⟨_, rfl, .inl ⟨⟨_, ex_l E1.ff hs⟩, q _ Hf1 H1 B1 fun O _ => walk_l (fun Hf2 H2 S => ex_l S.fh (ex_l S.ff hs)) d⟩⟩
    | tuple ys =>
      cases e2
      cases R1' with
      | tup hs d => exact ⟨_, rfl, .inr ⟨⟨_, ex_t E1.ff hs⟩, q _ Hf1 H1 B1 fun O _ => walk_t (fun Hf2 H2 S => ex_t S.fh (ex_t S.ff hs)) d⟩⟩
    | none => cases e2
    | bool b => cases e2
    | int i => cases e2
    | str y => cases e2
    | dict y => cases e2
  | new o =>
    cases o with
    | lst ys =>
      cases e2
      obtain ⟨p, rfl, z, f, us, hu, d⟩ := R1
      exact ⟨p, rfl, .inl ⟨⟨us, SqL.of hu⟩, q _ Hf1 H1 B1 fun O hO => walk_l (fun Hf2 H2 S => SqL.of (S.keep p _ hu fun w => hO p w z)) d⟩⟩
    | dct ys => cases e2
  | bor i => cases e2
theorem si2_rng2 {te tf : TE} {a b : M} (ha : SE K te a) (hb : SE K tf b) : SI2 K (L2.iRng2 (tCons te (tCons tf tNil))) (Py.iRng2 a b) := by
  intro ρ xs ρ' σ Hf H hm E R q
  simp only [Py.iRng2, Option.bind_eq_some_iff] at hm
  obtain ⟨⟨x, ρ1⟩, e1, c, e2, n, e3, ⟨y, ρ2⟩, e4, d, e5, k, e6, e7⟩ := hm
  split at e7
  · rename_i hz
    cases e7
    refine ha ρ x ρ1 σ Hf H e1 E _ fun u Hf1 H1 S1 E1 R1 k1 => ?_
    have B1 : Bh K Hf H ρ σ Hf1 H1 ρ1 := ⟨S1, E1, k1⟩
    have eu := intOf_some e3 (look_ok E1 R1 e2)
    refine hb ρ1 y ρ2 σ Hf1 H1 e4 E1 _ fun w Hf2 H2 S2 E2 R2 k2 => ?_
    have B2 := B1.trans (⟨S2, E2, k2⟩ : Bh K Hf1 H1 ρ1 σ Hf2 H2 ρ2)
    exact ⟨n, k, by rw [eu, intOf_some e6 (look_ok E2 R2 e5)], ⟨by omega, by omega, by omega, by omega⟩, q _ Hf2 H2 B2 fun _ _ => walk_r⟩
  · cases e7
structure LcO (K : PySem.W.Frag) (O : Addr → Prop) (Hf1 H1 : Hp) (ρ1 : Env) (σ : L2.St) (vs : List Nat) (D : Addr) (done : List PV) (ρ2 : Env) (Hf2 H2 : Hp) : Prop where
  acc : ∃ us, H2 D = some (.lst us) ∧ DpAll K Hf2 us done
  few : done.length ≤ line
  fd : Hf2 D = none
  st : Step O Hf1 H1 Hf2 H2
  en : RepE K Hf2 H2 (Py.wipe ρ2 vs) (L2.wipe σ vs)
  nm : Nm vs ρ1 ρ2
theorem wipe_wipe (σ : L2.St) (vs : List Nat) : L2.wipe (L2.wipe σ vs) vs = L2.wipe σ vs := by
  apply List.ext_getElem?
  intro j
  rw [wipe_get?, wipe_length, wipe_get?]
  by_cases hj : j ∈ vs ∧ j < σ.length <;> simp [hj]
/-- a target stored in a block -/
theorem lc_tg {g : TG} {mg : MG} {vs : List Nat} {D : Addr} {done : List PV} {x : PV} {u : V} {ρ4 : Env} (hO : ∀ p, Own (Py.wipe ρ1 vs) (L2.wipe σ vs) p → O p) (nD1 : ¬ Own (Py.wipe ρ1 vs) (L2.wipe σ vs) D) (hg : SG K g mg) (hv : TgIn g mg vs) (len1 : ρ1.length = σ.length)
    (L : LcO K O Hf1 H1 ρ1 σ vs D done ρ2 Hf2 H2) (hx : Dp K Hf2 u x) (e1 : mg (.val x) (Py.wipe ρ2 vs) = some ρ4) {Q : L2.St → Hp → Prop}
    (hQ : ∀ σ4 Hf4, L2.wipe σ4 vs = L2.wipe σ vs → RepE K Hf4 H2 ρ4 σ4 → (∀ {Hf5 H5 : Hp} {ρ5 : Env}, Bh K Hf4 H2 ρ4 σ4 Hf5 H5 ρ5 → Step O Hf1 H1 Hf5 H5 ∧ RepE K Hf5 H5 (Py.wipe ρ5 vs) (L2.wipe σ vs) ∧ Nm vs ρ1 ρ5 ∧ (∃ us, H5 D = some (.lst us) ∧ DpAll K Hf5 us done) ∧ Hf5 D = none ∧ ¬ Own ρ5 σ4 D ∧ ∀ p, Own ρ5 σ4 p → Own (Py.wipe ρ1 vs) (L2.wipe σ vs) p ∨ H1 p = none) → Q σ4 H2) :
    g u (L2.wipe σ vs) H2 fun σ2 H3 => L2.wipe σ2 vs = L2.wipe σ vs ∧ Q σ2 H3 := by
  have ww := wipe_wipe σ vs
  have kn : ∀ q, Own (Py.wipe ρ2 vs) (L2.wipe σ vs) q → H2 q ≠ none := fun q hq z => by
    obtain ⟨⟨o, ho⟩, _⟩ := L.en.there hq
    rw [z] at ho; cases ho
  have g1 : g u (L2.wipe σ vs) H2 fun σ4 H3 => H3 = H2 ∧ ∃ Hf4, BhG K Hf2 H2 H2 (Py.wipe ρ2 vs) (L2.wipe σ vs) Hf4 ρ4 σ4 := hg (.val x) (Py.wipe ρ2 vs) ρ4 (L2.wipe σ vs) Hf2 H2 H2 u e1 L.en hx kn _ fun σ4 Hf4 B4 => ⟨rfl, Hf4, B4⟩
  refine hv.c u _ _ _ _ ?_ (hv.a u _ _ _ g1)
  rintro σ4 H3 ⟨⟨rfl, Hf4, B4⟩, w4⟩
  rw [ww] at w4
  refine ⟨w4, ?_⟩
  obtain ⟨us, hus, dus⟩ := L.acc
  have own4 : ∀ p, Own ρ4 σ4 p → Own (Py.wipe ρ1 vs) (L2.wipe σ vs) p ∨ H1 p = none ∧ H3 p = none := fun p hp => by
    rcases B4.own p hp with z | z
    · exact .inl (own_wipe L.nm z)
    · exact .inr ⟨L.st.fresh z, z⟩
  have nD4 : ¬ Own ρ4 σ4 D := fun h => by
    rcases own4 D h with z | ⟨_, z⟩
    · exact nD1 z
    · rw [hus] at z; cases z
  have nm4 : ∀ j, j ∉ vs → get ρ4 j = get ρ2 j := fun j hj => by rw [hv.b x _ _ e1 j hj, get_wipe, if_neg hj]
  have len4 : ρ4.length = ρ1.length := by
    rw [B4.en.len, ← wipe_length σ4 vs, w4, wipe_length, ← len1]
  have st4 : Step O Hf1 H1 Hf4 H3 := L.st.trans B4.st fun p hp => by
    rcases hp with z | z
    · exact .inl (hO p (own_wipe L.nm z))
    · exact .inr (L.st.fresh z)
  have fd4 : Hf4 D = none := by rw [B4.st.nof D _ hus (fun z => by rcases z with z | z; exact nD1 (own_wipe L.nm z); rw [hus] at z; cases z)]; exact L.fd
  refine hQ σ4 Hf4 w4 B4.en fun {Hf5 H5 ρ5} B => ?_
  refine ⟨st4.trans B.st fun p hp => (own4 p hp).imp (hO p) (·.1), ?_, ⟨?_, fun j hj => ⟨fun h => ?_, ?_⟩⟩, ⟨us, B.st.keep D _ hus nD4, dps_mono B.st.ff _ _ (dps_mono B4.st.ff _ _ dus)⟩, ?_, fun h => nD4 (B.kp.sub h), fun p h => (own4 p (B.kp.sub h)).imp id (·.1)⟩
  · have := B.en.wipe vs
    rw [w4] at this
    exact this
  · rw [B.en.len, ← B4.en.len]; exact len4
  · have h4 := B.kp.own j h
    rw [nm4 j hj] at h4
    exact (L.nm.2 j hj).1 h4
  · rw [B.kp.ref j, nm4 j hj]; exact (L.nm.2 j hj).2
  · rw [B.st.nof D _ hus nD4]; exact fd4
theorem lc_turnO {g : TG} {mg : MG} {tt : TT} {te : TE} {t : MT} {e : M} {vs : List Nat} {D : Addr} {done ys : List PV} {x : PV} {u : V} {ρ3 : Env} (hO : ∀ p, Own (Py.wipe ρ1 vs) (L2.wipe σ vs) p → O p) (hOD : O D ∨ H1 D = none) (nD1 : ¬ Own (Py.wipe ρ1 vs) (L2.wipe σ vs) D)
    (hg : SG K g mg) (hv : TgIn g mg vs) (ht : ST K tt t) (he : SE K te e) (len1 : ρ1.length = σ.length)
    (hz : (done ++ ys).length ≤ line) (L : LcO K O Hf1 H1 ρ1 σ vs D done ρ2 Hf2 H2) (hx : Dp K Hf2 u x) (hm : lcTurn mg vs t e x ρ2 = some (ys, ρ3)) {Nx : Hp → Prop} (hN : ∀ Hf3 H3, LcO K O Hf1 H1 ρ1 σ vs D (done ++ ys) ρ3 Hf3 H3 → Nx H3) :
    g u (L2.wipe σ vs) H2 fun σ2 H3 => L2.wipe σ2 vs = L2.wipe σ vs ∧ tt σ2 H3 fun b H4 =>
      if b = true then te σ2 H4 fun y H5 => ∃ acc, H5 D = some (.lst acc) ∧ acc.length < sizeLine ∧ Nx (upd H5 D (.lst (acc ++ [y]))) else Nx H4 := by
  simp only [lcTurn, Option.bind_eq_some_iff] at hm
  obtain ⟨ρ4, e1, ⟨b, ρ5⟩, e2, e3⟩ := hm
  refine lc_tg hO nD1 hg hv len1 L hx e1 fun σ4 Hf4 w4 E4 fin => ?_
  refine ht ρ4 b ρ5 σ4 Hf4 H2 e2 E4 _ fun Hf5 H5 S5 E5 k5 => ?_
  have B5 : Bh K Hf4 H2 ρ4 σ4 Hf5 H5 ρ5 := ⟨S5, E5, k5⟩
  cases b with
  | false =>
    simp only [Bool.false_eq_true, if_false] at e3 ⊢
    cases e3
    obtain ⟨f1, f2, f3, f4, f5, f6⟩ := fin B5
    rw [List.append_nil] at hN
    exact hN Hf5 H5 ⟨f4, L.few, f5, f1, f2, f3⟩
  | true =>
    simp only [if_true, Option.bind_eq_some_iff, Option.map_eq_some_iff, Prod.mk.injEq] at e3 ⊢
    obtain ⟨⟨r, ρ6⟩, e4, ⟨v, ρ7⟩, e5, rfl, rfl⟩ := e3
    refine he ρ5 r ρ6 σ4 Hf5 H5 e4 E5 _ fun y Hf6 H6 S6 E6 R6 k6 => ?_
    have B6 : Bh K Hf5 H5 ρ5 σ4 Hf6 H6 ρ6 := ⟨S6, E6, k6⟩
    obtain ⟨Hf7, B7, d7⟩ := B6.frz E5 R6 e5
    obtain ⟨f1, f2, f3, ⟨us, f4, f6⟩, f5, _⟩ := fin (B5.trans B7)
    have lu : us.length = done.length := dps_len f6
    have st := Step.at (o := .lst (us ++ [y])) f2.ff f5
    rw [List.length_append, List.length_singleton] at hz
    refine ⟨us, f4, by rw [← line_eq, lu]; omega, hN Hf7 _ ⟨⟨us ++ [y], upd_same, dps_app f6 (.cons d7 .nil)⟩, by rw [List.length_append, List.length_singleton]; exact hz, f5, f1.trans st fun p hp => by rw [hp]; exact hOD, f2.step st fun p hp z => ?_, f3⟩⟩
    rw [z] at hp
    exact nD1 (own_wipe f3 hp)
theorem wipeE_get? (ρ : Env) (vs : List Nat) (j : Nat) : (Py.wipe ρ vs)[j]? = if j ∈ vs ∧ j < ρ.length then some none else ρ[j]? := by
  induction vs with
  | nil => simp [Py.wipe]
  | cons v vs ih =>
    unfold Py.wipe
    by_cases h : v = j
    · subst h
      by_cases hl : v < ρ.length
      · rw [List.getElem?_set_self (by rw [wipe_len]; exact hl)]; simp [hl]
      · rw [List.getElem?_eq_none (by rw [List.length_set, wipe_len]; omega)]; simp [hl]
    · rw [List.getElem?_set_ne h, ih]
      simp [Ne.symm h]
/-- the inner clause -/
theorem lc_inner {g : TG} {mg : MG} {tt : TT} {te : TE} {t : MT} {e : M} {vs : List Nat} {D : Addr} {done ys : List PV} {xs : List PV} {J : It} {ρ3 : Env} (hO : ∀ p, Own (Py.wipe ρ1 vs) (L2.wipe σ vs) p → O p) (hOD : O D ∨ H1 D = none) (nD1 : ¬ Own (Py.wipe ρ1 vs) (L2.wipe σ vs) D)
    (hg : SG K g mg) (hv : TgIn g mg vs) (ht : ST K tt t) (he : SE K te e) (len1 : ρ1.length = σ.length) (hz : (done ++ ys).length ≤ line) (L : LcO K O Hf1 H1 ρ1 σ vs D done ρ1 Hf1 H1)
    (w : Walk K J xs O Hf1 H1) (hm : lcF (lcTurn mg vs t e) xs ρ1 = some (ys, ρ3)) {Nx : Hp → Prop} (hN : ∀ Hf3 H3, LcO K O Hf1 H1 ρ1 σ vs D (done ++ ys) ρ3 Hf3 H3 → Nx H3) :
    ∃ W1 : Nat → Nat → Hp → Prop, (∃ m, W1 0 m H1) ∧ ∀ j k H, W1 j k H →
      (J.stop j H ∧ Nx H) ∨ (J.go j H ∧ ∃ Nx1 : Hp → Prop, (∀ H', Nx1 H' → ∃ k', k' < k ∧ W1 (j + 1) k' H') ∧ ∀ x H', J.yld j H x H' → g x (L2.wipe σ vs) H' fun σ3 H5 => L2.wipe σ3 vs = L2.wipe σ vs ∧ tt σ3 H5 fun b H6 =>
        if b = true then te σ3 H6 fun y H7 => ∃ acc, H7 D = some (.lst acc) ∧ acc.length < sizeLine ∧ Nx1 (upd H7 D (.lst (acc ++ [y]))) else Nx1 H6) := by
  refine ⟨fun j k H2 => k = xs.length - j ∧ j ≤ xs.length ∧ ∃ ρ2 Hf2 mid rest, lcF (lcTurn mg vs t e) (xs.drop j) ρ2 = some (rest, ρ3) ∧ ys = mid ++ rest ∧ LcO K O Hf1 H1 ρ1 σ vs D (done ++ mid) ρ2 Hf2 H2,
    ⟨_, rfl, Nat.zero_le _, ρ1, Hf1, [], ys, hm, rfl, by rw [List.append_nil]; exact L⟩, ?_⟩
  rintro j k H2 ⟨rfl, hj', ρ2, Hf2, mid, rest, h1, rfl, L2⟩
  obtain ⟨w1, w2⟩ := w Hf2 H2 L2.st j
  cases hd : xs.drop j with
  | nil =>
    rw [hd] at h1
    cases h1
    have hle : xs.length ≤ j := by
      have := congrArg List.length hd
      rw [List.length_drop, List.length_nil] at this
      omega
    rw [List.append_nil] at hN
    exact .inl ⟨w2 hle, hN _ _ L2⟩
  | cons x xr =>
    rw [hd] at h1
    obtain ⟨hx, hr⟩ := drop_get hd
    have hlt : j < xs.length := (List.getElem?_eq_some_iff.mp hx).1
    obtain ⟨go, yl⟩ := w1 x hx
    obtain ⟨zs, ρ4, rs, t1, t2, t3⟩ := lcF_some h1
    have t3' : rest = zs ++ rs := t3
    subst t3'
    refine .inr ⟨go, fun H' => ∃ Hf3, LcO K O Hf1 H1 ρ1 σ vs D (done ++ (mid ++ zs)) ρ4 Hf3 H', fun H' ⟨Hf3, L3⟩ => ⟨_, by omega, rfl, hlt, ρ4, Hf3, mid ++ zs, rs, by rw [hr]; exact t2, by rw [List.append_assoc], L3⟩, fun u H3 hy => ?_⟩
    obtain ⟨rfl, du⟩ := yl u H3 hy
    exact lc_turnO hO hOD nD1 hg hv ht he len1 (by simp only [List.length_append] at hz ⊢; omega) L2 du t1 fun Hf3 H4 L3 => ⟨Hf3, by rw [← List.append_assoc]; exact L3⟩
theorem se_lc2 {wi : TI} {g : TG} {tt : TT} {wi1 : TI} {g1 : TG} {tt1 : TT} {te : TE} {it it1 : MI} {mg mg1 : MG} {t t1 : MT} {e : M} (vs vs1 : List Nat) (hvs : ∀ i ∈ vs1, i ∈ vs) (hi : SI K wi it) (hg : SG K g mg) (hv : TgIn g mg vs) (ht : ST K tt t)
    (hi1 : SI2 K wi1 it1) (hg1 : SG K g1 mg1) (hv1 : TgIn g1 mg1 vs1) (ht1 : ST K tt1 t1) (he : SE K te e) : SE K (tLc2 wi g tt wi1 g1 tt1 te vs vs1) (mLc2 it mg vs t it1 mg1 vs1 t1 e) := by
  intro ρ r ρ' σ Hf H hm E Q q
  simp only [mLc2, Option.bind_eq_some_iff] at hm
  obtain ⟨⟨xs, ρ1⟩, e1, e2⟩ := hm
  split at e2
  case isFalse => cases e2
  rename_i hz
  simp only [Option.bind_eq_some_iff] at e2
  obtain ⟨⟨total, ρe⟩, e3, e4⟩ := e2
  split at e4
  case isFalse => cases e4
  rename_i hz2
  cases e4
  dsimp only at hz2
  refine hi ρ xs ρ1 σ Hf H e1 E _ fun J Hf1 H1 B1 w => ?_
  intro D hD
  have fD : Hf1 D = none := by
    cases z : Hf1 D with
    | none => rfl
    | some o => have := B1.en.ff D o z; rw [hD] at this; cases this
  have st0 := Step.at (o := .lst []) B1.en.ff fD
  have wsub : ∀ p, Own (Py.wipe ρ1 vs) (L2.wipe σ vs) p → Own ρ1 σ p := fun p ⟨j, a, b⟩ => by
    rw [get_wipe] at a
    rw [slot_wipe] at b
    by_cases hj : j ∈ vs
    · rw [if_pos hj] at a; cases a
    · rw [if_neg hj] at a b; exact ⟨j, a, b⟩
  have nD1 : ¬ Own (Py.wipe ρ1 vs) (L2.wipe σ vs) D := fun h => by
    obtain ⟨⟨o, ho⟩, _⟩ := B1.en.there (wsub D h)
    rw [hD] at ho; cases ho
  refine ⟨fun i m H2 => m = xs.length - i ∧ i ≤ xs.length ∧ ∃ ρ2 Hf2 done rest, lcF (lcTurn2 mg vs t it1 mg1 vs1 t1 e) (xs.drop i) ρ2 = some (rest, ρe) ∧ total = done ++ rest ∧ LcO K (Own (Py.wipe ρ1 vs) (L2.wipe σ vs)) Hf1 H1 ρ1 σ vs D done ρ2 Hf2 H2,
    ⟨_, rfl, Nat.zero_le _, ρ1, Hf1, [], total, e3, rfl, ⟨⟨[], upd_same, .nil⟩, Nat.zero_le _, fD, st0.weak fun p hp => .inr (by rw [hp]; exact hD), ?_, rfl, fun j _ => ⟨id, rfl⟩⟩⟩, ?_⟩
  · refine (B1.en.wipe vs).step st0 fun p hp z => ?_
    obtain ⟨⟨o, ho⟩, _⟩ := B1.en.there (wsub p hp)
    rw [z, hD] at ho; cases ho
  · rintro i m H2 ⟨rfl, hi', ρ2, Hf2, done, rest, h1, rfl, L⟩
    obtain ⟨w1, w2⟩ := w Hf2 H2 (L.st.weak fun p hp => .inl (wsub p hp)) i
    cases hd : xs.drop i with
    | nil =>
      rw [hd] at h1
      cases h1
      have hle : xs.length ≤ i := by
        have := congrArg List.length hd
        rw [List.length_drop, List.length_nil] at this
        omega
      refine .inl ⟨w2 hle, ?_⟩
      obtain ⟨Be, Re⟩ := lc_end B1.en hD (⟨L.acc, L.few, L.fd, L.st, L.en, L.nm⟩ : LcS K Hf1 H1 ρ1 σ vs D line done _ Hf2 H2)
      rw [List.append_nil] at q
      have B := B1.trans Be
      exact q _ Hf2 H2 B.st B.en (Re.back fun p hp => B1.fresh hp) B.kp
    | cons x xr =>
      rw [hd] at h1
      obtain ⟨hx, hr⟩ := drop_get hd
      have hlt : i < xs.length := (List.getElem?_eq_some_iff.mp hx).1
      obtain ⟨go, yl⟩ := w1 x hx
      obtain ⟨ys, ρ3, zs, u1, u2, u3⟩ := lcF_some h1
      have u3' : rest = ys ++ zs := u3
      subst u3'
      refine .inr ⟨go, fun H' => ∃ Hf3, LcO K (Own (Py.wipe ρ1 vs) (L2.wipe σ vs)) Hf1 H1 ρ1 σ vs D (done ++ ys) ρ3 Hf3 H', fun H' ⟨Hf3, L3⟩ => ⟨_, by omega, rfl, hlt, ρ3, Hf3, done ++ ys, zs, by rw [hr]; exact u2, by rw [List.append_assoc], L3⟩, fun u H3 hy => ?_⟩
      obtain ⟨rfl, du⟩ := yl u H3 hy
      have hlen : (done ++ ys).length ≤ line := by simp only [List.length_append] at hz2 ⊢; omega
      simp only [lcTurn2, Option.bind_eq_some_iff] at u1
      obtain ⟨ρ4, a1, ⟨b, ρ5⟩, a2, a3⟩ := u1
      refine lc_tg (fun p h => h) nD1 hg hv B1.en.len L du a1 fun σ4 Hf4 w4 E4 fin => ?_
      refine ht ρ4 b ρ5 σ4 Hf4 H3 a2 E4 _ fun Hf5 H5 S5 E5 k5 => ?_
      have B5 : Bh K Hf4 H3 ρ4 σ4 Hf5 H5 ρ5 := ⟨S5, E5, k5⟩
      cases b with
      | false =>
        simp only [Bool.false_eq_true, if_false] at a3 ⊢
        cases a3
        obtain ⟨f1, f2, f3, f4, f5, f6⟩ := fin B5
        exact ⟨Hf5, by rw [List.append_nil]; exact ⟨f4, L.few, f5, f1, f2, f3⟩⟩
      | true =>
        simp only [if_true, Option.bind_eq_some_iff] at a3 ⊢
        obtain ⟨⟨xs1, ρ6⟩, a4, a5⟩ := a3
        split at a5
        case isFalse => cases a5
        obtain ⟨_, _, _, ⟨us5, f45, _⟩, _, _⟩ := fin B5
        refine hi1 ρ5 xs1 ρ6 σ4 Hf5 H5 a4 E5 _ fun J1 Hf6 H6 B6 wk => ?_
        obtain ⟨f1, f2, f3, f4, f5, f6, own6⟩ := fin (B5.trans B6)
        have wsub1 : ∀ p, Own (Py.wipe ρ6 vs1) (L2.wipe σ4 vs1) p → Own ρ6 σ4 p := fun p ⟨j, a, b⟩ => by
          rw [get_wipe] at a
          rw [slot_wipe] at b
          by_cases hj : j ∈ vs1
          · rw [if_pos hj] at a; cases a
          · rw [if_neg hj] at a b; exact ⟨j, a, b⟩
        have nD6 : ¬ Own (Py.wipe ρ6 vs1) (L2.wipe σ4 vs1) D := fun h => f6 (wsub1 D h)
        refine lc_inner (O := fun p => Own (Py.wipe ρ6 vs1) (L2.wipe σ4 vs1) p ∨ p = D) (fun p h => .inl h) (.inl (.inr rfl)) nD6 hg1 hv1 ht1 he B6.en.len hlen ⟨f4, L.few, f5, .refl B6.en.ff, B6.en.wipe vs1, rfl, fun j _ => ⟨id, rfl⟩⟩ (wk _ ?_) a5 fun Hf7 H7 L7 => ?_
        · rintro p (h | rfl)
          · exact B6.no E5 p (wsub1 p h)
          · rw [f45]; exact fun z => nomatch z
        · refine ⟨Hf7, ⟨L7.acc, L7.few, L7.fd, ?_, ?_, ?_⟩⟩
          · refine f1.trans L7.st fun p hp => ?_
            rcases hp with hp | rfl
            · exact own6 p (wsub1 p hp)
            · exact .inr hD
          · have h1 := L7.en.wipe vs
            have h2 : Py.wipe (Py.wipe ρ3 vs1) vs = Py.wipe ρ3 vs := by
              apply List.ext_getElem?
              intro j
              rw [wipeE_get?, wipeE_get?, wipe_len, wipeE_get?]
              by_cases hj : j ∈ vs ∧ j < ρ3.length
              · simp [hj]
              · rw [if_neg hj, if_neg hj, if_neg fun z => hj ⟨hvs j z.1, z.2⟩]
            have h3 : L2.wipe (L2.wipe σ4 vs1) vs = L2.wipe σ vs := by
              rw [← w4]
              apply List.ext_getElem?
              intro j
              rw [wipe_get?, wipe_get?, wipe_length, wipe_get?]
              by_cases hj : j ∈ vs ∧ j < σ4.length
              · simp [hj]
              · rw [if_neg hj, if_neg hj, if_neg fun z => hj ⟨hvs j z.1, z.2⟩]
            rw [h2, h3] at h1
            exact h1
          · refine ⟨L7.nm.1.trans f3.1, fun j hj => ?_⟩
            have n1 := L7.nm.2 j fun z => hj (hvs j z)
            have n2 := f3.2 j hj
            exact ⟨fun h => n2.1 (n1.1 h), n1.2.trans n2.2⟩
def rI2 (K : PySem.W.Frag) (m : MI) : TI := fun σ H R => ∃ (ρ : Env) (xs : List PV) (ρ' : Env) (Hf : Hp), m ρ = some (xs, ρ') ∧ RepE K Hf H ρ σ ∧ ∀ J Hf' H', Bh K Hf H ρ σ Hf' H' ρ' → (∀ O : Addr → Prop, (∀ p, O p → H p ≠ none) → Walk K J xs O Hf' H') → R J H'
theorem si_rI2 {m : MI} : SI2 K (rI2 K m) m := fun ρ xs ρ' σ Hf H hm E R q => ⟨ρ, xs, ρ', Hf, hm, E, q⟩
theorem BI2.can {X : Cx} {tg e : Expr} {m : MI} (h : BI2 X tg e m) : PI X tg e (rI2 X.K m) := by
  obtain ⟨te, h1, h2⟩ := h
  exact ⟨fun pins s σ H R I ⟨ρ, xs, ρ', Hf, hm, E, q⟩ => h1.run pins s σ H R I (h2 ρ xs ρ' σ Hf H hm E R q)⟩
theorem bi2_seq {tg e : Expr} {m : M} (h : BE X e m) : BI2 X tg e (iSeq m) := let ⟨t, a1, a2⟩ := h; ⟨_, pi_sq a1, si2_seq a2⟩
theorem bi2_rng2 {tg a b : Expr} {ma mb : M} {p pos : Pos} (hg : Gl X "range") (hm : X.mg "range" = none) (ha : BE X a ma) (hb : BE X b mb) (hs : starEach [a, b] X.env = [(false, eval a X.env), (false, eval b X.env)] := by rfl) (hs2 : starEach [b] X.env = [(false, eval b X.env)] := by rfl)
    (h3 : starEach [a, b] X.env = (false, eval a X.env) :: starEach [b] X.env := by rfl) (h4 : starEach [b] X.env = (false, eval b X.env) :: starEach [] X.env := by rfl) : BI2 X tg (.Call (.Name "range" p) [a, b] [] pos) (Py.iRng2 ma mb) :=
  let ⟨t, h1, h2⟩ := ha; let ⟨u, h5, h6⟩ := hb; ⟨_, pi_range2 hg hm (pa_cons h1 (pa_cons h5 pa_nil h4) h3) hs hs2, si2_rng2 h2 h6⟩
end
section
variable {X : Cx} {elt iter iter1 : Expr} {ifs ifs1 : List Expr} {scope : Scope} {pos : Pos} {mi mi1 : MI} {mt mt1 : MT} {me : M} {x x1 y : Str} {p p1 : Pos}
/-- [elt for x in iter if .. for x1 in iter1 if ..] -/
theorem be_lc2N (i i1 : Nat) (own : List (Str × Nat)) (hc : X.calm = true) (hN : X.N.Nodup) (hi : BI X (.Name x p) iter mi) (ok : blkC X.N X.env.scope scope own = true) (hm : i ∈ own.map (·.2) ∧ i1 ∈ own.map (·.2))
    (hg : ∀ (s : Shared) (H : Hp) (C : Addr) (cl : List (Str × Addr)) (fp : List Addr), PG (X.blk s H scope (compEnvC scope cl C X.env) fp) (.Name x p) (L2.gName i))
    (ht : ∀ (s : Shared) (H : Hp) (C : Addr) (cl : List (Str × Addr)) (fp : List Addr), BTs (X.blk s H scope (compEnvC scope cl C X.env) fp) ifs mt)
    (hi1 : ∀ (s : Shared) (H : Hp) (C : Addr) (cl : List (Str × Addr)) (fp : List Addr), BI2 (X.blk s H scope (compEnvC scope cl C X.env) fp) (.Name x1 p1) iter1 mi1)
    (hg1 : ∀ (s : Shared) (H : Hp) (C : Addr) (cl : List (Str × Addr)) (fp : List Addr), PG (X.blk s H scope (compEnvC scope cl C X.env) fp) (.Name x1 p1) (L2.gName i1))
    (ht1 : ∀ (s : Shared) (H : Hp) (C : Addr) (cl : List (Str × Addr)) (fp : List Addr), BTs (X.blk s H scope (compEnvC scope cl C X.env) fp) ifs1 mt1)
    (he : ∀ (s : Shared) (H : Hp) (C : Addr) (cl : List (Str × Addr)) (fp : List Addr), BE (X.blk s H scope (compEnvC scope cl C X.env) fp) elt me)
    (hs : ∀ x, foldedSetIterable iter X.env x = pure x := by intro _; rfl) (hs1 : ∀ env x, foldedSetIterable iter1 env x = pure x := by intro _ _; rfl) :
    BE X (.ListComp elt [⟨.Name x p, iter, ifs, 0⟩, ⟨.Name x1 p1, iter1, ifs1, 0⟩] scope pos) (mLc2 mi (Py.gName i) (own.map (·.2)) mt mi1 (Py.gName i1) [i1] mt1 me) := by
  obtain ⟨wi, h1, h2⟩ := hi
  have hv1 : ∀ j ∈ [i1], j ∈ own.map (·.2) := fun j hj => by rw [List.mem_singleton.mp hj]; exact hm.2
  exact ⟨_, pe_lc2 hc hN h1 (blkOk_by ok) hv1 hg (fun s H C cl fp => (ht s H C cl fp).can) (fun s H C cl fp => (hi1 s H C cl fp).can) hg1 (fun s H C cl fp => (ht1 s H C cl fp).can) (fun s H C cl fp => (he s H C cl fp).can) hs hs1,
    se_lc2 _ _ hv1 h2 (sg_name i) (tgIn_name hm.1) st_rT si_rI2 (sg_name i1) (tgIn_name (List.mem_singleton.mpr rfl)) st_rT se_rE⟩
theorem bs_setLc2N (j : Nat) (i i1 : Nat) (own : List (Str × Nat)) {py spos : Pos} (hc : X.calm = true) (hN : X.N.Nodup) (hj : X.N[j]? = some y) (hyl : X.env.scope.names.lookup y = some .local) (hi : BI X (.Name x p) iter mi) (ok : blkC X.N X.env.scope scope own = true) (hm : i ∈ own.map (·.2) ∧ i1 ∈ own.map (·.2))
    (hsw : swapsWith (.ListComp elt [⟨.Name x p, iter, ifs, 0⟩, ⟨.Name x1 p1, iter1, ifs1, 0⟩] scope pos) (some (.Name y py)) spos.line X.env = pure true)
    (hg : ∀ (s : Shared) (H : Hp) (C : Addr) (cl : List (Str × Addr)) (fp : List Addr), PG (X.blk s H scope (compEnvC scope cl C X.env) fp) (.Name x p) (L2.gName i))
    (ht : ∀ (s : Shared) (H : Hp) (C : Addr) (cl : List (Str × Addr)) (fp : List Addr), BTs (X.blk s H scope (compEnvC scope cl C X.env) fp) ifs mt)
    (hi1 : ∀ (s : Shared) (H : Hp) (C : Addr) (cl : List (Str × Addr)) (fp : List Addr), BI2 (X.blk s H scope (compEnvC scope cl C X.env) fp) (.Name x1 p1) iter1 mi1)
    (hg1 : ∀ (s : Shared) (H : Hp) (C : Addr) (cl : List (Str × Addr)) (fp : List Addr), PG (X.blk s H scope (compEnvC scope cl C X.env) fp) (.Name x1 p1) (L2.gName i1))
    (ht1 : ∀ (s : Shared) (H : Hp) (C : Addr) (cl : List (Str × Addr)) (fp : List Addr), BTs (X.blk s H scope (compEnvC scope cl C X.env) fp) ifs1 mt1)
    (he : ∀ (s : Shared) (H : Hp) (C : Addr) (cl : List (Str × Addr)) (fp : List Addr), BE (X.blk s H scope (compEnvC scope cl C X.env) fp) elt me)
    (hs : ∀ x, foldedSetIterable iter X.env x = pure x := by intro _; rfl) (hs1 : ∀ env x, foldedSetIterable iter1 env x = pure x := by intro _ _; rfl) :
    BS X (.Assign [.Name y py] (.ListComp elt [⟨.Name x p, iter, ifs, 0⟩, ⟨.Name x1 p1, iter1, ifs1, 0⟩] scope pos) spos) (sAsg (mLc2 mi (Py.gName i) (own.map (·.2)) mt mi1 (Py.gName i1) [i1] mt1 me) (Py.gName j)) := by
  obtain ⟨wi, h1, h2⟩ := hi
  have hv1 : ∀ j ∈ [i1], j ∈ own.map (·.2) := fun j hj => by rw [List.mem_singleton.mp hj]; exact hm.2
  exact ⟨_, ps_setLc2 hc hN hj hyl hsw h1 (blkOk_by ok) hv1 hg (fun s H C cl fp => (ht s H C cl fp).can) (fun s H C cl fp => (hi1 s H C cl fp).can) hg1 (fun s H C cl fp => (ht1 s H C cl fp).can) (fun s H C cl fp => (he s H C cl fp).can) hs hs1,
    ss_asg (se_lc2 _ _ hv1 h2 (sg_name i) (tgIn_name hm.1) st_rT si_rI2 (sg_name i1) (tgIn_name (List.mem_singleton.mpr rfl)) st_rT se_rE) (sg_name j)⟩
end
end Py
/-! PyI0: more of dicts. -/
namespace Py
open PySem
/-- {k: v} of ints -/
def mDctC (kvs : List (Int × Int)) : M := fun ρ => some (.new (.dct (kvs.map fun p => (.inl p.1, .int p.2))), ρ)
def isDct : Ct → Bool
  | .ob (.dct _) => true
  | _ => false
/-- d.get(k, v) -/
def mDgetD (d k v : M) : M := fun ρ => (d ρ).bind fun x => (look x.1 x.2).bind fun c0 => if isDct c0 = true then (k x.2).bind fun y => (look y.1 y.2).bind fun ck => (keyC ck).bind fun key => (v y.2).bind fun z => (look x.1 z.2).bind fun c => match c, z.1 with
  | .ob (.dct kvs), .val w => some (.val ((dGet kvs key).getD w), z.2)
  | _, _ => none
  else none
def keyPV : Key → PV
  | .inl i => .int i
  | .inr s => .str s
/-- the keys of a locked dict -/
def iKeysL (i : Nat) : MI := fun ρ => match get ρ i with
  | some (.lck kvs) => some (kvs.map fun kv => keyPV kv.1, ρ)
  | _ => none
def lockE (ρ : Env) (i : Nat) : Option Env := match get ρ i with
  | some (.own (.dct kvs)) => some (ρ.set i (some (.lck kvs)))
  | some (.ref (.dct kvs)) => some (ρ.set i (some (.lck kvs)))
  | _ => none
/-- as it was ahead: a name's own, or a caller's -/
def unlockE (ρ0 : Env) (ρ : Env) (i : Nat) : Option Env := match get ρ i, get ρ0 i with
  | some (.lck kvs), some (.own _) => some (ρ.set i (some (.own (.dct kvs))))
  | some (.lck kvs), some (.ref _) => some (ρ.set i (some (.ref (.dct kvs))))
  | _, _ => none
/-- s runs while the dict of a name is not changed -/
def sLock (i : Nat) (s : SM) : SM := fun ρ => (lockE ρ i).bind fun ρ1 => (s ρ1).bind fun y => (unlockE ρ y.2 i).map fun ρ2 => (y.1, ρ2)
def intK : Key → Option Int
  | .inl i => some i
  | _ => none
/-- sorted(d), ints -/
def fSortedD : Ct → Option R
  | .ob (.dct kvs) => (kvs.mapM fun kv => intK kv.1).map fun ns => .new (.lst ((isort ns).map .int))
  | _ => none
/-- a = b, a dict that b does not hold behind it -/
def sMove (i j : Nat) : SM := fun ρ => match get ρ j with
  | some (.own (.dct kvs)) => (put i (some (.own (.dct kvs))) (ρ.set j none)).map fun ρ' => (.nx, ρ')
  | _ => none
def newOb : R → Option Ob
  | .new o => some o
  | _ => none
def fCountI : Ct → Ct → Option R
  | c, .pv (.int k) => c.lst?.bind fun xs => (ints? xs).map fun ns => .val (.int (ns.count k : Nat))
  | _, _ => none
/-- xs.count(e) -/
def mCount (a b : M) : M := fun ρ => (a ρ).bind fun x => (look x.1 x.2).bind fun c0 => c0.lst?.bind fun _ => (b x.2).bind fun y => (look x.1 y.2).bind fun cx => (look y.1 y.2).bind fun cy => (fCountI cx cy).map fun z => (z, y.2)
/-- a, b = two new objects -/
def sParN (i j : Nat) (a b : M) : SM := fun ρ => (a ρ).bind fun x => (newOb x.1).bind fun o => (b x.2).bind fun y => (newOb y.1).bind fun o2 =>
  (put i (some (.own o)) y.2).bind fun ρ1 => (put j (some (.own o2)) ρ1).map fun ρ2 => (.nx, ρ2)
/-- dict(xs) of a list of pairs -/
def pairK? : PV → Option (Key × PV)
  | .tuple [k, v] => (keyOf k).map fun key => (key, v)
  | _ => none
def dMerge (kvs more : List (Key × PV)) : List (Key × PV) := more.foldl (fun acc kv => dPut acc kv.1 kv.2) kvs
def fDictL (c : Ct) : Option R := c.lst?.bind fun xs => (xs.mapM pairK?).map fun kvs => .new (.dct (dMerge [] kvs))
end Py
/-! PyI: more of dicts. -/
namespace Py
open PySem PySem.Spec PyProof.Rows L2
def del (H : Hp) (p : Addr) : Hp := fun a => if a = p then none else H a
theorem del_ne {H : Hp} {a p : Addr} (h : a ≠ p) : del H p a = H a := if_neg h
theorem del_same {H : Hp} {p : Addr} : del H p p = none := if_pos rfl
section
variable {K : PySem.W.Frag} {H : Hp} {p : Addr} {od : Obj} {ws : List (Key × V)}
theorem del_l (h : H p = some (.frz od (.dK ws))) {a : Addr} {xs : List V} (s : SqL K H a xs) : SqL K (del H p) a xs := by
  rcases s with s | s
  · left
    have ne : a ≠ p := by
      rintro rfl
      rcases s with s | ⟨o, s⟩
      · rw [h] at s; cases s
      · rw [h] at s; cases s
    rcases s with s | ⟨o, s⟩
    · exact .inl (by rw [del_ne ne]; exact s)
    · exact .inr ⟨o, by rw [del_ne ne]; exact s⟩
  · exact .inr s
theorem del_t (h : H p = some (.frz od (.dK ws))) {a : Addr} {xs : List V} (s : SqT K H a xs) : SqT K (del H p) a xs := by
  rcases s with s | s
  · left
    have ne : a ≠ p := by
      rintro rfl
      rcases s with s | ⟨o, s⟩
      · rw [h] at s; cases s
      · rw [h] at s; cases s
    rcases s with s | ⟨o, s⟩
    · exact .inl (by rw [del_ne ne]; exact s)
    · exact .inr ⟨o, by rw [del_ne ne]; exact s⟩
  · exact .inr s
mutual
theorem dp_del (e : H p = some (.frz od (.dK ws))) : ∀ (d : PyData) (v : V), Dp K H v d → Dp K (del H p) v d
  | .none, _, h => by cases h; exact .non
  | .bool b, _, h => by cases h; exact .bl b
  | .int i, _, h => by cases h; exact .int i
  | .str x, _, h => by cases h; exact .str x
  | .list ds, _, h => by
    cases h with
    | lst hs ha => exact .lst (del_l e hs) (dps_del e ds _ ha)
  | .tuple ds, _, h => by
    cases h with
    | tup hs ha => exact .tup (del_t e hs) (dps_del e ds _ ha)
  | .dict _, _, h => by cases h
theorem dps_del (e : H p = some (.frz od (.dK ws))) : ∀ (ds : List PyData) (vs : List V), DpAll K H vs ds → DpAll K (del H p) vs ds
  | [], _, h => by cases h; exact .nil
  | d :: ds, _, h => by
    cases h with
    | cons h1 h2 => exact .cons (dp_del e d _ h1) (dps_del e ds _ h2)
end
theorem kvs_del (e : H p = some (.frz od (.dK ws))) : ∀ {us : List (Key × V)} {kvs : List (Key × PV)}, KvAll K H us kvs → KvAll K (del H p) us kvs
  | _, _, .nil => .nil
  | _, _, .cons r t => .cons (dp_del e _ _ r) (kvs_del e t)
end
section
variable {K : PySem.W.Frag} {Hf H Hf' H' Hf1 H1 Hf2 H2 H0 : Hp} {ρ ρ' ρ1 ρ2 : Env} {σ σ' σ1 σ2 : L2.St} {O O' O1 : Addr → Prop} {X : Cx}
theorem ob_at_set {i : Nat} {s : Sl} {t : Option Sl} (g : get ρ i = some s) (j : Nat) : get (ρ.set i t) j = if i = j then t else get ρ j := by
  rw [get_set]
  have hl := get_lt g
  by_cases h : i = j
  · subst h; rw [if_pos ⟨rfl, hl⟩, if_pos rfl]
  · rw [if_neg fun z => h z.1, if_neg h]
/-- a dict is locked -/
theorem lock_rep {i : Nat} {kvs : List (Key × PV)} {p : Addr} {ws : List (Key × V)} (od : Obj) (E : RepE K Hf H ρ σ) (s : Sl) (g : get ρ i = some s) (ho : isOb (some s) = true) (hs : slot σ i = some (.ref p)) (f : Hf p = none) (hw : H p = some (.dK ws)) (kv : KvAll K Hf ws kvs) :
    RepE K (upd Hf p (.frz od (.dK ws))) (upd H p (.frz od (.dK ws))) (ρ.set i (some (.lck kvs))) σ ∧ (∀ q, Own (ρ.set i (some (.lck kvs))) σ q → Own ρ σ q ∧ q ≠ p) := by
  have oi : OwnAt ρ σ i p := ⟨by rw [g]; exact ho, hs⟩
  have ex : Ex Hf (upd Hf p (.frz od (.dK ws))) := fun a o h => by rw [upd_ne (ne_of_none h f)]; exact h
  have sub : ∀ j q, OwnAt (ρ.set i (some (.lck kvs))) σ j q → OwnAt ρ σ j q ∧ i ≠ j := fun j q ⟨a, b⟩ => by
    rw [ob_at_set g] at a
    by_cases h : i = j
    · rw [if_pos h] at a; cases a
    · rw [if_neg h] at a; exact ⟨⟨a, b⟩, h⟩
  refine ⟨⟨by rw [List.length_set]; exact E.len, fun a o h => ?_, fun j t e => ?_, fun j k q a b => E.dis j k q (sub j q a).1 (sub k q b).1⟩, fun q ⟨j, h⟩ => ⟨⟨j, (sub j q h).1⟩, fun z => (sub j q h).2 (E.dis i j p oi (z ▸ (sub j q h).1))⟩⟩
  · by_cases ha : a = p
    · subst ha; rw [upd_same] at h ⊢; exact h
    · rw [upd_ne ha] at h ⊢; exact E.ff a o h
  · rw [ob_at_set g] at e
    by_cases h : i = j
    · subst h
      rw [if_pos rfl] at e
      cases e
      exact ⟨_, hs, p, rfl, ws, od, upd_same, kvs_mono ex kv⟩
    · rw [if_neg h] at e
      obtain ⟨u, h1, h2⟩ := E.sl j t e
      have np : isOb (some t) = true → ∀ q, u = .ref q → q ≠ p := fun hb q hu z => h (E.dis i j p oi ⟨by rw [e]; exact hb, by rw [h1, hu, z]⟩)
      refine ⟨u, h1, ?_⟩
      cases t with
      | val v => exact dp_mono ex _ _ h2
      | lck kvs2 => obtain ⟨q, e1, us, od2, f2, r2⟩ := h2; exact ⟨q, e1, us, od2, ex q _ f2, kvs_mono ex r2⟩
      | own o =>
        obtain ⟨q, e1, f1, r1⟩ := h2
        have nq := np rfl q e1
        refine ⟨q, e1, by rw [upd_ne nq]; exact f1, ?_⟩
        cases o with
        | lst ys => obtain ⟨vs, a, b⟩ := r1; exact ⟨vs, by rw [upd_ne nq]; exact a, dps_mono ex _ _ b⟩
        | dct ys => obtain ⟨vs, a, b⟩ := r1; exact ⟨vs, by rw [upd_ne nq]; exact a, kvs_mono ex b⟩
      | ref o =>
        obtain ⟨q, e1, f1, r1⟩ := h2
        have nq := np rfl q e1
        refine ⟨q, e1, by rw [upd_ne nq]; exact f1, ?_⟩
        cases o with
        | lst ys => obtain ⟨vs, a, b⟩ := r1; exact ⟨vs, by rw [upd_ne nq]; exact a, dps_mono ex _ _ b⟩
        | dct ys => obtain ⟨vs, a, b⟩ := r1; exact ⟨vs, by rw [upd_ne nq]; exact a, kvs_mono ex b⟩
/-- and unlocked -/
theorem unlock_rep {i : Nat} {kvs kvs1 : List (Key × PV)} {p : Addr} {ws : List (Key × V)} {od : Obj} {s s2 : Sl} (E : RepE K Hf H ρ σ) (g : get ρ i = some s) (hs : slot σ i = some (.ref p)) (f : Hf p = none) (hw : H p = some (.dK ws))
    (hk : s = .own (.dct kvs) ∨ s = .ref (.dct kvs)) (B : BhS K (upd Hf p (.frz od (.dK ws))) (upd H p (.frz od (.dK ws))) (ρ.set i (some (.lck kvs))) σ Hf1 H1 ρ1 σ1) (EL : RepE K (upd Hf p (.frz od (.dK ws))) (upd H p (.frz od (.dK ws))) (ρ.set i (some (.lck kvs))) σ)
    (sub : ∀ q, Own (ρ.set i (some (.lck kvs))) σ q → Own ρ σ q ∧ q ≠ p) (g1 : get ρ1 i = some (.lck kvs1)) (h2 : s2 = .own (.dct kvs1) ∧ (∃ o, s = .own o) ∨ s2 = .ref (.dct kvs1) ∧ ∃ o, s = .ref o) :
    H1 p = some (.frz od (.dK ws)) ∧ BhS K Hf H ρ σ (del Hf1 p) (upd H1 p (.dK ws)) (ρ1.set i (some s2)) σ1 ∧ ∀ r u, RepR K Hf1 H1 (upd H p (.frz od (.dK ws))) σ1 r u → RepR K (del Hf1 p) (upd H1 p (.dK ws)) H σ1 r u := by
  have hob : isOb (some s) = true := by rcases hk with rfl | rfl <;> rfl
  have oi : OwnAt ρ σ i p := ⟨by rw [g]; exact hob, hs⟩
  have ex : Ex Hf (upd Hf p (.frz od (.dK ws))) := fun a o h => by rw [upd_ne (ne_of_none h f)]; exact h
  have fp : Hf1 p = some (.frz od (.dK ws)) := B.st.ff p _ upd_same
  have hp1 : H1 p = some (.frz od (.dK ws)) := B.en.ff p _ fp
  have si : slot σ1 i = some (.ref p) := by
    have := (B.ref i).2 (by rw [ob_at_set g, if_pos rfl]; rfl)
    rw [this]; exact hs
  have kv1 : KvAll K Hf1 ws kvs1 := by
    obtain ⟨u, a, p', e', ws', od', f', k'⟩ := B.en.sl i _ g1
    rw [si] at a
    cases a
    cases e'
    rw [fp] at f'
    cases f'
    exact k'
  have ns2 : isOb (some s2) = true := by rcases h2 with ⟨rfl, _⟩ | ⟨rfl, _⟩ <;> rfl
  have own1 : ∀ j q, OwnAt ρ1 σ1 j q → q ≠ p := fun j q h z => by
    subst z
    obtain ⟨⟨x, hx⟩, hn⟩ := B.en.there ⟨j, h⟩
    rw [hn] at fp; cases fp
  have gs : ∀ j, get (ρ1.set i (some s2)) j = if i = j then some s2 else get ρ1 j := fun j => ob_at_set g1 j
  refine ⟨hp1, ⟨⟨fun a o h => ?_, fun a o h => ?_, fun a o h n => ?_, fun a o h n => ?_, fun a o h => ?_⟩, ⟨?_, fun a o h => ?_, fun j t e => ?_, fun j k q a b => ?_⟩, fun q ⟨j, h⟩ => ?_, fun j => ?_⟩, fun r u h => ?_⟩
  · have na := ne_of_none h f
    rw [del_ne na]; exact B.st.ff a o (by rw [upd_ne na]; exact h)
  · by_cases ha : a = p
    · subst ha; rw [del_same] at h; cases h
    · rw [del_ne ha] at h; rw [upd_ne ha]; exact B.st.fh a o h
  · have na : a ≠ p := fun z => n (z ▸ ⟨i, oi⟩)
    rw [upd_ne na]
    exact B.st.keep a o (by rw [upd_ne na]; exact h) fun z => n (sub a z).1
  · have na : a ≠ p := fun z => n (z ▸ ⟨i, oi⟩)
    rw [del_ne na, B.st.nof a o (by rw [upd_ne na]; exact h) fun z => n (sub a z).1, upd_ne na]
  · by_cases ha : a = p
    · subst ha; exact ⟨_, upd_same⟩
    · rw [upd_ne ha]; exact B.st.dom a o (by rw [upd_ne ha]; exact h)
  · rw [List.length_set]; exact B.en.len
  · by_cases ha : a = p
    · subst ha; rw [del_same] at h; cases h
    · rw [del_ne ha] at h; rw [upd_ne ha]; exact B.en.ff a o h
  · rw [gs] at e
    by_cases h : i = j
    · subst h
      rw [if_pos rfl] at e
      cases e
      refine ⟨_, si, ?_⟩
      have rep : ∃ p', V.ref p = V.ref p' ∧ del Hf1 p p' = none ∧ RepOb K (del Hf1 p) (upd H1 p (.dK ws)) p' (.dct kvs1) := ⟨p, rfl, del_same, ws, upd_same, kvs_del fp kv1⟩
      rcases h2 with ⟨rfl, _⟩ | ⟨rfl, _⟩ <;> exact rep
    · rw [if_neg h] at e
      obtain ⟨u, a1, a2⟩ := B.en.sl j t e
      refine ⟨u, a1, ?_⟩
      cases t with
      | val v => exact dp_del fp _ _ a2
      | own o =>
        obtain ⟨q, e1, f1, r1⟩ := a2
        have nq := own1 j q ⟨by rw [e]; rfl, by rw [a1, e1]⟩
        refine ⟨q, e1, by rw [del_ne nq]; exact f1, ?_⟩
        cases o with
        | lst ys => obtain ⟨vs, a, b⟩ := r1; exact ⟨vs, by rw [upd_ne nq]; exact a, dps_del fp _ _ b⟩
        | dct ys => obtain ⟨vs, a, b⟩ := r1; exact ⟨vs, by rw [upd_ne nq]; exact a, kvs_del fp b⟩
      | ref o =>
        obtain ⟨q, e1, f1, r1⟩ := a2
        have nq := own1 j q ⟨by rw [e]; rfl, by rw [a1, e1]⟩
        refine ⟨q, e1, by rw [del_ne nq]; exact f1, ?_⟩
        cases o with
        | lst ys => obtain ⟨vs, a, b⟩ := r1; exact ⟨vs, by rw [upd_ne nq]; exact a, dps_del fp _ _ b⟩
        | dct ys => obtain ⟨vs, a, b⟩ := r1; exact ⟨vs, by rw [upd_ne nq]; exact a, kvs_del fp b⟩
      | lck kvs2 =>
        obtain ⟨q, e1, us, od2, f2, r2⟩ := a2
        obtain ⟨b1, b2⟩ := B.ref j
        have rj : isRef (get (ρ.set i (some (.lck kvs))) j) = true := by rw [← b1, e]; rfl
        have sj := b2 rj
        rw [a1, e1] at sj
        have nq : q ≠ p := by
          rw [ob_at_set g, if_neg h] at rj
          cases gj : get ρ j with
          | none => rw [gj] at rj; cases rj
          | some s3 =>
            cases s3 with
            | val v => rw [gj] at rj; cases rj
            | own o => rw [gj] at rj; cases rj
            | ref o => exact fun z => h (E.dis i j p oi ⟨by rw [gj]; rfl, by rw [← sj, z]⟩)
            | lck k3 =>
              obtain ⟨u3, c1, q3, c2, us3, od3, f3, _⟩ := E.sl j _ gj
              rw [← sj] at c1
              cases c1
              cases c2
              rintro rfl
              rw [f] at f3; cases f3
        exact ⟨q, e1, us, od2, by rw [del_ne nq]; exact f2, kvs_del fp r2⟩
  · have key : ∀ j q, OwnAt (ρ1.set i (some s2)) σ1 j q → (i = j ∧ q = p) ∨ (i ≠ j ∧ OwnAt ρ1 σ1 j q) := fun j q ⟨a, b⟩ => by
      by_cases h : i = j
      · subst h; rw [si] at b; cases b; exact .inl ⟨rfl, rfl⟩
      · rw [gs, if_neg h] at a; exact .inr ⟨h, a, b⟩
    rcases key j q a with ⟨rfl, rfl⟩ | ⟨n1, o1⟩ <;> rcases key k q b with ⟨rfl, e2⟩ | ⟨n2, o2⟩
    · rfl
    · exact absurd rfl (own1 k _ o2)
    · exact absurd e2 (own1 j _ o1)
    · exact B.en.dis j k q o1 o2
  · by_cases hj : i = j
    · subst hj
      have := h.2
      rw [si] at this
      cases this
      exact .inl ⟨i, oi⟩
    · have h' : OwnAt ρ1 σ1 j q := ⟨by have := h.1; rw [gs, if_neg hj] at this; exact this, h.2⟩
      rcases B.own q ⟨j, h'⟩ with z | z
      · exact .inl (sub q z).1
      · right
        have nq : q ≠ p := own1 j q h'
        rwa [upd_ne nq] at z
  · rw [gs]
    by_cases hj : i = j
    · subst hj
      rw [if_pos rfl, g]
      refine ⟨?_, fun _ => by rw [si, hs]⟩
      rcases h2 with ⟨rfl, o, rfl⟩ | ⟨rfl, o, rfl⟩ <;> rfl
    · rw [if_neg hj]
      have := B.ref j
      rwa [ob_at_set g, if_neg hj] at this
  · cases r with
    | val v => exact dp_del fp _ _ h
    | bor j => exact h
    | new o =>
      obtain ⟨q, e1, z, f1, r1⟩ := h
      have nq : q ≠ p := by rintro rfl; rw [upd_same] at z; cases z
      rw [upd_ne nq] at z
      refine ⟨q, e1, z, by rw [del_ne nq]; exact f1, ?_⟩
      cases o with
      | lst ys => obtain ⟨vs, a, b⟩ := r1; exact ⟨vs, by rw [upd_ne nq]; exact a, dps_del fp _ _ b⟩
      | dct ys => obtain ⟨vs, a, b⟩ := r1; exact ⟨vs, by rw [upd_ne nq]; exact a, kvs_del fp b⟩
theorem ss_lock {i : Nat} {ts : TS} {m : SM} (h : SS K ts m) : SS K (tLock ts) (sLock i m) := by
  intro ρ f ρ' σ Hf H hm E D q
  simp only [sLock, Option.bind_eq_some_iff, Option.map_eq_some_iff, Prod.mk.injEq] at hm
  obtain ⟨ρL, e1, ⟨f1, ρ1⟩, e2, ρ2, e3, rfl, rfl⟩ := hm
  dsimp only at e3
  obtain ⟨kvs, s, g, hk, rfl⟩ : ∃ kvs s, get ρ i = some s ∧ (s = .own (.dct kvs) ∨ s = .ref (.dct kvs)) ∧ ρL = ρ.set i (some (.lck kvs)) := by
    unfold lockE at e1
    split at e1
    · cases e1; exact ⟨_, _, by assumption, .inl rfl, rfl⟩
    · cases e1; exact ⟨_, _, by assumption, .inr rfl, rfl⟩
    · cases e1
  obtain ⟨kvs1, s2, g1, hk2, rfl⟩ : ∃ kvs1 s2, get ρ1 i = some (.lck kvs1) ∧ (s2 = .own (.dct kvs1) ∧ (∃ o, s = .own o) ∨ s2 = .ref (.dct kvs1) ∧ ∃ o, s = .ref o) ∧ ρ2 = ρ1.set i (some s2) := by
    unfold unlockE at e3
    rw [g] at e3
    split at e3
    · rename_i a b; cases b; cases e3; exact ⟨_, _, a, .inl ⟨rfl, _, rfl⟩, rfl⟩
    · rename_i a b; cases b; cases e3; exact ⟨_, _, a, .inr ⟨rfl, _, rfl⟩, rfl⟩
    · cases e3
  obtain ⟨u, hs, rs⟩ := E.sl i s g
  obtain ⟨p, rfl, fp, ws, hw, kv⟩ : ∃ p, u = .ref p ∧ Hf p = none ∧ ∃ ws, H p = some (.dK ws) ∧ KvAll K Hf ws kvs := by
    rcases hk with rfl | rfl <;> exact rs
  refine ⟨p, _, hw, True.intro, fun od => ?_⟩
  obtain ⟨EL, sub⟩ := lock_rep (i := i) (kvs := kvs) od E s g (by rcases hk with rfl | rfl <;> rfl) hs fp hw kv
  refine h _ f1 ρ1 σ _ _ e2 EL _ fun σ' Hf' H' B => ?_
  obtain ⟨x1, x2, x3⟩ := unlock_rep E g hs fp hw hk B EL sub g1 hk2
  have q' := q σ' _ _ x2
  cases f1 with
  | nx => exact ⟨x1, q'⟩
  | bk => exact ⟨x1, q'⟩
  | ct => exact ⟨x1, q'⟩
  | rt r => exact fun u hu => ⟨x1, q' u (x3 r u hu)⟩
theorem kvs_at : ∀ {ws : List (Key × V)} {kvs : List (Key × PV)} (j : Nat), KvAll K Hf ws kvs → (ws[j]?).map (·.1) = (kvs[j]?).map (·.1)
  | _, _, _, .nil => rfl
  | _, _, 0, .cons _ _ => rfl
  | _, _, j + 1, .cons _ t => by simpa using kvs_at j t
theorem keyPV_ok (k : Key) : Dp K Hf (kV k) (keyPV k) := by
  cases k with
  | inl i => exact .int i
  | inr s => exact .str s
theorem si_keysL (i : Nat) : SI K (iKeys (tVar i)) (iKeysL i) := by
  intro ρ xs ρ' σ Hf H hm E R q
  unfold iKeysL at hm
  split at hm
  · rename_i kvs g
    cases hm
    obtain ⟨u, hs, p, rfl, ws, od, f, kv⟩ := E.sl i _ g
    refine ⟨_, slot_at hs, p, od, rfl, .inl ⟨ws, E.ff p _ f, q _ Hf H (.refl E) ?_⟩⟩
    intro Hf2 H2 S j
    have f2 : H2 p = some (.frz od (.dK ws)) := S.fh p _ (S.ff p _ f)
    have hl := kvs_len kv
    constructor
    · intro x hx
      have hlt : j < kvs.length := by
        have := (List.getElem?_eq_some_iff.mp hx).1
        simpa using this
      refine ⟨⟨f2, by rw [hl]; exact hlt⟩, fun u H3 ⟨e, k, v, e1, e2⟩ => ⟨e, ?_⟩⟩
      have e3 := kvs_at j kv
      rw [e1] at e3
      rw [List.getElem?_map, List.getElem?_eq_getElem hlt] at hx
      rw [List.getElem?_eq_getElem hlt] at e3
      simp only [Option.map_some, Option.some.injEq] at hx e3
      rw [← hx, ← e3, e2]
      exact keyPV_ok k
    · intro hle
      exact ⟨f2, by rw [hl]; simpa using hle⟩
  · cases hm
end
end Py
/-! PyJ: more of dicts, in the text. -/
namespace L2
open PySem PySem.Spec PyProof.Rows
section
variable {X : Cx}
/-- sorted(d) of a dict whose keys are ints -/
theorem call_sortedDA (hcalm : X.calm = true) : CallR X (.builtin "sorted") (fun xs H Q => ∃ (a : Addr) (kvs : List (Key × V)) (ks : List Int), xs = [.ref a] ∧ Rd H a (.dK kvs) ∧ kvs.map (·.1) = ks.map Sum.inl ∧
    ∀ (ys : List Int) (p : Addr), ys.Perm ks → ys.Pairwise (· ≤ ·) → H p = none → Q (.ref p) (upd H p (.lst (ys.map V.int)))) := by
  intro pins s σ H xs us Q I r q
  obtain ⟨a, kvs, ks, ex, hd, hks, q⟩ := q
  subst ex
  obtain ⟨u, eu, rx⟩ := vals1 r
  subst eu
  cases rx
  obtain ⟨z, lo, vs, rel, dd⟩ := dk_rd I.hok hd
  obtain ⟨ep, hat⟩ := dd.dictAt
  have hkeys : vs.map (·.1) = ks.map Sum.inl := rel.keys.symm.trans hks
  have hl : vs.length = ks.length := by
    have e := congrArg List.length hkeys
    rw [List.length_map, List.length_map] at e
    exact e
  have hzk : ks.length ≤ sizeLine := by rw [← hl, ← rel.length]; exact z
  have h16 : vs.length ≤ sizeLine := by rw [hl]; exact hzk
  refine Calls.call_function_entry PyProof.Rows.kind_sorted PyProof.Rows.plain_sorted PyProof.Rows.entry_sorted (PyProof.Rows.args_sorted1 _) ?_
  unfold Builtin.«sorted»
  refine wpAny_bind (m := checkCount "sorted" 1 1 _) (wpAny_pure ?_)
  refine wpAny_bind (PySem.W.kdu_collect (A := X.A.in1) (PySem.W.kdl_dict (knd := mixKind X.prog X.w) (kvs := vs) (ep := ep) lo) (I.ok.hd hcalm) hat h16 fun h' tk acc hk hacc => ?_)
  have hal : acc.toList.length = ks.length := by rw [Array.length_toList, hacc.1, hl]
  have hS : IntsAre acc.toList ks := ints_each hal fun j v e => by
    obtain ⟨k, x, e1, e2⟩ := hacc.2 j v (by rw [← Array.getElem?_toList]; exact e)
    have e3 : (vs.map (·.1))[j]? = some k := by rw [List.getElem?_map, e1]; rfl
    rw [hkeys, List.getElem?_map] at e3
    cases e4 : ks[j]? with
    | none => rw [e4] at e3; cases e3
    | some y =>
      rw [e4] at e3
      have e5 : Sum.inl y = k := Option.some.inj e3
      subst e5
      rcases keyIs_shape (show keyIs (Sum.inl y) v = true from e2) with ⟨i, t, ek, ev⟩ | ⟨z, t, ek, ev⟩
      · cases ek
        exact ⟨y, t, rfl, ev⟩
      · cases ek
  have I1 : Inv X pins σ H { s with heap := h', toks := tk } := I.kept hk
  refine wpAny_bind (wpAny_newList ?_ (by rw [hal]; exact hzk))
  have hoL : (h'.push (seqObj "list" acc.toList.toArray 0)).get? h'.objs.size = some (seqObj "list" acc.toList.toArray 0) := Heap.get?_push_size _ rfl
  show wpAny _ _ _ _ _ { s with heap := h'.push (seqObj "list" acc.toList.toArray 0), toks := tk }
  refine wpAny_bind (wpAny_holding (wpAny_call_entry PyProof.Rows.slot_list_sort ⟨_, hoL, rfl⟩ PyProof.Rows.entry_list_sort
    (SrtO.list_sort_ord (s := { s with heap := h'.push (seqObj "list" acc.toList.toArray 0), toks := tk }) SrtO.swo_int hoL (by rw [hal]; exact hzk) (fun h2 => SrtO.ints_sortable hS h2) fun out g1 g2 => ⟨_, rfl, ?_⟩) (PyProof.Rows.args_list_sort _)))
  obtain ⟨k1, k2, k3⟩ := SrtO.ints_out hS g1 g2
  obtain ⟨e', he'⟩ := PyProof.Rows.sortedHeap_at (vs := acc.toList) (out := out.toArray) hoL
  have hlen : ((out.map SrtO.iv).map V.int).length ≤ sizeLine := by
    rw [List.length_map, k2.length_eq]
    exact hzk
  refine wpAny_pure ⟨_, rfl, .ref h'.objs.size, upd H h'.objs.size (.lst ((out.map SrtO.iv).map V.int)), I1.laid (t' := tk) (fun b u e => ?_) (Nat.le_refl _)
    (show ObjOk X.prog X.w _ _ _ (.lst ((out.map SrtO.iv).map V.int)) from ⟨hlen, out, e', vals_of_ints k1, he'⟩), rfl, q _ _ k2 k3 (I1.hok.fresh (Nat.le_refl _))⟩
  have hb : b < h'.objs.size := Heap.lt_size e
  rw [PyProof.Rows.sortedHeap_old (Nat.ne_of_lt hb) (by rw [size_push']; exact Nat.lt_succ_of_lt hb)]
  exact Heap.get?_push_of_some _ e
end
end L2
namespace Py
open PySem PySem.Spec PyProof.Rows L2
section
variable {K : PySem.W.Frag} {Hf H Hf' H' Hf1 H1 Hf2 H2 H0 : Hp} {ρ ρ' ρ1 ρ2 : Env} {σ σ' σ1 σ2 : L2.St} {O O' O1 : Addr → Prop} {X : Cx}
theorem newD (e : Ex Hf H) {ws : List (Key × V)} {kvs : List (Key × PV)} (d : KvAll K Hf ws kvs) {Q : VK} (q : ∀ u Hf' H', Step Nobody Hf H Hf' H' → RepR K Hf' H' H [] (.new (.dct kvs)) u → Q u H') : ∀ p, H p = none → Q (.ref p) (upd H p (.dK ws)) := fun p hp => by
  obtain ⟨S, fp⟩ := new_ob (o := .dK ws) e hp
  exact q _ _ _ S ⟨p, rfl, hp, fp, ws, upd_same, d⟩
theorem intK_all : ∀ {ws : List (Key × V)} {kvs : List (Key × PV)} {ns : List Int}, KvAll K Hf ws kvs → (kvs.mapM fun kv => intK kv.1) = some ns → ws.map (·.1) = ns.map Sum.inl
  | _, _, _, .nil, h => by cases h; rfl
  | _, _, ns, .cons (k := k) r t, h => by
    simp only [List.mapM_cons, Option.bind_eq_bind, Option.bind_eq_some_iff] at h
    obtain ⟨n, h1, ms, h2, h3⟩ := h
    cases h3
    cases k with
    | inl i => cases h1; rw [List.map_cons, List.map_cons, intK_all t h2]
    | inr s => cases h1
theorem c_sortedD (hc : X.calm = true) : C1 X (.builtin "sorted") fSortedD := ⟨_, call_sortedDA hc, fun Hf H c x z e hcc e5 Q q => by
  unfold fSortedD at e5
  split at e5
  · simp only [Option.map_eq_some_iff] at e5
    obtain ⟨ns, h1, rfl⟩ := e5
    obtain ⟨p, rfl, ws, hw, kw⟩ := hcc
    refine ⟨p, ws, ns, rfl, hw, intK_all kw h1, fun ns' p h3 h4 hp => ?_⟩
    rw [pw_perm_eq (h3.trans (isort_perm ns).symm) h4 (isort_sorted ns)]
    exact newL e (dps_ints _) q p hp
  · cases e5⟩
/-- dict(xs) of pairs -/
theorem kvs_merge {ms : List (Key × V)} {more : List (Key × PV)} (h : KvAll K Hf ms more) : ∀ {ws : List (Key × V)} {kvs : List (Key × PV)}, KvAll K Hf ws kvs → KvAll K Hf (mergeK ws ms) (dMerge kvs more) := by
  induction h with
  | nil => exact fun h => h
  | cons r t ih => exact fun h => ih (kvs_put _ h r)
theorem pairs_ok (e : Ex Hf H) : ∀ {us : List V} {xs : List PV} {kvs : List (Key × PV)}, DpAll K Hf us xs → xs.mapM pairK? = some kvs → ∃ (ps : List Addr) (ws : List (Key × V)), us = ps.map V.ref ∧ Paired (fun p kv => SqT K H p [kV kv.1, kv.2]) ps ws ∧ KvAll K Hf ws kvs
  | _, _, _, .nil, h => by cases h; exact ⟨[], [], rfl, .nil, .nil⟩
  | _, _, _, .cons (v := u) (d := x) r t, h => by
    simp only [List.mapM_cons, Option.bind_eq_bind, Option.bind_eq_some_iff] at h
    obtain ⟨kv, h1, ms, h2, h3⟩ := h
    cases h3
    obtain ⟨ps, ws, rfl, hp, hk⟩ := pairs_ok e t h2
    unfold pairK? at h1
    split at h1
    · rename_i k v
      simp only [Option.map_eq_some_iff] at h1
      obtain ⟨key, h4, rfl⟩ := h1
      cases r with
      | tup hs ha =>
        rename_i a us
        cases ha with
        | cons r1 ha =>
          cases ha with
          | cons r2 ha =>
            cases ha
            have ek := keyOf_ok h4 r1
            subst ek
            exact ⟨_ :: ps, (key, _) :: ws, rfl, .cons (ex_t e hs) hp, .cons r2 hk⟩
    · cases h1
theorem c_dictL (hc : X.calm = true) : C1 X (.type "dict") fDictL := ⟨_, call_dictP hc, fun Hf H c x z e hcc e5 Q q => by
  simp only [fDictL, Option.bind_eq_some_iff, Option.map_eq_some_iff] at e5
  obtain ⟨xs, h1, kvs, h2, rfl⟩ := e5
  obtain ⟨a, us, rfl, hs, d⟩ := lst_ok e hcc h1
  obtain ⟨ps, ws, rfl, hp, hk⟩ := pairs_ok e d h2
  exact ⟨a, ps, ws, rfl, hs, hp, newD e (kvs_merge hk .nil) q⟩⟩
/-- {a: b}, ints -/
theorem be_dctC {a b : Int} {ka kb : Nat} {pa pb pos : Pos} : BE X (.Dict [some (.Constant (.int a) ka pa)] [.Constant (.int b) kb pb] pos) (mDctC [(a, b)]) := by
  refine ⟨_, pe_disp (pps_cons pe_int pe_int pps_nil) rfl rfl (by simp) (by simp), fun ρ r ρ' σ Hf H hm E Q q => ?_⟩
  cases hm
  intro p hp
  refine ⟨upd_same, [(.inl a, .int b)], rfl, by simp, ?_⟩
  rw [upd_upd]
  obtain ⟨S, fp⟩ := new_ob (o := .dK [(.inl a, .int b)]) E.ff hp
  exact q _ Hf _ (S.weak fun _ h => h.elim) (E.step S fun _ _ h => h) ⟨p, rfl, hp, fp, _, upd_same, .cons (.int b) .nil⟩ .refl
theorem isDct_ok {c : Ct} {u : V} (h : isDct c = true) (r : RepC K Hf H c u) : ∃ a, u = .ref a ∧ IsD H a := by
  unfold isDct at h
  split at h
  · obtain ⟨p, rfl, ws, hw, _⟩ := r; exact ⟨p, rfl, .inl ⟨_, hw⟩⟩
  · cases h
theorem se_dgetD {td tk tv : TE} {d k v : M} (hd : SE K td d) (hk : SE K tk k) (hv : SE K tv v) : SE K (tDGet2 td tk tv) (mDgetD d k v) := by
  intro ρ r ρ' σ Hf H hm E Q q
  simp only [mDgetD, Option.bind_eq_some_iff] at hm
  obtain ⟨⟨x, ρ1⟩, e1, c0, e2, e3⟩ := hm
  split at e3
  case isFalse => cases e3
  rename_i hdc
  simp only [Option.bind_eq_some_iff] at e3
  obtain ⟨⟨y, ρ2⟩, e4, ck, e5, key, e6, ⟨z, ρ3⟩, e7, c, e8, e9⟩ := e3
  refine hd ρ x ρ1 σ Hf H e1 E _ fun u Hf1 H1 S1 E1 R1 k1 => ?_
  have B1 : Bh K Hf H ρ σ Hf1 H1 ρ1 := ⟨S1, E1, k1⟩
  obtain ⟨a, rfl, ha⟩ := isDct_ok hdc (look_ok E1 R1 e2)
  refine ⟨a, rfl, ha, ?_⟩
  refine hk ρ1 y ρ2 σ Hf1 H1 e4 E1 _ fun w Hf2 H2 S2 E2 R2 k2 => ?_
  have B2 : Bh K Hf1 H1 ρ1 σ Hf2 H2 ρ2 := ⟨S2, E2, k2⟩
  have ey := keyC_ok e6 (look_ok E2 R2 e5)
  subst ey
  refine hv ρ2 z ρ3 σ Hf2 H2 e7 E2 _ fun t Hf3 H3 S3 E3 R3 k3 => ?_
  have B3' : Bh K Hf2 H2 ρ2 σ Hf3 H3 ρ3 := ⟨S3, E3, k3⟩
  have B3 := (B1.trans B2).trans B3'
  have R1' := B1.keepR E (B2.trans B3') R1
  have hx := look_ok E3 R1' e8
  split at e9
  · rename_i kvs w0 hzz
    cases e9
    dsimp only at hzz
    subst hzz
    obtain ⟨p, ep, ws, hw, kw⟩ := hx
    cases ep
    obtain ⟨g1, g2⟩ := kvs_get key kw
    refine ⟨valV ws key, .inl ⟨_, _, hw, rfl, rfl⟩, ?_⟩
    have hz : Dp K Hf3 t w0 := R3
    cases hg : dGet kvs key with
    | none =>
      rw [g2 hg]
      rw [hg] at q
      exact q _ Hf3 H3 B3.st B3.en hz B3.kp
    | some d =>
      obtain ⟨u', h1, h2⟩ := g1 d hg
      rw [h1]
      rw [hg] at q
      exact q _ Hf3 H3 B3.st B3.en h2 B3.kp
  · cases e9
theorem se_count {td tk : TE} {a b : M} (ha : SE K td a) (hb : SE K tk b) : SE K (tBM K "list" (rCntI K) td (tCons tk tNil)) (mCount a b) := by
  intro ρ r ρ' σ Hf H hm E Q q
  simp only [mCount, Option.bind_eq_some_iff, Option.map_eq_some_iff, Prod.mk.injEq] at hm
  obtain ⟨⟨x, ρ1⟩, e1, c0, f1, ys, f2, ⟨y, ρ2⟩, e2, cx, e3, cy, e4, z, e5, rfl, rfl⟩ := hm
  refine ha ρ x ρ1 σ Hf H e1 E _ fun u Hf1 H1 S1 E1 R1 k1 => ?_
  have B1 : Bh K Hf H ρ σ Hf1 H1 ρ1 := ⟨S1, E1, k1⟩
  obtain ⟨p0, us0, eu0, hs0, _⟩ := lst_ok E1.ff (look_ok E1 R1 f1) f2
  subst eu0
  refine ⟨.inl ⟨rfl, us0, hs0⟩, ?_⟩
  refine hb ρ1 y ρ2 σ Hf1 H1 e2 E1 _ fun w Hf2 H2 S2 E2 R2 k2 => ?_
  have B2 : Bh K Hf1 H1 ρ1 σ Hf2 H2 ρ2 := ⟨S2, E2, k2⟩
  have R1' := B1.keepR E B2 R1
  have hx := look_ok E2 R1' e3
  have hy := look_ok E2 R2 e4
  have B3 := B1.trans B2
  unfold fCountI at e5
  split at e5
  · simp only [Option.bind_eq_some_iff, Option.map_eq_some_iff] at e5
    obtain ⟨xs, h1, ns, h2, rfl⟩ := e5
    obtain ⟨p, us, ep, hs, da⟩ := lst_ok E2.ff hx h1
    rw [ints_ok h2 da] at hs
    cases hy
    exact ⟨p, ns, _, ep, rfl, hs, q _ Hf2 H2 B3.st B3.en (.int _) B3.kp⟩
  · cases e5
/-- a = b, b a dict that is moved -/
theorem ss_move {i j : Nat} : SS K (tAsg (tVar j) (L2.gName i)) (sMove i j) := by
  intro ρ f ρ' σ Hf H hm E D q
  unfold sMove at hm
  split at hm
  · rename_i kvs g
    simp only [Option.map_eq_some_iff, Prod.mk.injEq] at hm
    obtain ⟨ρ1, e1, rfl, rfl⟩ := hm
    obtain ⟨u, hs, p, rfl, fp, rp⟩ := E.sl j _ g
    refine ⟨_, slot_at hs, ?_⟩
    have oj : OwnAt ρ σ j p := ⟨by rw [g]; rfl, hs⟩
    have sub : ∀ k r, OwnAt (ρ.set j none) σ k r → OwnAt ρ σ k r ∧ j ≠ k := fun k r ⟨a, b⟩ => by
      rw [ob_at_set g] at a
      by_cases h : j = k
      · rw [if_pos h] at a; cases a
      · rw [if_neg h] at a; exact ⟨⟨a, b⟩, h⟩
    have E0 : RepE K Hf H (ρ.set j none) σ := ⟨by rw [List.length_set]; exact E.len, E.ff, fun k s e => by
      rw [ob_at_set g] at e
      by_cases h : j = k
      · rw [if_pos h] at e; cases e
      · rw [if_neg h] at e; exact E.sl k s e, fun a b r x y => E.dis a b r (sub a r x).1 (sub b r y).1⟩
    have np : ¬ Own (ρ.set j none) σ p := fun ⟨k, h⟩ => (sub k p h).2 (E.dis j k p oj (sub k p h).1)
    obtain ⟨E1, h1, _, h3⟩ := put_ok (s := .own (.dct kvs)) (u := .ref p) E0 e1 ⟨p, rfl, fp, rp⟩ fun p' _ h => by cases h; exact np
    refine q _ Hf H ⟨.refl E.ff, E1, fun r hr => ?_, fun k => ?_⟩
    · rcases h1 r hr with ⟨k, z⟩ | z
      · exact .inl ⟨k, (sub k r z).1⟩
      · cases z.2; exact .inl ⟨j, oj⟩
    · obtain ⟨a1, a2⟩ := h3 k rfl
      rw [ob_at_set g] at a1 a2
      by_cases h : j = k
      · subst h
        rw [if_pos rfl] at a1
        rw [g, a1]
        exact ⟨rfl, fun z => by cases z⟩
      · rw [if_neg h] at a1 a2
        exact ⟨a1, a2⟩
  · cases hm
theorem ss_parN {i j : Nat} {ta tb : TE} {a b : M} (ha : SE K ta a) (hb : SE K tb b) : SS K (tPar i j (tCons ta (tCons tb tNil))) (sParN i j a b) := by
  intro ρ f ρ' σ Hf H hm E D q
  simp only [sParN, Option.bind_eq_some_iff, Option.map_eq_some_iff, Prod.mk.injEq] at hm
  obtain ⟨⟨x, ρ1⟩, e1, o, e2, ⟨y, ρ3⟩, e3, o2, e4, ρ5, e5, ρ6, e6, rfl, rfl⟩ := hm
  have nw : ∀ {r : R} {o : Ob}, newOb r = some o → r = .new o := fun {r o} h => by
    unfold newOb at h
    split at h
    · cases h; rfl
    · cases h
  have ex := nw e2
  have ey := nw e4
  dsimp only at ex ey
  subst ex ey
  refine ha ρ _ ρ1 σ Hf H e1 E _ fun u Hf1 H1 S1 E1 R1 k1 => ?_
  have B1 : Bh K Hf H ρ σ Hf1 H1 ρ1 := ⟨S1, E1, k1⟩
  refine hb ρ1 _ ρ3 σ Hf1 H1 e3 E1 _ fun u2 Hf3 H3 S3 E3 R3 k3 => ?_
  have B3' : Bh K Hf1 H1 ρ1 σ Hf3 H3 ρ3 := ⟨S3, E3, k3⟩
  have B3 := B1.trans B3'
  obtain ⟨p, rfl, z1, f1, r1⟩ := B1.keepR E B3' R1
  obtain ⟨p2, rfl, z2, f2, r2⟩ := R3
  have z2' : H p2 = none := B1.fresh z2
  have ne : p2 ≠ p := by
    rintro rfl
    obtain ⟨_, _, _, _, r⟩ := R1
    rename_i e' _ _
    cases e'
    obtain ⟨w, hw⟩ := r.there
    rw [z2] at hw; cases hw
  have np : ¬ Own ρ3 σ p := fun h => B3.no E p h z1
  obtain ⟨E5, h1, _, h3⟩ := put_ok (s := .own o) (u := .ref p) B3.en e5 ⟨p, rfl, f1, r1⟩ fun p' _ h => by cases h; exact np
  have np2 : ¬ Own ρ5 (σ.set i (some (.ref p))) p2 := fun h => by
    rcases h1 p2 h with w | w
    · exact B3.no E p2 w z2'
    · cases w.2; exact ne rfl
  obtain ⟨E6, h4, _, h6⟩ := put_ok (s := .own o2) (u := .ref p2) E5 e6 ⟨p2, rfl, f2, r2⟩ fun p' _ h => by cases h; exact np2
  refine ⟨_, _, rfl, q _ Hf3 H3 ⟨B3.st, E6, fun r hr => ?_, fun l => ?_⟩⟩
  · rcases h4 r hr with w | w
    · rcases h1 r w with w | w
      · exact .inl (B3.kp.sub w)
      · cases w.2; exact .inr z1
    · cases w.2; exact .inr z2'
  · obtain ⟨a1, a2⟩ := h3 l rfl
    obtain ⟨b1, b2⟩ := h6 l rfl
    have c := B3.kp.ref l
    exact ⟨b1.trans (a1.trans c), fun h => (b2 (a1.trans (c.trans h))).trans (a2 (c.trans h))⟩
end
section
variable {X : Cx} {a b e f : Expr} {ma mb me mf : M} {x y : Str} {p p' apos pos pos' : Pos} {st : Stmt} {m : SM}
theorem bs_lock (i : Nat) (h : BS X st m) : BS X st (sLock i m) := let ⟨t, h1, h2⟩ := h; ⟨_, ps_lock h1, ss_lock h2⟩
theorem bi_keysL (i : Nat) {tg : Expr} (ho : PE X (.Name x p) (tVar i)) : BI X tg (.Name x p) (iKeysL i) := ⟨_, pi_keys ho, si_keysL i⟩
theorem be_dgetD (hu : X.A.units + 64 < cLine) (ha : BE X a ma) (he : BE X e me) (hf : BE X f mf) (hbase : attributeBase a "get" X.env (eval a X.env) = eval a X.env := by rfl)
    (hfew : ((backTo pos (starEach [e, f] X.env)).all (fun x => !x.1) && (backToKw pos (keywordEach [] X.env)).all (fun x => x.1.isSome) && decide (([e, f] : List Expr).length + ([] : List Keyword).length + (if ([] : List Keyword).isEmpty then 0 else 1) < 30)) = true := by rfl)
    (hline : (apos.endLine == pos.line) = true := by rfl) (hs : backTo pos (starEach [e, f] X.env) = [(false, eval e X.env), (false, eval f X.env)] := by rfl) :
    BE X (.Call (.Attribute a "get" apos) [e, f] [] pos) (mDgetD ma me mf) := by
  obtain ⟨t, a1, a2⟩ := ha
  obtain ⟨u, b1, b2⟩ := he
  obtain ⟨w, c1, c2⟩ := hf
  exact ⟨_, pe_dget2 (by omega) a1 b1 c1 ⟨hbase, hfew, hline, hs⟩, se_dgetD a2 b2 c2⟩
theorem be_count (ha : BE X a ma) (hb : BE X b mb) (hbase : attributeBase a "count" X.env (eval a X.env) = eval a X.env := by rfl)
    (hfew : ((backTo pos (starEach [b] X.env)).all (fun x => !x.1) && (backToKw pos (keywordEach [] X.env)).all (fun x => x.1.isSome) && decide (([b] : List Expr).length + ([] : List Keyword).length + (if ([] : List Keyword).isEmpty then 0 else 1) < 30)) = true := by rfl)
    (hline : (apos.endLine == pos.line) = true := by rfl) (hs : starEach [b] X.env = (false, eval b X.env) :: starEach [] X.env := by rfl) (hp : (backTo pos (starEach [] X.env)).any (·.1) = false := by rfl) :
    BE X (.Call (.Attribute a "count" apos) [b] [] pos) (mCount ma mb) := by
  obtain ⟨t, a1, a2⟩ := ha
  obtain ⟨u, b1, b2⟩ := hb
  exact ⟨_, pe_bm PySem.F.plainAttrs_list PySem.F.slot_list_count PySem.F.type_list_count mt_lcount a1 (pa_cons b1 pa_nil hs) hbase hfew hline hs hp, se_count a2 b2⟩
theorem bs_parN (i j : Nat) {k k2 pt pt2} (hc : X.calm = true) (hN : X.N.Nodup) (ha : BE X a ma) (hb : BE X b mb) (hij : i ≠ j := by decide) (hi : X.N[i]? = some x := by rfl) (hj : X.N[j]? = some y := by rfl) (hx : X.env.scope.names.lookup x = some .local := by rfl) (hy : X.env.scope.names.lookup y = some .local := by rfl)
    (h1 : starEach [a, b] X.env = (false, eval a X.env) :: starEach [b] X.env := by rfl) (h2 : starEach [b] X.env = (false, eval b X.env) :: starEach [] X.env := by rfl)
    (hw : swappedStores [.Tuple [.Name x p, .Name y p'] k pt] (.Tuple [a, b] k2 pt2) X.env = pure (some [x, y]) := by rfl) (hs : swapsWithSole [.Tuple [.Name x p, .Name y p'] k pt] (.Tuple [a, b] k2 pt2) pos.line X.env = pure false := by rfl) :
    BS X (.Assign [.Tuple [.Name x p, .Name y p'] k pt] (.Tuple [a, b] k2 pt2) pos) (sParN i j ma mb) := by
  obtain ⟨t, a1, a2⟩ := ha
  obtain ⟨u, b1, b2⟩ := hb
  exact ⟨_, ps_par hc hN hi hj hij hx hy (pa_cons a1 (pa_cons b1 pa_nil h2) h1) hw hs, ss_parN a2 b2⟩
end
section
variable {X : Cx} {x y : Str} {p p' pos : Pos}
theorem bs_move (i j : Nat) (hN : X.N.Nodup) (ho : PE X (.Name y p) (tVar j)) (hi : X.N[i]? = some x := by rfl) (hx : Loc X.env.scope x := by first | exact Or.inl rfl | exact Or.inr rfl) (hs : swapsWith (.Name y p) (some (.Name x p')) pos.line X.env = pure false := by rfl)
    (hf : X.fn x = true ∨ X.env.scope.names.lookup x = some .local := by first | exact .inl rfl | exact .inr rfl | assumption) : BS X (.Assign [.Name x p'] (.Name y p) pos) (sMove i j) := ⟨_, ps_set hN hi hx ho hs hf, ss_move⟩
end
theorem bt_dict : bootBuiltins "dict" = some (.type "dict") := by decide +kernel
end Py
/-! PyKp: sorted(set(a)), pure. -/
namespace Py
open PySem
/-- each one once -/
def nub : List Int → List Int
  | [] => []
  | x :: xs => if x ∈ xs then nub xs else x :: nub xs
def sset (ns : List Int) : List Int := isort (nub ns)
def seqV? : Ct → Option (List PV)
  | .pv (.tuple xs) => some xs
  | c => c.lst?
def fSSet (c : Ct) : Option R := (seqV? c).bind fun xs => (ints? xs).bind fun ns => if ns.length ≤ 4000 then some (.new (.lst ((sset ns).map .int))) else none
end Py
namespace L2
open PySem PySem.Spec PyProof.Rows
section
variable {P : Program} {w : World} {A : Around} {E : Value → Shared → Prop} {s : Shared}
set_option maxRecDepth 100000 in
set_option maxHeartbeats 3200000 in
theorem call_set_lstI {l : Addr} {items : Array Value} (ns : List Int) {Q : Value → Shared → Prop} (hh : A.handled = none) (hl : s.heap.IsList l items) (hit : IntsAre items.toList ns) (hb : ns.length + 1 < scanBound)
    (h : ∀ (h' : Heap) (tk c : Nat), SetR w h' s.heap.objs.size (fun j => decide (j ∈ ns)) c → c ≤ ns.length → (∀ b o, s.heap.get? b = some o → h'.get? b = some o) → Q (.ref s.heap.objs.size) { s with heap := h', toks := tk }) :
    wpAny (model P w) A (call (.type "set") [.ref l]) Q E s := by
  have hisz : items.size = ns.length := by
    have q := IntsAre.length hit
    rw [Array.length_toList] at q
    exact q
  obtain ⟨c, tl, hmro⟩ := F.called_set.mro
  have hmade := F.called_set.made
  have hsub := F.called_set.sub
  refine wpAny_call (codeAny_of_tree ?_)
  show wpAny _ _ (callAny (.type "set") _) _ _ _
  refine wpAny_pure ⟨Code.quiet_builtin _ (by decide +kernel), codeAny_builtin F.entry_type_call ?_⟩
  rw [Around.under_plain (weight_type_call_type "set" [.ref l] []) rfl]
  have h1 := F.called_set.notType
  have h2 := F.called_set.canCreate
  have hct := F.typeCall_set_1 (.ref l)
  repeat (any_goals (first | assumption | wp_step))

  refine codeAny_mono (code_set_led1 (.ref l) (E := E) (Q₁ := fun obj s₁ => obj = .ref s.heap.objs.size ∧ s₁ = { s with heap := s.heap.push { cls := .type "set", dict := none, data := .set #[] 0 (.fresh 0 0 (!w.params.followText "set-order")) } }) ⟨rfl, rfl⟩) fun r s₁ hr => ?_
  cases r with
  | error e => exact hr
  | ok fl =>
    cases fl with
    | ret obj =>
      obtain ⟨rfl, rfl⟩ := hr
      have hS : (s.heap.push { cls := .type "set", dict := none, data := .set #[] 0 (.fresh 0 0 (!w.params.followText "set-order")) }).get? s.heap.objs.size = some { cls := .type "set", dict := none, data := .set #[] 0 (.fresh 0 0 (!w.params.followText "set-order")) } := Heap.get?_push_size _ rfl
      have hT : Shared.TypeIs { s with heap := s.heap.push { cls := .type "set", dict := none, data := .set #[] 0 (.fresh 0 0 (!w.params.followText "set-order")) } } (.ref s.heap.objs.size) "set" := ⟨_, hS, rfl⟩
      have hli := F.called_set.init.lookup
      have hbi := F.called_set.init.bind (.ref s.heap.objs.size)
      repeat (any_goals (first | assumption | wp_step))

      refine codeAny_mono (codeAny_call_builtin (R := wants (fun r s₂ => r = .none ∧ ∃ h' tk c, s₂ = { s with heap := h', toks := tk } ∧ SetR w h' s.heap.objs.size (fun j => decide (j ∈ ns)) c ∧ c ≤ ns.length ∧
          (∀ b o, s.heap.get? b = some o → h'.get? b = some o)) E) F.called_set.init.plain F.entry_set_init (check_set_init_1 hT ?_)) fun r₂ s₂ hr₂ => ?_
      · obtain ⟨ol, hol, hcl, nl, hdl⟩ := hl
        obtain ⟨ocls, odict, odata, oslots⟩ := ol
        simp only at hcl hdl
        subst hcl; subst hdl
        have hol' : (s.heap.push { cls := .type "set", dict := none, data := .set #[] 0 (.fresh 0 0 (!w.params.followText "set-order")) }).get? l = some { cls := .type "list", dict := odict, data := .seq items nl, slots := oslots } := Heap.get?_push_of_some _ hol
        have hsls := F.sub_list_set
        have hslf := F.sub_list_frozenset
        have hne : (Value.type "list" == Value.type "dict") = false := by decide
        have hl1 : (s.heap.push { cls := .type "set", dict := none, data := .set #[] 0 (.fresh 0 0 (!w.params.followText "set-order")) }).IsList l items := ⟨_, hol', rfl, nl, rfl⟩
        unfold Builtin.«set.__init__» noKeywords Builtin.Frozenset.updateFrom
        generalize hPI : pyIter = PI
        wp_walk
        subst hPI

        refine wpAny_pyIter_list hl1 ?_
        refine wpAny_bind (wpAny_runValue ?_)
        have hlS : l < s.heap.objs.size := Heap.lt_size hol
        have hh3 : A.in1.in1.in1.handled = none := by simp [hh]
        have hz1 : (s.heap.push { cls := .type "set", dict := none, data := .set #[] 0 (.fresh 0 0 (!w.params.followText "set-order")) }).objs.size = s.heap.objs.size + 1 := Heap.size_push ..
        have hneI : l ≠ (s.heap.push { cls := .type "set", dict := none, data := .set #[] 0 (.fresh 0 0 (!w.params.followText "set-order")) }).objs.size := by
          rw [Heap.size_push]; exact Nat.ne_of_lt (Nat.lt_succ_of_lt hlS)
        have hSf : s.heap.objs.size ∉ [(s.heap.push { cls := .type "set", dict := none, data := .set #[] 0 (.fresh 0 0 (!w.params.followText "set-order")) }).objs.size, l] := by
          rw [Heap.size_push]; simp only [List.mem_cons, List.mem_singleton, List.not_mem_nil, or_false, not_or]
          exact ⟨Nat.ne_of_lt (Nat.lt_succ_self _), Nat.ne_of_gt hlS⟩
        have hval : ∀ (i : Nat) (v : Value), items[i]? = some v → ∃ k t, ns[i]? = some k ∧ v = .int k t := fun i v hv => by
          have hi : i < ns.length := by rw [← hisz]; exact (Array.getElem?_eq_some_iff.mp hv).1
          obtain ⟨t, e⟩ := PyProof.Rows.IntsAre.int_at hit i v (by rw [Array.getElem?_toList]; exact hv)
          refine ⟨ns[i], t, List.getElem?_eq_getElem hi, ?_⟩
          rw [e, List.getD_eq_getElem?_getD, List.getElem?_eq_getElem hi] <;> rfl
        refine set_update_ints ((Walks.list hh3 _ l hneI items).toS) s.heap.objs.size
          hSf ns hisz hb hval (items.size - 0) 0 _ (by omega) (Nat.zero_le _)
          ⟨⟨_, Heap.get?_push_size _ rfl, rfl, rfl⟩, (hl1.push _)⟩ ?hS0 ?hR
        case hS0 =>
          have hget : ((s.heap.push { cls := .type "set", dict := none, data := .set #[] 0 (.fresh 0 0 (!w.params.followText "set-order")) }).push { cls := .type "list_iterator", data := .fields #[.ref l, .int 0 0] }).get? s.heap.objs.size
              = some { cls := .type "set", dict := none, data := .set #[] 0 (.fresh 0 0 (!w.params.followText "set-order")) } := Heap.get?_push_of_some _ hS
          exact ⟨0, Nat.le_refl 0, setR_new_at hget⟩
        case hR =>
          intro s' c' hm hc' hS'
          obtain ⟨h', g2, d', tk', os'⟩ := s'
          have eg : g2 = s.gens := hm.gens
          have ed : d' = s.drawn := hm.drawn
          have eo : os' = s.os := hm.os
          subst eg; subst ed; subst eo
          show wpAny _ _ _ _ _ _
          refine wpAny_pure ?_
          show wpAny _ _ (ret Value.none) _ _ _
          rw [hisz] at hc'
          refine wpAny_pure ⟨rfl, h', tk', c', rfl, hS', hc', fun b o e => ?_⟩
          have hb0 : b < s.heap.objs.size := Heap.lt_size e
          have hb1 : b ≠ s.heap.objs.size := Nat.ne_of_lt hb0
          have hb2 : b ≠ (s.heap.push { cls := .type "set", dict := none, data := .set #[] 0 (.fresh 0 0 (!w.params.followText "set-order")) }).objs.size := by
            rw [Heap.size_push]; exact Nat.ne_of_lt (Nat.lt_succ_of_lt hb0)
          exact hm.heap b o (by simp only [List.mem_cons, List.mem_singleton, List.not_mem_nil, or_false, not_or]; exact ⟨hb1, hb2⟩) (Heap.get?_push_of_some _ (Heap.get?_push_of_some _ e))

      · cases r₂ with
        | error e => exact hr₂
        | ok fl₂ =>
          cases fl₂ with
          | ret r =>
            obtain ⟨rfl, h', tk, c', rfl, hS', hc', hk'⟩ := hr₂
            repeat (any_goals (first | assumption | wp_step))
            exact h _ _ _ hS' hc' hk'
          | _ => exact hr₂.elim
    | _ => exact hr.elim

/-- sorted of a set of ints, of any length -/
theorem sorted_setA {a : Addr} {S : Int → Bool} {n : Nat} {Q : Value → Shared → Prop} (R : SetR w s.heap a S n) (hh : A.handled = none)
    (hQ : ∀ s' p (out : Array Value) (c : Nat) (ns : List Int), (∀ b o, s.heap.get? b = some o → s'.heap.get? b = some o) → s'.gens = s.gens → s'.os = s.os → s.heap.objs.size ≤ p →
      s'.heap.get? p = some (seqObj "list" out c) → IntsAre out.toList ns → ns.Pairwise (· < ·) → (∀ k, k ∈ ns ↔ S k = true) → ns.length = n → Q (.ref p) s') :
    wpAny (model P w) A (call (.builtin "sorted") [.ref a]) Q E s := by
  obtain ⟨o, es, ep, t, ho, hex, hd, g, nd, hm, hb, hf, hn, hr, hl⟩ := R
  refine Calls.call_function_entry PyProof.Rows.kind_sorted PyProof.Rows.plain_sorted PyProof.Rows.entry_sorted (PyProof.Rows.args_sorted1 _) ?_
  unfold Builtin.«sorted»
  refine wpAny_bind (m := checkCount "sorted" 1 1 _) (wpAny_pure ?_)
  refine wpAny_bind (collect_set (A := A.in1) hh ⟨o, ho, hex.1, hd⟩ hf hb hr hl fun s1 vs k1 hz g1 o1 pm => ?_)
  have hvl : vs.length = n := by rw [pm.length_eq, List.length_map, Array.length_toList]; exact hn
  have hvz : vs.length ≤ sizeLine := by
    have : es.size < scanBound := hb
    unfold scanBound at this
    rw [hvl, sizeLine_eq]
    omega
  have hI : IntsAre vs (vs.map Builtin.Re.reRawOf) := ints_of vs fun v hv => by
    obtain ⟨e, he, q⟩ := List.mem_map.mp (pm.mem_iff.mp hv)
    obtain ⟨k, tk, h1, _⟩ := g e he
    exact ⟨k, tk, by rw [← q]; exact h1⟩
  have pk : (vs.map Builtin.Re.reRawOf).Perm (es.toList.map keyOf) := by
    have q := pm.map Builtin.Re.reRawOf
    rw [List.map_map] at q
    exact q
  refine wpAny_bind (wpAny_newList ?_ hvz)
  have hoL : (s1.heap.push (seqObj "list" vs.toArray 0)).get? s1.heap.objs.size = some (seqObj "list" vs.toArray 0) := Heap.get?_push_size _ rfl
  refine wpAny_bind (wpAny_holding (wpAny_call_entry PyProof.Rows.slot_list_sort ⟨_, hoL, rfl⟩ PyProof.Rows.entry_list_sort
    (SrtO.list_sort_ord (s := { s1 with heap := s1.heap.push (seqObj "list" vs.toArray 0) }) SrtO.swo_int hoL hvz (fun h2 => SrtO.ints_sortable hI h2) fun out a1 a2 => ⟨_, rfl, ?_⟩) (PyProof.Rows.args_list_sort _)))
  obtain ⟨c1, c2, c3⟩ := SrtO.ints_out hI a1 a2
  obtain ⟨c, hc⟩ := PyProof.Rows.sortedHeap_at (vs := vs) (out := out.toArray) hoL
  have pn : (out.map SrtO.iv).Perm (es.toList.map keyOf) := c2.trans pk
  refine wpAny_pure ⟨_, rfl, hQ _ s1.heap.objs.size out.toArray c (out.map SrtO.iv) (fun b u e => ?_) g1 o1 hz hc (by simpa using c1) (lt_of_le_nodup _ c3 (pn.nodup_iff.mpr nd)) (fun k => by rw [pn.mem_iff, ← hm k]) ?_⟩
  · have q := k1 b u e
    have hlt := Heap.lt_size q
    show (sortedHeap (s1.heap.push (seqObj "list" vs.toArray 0)) s1.heap.objs.size vs out.toArray).get? b = some u
    rw [PyProof.Rows.sortedHeap_old (Nat.ne_of_lt hlt) (by rw [size_push']; exact Nat.lt_succ_of_lt hlt)]
    exact Heap.get?_push_of_some _ q
  · rw [pn.length_eq, List.length_map, Array.length_toList]; exact hn
end
end L2
namespace L2
open PySem PySem.Spec PyProof.Rows
section
variable {X : Cx}
/-- sorted(set(a)), a list or a tuple of ints -/
def tSSetI (K : PySem.W.Frag) (ta : TE) : TE := fun σ H Q => ta σ H fun x H1 => ∃ (l : Addr) (ns : List Int), x = V.ref l ∧ (SqL K H1 l (ns.map V.int) ∨ SqT K H1 l (ns.map V.int)) ∧ ns.length ≤ 4000 ∧
  ∀ (ys : List Int) (p : Addr), ys.Pairwise (· < ·) → (∀ k, k ∈ ys ↔ k ∈ ns) → H1 p = none → Q (.ref p) (upd H1 p (.lst (ys.map V.int)))
theorem pe_ssetI {a : Expr} {ta : TE} {p p2 q pos : Pos} (hc : X.calm = true) (hg : Gl X "sorted") (hm : X.mg "sorted" = none) (hg2 : Gl X "set") (hm2 : X.mg "set" = none) (ha : PE X a ta)
    (hv : bootBuiltins "sorted" = some (.builtin "sorted") := by decide +kernel)
    (na : starEach [a] X.env = (false, eval a X.env) :: starEach [] X.env := by rfl) : PE X (.Call (.Name "sorted" p) [.Call (.Name "set" p2) [a] [] q] [] pos) (tSSetI X.K ta) := by
  refine ⟨fun pins s σ H Q I h => ?_⟩
  refine Call_ (ld_blt I hg hm hv ?_)
  refine PyProof.Rows.callWith_builtin1 (PyProof.Rows.args_cons ?_ rfl) rfl rfl
  refine Call_ (ld_blt I hg2 hm2 PyProof.Rows.boot_set ?_)
  refine PyProof.Rows.callWith_type1 (PyProof.Rows.args_cons (thn (ha.run pins s σ H _ I h) fun v s1 ⟨x, H1, I1, r1, q1⟩ => PyProof.Rows.args_nil ?_) na) na rfl
  obtain ⟨l, ns, rfl, hq, h1, q1⟩ := q1
  cases r1
  have hd := I1.ok.hd hc
  have fin : ∀ (h' : Heap) (tk c : Nat), SetR X.w h' s1.heap.objs.size (fun j => decide (j ∈ ns)) c → (∀ b o, s1.heap.get? b = some o → h'.get? b = some o) →
      wpAny (model X.prog X.w) X.A (call (.builtin "sorted") [.ref s1.heap.objs.size]) (EP X pins σ Q) X.xe { s1 with heap := h', toks := tk } := fun h' tk c R k => by
    have I2 : Inv X pins σ H1 { s1 with heap := h', toks := tk } := I1.kept k
    refine sorted_setA (s := { s1 with heap := h', toks := tk }) R hd fun s' p out c ns' k g o hp hg hi hs hm hl => ?_
    have hz : ns'.length ≤ sizeLine := by
      obtain ⟨o, es, ep, t, ho, hex, hd, g, nd, hm, hb, hf, hn, hr, hl2⟩ := R
      have : es.size < scanBound := hb
      unfold scanBound at this
      have e := Array.length_toList (xs := es)
      rw [sizeLine_eq, hl, ← hn]
      omega
    have hlen : (ns'.map V.int).length ≤ sizeLine := by rw [List.length_map]; exact hz
    have hn : H1 p = none := I2.hok.fresh hp
    have J : Inv X pins σ (upd H1 p (.lst (ns'.map V.int))) { s1 with heap := s'.heap, gens := s'.gens, drawn := s'.drawn, toks := s'.toks } :=
      Inv.call (s := { s1 with heap := h', toks := tk }) (ch := []) I2 (Un.laid (h := h') k hp hn) (I2.hok.laid k hp ⟨hlen, out.toList, c, vals_of_ints hi, hg⟩) (by rw [g]; exact I2.bare) (fun _ z => nomatch z)
    have e : s' = { s1 with heap := s'.heap, gens := s'.gens, drawn := s'.drawn, toks := s'.toks } := by
      cases s'
      cases s1
      cases o
      rfl
    rw [e]
    exact ⟨.ref p, _, J, rfl, q1 ns' p hs (fun k => by rw [hm k, decide_eq_true_eq]) hn⟩
  rcases hq with hq | hq
  · obtain ⟨its, rv, pl, hz⟩ := I1.list hq
    have hi : IntsAre its.toArray.toList ns := ints_of_vals rv
    exact call_set_lstI ns hd (show s1.heap.IsList l its.toArray from pl.isList) hi (by unfold scanBound; omega) fun h' tk c R1 hcn k => PyProof.Rows.args_nil (fin h' tk c R1 k)
  · obtain ⟨its, rv, pt, hz⟩ := I1.tuple hq
    have hi : IntsAre its.toArray.toList ns := ints_of_vals rv
    exact call_set_tupI ns hd (show s1.heap.IsTuple l its.toArray from pt) hi (by unfold scanBound; omega) fun h' tk c R1 hcn k => PyProof.Rows.args_nil (fin h' tk c R1 k)
end
end L2
/-! PyK: sorted(set(a)). -/
namespace Py
open PySem PySem.Spec PyProof.Rows L2
theorem mem_nub (k : Int) : ∀ ns : List Int, k ∈ nub ns ↔ k ∈ ns
  | [] => by simp [nub]
  | x :: xs => by
    unfold nub
    split
    · rw [mem_nub k xs, List.mem_cons]
      constructor
      · exact Or.inr
      · rintro (rfl | h)
        · assumption
        · exact h
    · rw [List.mem_cons, List.mem_cons, mem_nub k xs]
theorem nodup_nub : ∀ ns : List Int, (nub ns).Nodup
  | [] => by simp [nub]
  | x :: xs => by
    unfold nub
    split
    · exact nodup_nub xs
    · exact List.nodup_cons.mpr ⟨by rw [mem_nub]; assumption, nodup_nub xs⟩
theorem sset_mem (k : Int) (ns : List Int) : k ∈ sset ns ↔ k ∈ ns := by
  unfold sset
  rw [(isort_perm _).mem_iff, mem_nub]
theorem sset_sorted (ns : List Int) : (sset ns).Pairwise (· < ·) := lt_of_le_nodup _ (isort_sorted _) ((isort_perm _).nodup_iff.mpr (nodup_nub ns))
theorem sset_uniq {ys ns : List Int} (h : ys.Pairwise (· < ·)) (m : ∀ k, k ∈ ys ↔ k ∈ ns) : ys = sset ns := by
  refine List.Perm.eq_of_pairwise (le := fun a b : Int => a < b) (fun a b _ _ h1 h2 => by omega) h (sset_sorted ns) ?_
  refine (List.perm_ext_iff_of_nodup (h.imp fun z => by omega) ((sset_sorted ns).imp fun z => by omega)).mpr fun k => ?_
  rw [m, sset_mem]
section
variable {K : PySem.W.Frag} {Hf H : Hp} {X : Cx} {a : Expr} {ma : M} {p p2 q pos : Pos}
def rSSet (K : PySem.W.Frag) (x : V) (H1 : Hp) (Q : VK) : Prop := ∃ (l : Addr) (ns : List Int), x = V.ref l ∧ (SqL K H1 l (ns.map V.int) ∨ SqT K H1 l (ns.map V.int)) ∧ ns.length ≤ 4000 ∧
  ∀ (ys : List Int) (p : Addr), ys.Pairwise (· < ·) → (∀ k, k ∈ ys ↔ k ∈ ns) → H1 p = none → Q (.ref p) (upd H1 p (.lst (ys.map V.int)))
theorem un_sset : UnS K (rSSet K) fSSet := fun Hf H c x z e hc e5 Q q => by
  simp only [fSSet, Option.bind_eq_some_iff] at e5
  obtain ⟨xs, h1, ns, h2, h3⟩ := e5
  split at h3
  · rename_i h4
    cases h3
    have fin : ∀ (ys : List Int) (p : Addr), ys.Pairwise (· < ·) → (∀ k, k ∈ ys ↔ k ∈ ns) → H p = none → Q (.ref p) (upd H p (.lst (ys.map V.int))) := fun ys p hy hm hp => by
      rw [sset_uniq hy hm]
      exact newL e (dps_ints _) q p hp
    unfold seqV? at h1
    split at h1
    · cases h1
      cases hc with
      | tup hs ha =>
        rw [ints_ok h2 ha] at hs
        exact ⟨_, ns, rfl, .inr (ex_t e hs), h4, fin⟩
    · obtain ⟨a, us, rfl, hs, d⟩ := lst_ok e hc h1
      rw [ints_ok h2 d] at hs
      exact ⟨a, ns, rfl, .inl hs, h4, fin⟩
  · cases h3
theorem be_sset (hc : X.calm = true) (hg : Gl X "sorted") (hm : X.mg "sorted" = none) (hg2 : Gl X "set") (hm2 : X.mg "set" = none) (ha : BE X a ma)
    (na : starEach [a] X.env = (false, eval a X.env) :: starEach [] X.env := by rfl) : BE X (.Call (.Name "sorted" p) [.Call (.Name "set" p2) [a] [] q] [] pos) (mUn fSSet ma) := by
  obtain ⟨t, a1, a2⟩ := ha
  exact ⟨_, pe_ssetI hc hg hm hg2 hm2 a1 (na := na), se_un a2 un_sset⟩
end
end Py
/-! Q0: how a meaning is reckoned. -/
namespace Py
open PySem

/-- m, from ρ, gives a and ρ' of which Q holds -/
def Wp {α : Type} (m : Env → Option (α × Env)) (ρ : Env) (Q : α → Env → Prop) : Prop := ∃ a ρ', m ρ = some (a, ρ') ∧ Q a ρ'
/-- a def's value and the objects handed back -/
def Ret (d : Den) (as : List Sl) (Q : R → List Ob → Prop) : Prop := ∃ r os, d as = some (r, os) ∧ Q r os
def FinQ (as : List Sl) (f : Fl) (ρ : Env) (Q : R → List Ob → Prop) : Prop := match f with
  | .nx => ∃ os, outs as ρ = some os ∧ Q (.val .none) os
  | .rt r => ∃ r' os, leave r ρ = some r' ∧ outs as ρ = some os ∧ Q r' os
  | _ => False
section
variable {α : Type} {ρ ρ1 ρ2 : Env} {a b c : M} {t u : MT} {s s1 s2 : SM} {Q : R → Env → Prop} {QT : Bool → Env → Prop} {QS : Fl → Env → Prop} {QL : List PV → Env → Prop} {QA : List Sl → Env → Prop} {f g : Ct → Ct → Option R} {i j : Nat} {v : PV} {l : ML} {n : Nat} {as : List Sl} {QR : R → List Ob → Prop} {d : Den} {x y : R} {cx cy : Ct} {z : R}
theorem Wp.mono {m : Env → Option (α × Env)} {Q Q' : α → Env → Prop} (h : Wp m ρ Q) (k : ∀ a ρ', Q a ρ' → Q' a ρ') : Wp m ρ Q' := let ⟨a, r, e, q⟩ := h; ⟨a, r, e, k a r q⟩
theorem Ret.mono {Q Q' : R → List Ob → Prop} (h : Ret d as Q) (k : ∀ r os, Q r os → Q' r os) : Ret d as Q' := let ⟨a, r, e, q⟩ := h; ⟨a, r, e, k a r q⟩
theorem ret_mk {body : SM} (h : Wp body (startE n as) fun f ρ' => FinQ as f ρ' QR) : Ret (mkDen n body) as QR := by
  obtain ⟨f, ρ', e, q⟩ := h
  cases f with
  | nx => obtain ⟨os, e2, q⟩ := q; exact ⟨_, os, by simp [mkDen, e, e2], q⟩
  | rt r => obtain ⟨r', os, e2, e3, q⟩ := q; exact ⟨r', os, by simp [mkDen, e, e2, e3], q⟩
  | bk => exact q.elim
  | ct => exact q.elim
theorem fin_rt {r r' : R} {os : List Ob} (h1 : leave r ρ = some r') (h2 : outs as ρ = some os) (q : QR r' os) : FinQ as (.rt r) ρ QR := ⟨r', os, h1, h2, q⟩
theorem fin_nx {os : List Ob} (h2 : outs as ρ = some os) (q : QR (.val .none) os) : FinQ as .nx ρ QR := ⟨os, h2, q⟩

theorem wp_c (q : Q (.val v) ρ) : Wp (mC v) ρ Q := ⟨_, _, rfl, q⟩
theorem wp_varV {v : PV} (h : get ρ i = some (.val v)) (q : Q (.val v) ρ) : Wp (mVar i) ρ Q := ⟨_, _, by simp [mVar, h], q⟩
theorem wp_varO {o : Ob} (h : get ρ i = some (.own o)) (q : Q (.bor i) ρ) : Wp (mVar i) ρ Q := ⟨_, _, by simp [mVar, h], q⟩
theorem wp_varR {o : Ob} (h : get ρ i = some (.ref o)) (q : Q (.bor i) ρ) : Wp (mVar i) ρ Q := ⟨_, _, by simp [mVar, h], q⟩
/-- an operation at two results -/
def OpQ (f : Ct → Ct → Option R) (x y : R) (ρ : Env) (Q : R → Env → Prop) : Prop := ∃ cx cy z, look x ρ = some cx ∧ look y ρ = some cy ∧ f cx cy = some z ∧ Q z ρ
theorem opq (h1 : look x ρ = some cx) (h2 : look y ρ = some cy) (h3 : f cx cy = some z) (q : Q z ρ) : OpQ f x y ρ Q := ⟨cx, cy, z, h1, h2, h3, q⟩
theorem wp_op (h : Wp a ρ fun x ρ1 => Wp b ρ1 fun y ρ2 => OpQ f x y ρ2 Q) : Wp (mOp f a b) ρ Q := by
  obtain ⟨x, ρ1, e1, y, ρ2, e2, cx, cy, z, e3, e4, e5, q⟩ := h
  exact ⟨z, ρ2, by simp [mOp, e1, e2, e3, e4, e5], q⟩
def UnQ (f : Ct → Option R) (x : R) (ρ : Env) (Q : R → Env → Prop) : Prop := ∃ cx z, look x ρ = some cx ∧ f cx = some z ∧ Q z ρ
theorem unq {f : Ct → Option R} (h1 : look x ρ = some cx) (h3 : f cx = some z) (q : Q z ρ) : UnQ f x ρ Q := ⟨cx, z, h1, h3, q⟩
theorem wp_un {f : Ct → Option R} (h : Wp a ρ fun x ρ1 => UnQ f x ρ1 Q) : Wp (mUn f a) ρ Q := by
  obtain ⟨x, ρ1, e1, cx, z, e3, e5, q⟩ := h
  exact ⟨z, ρ1, by simp [mUn, e1, e3, e5], q⟩
theorem wp_B (h : Wp a ρ fun x ρ1 => ∃ b, look x ρ1 = some (.pv (.bool b)) ∧ QT b ρ1) : Wp (mB a) ρ QT := by
  obtain ⟨x, ρ1, e1, b, e3, q⟩ := h
  exact ⟨b, ρ1, by simp [mB, e1, e3, boolOf], q⟩
theorem wp_tru (h : Wp a ρ fun x ρ1 => ∃ cx b, look x ρ1 = some cx ∧ truOf cx = some b ∧ QT b ρ1) : Wp (mTru a) ρ QT := by
  obtain ⟨x, ρ1, e1, cx, b, e3, e4, q⟩ := h
  exact ⟨b, ρ1, by simp [mTru, e1, e3, e4], q⟩
theorem wp_and (h : Wp t ρ fun x ρ1 => (x = true → Wp u ρ1 QT) ∧ (x = false → QT false ρ1)) : Wp (mAnd t u) ρ QT := by
  obtain ⟨x, ρ1, e1, h1, h2⟩ := h
  cases x with
  | true => obtain ⟨y, ρ2, e2, q⟩ := h1 rfl; exact ⟨y, ρ2, by simp [mAnd, e1, e2], q⟩
  | false => exact ⟨false, ρ1, by simp [mAnd, e1], h2 rfl⟩
theorem wp_or (h : Wp t ρ fun x ρ1 => (x = true → QT true ρ1) ∧ (x = false → Wp u ρ1 QT)) : Wp (mOr t u) ρ QT := by
  obtain ⟨x, ρ1, e1, h1, h2⟩ := h
  cases x with
  | false => obtain ⟨y, ρ2, e2, q⟩ := h2 rfl; exact ⟨y, ρ2, by simp [mOr, e1, e2], q⟩
  | true => exact ⟨true, ρ1, by simp [mOr, e1], h1 rfl⟩
theorem wp_not (h : Wp t ρ fun x ρ1 => QT (!x) ρ1) : Wp (mNot t) ρ QT := by
  obtain ⟨x, ρ1, e1, q⟩ := h
  exact ⟨!x, ρ1, by simp [mNot, e1], q⟩
theorem wp_andV (h : Wp a ρ fun x ρ1 => ∃ k, look x ρ1 = some (.pv (.bool k)) ∧ (k = true → Wp b ρ1 Q) ∧ (k = false → Q (.val (.bool false)) ρ1)) : Wp (mAndV a b) ρ Q := by
  obtain ⟨x, ρ1, e1, k, e2, h1, h2⟩ := h
  cases k with
  | true => obtain ⟨y, ρ2, e3, q⟩ := h1 rfl; exact ⟨y, ρ2, by simp [mAndV, e1, e2, boolOf, e3], q⟩
  | false => exact ⟨_, ρ1, by simp [mAndV, e1, e2, boolOf], h2 rfl⟩
theorem wp_orV (h : Wp a ρ fun x ρ1 => ∃ k, look x ρ1 = some (.pv (.bool k)) ∧ (k = true → Q (.val (.bool true)) ρ1) ∧ (k = false → Wp b ρ1 Q)) : Wp (mOrV a b) ρ Q := by
  obtain ⟨x, ρ1, e1, k, e2, h1, h2⟩ := h
  cases k with
  | false => obtain ⟨y, ρ2, e3, q⟩ := h2 rfl; exact ⟨y, ρ2, by simp [mOrV, e1, e2, boolOf, e3], q⟩
  | true => exact ⟨_, ρ1, by simp [mOrV, e1, e2, boolOf], h1 rfl⟩
theorem wp_notV (h : Wp a ρ fun x ρ1 => ∃ k, look x ρ1 = some (.pv (.bool k)) ∧ Q (.val (.bool (!k))) ρ1) : Wp (mNotV a) ρ Q := by
  obtain ⟨x, ρ1, e1, k, e2, q⟩ := h
  exact ⟨_, ρ1, by simp [mNotV, e1, e2, boolOf], q⟩
theorem wp_ifE (h : Wp t ρ fun x ρ1 => (x = true → Wp a ρ1 Q) ∧ (x = false → Wp b ρ1 Q)) : Wp (mIfE t a b) ρ Q := by
  obtain ⟨x, ρ1, e1, h1, h2⟩ := h
  cases x with
  | true => obtain ⟨y, ρ2, e2, q⟩ := h1 rfl; exact ⟨y, ρ2, by simp [mIfE, e1, e2], q⟩
  | false => obtain ⟨y, ρ2, e2, q⟩ := h2 rfl; exact ⟨y, ρ2, by simp [mIfE, e1, e2], q⟩
theorem wp_chain (h : Wp a ρ fun x ρ1 => Wp b ρ1 fun y ρ2 => ∃ cx cy k, look x ρ2 = some cx ∧ look y ρ2 = some cy ∧ f cx cy = some (.val (.bool k)) ∧ (k = true → Wp c ρ2 fun w ρ3 => OpQ g y w ρ3 Q) ∧ (k = false → Q (.val (.bool false)) ρ2)) : Wp (mChain f g a b c) ρ Q := by
  obtain ⟨x, ρ1, e1, y, ρ2, e2, cx, cy, k, e3, e4, e5, h1, h2⟩ := h
  cases k with
  | true => obtain ⟨w, ρ3, e6, cy', cw, z, e7, e8, e9, q⟩ := h1 rfl; exact ⟨z, ρ3, by simp [mChain, e1, e2, e3, e4, e5, boolOf, show look (R.val (.bool true)) ρ2 = some (.pv (.bool true)) from rfl, e6, e7, e8, e9], q⟩
  | false => exact ⟨_, ρ2, by simp [mChain, e1, e2, e3, e4, e5, boolOf, show look (R.val (.bool false)) ρ2 = some (.pv (.bool false)) from rfl], h2 rfl⟩
/-- frozen -/
def FrzQ (x : R) (ρ : Env) (Q : PV → Env → Prop) : Prop := ∃ v ρ', frz x ρ = some (v, ρ') ∧ Q v ρ'
theorem frzq {Q : PV → Env → Prop} (h : frz x ρ = some (v, ρ1)) (q : Q v ρ1) : FrzQ x ρ Q := ⟨v, ρ1, h, q⟩
theorem frzV {Q : PV → Env → Prop} (q : Q v ρ) : FrzQ (.val v) ρ Q := ⟨v, ρ, rfl, q⟩
theorem frzN {Q : PV → Env → Prop} {xs : List PV} (q : Q (.list xs) ρ) : FrzQ (.new (.lst xs)) ρ Q := ⟨_, ρ, rfl, q⟩
theorem wp_frz (h : Wp a ρ fun x ρ1 => FrzQ x ρ1 fun v ρ2 => Q (.val v) ρ2) : Wp (mFrz a) ρ Q := by
  obtain ⟨x, ρ1, e1, v, ρ2, e2, q⟩ := h
  exact ⟨_, ρ2, by simp [mFrz, e1, e2], q⟩
theorem wp_lnil (q : QL [] ρ) : Wp lNil ρ QL := ⟨_, _, rfl, q⟩
theorem wp_lcons (h : Wp a ρ fun x ρ1 => FrzQ x ρ1 fun v ρ2 => Wp l ρ2 fun vs ρ3 => QL (v :: vs) ρ3) : Wp (lCons a l) ρ QL := by
  obtain ⟨x, ρ1, e1, v, ρ2, e2, vs, ρ3, e3, q⟩ := h
  exact ⟨_, ρ3, by simp [lCons, e1, e2, e3], q⟩
theorem wp_tup (h : Wp l ρ fun vs ρ1 => vs.length ≤ line ∧ Q (.val (.tuple vs)) ρ1) : Wp (mTup l) ρ Q := by
  obtain ⟨vs, ρ1, e1, hz, q⟩ := h
  exact ⟨_, ρ1, by simp [mTup, e1, hz], q⟩
theorem wp_lst (h : Wp l ρ fun vs ρ1 => vs.length ≤ line ∧ Q (.new (.lst vs)) ρ1) : Wp (mLst l) ρ Q := by
  obtain ⟨vs, ρ1, e1, hz, q⟩ := h
  exact ⟨_, ρ1, by simp [mLst, e1, hz], q⟩
theorem wp_sl {ml mh : MO} (h : Wp a ρ fun x ρ1 => Wp ml ρ1 fun i ρ2 => Wp mh ρ2 fun j ρ3 => UnQ (fSl i j) x ρ3 Q) : Wp (mSl a ml mh) ρ Q := by
  obtain ⟨x, ρ1, e1, i, ρ2, e2, j, ρ3, e3, cx, z, e4, e5, q⟩ := h
  exact ⟨z, ρ3, by simp [mSl, e1, e2, e3, e4, e5], q⟩
theorem wp_onone {Q : Option Int → Env → Prop} (q : Q none ρ) : Wp oNone ρ Q := ⟨_, _, rfl, q⟩
theorem wp_osome {Q : Option Int → Env → Prop} (h : Wp a ρ fun x ρ1 => ∃ i, look x ρ1 = some (.pv (.int i)) ∧ Q (some i) ρ1) : Wp (oSome a) ρ Q := by
  obtain ⟨x, ρ1, e1, i, e2, q⟩ := h
  exact ⟨_, ρ1, by simp [oSome, e1, e2, intOf], q⟩

/-! ### statements -/
theorem wp_next (q : QS .nx ρ) : Wp sNext ρ QS := ⟨_, _, rfl, q⟩
theorem wp_brk (q : QS .bk ρ) : Wp sBrk ρ QS := ⟨_, _, rfl, q⟩
theorem wp_cont (q : QS .ct ρ) : Wp sCont ρ QS := ⟨_, _, rfl, q⟩
/-- what is wanted behind the first of two statements -/
def SeqQ (s : SM) (Q : Fl → Env → Prop) (f : Fl) (ρ : Env) : Prop := match f with
  | .nx => Wp s ρ Q
  | f => Q f ρ
theorem wp_seq (h : Wp s1 ρ (SeqQ s2 QS)) : Wp (sSeq s1 s2) ρ QS := by
  obtain ⟨f, ρ1, e1, h⟩ := h
  cases f with
  | nx => obtain ⟨f2, ρ2, e2, q⟩ := h; exact ⟨f2, ρ2, by simp [sSeq, e1, e2], q⟩
  | rt r => exact ⟨_, ρ1, by simp [sSeq, e1], h⟩
  | bk => exact ⟨_, ρ1, by simp [sSeq, e1], h⟩
  | ct => exact ⟨_, ρ1, by simp [sSeq, e1], h⟩
theorem seq_nx (h : Wp s ρ QS) : SeqQ s QS .nx ρ := h
theorem seq_rt {r : R} (h : QS (.rt r) ρ) : SeqQ s QS (.rt r) ρ := h
theorem seq_bk (h : QS .bk ρ) : SeqQ s QS .bk ρ := h
theorem seq_ct (h : QS .ct ρ) : SeqQ s QS .ct ρ := h
theorem wp_ret (h : Wp a ρ fun x ρ1 => QS (.rt x) ρ1) : Wp (sRet a) ρ QS := by
  obtain ⟨x, ρ1, e1, q⟩ := h
  exact ⟨_, ρ1, by simp [sRet, e1], q⟩
theorem wp_retN (q : QS (.rt (.val .none)) ρ) : Wp sRetN ρ QS := ⟨_, _, rfl, q⟩
theorem wp_if (h : Wp t ρ fun x ρ1 => (x = true → Wp s1 ρ1 QS) ∧ (x = false → Wp s2 ρ1 QS)) : Wp (sIf t s1 s2) ρ QS := by
  obtain ⟨x, ρ1, e1, h1, h2⟩ := h
  cases x with
  | true => obtain ⟨y, ρ2, e2, q⟩ := h1 rfl; exact ⟨y, ρ2, by simp [sIf, e1, e2], q⟩
  | false => obtain ⟨y, ρ2, e2, q⟩ := h2 rfl; exact ⟨y, ρ2, by simp [sIf, e1, e2], q⟩
theorem wp_expr (h : Wp a ρ fun _ ρ1 => QS .nx ρ1) : Wp (sExpr a) ρ QS := by
  obtain ⟨x, ρ1, e1, q⟩ := h
  exact ⟨_, ρ1, by simp [sExpr, e1], q⟩
def PutQ (m : MG) (x : R) (ρ : Env) (Q : Env → Prop) : Prop := ∃ ρ', m x ρ = some ρ' ∧ Q ρ'
theorem putq {m : MG} {Q : Env → Prop} (h : m x ρ = some ρ1) (q : Q ρ1) : PutQ m x ρ Q := ⟨ρ1, h, q⟩
theorem wp_asg {m : MG} (h : Wp a ρ fun x ρ1 => PutQ m x ρ1 fun ρ2 => QS .nx ρ2) : Wp (sAsg a m) ρ QS := by
  obtain ⟨x, ρ1, e1, ρ2, e2, q⟩ := h
  exact ⟨_, ρ2, by simp [sAsg, e1, e2], q⟩
theorem wp_par (h : Wp a ρ fun x ρ1 => FrzQ x ρ1 fun v ρ2 => Wp b ρ2 fun y ρ3 => FrzQ y ρ3 fun w ρ4 => ∃ ρ5 ρ6, put i (some (.val v)) ρ4 = some ρ5 ∧ put j (some (.val w)) ρ5 = some ρ6 ∧ QS .nx ρ6) : Wp (sPar i j a b) ρ QS := by
  obtain ⟨x, ρ1, e1, v, ρ2, e2, y, ρ3, e3, w, ρ4, e4, ρ5, ρ6, e5, e6, q⟩ := h
  exact ⟨_, ρ6, by simp [sPar, e1, e2, e3, e4, e5, e6], q⟩
theorem wp_append {xs : List PV} (h0 : lstAt ρ i = some xs) (h : Wp a ρ fun x ρ1 => FrzQ x ρ1 fun v ρ2 => ∃ xs, lstAt ρ2 i = some xs ∧ xs.length < line ∧ Q (.val .none) (setOb ρ2 i (.lst (xs ++ [v])))) : Wp (mAppend i a) ρ Q := by
  obtain ⟨x, ρ1, e1, v, ρ2, e2, ys, e3, hz, q⟩ := h
  exact ⟨_, _, by simp [mAppend, h0, e1, e2, e3, hz], q⟩
theorem wp_pop {xs : List PV} (h0 : lstAt ρ i = some xs) (h1 : xs.getLast? = some v) (q : Q (.val v) (setOb ρ i (.lst xs.dropLast))) : Wp (mPop i) ρ Q := ⟨_, _, by simp [mPop, h0, h1], q⟩
theorem wp_reverse {xs : List PV} (h0 : lstAt ρ i = some xs) (q : Q (.val .none) (setOb ρ i (.lst xs.reverse))) : Wp (mReverse i) ρ Q := ⟨_, _, by simp [mReverse, h0], q⟩
theorem wp_popAt {xs : List PV} (h0 : lstAt ρ i = some xs) (h : Wp a ρ fun x ρ1 => ∃ k xs j v, look x ρ1 = some (.pv (.int k)) ∧ lstAt ρ1 i = some xs ∧ (-(2 ^ 62) < k ∧ k < 2 ^ 62) ∧ ixN xs.length k = some j ∧ xs[j]? = some v ∧ Q (.val v) (setOb ρ1 i (.lst (xs.eraseIdx j)))) : Wp (mPopAt i a) ρ Q := by
  obtain ⟨x, ρ1, e1, k, xs', j, v, e2, e3, hz, e4, e5, q⟩ := h
  exact ⟨_, _, by simp only [mPopAt, h0, e1, e2, e3, e4, e5, intOf, if_pos hz, Option.bind_some, Option.map_some], q⟩
theorem wp_setIx (h : Wp a ρ fun x ρ1 => FrzQ x ρ1 fun v ρ2 => ∃ ys, lstAt ρ2 i = some ys ∧ Wp b ρ2 fun y ρ3 => ∃ k xs j, look y ρ3 = some (.pv (.int k)) ∧ lstAt ρ3 i = some xs ∧ ixN xs.length k = some j ∧ QS .nx (setOb ρ3 i (.lst (xs.set j v)))) : Wp (sSetIx i b a) ρ QS := by
  obtain ⟨x, ρ1, e1, v, ρ2, e2, ys, e0, y, ρ3, e3, k, xs, j, e4, e5, e6, q⟩ := h
  exact ⟨_, _, by simp [sSetIx, e1, e2, e0, e3, e4, e5, e6, intOf], q⟩
theorem wp_aug {v : PV} (h0 : get ρ i = some (.val v)) (h : Wp a ρ fun x ρ1 => ∃ c w ρ2, look x ρ1 = some c ∧ f (.pv v) c = some (.val w) ∧ put i (some (.val w)) ρ1 = some ρ2 ∧ QS .nx ρ2) : Wp (sAug i f a) ρ QS := by
  obtain ⟨x, ρ1, e1, c, w, ρ2, e2, e3, e4, q⟩ := h
  exact ⟨_, ρ2, by simp [sAug, h0, e1, e2, e3, e4], q⟩
theorem wp_fgt {is : List Nat} (h : Wp s ρ fun f ρ1 => match f with | .rt r => QS (.rt r) ρ1 | f => QS f (forget is ρ1)) : Wp (sFgt is s) ρ QS := by
  obtain ⟨f, ρ1, e1, q⟩ := h
  cases f <;> exact ⟨_, _, by simp only [sFgt, e1, Option.map_some], q⟩
/-! calls -/
theorem wp_anil (q : QA [] ρ) : Wp (agsEval []) ρ QA := ⟨_, _, rfl, q⟩
theorem wp_av {r : List Ag} (h : Wp a ρ fun x ρ1 => FrzQ x ρ1 fun v ρ2 => Wp (agsEval r) ρ2 fun z ρ3 => QA (.val v :: z) ρ3) : Wp (agsEval (.v a :: r)) ρ QA := by
  obtain ⟨x, ρ1, e1, v, ρ2, e2, z, ρ3, e3, q⟩ := h
  exact ⟨_, ρ3, by simp [agsEval, e1, e2, e3], q⟩
theorem wp_ar {r : List Ag} {o : Ob} (h0 : obAt ρ i = some o) (h : Wp (agsEval r) ρ fun z ρ1 => ∃ o, obAt ρ1 i = some o ∧ QA (.ref o :: z) ρ1) : Wp (agsEval (.r i :: r)) ρ QA := by
  obtain ⟨z, ρ1, e1, o', e2, q⟩ := h
  exact ⟨_, ρ1, by simp [agsEval, h0, e1, e2], q⟩
theorem wp_call {ags : List Ag} (nd : (refsOf ags).Nodup) (h : Wp (agsEval ags) ρ fun ss ρ1 => Ret d ss fun r os => Q r (setObs (refsOf ags) os ρ1)) : Wp (mCall d ags) ρ Q := by
  obtain ⟨ss, ρ1, e1, r, os, e2, q⟩ := h
  exact ⟨r, _, by simp [mCall, e1, e2, nd], q⟩
/-! loops -/
/-- what is wanted behind a turn -/
def TurnQ (N : Env → Prop) (Q : Fl → Env → Prop) (f : Fl) (ρ : Env) : Prop := match f with
  | .nx => N ρ
  | .ct => N ρ
  | .bk => Q .nx ρ
  | .rt r => Q (.rt r) ρ
theorem wp_for {it : MI} {m : MG} (h : Wp it ρ fun xs ρ1 => Wp (loopF m s xs) ρ1 QS) : Wp (sFor it m s) ρ QS := by
  obtain ⟨xs, ρ1, e1, f, ρ2, e2, q⟩ := h
  exact ⟨f, ρ2, by simp [sFor, e1, e2], q⟩
/-- a loop by its invariant: P, of the items gone through -/
theorem wp_loop {α : Type} {m : MG} (fn : α → PV) (P : List α → Env → Prop) (ys : List α) (h0 : P [] ρ)
    (step : ∀ done y rest ρ, ys = done ++ y :: rest → P done ρ → PutQ m (.val (fn y)) ρ fun ρ1 => Wp s ρ1 (TurnQ (P (done ++ [y])) QS)) (hd : ∀ ρ, P ys ρ → QS .nx ρ) : Wp (loopF m s (ys.map fn)) ρ QS := by
  have key : ∀ (rest done : List α) (ρ : Env), ys = done ++ rest → P done ρ → Wp (loopF m s (rest.map fn)) ρ QS := by
    intro rest
    induction rest with
    | nil =>
      intro done ρ e p
      rw [List.append_nil] at e
      subst e
      exact ⟨_, _, rfl, hd ρ p⟩
    | cons y rest ih =>
      intro done ρ e p
      obtain ⟨ρ1, e1, f, ρ2, e2, q⟩ := step done y rest ρ e p
      have e' : ys = (done ++ [y]) ++ rest := by rw [e]; simp
      cases f with
      | nx => obtain ⟨f', ρ3, e3, q⟩ := ih _ ρ2 e' q; exact ⟨f', ρ3, by simp [loopF, e1, e2, e3], q⟩
      | ct => obtain ⟨f', ρ3, e3, q⟩ := ih _ ρ2 e' q; exact ⟨f', ρ3, by simp [loopF, e1, e2, e3], q⟩
      | bk => exact ⟨_, ρ2, by simp [loopF, e1, e2], q⟩
      | rt r => exact ⟨_, ρ2, by simp [loopF, e1, e2], q⟩
  exact key ys [] ρ rfl h0
theorem wp_seqI (h : Wp a ρ fun x ρ1 => ∃ xs, (x = .val (.list xs) ∨ x = .val (.tuple xs) ∨ x = .new (.lst xs)) ∧ QL xs ρ1) : Wp (iSeq a) ρ QL := by
  obtain ⟨x, ρ1, e1, xs, h, q⟩ := h
  rcases h with rfl | rfl | rfl <;> exact ⟨xs, ρ1, by simp [iSeq, e1], q⟩
theorem wp_rng1 (h : Wp a ρ fun x ρ1 => ∃ n, look x ρ1 = some (.pv (.int n)) ∧ (n ≤ line ∧ -(2 ^ 62) ≤ n) ∧ QL ((List.range n.toNat).map fun (k : Nat) => .int (k : Int)) ρ1) : Wp (iRng1 a) ρ QL := by
  obtain ⟨x, ρ1, e1, n, e2, hz, q⟩ := h
  refine ⟨rangeL 0 n.toNat, ρ1, by simp only [iRng1, e1, e2, intOf, Option.bind_some, if_pos hz], ?_⟩
  unfold rangeL
  simpa using q
theorem wp_rng2 (h : Wp a ρ fun x ρ1 => ∃ lo, look x ρ1 = some (.pv (.int lo)) ∧ Wp b ρ1 fun y ρ2 => ∃ hi, look y ρ2 = some (.pv (.int hi)) ∧ (-(2 ^ 61) ≤ lo ∧ lo < 2 ^ 61 ∧ -(2 ^ 61) ≤ hi ∧ hi < 2 ^ 61 ∧ (hi - lo) ≤ line) ∧ QL ((List.range (hi - lo).toNat).map fun (k : Nat) => .int (lo + (k : Int))) ρ2) : Wp (iRng2 a b) ρ QL := by
  obtain ⟨x, ρ1, e1, lo, e2, y, ρ2, e3, hi, e4, hz, q⟩ := h
  exact ⟨rangeL lo (hi - lo).toNat, ρ2, by simp only [iRng2, e1, e2, e3, e4, intOf, Option.bind_some, if_pos hz], q⟩
theorem whileF_mono {n : Nat} {x : Fl × Env} : ∀ {ρ : Env}, whileF t s n ρ = some x → ∀ k, whileF t s (n + k) ρ = some x := by
  induction n with
  | zero => intro ρ h; cases h
  | succ n ih =>
    intro ρ h k
    rw [Nat.add_right_comm]
    simp only [whileF, Option.bind_eq_some_iff] at h ⊢
    obtain ⟨⟨b, ρ1⟩, e1, h⟩ := h
    refine ⟨(b, ρ1), e1, ?_⟩
    cases b with
    | false => simpa using h
    | true =>
      simp only [if_true, Option.bind_eq_some_iff] at h ⊢
      obtain ⟨⟨f, ρ2⟩, e2, h⟩ := h
      refine ⟨(f, ρ2), e2, ?_⟩
      cases f with
      | nx => exact ih h k
      | ct => exact ih h k
      | bk => exact h
      | rt r => exact h
theorem while_of {n : Nat} {x : Fl × Env} (h : whileF t s n ρ = some x) : sWhile t s ρ = some x := by
  have ex : ∃ n, (whileF t s n ρ).isSome = true := ⟨n, by rw [h]; rfl⟩
  unfold sWhile
  rw [dif_pos ex]
  obtain ⟨y, hy⟩ := Option.isSome_iff_exists.mp ex.choose_spec
  have h1 := whileF_mono h ex.choose
  have h2 := whileF_mono hy n
  rw [Nat.add_comm] at h2
  rw [h1] at h2
  rw [hy, h2]
/-- a while by its invariant P and a measure -/
theorem wp_while {β : Type} (P : β → Env → Prop) (μ : β → Nat) (x0 : β) (h0 : P x0 ρ)
    (step : ∀ x ρ, P x ρ → Wp t ρ fun b ρ1 => (b = true → Wp s ρ1 (TurnQ (fun ρ2 => ∃ x', μ x' < μ x ∧ P x' ρ2) QS)) ∧ (b = false → QS .nx ρ1)) : Wp (sWhile t s) ρ QS := by
  have key : ∀ (n : Nat) (x : β) (ρ : Env), μ x < n → P x ρ → ∃ f ρ', whileF t s n ρ = some (f, ρ') ∧ QS f ρ' := by
    intro n
    induction n with
    | zero => intro x ρ h; omega
    | succ n ih =>
      intro x ρ hn p
      obtain ⟨b, ρ1, e1, h1, h2⟩ := step x ρ p
      cases b with
      | false => exact ⟨_, ρ1, by simp [whileF, e1], h2 rfl⟩
      | true =>
        obtain ⟨f, ρ2, e2, q⟩ := h1 rfl
        cases f with
        | nx => obtain ⟨x', l, p'⟩ := q; obtain ⟨f', ρ3, e3, q⟩ := ih x' ρ2 (by omega) p'; exact ⟨f', ρ3, by simp [whileF, e1, e2, e3], q⟩
        | ct => obtain ⟨x', l, p'⟩ := q; obtain ⟨f', ρ3, e3, q⟩ := ih x' ρ2 (by omega) p'; exact ⟨f', ρ3, by simp [whileF, e1, e2, e3], q⟩
        | bk => exact ⟨_, ρ2, by simp [whileF, e1, e2], q⟩
        | rt r => exact ⟨_, ρ2, by simp [whileF, e1, e2], q⟩
  obtain ⟨f, ρ', e, q⟩ := key (μ x0 + 1) x0 ρ (Nat.lt_succ_self _) h0
  exact ⟨f, ρ', while_of e, q⟩
/-! comprehensions -/
/-- a turn: the new list's next items ys -/
def LcQ (g : MG) (vs : List Nat) (t : MT) (e : M) (x : PV) (ρ : Env) (Q : List PV → Env → Prop) : Prop :=
  PutQ g (.val x) (wipe ρ vs) fun ρ1 => Wp t ρ1 fun b ρ2 => (b = true → Wp e ρ2 fun r ρ3 => FrzQ r ρ3 fun v ρ4 => Q [v] ρ4) ∧ (b = false → Q [] ρ2)
theorem wp_lc {α : Type} {it : MI} {g : MG} {vs : List Nat} {e : M} (fn : α → PV) (P : List α → List PV → Env → Prop)
    (h : Wp it ρ fun xs ρ1 => ∃ ys : List α, xs = ys.map fn ∧ ys.length ≤ line ∧ P [] [] ρ1 ∧ (∀ done y rest acc ρ, ys = done ++ y :: rest → P done acc ρ → LcQ g vs t e (fn y) ρ fun zs ρ2 => P (done ++ [y]) (acc ++ zs) ρ2) ∧ ∀ acc ρ, P ys acc ρ → Q (.new (.lst acc)) (back ρ1 vs ρ)) :
    Wp (mLc it g vs t e) ρ Q := by
  obtain ⟨xs, ρ1, e1, ys, rfl, hz, h0, step, hd⟩ := h
  have key : ∀ (rest done : List α) (acc : List PV) (ρ : Env), ys = done ++ rest → P done acc ρ → ∃ zs ρ', lcF (lcTurn g vs t e) (rest.map fn) ρ = some (zs, ρ') ∧ P ys (acc ++ zs) ρ' := by
    intro rest
    induction rest with
    | nil =>
      intro done acc ρ e p
      rw [List.append_nil] at e
      subst e
      exact ⟨[], ρ, rfl, by simpa using p⟩
    | cons y rest ih =>
      intro done acc ρ e p
      obtain ⟨ρ2, e2, b, ρ3, e3, h1, h2⟩ := step done y rest acc ρ e p
      have e' : ys = (done ++ [y]) ++ rest := by rw [e]; simp
      cases b with
      | true =>
        obtain ⟨r, ρ4, e4, v, ρ5, e5, q⟩ := h1 rfl
        obtain ⟨zs, ρ', e6, p'⟩ := ih _ _ ρ5 e' q
        exact ⟨v :: zs, ρ', by simp [lcF, lcTurn, e2, e3, e4, e5, e6], by simpa using p'⟩
      | false =>
        obtain ⟨zs, ρ', e6, p'⟩ := ih _ _ ρ3 e' (h2 rfl)
        exact ⟨zs, ρ', by simp [lcF, lcTurn, e2, e3, e6], by simpa using p'⟩
  obtain ⟨zs, ρ', e6, p'⟩ := key ys [] [] ρ1 rfl h0
  exact ⟨.new (.lst zs), back ρ1 vs ρ', by simp only [mLc, e1, Option.bind_some, List.length_map, if_pos hz, e6, Option.map_some], hd _ _ (by simpa using p')⟩
end
/-! ### operators -/
section
variable {a b : Int}
theorem ev_mul (h : mulOk a b = true) : fMul (.pv (.int a)) (.pv (.int b)) = some (.val (.int (a * b))) := by simp [fMul, h]
theorem ev_mulI (h : mulOk a b = true) : fMulI (.pv (.int a)) (.pv (.int b)) = some (.val (.int (a * b))) := by simp [fMulI, h]
theorem ev_div (h : b ≠ 0) : fDiv (.pv (.int a)) (.pv (.int b)) = some (.val (.int (a.fdiv b))) := by simp [fDiv, h]
theorem ev_mod (h : b ≠ 0) : fMod (.pv (.int a)) (.pv (.int b)) = some (.val (.int (a.fmod b))) := by simp [fMod, h]
theorem ev_pow (h : 0 ≤ b ∧ b ≤ 1000000 ∧ a.natAbs < 2 ^ 64) : fPow (.pv (.int a)) (.pv (.int b)) = some (.val (.int (a ^ b.toNat))) := by simp [fPow, h]
theorem ev_ix {c : Ct} {xs : List PV} {v : PV} (hc : c = .pv (.tuple xs) ∨ c = .pv (.list xs) ∨ c = .ob (.lst xs)) (h : atI xs a = some v) : fIx c (.pv (.int a)) = some (.val v) := by
  rcases hc with rfl | rfl | rfl <;> simp [fIx, h]
theorem atI_nat {xs : List PV} {j : Nat} {v : PV} (h : xs[j]? = some v) : atI xs (j : Int) = some v := by
  have hj : j < xs.length := (List.getElem?_eq_some_iff.mp h).1
  have : ixN xs.length (j : Int) = some j := by unfold ixN; rw [if_pos (by omega), if_pos (by omega)]; simp
  unfold atI
  rw [this]
  exact h
end
end Py
/-! Q1: rules of reckoning over a written environment. -/
namespace Py
open PySem
theorem get_z (s : Option Sl) (ρ : Env) : get (s :: ρ) 0 = s := rfl
theorem get_s (s : Option Sl) (ρ : Env) (i : Nat) : get (s :: ρ) (i + 1) = get ρ i := rfl
theorem set_z (s t : Option Sl) (ρ : Env) : List.set (s :: ρ) 0 t = t :: ρ := rfl
theorem set_s (s t : Option Sl) (ρ : Env) (i : Nat) : List.set (s :: ρ) (i + 1) t = s :: List.set ρ i t := rfl
inductive PutR : Nat → Option Sl → Env → Env → Prop
  | z {a s : Option Sl} {ρ : Env} (h : isRef a = false) : PutR 0 s (a :: ρ) (s :: ρ)
  | s {a s : Option Sl} {i : Nat} {ρ ρ' : Env} (h : PutR i s ρ ρ') : PutR (i + 1) s (a :: ρ) (a :: ρ')
theorem PutR.put {i s ρ ρ'} (h : PutR i s ρ ρ') : put i s ρ = some ρ' := by
  have : isRef (get ρ i) = false ∧ ρ.set i s = ρ' := by
    induction h with
    | z h => exact ⟨h, rfl⟩
    | s _ ih => exact ⟨ih.1, by rw [List.set_cons_succ, ih.2]⟩
  simp [Py.put, this.1, this.2]
theorem putqV {i : Nat} {v : PV} {ρ ρ' : Env} {Q : Env → Prop} (h : PutR i (some (.val v)) ρ ρ') (q : Q ρ') : PutQ (gName i) (.val v) ρ Q := ⟨ρ', h.put, q⟩
theorem putqN {i : Nat} {o : Ob} {ρ ρ' : Env} {Q : Env → Prop} (h : PutR i (some (.own o)) ρ ρ') (q : Q ρ') : PutQ (gName i) (.new o) ρ Q := ⟨ρ', h.put, q⟩
theorem putq2 {i j : Nat} {v w : PV} {ρ ρ1 ρ2 : Env} {Q : Env → Prop} (h : PutR i (some (.val v)) ρ ρ1) (h2 : PutR j (some (.val w)) ρ1 ρ2) (q : Q ρ2) : PutQ (gTup [i, j]) (.val (.tuple [v, w])) ρ Q := ⟨ρ2, by simp [gTup, gNames, h.put, h2.put], q⟩
theorem unB {a : M} {ρ : Env} {QT : Bool → Env → Prop} (h : Wp a ρ fun x ρ1 => ∃ b, x = .val (.bool b) ∧ QT b ρ1) : Wp (mB a) ρ QT :=
  wp_B (h.mono fun x _ ⟨b, e, q⟩ => ⟨b, by rw [e]; rfl, q⟩)
theorem wp_truB {a : M} {ρ : Env} {QT : Bool → Env → Prop} (h : Wp a ρ fun x ρ1 => ∃ b, x = .val (.bool b) ∧ QT b ρ1) : Wp (mTru a) ρ QT :=
  wp_tru (h.mono fun x _ ⟨b, e, q⟩ => ⟨.pv (.bool b), b, by rw [e]; rfl, rfl, q⟩)
theorem beq {b : Bool} {ρ : Env} {QT : Bool → Env → Prop} (q : QT b ρ) : ∃ c, (R.val (.bool b)) = .val (.bool c) ∧ QT c ρ := ⟨b, rfl, q⟩
theorem turn_nx {N : Env → Prop} {Q : Fl → Env → Prop} {ρ : Env} (h : N ρ) : TurnQ N Q .nx ρ := h
theorem turn_rt {N : Env → Prop} {Q : Fl → Env → Prop} {ρ : Env} {r : R} (h : Q (.rt r) ρ) : TurnQ N Q (.rt r) ρ := h
theorem branch {b : Bool} {A B : Prop} (h1 : b = true → A) (h2 : b = false → B) : (b = true → A) ∧ (b = false → B) := ⟨h1, h2⟩
theorem branchD {p : Prop} [Decidable p] {A B : Prop} (h1 : p → A) (h2 : ¬p → B) : (decide p = true → A) ∧ (decide p = false → B) := ⟨fun h => h1 (of_decide_eq_true h), fun h => h2 (of_decide_eq_false h)⟩
theorem branchN {b : Bool} {A B : Prop} (h1 : b = false → A) (h2 : b = true → B) : ((!b) = true → A) ∧ ((!b) = false → B) := ⟨fun h => h1 (by simpa using h), fun h => h2 (by simpa using h)⟩
theorem brT {b : Bool} {A B : Prop} (e : b = true) (h1 : A) : (b = true → A) ∧ (b = false → B) := ⟨fun _ => h1, fun h => (by rw [e] at h; cases h)⟩
theorem brF {b : Bool} {A B : Prop} (e : b = false) (h1 : B) : (b = true → A) ∧ (b = false → B) := ⟨fun h => (by rw [e] at h; cases h), fun _ => h1⟩
theorem ev_ltI {a b : Int} : fLt (.pv (.int a)) (.pv (.int b)) = some (.val (.bool (decide (a < b)))) := rfl
theorem ev_leI {a b : Int} : fLe (.pv (.int a)) (.pv (.int b)) = some (.val (.bool (decide (a ≤ b)))) := rfl
theorem ev_gtI {a b : Int} : fGt (.pv (.int a)) (.pv (.int b)) = some (.val (.bool (decide (b < a)))) := rfl
theorem ev_geI {a b : Int} : fGe (.pv (.int a)) (.pv (.int b)) = some (.val (.bool (decide (b ≤ a)))) := rfl
theorem ev_eqI {a b : Int} : fEq (.pv (.int a)) (.pv (.int b)) = some (.val (.bool (decide (a = b)))) := by simp [fEq, eqD]
theorem ev_neI {a b : Int} : fNe (.pv (.int a)) (.pv (.int b)) = some (.val (.bool (!decide (a = b)))) := by simp [fNe, eqD]

inductive StartR : Nat → List Sl → Env → Prop
  | z : StartR 0 [] []
  | p {n : Nat} {ρ : Env} (h : StartR n [] ρ) : StartR (n + 1) [] (none :: ρ)
  | a {n : Nat} {s : Sl} {as : List Sl} {ρ : Env} (h : StartR n as ρ) : StartR (n + 1) (s :: as) (some s :: ρ)
theorem StartR.eq {n as ρ} (h : StartR n as ρ) : startE n as = ρ := by
  induction h with
  | z => rfl
  | p _ ih => simp [startE] at ih ⊢; rw [List.replicate_succ, ih]
  | a _ ih => simp [startE] at ih ⊢; exact ih
theorem ret_mkR {n : Nat} {as : List Sl} {ρ : Env} {body : SM} {QR : R → List Ob → Prop} (h0 : StartR n as ρ) (h : Wp body ρ fun f ρ' => FinQ as f ρ' QR) : Ret (mkDen n body) as QR := ret_mk (h0.eq ▸ h)
/-- the objects behind a call -/
inductive SetR : Env → Nat → Ob → Env → Prop
  | o {ρ : Env} {o o' : Ob} : SetR (some (.own o) :: ρ) 0 o' (some (.own o') :: ρ)
  | r {ρ : Env} {o o' : Ob} : SetR (some (.ref o) :: ρ) 0 o' (some (.ref o') :: ρ)
  | s {a : Option Sl} {ρ ρ' : Env} {i : Nat} {o : Ob} (h : SetR ρ i o ρ') : SetR (a :: ρ) (i + 1) o (a :: ρ')
theorem SetR.eq {ρ i o ρ'} (h : SetR ρ i o ρ') : setOb ρ i o = ρ' := by
  induction h with
  | o => rfl
  | r => rfl
  | @s a ρ ρ' i o h ih =>
    rw [← ih]
    unfold setOb
    rw [get_s]
    split <;> rfl
theorem wp_popR {ρ ρ' : Env} {i : Nat} {v : PV} {Q : R → Env → Prop} {xs : List PV} (h0 : lstAt ρ i = some xs) (h1 : xs.getLast? = some v) (h2 : SetR ρ i (.lst xs.dropLast) ρ') (q : Q (.val v) ρ') : Wp (mPop i) ρ Q := wp_pop h0 h1 (h2.eq ▸ q)
def AppQ (i : Nat) (v : PV) (ρ : Env) (Q : R → Env → Prop) : Prop := ∃ xs ρ3, lstAt ρ i = some xs ∧ xs.length < line ∧ SetR ρ i (.lst (xs ++ [v])) ρ3 ∧ Q (.val .none) ρ3
theorem wp_appendR {a : M} {ρ : Env} {i : Nat} {Q : R → Env → Prop} {xs : List PV} (h0 : lstAt ρ i = some xs) (h : Wp a ρ fun x ρ1 => FrzQ x ρ1 fun v ρ2 => AppQ i v ρ2 Q) : Wp (mAppend i a) ρ Q := by
  refine wp_append h0 (h.mono fun x ρ1 ⟨v, ρ2, e, xs, ρ3, h1, h2, h3, q⟩ => ⟨v, ρ2, e, xs, h1, h2, ?_⟩)
  rw [h3.eq]; exact q
/-- a call with one object -/
def CallQ (is : List Nat) (r : R) (os : List Ob) (ρ : Env) (Q : R → Env → Prop) : Prop := Q r (setObs is os ρ)
theorem callq0 {r : R} {ρ : Env} {Q : R → Env → Prop} (q : Q r ρ) : CallQ [] r [] ρ Q := q
theorem callq1 {i : Nat} {o : Ob} {r : R} {ρ ρ' : Env} {Q : R → Env → Prop} (h : SetR ρ i o ρ') (q : Q r ρ') : CallQ [i] r [o] ρ Q := by
  show Q r (setOb ρ i o)
  rw [h.eq]; exact q
theorem callq2 {i j : Nat} {o p : Ob} {r : R} {ρ ρ1 ρ2 : Env} {Q : R → Env → Prop} (h : SetR ρ i o ρ1) (h2 : SetR ρ1 j p ρ2) (q : Q r ρ2) : CallQ [i, j] r [o, p] ρ Q := by
  show Q r (setOb (setOb ρ i o) j p)
  rw [h.eq, h2.eq]; exact q
inductive RefsR : List Ag → List Nat → Prop
  | nil : RefsR [] []
  | v {a : M} {r : List Ag} {is : List Nat} (h : RefsR r is) : RefsR (.v a :: r) is
  | r {i : Nat} {r : List Ag} {is : List Nat} (h : RefsR r is) : RefsR (.r i :: r) (i :: is)
theorem RefsR.eq {ags is} (h : RefsR ags is) : refsOf ags = is := by
  induction h with
  | nil => rfl
  | v _ ih => exact ih
  | r _ ih => exact congrArg _ ih
theorem wp_callR {d : Den} {ags : List Ag} {is : List Nat} {ρ : Env} {Q : R → Env → Prop} (e' : RefsR ags is) (nd : is.Nodup) (h : Wp (agsEval ags) ρ fun ss ρ1 => Ret d ss fun r os => CallQ is r os ρ1 Q) : Wp (mCall d ags) ρ Q := by
  have e := e'.eq
  subst e; exact wp_call nd h
/-- names forgotten -/
inductive FgtR : Nat → Env → Env → Prop
  | z {a : Option Sl} {ρ : Env} (h : isRef a = false) : FgtR 0 (a :: ρ) (none :: ρ)
  | k {o : Ob} {ρ : Env} : FgtR 0 (some (.ref o) :: ρ) (some (.ref o) :: ρ)
  | s {a : Option Sl} {i : Nat} {ρ ρ' : Env} (h : FgtR i ρ ρ') : FgtR (i + 1) (a :: ρ) (a :: ρ')
theorem FgtR.eq {i ρ ρ'} (h : FgtR i ρ ρ') : (if isRef (get ρ i) then ρ else ρ.set i none) = ρ' := by
  induction h with
  | z h => simp [get_z, h]
  | k => rfl
  | @s a i ρ ρ' h ih =>
    rw [get_s, set_s, ← ih]
    split <;> rfl
inductive FgtsR : List Nat → Env → Env → Prop
  | nil {ρ : Env} : FgtsR [] ρ ρ
  | cons {i : Nat} {r : List Nat} {ρ ρ1 ρ2 : Env} (h : FgtsR r ρ ρ1) (h2 : FgtR i ρ1 ρ2) : FgtsR (i :: r) ρ ρ2
theorem FgtsR.eq {is ρ ρ'} (h : FgtsR is ρ ρ') : forget is ρ = ρ' := by
  induction h with
  | nil => rfl
  | cons _ h2 ih => rw [← h2.eq, ← ih]; rfl
def FgtQ (is : List Nat) (QS : Fl → Env → Prop) (f : Fl) (ρ : Env) : Prop := match f with | .rt r => QS (.rt r) ρ | f => QS f (forget is ρ)
theorem wp_fgtR {is : List Nat} {s : SM} {ρ : Env} {QS : Fl → Env → Prop} (h : Wp s ρ (FgtQ is QS)) : Wp (sFgt is s) ρ QS := wp_fgt h
section
variable {is : List Nat} {ρ ρ' : Env} {QS : Fl → Env → Prop} {r : R}
theorem fgt_nx (h : FgtsR is ρ ρ') (q : QS .nx ρ') : FgtQ is QS .nx ρ := by show QS .nx (forget is ρ); rw [h.eq]; exact q
theorem fgt_bk (h : FgtsR is ρ ρ') (q : QS .bk ρ') : FgtQ is QS .bk ρ := by show QS .bk (forget is ρ); rw [h.eq]; exact q
theorem fgt_ct (h : FgtsR is ρ ρ') (q : QS .ct ρ') : FgtQ is QS .ct ρ := by show QS .ct (forget is ρ); rw [h.eq]; exact q
theorem fgt_rt (q : QS (.rt r) ρ) : FgtQ is QS (.rt r) ρ := q
theorem turn_ct {N : Env → Prop} {Q : Fl → Env → Prop} (h : N ρ) : TurnQ N Q .ct ρ := h
theorem turn_bk {N : Env → Prop} {Q : Fl → Env → Prop} (h : Q .nx ρ) : TurnQ N Q .bk ρ := h
end
/-- a loop over a row of values, by how many are gone through -/
theorem wp_loopK {m : MG} {s : SM} {ρ : Env} {QS : Fl → Env → Prop} {xs : List PV} (P : Nat → Env → Prop) (h0 : P 0 ρ)
    (step : ∀ k (hk : k < xs.length) ρ, P k ρ → PutQ m (.val xs[k]) ρ fun ρ1 => Wp s ρ1 (TurnQ (P (k + 1)) QS)) (hd : ∀ ρ, P xs.length ρ → QS .nx ρ) : Wp (loopF m s xs) ρ QS := by
  have := wp_loop (m := m) (s := s) (QS := QS) (ρ := ρ) (fun x : PV => x) (fun done ρ => P done.length ρ) xs h0 (fun done y rest ρ e p => ?_) hd
  · rwa [List.map_id''] at this; intro; rfl
  · have hk : done.length < xs.length := by rw [e]; simp
    have hy : xs[done.length] = y := by simp [e]
    have h := step done.length hk ρ p
    rw [hy] at h
    simpa using h
theorem wp_forN {a : M} {m : MG} {s : SM} {ρ : Env} {QS : Fl → Env → Prop} (P : Nat → Env → Prop) (n : Nat)
    (h : Wp a ρ fun x ρ1 => look x ρ1 = some (.pv (.int n)) ∧ n ≤ line ∧ P 0 ρ1) (step : ∀ k ρ, k < n → P k ρ → PutQ m (.val (.int k)) ρ fun ρ1 => Wp s ρ1 (TurnQ (P (k + 1)) QS)) (hd : ∀ ρ, P n ρ → QS .nx ρ) : Wp (sFor (iRng1 a) m s) ρ QS := by
  refine wp_for (wp_rng1 (h.mono fun x ρ1 ⟨e, hz, h0⟩ => ⟨n, e, ⟨by exact_mod_cast hz, by omega⟩, ?_⟩))
  refine wp_loopK P h0 (fun k hk ρ p => ?_) (fun ρ p => hd ρ ?_)
  · simp at hk
    simpa using step k ρ hk p
  · simpa using p
theorem wp_forL {it : M} {m : MG} {s : SM} {ρ : Env} {QS : Fl → Env → Prop} (P : Nat → Env → Prop)  (xs : List PV)
    (h : Wp it ρ fun x ρ1 => (x = .val (.list xs) ∨ x = .val (.tuple xs) ∨ x = .new (.lst xs)) ∧ P 0 ρ1) (step : ∀ k (hk : k < xs.length) ρ, P k ρ → PutQ m (.val xs[k]) ρ fun ρ1 => Wp s ρ1 (TurnQ (P (k + 1)) QS)) (hd : ∀ ρ, P xs.length ρ → QS .nx ρ) : Wp (sFor (iSeq it) m s) ρ QS := by
  refine wp_for (wp_seqI (h.mono fun x ρ1 ⟨e, h0⟩ => ⟨xs, e, ?_⟩))
  exact wp_loopK P h0 step hd
theorem mulOk_of {a b : Int} (m n : Nat) (ha : a.natAbs < 2 ^ m) (hb : b.natAbs < 2 ^ n) (h : m + n < 100000000 := by decide) : mulOk a b = true := by
  have h1 : a.natAbs.log2 ≤ m := by
    by_cases h0 : a.natAbs = 0
    · rw [h0]; simp
    · exact Nat.le_of_lt ((Nat.log2_lt h0).mpr ha)
  have h2 : b.natAbs.log2 ≤ n := by
    by_cases h0 : b.natAbs = 0
    · rw [h0]; simp
    · exact Nat.le_of_lt ((Nat.log2_lt h0).mpr hb)
  unfold mulOk
  exact decide_eq_true (by omega)
theorem parq {i j : Nat} {v w : PV} {ρ ρ1 ρ2 : Env} {Q : Env → Prop} (h : PutR i (some (.val v)) ρ ρ1) (h2 : PutR j (some (.val w)) ρ1 ρ2) (q : Q ρ2) : ∃ ρ5 ρ6, put i (some (.val v)) ρ = some ρ5 ∧ put j (some (.val w)) ρ5 = some ρ6 ∧ Q ρ6 := ⟨ρ1, ρ2, h.put, h2.put, q⟩
theorem ixN_nat {n j : Nat} (h : j < n) : ixN n (j : Int) = some j := by
  unfold ixN
  rw [if_pos (by omega), if_pos (by omega)]
  simp
def IxQ (i : Nat) (v : PV) (y : R) (ρ : Env) (Q : Env → Prop) : Prop := ∃ k xs j ρ4, look y ρ = some (.pv (.int k)) ∧ lstAt ρ i = some xs ∧ ixN xs.length k = some j ∧ SetR ρ i (.lst (xs.set j v)) ρ4 ∧ Q ρ4
theorem ixq {i j : Nat} {v : PV} {y : R} {ρ ρ4 : Env} {Q : Env → Prop} {xs : List PV} (h1 : look y ρ = some (.pv (.int (j : Int)))) (h2 : lstAt ρ i = some xs) (h3 : j < xs.length) (h4 : SetR ρ i (.lst (xs.set j v)) ρ4) (q : Q ρ4) : IxQ i v y ρ Q := ⟨_, _, _, _, h1, h2, ixN_nat h3, h4, q⟩
theorem wp_setIxR {a b : M} {ρ : Env} {i : Nat} {QS : Fl → Env → Prop} (h : Wp a ρ fun x ρ1 => FrzQ x ρ1 fun v ρ2 => ∃ ys, lstAt ρ2 i = some ys ∧ Wp b ρ2 fun y ρ3 => IxQ i v y ρ3 fun ρ4 => QS .nx ρ4) : Wp (sSetIx i b a) ρ QS := by
  refine wp_setIx (h.mono fun x ρ1 ⟨v, ρ2, e, ys, h1, h2⟩ => ⟨v, ρ2, e, ys, h1, h2.mono fun y ρ3 ⟨k, xs, j, ρ4, h3, h4, h5, h6, q⟩ => ⟨k, xs, j, h3, h4, h5, ?_⟩⟩)
  rw [h6.eq]; exact q
theorem wp_reverseR {ρ ρ' : Env} {i : Nat} {Q : R → Env → Prop} {xs : List PV} (h0 : lstAt ρ i = some xs) (h2 : SetR ρ i (.lst xs.reverse) ρ') (q : Q (.val .none) ρ') : Wp (mReverse i) ρ Q := wp_reverse h0 (h2.eq ▸ q)
/-- a comprehension over a list, no test -/
def ElQ (e : M) (ρ : Env) (Q : PV → Env → Prop) : Prop := Wp e ρ fun r ρ3 => FrzQ r ρ3 Q
theorem appq {ρ ρ3 : Env} {i : Nat} {xs : List PV} {v : PV} {Q : R → Env → Prop} (h1 : lstAt ρ i = some xs) (h2 : xs.length < line) (h3 : SetR ρ i (.lst (xs ++ [v])) ρ3) (q : Q (.val .none) ρ3) : AppQ i v ρ Q := ⟨xs, ρ3, h1, h2, h3, q⟩
theorem fmod_ix (i : Int) {n : Nat} (h : 0 < n) : ∃ j : Nat, i.fmod n = j ∧ j < n := by
  have h1 := Int.fmod_nonneg_of_pos i (b := n) (by omega)
  have h2 := Int.fmod_lt_of_pos i (b := n) (by omega)
  obtain ⟨j, hj⟩ := Int.eq_ofNat_of_zero_le h1
  exact ⟨j, hj, by omega⟩
/-- what holds behind a statement -/
theorem wp_mid {s s2 : SM} {ρ : Env} {QS : Fl → Env → Prop} (P : Env → Prop) (h1 : Wp s ρ fun f ρ' => f = Fl.nx ∧ P ρ') (h2 : ∀ ρ', P ρ' → Wp s2 ρ' QS) : Wp s ρ (SeqQ s2 QS) :=
  h1.mono fun f ρ' ⟨e, q⟩ => by rw [e]; exact h2 ρ' q
theorem mulB {a b : Int} {m n : Nat} (ha : Builtin.Int.intBits a ≤ m) (hb : Builtin.Int.intBits b ≤ n) (h : m + n < 100000000 := by decide) : mulOk a b = true :=
  mulOk_of m n (intBits_le_iff.mp ha) (intBits_le_iff.mp hb) h
theorem frzB {i : Nat} {o : Ob} {v : PV} {ρ ρ' : Env} {Q : PV → Env → Prop} (h : get ρ i = some (.own o)) (h2 : frzO o = some v) (h3 : PutR i (some (.val v)) ρ ρ') (q : Q v ρ') : FrzQ (.bor i) ρ Q := by
  refine ⟨v, ρ', ?_, q⟩
  have : isRef (get ρ i) = false ∧ ρ.set i (some (.val v)) = ρ' := by
    have e := h3.put
    simp only [put, h, isRef, Bool.false_eq_true, if_false] at e
    rw [h]
    exact ⟨rfl, Option.some.inj e⟩
  simp [frz, h, h2, this.2]
abbrev sOf (s : String) : Str := PySem.Str.ofString s
theorem ev_strT {s : Str} : fEq (.pv (.str s)) (.pv (.str s)) = some (.val (.bool true)) := by simp [fEq, eqD]
theorem ev_strF {s t : Str} (h : s ≠ t) : fEq (.pv (.str s)) (.pv (.str t)) = some (.val (.bool false)) := by simp [fEq, eqD, h]
theorem n1 : sOf "not" ≠ sOf "is" := by decide
theorem n2 : sOf "all" ≠ sOf "is" := by decide
theorem n3 : sOf "any" ≠ sOf "is" := by decide
theorem n4 : sOf "all" ≠ sOf "not" := by decide
theorem n5 : sOf "any" ≠ sOf "not" := by decide
theorem n6 : sOf "any" ≠ sOf "all" := by decide
theorem wp_test {t : MT} {ρ : Env} {QT : Bool → Env → Prop} (P : Bool → Prop) (h : Wp t ρ fun b ρ1 => ρ1 = ρ ∧ P b) (k : ∀ b, P b → QT b ρ) : Wp t ρ QT := h.mono fun b ρ1 ⟨e, p⟩ => by rw [e]; exact k b p
end Py
namespace D
open Py
noncomputable def b_divisor : SM :=
    (sRet (mOp fGcd (mVar 0) (mVar 1)))
noncomputable def d_divisor : Den := mkDen 2 b_divisor

noncomputable def b_fraction : SM :=
    (sSeq (sAsg (mCall d_divisor [.v (mVar 0), .v (mVar 1)]) (Py.gName 2))
    (sSeq (sIf (mB (mOp fLt (mVar 1) (mC (.int 0)))) (sAsg (mUn fNeg (mVar 2)) (Py.gName 2)) sNext)
    (sRet (mTup (lCons (mOp fDiv (mVar 0) (mVar 2)) (lCons (mOp fDiv (mVar 1) (mVar 2)) lNil))))))
noncomputable def d_fraction : Den := mkDen 3 b_fraction

noncomputable def b_plus : SM :=
    (sRet (mCall d_fraction [.v (mOp fAdd (mOp fMul (mOp fIx (mVar 0) (mC (.int 0))) (mOp fIx (mVar 1) (mC (.int 1)))) (mOp fMul (mOp fIx (mVar 1) (mC (.int 0))) (mOp fIx (mVar 0) (mC (.int 1))))), .v (mOp fMul (mOp fIx (mVar 0) (mC (.int 1))) (mOp fIx (mVar 1) (mC (.int 1))))]))
noncomputable def d_plus : Den := mkDen 2 b_plus

noncomputable def b_minus : SM :=
    (sRet (mCall d_fraction [.v (mOp fSub (mOp fMul (mOp fIx (mVar 0) (mC (.int 0))) (mOp fIx (mVar 1) (mC (.int 1)))) (mOp fMul (mOp fIx (mVar 1) (mC (.int 0))) (mOp fIx (mVar 0) (mC (.int 1))))), .v (mOp fMul (mOp fIx (mVar 0) (mC (.int 1))) (mOp fIx (mVar 1) (mC (.int 1))))]))
noncomputable def d_minus : Den := mkDen 2 b_minus

noncomputable def b_times : SM :=
    (sRet (mCall d_fraction [.v (mOp fMul (mOp fIx (mVar 0) (mC (.int 0))) (mOp fIx (mVar 1) (mC (.int 0)))), .v (mOp fMul (mOp fIx (mVar 0) (mC (.int 1))) (mOp fIx (mVar 1) (mC (.int 1))))]))
noncomputable def d_times : Den := mkDen 2 b_times

noncomputable def b_is_less : SM :=
    (sRet (mOp fLt (mOp fMul (mOp fIx (mVar 0) (mC (.int 0))) (mOp fIx (mVar 1) (mC (.int 1)))) (mOp fMul (mOp fIx (mVar 1) (mC (.int 0))) (mOp fIx (mVar 0) (mC (.int 1))))))
noncomputable def d_is_less : Den := mkDen 2 b_is_less

noncomputable def e1_law_draws : M :=
    (mUn fInt (mVar 8))
noncomputable def l2_law_draws : SM :=
    (sFgt [5, 6, 7] (sSeq (sAsg (mOp fMod (mVar 5) (mUn fLen (mVar 2))) (Py.gName 6))
    (sIf (mB (mOp fGe (mOp fIx (mVar 2) (mVar 6)) (mOp fPow (mC (.int 10)) (mC (.int 18))))) (sSeq (sExpr (mAppend 4 (mOp fMod (mUn fInt (mOp fIx (mVar 3) (mVar 6))) (mC (.int 1000)))))
    (sSetIx 3 (mVar 6) (mOp fDiv (mOp fIx (mVar 3) (mVar 6)) (mC (.int 1000))))) (sSeq (sAsg (mOp fMod (mUn fInt (mOp fAdd (mOp fAdd (mOp fMul (mOp fIx (mVar 2) (mVar 6)) (mC (.int 48271))) (mOp fMul (mVar 5) (mC (.int 69621)))) (mC (.int 11)))) (mC (.int 2147483647))) (Py.gName 7))
    (sExpr (mAppend 4 (mOp fMod (mUn fInt (mOp fAdd (mOp fAdd (mOp fMul (mVar 7) (mVar 7)) (mOp fMul (mC (.int 3)) (mVar 7))) (mVar 5))) (mC (.int 1000003)))))))))
noncomputable def b_law_draws : SM :=
    (sSeq (sAsg (mLc (iSeq (mFrz (mVar 0))) (Py.gName 8) [8] tYes e1_law_draws) (Py.gName 2))
    (sSeq (sIf (mB (mOp fEq (mUn fLen (mVar 2)) (mC (.int 0)))) (sExpr (mAppend 2 (mC (.int 0)))) sNext)
    (sSeq (sAsg (mUn fList (mVar 2)) (Py.gName 3))
    (sSeq (sAsg (mLst lNil) (Py.gName 4))
    (sSeq (sFor (Py.iRng1 (mVar 1)) (Py.gName 5) l2_law_draws)
    (sSeq (sExpr (mReverse 4))
    (sRet (mVar 4))))))))
noncomputable def d_law_draws : Den := mkDen 9 b_law_draws

noncomputable def b_law_take : SM :=
    (sSeq (sIf (mB (mOp fEq (mUn fLen (mVar 0)) (mC (.int 0)))) (sRet (mC (.int 0))) sNext)
    (sRet (mOp fMod (mUn fInt (mPop 0)) (mVar 1))))
noncomputable def d_law_take : Den := mkDen 2 b_law_take

noncomputable def b_law_cell : SM :=
    (sSeq (sIf (mB (mOp fEq (mUn fLen (mVar 0)) (mC (.int 0)))) (sRet (mC (.int 0))) sNext)
    (sRet (mUn fInt (mOp fIx (mVar 0) (mOp fMod (mUn fInt (mVar 1)) (mUn fLen (mVar 0)))))))
noncomputable def d_law_cell : Den := mkDen 2 b_law_cell

noncomputable def b_law_huge : SM :=
    (sSeq (sAsg (mOp fIx (mLst (lCons (mC (.int 1)) (lCons (mOp fPow (mC (.int 10)) (mC (.int 3))) (lCons (mOp fPow (mC (.int 10)) (mC (.int 9))) (lCons (mOp fPow (mC (.int 10)) (mC (.int 15))) (lCons (mOp fPow (mC (.int 10)) (mC (.int 21))) (lCons (mOp fPow (mC (.int 10)) (mC (.int 27))) lNil))))))) (mCall d_law_take [.r 1, .v (mC (.int 6))])) (Py.gName 2))
    (sSeq (sAsg (mOp fAdd (mCall d_law_cell [.v (mVar 0), .v (mCall d_law_take [.r 1, .v (mC (.int 63))])]) (mOp fMul (mOp fAdd (mC (.int 1)) (mCall d_law_take [.r 1, .v (mC (.int 999))])) (mVar 2))) (Py.gName 3))
    (sRet (mOp fMod (mUn fInt (mVar 3)) (mOp fPow (mC (.int 10)) (mC (.int 30)))))))
noncomputable def d_law_huge : Den := mkDen 4 b_law_huge

noncomputable def l1_law_divisor : SM :=
    (sFgt [] (sPar 0 1 (mVar 1) (mOp fMod (mUn fInt (mVar 0)) (mVar 1))))
noncomputable def t2_law_divisor : MT :=
    (mB (mOp fNe (mVar 1) (mC (.int 0))))
noncomputable def b_law_divisor : SM :=
    (sSeq (sAsg (mUn fAbs (mVar 0)) (Py.gName 0))
    (sSeq (sAsg (mUn fAbs (mVar 1)) (Py.gName 1))
    (sSeq (sFgt [1] (sWhile t2_law_divisor l1_law_divisor))
    (sRet (mVar 0)))))
noncomputable def d_law_divisor : Den := mkDen 2 b_law_divisor

noncomputable def b_law_ratio : SM :=
    (sSeq (sAsg (mCall d_law_divisor [.v (mVar 0), .v (mVar 1)]) (Py.gName 2))
    (sSeq (sIf (mB (mOp fLt (mVar 1) (mC (.int 0)))) (sAsg (mUn fNeg (mVar 2)) (Py.gName 2)) sNext)
    (sRet (mTup (lCons (mOp fDiv (mVar 0) (mVar 2)) (lCons (mOp fDiv (mVar 1) (mVar 2)) lNil))))))
noncomputable def d_law_ratio : Den := mkDen 3 b_law_ratio

noncomputable def b_law_plus : SM :=
    (sRet (mCall d_law_ratio [.v (mOp fAdd (mOp fMul (mOp fIx (mVar 0) (mC (.int 0))) (mOp fIx (mVar 1) (mC (.int 1)))) (mOp fMul (mOp fIx (mVar 1) (mC (.int 0))) (mOp fIx (mVar 0) (mC (.int 1))))), .v (mOp fMul (mOp fIx (mVar 0) (mC (.int 1))) (mOp fIx (mVar 1) (mC (.int 1))))]))
noncomputable def d_law_plus : Den := mkDen 2 b_law_plus

noncomputable def b_law_minus : SM :=
    (sRet (mCall d_law_ratio [.v (mOp fSub (mOp fMul (mOp fIx (mVar 0) (mC (.int 0))) (mOp fIx (mVar 1) (mC (.int 1)))) (mOp fMul (mOp fIx (mVar 1) (mC (.int 0))) (mOp fIx (mVar 0) (mC (.int 1))))), .v (mOp fMul (mOp fIx (mVar 0) (mC (.int 1))) (mOp fIx (mVar 1) (mC (.int 1))))]))
noncomputable def d_law_minus : Den := mkDen 2 b_law_minus

noncomputable def b_law_times : SM :=
    (sRet (mCall d_law_ratio [.v (mOp fMul (mOp fIx (mVar 0) (mC (.int 0))) (mOp fIx (mVar 1) (mC (.int 0)))), .v (mOp fMul (mOp fIx (mVar 0) (mC (.int 1))) (mOp fIx (mVar 1) (mC (.int 1))))]))
noncomputable def d_law_times : Den := mkDen 2 b_law_times

noncomputable def b_law_less : SM :=
    (sRet (mOp fLt (mOp fMul (mOp fIx (mVar 0) (mC (.int 0))) (mOp fIx (mVar 1) (mC (.int 1)))) (mOp fMul (mOp fIx (mVar 1) (mC (.int 0))) (mOp fIx (mVar 0) (mC (.int 1))))))
noncomputable def d_law_less : Den := mkDen 2 b_law_less

noncomputable def l1_law_same (self : Den) : SM :=
    (sFgt [2] (sIf (mNot (mTru (mCall self [.v (mOp fIx (mVar 0) (mVar 2)), .v (mOp fIx (mVar 1) (mVar 2))]))) (sRet (mC (.bool false))) sNext))
noncomputable def b_law_same (self : Den) : SM :=
    (sSeq (sIf (mB (mOp (fIs false) (mVar 1) (mC .none))) (sRet (mOp (fIs false) (mVar 0) (mC .none))) sNext)
    (sSeq (sIf (mTru (mUn (fIsi .bool) (mVar 1))) (sRet (mAndV (mUn (fIsi .bool) (mVar 0)) (mOp fEq (mVar 0) (mVar 1)))) sNext)
    (sSeq (sIf (mTru (mUn (fIsi .int) (mVar 1))) (sRet (mAndV (mUn (fIsi .int) (mVar 0)) (mAndV (mNotV (mUn (fIsi .bool) (mVar 0))) (mOp fEq (mVar 0) (mVar 1))))) sNext)
    (sSeq (sIf (mTru (mUn (fIsi .str) (mVar 1))) (sRet (mAndV (mUn (fIsi .str) (mVar 0)) (mOp fEq (mVar 0) (mVar 1)))) sNext)
    (sSeq (sIf (mOr (mNot (mTru (mUn (fIsi .tuple) (mVar 0)))) (mB (mOp fNe (mUn fLen (mVar 0)) (mUn fLen (mVar 1))))) (sRet (mC (.bool false))) sNext)
    (sSeq (sFor (Py.iRng1 (mUn fLen (mVar 1))) (Py.gName 2) (l1_law_same self))
    (sRet (mC (.bool true)))))))))
noncomputable def d_law_same : Nat → Den
  | 0 => fun _ => none
  | n + 1 => mkDen 3 (b_law_same (d_law_same n))

noncomputable def b_law_drawn : SM :=
    (sSeq (sAsg (mCall d_law_take [.r 1, .v (mC (.int 16))]) (Py.gName 2))
    (sSeq (sAsg (mOp fSub (mCall d_law_take [.r 1, .v (mC (.int 13))]) (mC (.int 6))) (Py.gName 3))
    (sSeq (sAsg (mOp fAdd (mC (.int 1)) (mCall d_law_take [.r 1, .v (mC (.int 6))])) (Py.gName 4))
    (sSeq (sIf (mB (mOp fLt (mVar 2) (mC (.int 8)))) (sAsg (mC (.int 1)) (Py.gName 4)) sNext)
    (sSeq (sIf (mB (mOp fEq (mVar 2) (mC (.int 15)))) (sAsg (mOp fDiv (mOp fMul (mVar 3) (mCall d_law_huge [.v (mVar 0), .r 1])) (mC (.int 7))) (Py.gName 3)) sNext)
    (sSeq (sIf (mOr (mB (mOp fEq (mVar 2) (mC (.int 14)))) (mB (mOp fEq (mVar 2) (mC (.int 15))))) (sAsg (mOp fAdd (mC (.int 1)) (mOp fDiv (mCall d_law_huge [.v (mVar 0), .r 1]) (mC (.int 2)))) (Py.gName 4)) sNext)
    (sRet (mCall d_law_ratio [.v (mVar 3), .v (mVar 4)]))))))))
noncomputable def d_law_drawn : Den := mkDen 5 b_law_drawn

noncomputable def b_law_size : SM :=
    (sSeq (sAsg (mCall d_law_take [.r 0, .v (mC (.int 6))]) (Py.gName 2))
    (sSeq (sAsg (mCall d_law_take [.r 0, .v (mC (.int 10))]) (Py.gName 3))
    (sSeq (sIf (mB (mOp fEq (mVar 3) (mC (.int 0)))) (sAsg (mOp fAdd (mVar 2) (mOp fMul (mOp fAdd (mC (.int 1)) (mCall d_law_take [.r 0, .v (mC (.int 1000))])) (mOp fIx (mLst (lCons (mOp fPow (mC (.int 10)) (mC (.int 3))) (lCons (mOp fPow (mC (.int 10)) (mC (.int 9))) (lCons (mOp fPow (mC (.int 10)) (mC (.int 18))) (lCons (mOp fPow (mC (.int 10)) (mC (.int 40))) lNil))))) (mCall d_law_take [.r 0, .v (mC (.int 4))])))) (Py.gName 2)) sNext)
    (sSeq (sIf (mB (mOp fEq (mVar 3) (mC (.int 1)))) (sAsg (mOp fAdd (mVar 2) (mUn fAbs (mCall d_law_cell [.v (mVar 1), .v (mCall d_law_take [.r 0, .v (mC (.int 63))])]))) (Py.gName 2)) sNext)
    (sRet (mVar 2))))))
noncomputable def d_law_size : Den := mkDen 4 b_law_size

noncomputable def l1_law_common : SM :=
    (sFgt [] (sPar 0 1 (mVar 1) (mOp fMod (mUn fInt (mVar 0)) (mVar 1))))
noncomputable def t2_law_common : MT :=
    (mB (mOp fGt (mVar 1) (mC (.int 0))))
noncomputable def b_law_common : SM :=
    (sSeq (sPar 0 1 (mUn fAbs (mVar 0)) (mUn fAbs (mVar 1)))
    (sSeq (sFgt [1] (sWhile t2_law_common l1_law_common))
    (sRet (mVar 0))))
noncomputable def d_law_common : Den := mkDen 2 b_law_common

noncomputable def b_law_fraction : SM :=
    (sSeq (sAsg (mCall d_law_common [.v (mVar 0), .v (mVar 1)]) (Py.gName 2))
    (sSeq (sIf (mB (mOp fLt (mVar 1) (mC (.int 0)))) (sAsg (mUn fNeg (mVar 2)) (Py.gName 2)) sNext)
    (sRet (mTup (lCons (mOp fDiv (mVar 0) (mVar 2)) (lCons (mOp fDiv (mVar 1) (mVar 2)) lNil))))))
noncomputable def d_law_fraction : Den := mkDen 3 b_law_fraction

noncomputable def l1_sums_with : SM :=
    (sFgt [4] (Py.sDput 2 (mOp fAdd (mVar 3) (mVar 4)) (mOp fAdd (mDgetD (mVar 2) (mOp fAdd (mVar 3) (mVar 4)) (mC (.int 0))) (mOp fDget (mVar 0) (mVar 3)))))
noncomputable def l2_sums_with : SM :=
    (sFgt [3, 4] (sFor (iSeq (mFrz (mVar 1))) (Py.gName 4) l1_sums_with))
noncomputable def b_sums_with : SM :=
    (sSeq (sAsg mDct0 (Py.gName 2))
    (sSeq (sLock 0 (sFor (iKeysL 0) (Py.gName 3) l2_sums_with))
    (sRet (mVar 2))))
noncomputable def d_sums_with : Den := mkDen 5 b_sums_with

noncomputable def l1_ways_of : SM :=
    (sFgt [2] (sAsg (mCall d_sums_with [.r 1, .v (mVar 2)]) (Py.gName 1)))
noncomputable def b_ways_of : SM :=
    (sSeq (sAsg (mDctC [(0, 1)]) (Py.gName 1))
    (sSeq (sFor (iSeq (mFrz (mVar 0))) (Py.gName 2) l1_ways_of)
    (sRet (mVar 1))))
noncomputable def d_ways_of : Den := mkDen 3 b_ways_of

noncomputable def e1_sums : M :=
    (mTup (lCons (mVar 2) (lCons (mOp fDget (mVar 1) (mVar 2)) lNil)))
noncomputable def b_sums : SM :=
    (sSeq (sAsg (mCall d_ways_of [.v (mVar 0)]) (Py.gName 1))
    (sRet (mUn fTuple (mLc (iSeq (mUn fSortedD (mVar 1))) (Py.gName 2) [2] tYes e1_sums))))
noncomputable def d_sums : Den := mkDen 3 b_sums

noncomputable def e1_law_die : M :=
    (mOp fAdd (mVar 4) (mCall d_law_take [.r 0, .v (mVar 3)]))
noncomputable def b_law_die : SM :=
    (sSeq (sAsg (mVar 2) (Py.gName 3))
    (sSeq (sIf (mB (mOp fEq (mCall d_law_take [.r 0, .v (mC (.int 4))]) (mC (.int 0)))) (sAsg (mOp fMin2 (mVar 2) (mC (.int 3))) (Py.gName 3)) sNext)
    (sSeq (sAsg (mOp fAdd (mC (.int 1)) (mCall d_law_take [.r 0, .v (mOp fAdd (mOp fSub (mVar 2) (mVar 3)) (mC (.int 1)))])) (Py.gName 4))
    (sRet (mUn fTuple (mUn fSorted (mLc (Py.iRng1 (mVar 1)) (Py.gName 5) [5] tYes e1_law_die)))))))
noncomputable def d_law_die : Den := mkDen 6 b_law_die

noncomputable def l1_law_ways : SM :=
    (sFgt [5] (Py.sDput 3 (mOp fAdd (mVar 4) (mVar 5)) (mOp fAdd (mDgetD (mVar 3) (mOp fAdd (mVar 4) (mVar 5)) (mC (.int 0))) (mOp fDget (mVar 1) (mVar 4)))))
noncomputable def l2_law_ways : SM :=
    (sFgt [4, 5] (sFor (iSeq (mFrz (mVar 2))) (Py.gName 5) l1_law_ways))
noncomputable def l3_law_ways : SM :=
    (sFgt [2, 3, 4, 5] (sSeq (sAsg mDct0 (Py.gName 3))
    (sSeq (sFor (iSeq (mUn fSortedD (mVar 1))) (Py.gName 4) l2_law_ways)
    (sMove 1 3))))
noncomputable def b_law_ways : SM :=
    (sSeq (sAsg (mDctC [(0, 1)]) (Py.gName 1))
    (sSeq (sFor (iSeq (mFrz (mVar 0))) (Py.gName 2) l3_law_ways)
    (sRet (mVar 1))))
noncomputable def d_law_ways : Den := mkDen 6 b_law_ways

noncomputable def e1_law_sums : M :=
    (mTup (lCons (mVar 2) (lCons (mOp fDget (mVar 1) (mVar 2)) lNil)))
noncomputable def b_law_sums : SM :=
    (sSeq (sAsg (mCall d_law_ways [.v (mVar 0)]) (Py.gName 1))
    (sRet (mUn fTuple (mLc (iSeq (mUn fSortedD (mVar 1))) (Py.gName 2) [2] tYes e1_law_sums))))
noncomputable def d_law_sums : Den := mkDen 3 b_law_sums

noncomputable def l1_throws : SM :=
    (sFgt [2] (sAug 1 fMulI (mUn fLen (mVar 2))))
noncomputable def b_throws : SM :=
    (sSeq (sAsg (mC (.int 1)) (Py.gName 1))
    (sSeq (sFor (iSeq (mFrz (mVar 0))) (Py.gName 2) l1_throws)
    (sRet (mVar 1))))
noncomputable def d_throws : Den := mkDen 3 b_throws

noncomputable def l1_alike : SM :=
    (sFgt [4] (sIf (mB (mOp fNe (mOp fMul (mDgetD (mVar 2) (mVar 4) (mC (.int 0))) (mCall d_throws [.v (mVar 1)])) (mOp fMul (mDgetD (mVar 3) (mVar 4) (mC (.int 0))) (mCall d_throws [.v (mVar 0)])))) (sRet (mVar 4)) sNext))
noncomputable def b_alike : SM :=
    (sSeq (sParN 2 3 (mCall d_ways_of [.v (mVar 0)]) (mCall d_ways_of [.v (mVar 1)]))
    (sSeq (sFor (iSeq (mUn fSSet (mOp fAdd (mUn fSortedD (mVar 2)) (mUn fSortedD (mVar 3))))) (Py.gName 4) l1_alike)
    (sRet (mC .none))))
noncomputable def d_alike : Den := mkDen 5 b_alike

noncomputable def l1_law_order : SM :=
    (sFgt [4] (sExpr (mAppend 3 (mPopAt 2 (mCall d_law_take [.r 0, .v (mUn fLen (mVar 2))])))))
noncomputable def b_law_order : SM :=
    (sSeq (sAsg (mUn fList (mVar 1)) (Py.gName 2))
    (sSeq (sAsg (mLst lNil) (Py.gName 3))
    (sSeq (sFor (Py.iRng1 (mUn fLen (mVar 1))) (Py.gName 4) l1_law_order)
    (sRet (mUn fTuple (mVar 3))))))
noncomputable def d_law_order : Den := mkDen 5 b_law_order

noncomputable def l1_law_is_sums : SM :=
    (sFgt [3] (sIf (mOr (mNot (mTru (mUn (fIsi .int) (mVar 3)))) (mTru (mUn (fIsi .bool) (mVar 3)))) (sRet (mC (.bool false))) sNext))
noncomputable def l2_law_is_sums : SM :=
    (sFgt [1, 2, 3] (sSeq (sAsg (mOp fIx (mVar 0) (mVar 1)) (Py.gName 2))
    (sSeq (sIf (mOr (mNot (mTru (mUn (fIsi .tuple) (mVar 2)))) (mB (mOp fNe (mUn fLen (mVar 2)) (mC (.int 2))))) (sRet (mC (.bool false))) sNext)
    (sSeq (sFor (iSeq (mFrz (mVar 2))) (Py.gName 3) l1_law_is_sums)
    (sIf (mOr (mB (mOp fLt (mOp fIx (mVar 2) (mC (.int 1))) (mC (.int 1)))) (mAnd (mB (mOp fGt (mVar 1) (mC (.int 0)))) (mB (mOp fLe (mOp fIx (mVar 2) (mC (.int 0))) (mOp fIx (mOp fIx (mVar 0) (mOp fSub (mVar 1) (mC (.int 1)))) (mC (.int 0))))))) (sRet (mC (.bool false))) sNext)))))
noncomputable def b_law_is_sums : SM :=
    (sSeq (sIf (mNot (mTru (mUn (fIsi .tuple) (mVar 0)))) (sRet (mC (.bool false))) sNext)
    (sSeq (sFor (Py.iRng1 (mUn fLen (mVar 0))) (Py.gName 1) l2_law_is_sums)
    (sRet (mC (.bool true)))))
noncomputable def d_law_is_sums : Den := mkDen 4 b_law_is_sums

noncomputable def l1_law_joined_k54 : SM :=
    (sFgt [5, 6] (Py.sDput 2 (mOp fAdd (mVar 3) (mVar 5)) (mOp fAdd (mDgetD (mVar 2) (mOp fAdd (mVar 3) (mVar 5)) (mC (.int 0))) (mOp fMul (mVar 4) (mVar 6)))))
noncomputable def l2_law_joined_k54 : SM :=
    (sFgt [4, 5, 6] (sFor (iSeq (mFrz (mVar 1))) (Py.gTup [5, 6]) l1_law_joined_k54))
noncomputable def e3_law_joined_k54 : M :=
    (mTup (lCons (mVar 3) (lCons (mOp fDget (mVar 2) (mVar 3)) lNil)))
noncomputable def b_law_joined_k54 : SM :=
    (sSeq (sAsg mDct0 (Py.gName 2))
    (sSeq (sFor (iSeq (mFrz (mVar 0))) (Py.gTup [3, 4]) l2_law_joined_k54)
    (sRet (mUn fTuple (mLc (iSeq (mUn fSortedD (mVar 2))) (Py.gName 3) [3] tYes e3_law_joined_k54)))))
noncomputable def d_law_joined_k54 : Den := mkDen 7 b_law_joined_k54

noncomputable def b_law_parts_are_right_k54 : SM :=
    (sSeq (sAsg (mCall d_sums [.v (mVar 1)]) (Py.gName 2))
    (sSeq (sIf (mNot (mTru (mCall (d_law_same 40) [.v (mVar 2), .v (mCall d_law_sums [.v (mVar 1)])]))) (sRet (mC (.bool false))) sNext)
    (sSeq (sAsg (mCall d_law_order [.r 0, .v (mVar 1)]) (Py.gName 3))
    (sSeq (sAsg (mCall d_law_take [.r 0, .v (mOp fAdd (mUn fLen (mVar 1)) (mC (.int 1)))]) (Py.gName 4))
    (sSeq (sAsg (mCall d_sums [.v (mSl (mVar 3) oNone (oSome (mVar 4)))]) (Py.gName 5))
    (sSeq (sAsg (mCall d_sums [.v (mSl (mVar 3) (oSome (mVar 4)) oNone)]) (Py.gName 6))
    (sSeq (sIf (mOr (mNot (mTru (mCall d_law_is_sums [.v (mVar 5)]))) (mOr (mNot (mTru (mCall d_law_is_sums [.v (mVar 6)]))) (mNot (mTru (mCall (d_law_same 40) [.v (mCall d_sums [.v (mVar 3)]), .v (mVar 2)]))))) (sRet (mC (.bool false))) sNext)
    (sRet (mAndV (mOp fEq (mCall d_law_joined_k54 [.v (mVar 5), .v (mVar 6)]) (mVar 2)) (mOp (fIs false) (mCall d_alike [.v (mVar 3), .v (mVar 1)]) (mC .none)))))))))))
noncomputable def d_law_parts_are_right_k54 : Den := mkDen 7 b_law_parts_are_right_k54

noncomputable def b_law_with_die_is_right : SM :=
    (sSeq (sAsg (mCall d_alike [.v (mVar 0), .v (mVar 1)]) (Py.gName 3))
    (sSeq (sAsg (mCall d_alike [.v (mOp fAdd (mVar 0) (mTup (lCons (mVar 2) lNil))), .v (mOp fAdd (mTup (lCons (mVar 2) lNil)) (mVar 1))]) (Py.gName 4))
    (sSeq (sIf (mB (mOp (fIs false) (mVar 3) (mC .none))) (sRet (mOp (fIs false) (mVar 4) (mC .none))) sNext)
    (sSeq (sIf (mOr (mNot (mTru (mUn (fIsi .int) (mVar 3)))) (mTru (mUn (fIsi .bool) (mVar 3)))) (sRet (mC (.bool false))) sNext)
    (sRet (mCall (d_law_same 40) [.v (mVar 4), .v (mOp fAdd (mVar 3) (mOp fIx (mVar 2) (mC (.int 0))))]))))))
noncomputable def d_law_with_die_is_right : Den := mkDen 5 b_law_with_die_is_right

noncomputable def e1_law_k54 : M :=
    (mCall d_law_die [.r 1, .v (mOp fAdd (mC (.int 1)) (mCall d_law_take [.r 1, .v (mVar 2)])), .v (mVar 3)])
noncomputable def e2_law_k54 : M :=
    (mCall d_law_die [.r 1, .v (mOp fAdd (mC (.int 1)) (mCall d_law_take [.r 1, .v (mVar 2)])), .v (mVar 3)])
noncomputable def e3_law_k54 : M :=
    (mOp fMin2 (mC (.int 30)) (mOp fAdd (mVar 13) (mC (.int 1))))
noncomputable def l4_law_k54 : SM :=
    (sFgt [8, 9] (sIf (mOr (mNot (mTru (mCall d_law_with_die_is_right [.v (mVar 8), .v (mVar 9), .v (mVar 6)]))) (mNot (mTru (mCall d_law_with_die_is_right [.v (mVar 8), .v (mVar 9), .v (mTup (lCons (mOp fIx (mVar 6) (mC (.int 0))) (lCons (mC (.int 30)) lNil)))])))) (sRet (mC (.bool false))) sNext))
noncomputable def b_law_k54 : SM :=
    (sSeq (sAsg (mCall d_law_draws [.v (mVar 0), .v (mC (.int 140))]) (Py.gName 1))
    (sSeq (sAsg (mOp fIx (mLst (lCons (mTup (lCons (mC (.int 6)) (lCons (mC (.int 12)) lNil))) (lCons (mTup (lCons (mC (.int 6)) (lCons (mC (.int 12)) lNil))) (lCons (mTup (lCons (mC (.int 3)) (lCons (mC (.int 4)) lNil))) (lCons (mTup (lCons (mC (.int 12)) (lCons (mC (.int 30)) lNil))) lNil))))) (mCall d_law_take [.r 1, .v (mC (.int 4))])) (Py.gTup [2, 3]))
    (sSeq (sAsg (mUn fTuple (mLc (Py.iRng1 (mCall d_law_take [.r 1, .v (mC (.int 5))])) (Py.gName 12) [12] tYes e1_law_k54)) (Py.gName 4))
    (sSeq (sAsg (mUn fTuple (mLc (Py.iRng1 (mCall d_law_take [.r 1, .v (mC (.int 4))])) (Py.gName 12) [12] tYes e2_law_k54)) (Py.gName 5))
    (sSeq (sAsg (mCall d_law_die [.r 1, .v (mOp fAdd (mC (.int 1)) (mCall d_law_take [.r 1, .v (mVar 2)])), .v (mVar 3)]) (Py.gName 6))
    (sSeq (sIf (mOr (mNot (mTru (mCall d_law_parts_are_right_k54 [.r 1, .v (mVar 4)]))) (mNot (mTru (mCall d_law_parts_are_right_k54 [.r 1, .v (mOp fAdd (mVar 5) (mTup (lCons (mVar 6) lNil)))])))) (sRet (mC (.bool false))) sNext)
    (sSeq (sAsg (mVar 4) (Py.gName 7))
    (sSeq (sIf (mB (mOp fGt (mUn fLen (mVar 4)) (mC (.int 1)))) (sAsg (mOp fAdd (mCall d_law_order [.r 1, .v (mSl (mVar 4) oNone (oSome (mUn fNeg (mC (.int 1)))))]) (mTup (lCons (mUn fTuple (mLc (iSeq (mOp fIx (mVar 4) (mUn fNeg (mC (.int 1))))) (Py.gName 13) [13] tYes e3_law_k54)) lNil))) (Py.gName 7)) sNext)
    (sSeq (sFor (iSeq (mLst (lCons (mTup (lCons (mVar 4) (lCons (mVar 5) lNil))) (lCons (mTup (lCons (mVar 4) (lCons (mCall d_law_order [.r 1, .v (mVar 4)]) lNil))) (lCons (mTup (lCons (mVar 4) (lCons (mVar 7) lNil))) (lCons (mTup (lCons (mVar 5) (lCons (mVar 7) lNil))) lNil)))))) (Py.gTup [8, 9]) l4_law_k54)
    (sSeq (sAsg (mTup (lCons (mTup (lCons (mC (.int 1)) (lCons (mC (.int 2)) (lCons (mC (.int 2)) (lCons (mC (.int 3)) (lCons (mC (.int 3)) (lCons (mC (.int 4)) lNil))))))) (lCons (mTup (lCons (mC (.int 1)) (lCons (mC (.int 3)) (lCons (mC (.int 4)) (lCons (mC (.int 5)) (lCons (mC (.int 6)) (lCons (mC (.int 8)) lNil))))))) lNil))) (Py.gName 10))
    (sSeq (sAsg (mTup (lCons (mC (.int 1)) (lCons (mC (.int 2)) (lCons (mC (.int 3)) (lCons (mC (.int 4)) (lCons (mC (.int 5)) (lCons (mC (.int 6)) lNil))))))) (Py.gName 11))
    (sSeq (sIf (mB (mOp (fIs true) (mCall d_alike [.v (mOp fAdd (mVar 10) (mTup (lCons (mVar 6) lNil))), .v (mTup (lCons (mVar 11) (lCons (mVar 6) (lCons (mVar 11) lNil))))]) (mC .none))) (sRet (mC (.bool false))) sNext)
    (sRet (mCall (d_law_same 40) [.v (mCall d_alike [.v (mTup (lCons (mVar 11) (lCons (mTup (lCons (mC (.int 1)) (lCons (mC (.int 2)) lNil))) lNil))), .v (mTup (lCons (mTup (lCons (mC (.int 2)) (lCons (mC (.int 3)) lNil))) (lCons (mVar 11) lNil)))]), .v (mC (.int 2))]))))))))))))))
noncomputable def d_law_k54 : Den := mkDen 14 b_law_k54

end D
namespace Py
open PySem D
local macro_rules
  | `(tactic| walk_at "w") => `(tactic| with_reducible first
    | refine seq_nx ?_ | refine seq_rt ?_ | refine seq_bk ?_ | refine seq_ct ?_ | refine wp_seq ?_ | refine wp_asg ?_ | refine wp_next ?_ | refine wp_ret ?_ | refine wp_retN ?_ | refine wp_brk ?_ | refine wp_cont ?_ | refine wp_expr ?_ | refine wp_op ?_ | refine wp_un ?_ | refine wp_c ?_
    | refine unB ?_ | refine wp_truB ?_ | refine wp_and ?_ | refine wp_or ?_ | refine wp_not ?_ | refine wp_ifE ?_ | refine wp_tup ?_ | refine wp_lst ?_ | refine wp_lcons ?_ | refine wp_lnil ?_ | refine frzV ?_ | refine frzN ?_ | refine wp_frz ?_ | refine wp_sl ?_ | refine wp_onone ?_ | refine wp_osome ?_
    | refine wp_anil ?_ | refine wp_av ?_ | refine wp_andV ?_ | refine wp_orV ?_ | refine wp_notV ?_ | refine wp_fgtR ?_ | refine turn_nx ?_ | refine turn_rt ?_ | refine turn_bk ?_ | refine turn_ct ?_ | refine fgt_rt ?_ | refine wp_par ?_ | refine wp_chain ?_ | refine wp_seqI ?_)
local macro_rules
  | `(tactic| walk_at "put") => `(tactic| focus ((repeat apply PutR.s); exact PutR.z rfl))
local macro_rules
  | `(tactic| walk_at "set") => `(tactic| focus ((repeat apply SetR.s); first | exact SetR.o | exact SetR.r))
local macro_rules
  | `(tactic| walk_at "fgt") => `(tactic| focus (repeat first | exact FgtsR.nil | exact FgtR.k | exact FgtR.z rfl | apply FgtR.s | apply FgtsR.cons))
local macro_rules
  | `(tactic| walk_at "x") => `(tactic| first
    | ((with_reducible apply wp_varV); (focus exact rfl)) | ((with_reducible apply wp_varO); (focus exact rfl)) | ((with_reducible apply wp_varR); (focus exact rfl))
    | ((with_reducible apply opq); (focus exact rfl); (focus exact rfl); (focus (first | exact ev_eqI | exact ev_neI | exact ev_ltI | exact ev_leI | exact ev_gtI | exact ev_geI | exact rfl)))
    | ((with_reducible apply unq); (focus exact rfl); (focus exact rfl))
    | ((with_reducible first | apply putqV | apply putqN); walk_at "put")
    | ((with_reducible apply putq2); walk_at "put"; walk_at "put")
    | ((with_reducible apply parq); walk_at "put"; walk_at "put")
    | ((with_reducible apply wp_callR); (focus (repeat first | exact RefsR.nil | apply RefsR.v | apply RefsR.r)); (focus decide))
    | ((with_reducible apply wp_ar); (focus exact rfl))
    | ((with_reducible apply fin_rt); (focus exact rfl); (focus exact rfl))
    | ((with_reducible apply fin_nx); (focus exact rfl))
    | ((with_reducible apply wp_appendR); (focus exact rfl))
    | (with_reducible refine ⟨_, rfl, ?_⟩) | (with_reducible refine ⟨_, .inl rfl, ?_⟩) | (with_reducible refine ⟨_, .inr (.inl rfl), ?_⟩) | (with_reducible refine ⟨_, .inr (.inr rfl), ?_⟩)
    | (with_reducible apply callq0) | ((with_reducible apply frzB); (focus exact rfl); (focus exact rfl); walk_at "put")
    | ((with_reducible apply callq1); walk_at "set")
    | ((with_reducible apply callq2); walk_at "set"; walk_at "set")
    | ((with_reducible first | apply fgt_nx | apply fgt_bk | apply fgt_ct); walk_at "fgt")
    | ((with_reducible apply brT); (focus exact rfl)) | ((with_reducible apply brF); (focus exact rfl)))
local macro_rules
  | `(tactic| walk_at "r") => `(tactic| repeat first | walk_at "w" | walk_at "x")
local macro_rules
  | `(tactic| walk_at "ri") => `(tactic| repeat first | walk_at "w" | walk_at "x" | (with_reducible refine wp_if ?_))
local macro_rules
  | `(tactic| walk_at "app") => `(tactic| ((with_reducible apply appq); (focus exact rfl); (focus ((try simp only [List.length_map, List.length_nil, List.length_cons, List.length_append]); unfold line; omega)); walk_at "set"))
local macro_rules
  | `(tactic| walk_at "mul") => `(tactic| ((refine opq rfl rfl (ev_mul ?_) ?_); (focus (apply mulT <;> omega))))
local macro_rules
  | `(tactic| walk_at "rm") => `(tactic| repeat first | walk_at "w" | walk_at "x" | walk_at "mul")
local macro_rules
  | `(tactic| walk_at "len") => `(tactic| (refine And.intro ?_ ?_; (focus (simp [line]; done))))
def intsO (ns : List Int) : Ob := .lst (ns.map PyData.int)
theorem of_take {ds : List Int} {m : Int} (hm : 0 < m) {Q : R → List Ob → Prop} (k : ∀ x ds', 0 ≤ x → x < m → Q (.val (.int x)) [intsO ds']) : Ret d_law_take [.ref (intsO ds), .val (.int m)] Q := by
  refine ret_mkR (by repeat constructor) ?_
  unfold b_law_take
  walk_at "ri"
  refine branchD (fun h => ?_) fun h => ?_
  · walk_at "ri"
    exact k 0 ds (by omega) hm
  walk_at "ri"
  rcases List.eq_nil_or_concat ds with rfl | ⟨L, b, rfl⟩
  · exact absurd rfl h
  refine wp_popR (v := .int b) (xs := (L.concat b).map PyData.int) rfl (by simp) (SetR.r) ?_
  walk_at "ri"
  refine opq rfl rfl (ev_mod (by omega)) ?_
  walk_at "ri"
  have e : (List.map PyData.int (L.concat b)).dropLast = L.map PyData.int := by simp
  rw [e]
  exact k _ L (Int.fmod_nonneg_of_pos _ hm) (Int.fmod_lt_of_pos _ hm)
theorem of_cell {ns : List Int} {i : Int} {N : Nat} {Q : R → List Ob → Prop} (k : ∀ x, (x = 0 ∨ x ∈ ns) → Q (.val (.int x)) []) : Ret d_law_cell [.val (.list (ns.map PyData.int)), .val (.int i)] Q := by
  refine ret_mkR (by repeat constructor) ?_
  unfold b_law_cell
  walk_at "ri"
  refine branchD (fun h => ?_) fun h => ?_
  · walk_at "ri"
    exact k 0 (.inl rfl)
  walk_at "ri"
  have h' : ((ns.map PyData.int).length : Int) ≠ 0 := h
  refine opq rfl rfl (ev_mod h') ?_
  have h1 := Int.fmod_nonneg_of_pos i (b := (ns.map PyData.int).length) (by omega)
  have h2 := Int.fmod_lt_of_pos i (b := (ns.map PyData.int).length) (by omega)
  obtain ⟨j, hj⟩ := Int.eq_ofNat_of_zero_le h1
  rw [hj] at h2 ⊢
  rw [List.length_map] at h2
  have hj2 : j < ns.length := by omega
  refine opq rfl rfl (ev_ix (.inr (.inl rfl)) (atI_nat (v := .int ns[j]) (by simp [hj2]))) ?_
  walk_at "ri"
  exact k _ (.inr (List.getElem_mem _))

theorem of_divisor {a b : Int} {Q : R → List Ob → Prop} (k : Q (.val (.int (Int.gcd a b))) []) : Ret d_divisor [.val (.int a), .val (.int b)] Q := by
  refine ret_mkR (by repeat constructor) ?_
  unfold b_divisor
  walk_at "ri"
  exact k
theorem of_ldivisor {a b : Int} {Q : R → List Ob → Prop} (k : Q (.val (.int (Int.gcd a b))) []) : Ret d_law_divisor [.val (.int a), .val (.int b)] Q := by
  refine ret_mkR (by repeat constructor) ?_
  unfold b_law_divisor
  walk_at "ri"
  refine wp_while (fun (p : Nat × Nat) ρ => ρ = [some (.val (.int p.1)), some (.val (.int p.2))] ∧ Nat.gcd p.1 p.2 = Int.gcd a b) (fun p => p.2) (a.natAbs, b.natAbs) ⟨rfl, rfl⟩ ?_
  rintro ⟨x, y⟩ ρ ⟨rfl, hg⟩
  dsimp only at hg ⊢
  unfold t2_law_divisor l1_law_divisor
  walk_at "ri"
  refine branchN (fun h => ?_) fun h => ?_
  · have h := of_decide_eq_false h
    have hy : 0 < y := by omega
    walk_at "ri"
    refine opq rfl rfl (ev_mod h) ?_
    walk_at "ri"
    have e : (x : Int).fmod y = ((x % y : Nat) : Int) := by rw [Int.fmod_eq_emod_of_nonneg _ (by omega)]; simp
    refine ⟨(y, x % y), Nat.mod_lt _ hy, ?_, ?_⟩
    · rw [e]
    · rw [← hg, Nat.gcd_comm x y, Nat.gcd_rec y x, Nat.gcd_comm]
  · have h := of_decide_eq_true h
    have hy : y = 0 := by omega
    subst hy
    walk_at "ri"
    rw [Nat.gcd_zero_right] at hg
    rw [hg]
    exact k

/-- a pair as a value -/
def fr (p : Int × Int) : PV := .tuple [.int p.1, .int p.2]
/-- in lowest terms -/
def rat (n d : Int) : Int × Int := let c : Int := if d < 0 then -(Int.gcd n d : Int) else Int.gcd n d; (n.fdiv c, d.fdiv c)
theorem gcd_ne {n d : Int} (h : d ≠ 0) : (Int.gcd n d : Int) ≠ 0 := by
  intro e
  have : Int.gcd n d = 0 := by omega
  exact h (Int.gcd_eq_zero_iff.mp this).2
theorem of_ratio {n d : Int} (hd : d ≠ 0) {Q : R → List Ob → Prop} (k : Q (.val (fr (rat n d))) []) : Ret d_law_ratio [.val (.int n), .val (.int d)] Q := by
  have hg := gcd_ne (n := n) hd
  refine ret_mkR (by repeat constructor) ?_
  unfold b_law_ratio
  walk_at "ri"
  refine of_ldivisor ?_
  walk_at "ri"
  refine branchD (fun h => ?_) fun h => ?_
  · walk_at "ri"
    refine opq rfl rfl (ev_div (by omega)) ?_
    walk_at "ri"
    refine opq rfl rfl (ev_div (by omega)) ?_
    walk_at "ri"
    refine ⟨by simp [line], ?_⟩
    walk_at "ri"
    unfold rat at k
    rw [if_pos h] at k
    exact k
  · walk_at "ri"
    refine opq rfl rfl (ev_div (by omega)) ?_
    walk_at "ri"
    refine opq rfl rfl (ev_div (by omega)) ?_
    walk_at "ri"
    refine ⟨by simp [line], ?_⟩
    walk_at "ri"
    unfold rat at k
    rw [if_neg h] at k
    exact k
theorem of_fraction {n d : Int} (hd : d ≠ 0) {Q : R → List Ob → Prop} (k : Q (.val (fr (rat n d))) []) : Ret d_fraction [.val (.int n), .val (.int d)] Q := by
  have hg := gcd_ne (n := n) hd
  refine ret_mkR (by repeat constructor) ?_
  unfold b_fraction
  walk_at "ri"
  refine of_divisor ?_
  walk_at "ri"
  refine branchD (fun h => ?_) fun h => ?_
  · walk_at "ri"
    refine opq rfl rfl (ev_div (by omega)) ?_
    walk_at "ri"
    refine opq rfl rfl (ev_div (by omega)) ?_
    walk_at "ri"
    refine ⟨by simp [line], ?_⟩
    walk_at "ri"
    unfold rat at k
    rw [if_pos h] at k
    exact k
  · walk_at "ri"
    refine opq rfl rfl (ev_div (by omega)) ?_
    walk_at "ri"
    refine opq rfl rfl (ev_div (by omega)) ?_
    walk_at "ri"
    refine ⟨by simp [line], ?_⟩
    walk_at "ri"
    unfold rat at k
    rw [if_neg h] at k
    exact k
/-- within the line of a product -/
def Bd (n : Nat) (p : Int × Int) : Prop := p.1.natAbs < 2 ^ n ∧ p.2.natAbs < 2 ^ n
def okM (p q : Int × Int) : Prop := mulOk p.1 q.2 = true ∧ mulOk q.1 p.2 = true ∧ mulOk p.2 q.2 = true ∧ mulOk p.1 q.1 = true
theorem fr0 {p : Int × Int} : fIx (.pv (fr p)) (.pv (.int 0)) = some (.val (.int p.1)) := rfl
theorem fr1 {p : Int × Int} : fIx (.pv (fr p)) (.pv (.int 1)) = some (.val (.int p.2)) := rfl
def plusV (p q : Int × Int) : Int × Int := rat (p.1 * q.2 + q.1 * p.2) (p.2 * q.2)
def minusV (p q : Int × Int) : Int × Int := rat (p.1 * q.2 - q.1 * p.2) (p.2 * q.2)
def timesV (p q : Int × Int) : Int × Int := rat (p.1 * q.1) (p.2 * q.2)
def lessV (p q : Int × Int) : Bool := decide (p.1 * q.2 < q.1 * p.2)
local macro_rules
  | `(tactic| walk_at "m") => `(tactic| ((refine opq rfl rfl (ev_mul ?_) ?_); focus assumption))
local macro_rules
  | `(tactic| walk_at "q") => `(tactic| repeat first | walk_at "w" | walk_at "x" | walk_at "m")
section
variable {p q : Int × Int} {Q : R → List Ob → Prop}
theorem of_plus (hp : p.2 ≠ 0) (hq : q.2 ≠ 0) (h : okM p q) (k : Q (.val (fr (plusV p q))) []) : Ret d_plus [.val (fr p), .val (fr q)] Q := by
  obtain ⟨h1, h2, h3, h4⟩ := h
  refine ret_mkR (by repeat constructor) ?_
  unfold b_plus
  walk_at "q"
  refine of_fraction (Int.mul_ne_zero hp hq) ?_
  walk_at "ri"
  exact k
theorem of_minus (hp : p.2 ≠ 0) (hq : q.2 ≠ 0) (h : okM p q) (k : Q (.val (fr (minusV p q))) []) : Ret d_minus [.val (fr p), .val (fr q)] Q := by
  obtain ⟨h1, h2, h3, h4⟩ := h
  refine ret_mkR (by repeat constructor) ?_
  unfold b_minus
  walk_at "q"
  refine of_fraction (Int.mul_ne_zero hp hq) ?_
  walk_at "ri"
  exact k
theorem of_times (hp : p.2 ≠ 0) (hq : q.2 ≠ 0) (h : okM p q) (k : Q (.val (fr (timesV p q))) []) : Ret d_times [.val (fr p), .val (fr q)] Q := by
  obtain ⟨h1, h2, h3, h4⟩ := h
  refine ret_mkR (by repeat constructor) ?_
  unfold b_times
  walk_at "q"
  refine of_fraction (Int.mul_ne_zero hp hq) ?_
  walk_at "ri"
  exact k
theorem of_less (h : okM p q) (k : Q (.val (.bool (lessV p q))) []) : Ret d_is_less [.val (fr p), .val (fr q)] Q := by
  obtain ⟨h1, h2, h3, h4⟩ := h
  refine ret_mkR (by repeat constructor) ?_
  unfold b_is_less
  walk_at "q"
  exact k
theorem of_lplus (hp : p.2 ≠ 0) (hq : q.2 ≠ 0) (h : okM p q) (k : Q (.val (fr (plusV p q))) []) : Ret d_law_plus [.val (fr p), .val (fr q)] Q := by
  obtain ⟨h1, h2, h3, h4⟩ := h
  refine ret_mkR (by repeat constructor) ?_
  unfold b_law_plus
  walk_at "q"
  refine of_ratio (Int.mul_ne_zero hp hq) ?_
  walk_at "ri"
  exact k
theorem of_lminus (hp : p.2 ≠ 0) (hq : q.2 ≠ 0) (h : okM p q) (k : Q (.val (fr (minusV p q))) []) : Ret d_law_minus [.val (fr p), .val (fr q)] Q := by
  obtain ⟨h1, h2, h3, h4⟩ := h
  refine ret_mkR (by repeat constructor) ?_
  unfold b_law_minus
  walk_at "q"
  refine of_ratio (Int.mul_ne_zero hp hq) ?_
  walk_at "ri"
  exact k
theorem of_ltimes (hp : p.2 ≠ 0) (hq : q.2 ≠ 0) (h : okM p q) (k : Q (.val (fr (timesV p q))) []) : Ret d_law_times [.val (fr p), .val (fr q)] Q := by
  obtain ⟨h1, h2, h3, h4⟩ := h
  refine ret_mkR (by repeat constructor) ?_
  unfold b_law_times
  walk_at "q"
  refine of_ratio (Int.mul_ne_zero hp hq) ?_
  walk_at "ri"
  exact k
theorem of_lless (h : okM p q) (k : Q (.val (.bool (lessV p q))) []) : Ret d_law_less [.val (fr p), .val (fr q)] Q := by
  obtain ⟨h1, h2, h3, h4⟩ := h
  refine ret_mkR (by repeat constructor) ?_
  unfold b_law_less
  walk_at "q"
  exact k
end
/-! alike -/
inductive Plain : Nat → PV → Prop
  | none {n : Nat} : Plain (n + 1) .none
  | bool {n : Nat} {b : Bool} : Plain (n + 1) (.bool b)
  | int {n : Nat} {i : Int} : Plain (n + 1) (.int i)
  | str {n : Nat} {s : Str} : Plain (n + 1) (.str s)
  | tuple {n : Nat} {xs : List PV} (hl : xs.length ≤ line) (h : ∀ x, x ∈ xs → Plain n x) : Plain (n + 1) (.tuple xs)
theorem of_same {n : Nat} {v : PV} (hp : Plain n v) : ∀ {Q : R → List Ob → Prop} (k : Q (.val (.bool true)) []), Ret (d_law_same n) [.val v, .val v] Q := by
  induction hp with
  | none =>
    intro Q k
    unfold d_law_same
    refine ret_mkR (by repeat constructor) ?_
    unfold b_law_same
    walk_at "ri"
    exact k
  | @bool n b =>
    intro Q k
    unfold d_law_same
    refine ret_mkR (by repeat constructor) ?_
    unfold b_law_same
    walk_at "ri"
    have e : (false ^^ (b == b)) = true := by simp
    rw [e]
    exact k
  | @int n i =>
    intro Q k
    unfold d_law_same
    refine ret_mkR (by repeat constructor) ?_
    unfold b_law_same
    walk_at "ri"
    have e : decide (i = i) = true := by simp
    rw [e]
    exact k
  | @str n s =>
    intro Q k
    unfold d_law_same
    refine ret_mkR (by repeat constructor) ?_
    unfold b_law_same
    walk_at "ri"
    have e : (false ^^ decide (s = s)) = true := by simp
    rw [e]
    exact k
  | @tuple n xs hl h ih =>
    intro Q k
    unfold d_law_same
    refine ret_mkR (by repeat constructor) ?_
    unfold b_law_same
    walk_at "ri"
    refine brF (by simp) ?_
    walk_at "ri"
    refine wp_forN (fun k ρ => ρ = [some (.val (.tuple xs)), some (.val (.tuple xs)), none]) xs.length ?_ ?_ ?_
    · walk_at "ri"
      exact ⟨rfl, hl, rfl⟩
    · rintro j ρ hj rfl
      unfold l1_law_same
      walk_at "ri"
      refine opq rfl rfl (ev_ix (.inl rfl) (atI_nat (List.getElem?_eq_getElem hj))) ?_
      walk_at "ri"
      refine opq rfl rfl (ev_ix (.inl rfl) (atI_nat (List.getElem?_eq_getElem hj))) ?_
      walk_at "ri"
      refine ih _ (List.getElem_mem hj) ?_
      walk_at "ri"
      rfl
    · rintro ρ rfl
      walk_at "ri"
      exact k
theorem plain_fr {p : Int × Int} {n : Nat} : Plain (n + 2) (fr p) := .tuple (by simp [line]) fun x hx => by
  simp at hx
  rcases hx with rfl | rfl <;> exact .int
end Py
namespace Py
open PySem D
local macro_rules
  | `(tactic| walk_at "w") => `(tactic| with_reducible first
    | refine seq_nx ?_ | refine seq_rt ?_ | refine seq_bk ?_ | refine seq_ct ?_ | refine wp_seq ?_ | refine wp_asg ?_ | refine wp_next ?_ | refine wp_ret ?_ | refine wp_retN ?_ | refine wp_brk ?_ | refine wp_cont ?_ | refine wp_expr ?_ | refine wp_op ?_ | refine wp_un ?_ | refine wp_c ?_
    | refine unB ?_ | refine wp_truB ?_ | refine wp_and ?_ | refine wp_or ?_ | refine wp_not ?_ | refine wp_ifE ?_ | refine wp_tup ?_ | refine wp_lst ?_ | refine wp_lcons ?_ | refine wp_lnil ?_ | refine frzV ?_ | refine frzN ?_ | refine wp_frz ?_ | refine wp_sl ?_ | refine wp_onone ?_ | refine wp_osome ?_
    | refine wp_anil ?_ | refine wp_av ?_ | refine wp_andV ?_ | refine wp_orV ?_ | refine wp_notV ?_ | refine wp_fgtR ?_ | refine turn_nx ?_ | refine turn_rt ?_ | refine turn_bk ?_ | refine turn_ct ?_ | refine fgt_rt ?_ | refine wp_par ?_ | refine wp_chain ?_ | refine wp_seqI ?_)
local macro_rules
  | `(tactic| walk_at "put") => `(tactic| focus ((repeat apply PutR.s); exact PutR.z rfl))
local macro_rules
  | `(tactic| walk_at "set") => `(tactic| focus ((repeat apply SetR.s); first | exact SetR.o | exact SetR.r))
local macro_rules
  | `(tactic| walk_at "fgt") => `(tactic| focus (repeat first | exact FgtsR.nil | exact FgtR.k | exact FgtR.z rfl | apply FgtR.s | apply FgtsR.cons))
local macro_rules
  | `(tactic| walk_at "x") => `(tactic| first
    | ((with_reducible apply wp_varV); (focus exact rfl)) | ((with_reducible apply wp_varO); (focus exact rfl)) | ((with_reducible apply wp_varR); (focus exact rfl))
    | ((with_reducible apply opq); (focus exact rfl); (focus exact rfl); (focus (first | exact ev_eqI | exact ev_neI | exact ev_ltI | exact ev_leI | exact ev_gtI | exact ev_geI | exact rfl)))
    | ((with_reducible apply unq); (focus exact rfl); (focus exact rfl))
    | ((with_reducible first | apply putqV | apply putqN); walk_at "put")
    | ((with_reducible apply putq2); walk_at "put"; walk_at "put")
    | ((with_reducible apply parq); walk_at "put"; walk_at "put")
    | ((with_reducible apply wp_callR); (focus (repeat first | exact RefsR.nil | apply RefsR.v | apply RefsR.r)); (focus decide))
    | ((with_reducible apply wp_ar); (focus exact rfl))
    | ((with_reducible apply fin_rt); (focus exact rfl); (focus exact rfl))
    | ((with_reducible apply fin_nx); (focus exact rfl))
    | ((with_reducible apply wp_appendR); (focus exact rfl))
    | (with_reducible refine ⟨_, rfl, ?_⟩) | (with_reducible refine ⟨_, .inl rfl, ?_⟩) | (with_reducible refine ⟨_, .inr (.inl rfl), ?_⟩) | (with_reducible refine ⟨_, .inr (.inr rfl), ?_⟩)
    | (with_reducible apply callq0) | ((with_reducible apply frzB); (focus exact rfl); (focus exact rfl); walk_at "put")
    | ((with_reducible apply callq1); walk_at "set")
    | ((with_reducible apply callq2); walk_at "set"; walk_at "set")
    | ((with_reducible first | apply fgt_nx | apply fgt_bk | apply fgt_ct); walk_at "fgt")
    | ((with_reducible apply brT); (focus exact rfl)) | ((with_reducible apply brF); (focus exact rfl)))
local macro_rules
  | `(tactic| walk_at "r") => `(tactic| repeat first | walk_at "w" | walk_at "x")
local macro_rules
  | `(tactic| walk_at "ri") => `(tactic| repeat first | walk_at "w" | walk_at "x" | (with_reducible refine wp_if ?_))
local macro_rules
  | `(tactic| walk_at "app") => `(tactic| ((with_reducible apply appq); (focus exact rfl); (focus ((try simp only [List.length_map, List.length_nil, List.length_cons, List.length_append]); unfold line; omega)); walk_at "set"))
local macro_rules
  | `(tactic| walk_at "mul") => `(tactic| ((refine opq rfl rfl (ev_mul ?_) ?_); (focus (apply mulT <;> omega))))
local macro_rules
  | `(tactic| walk_at "rm") => `(tactic| repeat first | walk_at "w" | walk_at "x" | walk_at "mul")
local macro_rules
  | `(tactic| walk_at "len") => `(tactic| (refine And.intro ?_ ?_; (focus (simp [line]; done))))
theorem lenI {xs : List Int} : (List.map PyData.int xs).length = xs.length := List.length_map ..
theorem atI_int {xs : List Int} {j : Nat} (h : j < xs.length) : atI (xs.map PyData.int) (j : Int) = some (.int xs[j]) := atI_nat (by simp [h])
theorem of_draws {ns : List Int} (hb : ∀ z ∈ ns, Builtin.Int.intBits z ≤ 1048576) (hl : ns.length ≤ 63) {m : Nat} (hm : m ≤ 100000) {Q : R → List Ob → Prop} (k : ∀ ds, Q (.new (intsO ds)) []) : Ret d_law_draws [.val (.list (ns.map PyData.int)), .val (.int m)] Q := by
  refine ret_mkR (by repeat constructor) ?_
  unfold b_law_draws
  walk_at "ri"
  refine wp_lc PyData.int (fun done acc ρ => acc = done.map PyData.int ∧ ∃ s, ρ = [some (.val (.list (ns.map PyData.int))), some (.val (.int m)), none, none, none, none, none, none, s]) ?_
  walk_at "ri"
  refine ⟨by unfold line; omega, ⟨rfl, _, rfl⟩, ?_, ?_⟩
  · rintro done y rest acc _ e ⟨rfl, s, rfl⟩
    unfold LcQ
    dsimp only [wipe, set_s, set_z]
    walk_at "ri"
    refine ⟨true, _, rfl, ?_⟩
    refine brT rfl ?_
    unfold e1_law_draws
    walk_at "ri"
    exact ⟨by simp, _, rfl⟩
  rintro _ _ ⟨rfl, s, rfl⟩
  dsimp only [back, set_s, set_z, get_s, get_z]
  walk_at "r"
  refine wp_mid (fun ρ => ∃ cs : List Int, cs ≠ [] ∧ cs.length ≤ 63 ∧ (∀ z ∈ cs, Builtin.Int.intBits z ≤ 1048576) ∧ ρ = [some (.val (.list (ns.map PyData.int))), some (.val (.int m)), some (.own (intsO cs)), none, none, none, none, none, none]) ?_ ?_
  · walk_at "ri"
    refine branchD (fun h => ?_) fun h => ?_
    · walk_at "ri"
      have h0 : ns = [] := by simpa using h
      subst h0
      walk_at "app"
      walk_at "ri"
      exact ⟨rfl, [0], by simp, by simp, by simp; decide, rfl⟩
    · walk_at "ri"
      refine ⟨rfl, ns, fun h0 => h (by simp [h0]), hl, hb, rfl⟩
  rintro _ ⟨cs, hc0, hcl, hcb, rfl⟩
  walk_at "ri"
  have hn : 0 < cs.length := List.length_pos_iff.mpr hc0
  refine ⟨by simp [line], ?_⟩
  walk_at "ri"
  refine wp_forN (fun k ρ => ∃ rs ds : List Int, rs.length = cs.length ∧ ds.length = k ∧ ρ = [some (.val (.list (ns.map PyData.int))), some (.val (.int m)), some (.own (intsO cs)), some (.own (intsO rs)), some (.own (intsO ds)), none, none, none, none]) m ?_ ?_ ?_
  · walk_at "ri"
    exact ⟨rfl, by unfold line; omega, cs, [], rfl, rfl, rfl⟩
  · rintro k _ hk ⟨rs, ds, h1, h2, rfl⟩
    unfold l2_law_draws
    walk_at "ri"
    have hl0 : ((List.map PyData.int cs).length : Int) ≠ 0 := by simp; omega
    refine opq rfl rfl (ev_mod hl0) ?_
    obtain ⟨j, hj, hj2⟩ := fmod_ix (k : Int) (n := (List.map PyData.int cs).length) (by simp; omega)
    rw [hj]
    rw [lenI] at hj2
    walk_at "ri"
    refine opq rfl rfl (ev_ix (.inr (.inr rfl)) (atI_int hj2)) ?_
    walk_at "ri"
    have hj3 : j < rs.length := by omega
    refine branchD (fun h => ?_) fun h => ?_
    · walk_at "ri"
      refine opq rfl rfl (ev_ix (.inr (.inr rfl)) (atI_int hj3)) ?_
      walk_at "ri"
      walk_at "app"
      walk_at "ri"
      refine wp_setIxR ?_
      walk_at "ri"
      refine opq rfl rfl (ev_ix (.inr (.inr rfl)) (atI_int hj3)) ?_
      walk_at "ri"
      apply ixq (j := j) rfl rfl (by rw [lenI]; exact hj3)
      walk_at "set"
      walk_at "ri"
      refine ⟨rs.set j (rs[j].fdiv 1000), ds ++ [rs[j].fmod 1000], by simpa using h1, by simp [h2], ?_⟩
      simp [intsO]
    · walk_at "ri"
      refine opq rfl rfl (ev_ix (.inr (.inr rfl)) (atI_int hj2)) ?_
      walk_at "ri"
      refine opq rfl rfl (ev_mul ?_) ?_
      · exact mulB (n := 16) (hcb _ (List.getElem_mem hj2)) (by decide)
      walk_at "ri"
      refine opq rfl rfl (ev_mul ?_) ?_
      · exact mulOk_of 17 17 (by omega) (by decide)
      walk_at "ri"
      generalize hx : ((cs[j] * 48271 + k * 69621 + 11 : Int)).fmod 2147483647 = x
      have hx1 : 0 ≤ x := by rw [← hx]; exact Int.fmod_nonneg_of_pos _ (by decide)
      have hx2 : x < 2147483647 := by rw [← hx]; exact Int.fmod_lt_of_pos _ (by decide)
      walk_at "ri"
      refine opq rfl rfl (ev_mul (mulOk_of 31 31 (by omega) (by omega))) ?_
      walk_at "ri"
      refine opq rfl rfl (ev_mul (mulOk_of 31 31 (by decide) (by omega))) ?_
      walk_at "ri"
      walk_at "app"
      walk_at "ri"
      refine ⟨rs, ds ++ [(x * x + 3 * x + k).fmod 1000003], h1, by simp [h2], ?_⟩
      simp [intsO]
  · rintro _ ⟨rs, ds, h1, h2, rfl⟩
    walk_at "ri"
    refine wp_reverseR rfl (by walk_at "set") ?_
    walk_at "ri"
    have := k ds.reverse
    simpa [intsO] using this
end Py
namespace Py
open PySem D
local macro_rules
  | `(tactic| walk_at "w") => `(tactic| with_reducible first
    | refine seq_nx ?_ | refine seq_rt ?_ | refine seq_bk ?_ | refine seq_ct ?_ | refine wp_seq ?_ | refine wp_asg ?_ | refine wp_next ?_ | refine wp_ret ?_ | refine wp_retN ?_ | refine wp_brk ?_ | refine wp_cont ?_ | refine wp_expr ?_ | refine wp_op ?_ | refine wp_un ?_ | refine wp_c ?_
    | refine unB ?_ | refine wp_truB ?_ | refine wp_and ?_ | refine wp_or ?_ | refine wp_not ?_ | refine wp_ifE ?_ | refine wp_tup ?_ | refine wp_lst ?_ | refine wp_lcons ?_ | refine wp_lnil ?_ | refine frzV ?_ | refine frzN ?_ | refine wp_frz ?_ | refine wp_sl ?_ | refine wp_onone ?_ | refine wp_osome ?_
    | refine wp_anil ?_ | refine wp_av ?_ | refine wp_andV ?_ | refine wp_orV ?_ | refine wp_notV ?_ | refine wp_fgtR ?_ | refine turn_nx ?_ | refine turn_rt ?_ | refine turn_bk ?_ | refine turn_ct ?_ | refine fgt_rt ?_ | refine wp_par ?_ | refine wp_chain ?_ | refine wp_seqI ?_)
local macro_rules
  | `(tactic| walk_at "put") => `(tactic| focus ((repeat apply PutR.s); exact PutR.z rfl))
local macro_rules
  | `(tactic| walk_at "set") => `(tactic| focus ((repeat apply SetR.s); first | exact SetR.o | exact SetR.r))
local macro_rules
  | `(tactic| walk_at "fgt") => `(tactic| focus (repeat first | exact FgtsR.nil | exact FgtR.k | exact FgtR.z rfl | apply FgtR.s | apply FgtsR.cons))
local macro_rules
  | `(tactic| walk_at "x") => `(tactic| first
    | ((with_reducible apply wp_varV); (focus exact rfl)) | ((with_reducible apply wp_varO); (focus exact rfl)) | ((with_reducible apply wp_varR); (focus exact rfl))
    | ((with_reducible apply opq); (focus exact rfl); (focus exact rfl); (focus (first | exact ev_eqI | exact ev_neI | exact ev_ltI | exact ev_leI | exact ev_gtI | exact ev_geI | exact rfl)))
    | ((with_reducible apply unq); (focus exact rfl); (focus exact rfl))
    | ((with_reducible first | apply putqV | apply putqN); walk_at "put")
    | ((with_reducible apply putq2); walk_at "put"; walk_at "put")
    | ((with_reducible apply parq); walk_at "put"; walk_at "put")
    | ((with_reducible apply wp_callR); (focus (repeat first | exact RefsR.nil | apply RefsR.v | apply RefsR.r)); (focus decide))
    | ((with_reducible apply wp_ar); (focus exact rfl))
    | ((with_reducible apply fin_rt); (focus exact rfl); (focus exact rfl))
    | ((with_reducible apply fin_nx); (focus exact rfl))
    | ((with_reducible apply wp_appendR); (focus exact rfl))
    | (with_reducible refine ⟨_, rfl, ?_⟩) | (with_reducible refine ⟨_, .inl rfl, ?_⟩) | (with_reducible refine ⟨_, .inr (.inl rfl), ?_⟩) | (with_reducible refine ⟨_, .inr (.inr rfl), ?_⟩)
    | (with_reducible apply callq0) | ((with_reducible apply frzB); (focus exact rfl); (focus exact rfl); walk_at "put")
    | ((with_reducible apply callq1); walk_at "set")
    | ((with_reducible apply callq2); walk_at "set"; walk_at "set")
    | ((with_reducible first | apply fgt_nx | apply fgt_bk | apply fgt_ct); walk_at "fgt")
    | ((with_reducible apply brT); (focus exact rfl)) | ((with_reducible apply brF); (focus exact rfl)))
local macro_rules
  | `(tactic| walk_at "r") => `(tactic| repeat first | walk_at "w" | walk_at "x")
local macro_rules
  | `(tactic| walk_at "ri") => `(tactic| repeat first | walk_at "w" | walk_at "x" | (with_reducible refine wp_if ?_))
local macro_rules
  | `(tactic| walk_at "app") => `(tactic| ((with_reducible apply appq); (focus exact rfl); (focus ((try simp only [List.length_map, List.length_nil, List.length_cons, List.length_append]); unfold line; omega)); walk_at "set"))
local macro_rules
  | `(tactic| walk_at "mul") => `(tactic| ((refine opq rfl rfl (ev_mul ?_) ?_); (focus (apply mulT <;> omega))))
local macro_rules
  | `(tactic| walk_at "rm") => `(tactic| repeat first | walk_at "w" | walk_at "x" | walk_at "mul")
local macro_rules
  | `(tactic| walk_at "len") => `(tactic| (refine And.intro ?_ ?_; (focus (simp [line]; done))))
theorem of_huge {ns ds : List Int} {Q : R → List Ob → Prop} (k : ∀ (x : Int) (ds' : List Int), 0 ≤ x → x < 10 ^ 30 → Q (.val (.int x)) [intsO ds']) : Ret d_law_huge [.val (.list (ns.map PyData.int)), .ref (intsO ds)] Q := by
  refine ret_mkR (by repeat constructor) ?_
  unfold b_law_huge
  walk_at "r"
  refine ⟨by simp [line], ?_⟩
  walk_at "r"
  refine of_take (by decide) fun x ds hx1 hx2 => ?_
  walk_at "r"
  obtain ⟨p, hp, hp2⟩ : ∃ p : Int, atI [.int 1, .int (10 ^ Int.toNat 3), .int (10 ^ Int.toNat 9), .int (10 ^ Int.toNat 15), .int (10 ^ Int.toNat 21), .int (10 ^ Int.toNat 27)] x = some (.int p) ∧ p.natAbs < 2 ^ 100 := by
    have : x = 0 ∨ x = 1 ∨ x = 2 ∨ x = 3 ∨ x = 4 ∨ x = 5 := by omega
    rcases this with rfl | rfl | rfl | rfl | rfl | rfl <;> exact ⟨_, rfl, by decide⟩
  refine opq rfl rfl (ev_ix (.inr (.inr rfl)) hp) ?_
  walk_at "r"
  refine of_take (by decide) fun x ds hx1 hx2 => ?_
  walk_at "r"
  refine of_cell (N := 0) fun y _ => ?_
  walk_at "r"
  refine of_take (by decide) fun x ds hx1 hx2 => ?_
  walk_at "r"
  refine opq rfl rfl (ev_mul (mulOk_of 20 100 (by omega) hp2)) ?_
  walk_at "r"
  exact k _ _ (Int.fmod_nonneg_of_pos _ (by decide)) (Int.fmod_lt_of_pos _ (by decide))
/-- how great -/
theorem mulN {a b : Int} {A B : Nat} (ha : a.natAbs ≤ A) (hb : b.natAbs ≤ B) : (a * b).natAbs ≤ A * B := by rw [Int.natAbs_mul]; exact Nat.mul_le_mul ha hb
theorem mulOkN {a b : Int} (ha : a.natAbs ≤ 10 ^ 250) (hb : b.natAbs ≤ 10 ^ 250) : mulOk a b = true := mulOk_of 1000 1000 (Nat.lt_of_le_of_lt ha (by decide)) (Nat.lt_of_le_of_lt hb (by decide))
theorem fdiv_nat {a : Int} {b : Nat} : a.fdiv b = a / b := Int.fdiv_eq_ediv_of_nonneg _ (by omega)
theorem rat_spec {n d : Int} (hd : d ≠ 0) : ∃ c : Int, c ≠ 0 ∧ n = (rat n d).1 * c ∧ d = (rat n d).2 * c ∧ 0 < (rat n d).2 := by
  have hg := gcd_ne (n := n) hd
  have h1 : (Int.gcd n d : Int) ∣ n := Int.gcd_dvd_left ..
  have h2 : (Int.gcd n d : Int) ∣ d := Int.gcd_dvd_right ..
  obtain ⟨a, ha⟩ := h1
  obtain ⟨b, hb⟩ := h2
  generalize hG : (Int.gcd n d : Int) = g at *
  have hg0 : 0 < g := by omega
  unfold rat
  rw [hG]
  by_cases h : d < 0
  · simp only [if_pos h]
    have e1 : n = -g * -a := by rw [Int.neg_mul_neg]; exact ha
    have e2 : d = -g * -b := by rw [Int.neg_mul_neg]; exact hb
    rw [e1, e2, Int.mul_fdiv_cancel_left _ (by omega), Int.mul_fdiv_cancel_left _ (by omega)]
    refine ⟨-g, by omega, by rw [Int.mul_comm], by rw [Int.mul_comm], ?_⟩
    rw [hb] at h
    have : b < 0 := by
      apply Int.lt_of_not_ge
      intro h0
      have := Int.mul_nonneg (Int.le_of_lt hg0) h0
      omega
    omega
  · simp only [if_neg h]
    rw [ha, hb, Int.mul_fdiv_cancel_left _ (by omega), Int.mul_fdiv_cancel_left _ (by omega)]
    refine ⟨g, by omega, by rw [Int.mul_comm], by rw [Int.mul_comm], ?_⟩
    rw [hb] at h
    have hd0 : b ≠ 0 := by intro h0; rw [h0] at hb; simp at hb; exact hd hb
    apply Int.lt_of_not_ge
    intro h0
    have : b < 0 := by omega
    have := Int.mul_neg_of_pos_of_neg hg0 this
    omega
/-- a fraction that is not too great -/
def Gd (B : Nat) (p : Int × Int) : Prop := p.2 ≠ 0 ∧ p.1.natAbs ≤ B ∧ p.2.natAbs ≤ B
theorem gd_rat {n d : Int} {B : Nat} (hd : d ≠ 0) (h1 : n.natAbs ≤ B) (h2 : d.natAbs ≤ B) : Gd B (rat n d) := by
  obtain ⟨c, hc, e1, e2, e3⟩ := rat_spec (n := n) hd
  have hc1 : 1 ≤ c.natAbs := by omega
  have f1 := congrArg Int.natAbs e1
  have f2 := congrArg Int.natAbs e2
  rw [Int.natAbs_mul] at f1 f2
  refine ⟨by omega, ?_, ?_⟩
  · have := Nat.mul_le_mul (Nat.le_refl (rat n d).1.natAbs) hc1
    omega
  · have := Nat.mul_le_mul (Nat.le_refl (rat n d).2.natAbs) hc1
    omega
theorem okM_of {p q : Int × Int} (hp : Gd (10 ^ 250) p) (hq : Gd (10 ^ 250) q) : okM p q := ⟨mulOkN hp.2.1 hq.2.2, mulOkN hq.2.1 hp.2.2, mulOkN hp.2.2 hq.2.2, mulOkN hp.2.1 hq.2.1⟩
theorem Gd.mono {A B : Nat} {p : Int × Int} (h : Gd A p) (hab : A ≤ B) : Gd B p := ⟨h.1, Nat.le_trans h.2.1 hab, Nat.le_trans h.2.2 hab⟩
theorem of_drawn {ns ds : List Int} {Q : R → List Ob → Prop} (k : ∀ p ds', 0 < p.2 → Gd (10 ^ 40) p → Q (.val (fr p)) [intsO ds']) : Ret d_law_drawn [.val (.list (ns.map PyData.int)), .ref (intsO ds)] Q := by
  refine ret_mkR (by repeat constructor) ?_
  unfold b_law_drawn
  walk_at "r"
  refine of_take (by decide) fun kd ds hk1 hk2 => ?_
  walk_at "r"
  refine of_take (by decide) fun x ds hx1 hx2 => ?_
  walk_at "r"
  refine of_take (by decide) fun y ds hy1 hy2 => ?_
  walk_at "r"
  refine wp_mid (fun ρ => ∃ d : Int, 1 ≤ d ∧ d ≤ 10 ^ 30 ∧ ρ = [some (.val (.list (ns.map PyData.int))), some (.ref (intsO ds)), some (.val (.int kd)), some (.val (.int (x - 6))), some (.val (.int d))]) ?_ ?_
  · refine wp_if ?_
    walk_at "r"
    refine branchD (fun h => ?_) fun h => ?_
    · walk_at "r"
      exact ⟨rfl, 1, by decide, by decide, rfl⟩
    · walk_at "r"
      exact ⟨rfl, 1 + y, by omega, by omega, rfl⟩
  rintro _ ⟨d, hd1, hd2, rfl⟩
  walk_at "r"
  refine wp_mid (fun ρ => ∃ (n : Int) (ds : List Int), n.natAbs ≤ 10 ^ 40 ∧ ρ = [some (.val (.list (ns.map PyData.int))), some (.ref (intsO ds)), some (.val (.int kd)), some (.val (.int n)), some (.val (.int d))]) ?_ ?_
  · refine wp_if ?_
    walk_at "r"
    refine branchD (fun h => ?_) fun h => ?_
    · walk_at "r"
      refine of_huge fun z ds hz1 hz2 => ?_
      walk_at "r"
      refine opq rfl rfl (ev_mul (mulOkN (by omega) (by omega))) ?_
      walk_at "r"
      refine ⟨rfl, _, _, ?_, rfl⟩
      have := mulN (a := x - 6) (b := z) (A := 6) (B := 10 ^ 30) (by omega) (by omega)
      have e : ((x - 6) * z).fdiv 7 = ((x - 6) * z) / 7 := fdiv_nat (b := 7)
      rw [e]
      omega
    · walk_at "r"
      exact ⟨rfl, x - 6, ds, by omega, rfl⟩
  rintro _ ⟨n, ds, hn, rfl⟩
  walk_at "r"
  refine wp_mid (fun ρ => ∃ (d : Int) (ds : List Int), 1 ≤ d ∧ d ≤ 10 ^ 30 ∧ ρ = [some (.val (.list (ns.map PyData.int))), some (.ref (intsO ds)), some (.val (.int kd)), some (.val (.int n)), some (.val (.int d))]) ?_ ?_
  · have go : Wp (sAsg (mOp fAdd (mC (.int 1)) (mOp fDiv (mCall d_law_huge [.v (mVar 0), .r 1]) (mC (.int 2)))) (gName 4)) [some (.val (.list (ns.map PyData.int))), some (.ref (intsO ds)), some (.val (.int kd)), some (.val (.int n)), some (.val (.int d))] (fun f ρ => f = Fl.nx ∧ ∃ (d : Int) (ds : List Int), 1 ≤ d ∧ d ≤ 10 ^ 30 ∧ ρ = [some (.val (.list (ns.map PyData.int))), some (.ref (intsO ds)), some (.val (.int kd)), some (.val (.int n)), some (.val (.int d))]) := by
      walk_at "r"
      refine of_huge fun z ds hz1 hz2 => ?_
      walk_at "r"
      have e : z.fdiv 2 = z / 2 := fdiv_nat (b := 2)
      exact ⟨rfl, 1 + z.fdiv 2, ds, by omega, by omega, rfl⟩
    refine wp_if ?_
    walk_at "r"
    refine branchD (fun h => ?_) fun h => ?_
    · refine brT rfl go
    · walk_at "r"
      refine branchD (fun h => go) fun h => ?_
      walk_at "r"
      exact ⟨rfl, d, ds, hd1, hd2, rfl⟩
  rintro _ ⟨d, ds, hd1, hd2, rfl⟩
  walk_at "r"
  refine of_ratio (by omega) ?_
  walk_at "r"
  obtain ⟨c, h1, h2, h3, h4⟩ := rat_spec (n := n) (d := d) (by omega)
  exact k _ _ h4 (gd_rat (by omega) (by omega) (by omega))
end Py
namespace Py
open PySem D
local macro_rules
  | `(tactic| walk_at "w") => `(tactic| with_reducible first
    | refine seq_nx ?_ | refine seq_rt ?_ | refine seq_bk ?_ | refine seq_ct ?_ | refine wp_seq ?_ | refine wp_asg ?_ | refine wp_next ?_ | refine wp_ret ?_ | refine wp_retN ?_ | refine wp_brk ?_ | refine wp_cont ?_ | refine wp_expr ?_ | refine wp_op ?_ | refine wp_un ?_ | refine wp_c ?_
    | refine unB ?_ | refine wp_truB ?_ | refine wp_and ?_ | refine wp_or ?_ | refine wp_not ?_ | refine wp_ifE ?_ | refine wp_tup ?_ | refine wp_lst ?_ | refine wp_lcons ?_ | refine wp_lnil ?_ | refine frzV ?_ | refine frzN ?_ | refine wp_frz ?_ | refine wp_sl ?_ | refine wp_onone ?_ | refine wp_osome ?_
    | refine wp_anil ?_ | refine wp_av ?_ | refine wp_andV ?_ | refine wp_orV ?_ | refine wp_notV ?_ | refine wp_fgtR ?_ | refine turn_nx ?_ | refine turn_rt ?_ | refine turn_bk ?_ | refine turn_ct ?_ | refine fgt_rt ?_ | refine wp_par ?_ | refine wp_chain ?_ | refine wp_seqI ?_)
local macro_rules
  | `(tactic| walk_at "put") => `(tactic| focus ((repeat apply PutR.s); exact PutR.z rfl))
local macro_rules
  | `(tactic| walk_at "set") => `(tactic| focus ((repeat apply SetR.s); first | exact SetR.o | exact SetR.r))
local macro_rules
  | `(tactic| walk_at "fgt") => `(tactic| focus (repeat first | exact FgtsR.nil | exact FgtR.k | exact FgtR.z rfl | apply FgtR.s | apply FgtsR.cons))
local macro_rules
  | `(tactic| walk_at "x") => `(tactic| first
    | ((with_reducible apply wp_varV); (focus exact rfl)) | ((with_reducible apply wp_varO); (focus exact rfl)) | ((with_reducible apply wp_varR); (focus exact rfl))
    | ((with_reducible apply opq); (focus exact rfl); (focus exact rfl); (focus (first | exact ev_eqI | exact ev_neI | exact ev_ltI | exact ev_leI | exact ev_gtI | exact ev_geI | exact rfl)))
    | ((with_reducible apply unq); (focus exact rfl); (focus exact rfl))
    | ((with_reducible first | apply putqV | apply putqN); walk_at "put")
    | ((with_reducible apply putq2); walk_at "put"; walk_at "put")
    | ((with_reducible apply parq); walk_at "put"; walk_at "put")
    | ((with_reducible apply wp_callR); (focus (repeat first | exact RefsR.nil | apply RefsR.v | apply RefsR.r)); (focus decide))
    | ((with_reducible apply wp_ar); (focus exact rfl))
    | ((with_reducible apply fin_rt); (focus exact rfl); (focus exact rfl))
    | ((with_reducible apply fin_nx); (focus exact rfl))
    | ((with_reducible apply wp_appendR); (focus exact rfl))
    | (with_reducible refine ⟨_, rfl, ?_⟩) | (with_reducible refine ⟨_, .inl rfl, ?_⟩) | (with_reducible refine ⟨_, .inr (.inl rfl), ?_⟩) | (with_reducible refine ⟨_, .inr (.inr rfl), ?_⟩)
    | (with_reducible apply callq0) | ((with_reducible apply frzB); (focus exact rfl); (focus exact rfl); walk_at "put")
    | ((with_reducible apply callq1); walk_at "set")
    | ((with_reducible apply callq2); walk_at "set"; walk_at "set")
    | ((with_reducible first | apply fgt_nx | apply fgt_bk | apply fgt_ct); walk_at "fgt")
    | ((with_reducible apply brT); (focus exact rfl)) | ((with_reducible apply brF); (focus exact rfl)))
local macro_rules
  | `(tactic| walk_at "r") => `(tactic| repeat first | walk_at "w" | walk_at "x")
local macro_rules
  | `(tactic| walk_at "ri") => `(tactic| repeat first | walk_at "w" | walk_at "x" | (with_reducible refine wp_if ?_))
local macro_rules
  | `(tactic| walk_at "app") => `(tactic| ((with_reducible apply appq); (focus exact rfl); (focus ((try simp only [List.length_map, List.length_nil, List.length_cons, List.length_append]); unfold line; omega)); walk_at "set"))
local macro_rules
  | `(tactic| walk_at "mul") => `(tactic| ((refine opq rfl rfl (ev_mul ?_) ?_); (focus (apply mulT <;> omega))))
local macro_rules
  | `(tactic| walk_at "rm") => `(tactic| repeat first | walk_at "w" | walk_at "x" | walk_at "mul")
local macro_rules
  | `(tactic| walk_at "len") => `(tactic| (refine And.intro ?_ ?_; (focus (simp [line]; done))))
/-! numbers of the script's size -/
@[irreducible] def TT : Nat := 2 ^ 1048576
theorem tt_pos : 1 ≤ TT := by unfold TT; exact Nat.one_le_two_pow
theorem tt_of {z : Int} (h : Builtin.Int.intBits z ≤ 1048576) : z.natAbs ≤ TT := by unfold TT; exact Nat.le_of_lt (intBits_le_iff.mp h)
theorem tt_lt : 10 ^ 100 * TT < 2 ^ 1049000 := by
  unfold TT
  calc 10 ^ 100 * 2 ^ 1048576 < 2 ^ 424 * 2 ^ 1048576 := Nat.mul_lt_mul_of_pos_right (by decide) (Nat.two_pow_pos _)
    _ = 2 ^ 1049000 := by rw [← Nat.pow_add]
theorem mulT {a b : Int} (ha : a.natAbs ≤ 10 ^ 100 * TT) (hb : b.natAbs ≤ 10 ^ 100 * TT) : mulOk a b = true := mulOk_of 1049000 1049000 (Nat.lt_of_le_of_lt ha tt_lt) (Nat.lt_of_le_of_lt hb tt_lt)
theorem mulT2 {a b : Int} {x y : Int} (ha : a.natAbs ≤ (x * y).natAbs) (hx : x.natAbs ≤ 10 ^ 100 * TT) (hy : y.natAbs ≤ 10 ^ 100 * TT) (hb : b.natAbs ≤ 10 ^ 100 * TT) : mulOk a b = true := by
  have hx' := Nat.lt_of_le_of_lt hx tt_lt
  have hy' := Nat.lt_of_le_of_lt hy tt_lt
  refine mulOk_of 2098000 1049000 (Nat.lt_of_le_of_lt ha ?_) (Nat.lt_of_le_of_lt hb tt_lt)
  rw [Int.natAbs_mul]
  calc x.natAbs * y.natAbs < 2 ^ 1049000 * 2 ^ 1049000 := Nat.mul_lt_mul'' hx' hy'
    _ = 2 ^ 2098000 := by rw [← Nat.pow_add]
theorem of_size {ns ds : List Int} (hb : ∀ z ∈ ns, Builtin.Int.intBits z ≤ 1048576) {Q : R → List Ob → Prop} (k : ∀ (x : Int) ds', 0 ≤ x → x ≤ 10 ^ 45 + TT → Q (.val (.int x)) [intsO ds']) : Ret d_law_size [.ref (intsO ds), .val (.list (ns.map PyData.int))] Q := by
  refine ret_mkR (by repeat constructor) ?_
  unfold b_law_size
  walk_at "r"
  refine of_take (by decide) fun x ds hx1 hx2 => ?_
  walk_at "r"
  refine of_take (by decide) fun kd ds _ _ => ?_
  walk_at "r"
  refine wp_mid (fun ρ => ∃ (n : Int) (ds : List Int), 0 ≤ n ∧ n ≤ 10 ^ 44 ∧ ρ = [some (.ref (intsO ds)), some (.val (.list (ns.map PyData.int))), some (.val (.int n)), some (.val (.int kd))]) ?_ ?_
  · walk_at "ri"
    refine branchD (fun h => ?_) fun h => ?_
    · walk_at "r"
      refine of_take (by decide) fun y ds hy1 hy2 => ?_
      walk_at "r"
      walk_at "len"
      walk_at "r"
      refine of_take (by decide) fun i ds hi1 hi2 => ?_
      walk_at "r"
      obtain ⟨p, hp, hp1, hp2⟩ : ∃ p : Int, atI [.int (10 ^ Int.toNat 3), .int (10 ^ Int.toNat 9), .int (10 ^ Int.toNat 18), .int (10 ^ Int.toNat 40)] i = some (.int p) ∧ 0 ≤ p ∧ p ≤ 10 ^ 40 := by
        have : i = 0 ∨ i = 1 ∨ i = 2 ∨ i = 3 := by omega
        rcases this with rfl | rfl | rfl | rfl <;> exact ⟨_, rfl, by decide, by decide⟩
      refine opq rfl rfl (ev_ix (.inr (.inr rfl)) hp) ?_
      walk_at "r"
      refine opq rfl rfl (ev_mul (mulOkN (by omega) (by omega))) ?_
      walk_at "r"
      have e := mulN (a := 1 + y) (b := p) (A := 1000) (B := 10 ^ 40) (by omega) (by omega)
      have e2 := Int.mul_nonneg (a := 1 + y) (b := p) (by omega) hp1
      exact ⟨rfl, x + (1 + y) * p, ds, by omega, by omega, rfl⟩
    · walk_at "r"
      exact ⟨rfl, x, ds, by omega, by omega, rfl⟩
  rintro _ ⟨n, ds, hn1, hn2, rfl⟩
  walk_at "ri"
  refine branchD (fun h => ?_) fun h => ?_
  · walk_at "r"
    refine of_take (by decide) fun i ds hi1 hi2 => ?_
    walk_at "r"
    refine of_cell (N := 0) fun c hc => ?_
    walk_at "r"
    have hc2 : c.natAbs ≤ TT := by
      rcases hc with rfl | hc
      · exact Nat.le_trans (by decide) tt_pos
      · exact tt_of (hb c hc)
    exact k _ _ (by omega) (by omega)
  · walk_at "r"
    exact k _ _ (by omega) (by omega)
theorem of_common {a b : Int} {Q : R → List Ob → Prop} (k : Q (.val (.int (Int.gcd a b))) []) : Ret d_law_common [.val (.int a), .val (.int b)] Q := by
  refine ret_mkR (by repeat constructor) ?_
  unfold b_law_common
  walk_at "r"
  refine wp_while (fun (p : Nat × Nat) ρ => ρ = [some (.val (.int p.1)), some (.val (.int p.2))] ∧ Nat.gcd p.1 p.2 = Int.gcd a b) (fun p => p.2) (a.natAbs, b.natAbs) ⟨rfl, rfl⟩ ?_
  rintro ⟨x, y⟩ ρ ⟨rfl, hg⟩
  dsimp only at hg ⊢
  unfold t2_law_common l1_law_common
  walk_at "r"
  refine branchD (fun h => ?_) fun h => ?_
  · have hy : 0 < y := by omega
    walk_at "r"
    refine opq rfl rfl (ev_mod (by omega)) ?_
    walk_at "r"
    have e : (x : Int).fmod y = ((x % y : Nat) : Int) := by rw [Int.fmod_eq_emod_of_nonneg _ (by omega)]; simp
    refine ⟨(y, x % y), Nat.mod_lt _ hy, ?_, ?_⟩
    · rw [e]
    · rw [← hg, Nat.gcd_comm x y, Nat.gcd_rec y x, Nat.gcd_comm]
  · have hy : y = 0 := by omega
    subst hy
    walk_at "r"
    rw [Nat.gcd_zero_right] at hg
    rw [hg]
    exact k
theorem of_lfraction {n d : Int} (hd : d ≠ 0) {Q : R → List Ob → Prop} (k : Q (.val (fr (rat n d))) []) : Ret d_law_fraction [.val (.int n), .val (.int d)] Q := by
  have hg := gcd_ne (n := n) hd
  refine ret_mkR (by repeat constructor) ?_
  unfold b_law_fraction
  walk_at "r"
  refine of_common ?_
  walk_at "ri"
  refine branchD (fun h => ?_) fun h => ?_
  · walk_at "r"
    refine opq rfl rfl (ev_div (by omega)) ?_
    walk_at "r"
    refine opq rfl rfl (ev_div (by omega)) ?_
    walk_at "r"
    walk_at "len"
    walk_at "r"
    unfold rat at k
    rw [if_pos h] at k
    exact k
  · walk_at "r"
    refine opq rfl rfl (ev_div (by omega)) ?_
    walk_at "r"
    refine opq rfl rfl (ev_div (by omega)) ?_
    walk_at "r"
    walk_at "len"
    walk_at "r"
    unfold rat at k
    rw [if_neg h] at k
    exact k
/-! comprehensions and sums -/
theorem ints_map (xs : List Int) : ints? (xs.map PyData.int) = some xs := by
  unfold ints?
  induction xs with
  | nil => rfl
  | cons x xs ih => simp [List.mapM_cons, intV?, ih]
theorem ev_sum {xs : List Int} : fSum (.ob (.lst (xs.map PyData.int))) = some (.val (.int xs.sum)) := by simp [fSum, Ct.lst?, ints_map]
theorem cut_map {α β : Type} (f : α → β) (xs : List α) (lo hi : Option Int) : cut (xs.map f) lo hi = (cut xs lo hi).map f := by simp [cut, List.map_drop, List.map_take]
theorem cut_mem {α : Type} {xs : List α} {lo hi : Option Int} {x : α} (h : x ∈ cut xs lo hi) : x ∈ xs := List.mem_of_mem_drop (List.mem_of_mem_take h)

theorem lcqY {g : MG} {vs : List Nat} {e : M} {x : PV} {ρ ρ0 : Env} {Q : List PV → Env → Prop} (h0 : wipe ρ vs = ρ0) (h : PutQ g (.val x) ρ0 fun ρ1 => Wp e ρ1 fun r ρ3 => FrzQ r ρ3 fun v ρ4 => Q [v] ρ4) : LcQ g vs tYes e x ρ Q := by
  subst h0
  obtain ⟨ρ1, e1, q⟩ := h
  exact ⟨ρ1, e1, true, ρ1, rfl, fun _ => q, fun h => by cases h⟩
end Py
/-! QI: how the further meanings are reckoned. -/
namespace Py
open PySem
theorem eqv_int {a b : Int} : PyData.eqv (.int a) (.int b) = decide (a = b) := by simp only [PyData.eqv]; rfl
theorem inD_ints {x : Int} {xs : List Int} : inD (.int x) (xs.map PyData.int) = decide (x ∈ xs) := by
  unfold inD
  induction xs with
  | nil => rfl
  | cons a xs ih =>
    rw [List.map_cons, List.any_cons, ih, eqv_int]
    by_cases h : a = x
    · subst h; simp
    · have h' : ¬ x = a := fun z => h z.symm
      simp [h, h']
theorem flat_ints {xs : List Int} : (xs.map PyData.int).all flatD = true := by
  induction xs with
  | nil => rfl
  | cons a xs ih => rw [List.map_cons, List.all_cons, ih]; rfl
theorem ev_inI {neg : Bool} {x : Int} {c : Ct} {xs : List Int} (h : c.seq? = some (xs.map PyData.int)) : fIn neg (.pv (.int x)) c = some (.val (.bool (neg ^^ decide (x ∈ xs)))) := by
  unfold fIn
  simp only [h, Option.bind_some]
  rw [if_pos ⟨rfl, flat_ints⟩, inD_ints]
theorem ev_in2 {x a b : Int} : fIn false (.pv (.int x)) (.pv (.tuple [.int a, .int b])) = some (.val (.bool (decide (x = a ∨ x = b)))) := by
  rw [ev_inI (xs := [a, b]) rfl]
  simp
theorem ev_in2n {x a b : Int} : fIn true (.pv (.int x)) (.pv (.tuple [.int a, .int b])) = some (.val (.bool (!decide (x = a ∨ x = b)))) := by
  rw [ev_inI (xs := [a, b]) rfl]
  simp
theorem ev_in4n {x a b c d : Int} : fIn true (.pv (.int x)) (.ob (.lst [.int a, .int b, .int c, .int d])) = some (.val (.bool (!decide (x = a ∨ x = b ∨ x = c ∨ x = d)))) := by
  rw [ev_inI (xs := [a, b, c, d]) rfl]
  simp
theorem ev_inF {x : Int} {c : Ct} {xs : List Int} (h : c.seq? = some (xs.map PyData.int)) : fIn false (.pv (.int x)) c = some (.val (.bool (decide (x ∈ xs)))) := by rw [ev_inI h, Bool.false_xor]
theorem ev_inT {x : Int} {c : Ct} {xs : List Int} (h : c.seq? = some (xs.map PyData.int)) : fIn true (.pv (.int x)) c = some (.val (.bool (!decide (x ∈ xs)))) := by rw [ev_inI h, Bool.true_xor]
theorem ev_isT {a : Bool} : fIsB false (.pv (.bool a)) (.pv (.bool true)) = some (.val (.bool a)) := by cases a <;> rfl
theorem ev_isF {a : Bool} : fIsB false (.pv (.bool a)) (.pv (.bool false)) = some (.val (.bool (!a))) := by cases a <;> rfl
theorem ev_isnT {a : Bool} : fIsB true (.pv (.bool a)) (.pv (.bool true)) = some (.val (.bool (!a))) := by cases a <;> rfl
theorem ev_isnF {a : Bool} : fIsB true (.pv (.bool a)) (.pv (.bool false)) = some (.val (.bool a)) := by cases a <;> rfl
theorem branchB {b : Bool} {A B : Prop} (h1 : b = true → A) (h2 : b = false → B) : (b = true → A) ∧ (b = false → B) := ⟨h1, h2⟩
theorem atI_last {xs : List PV} {x : PV} : atI (xs ++ [x]) (-1) = some x := by
  unfold atI ixN
  rw [if_neg (by decide), List.length_append, List.length_singleton, if_pos (by omega), show (-1 + ((xs.length + 1 : Nat) : Int)).toNat = xs.length by omega]
  simp
def tupI (xs : List Int) : PV := .tuple (xs.map PyData.int)
theorem plain_tupI {xs : List Int} {n : Nat} (h : xs.length ≤ line) : Plain (n + 2) (tupI xs) := .tuple (by simpa using h) fun x hx => by
  obtain ⟨i, _, rfl⟩ := List.mem_map.mp hx
  exact .int
theorem ev_addT {xs ys : List PV} (h : xs.length + ys.length ≤ line) : fAdd (.pv (.tuple xs)) (.pv (.tuple ys)) = some (.val (.tuple (xs ++ ys))) := if_pos h
theorem ev_addL {xs ys : List PV} (h : xs.length + ys.length ≤ line) : fAdd (.ob (.lst xs)) (.ob (.lst ys)) = some (.new (.lst (xs ++ ys))) := if_pos h
theorem putqB {i j : Nat} {o : Ob} {v : PV} {ρ ρ1 ρ2 : Env} {Q : Env → Prop} (h : get ρ j = some (.own o)) (h2 : frzO o = some v) (h3 : PutR j (some (.val v)) ρ ρ1) (h4 : PutR i (some (.val v)) ρ1 ρ2) (q : Q ρ2) : PutQ (gName i) (.bor j) ρ Q := by
  have e := h3.put
  simp only [put, h, isRef, Bool.false_eq_true, if_false] at e
  refine ⟨ρ2, ?_, q⟩
  simp only [gName, frz, h, h2, Option.map_some, Option.bind_some]
  rw [Option.some.inj e]
  exact h4.put
theorem pickI {xs : List Int} {i : Int} (h0 : 0 ≤ i) (h1 : i < xs.length) : ∃ w ∈ xs, atI (xs.map PyData.int) i = some (.int w) := by
  obtain ⟨j, rfl⟩ := Int.eq_ofNat_of_zero_le h0
  have hj : j < xs.length := by omega
  exact ⟨xs[j], List.getElem_mem hj, atI_int hj⟩
theorem wp_lstR1 {a : M} {ρ : Env} {Q : R → Env → Prop} (h : Wp a ρ fun x ρ1 => ∃ n : Int, look x ρ1 = some (.pv (.int n)) ∧ (n ≤ line ∧ -(2 ^ 62) ≤ n) ∧ Q (.new (.lst (rangeL 0 n.toNat))) ρ1) : Wp (mLstR1 a) ρ Q := by
  obtain ⟨x, ρ1, e1, n, e2, hz, q⟩ := h
  exact ⟨_, ρ1, by simp only [mLstR1, e1, e2, Option.bind_some, intOf, if_pos hz], q⟩
theorem wp_lstR2 {a b : M} {ρ : Env} {Q : R → Env → Prop} (h : Wp a ρ fun x ρ1 => ∃ lo : Int, look x ρ1 = some (.pv (.int lo)) ∧ Wp b ρ1 fun y ρ2 => ∃ hi : Int, look y ρ2 = some (.pv (.int hi)) ∧ (-(2 ^ 61) ≤ lo ∧ lo < 2 ^ 61 ∧ -(2 ^ 61) ≤ hi ∧ hi < 2 ^ 61 ∧ (hi - lo) ≤ line) ∧ Q (.new (.lst (rangeL lo (hi - lo).toNat))) ρ2) : Wp (mLstR2 a b) ρ Q := by
  obtain ⟨x, ρ1, e1, lo, e2, y, ρ2, e3, hi, e4, hz, q⟩ := h
  exact ⟨_, ρ2, by simp only [mLstR2, e1, e2, e3, e4, Option.bind_some, intOf, if_pos hz], q⟩
theorem rangeL_ints (lo : Int) (n : Nat) : rangeL lo n = ((List.range n).map fun (k : Nat) => lo + (k : Int)).map PyData.int := by simp [rangeL, Function.comp_def]
/-- xs[e] op= a -/
theorem wp_augIx {i : Nat} {e a : M} {f : Ct → Ct → Option R} {ρ : Env} {QS : Fl → Env → Prop} {ys : List PV} (h0 : lstAt ρ i = some ys) (h : Wp e ρ fun y ρ1 => ∃ k xs v, look y ρ1 = some (.pv (.int k)) ∧ lstAt ρ1 i = some xs ∧ atI xs k = some v ∧ Wp a ρ1 fun x ρ2 =>
    ∃ c w zs j ρ3, look x ρ2 = some c ∧ f (.pv v) c = some (.val w) ∧ lstAt ρ2 i = some zs ∧ ixN zs.length k = some j ∧ SetR ρ2 i (.lst (zs.set j w)) ρ3 ∧ QS .nx ρ3) : Wp (sAugIx i e f a) ρ QS := by
  obtain ⟨y, ρ1, e1, k, xs, v, e2, e3, e4, x, ρ2, e5, c, w, zs, j, ρ3, e6, e7, e8, e9, e10, q⟩ := h
  refine ⟨.nx, ρ3, ?_, q⟩
  rw [← e10.eq]
  simp [sAugIx, h0, e1, e2, e3, e4, e5, e6, e7, e8, e9, intOf]
/-- xs.index(e) -/
theorem wp_index {a b : M} {ρ : Env} {Q : R → Env → Prop} (h : Wp a ρ fun x ρ1 => ∃ c0 ys, look x ρ1 = some c0 ∧ c0.lst? = some ys ∧ Wp b ρ1 fun y ρ2 => OpQ fIndex x y ρ2 Q) : Wp (mIndex a b) ρ Q := by
  obtain ⟨x, ρ1, e1, c0, ys, e2, e3, y, ρ2, e4, cx, cy, z, e5, e6, e7, q⟩ := h
  exact ⟨z, ρ2, by simp [mIndex, e1, e2, e3, e4, e5, e6, e7], q⟩
end Py
namespace Py
open PySem D
local macro_rules
  | `(tactic| walk_at "w") => `(tactic| with_reducible first
    | refine seq_nx ?_ | refine seq_rt ?_ | refine seq_bk ?_ | refine seq_ct ?_ | refine wp_seq ?_ | refine wp_asg ?_ | refine wp_next ?_ | refine wp_ret ?_ | refine wp_retN ?_ | refine wp_brk ?_ | refine wp_cont ?_ | refine wp_expr ?_ | refine wp_op ?_ | refine wp_un ?_ | refine wp_c ?_
    | refine unB ?_ | refine wp_truB ?_ | refine wp_and ?_ | refine wp_or ?_ | refine wp_not ?_ | refine wp_ifE ?_ | refine wp_tup ?_ | refine wp_lst ?_ | refine wp_lcons ?_ | refine wp_lnil ?_ | refine frzV ?_ | refine frzN ?_ | refine wp_frz ?_ | refine wp_sl ?_ | refine wp_onone ?_ | refine wp_osome ?_
    | refine wp_anil ?_ | refine wp_av ?_ | refine wp_andV ?_ | refine wp_orV ?_ | refine wp_notV ?_ | refine wp_fgtR ?_ | refine turn_nx ?_ | refine turn_rt ?_ | refine turn_bk ?_ | refine turn_ct ?_ | refine fgt_rt ?_ | refine wp_par ?_ | refine wp_chain ?_ | refine wp_seqI ?_)
local macro_rules
  | `(tactic| walk_at "put") => `(tactic| focus ((repeat apply PutR.s); first | exact PutR.z rfl | exact PutR.z (by assumption)))
local macro_rules
  | `(tactic| walk_at "set") => `(tactic| focus ((repeat apply SetR.s); first | exact SetR.o | exact SetR.r))
local macro_rules
  | `(tactic| walk_at "fgt") => `(tactic| focus (repeat first | exact FgtsR.nil | exact FgtR.k | exact FgtR.z rfl | exact FgtR.z (by assumption) | apply FgtR.s | apply FgtsR.cons))
local macro_rules
  | `(tactic| walk_at "x") => `(tactic| first
    | ((with_reducible apply wp_varV); (focus exact rfl)) | ((with_reducible apply wp_varO); (focus exact rfl)) | ((with_reducible apply wp_varR); (focus exact rfl))
    | ((with_reducible apply opq); (focus exact rfl); (focus exact rfl); (focus (first | exact ev_eqI | exact ev_neI | exact ev_ltI | exact ev_leI | exact ev_gtI | exact ev_geI | exact ev_in2 | exact ev_in2n | exact ev_in4n | exact ev_isT | exact ev_isF | exact ev_isnT | exact ev_isnF | exact ev_strT | exact ev_strF n1 | exact ev_strF n2 | exact ev_strF n3 | exact ev_strF n4 | exact ev_strF n5 | exact ev_strF n6 | exact rfl)))
    | ((with_reducible apply unq); (focus exact rfl); (focus exact rfl))
    | ((with_reducible first | apply putqV | apply putqN); walk_at "put")
    | ((with_reducible apply putqB); (focus exact rfl); (focus exact rfl); walk_at "put"; walk_at "put")
    | ((with_reducible apply putq2); walk_at "put"; walk_at "put")
    | ((with_reducible apply parq); walk_at "put"; walk_at "put")
    | ((with_reducible apply wp_callR); (focus (repeat first | exact RefsR.nil | apply RefsR.v | apply RefsR.r)); (focus decide))
    | ((with_reducible apply wp_ar); (focus exact rfl))
    | ((with_reducible apply fin_rt); (focus exact rfl); (focus exact rfl))
    | ((with_reducible apply fin_nx); (focus exact rfl))
    | ((with_reducible apply wp_appendR); (focus exact rfl))
    | (with_reducible refine ⟨_, rfl, ?_⟩) | (with_reducible refine ⟨_, .inl rfl, ?_⟩) | (with_reducible refine ⟨_, .inr (.inl rfl), ?_⟩) | (with_reducible refine ⟨_, .inr (.inr rfl), ?_⟩)
    | (with_reducible apply callq0) | ((with_reducible apply frzB); (focus exact rfl); (focus exact rfl); walk_at "put")
    | ((with_reducible apply callq1); walk_at "set")
    | ((with_reducible apply callq2); walk_at "set"; walk_at "set")
    | ((with_reducible first | apply fgt_nx | apply fgt_bk | apply fgt_ct); walk_at "fgt")
    | ((with_reducible apply brT); (focus exact rfl)) | ((with_reducible apply brF); (focus exact rfl)))
local macro_rules
  | `(tactic| walk_at "r") => `(tactic| repeat first | walk_at "w" | walk_at "x")
local macro_rules
  | `(tactic| walk_at "ri") => `(tactic| repeat first | walk_at "w" | walk_at "x" | (with_reducible refine wp_if ?_))
local macro_rules
  | `(tactic| walk_at "app") => `(tactic| ((with_reducible apply appq); (focus exact rfl); (focus ((try simp only [List.length_map, List.length_nil, List.length_cons, List.length_append]); unfold line; omega)); walk_at "set"))
local macro_rules
  | `(tactic| walk_at "mul") => `(tactic| ((refine opq rfl rfl (ev_mul ?_) ?_); (focus (apply mulT <;> omega))))
local macro_rules
  | `(tactic| walk_at "rm") => `(tactic| repeat first | walk_at "w" | walk_at "x" | walk_at "mul")
local macro_rules
  | `(tactic| walk_at "len") => `(tactic| (refine And.intro ?_ ?_; (focus (simp [line]; done))))
local macro_rules
  | `(tactic| walk_at "rl") => `(tactic| repeat first | walk_at "w" | walk_at "x" | walk_at "len")
local macro_rules
  | `(tactic| walk_at "ril") => `(tactic| repeat first | walk_at "w" | walk_at "x" | walk_at "len" | (with_reducible refine wp_if ?_))
/-! two clauses -/
def InQ (g : MG) (vs : List Nat) (t : MT) (e : M) (xs : List PV) (ρ : Env) (Q : List PV → Env → Prop) : Prop := xs.length ≤ line ∧ ∃ zs ρ', lcF (lcTurn g vs t e) xs ρ = some (zs, ρ') ∧ Q zs ρ'
def Lc2Q (g : MG) (vs : List Nat) (t : MT) (it1 : MI) (g1 : MG) (vs1 : List Nat) (t1 : MT) (e : M) (x : PV) (ρ : Env) (Q : List PV → Env → Prop) : Prop :=
  PutQ g (.val x) (wipe ρ vs) fun ρ1 => Wp t ρ1 fun b ρ2 => (b = true → Wp it1 ρ2 fun xs ρ3 => InQ g1 vs1 t1 e xs ρ3 Q) ∧ (b = false → Q [] ρ2)
section
variable {g g1 : MG} {vs vs1 : List Nat} {t t1 : MT} {e : M} {ρ : Env} {it it1 : MI}
theorem inq {α : Type} (fn : α → PV) (P : List α → List PV → Env → Prop) (ys : List α) {Q : List PV → Env → Prop} (hz : ys.length ≤ line) (h0 : P [] [] ρ) (step : ∀ done y rest acc ρ, ys = done ++ y :: rest → P done acc ρ → LcQ g vs t e (fn y) ρ fun zs ρ2 => P (done ++ [y]) (acc ++ zs) ρ2)
    (hd : ∀ acc ρ, P ys acc ρ → Q acc ρ) : InQ g vs t e (ys.map fn) ρ Q := by
  have key : ∀ (rest done : List α) (acc : List PV) (ρ : Env), ys = done ++ rest → P done acc ρ → ∃ zs ρ', lcF (lcTurn g vs t e) (rest.map fn) ρ = some (zs, ρ') ∧ P ys (acc ++ zs) ρ' := by
    intro rest
    induction rest with
    | nil =>
      intro done acc ρ e p
      rw [List.append_nil] at e
      subst e
      exact ⟨[], ρ, rfl, by simpa using p⟩
    | cons y rest ih =>
      intro done acc ρ e p
      obtain ⟨ρ2, e2, b, ρ3, e3, h1, h2⟩ := step done y rest acc ρ e p
      have e' : ys = (done ++ [y]) ++ rest := by rw [e]; simp
      cases b with
      | true =>
        obtain ⟨r, ρ4, e4, v, ρ5, e5, q⟩ := h1 rfl
        obtain ⟨zs, ρ', e6, p'⟩ := ih _ _ ρ5 e' q
        exact ⟨v :: zs, ρ', by simp [lcF, lcTurn, e2, e3, e4, e5, e6], by simpa using p'⟩
      | false =>
        obtain ⟨zs, ρ', e6, p'⟩ := ih _ _ ρ3 e' (h2 rfl)
        exact ⟨zs, ρ', by simp [lcF, lcTurn, e2, e3, e6], by simpa using p'⟩
  obtain ⟨zs, ρ', e6, p'⟩ := key ys [] [] ρ rfl h0
  exact ⟨by rw [List.length_map]; exact hz, zs, ρ', e6, hd _ _ (by simpa using p')⟩
theorem wp_lc2 {α : Type} (fn : α → PV) (P : List α → List PV → Env → Prop) {Q : R → Env → Prop}
    (h : Wp it ρ fun xs ρ1 => ∃ ys : List α, xs = ys.map fn ∧ ys.length ≤ line ∧ P [] [] ρ1 ∧ (∀ done y rest acc ρ, ys = done ++ y :: rest → P done acc ρ → Lc2Q g vs t it1 g1 vs1 t1 e (fn y) ρ fun zs ρ2 => P (done ++ [y]) (acc ++ zs) ρ2) ∧ ∀ acc ρ, P ys acc ρ → acc.length ≤ line ∧ Q (.new (.lst acc)) (back ρ1 vs ρ)) :
    Wp (mLc2 it g vs t it1 g1 vs1 t1 e) ρ Q := by
  obtain ⟨xs, ρ1, e1, ys, rfl, hz, h0, step, hd⟩ := h
  have key : ∀ (rest done : List α) (acc : List PV) (ρ : Env), ys = done ++ rest → P done acc ρ → ∃ zs ρ', lcF (lcTurn2 g vs t it1 g1 vs1 t1 e) (rest.map fn) ρ = some (zs, ρ') ∧ P ys (acc ++ zs) ρ' := by
    intro rest
    induction rest with
    | nil =>
      intro done acc ρ e p
      rw [List.append_nil] at e
      subst e
      exact ⟨[], ρ, rfl, by simpa using p⟩
    | cons y rest ih =>
      intro done acc ρ e p
      obtain ⟨ρ2, e2, b, ρ3, e3, h1, h2⟩ := step done y rest acc ρ e p
      have e' : ys = (done ++ [y]) ++ rest := by rw [e]; simp
      cases b with
      | true =>
        obtain ⟨xs1, ρ4, e4, hz1, zs1, ρ5, e5, q⟩ := h1 rfl
        obtain ⟨zs, ρ', e6, p'⟩ := ih _ _ ρ5 e' q
        exact ⟨zs1 ++ zs, ρ', by simp [lcF, lcTurn2, e2, e3, e4, hz1, e5, e6], by simpa using p'⟩
      | false =>
        obtain ⟨zs, ρ', e6, p'⟩ := ih _ _ ρ3 e' (h2 rfl)
        exact ⟨zs, ρ', by simp [lcF, lcTurn2, e2, e3, e6], by simpa using p'⟩
  obtain ⟨zs, ρ', e6, p'⟩ := key ys [] [] ρ1 rfl h0
  have := hd _ _ (show P ys zs ρ' by simpa using p')
  exact ⟨.new (.lst zs), back ρ1 vs ρ', by simp only [mLc2, e1, Option.bind_some, List.length_map, if_pos hz, e6, if_pos this.1], this.2⟩
/-- no test -/
theorem lc2qY {x : PV} {ρ0 : Env} {Q : List PV → Env → Prop} (h0 : wipe ρ vs = ρ0) (h : PutQ g (.val x) ρ0 fun ρ1 => Wp it1 ρ1 fun xs ρ3 => InQ g1 vs1 t1 e xs ρ3 Q) : Lc2Q g vs tYes it1 g1 vs1 t1 e x ρ Q := by
  subst h0
  obtain ⟨ρ1, e1, q⟩ := h
  exact ⟨ρ1, e1, true, ρ1, rfl, fun _ => q, fun h => by cases h⟩
end
end Py
namespace Py
open PySem D
local macro_rules
  | `(tactic| walk_at "w") => `(tactic| with_reducible first
    | refine seq_nx ?_ | refine seq_rt ?_ | refine seq_bk ?_ | refine seq_ct ?_ | refine wp_seq ?_ | refine wp_asg ?_ | refine wp_next ?_ | refine wp_ret ?_ | refine wp_retN ?_ | refine wp_brk ?_ | refine wp_cont ?_ | refine wp_expr ?_ | refine wp_op ?_ | refine wp_un ?_ | refine wp_c ?_
    | refine unB ?_ | refine wp_truB ?_ | refine wp_and ?_ | refine wp_or ?_ | refine wp_not ?_ | refine wp_ifE ?_ | refine wp_tup ?_ | refine wp_lst ?_ | refine wp_lcons ?_ | refine wp_lnil ?_ | refine frzV ?_ | refine frzN ?_ | refine wp_frz ?_ | refine wp_sl ?_ | refine wp_onone ?_ | refine wp_osome ?_
    | refine wp_anil ?_ | refine wp_av ?_ | refine wp_andV ?_ | refine wp_orV ?_ | refine wp_notV ?_ | refine wp_fgtR ?_ | refine turn_nx ?_ | refine turn_rt ?_ | refine turn_bk ?_ | refine turn_ct ?_ | refine fgt_rt ?_ | refine wp_par ?_ | refine wp_chain ?_ | refine wp_seqI ?_)
local macro_rules
  | `(tactic| walk_at "put") => `(tactic| focus ((repeat apply PutR.s); first | exact PutR.z rfl | exact PutR.z (by assumption)))
local macro_rules
  | `(tactic| walk_at "set") => `(tactic| focus ((repeat apply SetR.s); first | exact SetR.o | exact SetR.r))
local macro_rules
  | `(tactic| walk_at "fgt") => `(tactic| focus (repeat first | exact FgtsR.nil | exact FgtR.k | exact FgtR.z rfl | exact FgtR.z (by assumption) | apply FgtR.s | apply FgtsR.cons))
local macro_rules
  | `(tactic| walk_at "x") => `(tactic| first
    | ((with_reducible apply wp_varV); (focus exact rfl)) | ((with_reducible apply wp_varO); (focus exact rfl)) | ((with_reducible apply wp_varR); (focus exact rfl))
    | ((with_reducible apply opq); (focus exact rfl); (focus exact rfl); (focus (first | exact ev_eqI | exact ev_neI | exact ev_ltI | exact ev_leI | exact ev_gtI | exact ev_geI | exact ev_in2 | exact ev_in2n | exact ev_in4n | exact ev_isT | exact ev_isF | exact ev_isnT | exact ev_isnF | exact ev_strT | exact ev_strF n1 | exact ev_strF n2 | exact ev_strF n3 | exact ev_strF n4 | exact ev_strF n5 | exact ev_strF n6 | exact rfl)))
    | ((with_reducible apply unq); (focus exact rfl); (focus exact rfl))
    | ((with_reducible first | apply putqV | apply putqN); walk_at "put")
    | ((with_reducible apply putqB); (focus exact rfl); (focus exact rfl); walk_at "put"; walk_at "put")
    | ((with_reducible apply putq2); walk_at "put"; walk_at "put")
    | ((with_reducible apply parq); walk_at "put"; walk_at "put")
    | ((with_reducible apply wp_callR); (focus (repeat first | exact RefsR.nil | apply RefsR.v | apply RefsR.r)); (focus decide))
    | ((with_reducible apply wp_ar); (focus exact rfl))
    | ((with_reducible apply fin_rt); (focus exact rfl); (focus exact rfl))
    | ((with_reducible apply fin_nx); (focus exact rfl))
    | ((with_reducible apply wp_appendR); (focus exact rfl))
    | (with_reducible refine ⟨_, rfl, ?_⟩) | (with_reducible refine ⟨_, .inl rfl, ?_⟩) | (with_reducible refine ⟨_, .inr (.inl rfl), ?_⟩) | (with_reducible refine ⟨_, .inr (.inr rfl), ?_⟩)
    | (with_reducible apply callq0) | ((with_reducible apply frzB); (focus exact rfl); (focus exact rfl); walk_at "put")
    | ((with_reducible apply callq1); walk_at "set")
    | ((with_reducible apply callq2); walk_at "set"; walk_at "set")
    | ((with_reducible first | apply fgt_nx | apply fgt_bk | apply fgt_ct); walk_at "fgt")
    | ((with_reducible apply brT); (focus exact rfl)) | ((with_reducible apply brF); (focus exact rfl)))
local macro_rules
  | `(tactic| walk_at "r") => `(tactic| repeat first | walk_at "w" | walk_at "x")
local macro_rules
  | `(tactic| walk_at "ri") => `(tactic| repeat first | walk_at "w" | walk_at "x" | (with_reducible refine wp_if ?_))
local macro_rules
  | `(tactic| walk_at "app") => `(tactic| ((with_reducible apply appq); (focus exact rfl); (focus ((try simp only [List.length_map, List.length_nil, List.length_cons, List.length_append]); unfold line; omega)); walk_at "set"))
local macro_rules
  | `(tactic| walk_at "mul") => `(tactic| ((refine opq rfl rfl (ev_mul ?_) ?_); (focus (apply mulT <;> omega))))
local macro_rules
  | `(tactic| walk_at "rm") => `(tactic| repeat first | walk_at "w" | walk_at "x" | walk_at "mul")
local macro_rules
  | `(tactic| walk_at "len") => `(tactic| (refine And.intro ?_ ?_; (focus (simp [line]; done))))
local macro_rules
  | `(tactic| walk_at "rl") => `(tactic| repeat first | walk_at "w" | walk_at "x" | walk_at "len")
local macro_rules
  | `(tactic| walk_at "ril") => `(tactic| repeat first | walk_at "w" | walk_at "x" | walk_at "len" | (with_reducible refine wp_if ?_))
/-! dice -/
def nP (n : Nat) : PV := .int n
theorem isort_len (xs : List Int) : (isort xs).length = xs.length := (List.mergeSort_perm _ _).length_eq
theorem isort_mem {xs : List Int} {x : Int} : x ∈ isort xs ↔ x ∈ xs := (List.mergeSort_perm _ _).mem_iff
theorem isort_pw (ns : List Int) : (isort ns).Pairwise (· ≤ ·) := by
  have h := List.pairwise_mergeSort (le := fun a b : Int => decide (a ≤ b)) (fun a b c h1 h2 => by simp only [decide_eq_true_eq] at *; omega) (fun a b => by simp only [Bool.or_eq_true, decide_eq_true_eq]; omega) ns
  exact h.imp fun z => by simpa using z
theorem ev_sortI {xs : List Int} : fSorted (.ob (.lst (xs.map PyData.int))) = some (.new (.lst ((isort xs).map PyData.int))) := by simp [fSorted, Ct.lst?, ints_map]
/-- a die: not empty, ascending, faces from 1 to p -/
structure Die (p : Int) (xs : List Int) : Prop where
  ne : xs ≠ []
  len : xs.length ≤ 12
  lo : ∀ x ∈ xs, 1 ≤ x
  hi : ∀ x ∈ xs, x ≤ p
  asc : xs.Pairwise (· ≤ ·)
theorem of_die {ds : List Int} {f p : Int} (hf : 1 ≤ f) (hf2 : f ≤ 12) (hp : 1 ≤ p) (hp2 : p ≤ 30) {Q : R → List Ob → Prop} (k : ∀ xs ds', Die p xs → (xs.length : Int) = f → Q (.val (tupI xs)) [intsO ds']) : Ret d_law_die [.ref (intsO ds), .val (.int f), .val (.int p)] Q := by
  refine ret_mkR (by repeat constructor) ?_
  unfold b_law_die
  walk_at "r"
  refine wp_mid (fun ρ => ∃ (w : Int) (ds : List Int), 1 ≤ w ∧ w ≤ p ∧ ρ = [some (.ref (intsO ds)), some (.val (.int f)), some (.val (.int p)), some (.val (.int w)), none, none]) ?_ ?_
  · walk_at "ri"
    refine of_take (by decide) fun x ds _ _ => ?_
    walk_at "ri"
    refine branchD (fun h => ?_) fun h => ?_
    · walk_at "r"
      exact ⟨rfl, _, ds, by split <;> omega, by split <;> omega, rfl⟩
    · walk_at "r"
      exact ⟨rfl, p, ds, hp, by omega, rfl⟩
  rintro _ ⟨w, ds, hw1, hw2, rfl⟩
  walk_at "r"
  refine of_take (by omega) fun a ds ha1 ha2 => ?_
  walk_at "r"
  obtain ⟨n, rfl⟩ := Int.eq_ofNat_of_zero_le (show 0 ≤ f by omega)
  refine wp_lc nP (fun done acc ρ => ∃ (xs ds : List Int) (u : Option Sl), acc = xs.map PyData.int ∧ xs.length = done.length ∧ (∀ x ∈ xs, 1 ≤ x ∧ x ≤ p) ∧ isRef u = false ∧ ρ = [some (.ref (intsO ds)), some (.val (.int n)), some (.val (.int p)), some (.val (.int w)), some (.val (.int (1 + a))), u]) ?_
  refine wp_rng1 ?_
  walk_at "r"
  refine ⟨by unfold line; omega, List.range n, by simp [nP], by simp [line]; omega, ⟨[], ds, none, rfl, rfl, by simp, rfl, rfl⟩, ?_, ?_⟩
  · rintro done y rest _ _ e ⟨xs, ds, u, rfl, h1, h2, hu, rfl⟩
    refine lcqY rfl ?_
    dsimp only [wipe, set_s, set_z, nP]
    unfold e1_law_die
    walk_at "r"
    refine of_take (by omega) fun b ds hb1 hb2 => ?_
    walk_at "r"
    refine ⟨xs ++ [1 + a + b], ds, _, by simp, by simp [h1], ?_, rfl, rfl⟩
    intro x hx
    rcases List.mem_append.mp hx with hx | hx
    · exact h2 x hx
    · rw [List.mem_singleton.mp hx]; omega
  rintro _ _ ⟨xs, ds, u, rfl, h1, h2, hu, rfl⟩
  dsimp only [back, set_s, set_z, get_s, get_z]
  refine unq rfl ev_sortI ?_
  walk_at "r"
  rw [List.length_range] at h1
  refine k (isort xs) ds ⟨?_, by rw [isort_len]; omega, fun x hx => (h2 x (isort_mem.mp hx)).1, fun x hx => (h2 x (isort_mem.mp hx)).2, isort_pw xs⟩ (by rw [isort_len]; omega)
  intro z
  have := isort_len xs
  rw [z] at this
  simp at this
  omega
end Py
namespace Py
open PySem D
local macro_rules
  | `(tactic| walk_at "w") => `(tactic| with_reducible first
    | refine seq_nx ?_ | refine seq_rt ?_ | refine seq_bk ?_ | refine seq_ct ?_ | refine wp_seq ?_ | refine wp_asg ?_ | refine wp_next ?_ | refine wp_ret ?_ | refine wp_retN ?_ | refine wp_brk ?_ | refine wp_cont ?_ | refine wp_expr ?_ | refine wp_op ?_ | refine wp_un ?_ | refine wp_c ?_
    | refine unB ?_ | refine wp_truB ?_ | refine wp_and ?_ | refine wp_or ?_ | refine wp_not ?_ | refine wp_ifE ?_ | refine wp_tup ?_ | refine wp_lst ?_ | refine wp_lcons ?_ | refine wp_lnil ?_ | refine frzV ?_ | refine frzN ?_ | refine wp_frz ?_ | refine wp_sl ?_ | refine wp_onone ?_ | refine wp_osome ?_
    | refine wp_anil ?_ | refine wp_av ?_ | refine wp_andV ?_ | refine wp_orV ?_ | refine wp_notV ?_ | refine wp_fgtR ?_ | refine turn_nx ?_ | refine turn_rt ?_ | refine turn_bk ?_ | refine turn_ct ?_ | refine fgt_rt ?_ | refine wp_par ?_ | refine wp_chain ?_ | refine wp_seqI ?_)
local macro_rules
  | `(tactic| walk_at "put") => `(tactic| focus ((repeat apply PutR.s); first | exact PutR.z rfl | exact PutR.z (by assumption)))
local macro_rules
  | `(tactic| walk_at "set") => `(tactic| focus ((repeat apply SetR.s); first | exact SetR.o | exact SetR.r))
local macro_rules
  | `(tactic| walk_at "fgt") => `(tactic| focus (repeat first | exact FgtsR.nil | exact FgtR.k | exact FgtR.z rfl | exact FgtR.z (by assumption) | apply FgtR.s | apply FgtsR.cons))
local macro_rules
  | `(tactic| walk_at "x") => `(tactic| first
    | ((with_reducible apply wp_varV); (focus exact rfl)) | ((with_reducible apply wp_varO); (focus exact rfl)) | ((with_reducible apply wp_varR); (focus exact rfl))
    | ((with_reducible apply opq); (focus exact rfl); (focus exact rfl); (focus (first | exact ev_eqI | exact ev_neI | exact ev_ltI | exact ev_leI | exact ev_gtI | exact ev_geI | exact ev_in2 | exact ev_in2n | exact ev_in4n | exact ev_isT | exact ev_isF | exact ev_isnT | exact ev_isnF | exact ev_strT | exact ev_strF n1 | exact ev_strF n2 | exact ev_strF n3 | exact ev_strF n4 | exact ev_strF n5 | exact ev_strF n6 | exact rfl)))
    | ((with_reducible apply unq); (focus exact rfl); (focus exact rfl))
    | ((with_reducible first | apply putqV | apply putqN); walk_at "put")
    | ((with_reducible apply putqB); (focus exact rfl); (focus exact rfl); walk_at "put"; walk_at "put")
    | ((with_reducible apply putq2); walk_at "put"; walk_at "put")
    | ((with_reducible apply parq); walk_at "put"; walk_at "put")
    | ((with_reducible apply wp_callR); (focus (repeat first | exact RefsR.nil | apply RefsR.v | apply RefsR.r)); (focus decide))
    | ((with_reducible apply wp_ar); (focus exact rfl))
    | ((with_reducible apply fin_rt); (focus exact rfl); (focus exact rfl))
    | ((with_reducible apply fin_nx); (focus exact rfl))
    | ((with_reducible apply wp_appendR); (focus exact rfl))
    | (with_reducible refine ⟨_, rfl, ?_⟩) | (with_reducible refine ⟨_, .inl rfl, ?_⟩) | (with_reducible refine ⟨_, .inr (.inl rfl), ?_⟩) | (with_reducible refine ⟨_, .inr (.inr rfl), ?_⟩)
    | (with_reducible apply callq0) | ((with_reducible apply frzB); (focus exact rfl); (focus exact rfl); walk_at "put")
    | ((with_reducible apply callq1); walk_at "set")
    | ((with_reducible apply callq2); walk_at "set"; walk_at "set")
    | ((with_reducible first | apply fgt_nx | apply fgt_bk | apply fgt_ct); walk_at "fgt")
    | ((with_reducible apply brT); (focus exact rfl)) | ((with_reducible apply brF); (focus exact rfl)))
local macro_rules
  | `(tactic| walk_at "r") => `(tactic| repeat first | walk_at "w" | walk_at "x")
local macro_rules
  | `(tactic| walk_at "ri") => `(tactic| repeat first | walk_at "w" | walk_at "x" | (with_reducible refine wp_if ?_))
local macro_rules
  | `(tactic| walk_at "app") => `(tactic| ((with_reducible apply appq); (focus exact rfl); (focus ((try simp only [List.length_map, List.length_nil, List.length_cons, List.length_append]); unfold line; omega)); walk_at "set"))
local macro_rules
  | `(tactic| walk_at "mul") => `(tactic| ((refine opq rfl rfl (ev_mul ?_) ?_); (focus (apply mulT <;> omega))))
local macro_rules
  | `(tactic| walk_at "rm") => `(tactic| repeat first | walk_at "w" | walk_at "x" | walk_at "mul")
local macro_rules
  | `(tactic| walk_at "len") => `(tactic| (refine And.intro ?_ ?_; (focus (simp [line]; done))))
local macro_rules
  | `(tactic| walk_at "rl") => `(tactic| repeat first | walk_at "w" | walk_at "x" | walk_at "len")
local macro_rules
  | `(tactic| walk_at "ril") => `(tactic| repeat first | walk_at "w" | walk_at "x" | walk_at "len" | (with_reducible refine wp_if ?_))
/-! dicts of ways -/
section
variable {ρ ρ1 ρ2 ρ3 : Env} {i j : Nat} {s : SM} {QS : Fl → Env → Prop} {Q : R → Env → Prop} {kvs : List (Key × PV)} {a e d k v : M}
theorem wp_varL (h : get ρ i = some (.lck kvs)) (q : Q (.bor i) ρ) : Wp (mVar i) ρ Q := ⟨_, _, by simp [mVar, h], q⟩
theorem wp_lockR (g : get ρ i = some (.ref (.dct kvs))) (e : ρ.set i (some (.lck kvs)) = ρ1) (h : Wp s ρ1 fun f ρ2 => ∃ kvs2 ρ3, get ρ2 i = some (.lck kvs2) ∧ ρ2.set i (some (.ref (.dct kvs2))) = ρ3 ∧ QS f ρ3) : Wp (sLock i s) ρ QS := by
  obtain ⟨f, ρ2, e2, kvs2, ρ3, g2, e3, q⟩ := h
  exact ⟨f, ρ3, by simp [sLock, lockE, unlockE, g, e, e2, g2, e3], q⟩
theorem wp_lockO (g : get ρ i = some (.own (.dct kvs))) (e : ρ.set i (some (.lck kvs)) = ρ1) (h : Wp s ρ1 fun f ρ2 => ∃ kvs2 ρ3, get ρ2 i = some (.lck kvs2) ∧ ρ2.set i (some (.own (.dct kvs2))) = ρ3 ∧ QS f ρ3) : Wp (sLock i s) ρ QS := by
  obtain ⟨f, ρ2, e2, kvs2, ρ3, g2, e3, q⟩ := h
  exact ⟨f, ρ3, by simp [sLock, lockE, unlockE, g, e, e2, g2, e3], q⟩
theorem wp_keysL {QL : List PV → Env → Prop} (g : get ρ i = some (.lck kvs)) (q : QL (kvs.map fun kv => keyPV kv.1) ρ) : Wp (iKeysL i) ρ QL := ⟨_, _, by simp [iKeysL, g], q⟩
def DputQ (i : Nat) (v : PV) (y : R) (ρ : Env) (Q : Env → Prop) : Prop := ∃ c key kvs ρ4, look y ρ = some c ∧ keyC c = some key ∧ dctAt ρ i = some kvs ∧ kvs.length < line ∧ SetR ρ i (.dct (dPut kvs key v)) ρ4 ∧ Q ρ4
theorem dputq {key : Key} {v : PV} {y : R} {c : Ct} {ρ4 : Env} {Q : Env → Prop} (h1 : look y ρ = some c) (h2 : keyC c = some key) (h3 : dctAt ρ i = some kvs) (h4 : kvs.length < line) (h5 : SetR ρ i (.dct (dPut kvs key v)) ρ4) (q : Q ρ4) : DputQ i v y ρ Q := ⟨c, key, kvs, ρ4, h1, h2, h3, h4, h5, q⟩
theorem wp_dput (h : Wp a ρ fun x ρ1 => FrzQ x ρ1 fun v ρ2 => ∃ k0, dctAt ρ2 i = some k0 ∧ Wp e ρ2 fun y ρ3 => DputQ i v y ρ3 (QS .nx)) : Wp (Py.sDput i e a) ρ QS := by
  obtain ⟨x, ρ1, e1, v, ρ2, e2, k0, e3, y, ρ3, e4, c, key, kvs, ρ4, h1, h2, h3, h4, h5, q⟩ := h
  exact ⟨.nx, ρ4, by simp [Py.sDput, e1, e2, e3, e4, h1, h2, h3, h4, h5.eq], q⟩
theorem wp_dgetD (h : Wp d ρ fun x ρ1 => ∃ kvs0, look x ρ1 = some (.ob (.dct kvs0)) ∧ Wp k ρ1 fun y ρ2 => ∃ ck key, look y ρ2 = some ck ∧ keyC ck = some key ∧ Wp v ρ2 fun z ρ3 => ∃ kvs w, look x ρ3 = some (.ob (.dct kvs)) ∧ z = .val w ∧ Q (.val ((dGet kvs key).getD w)) ρ3) : Wp (mDgetD d k v) ρ Q := by
  obtain ⟨x, ρ1, e1, kvs0, e2, y, ρ2, e3, ck, key, e4, e5, z, ρ3, e6, kvs, w, e7, rfl, q⟩ := h
  exact ⟨_, ρ3, by simp [mDgetD, e1, e2, isDct, e3, e4, e5, e6, e7], q⟩
theorem wp_dctC {ns : List (Int × Int)} (q : Q (.new (.dct (ns.map fun p => (.inl p.1, .int p.2)))) ρ) : Wp (mDctC ns) ρ Q := ⟨_, _, rfl, q⟩
theorem wp_dct0 (q : Q (.new (.dct [])) ρ) : Wp mDct0 ρ Q := ⟨_, _, rfl, q⟩
theorem wp_move {ρ4 : Env} (g : get ρ j = some (.own (.dct kvs))) (h : PutR i (some (.own (.dct kvs))) (ρ.set j none) ρ4) (q : QS .nx ρ4) : Wp (sMove i j) ρ QS := ⟨_, _, by simp [sMove, g, h.put], q⟩
end
/-- a dict of the numbers of times that items stand in a list -/
def IsW (kvs : List (Key × PV)) (M : List Int) : Prop := ∃ ks : List Int, ks.Nodup ∧ kvs = ks.map (fun k => ((.inl k : Key), PyData.int (M.count k : Nat))) ∧ ∀ k, k ∈ ks ↔ k ∈ M
theorem isW_perm {kvs : List (Key × PV)} {M M' : List Int} (h : IsW kvs M) (p : M.Perm M') : IsW kvs M' := by
  obtain ⟨ks, h1, h2, h3⟩ := h
  refine ⟨ks, h1, ?_, fun k => by rw [h3, p.mem_iff]⟩
  rw [h2]
  apply List.map_congr_left
  intro k _
  rw [p.count_eq]
theorem wget (f : Int → PV) (k : Int) : ∀ ks : List Int, dGet (ks.map fun x => ((.inl x : Key), f x)) (.inl k) = if k ∈ ks then some (f k) else none
  | [] => rfl
  | x :: ks => by
    have ih := wget f k ks
    unfold dGet at ih ⊢
    rw [List.map_cons]
    by_cases h : x = k
    · subst h
      rw [List.find?_cons_of_pos (by simp), if_pos List.mem_cons_self]; rfl
    · rw [List.find?_cons_of_neg (by simpa using h), ih]
      by_cases h2 : k ∈ ks
      · rw [if_pos h2, if_pos (List.mem_cons_of_mem _ h2)]
      · rw [if_neg h2, if_neg fun z => by
          rcases List.mem_cons.mp z with z | z
          · exact h z.symm
          · exact h2 z]
theorem isW_get {kvs : List (Key × PV)} {M : List Int} (h : IsW kvs M) (k : Int) : (dGet kvs (.inl k)).getD (.int 0) = .int (M.count k : Nat) := by
  obtain ⟨ks, h1, rfl, h3⟩ := h
  rw [wget fun x => PyData.int (M.count x : Nat)]
  by_cases h : k ∈ ks
  · rw [if_pos h]; rfl
  · rw [if_neg h]
    have : M.count k = 0 := List.count_eq_zero.mpr fun z => h ((h3 k).mpr z)
    rw [this]; rfl
theorem isW_get' {kvs : List (Key × PV)} {M : List Int} (h : IsW kvs M) {k : Int} (hk : k ∈ M) : dGet kvs (.inl k) = some (.int (M.count k : Nat)) := by
  obtain ⟨ks, h1, rfl, h3⟩ := h
  rw [wget fun x => PyData.int (M.count x : Nat), if_pos ((h3 k).mpr hk)]
theorem wput (f : Int → PV) (k : Int) (v : PV) (ks : List Int) : dPut (ks.map fun x => ((.inl x : Key), f x)) (.inl k) v = (if k ∈ ks then ks else ks ++ [k]).map fun x => ((.inl x : Key), if x = k then v else f x) := by
  have hfind : ((ks.map fun x => ((.inl x : Key), f x)).find? fun kv => decide (kv.1 = .inl k)).isSome = decide (k ∈ ks) := by
    have := wget f k ks
    unfold dGet at this
    by_cases h : k ∈ ks
    · rw [if_pos h] at this
      cases hf : (ks.map fun x => ((.inl x : Key), f x)).find? fun kv => decide (kv.1 = .inl k) with
      | none => rw [hf] at this; cases this
      | some y => simp [h]
    · rw [if_neg h] at this
      cases hf : (ks.map fun x => ((.inl x : Key), f x)).find? fun kv => decide (kv.1 = .inl k) with
      | none => simp [h]
      | some y => rw [hf] at this; cases this
  unfold dPut
  rw [hfind]
  by_cases h : k ∈ ks
  · rw [if_pos (by simpa using h), if_pos h, List.map_map]
    apply List.map_congr_left
    intro x _
    simp only [Function.comp]
    by_cases e : x = k
    · subst e; simp
    · rw [if_neg (by simpa using e), if_neg e]
  · rw [if_neg (by simpa using h), if_neg h, List.map_append]
    congr 1
    · apply List.map_congr_left
      intro x hx
      rw [if_neg (fun (e : x = k) => h (e ▸ hx))]
    · simp
theorem isW_put {kvs : List (Key × PV)} {M : List Int} (h : IsW kvs M) (k : Int) {c : Nat} (hc : 0 < c) : IsW (dPut kvs (.inl k) (.int ((M.count k : Nat) + (c : Nat) : Int))) (M ++ List.replicate c k) := by
  obtain ⟨ks, h1, rfl, h3⟩ := h
  rw [wput fun x => PyData.int (M.count x : Nat)]
  refine ⟨if k ∈ ks then ks else ks ++ [k], ?_, ?_, fun x => ?_⟩
  · split
    · exact h1
    · rename_i hn
      rw [List.nodup_append]
      refine ⟨h1, by simp, fun a ha b hb => ?_⟩
      rw [List.mem_singleton] at hb
      rintro rfl
      exact hn (hb ▸ ha)
  · apply List.map_congr_left
    intro x _
    rw [List.count_append, List.count_replicate]
    by_cases e : x = k
    · subst e; simp
    · rw [if_neg e]
      have : (k == x) = false := by simpa using Ne.symm e
      simp [this]
  · rw [List.mem_append, List.mem_replicate]
    by_cases hk : k ∈ ks
    · rw [if_pos hk, h3]
      constructor
      · exact .inl
      · rintro (h | ⟨_, rfl⟩)
        · exact h
        · exact (h3 _).mp hk
    · rw [if_neg hk, List.mem_append, List.mem_singleton, h3]
      constructor
      · rintro (h | h)
        · exact .inl h
        · exact .inr ⟨by omega, h⟩
      · rintro (h | ⟨_, h⟩)
        · exact .inl h
        · exact .inr h
theorem nodup_le : ∀ {ks M : List Int}, ks.Nodup → (∀ k ∈ ks, k ∈ M) → ks.length ≤ M.length
  | [], _, _, _ => Nat.zero_le _
  | k :: ks, M, h1, h2 => by
    rw [List.nodup_cons] at h1
    have hk := h2 k List.mem_cons_self
    have ih := nodup_le (M := M.erase k) h1.2 fun x hx => (List.mem_erase_of_ne (fun e => h1.1 (by rw [← e]; exact hx))).mpr (h2 x (List.mem_cons_of_mem _ hx))
    have := List.length_erase_of_mem hk
    have := List.length_pos_of_mem hk
    rw [List.length_cons]
    omega
theorem isW_len {kvs : List (Key × PV)} {M : List Int} (h : IsW kvs M) : kvs.length ≤ M.length := by
  obtain ⟨ks, h1, rfl, h3⟩ := h
  rw [List.length_map]
  exact nodup_le h1 fun k hk => (h3 k).mp hk
/-- one die more -/
def addD (M die : List Int) : List Int := M.flatMap fun s => die.map fun f => s + f
def thr (dice : List (List Int)) : List Int := dice.foldl addD [0]
theorem addD_len (M die : List Int) : (addD M die).length = M.length * die.length := by
  unfold addD
  induction M with
  | nil => simp
  | cons s M ih => rw [List.flatMap_cons, List.length_append, ih, List.length_map, List.length_cons, Nat.add_mul]; omega
theorem rep_flat (g : List Int) (t : Int) : ∀ c : Nat, ((List.replicate c t).flatMap fun s => g.map fun f => s + f).Perm (g.flatMap fun f => List.replicate c (t + f))
  | 0 => by simp
  | c + 1 => by
    rw [List.replicate_succ, List.flatMap_cons]
    refine ((List.Perm.refl _).append (rep_flat g t c)).trans ?_
    induction g with
    | nil => exact .refl _
    | cons f g ih =>
      rw [List.map_cons, List.flatMap_cons, List.flatMap_cons, List.replicate_succ, List.cons_append, List.cons_append]
      refine List.Perm.cons _ ?_
      refine (List.perm_append_comm_assoc _ _ _).trans ?_
      exact (List.Perm.refl _).append ih
theorem keys_perm {ks M : List Int} (h1 : ks.Nodup) (h3 : ∀ k, k ∈ ks ↔ k ∈ M) : (ks.flatMap fun t => List.replicate (M.count t) t).Perm M := by
  rw [List.perm_iff_count]
  intro x
  rw [List.count_flatMap]
  have : ∀ ks : List Int, ks.Nodup → (ks.map (List.count x ∘ fun t => List.replicate (M.count t) t)).sum = if x ∈ ks then M.count x else 0 := by
    intro ks
    induction ks with
    | nil => intro _; rfl
    | cons k ks ih =>
      intro h
      rw [List.nodup_cons] at h
      rw [List.map_cons, List.sum_cons, ih h.2]
      simp only [Function.comp]
      rw [List.count_replicate]
      by_cases e : k = x
      · subst e
        rw [if_neg h.1, if_pos (by simp), if_pos List.mem_cons_self]; rfl
      · rw [if_neg (by simpa using e), Nat.zero_add]
        by_cases hx : x ∈ ks
        · rw [if_pos hx, if_pos (List.mem_cons_of_mem _ hx)]
        · rw [if_neg hx, if_neg fun z => by
            rcases List.mem_cons.mp z with z | z
            · exact e z.symm
            · exact hx z]
  rw [this ks h1]
  by_cases hx : x ∈ ks
  · rw [if_pos hx]
  · rw [if_neg hx]
    exact (List.count_eq_zero.mpr fun z => hx ((h3 x).mpr z)).symm
theorem flat_perm {ks M die : List Int} (h1 : ks.Nodup) (h3 : ∀ k, k ∈ ks ↔ k ∈ M) : (ks.flatMap fun t => die.flatMap fun f => List.replicate (M.count t) (t + f)).Perm (addD M die) := by
  have h := (keys_perm h1 h3).flatMap_right fun s => die.map fun f => s + f
  refine List.Perm.trans ?_ h
  rw [List.flatMap_assoc]
  clear h h1 h3
  induction ks with
  | nil => exact .refl _
  | cons t ks ih =>
    rw [List.flatMap_cons, List.flatMap_cons]
    exact (rep_flat die t (M.count t)).symm.append ih
theorem fl_perm_app {α : Type} (xs : List α) (f : α → List Int) (x : α) : (xs ++ [x]).flatMap f = xs.flatMap f ++ f x := by simp

section
variable {Q : R → List Ob → Prop}
theorem keys_map (f : Int → PV) (ks : List Int) : (ks.map fun x => ((.inl x : Key), f x)).map (fun kv => keyPV kv.1) = ks.map PyData.int := by simp [keyPV]
/-- rows of dice of few throws -/
def Dies (dice : List (List Int)) : Prop := ∀ d ∈ dice, d ≠ [] ∧ d.length ≤ 12
theorem of_sums_with {kvs : List (Key × PV)} {M die : List Int} (hW : IsW kvs M) (hM : M.length * die.length < 10000000) (hd : die ≠ []) (k : ∀ kvs', IsW kvs' (addD M die) → Q (.new (.dct kvs')) [.dct kvs]) : Ret d_sums_with [.ref (.dct kvs), .val (tupI die)] Q := by
  obtain ⟨ks, n1, e1, n3⟩ := id hW
  have hkl := isW_len hW
  have hdp : 0 < die.length := List.length_pos_iff.mpr hd
  have hMl : M.length ≤ M.length * die.length := Nat.le_mul_of_pos_right _ hdp
  refine ret_mkR (by repeat constructor) ?_
  unfold b_sums_with
  walk_at "r"
  refine wp_dct0 ?_
  walk_at "r"
  refine wp_lockR (kvs := kvs) (ρ1 := [some (.lck kvs), some (.val (tupI die)), some (.own (.dct [])), none, none]) rfl rfl ?_
  refine wp_for (wp_keysL rfl ?_)
  rw [show (kvs.map fun kv => keyPV kv.1) = ks.map PyData.int by rw [e1]; exact keys_map _ ks]
  refine wp_loop PyData.int (fun done ρ => ∃ m2, IsW m2 (done.flatMap fun t => die.flatMap fun f => List.replicate (M.count t) (t + f)) ∧ ρ = [some (.lck kvs), some (.val (tupI die)), some (.own (.dct m2)), none, none]) ks ⟨[], ⟨[], .nil, rfl, by simp⟩, rfl⟩ ?_ ?_
  · rintro done t rest _ e ⟨m2, h2, rfl⟩
    have htM : t ∈ M := (n3 t).mp (by rw [e]; simp)
    have hcp : 0 < M.count t := List.count_pos_iff.mpr htM
    have hget := isW_get' hW htM
    -- never more than all
    have hle : ∀ (A B : List Int), (∀ x ∈ A ++ B, x ∈ addD M die) → True := fun _ _ _ => trivial
    clear hle
    unfold l2_sums_with
    walk_at "r"
    refine wp_for (wp_seqI ?_)
    unfold tupI
    walk_at "r"
    refine wp_loop PyData.int (fun done2 ρ => ∃ m2, IsW m2 ((done.flatMap fun t => die.flatMap fun f => List.replicate (M.count t) (t + f)) ++ done2.flatMap fun f => List.replicate (M.count t) (t + f)) ∧ ρ = [some (.lck kvs), some (.val (tupI die)), some (.own (.dct m2)), some (.val (.int t)), none]) die ⟨m2, by simpa using h2, rfl⟩ ?_ ?_
    · rintro done2 f rest2 _ e2 ⟨m3, h3, rfl⟩
      have hlen : m3.length < line := by
        have h4 : m3.length ≤ (addD M die).length := by
          obtain ⟨ks3, a1, rfl, a3⟩ := h3
          rw [List.length_map]
          refine nodup_le a1 fun x hx => ?_
          have hx := (a3 x).mp hx
          rw [List.mem_append, List.mem_flatMap, List.mem_flatMap] at hx
          unfold addD
          rw [List.mem_flatMap]
          rcases hx with ⟨t', ht', hx⟩ | ⟨f', hf', hx⟩
          · obtain ⟨f', hf', hx⟩ := List.mem_flatMap.mp hx
            rw [List.mem_replicate] at hx
            exact ⟨t', (n3 t').mp (by rw [e]; simp [ht']), List.mem_map.mpr ⟨f', hf', hx.2.symm⟩⟩
          · rw [List.mem_replicate] at hx
            exact ⟨t, htM, List.mem_map.mpr ⟨f', by rw [e2]; simp [hf'], hx.2.symm⟩⟩
        rw [addD_len] at h4
        unfold line
        omega
      unfold l1_sums_with
      walk_at "r"
      refine wp_dput ?_
      walk_at "r"
      refine wp_dgetD ?_
      walk_at "r"
      refine ⟨_, .inl (t + f), rfl, rfl, ?_⟩
      walk_at "r"
      refine ⟨m3, .int 0, rfl, rfl, ?_⟩
      rw [isW_get h3]
      refine wp_op (wp_varL rfl ?_)
      walk_at "r"
      refine opq rfl rfl (show fDget (.ob (.dct kvs)) (.pv (.int t)) = some (.val (.int (M.count t : Nat))) from by simp [fDget, keyC, keyOf, hget]) ?_
      walk_at "r"
      refine dputq rfl rfl rfl hlen (SetR.s (SetR.s SetR.o)) ?_
      walk_at "r"
      refine ⟨_, ?_, rfl⟩
      have := isW_put h3 (t + f) hcp
      rw [fl_perm_app, ← List.append_assoc]
      exact this
    · rintro _ ⟨m3, h3, rfl⟩
      walk_at "r"
      exact ⟨m3, by rw [fl_perm_app]; exact h3, rfl⟩
  · rintro _ ⟨m2, h2, rfl⟩
    refine ⟨kvs, _, rfl, rfl, ?_⟩
    walk_at "r"
    exact k m2 (isW_perm h2 (flat_perm n1 n3))
end
end Py
namespace Py
open PySem D
local macro_rules
  | `(tactic| walk_at "w") => `(tactic| with_reducible first
    | refine seq_nx ?_ | refine seq_rt ?_ | refine seq_bk ?_ | refine seq_ct ?_ | refine wp_seq ?_ | refine wp_asg ?_ | refine wp_next ?_ | refine wp_ret ?_ | refine wp_retN ?_ | refine wp_brk ?_ | refine wp_cont ?_ | refine wp_expr ?_ | refine wp_op ?_ | refine wp_un ?_ | refine wp_c ?_
    | refine unB ?_ | refine wp_truB ?_ | refine wp_and ?_ | refine wp_or ?_ | refine wp_not ?_ | refine wp_ifE ?_ | refine wp_tup ?_ | refine wp_lst ?_ | refine wp_lcons ?_ | refine wp_lnil ?_ | refine frzV ?_ | refine frzN ?_ | refine wp_frz ?_ | refine wp_sl ?_ | refine wp_onone ?_ | refine wp_osome ?_
    | refine wp_anil ?_ | refine wp_av ?_ | refine wp_andV ?_ | refine wp_orV ?_ | refine wp_notV ?_ | refine wp_fgtR ?_ | refine turn_nx ?_ | refine turn_rt ?_ | refine turn_bk ?_ | refine turn_ct ?_ | refine fgt_rt ?_ | refine wp_par ?_ | refine wp_chain ?_ | refine wp_seqI ?_)
local macro_rules
  | `(tactic| walk_at "put") => `(tactic| focus ((repeat apply PutR.s); first | exact PutR.z rfl | exact PutR.z (by assumption)))
local macro_rules
  | `(tactic| walk_at "set") => `(tactic| focus ((repeat apply SetR.s); first | exact SetR.o | exact SetR.r))
local macro_rules
  | `(tactic| walk_at "fgt") => `(tactic| focus (repeat first | exact FgtsR.nil | exact FgtR.k | exact FgtR.z rfl | exact FgtR.z (by assumption) | apply FgtR.s | apply FgtsR.cons))
local macro_rules
  | `(tactic| walk_at "x") => `(tactic| first
    | ((with_reducible apply wp_varV); (focus exact rfl)) | ((with_reducible apply wp_varO); (focus exact rfl)) | ((with_reducible apply wp_varR); (focus exact rfl))
    | ((with_reducible apply opq); (focus exact rfl); (focus exact rfl); (focus (first | exact ev_eqI | exact ev_neI | exact ev_ltI | exact ev_leI | exact ev_gtI | exact ev_geI | exact ev_in2 | exact ev_in2n | exact ev_in4n | exact ev_isT | exact ev_isF | exact ev_isnT | exact ev_isnF | exact ev_strT | exact ev_strF n1 | exact ev_strF n2 | exact ev_strF n3 | exact ev_strF n4 | exact ev_strF n5 | exact ev_strF n6 | exact rfl)))
    | ((with_reducible apply unq); (focus exact rfl); (focus exact rfl))
    | ((with_reducible first | apply putqV | apply putqN); walk_at "put")
    | ((with_reducible apply putqB); (focus exact rfl); (focus exact rfl); walk_at "put"; walk_at "put")
    | ((with_reducible apply putq2); walk_at "put"; walk_at "put")
    | ((with_reducible apply parq); walk_at "put"; walk_at "put")
    | ((with_reducible apply wp_callR); (focus (repeat first | exact RefsR.nil | apply RefsR.v | apply RefsR.r)); (focus decide))
    | ((with_reducible apply wp_ar); (focus exact rfl))
    | ((with_reducible apply fin_rt); (focus exact rfl); (focus exact rfl))
    | ((with_reducible apply fin_nx); (focus exact rfl))
    | ((with_reducible apply wp_appendR); (focus exact rfl))
    | (with_reducible refine ⟨_, rfl, ?_⟩) | (with_reducible refine ⟨_, .inl rfl, ?_⟩) | (with_reducible refine ⟨_, .inr (.inl rfl), ?_⟩) | (with_reducible refine ⟨_, .inr (.inr rfl), ?_⟩)
    | (with_reducible apply callq0) | ((with_reducible apply frzB); (focus exact rfl); (focus exact rfl); walk_at "put")
    | ((with_reducible apply callq1); walk_at "set")
    | ((with_reducible apply callq2); walk_at "set"; walk_at "set")
    | ((with_reducible first | apply fgt_nx | apply fgt_bk | apply fgt_ct); walk_at "fgt")
    | ((with_reducible apply brT); (focus exact rfl)) | ((with_reducible apply brF); (focus exact rfl)))
local macro_rules
  | `(tactic| walk_at "r") => `(tactic| repeat first | walk_at "w" | walk_at "x")
local macro_rules
  | `(tactic| walk_at "ri") => `(tactic| repeat first | walk_at "w" | walk_at "x" | (with_reducible refine wp_if ?_))
local macro_rules
  | `(tactic| walk_at "app") => `(tactic| ((with_reducible apply appq); (focus exact rfl); (focus ((try simp only [List.length_map, List.length_nil, List.length_cons, List.length_append]); unfold line; omega)); walk_at "set"))
local macro_rules
  | `(tactic| walk_at "mul") => `(tactic| ((refine opq rfl rfl (ev_mul ?_) ?_); (focus (apply mulT <;> omega))))
local macro_rules
  | `(tactic| walk_at "rm") => `(tactic| repeat first | walk_at "w" | walk_at "x" | walk_at "mul")
local macro_rules
  | `(tactic| walk_at "len") => `(tactic| (refine And.intro ?_ ?_; (focus (simp [line]; done))))
local macro_rules
  | `(tactic| walk_at "rl") => `(tactic| repeat first | walk_at "w" | walk_at "x" | walk_at "len")
local macro_rules
  | `(tactic| walk_at "ril") => `(tactic| repeat first | walk_at "w" | walk_at "x" | walk_at "len" | (with_reducible refine wp_if ?_))
theorem thr_app (ds : List (List Int)) (d : List Int) : thr (ds ++ [d]) = addD (thr ds) d := by simp [thr]
def tupT (ds : List (List Int)) : PV := .tuple (ds.map tupI)
/-- dice that are thrown -/
def Dcs (ds : List (List Int)) : Prop := (∀ d ∈ ds, d ≠ []) ∧ (thr ds).length < 10000000 ∧ ds.length ≤ 1000
theorem thr_len (ds : List (List Int)) : (thr ds).length = (ds.map List.length).foldl (· * ·) 1 := by
  have key : ∀ (ds : List (List Int)) (M : List Int), (ds.foldl addD M).length = (ds.map List.length).foldl (· * ·) M.length := by
    intro ds
    induction ds with
    | nil => intro M; rfl
    | cons d ds ih => intro M; rw [List.foldl_cons, ih, addD_len]; rfl
  exact key ds [0]
theorem thr_pre (done rest : List (List Int)) (h : ∀ d ∈ rest, d ≠ []) : (thr done).length ≤ (thr (done ++ rest)).length := by
  induction rest generalizing done with
  | nil => simp
  | cons d rest ih =>
    have h1 := ih (done ++ [d]) fun x hx => h x (List.mem_cons_of_mem _ hx)
    have h2 := List.length_pos_iff.mpr (h d List.mem_cons_self)
    rw [thr_app, addD_len, List.append_assoc] at h1
    exact Nat.le_trans (Nat.le_mul_of_pos_right _ h2) h1
theorem isW_one : IsW [(.inl 0, .int 1)] [0] := ⟨[0], by simp, by simp, by simp⟩
section
variable {Q : R → List Ob → Prop}
theorem of_ways_of {ds : List (List Int)} (hd : Dcs ds) (k : ∀ kvs, IsW kvs (thr ds) → Q (.new (.dct kvs)) []) : Ret d_ways_of [.val (tupT ds)] Q := by
  obtain ⟨h1, h2, h3⟩ := hd
  refine ret_mkR (by repeat constructor) ?_
  unfold b_ways_of
  walk_at "r"
  refine wp_dctC ?_
  walk_at "r"
  refine wp_mid (fun ρ => ∃ kvs, IsW kvs (thr ds) ∧ ρ = [some (.val (tupT ds)), some (.own (.dct kvs)), none]) ?_ ?_
  · refine wp_for (wp_seqI ?_)
    unfold tupT
    walk_at "r"
    refine wp_loop tupI (fun done ρ => ∃ kvs, IsW kvs (thr done) ∧ ρ = [some (.val (tupT ds)), some (.own (.dct kvs)), none]) ds ⟨_, isW_one, rfl⟩ ?_ ?_
    · rintro done d rest _ e ⟨kvs, hW, rfl⟩
      have hp := thr_pre (done ++ [d]) rest fun x hx => h1 x (by rw [e]; simp [hx])
      rw [List.append_assoc, List.singleton_append, ← e, thr_app, addD_len] at hp
      unfold l1_ways_of
      walk_at "r"
      refine of_sums_with hW (by omega) (h1 d (by rw [e]; simp)) fun kvs' hW' => ?_
      walk_at "r"
      exact ⟨kvs', by rw [thr_app]; exact hW', rfl⟩
    · rintro _ ⟨kvs, hW, rfl⟩
      exact ⟨rfl, kvs, hW, rfl⟩
  rintro _ ⟨kvs, hW, rfl⟩
  walk_at "r"
  exact k kvs hW
/-- each once -/
def ddp : List Int → List Int
  | [] => []
  | x :: xs => if x ∈ ddp xs then ddp xs else x :: ddp xs
theorem ddp_mem : ∀ (xs : List Int) (k : Int), k ∈ ddp xs ↔ k ∈ xs
  | [], _ => Iff.rfl
  | x :: xs, k => by
    have ih := ddp_mem xs
    unfold ddp
    split
    · rename_i h
      rw [ih, List.mem_cons]
      exact ⟨.inr, fun z => z.elim (fun e => e ▸ (ih x).mp h) id⟩
    · rw [List.mem_cons, List.mem_cons, ih]
theorem ddp_nodup : ∀ xs : List Int, (ddp xs).Nodup
  | [] => .nil
  | x :: xs => by
    unfold ddp
    split
    · exact ddp_nodup xs
    · rename_i h
      exact List.nodup_cons.mpr ⟨h, ddp_nodup xs⟩
/-- the sums, ascending, with their ways -/
def sumsV (M : List Int) : List (Int × Int) := (isort (ddp M)).map fun t => (t, ((M.count t : Nat) : Int))
theorem isort_uniq {ks : List Int} {M : List Int} (h1 : ks.Nodup) (h3 : ∀ k, k ∈ ks ↔ k ∈ M) : isort ks = isort (ddp M) := by
  have hp : ks.Perm (ddp M) := (List.perm_ext_iff_of_nodup h1 (ddp_nodup _)).mpr fun k => by rw [h3, ddp_mem]
  have hp2 : (isort ks).Perm (isort (ddp M)) := (List.mergeSort_perm _ _).trans (hp.trans (List.mergeSort_perm _ _).symm)
  exact List.Perm.eq_of_pairwise (fun a b _ _ h1 h2 => Int.le_antisymm h1 h2) (isort_pw _) (isort_pw _) hp2
theorem ev_sortD {ks : List Int} (f : Int → PV) : fSortedD (.ob (.dct (ks.map fun x => ((.inl x : Key), f x)))) = some (.new (.lst ((isort ks).map PyData.int))) := by
  have : (ks.map fun x => ((.inl x : Key), f x)).mapM (fun kv => intK kv.1) = some ks := by
    induction ks with
    | nil => rfl
    | cons k ks ih => simp only [List.map_cons, List.mapM_cons, ih]; rfl
  simp only [fSortedD, this, Option.map_some]
theorem ev_sortW {kvs : List (Key × PV)} {M : List Int} (h : IsW kvs M) : fSortedD (.ob (.dct kvs)) = some (.new (.lst ((isort (ddp M)).map PyData.int))) := by
  obtain ⟨ks, h1, rfl, h3⟩ := h
  rw [ev_sortD fun x => PyData.int (M.count x : Nat), isort_uniq h1 h3]
theorem mem_ks {M : List Int} {t : Int} : t ∈ isort (ddp M) ↔ t ∈ M := by rw [isort_mem, ddp_mem]
theorem ks_len (M : List Int) : (isort (ddp M)).length ≤ M.length := by
  rw [isort_len]
  exact nodup_le (ddp_nodup _) fun k hk => (ddp_mem _ _).mp hk
def tupF (ps : List (Int × Int)) : PV := .tuple (ps.map fr)
theorem of_sums {ds : List (List Int)} (hd : Dcs ds) (k : Q (.val (tupF (sumsV (thr ds)))) []) : Ret d_sums [.val (tupT ds)] Q := by
  have hz := hd.2.1
  refine ret_mkR (by repeat constructor) ?_
  unfold b_sums
  walk_at "r"
  refine of_ways_of hd fun kvs hW => ?_
  walk_at "r"
  have hkl := ks_len (thr ds)
  refine wp_lc PyData.int (fun done acc ρ => acc = (done.map fun t => (t, (((thr ds).count t : Nat) : Int))).map fr ∧ ∃ u, isRef u = false ∧ ρ = [some (.val (tupT ds)), some (.own (.dct kvs)), u]) ?_
  refine wp_seqI ?_
  walk_at "r"
  refine unq rfl (ev_sortW hW) ?_
  walk_at "r"
  refine ⟨by unfold line; omega, ⟨rfl, none, rfl, rfl⟩, ?_, ?_⟩
  · rintro done t rest acc _ e ⟨rfl, u, hu, rfl⟩
    have ht : t ∈ thr ds := mem_ks.mp (by rw [e]; simp)
    refine lcqY rfl ?_
    dsimp only [wipe, set_s, set_z]
    unfold e1_sums
    walk_at "r"
    refine opq rfl rfl (show fDget (.ob (.dct kvs)) (.pv (.int t)) = some (.val (.int ((thr ds).count t : Nat))) from by simp [fDget, keyC, keyOf, isW_get' hW ht]) ?_
    walk_at "rl"
    exact ⟨by simp [fr], _, rfl, rfl⟩
  rintro _ _ ⟨rfl, u, hu, rfl⟩
  dsimp only [back, set_s, set_z, get_s, get_z]
  walk_at "r"
  exact k
theorem of_law_ways {ds : List (List Int)} (hd : Dcs ds) (k : ∀ kvs, IsW kvs (thr ds) → Q (.new (.dct kvs)) []) : Ret d_law_ways [.val (tupT ds)] Q := by
  obtain ⟨h1, h2, h3⟩ := hd
  refine ret_mkR (by repeat constructor) ?_
  unfold b_law_ways
  walk_at "r"
  refine wp_dctC ?_
  walk_at "r"
  refine wp_mid (fun ρ => ∃ kvs, IsW kvs (thr ds) ∧ ρ = [some (.val (tupT ds)), some (.own (.dct kvs)), none, none, none, none]) ?_ ?_
  · refine wp_for (wp_seqI ?_)
    unfold tupT
    walk_at "r"
    refine wp_loop tupI (fun done ρ => ∃ kvs, IsW kvs (thr done) ∧ ρ = [some (.val (tupT ds)), some (.own (.dct kvs)), none, none, none, none]) ds ⟨_, isW_one, rfl⟩ ?_ ?_
    · rintro done die rest _ e ⟨kvs, hW, rfl⟩
      have hp := thr_pre (done ++ [die]) rest fun x hx => h1 x (by rw [e]; simp [hx])
      rw [List.append_assoc, List.singleton_append, ← e, thr_app, addD_len] at hp
      have hd := h1 die (by rw [e]; simp)
      rw [thr_app]
      generalize thr done = M at *
      have hM : M.length * die.length < 10000000 := by omega
      have hdp : 0 < die.length := List.length_pos_iff.mpr hd
      have n1 : (isort (ddp M)).Nodup := (List.mergeSort_perm _ _).nodup_iff.mpr (ddp_nodup _)
      have n3 : ∀ k, k ∈ isort (ddp M) ↔ k ∈ M := fun k => mem_ks
      unfold l3_law_ways
      walk_at "r"
      refine wp_dct0 ?_
      walk_at "r"
      refine wp_mid (fun ρ => ∃ m2, IsW m2 (addD M die) ∧ ρ = [some (.val (tupT ds)), some (.own (.dct kvs)), some (.val (tupI die)), some (.own (.dct m2)), none, none]) ?_ ?_
      · refine wp_for (wp_seqI ?_)
        walk_at "r"
        refine unq rfl (ev_sortW hW) ?_
        walk_at "r"
        generalize isort (ddp M) = ks at *
        refine wp_loop PyData.int (fun done ρ => ∃ m2, IsW m2 (done.flatMap fun t => die.flatMap fun f => List.replicate (M.count t) (t + f)) ∧ ρ = [some (.val (tupT ds)), some (.own (.dct kvs)), some (.val (tupI die)), some (.own (.dct m2)), none, none]) ks ⟨[], ⟨[], .nil, rfl, by simp⟩, rfl⟩ ?_ ?_
        · rintro done t rest _ e ⟨m2, h2, rfl⟩
          have htM : t ∈ M := (n3 t).mp (by rw [e]; simp)
          have hcp : 0 < M.count t := List.count_pos_iff.mpr htM
          have hget := isW_get' hW htM
          unfold l2_law_ways
          walk_at "r"
          refine wp_for (wp_seqI ?_)
          unfold tupI
          walk_at "r"
          refine wp_loop PyData.int (fun done2 ρ => ∃ m2, IsW m2 ((done.flatMap fun t => die.flatMap fun f => List.replicate (M.count t) (t + f)) ++ done2.flatMap fun f => List.replicate (M.count t) (t + f)) ∧ ρ = [some (.val (tupT ds)), some (.own (.dct kvs)), some (.val (tupI die)), some (.own (.dct m2)), some (.val (.int t)), none]) die ⟨m2, by simpa using h2, rfl⟩ ?_ ?_
          · rintro done2 f rest2 _ e2 ⟨m3, h3, rfl⟩
            have hlen : m3.length < line := by
              have h4 : m3.length ≤ (addD M die).length := by
                obtain ⟨ks3, a1, rfl, a3⟩ := h3
                rw [List.length_map]
                refine nodup_le a1 fun x hx => ?_
                have hx := (a3 x).mp hx
                rw [List.mem_append, List.mem_flatMap, List.mem_flatMap] at hx
                unfold addD
                rw [List.mem_flatMap]
                rcases hx with ⟨t', ht', hx⟩ | ⟨f', hf', hx⟩
                · obtain ⟨f', hf', hx⟩ := List.mem_flatMap.mp hx
                  rw [List.mem_replicate] at hx
                  exact ⟨t', (n3 t').mp (by rw [e]; simp [ht']), List.mem_map.mpr ⟨f', hf', hx.2.symm⟩⟩
                · rw [List.mem_replicate] at hx
                  exact ⟨t, htM, List.mem_map.mpr ⟨f', by rw [e2]; simp [hf'], hx.2.symm⟩⟩
              rw [addD_len] at h4
              unfold line
              omega
            unfold l1_law_ways
            walk_at "r"
            refine wp_dput ?_
            walk_at "r"
            refine wp_dgetD ?_
            walk_at "r"
            refine ⟨_, .inl (t + f), rfl, rfl, ?_⟩
            walk_at "r"
            refine ⟨m3, .int 0, rfl, rfl, ?_⟩
            rw [isW_get h3]
            walk_at "r"
            refine opq rfl rfl (show fDget (.ob (.dct kvs)) (.pv (.int t)) = some (.val (.int (M.count t : Nat))) from by simp [fDget, keyC, keyOf, hget]) ?_
            walk_at "r"
            refine dputq rfl rfl rfl hlen (SetR.s (SetR.s (SetR.s SetR.o))) ?_
            walk_at "r"
            refine ⟨_, ?_, rfl⟩
            have := isW_put h3 (t + f) hcp
            rw [fl_perm_app, ← List.append_assoc]
            exact this
          · rintro _ ⟨m3, h3, rfl⟩
            walk_at "r"
            exact ⟨m3, by rw [fl_perm_app]; exact h3, rfl⟩
        · rintro _ ⟨m2, h2, rfl⟩
          exact ⟨rfl, m2, isW_perm h2 (flat_perm n1 n3), rfl⟩
      rintro _ ⟨m2, h2, rfl⟩
      refine wp_move rfl (by dsimp only [set_s, set_z]; exact PutR.s (PutR.z rfl)) ?_
      walk_at "r"
      exact ⟨m2, h2, rfl⟩
    · rintro _ ⟨kvs, hW, rfl⟩
      exact ⟨rfl, kvs, hW, rfl⟩
  rintro _ ⟨kvs, hW, rfl⟩
  walk_at "r"
  exact k kvs hW
theorem of_law_sums {ds : List (List Int)} (hd : Dcs ds) (k : Q (.val (tupF (sumsV (thr ds)))) []) : Ret d_law_sums [.val (tupT ds)] Q := by
  have hz := hd.2.1
  refine ret_mkR (by repeat constructor) ?_
  unfold b_law_sums
  walk_at "r"
  refine of_law_ways hd fun kvs hW => ?_
  walk_at "r"
  have hkl := ks_len (thr ds)
  refine wp_lc PyData.int (fun done acc ρ => acc = (done.map fun t => (t, (((thr ds).count t : Nat) : Int))).map fr ∧ ∃ u, isRef u = false ∧ ρ = [some (.val (tupT ds)), some (.own (.dct kvs)), u]) ?_
  refine wp_seqI ?_
  walk_at "r"
  refine unq rfl (ev_sortW hW) ?_
  walk_at "r"
  refine ⟨by unfold line; omega, ⟨rfl, none, rfl, rfl⟩, ?_, ?_⟩
  · rintro done t rest acc _ e ⟨rfl, u, hu, rfl⟩
    have ht : t ∈ thr ds := mem_ks.mp (by rw [e]; simp)
    refine lcqY rfl ?_
    dsimp only [wipe, set_s, set_z]
    unfold e1_law_sums
    walk_at "r"
    refine opq rfl rfl (show fDget (.ob (.dct kvs)) (.pv (.int t)) = some (.val (.int ((thr ds).count t : Nat))) from by simp [fDget, keyC, keyOf, isW_get' hW ht]) ?_
    walk_at "rl"
    exact ⟨by simp [fr], _, rfl, rfl⟩
  rintro _ _ ⟨rfl, u, hu, rfl⟩
  dsimp only [back, set_s, set_z, get_s, get_z]
  walk_at "r"
  exact k
end
end Py
namespace Py
open PySem D
/-! the least unlike sum -/
theorem nub_mem (k : Int) : ∀ ns : List Int, k ∈ nub ns ↔ k ∈ ns
  | [] => by simp [nub]
  | x :: xs => by
    unfold nub
    split
    · rw [nub_mem k xs, List.mem_cons]
      constructor
      · exact Or.inr
      · rintro (rfl | h)
        · assumption
        · exact h
    · rw [List.mem_cons, List.mem_cons, nub_mem k xs]
theorem nub_nodup : ∀ ns : List Int, (nub ns).Nodup
  | [] => by simp [nub]
  | x :: xs => by
    unfold nub
    split
    · exact nub_nodup xs
    · exact List.nodup_cons.mpr ⟨by rw [nub_mem]; assumption, nub_nodup xs⟩
theorem sset_in (k : Int) (ns : List Int) : k ∈ sset ns ↔ k ∈ ns := by
  unfold sset
  rw [isort_mem, nub_mem]
theorem sset_pw (ns : List Int) : (sset ns).Pairwise (· < ·) := by
  have h1 := isort_pw (nub ns)
  have h2 : (isort (nub ns)).Nodup := (List.mergeSort_perm _ _).nodup_iff.mpr (nub_nodup ns)
  have key : ∀ l : List Int, l.Pairwise (· ≤ ·) → l.Nodup → l.Pairwise (· < ·) := by
    intro l
    induction l with
    | nil => intro _ _; exact .nil
    | cons x l ih =>
      intro h d
      obtain ⟨h1, h2⟩ := List.pairwise_cons.mp h
      obtain ⟨d1, d2⟩ := List.nodup_cons.mp d
      refine List.pairwise_cons.mpr ⟨fun y hy => ?_, ih h2 d2⟩
      have a := h1 y hy
      have b : x ≠ y := fun z => d1 (z ▸ hy)
      omega
  exact key _ h1 h2
/-- in the first and in the second with unlike chances -/
def unl (A B : List Int) (t : Int) : Bool := decide (A.count t * B.length ≠ B.count t * A.length)
def alikeV (A B : List Int) : Option Int := (sset (A ++ B)).find? (unl A B)
theorem unl_in {A B : List Int} {t : Int} (h : unl A B t = true) : t ∈ A ++ B := by
  by_cases c : t ∈ A ++ B
  · exact c
  · rw [List.mem_append, not_or] at c
    unfold unl at h
    rw [List.count_eq_zero.mpr c.1, List.count_eq_zero.mpr c.2] at h
    simp at h
theorem find_lst {p : Int → Bool} {L : List Int} (s : L.Pairwise (· < ·)) (h : ∀ t, p t = true → t ∈ L) {t : Int} : L.find? p = some t ↔ p t = true ∧ ∀ u, u < t → p u = false := by
  constructor
  · intro e
    obtain ⟨h1, as, bs, h2, h3⟩ := List.find?_eq_some_iff_append.mp e
    refine ⟨h1, fun u hu => ?_⟩
    cases hp : p u with
    | false => rfl
    | true =>
      have hm := h u hp
      rw [h2] at hm s
      rcases List.mem_append.mp hm with hm | hm
      · have := h3 u hm
        rw [hp] at this
        simp at this
      · rcases List.mem_cons.mp hm with rfl | hm
        · omega
        · have := (List.pairwise_cons.mp (List.pairwise_append.mp s).2.1).1 u hm
          omega
  · rintro ⟨h1, h2⟩
    cases e : L.find? p with
    | none => exact absurd h1 (List.find?_eq_none.mp e t (h t h1))
    | some u =>
      obtain ⟨h3, as, bs, h4, h5⟩ := List.find?_eq_some_iff_append.mp e
      rcases Int.lt_trichotomy t u with c | c | c
      · have hm := h t h1
        rw [h4] at hm s
        rcases List.mem_append.mp hm with hm | hm
        · have := h5 t hm
          rw [h1] at this
          simp at this
        · rcases List.mem_cons.mp hm with rfl | hm
          · rfl
          · have := (List.pairwise_cons.mp (List.pairwise_append.mp s).2.1).1 t hm
            omega
      · rw [c]
      · rw [h2 u c] at h3; simp at h3
theorem find_same {p : Int → Bool} {L L' : List Int} (s : L.Pairwise (· < ·)) (s' : L'.Pairwise (· < ·)) (h : ∀ t, p t = true → t ∈ L) (h' : ∀ t, p t = true → t ∈ L') : L.find? p = L'.find? p := by
  cases e : L'.find? p with
  | none => exact List.find?_eq_none.mpr fun x hx hp => List.find?_eq_none.mp e x (h' x hp) hp
  | some t => exact (find_lst s h).mpr ((find_lst s' h').mp e)
theorem alike_find {A B L : List Int} (s : L.Pairwise (· < ·)) (h : ∀ t ∈ A ++ B, t ∈ L) : alikeV A B = L.find? (unl A B) :=
  find_same (sset_pw _) s (fun t ht => (sset_in _ _).mpr (unl_in ht)) fun t ht => h t (unl_in ht)
theorem alike_some {A B : List Int} {t : Int} : alikeV A B = some t ↔ unl A B t = true ∧ ∀ u, u < t → unl A B u = false := find_lst (sset_pw _) fun t ht => (sset_in _ _).mpr (unl_in ht)
theorem alike_none {A B : List Int} : alikeV A B = none ↔ ∀ u, unl A B u = false := by
  unfold alikeV
  rw [List.find?_eq_none]
  constructor
  · intro h u
    cases e : unl A B u with
    | false => rfl
    | true => exact absurd e (h u ((sset_in _ _).mpr (unl_in e)))
  · intro h x _
    rw [h x]; simp
theorem alike_congr {A B A' B' : List Int} (h : ∀ t, unl A B t = unl A' B' t) : alikeV A B = alikeV A' B' := by
  cases e : alikeV A' B' with
  | none => exact alike_none.mpr fun u => by rw [h]; exact alike_none.mp e u
  | some t =>
    have := alike_some.mp e
    exact alike_some.mpr ⟨by rw [h]; exact this.1, fun u hu => by rw [h]; exact this.2 u hu⟩
theorem unl_comm (A B : List Int) (t : Int) : unl A B t = unl B A t := by
  unfold unl
  rw [decide_eq_decide]
  exact ne_comm
theorem alike_comm (A B : List Int) : alikeV A B = alikeV B A := alike_congr (unl_comm A B)
theorem alike_perm {A B A' B' : List Int} (h1 : A.Perm A') (h2 : B.Perm B') : alikeV A B = alikeV A' B' := alike_congr fun t => by
  unfold unl
  rw [h1.count_eq, h2.count_eq, h1.length_eq, h2.length_eq]
theorem alike_refl {A B : List Int} (h : A.Perm B) : alikeV A B = none := alike_none.mpr fun u => by
  unfold unl
  rw [h.count_eq, h.length_eq]
  simp
/-! throwing in any order -/
theorem flat_perm_cons {α β : Type} (g : α → β) (F : α → List β) : ∀ e : List α, (e.flatMap fun b => g b :: F b).Perm (e.map g ++ e.flatMap F)
  | [] => .nil
  | b :: e => by
    rw [List.flatMap_cons, List.map_cons, List.flatMap_cons, List.cons_append, List.cons_append]
    refine .cons _ ?_
    refine ((flat_perm_cons g F e).append_left (F b)).trans ?_
    rw [← List.append_assoc, ← List.append_assoc]
    exact (List.perm_append_comm).append_right _
theorem flat_swap {α β γ : Type} (f : α → β → γ) (e : List β) : ∀ d : List α, (d.flatMap fun a => e.map (f a)).Perm (e.flatMap fun b => d.map fun a => f a b)
  | [] => by
    have : (e.flatMap fun _ => ([] : List γ)) = [] := by induction e with
      | nil => rfl
      | cons b e ih => rw [List.flatMap_cons, ih]; rfl
    simp only [List.map_nil, List.flatMap_nil]
    rw [this]
  | a :: d => by
    rw [List.flatMap_cons]
    refine ((flat_swap f e d).append_left _).trans ?_
    exact (flat_perm_cons (f a) (fun b => d.map fun a => f a b) e).symm
theorem addD_perm {A B : List Int} (h : A.Perm B) (d : List Int) : (addD A d).Perm (addD B d) := h.flatMap_right _
theorem fl_map_perm {α : Type} {f g : α → List Int} : ∀ xs : List α, (∀ x ∈ xs, (f x).Perm (g x)) → (xs.flatMap f).Perm (xs.flatMap g)
  | [], _ => .nil
  | x :: xs, h => by
    rw [List.flatMap_cons, List.flatMap_cons]
    exact (h x List.mem_cons_self).append (fl_map_perm xs fun y hy => h y (List.mem_cons_of_mem _ hy))
theorem addD_comm (A d e : List Int) : (addD (addD A d) e).Perm (addD (addD A e) d) := by
  unfold addD
  rw [List.flatMap_assoc, List.flatMap_assoc]
  refine fl_map_perm A fun s _ => ?_
  rw [List.flatMap_map, List.flatMap_map]
  refine (flat_swap (fun f g => s + f + g) e d).trans ?_
  refine fl_map_perm e fun g _ => ?_
  have : (d.map fun a => s + a + g) = d.map fun f => s + g + f := List.map_congr_left fun a _ => by omega
  rw [this]
theorem foldD_perm : ∀ (ds : List (List Int)) {A B : List Int}, A.Perm B → (ds.foldl addD A).Perm (ds.foldl addD B)
  | [], _, _, h => h
  | d :: ds, _, _, h => foldD_perm ds (addD_perm h d)
theorem foldD_dice {ds es : List (List Int)} (h : ds.Perm es) : ∀ A : List Int, (ds.foldl addD A).Perm (es.foldl addD A) := by
  induction h with
  | nil => exact fun A => .refl _
  | cons d _ ih => exact fun A => ih (addD A d)
  | swap d e ds => exact fun A => foldD_perm ds (addD_comm A e d)
  | trans _ _ ih1 ih2 => exact fun A => (ih1 A).trans (ih2 A)
theorem thr_perm {ds es : List (List Int)} (h : ds.Perm es) : (thr ds).Perm (thr es) := foldD_dice h _
theorem thr_append (ds es : List (List Int)) : thr (ds ++ es) = es.foldl addD (thr ds) := by simp [thr, List.foldl_append]
theorem thr_known {ps ks : List (List Int)} (h : (thr ps).Perm (thr ks)) (ds : List (List Int)) : (thr (ps ++ ds)).Perm (thr (ds ++ ks)) := by
  rw [thr_append]
  refine (foldD_perm ds h).trans ?_
  rw [← thr_append]
  exact thr_perm List.perm_append_comm
/-! the bound of the sums -/
def Lim (m : Int) (ds : List (List Int)) : Prop := ∀ x ∈ thr ds, 0 ≤ x ∧ x ≤ m
theorem foldD_lim {m : Int} (hm : 0 ≤ m) : ∀ (ds : List (List Int)) (A : List Int) (a : Int), (∀ x ∈ A, 0 ≤ x ∧ x ≤ a) → (∀ d ∈ ds, ∀ f ∈ d, 0 ≤ f ∧ f ≤ m) → ∀ x ∈ ds.foldl addD A, 0 ≤ x ∧ x ≤ a + m * ds.length
  | [], A, a, h, _ => fun x hx => by have := h x hx; simpa using this
  | d :: ds, A, a, h, hd => fun x hx => by
    have := foldD_lim hm ds (addD A d) (a + m) (fun y hy => by
      unfold addD at hy
      obtain ⟨s, hs, hy⟩ := List.mem_flatMap.mp hy
      obtain ⟨f, hf, rfl⟩ := List.mem_map.mp hy
      have h1 := h s hs
      have h2 := hd d List.mem_cons_self f hf
      omega) (fun d' hd' => hd d' (List.mem_cons_of_mem _ hd')) x hx
    rw [List.length_cons]
    have e : m * ((ds.length + 1 : Nat) : Int) = m + m * ds.length := by rw [Int.natCast_add, Int.mul_add]; omega
    omega
/-- dice of a script -/
structure Ds (n : Nat) (ds : List (List Int)) : Prop where
  len : ds.length ≤ n
  ne : ∀ d ∈ ds, d ≠ []
  few : ∀ d ∈ ds, d.length ≤ 12
  lo : ∀ d ∈ ds, ∀ f ∈ d, 1 ≤ f
  hi : ∀ d ∈ ds, ∀ f ∈ d, f ≤ 30
theorem Ds.dcs {n : Nat} {ds : List (List Int)} (h : Ds n ds) (hn : n ≤ 6) : Dcs ds := by
  refine ⟨h.ne, ?_, by have := h.len; omega⟩
  have key : ∀ (ds : List (List Int)) (M : List Int), (∀ d ∈ ds, d.length ≤ 12) → (ds.foldl addD M).length ≤ M.length * 12 ^ ds.length := by
    intro ds
    induction ds with
    | nil => intro M _; simp
    | cons d ds ih =>
      intro M h
      have h1 := ih (addD M d) fun x hx => h x (List.mem_cons_of_mem _ hx)
      rw [addD_len] at h1
      refine Nat.le_trans h1 ?_
      rw [List.length_cons, Nat.pow_succ, Nat.mul_assoc, Nat.mul_comm (12 ^ ds.length)]
      exact Nat.mul_le_mul_left _ (Nat.mul_le_mul_right _ (h d List.mem_cons_self))
  have h1 := key ds [0] h.few
  have h3 := h.len
  have h2 : 12 ^ ds.length ≤ 12 ^ 6 := Nat.pow_le_pow_right (by decide) (by omega)
  unfold thr
  simp only [List.length_singleton, Nat.one_mul] at h1
  omega
theorem Ds.lim {n : Nat} {ds : List (List Int)} (h : Ds n ds) (hn : n ≤ 6) : Lim 180 ds := fun x hx => by
  have := foldD_lim (m := 30) (by decide) ds [0] 0 (by simp) (fun d hd f hf => ⟨by have := h.lo d hd f hf; omega, h.hi d hd f hf⟩) x hx
  have h3 := h.len
  omega
theorem nodup_lim : ∀ (m : Nat) (ks : List Int), ks.Nodup → (∀ k ∈ ks, 0 ≤ k ∧ k < m) → ks.length ≤ m := fun m ks h1 h2 => by
  have := nodup_le (M := (List.range m).map fun (n : Nat) => (n : Int)) h1 fun k hk => by
    have := h2 k hk
    exact List.mem_map.mpr ⟨k.toNat, List.mem_range.mpr (by omega), by omega⟩
  simpa using this
end Py
namespace Py
open PySem D
local macro_rules
  | `(tactic| walk_at "w") => `(tactic| with_reducible first
    | refine seq_nx ?_ | refine seq_rt ?_ | refine seq_bk ?_ | refine seq_ct ?_ | refine wp_seq ?_ | refine wp_asg ?_ | refine wp_next ?_ | refine wp_ret ?_ | refine wp_retN ?_ | refine wp_brk ?_ | refine wp_cont ?_ | refine wp_expr ?_ | refine wp_op ?_ | refine wp_un ?_ | refine wp_c ?_
    | refine unB ?_ | refine wp_truB ?_ | refine wp_and ?_ | refine wp_or ?_ | refine wp_not ?_ | refine wp_ifE ?_ | refine wp_tup ?_ | refine wp_lst ?_ | refine wp_lcons ?_ | refine wp_lnil ?_ | refine frzV ?_ | refine frzN ?_ | refine wp_frz ?_ | refine wp_sl ?_ | refine wp_onone ?_ | refine wp_osome ?_
    | refine wp_anil ?_ | refine wp_av ?_ | refine wp_andV ?_ | refine wp_orV ?_ | refine wp_notV ?_ | refine wp_fgtR ?_ | refine turn_nx ?_ | refine turn_rt ?_ | refine turn_bk ?_ | refine turn_ct ?_ | refine fgt_rt ?_ | refine wp_par ?_ | refine wp_chain ?_ | refine wp_seqI ?_)
local macro_rules
  | `(tactic| walk_at "put") => `(tactic| focus ((repeat apply PutR.s); first | exact PutR.z rfl | exact PutR.z (by assumption)))
local macro_rules
  | `(tactic| walk_at "set") => `(tactic| focus ((repeat apply SetR.s); first | exact SetR.o | exact SetR.r))
local macro_rules
  | `(tactic| walk_at "fgt") => `(tactic| focus (repeat first | exact FgtsR.nil | exact FgtR.k | exact FgtR.z rfl | exact FgtR.z (by assumption) | apply FgtR.s | apply FgtsR.cons))
local macro_rules
  | `(tactic| walk_at "x") => `(tactic| first
    | ((with_reducible apply wp_varV); (focus exact rfl)) | ((with_reducible apply wp_varO); (focus exact rfl)) | ((with_reducible apply wp_varR); (focus exact rfl))
    | ((with_reducible apply opq); (focus exact rfl); (focus exact rfl); (focus (first | exact ev_eqI | exact ev_neI | exact ev_ltI | exact ev_leI | exact ev_gtI | exact ev_geI | exact ev_in2 | exact ev_in2n | exact ev_in4n | exact ev_isT | exact ev_isF | exact ev_isnT | exact ev_isnF | exact ev_strT | exact ev_strF n1 | exact ev_strF n2 | exact ev_strF n3 | exact ev_strF n4 | exact ev_strF n5 | exact ev_strF n6 | exact rfl)))
    | ((with_reducible apply unq); (focus exact rfl); (focus exact rfl))
    | ((with_reducible first | apply putqV | apply putqN); walk_at "put")
    | ((with_reducible apply putqB); (focus exact rfl); (focus exact rfl); walk_at "put"; walk_at "put")
    | ((with_reducible apply putq2); walk_at "put"; walk_at "put")
    | ((with_reducible apply parq); walk_at "put"; walk_at "put")
    | ((with_reducible apply wp_callR); (focus (repeat first | exact RefsR.nil | apply RefsR.v | apply RefsR.r)); (focus decide))
    | ((with_reducible apply wp_ar); (focus exact rfl))
    | ((with_reducible apply fin_rt); (focus exact rfl); (focus exact rfl))
    | ((with_reducible apply fin_nx); (focus exact rfl))
    | ((with_reducible apply wp_appendR); (focus exact rfl))
    | (with_reducible refine ⟨_, rfl, ?_⟩) | (with_reducible refine ⟨_, .inl rfl, ?_⟩) | (with_reducible refine ⟨_, .inr (.inl rfl), ?_⟩) | (with_reducible refine ⟨_, .inr (.inr rfl), ?_⟩)
    | (with_reducible apply callq0) | ((with_reducible apply frzB); (focus exact rfl); (focus exact rfl); walk_at "put")
    | ((with_reducible apply callq1); walk_at "set")
    | ((with_reducible apply callq2); walk_at "set"; walk_at "set")
    | ((with_reducible first | apply fgt_nx | apply fgt_bk | apply fgt_ct); walk_at "fgt")
    | ((with_reducible apply brT); (focus exact rfl)) | ((with_reducible apply brF); (focus exact rfl)))
local macro_rules
  | `(tactic| walk_at "r") => `(tactic| repeat first | walk_at "w" | walk_at "x")
local macro_rules
  | `(tactic| walk_at "ri") => `(tactic| repeat first | walk_at "w" | walk_at "x" | (with_reducible refine wp_if ?_))
local macro_rules
  | `(tactic| walk_at "app") => `(tactic| ((with_reducible apply appq); (focus exact rfl); (focus ((try simp only [List.length_map, List.length_nil, List.length_cons, List.length_append]); unfold line; omega)); walk_at "set"))
local macro_rules
  | `(tactic| walk_at "mul") => `(tactic| ((refine opq rfl rfl (ev_mul ?_) ?_); (focus (apply mulT <;> omega))))
local macro_rules
  | `(tactic| walk_at "rm") => `(tactic| repeat first | walk_at "w" | walk_at "x" | walk_at "mul")
local macro_rules
  | `(tactic| walk_at "len") => `(tactic| (refine And.intro ?_ ?_; (focus (simp [line]; done))))
local macro_rules
  | `(tactic| walk_at "rl") => `(tactic| repeat first | walk_at "w" | walk_at "x" | walk_at "len")
local macro_rules
  | `(tactic| walk_at "ril") => `(tactic| repeat first | walk_at "w" | walk_at "x" | walk_at "len" | (with_reducible refine wp_if ?_))
section
variable {Q : R → List Ob → Prop} {ρ : Env}
theorem wp_parN {i j : Nat} {a b : M} {QS : Fl → Env → Prop} (h : Wp a ρ fun x ρ1 => ∃ o, newOb x = some o ∧ Wp b ρ1 fun y ρ2 => ∃ o2 ρ3 ρ4, newOb y = some o2 ∧ PutR i (some (.own o)) ρ2 ρ3 ∧ PutR j (some (.own o2)) ρ3 ρ4 ∧ QS .nx ρ4) : Wp (sParN i j a b) ρ QS := by
  obtain ⟨x, ρ1, e1, o, e2, y, ρ2, e3, o2, ρ3, ρ4, e4, h5, h6, q⟩ := h
  exact ⟨.nx, ρ4, by simp [sParN, e1, e2, e3, e4, h5.put, h6.put], q⟩
def optV : Option Int → PV
  | none => .none
  | some t => .int t
theorem thr_pos {ds : List (List Int)} (h : ∀ d ∈ ds, d ≠ []) : 0 < (thr ds).length := by
  have key : ∀ (ds : List (List Int)) (A : List Int), (∀ d ∈ ds, d ≠ []) → 0 < A.length → 0 < (ds.foldl addD A).length := by
    intro ds
    induction ds with
    | nil => exact fun A _ h => h
    | cons d ds ih => exact fun A h hA => ih _ (fun x hx => h x (List.mem_cons_of_mem _ hx)) (by rw [addD_len]; exact Nat.mul_pos hA (List.length_pos_iff.mpr (h d List.mem_cons_self)))
  exact key ds [0] h (by decide)
theorem of_throws {ds : List (List Int)} (hd : Dcs ds) (k : Q (.val (.int (thr ds).length)) []) : Ret d_throws [.val (tupT ds)] Q := by
  obtain ⟨h1, h2, h3⟩ := hd
  refine ret_mkR (by repeat constructor) ?_
  unfold b_throws
  walk_at "r"
  refine wp_mid (fun ρ => ρ = [some (.val (tupT ds)), some (.val (.int (thr ds).length)), none]) ?_ ?_
  · refine wp_for (wp_seqI ?_)
    unfold tupT
    walk_at "r"
    refine wp_loop tupI (fun done ρ => ρ = [some (.val (tupT ds)), some (.val (.int (thr done).length)), none]) ds rfl ?_ ?_
    · rintro done d rest _ e rfl
      have hp := thr_pre (done ++ [d]) rest fun x hx => h1 x (by rw [e]; simp [hx])
      have hp2 := thr_pre done (d :: rest) fun x hx => h1 x (by rw [e]; exact List.mem_append_right _ hx)
      rw [List.append_assoc, List.singleton_append, ← e, thr_app, addD_len] at hp
      rw [← e] at hp2
      have hp3 : 0 < (thr done).length := thr_pos fun x hx => h1 x (by rw [e]; simp [hx])
      have hl : d.length ≤ (thr done).length * d.length := Nat.le_mul_of_pos_left _ hp3
      unfold l1_throws tupI
      walk_at "r"
      refine wp_aug rfl ?_
      walk_at "r"
      refine ⟨_, _, _, rfl, ev_mulI (mulOkN (by omega) (by rw [List.length_map]; omega)), rfl, ?_⟩
      walk_at "r"
      rw [thr_app, addD_len, Int.natCast_mul, List.length_map]
    · rintro _ rfl
      exact ⟨rfl, rfl⟩
  rintro _ rfl
  walk_at "r"
  exact k
theorem ev_ssetI {xs : List Int} (h : xs.length ≤ 4000) : fSSet (.ob (.lst (xs.map PyData.int))) = some (.new (.lst ((sset xs).map PyData.int))) := by
  simp [fSSet, seqV?, Ct.lst?, ints_map, h]
theorem ks_lim {m : Int} {ds : List (List Int)} (h : Lim m ds) : (isort (ddp (thr ds))).length ≤ m.toNat + 1 := by
  refine nodup_lim _ _ ((List.mergeSort_perm _ _).nodup_iff.mpr (ddp_nodup _)) fun k hk => ?_
  have := h k (mem_ks.mp hk)
  omega
theorem of_alike {one other : List (List Int)} (h1 : Dcs one) (h2 : Dcs other) (b1 : Lim 180 one) (b2 : Lim 180 other) (k : Q (.val (optV (alikeV (thr one) (thr other)))) []) : Ret d_alike [.val (tupT one), .val (tupT other)] Q := by
  have z1 := h1.2.1
  have z2 := h2.2.1
  refine ret_mkR (by repeat constructor) ?_
  unfold b_alike
  walk_at "r"
  refine wp_parN ?_
  walk_at "r"
  refine of_ways_of h1 fun kv1 W1 => ?_
  walk_at "r"
  refine of_ways_of h2 fun kv2 W2 => ?_
  walk_at "r"
  refine ⟨_, _, _, rfl, PutR.s (PutR.s (PutR.z rfl)), PutR.s (PutR.s (PutR.s (PutR.z rfl))), ?_⟩
  walk_at "r"
  have l1 := ks_lim b1
  have l2 := ks_lim b2
  have el : sset (isort (ddp (thr one)) ++ isort (ddp (thr other))) = sset (thr one ++ thr other) := by
    refine List.Perm.eq_of_pairwise (le := fun a b : Int => a < b) (fun a b _ _ h1 h2 => by omega) (sset_pw _) (sset_pw _) ?_
    refine (List.perm_ext_iff_of_nodup ((sset_pw _).imp fun z => by omega) ((sset_pw _).imp fun z => by omega)).mpr fun k => ?_
    rw [sset_in, sset_in, List.mem_append, List.mem_append, mem_ks, mem_ks]
  refine wp_for (wp_seqI ?_)
  walk_at "r"
  refine unq rfl (ev_sortW W1) ?_
  walk_at "r"
  refine unq rfl (ev_sortW W2) ?_
  refine opq rfl rfl (show fAdd _ _ = some (.new (.lst ((isort (ddp (thr one)) ++ isort (ddp (thr other))).map PyData.int))) from by
    show (if _ ≤ line then _ else _) = _
    rw [List.length_map, List.length_map, if_pos (by unfold line; omega), List.map_append]) ?_
  refine unq rfl (ev_ssetI (by rw [List.length_append]; omega)) ?_
  rw [el]
  walk_at "r"
  refine wp_loop PyData.int (fun done ρ => (∀ t ∈ done, unl (thr one) (thr other) t = false) ∧ ρ = [some (.val (tupT one)), some (.val (tupT other)), some (.own (.dct kv1)), some (.own (.dct kv2)), none]) (sset (thr one ++ thr other)) ⟨by simp, rfl⟩ ?_ ?_
  · rintro done t rest _ e ⟨hn, rfl⟩
    have c1 := List.count_le_length (a := t) (l := thr one)
    have c2 := List.count_le_length (a := t) (l := thr other)
    unfold l1_alike
    walk_at "ri"
    refine wp_dgetD ?_
    walk_at "ri"
    refine ⟨_, .inl t, rfl, rfl, ?_⟩
    walk_at "r"
    refine ⟨kv1, .int 0, rfl, rfl, ?_⟩
    rw [isW_get W1]
    walk_at "r"
    refine of_throws h2 ?_
    walk_at "r"
    refine opq rfl rfl (ev_mul (mulOkN (by omega) (by omega))) ?_
    walk_at "r"
    refine wp_dgetD ?_
    walk_at "ri"
    refine ⟨_, .inl t, rfl, rfl, ?_⟩
    walk_at "r"
    refine ⟨kv2, .int 0, rfl, rfl, ?_⟩
    rw [isW_get W2]
    walk_at "r"
    refine of_throws h1 ?_
    walk_at "r"
    refine opq rfl rfl (ev_mul (mulOkN (by omega) (by omega))) ?_
    walk_at "r"
    have hu : (!decide (((thr one).count t : Int) * (thr other).length = (thr other).count t * (thr one).length)) = unl (thr one) (thr other) t := by
      unfold unl
      rw [← Int.natCast_mul, ← Int.natCast_mul]
      by_cases h : (thr one).count t * (thr other).length = (thr other).count t * (thr one).length
      · rw [h]; simp
      · simp [h]; omega
    refine ⟨fun h => ?_, fun h => ?_⟩
    · walk_at "r"
      have : alikeV (thr one) (thr other) = some t := by
        unfold alikeV
        rw [e, List.find?_append, List.find?_eq_none.mpr fun x hx => by rw [hn x hx]; simp]
        simp [← hu, h]
      rw [this] at k
      exact k
    · walk_at "r"
      refine ⟨fun x hx => ?_, rfl⟩
      rcases List.mem_append.mp hx with hx | hx
      · exact hn x hx
      · rw [List.mem_singleton.mp hx, ← hu]; exact h
  · rintro _ ⟨hn, rfl⟩
    have : alikeV (thr one) (thr other) = none := by
      unfold alikeV
      rw [List.find?_eq_none]
      intro t ht
      rw [hn t ht]
      simp
    rw [this] at k
    walk_at "r"
    exact k
end
end Py
namespace Py
open PySem D
/-! dice thrown in parts, and with one die more -/
theorem fl_app_perm {α : Type} (f g : α → List Int) : ∀ e : List α, (e.flatMap f ++ e.flatMap g).Perm (e.flatMap fun x => f x ++ g x)
  | [] => .nil
  | x :: e => by
    rw [List.flatMap_cons, List.flatMap_cons, List.flatMap_cons, List.append_assoc, List.append_assoc]
    refine List.Perm.append_left _ ?_
    rw [← List.append_assoc]
    refine (List.perm_append_comm.append_right _).trans ?_
    rw [List.append_assoc]
    exact (fl_app_perm f g e).append_left _
theorem rep_flat2 (ks : List Int) (n : Int → Nat) (t : Int) : ∀ c : Nat, ((List.replicate c t).flatMap fun s => ks.flatMap fun u => List.replicate (n u) (s + u)).Perm (ks.flatMap fun u => List.replicate (c * n u) (t + u))
  | 0 => by
    have : (ks.flatMap fun u => List.replicate (0 * n u) (t + u)) = [] := by
      induction ks with
      | nil => rfl
      | cons u ks ih => rw [List.flatMap_cons, ih]; simp
    rw [this]
    exact .nil
  | c + 1 => by
    rw [List.replicate_succ, List.flatMap_cons]
    refine ((rep_flat2 ks n t c).append_left _).trans ?_
    refine (fl_app_perm _ _ ks).trans ?_
    refine fl_map_perm ks fun u _ => ?_
    rw [List.replicate_append_replicate, Nat.succ_mul, Nat.add_comm]
theorem ks_nd (M : List Int) : (isort (ddp M)).Nodup := (List.mergeSort_perm _ _).nodup_iff.mpr (ddp_nodup _)
theorem ks_perm (M : List Int) : ((isort (ddp M)).flatMap fun t => List.replicate (M.count t) t).Perm M := keys_perm (ks_nd M) fun _ => mem_ks
theorem joined_perm (A B : List Int) : ((isort (ddp A)).flatMap fun t => (isort (ddp B)).flatMap fun u => List.replicate (A.count t * B.count u) (t + u)).Perm (addD A B) := by
  refine List.Perm.trans ?_ (addD_perm (ks_perm A) B)
  unfold addD
  rw [List.flatMap_assoc]
  refine fl_map_perm _ fun t _ => ?_
  refine ((rep_flat2 (isort (ddp B)) (fun u => B.count u) t (A.count t)).symm).trans ?_
  refine fl_map_perm _ fun s _ => ?_
  refine List.Perm.trans ?_ ((ks_perm B).map _)
  rw [List.map_flatMap]
  refine fl_map_perm _ fun u _ => ?_
  rw [List.map_replicate]
theorem sumsV_perm {M M' : List Int} (h : M.Perm M') : sumsV M = sumsV M' := by
  unfold sumsV
  rw [isort_uniq (ks := ddp M) (M := M') (ddp_nodup _) fun k => by rw [ddp_mem, h.mem_iff]]
  exact List.map_congr_left fun t _ => by rw [h.count_eq]
theorem addD_thr (A : List Int) : ∀ ds : List (List Int), (ds.foldl addD A).Perm (addD A (thr ds)) := by
  have key : ∀ (ds : List (List Int)) (B : List Int), (ds.foldl addD (addD A B)).Perm (addD A (ds.foldl addD B)) := by
    intro ds
    induction ds with
    | nil => exact fun B => .refl _
    | cons d ds ih =>
      intro B
      rw [List.foldl_cons, List.foldl_cons]
      have e : addD (addD A B) d = addD A (addD B d) := by
        unfold addD
        rw [List.flatMap_assoc]
        congr 1
        funext s
        rw [List.flatMap_map, List.map_flatMap]
        congr 1
        funext u
        rw [List.map_map]
        exact List.map_congr_left fun f _ => by simp only [Function.comp]; omega
      rw [e]
      exact ih (addD B d)
  intro ds
  have e : addD A [0] = A := by
    clear key
    unfold addD
    induction A with
    | nil => rfl
    | cons x A ih => rw [List.flatMap_cons, ih]; simp
  have := key ds [0]
  rw [e] at this
  exact this
theorem thr_parts (xs ys : List (List Int)) : (thr (xs ++ ys)).Perm (addD (thr xs) (thr ys)) := by
  rw [thr_append]
  exact addD_thr _ ys
/-! one die more on both sides -/
def dif (A B : List Int) (t : Int) : Int := (A.count t : Int) * B.length - (B.count t : Int) * A.length
theorem unl_dif {A B : List Int} {t : Int} : unl A B t = true ↔ dif A B t ≠ 0 := by
  unfold unl dif
  rw [decide_eq_true_eq, ← Int.natCast_mul, ← Int.natCast_mul]
  omega
theorem unl_dif' {A B : List Int} {t : Int} : unl A B t = false ↔ dif A B t = 0 := by
  rw [← Bool.not_eq_true, unl_dif]
  omega
theorem count_addD (d : List Int) (t : Int) : ∀ A : List Int, ((addD A d).count t : Int) = (d.map fun f => (A.count (t - f) : Int)).sum
  | [] => by
    have : ∀ d : List Int, (d.map fun f => (([] : List Int).count (t - f) : Int)).sum = 0 := by
      intro d
      induction d with
      | nil => rfl
      | cons f d ih => rw [List.map_cons, List.sum_cons, ih]; simp
    rw [this]
    rfl
  | s :: A => by
    have ih := count_addD d t A
    unfold addD at ih ⊢
    rw [List.flatMap_cons, List.count_append, Int.natCast_add, ih]
    clear ih
    induction d with
    | nil => rfl
    | cons f d ih =>
      simp only [List.map_cons, List.sum_cons, List.count_cons, Int.natCast_add] at ih ⊢
      have e : (if (s + f == t) = true then (1 : Nat) else 0) = if (s == t - f) = true then 1 else 0 := by
        have h : (s + f == t) = (s == t - f) := by
          rw [Bool.eq_iff_iff, beq_iff_eq, beq_iff_eq]
          omega
        rw [h]
      rw [e]
      omega
theorem dif_addD (A B d : List Int) (t : Int) : dif (addD A d) (addD B d) t = d.length * (d.map fun f => dif A B (t - f)).sum := by
  unfold dif
  rw [count_addD, count_addD, addD_len, addD_len, Int.natCast_mul, Int.natCast_mul]
  generalize (B.length : Int) = n
  generalize (A.length : Int) = m
  have e : (d.map fun f => ((A.count (t - f) : Int) * n - (B.count (t - f) : Int) * m)).sum = (d.map fun f => (A.count (t - f) : Int)).sum * n - (d.map fun f => (B.count (t - f) : Int)).sum * m := by
    induction d with
    | nil => simp
    | cons f d ih => simp only [List.map_cons, List.sum_cons, Int.add_mul] at ih ⊢; rw [ih]; omega
  rw [e]
  generalize (d.map fun f => (A.count (t - f) : Int)).sum = x
  generalize (d.map fun f => (B.count (t - f) : Int)).sum = y
  grind
theorem sum_zero {g : Int → Int} : ∀ {d : List Int}, (∀ f ∈ d, g f = 0) → (d.map g).sum = 0
  | [], _ => rfl
  | f :: d, h => by rw [List.map_cons, List.sum_cons, h f List.mem_cons_self, sum_zero fun x hx => h x (List.mem_cons_of_mem _ hx)]; rfl
theorem sum_least {g : Int → Int} {m v : Int} (hv : g m = v) : ∀ {d : List Int}, (∀ f ∈ d, f ≠ m → g f = 0) → (d.map g).sum = (d.count m : Int) * v
  | [], _ => by simp
  | f :: d, h => by
    rw [List.map_cons, List.sum_cons, sum_least hv fun x hx => h x (List.mem_cons_of_mem _ hx), List.count_cons]
    by_cases c : f = m
    · subst c
      rw [hv]
      simp only [beq_self_eq_true, if_true]
      rw [Int.natCast_add, Int.add_mul]
      omega
    · rw [h f List.mem_cons_self c, if_neg (by simpa using c)]
      simp
theorem alike_add {A B d : List Int} {m : Int} (hm : m ∈ d) (hl : ∀ f ∈ d, m ≤ f) : alikeV (addD A d) (addD B d) = (alikeV A B).map (· + m) := by
  have hp : 0 < d.length := List.length_pos_of_mem hm
  cases e : alikeV A B with
  | none =>
    rw [Option.map_none, alike_none]
    intro u
    rw [unl_dif', dif_addD, sum_zero fun f _ => unl_dif'.mp (alike_none.mp e _)]
    simp
  | some t =>
    obtain ⟨h1, h2⟩ := alike_some.mp e
    rw [Option.map_some, alike_some]
    refine ⟨?_, fun u hu => ?_⟩
    · rw [unl_dif, dif_addD, sum_least (m := m) (v := dif A B t) (by congr 1; omega) fun f hf hne => unl_dif'.mp (h2 _ (by have := hl f hf; omega))]
      have c : 0 < d.count m := List.count_pos_iff.mpr hm
      exact Int.mul_ne_zero (by omega) (Int.mul_ne_zero (by omega) (unl_dif.mp h1))
    · rw [unl_dif', dif_addD, sum_zero fun f hf => unl_dif'.mp (h2 _ (by have := hl f hf; omega))]
      simp
end Py
namespace Py
open PySem D
local macro_rules
  | `(tactic| walk_at "w") => `(tactic| with_reducible first
    | refine seq_nx ?_ | refine seq_rt ?_ | refine seq_bk ?_ | refine seq_ct ?_ | refine wp_seq ?_ | refine wp_asg ?_ | refine wp_next ?_ | refine wp_ret ?_ | refine wp_retN ?_ | refine wp_brk ?_ | refine wp_cont ?_ | refine wp_expr ?_ | refine wp_op ?_ | refine wp_un ?_ | refine wp_c ?_
    | refine unB ?_ | refine wp_truB ?_ | refine wp_and ?_ | refine wp_or ?_ | refine wp_not ?_ | refine wp_ifE ?_ | refine wp_tup ?_ | refine wp_lst ?_ | refine wp_lcons ?_ | refine wp_lnil ?_ | refine frzV ?_ | refine frzN ?_ | refine wp_frz ?_ | refine wp_sl ?_ | refine wp_onone ?_ | refine wp_osome ?_
    | refine wp_anil ?_ | refine wp_av ?_ | refine wp_andV ?_ | refine wp_orV ?_ | refine wp_notV ?_ | refine wp_fgtR ?_ | refine turn_nx ?_ | refine turn_rt ?_ | refine turn_bk ?_ | refine turn_ct ?_ | refine fgt_rt ?_ | refine wp_par ?_ | refine wp_chain ?_ | refine wp_seqI ?_)
local macro_rules
  | `(tactic| walk_at "put") => `(tactic| focus ((repeat apply PutR.s); first | exact PutR.z rfl | exact PutR.z (by assumption)))
local macro_rules
  | `(tactic| walk_at "set") => `(tactic| focus ((repeat apply SetR.s); first | exact SetR.o | exact SetR.r))
local macro_rules
  | `(tactic| walk_at "fgt") => `(tactic| focus (repeat first | exact FgtsR.nil | exact FgtR.k | exact FgtR.z rfl | exact FgtR.z (by assumption) | apply FgtR.s | apply FgtsR.cons))
local macro_rules
  | `(tactic| walk_at "x") => `(tactic| first
    | ((with_reducible apply wp_varV); (focus exact rfl)) | ((with_reducible apply wp_varO); (focus exact rfl)) | ((with_reducible apply wp_varR); (focus exact rfl))
    | ((with_reducible apply opq); (focus exact rfl); (focus exact rfl); (focus (first | exact ev_eqI | exact ev_neI | exact ev_ltI | exact ev_leI | exact ev_gtI | exact ev_geI | exact ev_in2 | exact ev_in2n | exact ev_in4n | exact ev_isT | exact ev_isF | exact ev_isnT | exact ev_isnF | exact ev_strT | exact ev_strF n1 | exact ev_strF n2 | exact ev_strF n3 | exact ev_strF n4 | exact ev_strF n5 | exact ev_strF n6 | exact rfl)))
    | ((with_reducible apply unq); (focus exact rfl); (focus exact rfl))
    | ((with_reducible first | apply putqV | apply putqN); walk_at "put")
    | ((with_reducible apply putqB); (focus exact rfl); (focus exact rfl); walk_at "put"; walk_at "put")
    | ((with_reducible apply putq2); walk_at "put"; walk_at "put")
    | ((with_reducible apply parq); walk_at "put"; walk_at "put")
    | ((with_reducible apply wp_callR); (focus (repeat first | exact RefsR.nil | apply RefsR.v | apply RefsR.r)); (focus decide))
    | ((with_reducible apply wp_ar); (focus exact rfl))
    | ((with_reducible apply fin_rt); (focus exact rfl); (focus exact rfl))
    | ((with_reducible apply fin_nx); (focus exact rfl))
    | ((with_reducible apply wp_appendR); (focus exact rfl))
    | (with_reducible refine ⟨_, rfl, ?_⟩) | (with_reducible refine ⟨_, .inl rfl, ?_⟩) | (with_reducible refine ⟨_, .inr (.inl rfl), ?_⟩) | (with_reducible refine ⟨_, .inr (.inr rfl), ?_⟩)
    | (with_reducible apply callq0) | ((with_reducible apply frzB); (focus exact rfl); (focus exact rfl); walk_at "put")
    | ((with_reducible apply callq1); walk_at "set")
    | ((with_reducible apply callq2); walk_at "set"; walk_at "set")
    | ((with_reducible first | apply fgt_nx | apply fgt_bk | apply fgt_ct); walk_at "fgt")
    | ((with_reducible apply brT); (focus exact rfl)) | ((with_reducible apply brF); (focus exact rfl)))
local macro_rules
  | `(tactic| walk_at "r") => `(tactic| repeat first | walk_at "w" | walk_at "x")
local macro_rules
  | `(tactic| walk_at "ri") => `(tactic| repeat first | walk_at "w" | walk_at "x" | (with_reducible refine wp_if ?_))
local macro_rules
  | `(tactic| walk_at "app") => `(tactic| ((with_reducible apply appq); (focus exact rfl); (focus ((try simp only [List.length_map, List.length_nil, List.length_cons, List.length_append]); unfold line; omega)); walk_at "set"))
local macro_rules
  | `(tactic| walk_at "mul") => `(tactic| ((refine opq rfl rfl (ev_mul ?_) ?_); (focus (apply mulT <;> omega))))
local macro_rules
  | `(tactic| walk_at "rm") => `(tactic| repeat first | walk_at "w" | walk_at "x" | walk_at "mul")
local macro_rules
  | `(tactic| walk_at "len") => `(tactic| (refine And.intro ?_ ?_; (focus (simp [line]; done))))
local macro_rules
  | `(tactic| walk_at "rl") => `(tactic| repeat first | walk_at "w" | walk_at "x" | walk_at "len")
local macro_rules
  | `(tactic| walk_at "ril") => `(tactic| repeat first | walk_at "w" | walk_at "x" | walk_at "len" | (with_reducible refine wp_if ?_))
section
variable {Q : R → List Ob → Prop} {ρ : Env}
theorem wp_popAtR {a : M} {i : Nat} {ρ : Env} {Q : R → Env → Prop} {xs : List PV} (h0 : lstAt ρ i = some xs) (h : Wp a ρ fun x ρ1 => ∃ (k : Nat) (ys : List PV) (v : PV) (ρ2 : Env), look x ρ1 = some (.pv (.int (k : Int))) ∧ lstAt ρ1 i = some ys ∧ ys[k]? = some v ∧ k < 2 ^ 60 ∧ SetR ρ1 i (.lst (ys.eraseIdx k)) ρ2 ∧ Q (.val v) ρ2) : Wp (mPopAt i a) ρ Q := by
  refine wp_popAt h0 (h.mono fun x ρ1 ⟨k, ys, v, ρ2, e1, e2, e3, e4, e5, q⟩ => ?_)
  have hk : k < ys.length := (List.getElem?_eq_some_iff.mp e3).1
  exact ⟨(k : Int), ys, k, v, e1, e2, by omega, ixN_nat hk, e3, e5.eq ▸ q⟩
theorem erase_map {α β : Type} (f : α → β) (L : List α) (j : Nat) : (L.map f).eraseIdx j = (L.eraseIdx j).map f := by
  rw [List.eraseIdx_eq_take_drop_succ, List.eraseIdx_eq_take_drop_succ, List.map_append, List.map_take, List.map_drop]
theorem erase_perm {α : Type} {L : List α} {j : Nat} (h : j < L.length) : (L[j] :: L.eraseIdx j).Perm L := by
  have e : L = L.take j ++ L[j] :: L.drop (j + 1) := by rw [← List.drop_eq_getElem_cons h, List.take_append_drop]
  rw [List.eraseIdx_eq_take_drop_succ]
  refine List.Perm.trans ?_ (List.Perm.of_eq e.symm)
  exact List.perm_middle.symm
theorem of_order {ds : List Int} {row : List (List Int)} (hl : row.length ≤ 100) (k : ∀ out ds', out.Perm row → Q (.val (tupT out)) [intsO ds']) : Ret d_law_order [.ref (intsO ds), .val (tupT row)] Q := by
  refine ret_mkR (by repeat constructor) ?_
  unfold b_law_order tupT
  walk_at "rl"
  refine wp_mid (fun ρ => ∃ (out : List (List Int)) (ds : List Int), out.Perm row ∧ ρ = [some (.ref (intsO ds)), some (.val (.tuple (row.map tupI))), some (.own (.lst [])), some (.own (.lst (out.map tupI))), none]) ?_ ?_
  · refine wp_forN (fun n ρ => ∃ (left out : List (List Int)) (ds : List Int), (out ++ left).Perm row ∧ out.length = n ∧ ρ = [some (.ref (intsO ds)), some (.val (.tuple (row.map tupI))), some (.own (.lst (left.map tupI))), some (.own (.lst (out.map tupI))), none]) row.length ?_ ?_ ?_
    · walk_at "rl"
      rw [List.length_map]
      exact ⟨rfl, by unfold line; omega, row, [], ds, by simp, rfl, rfl⟩
    · rintro n _ hn ⟨left, out, ds, hp, ho, rfl⟩
      have hlen := hp.length_eq
      rw [List.length_append] at hlen
      unfold l1_law_order
      walk_at "rl"
      refine wp_popAtR rfl ?_
      walk_at "rl"
      rw [List.length_map]
      refine of_take (by omega) fun a ds ha1 ha2 => ?_
      obtain ⟨a, rfl⟩ := Int.eq_ofNat_of_zero_le ha1
      have ha : a < left.length := by omega
      walk_at "rl"
      refine ⟨a, left.map tupI, tupI left[a], _, rfl, rfl, by simp [ha], by omega, SetR.s (SetR.s SetR.o), ?_⟩
      rw [erase_map]
      walk_at "rl"
      refine appq rfl (by rw [List.length_map]; unfold line; omega) (by walk_at "set") ?_
      walk_at "rl"
      refine ⟨left.eraseIdx a, out ++ [left[a]], ds, ?_, by simp [ho], by simp⟩
      rw [List.append_assoc]
      exact ((erase_perm ha).append_left out).trans hp
    · rintro _ ⟨left, out, ds, hp, ho, rfl⟩
      have hlen := hp.length_eq
      rw [List.length_append] at hlen
      have : left = [] := List.eq_nil_of_length_eq_zero (by omega)
      subst this
      rw [List.append_nil] at hp
      exact ⟨rfl, out, ds, hp, rfl⟩
  rintro _ ⟨out, ds, hp, rfl⟩
  walk_at "rl"
  exact k out ds hp
theorem fIx_fr {l : List (Int × Int)} {j : Nat} (h : j < l.length) : fIx (.pv (tupF l)) (.pv (.int (j : Int))) = some (.val (fr (l[j]'h))) := by
  show (atI _ _).map _ = _
  unfold atI
  rw [List.length_map, ixN_nat h]
  simp [h]
theorem sumsV_pos {M : List Int} : ∀ p ∈ sumsV M, 1 ≤ p.2 := fun p hp => by
  unfold sumsV at hp
  obtain ⟨t, ht, rfl⟩ := List.mem_map.mp hp
  have := List.count_pos_iff.mpr (mem_ks.mp ht)
  show 1 ≤ ((M.count t : Nat) : Int)
  omega
theorem sumsV_asc (M : List Int) : (sumsV M).Pairwise fun p q => p.1 < q.1 := by
  unfold sumsV
  rw [List.pairwise_map]
  have h1 := isort_pw (ddp M)
  have h2 := ks_nd M
  have key : ∀ l : List Int, l.Pairwise (· ≤ ·) → l.Nodup → l.Pairwise (· < ·) := by
    intro l
    induction l with
    | nil => intro _ _; exact .nil
    | cons x l ih =>
      intro h d
      obtain ⟨h1, h2⟩ := List.pairwise_cons.mp h
      obtain ⟨d1, d2⟩ := List.nodup_cons.mp d
      refine List.pairwise_cons.mpr ⟨fun y hy => ?_, ih h2 d2⟩
      have a := h1 y hy
      have b : x ≠ y := fun z => d1 (z ▸ hy)
      omega
  exact key _ h1 h2
theorem of_is_sums {ps : List (Int × Int)} (hl : ps.length ≤ line) (h1 : ∀ p ∈ ps, 1 ≤ p.2) (h2 : ps.Pairwise fun p q => p.1 < q.1) (k : Q (.val (.bool true)) []) : Ret d_law_is_sums [.val (tupF ps)] Q := by
  refine ret_mkR (by repeat constructor) ?_
  unfold b_law_is_sums
  walk_at "ril"
  refine wp_mid (fun ρ => ∃ a b c : Option Sl, ρ = [some (.val (tupF ps)), a, b, c]) ?_ ?_
  · refine wp_forN (fun n ρ => ρ = [some (.val (tupF ps)), none, none, none]) ps.length ?_ ?_ ?_
    · walk_at "rl"
      rw [List.length_map]
      exact ⟨rfl, hl, rfl⟩
    · rintro n _ hn rfl
      have p1 := h1 ps[n] (List.getElem_mem _)
      unfold l2_law_is_sums
      walk_at "ril"
      refine opq rfl rfl (fIx_fr hn) ?_
      walk_at "ril"
      refine wp_mid (fun ρ => ρ = [some (.val (tupF ps)), some (.val (.int (n : Int))), some (.val (fr ps[n])), none]) ?_ ?_
      · refine wp_for (wp_seqI ?_)
        walk_at "rl"
        refine wp_loop PyData.int (fun _ ρ => ρ = [some (.val (tupF ps)), some (.val (.int (n : Int))), some (.val (fr ps[n])), none]) [ps[n].1, ps[n].2] rfl ?_ ?_
        · rintro done y rest _ _ rfl
          unfold l1_law_is_sums
          walk_at "ril"
          rfl
        · rintro _ rfl
          exact ⟨rfl, rfl⟩
      rintro _ rfl
      walk_at "ril"
      refine ⟨fun h => absurd (of_decide_eq_true h) (by omega), fun _ => ?_⟩
      walk_at "ril"
      refine branchD (fun h => ?_) fun h => ?_
      · have hn1 : n - 1 < ps.length := by omega
        walk_at "ril"
        refine opq rfl rfl (show fIx (.pv (tupF ps)) (.pv (.int ((n : Int) - 1))) = some (.val (fr ps[n - 1])) from by rw [← fIx_fr hn1, show (n : Int) - 1 = ((n - 1 : Nat) : Int) by omega]) ?_
        walk_at "ril"
        have hlt := (List.pairwise_iff_getElem.mp h2) (n - 1) n hn1 hn (by omega)
        refine ⟨fun h => absurd (of_decide_eq_true h) (by omega), fun _ => ?_⟩
        walk_at "ril"
        rfl
      · walk_at "ril"
        rfl
    · rintro _ rfl
      exact ⟨rfl, none, none, none, rfl⟩
  rintro _ ⟨a, b, c, rfl⟩
  walk_at "ril"
  exact k
theorem sumsV_map (A : List Int) : (sumsV A).map fr = (isort (ddp A)).map (fr ∘ fun t => (t, ((A.count t : Nat) : Int))) := by unfold sumsV; rw [List.map_map]
theorem of_joined {A B : List Int} (hl : A.length * B.length < 10000000) (hA : 0 < A.length) (hB : 0 < B.length) (k : Q (.val (tupF (sumsV (addD A B)))) []) : Ret d_law_joined_k54 [.val (tupF (sumsV A)), .val (tupF (sumsV B))] Q := by
  refine ret_mkR (by repeat constructor) ?_
  unfold b_law_joined_k54
  walk_at "rl"
  refine wp_dct0 ?_
  walk_at "rl"
  refine wp_mid (fun ρ => ∃ kvs, IsW kvs (addD A B) ∧ ∃ v, isRef v = false ∧ ρ = [some (.val (tupF (sumsV A))), some (.val (tupF (sumsV B))), some (.own (.dct kvs)), v, none, none, none]) ?_ ?_
  · refine wp_for (wp_seqI ?_)
    walk_at "r"
    rw [sumsV_map]
    refine wp_loop (fr ∘ fun t => (t, ((A.count t : Nat) : Int))) (fun done ρ => ∃ kvs, IsW kvs (done.flatMap fun t => (isort (ddp B)).flatMap fun u => List.replicate (A.count t * B.count u) (t + u)) ∧ ∃ v, isRef v = false ∧ ρ = [some (.val (tupF (sumsV A))), some (.val (tupF (sumsV B))), some (.own (.dct kvs)), v, none, none, none]) (isort (ddp A)) ⟨[], ⟨[], .nil, rfl, by simp⟩, none, rfl, rfl⟩ ?_ ?_
    · rintro done t rest _ e ⟨kvs, hW, v, hv, rfl⟩
      have htA : t ∈ A := mem_ks.mp (by rw [e]; simp)
      have hcp : 0 < A.count t := List.count_pos_iff.mpr htA
      unfold l2_law_joined_k54
      show PutQ (gTup [3, 4]) (.val (.tuple [.int t, .int ((A.count t : Nat) : Int)])) _ _
      walk_at "rl"
      refine wp_for (wp_seqI ?_)
      walk_at "r"
      rw [sumsV_map]
      refine wp_loop (fr ∘ fun t => (t, ((B.count t : Nat) : Int))) (fun done2 ρ => ∃ kvs, IsW kvs ((done.flatMap fun t => (isort (ddp B)).flatMap fun u => List.replicate (A.count t * B.count u) (t + u)) ++ done2.flatMap fun u => List.replicate (A.count t * B.count u) (t + u)) ∧ ρ = [some (.val (tupF (sumsV A))), some (.val (tupF (sumsV B))), some (.own (.dct kvs)), some (.val (.int t)), some (.val (.int ((A.count t : Nat) : Int))), none, none]) (isort (ddp B)) ⟨kvs, by simpa using hW, rfl⟩ ?_ ?_
      · rintro done2 u rest2 _ e2 ⟨m3, h3, rfl⟩
        have huB : u ∈ B := mem_ks.mp (by rw [e2]; simp)
        have hcu : 0 < B.count u := List.count_pos_iff.mpr huB
        have cA := List.count_le_length (a := t) (l := A)
        have cB := List.count_le_length (a := u) (l := B)
        have hlen : m3.length < line := by
          have h4 : m3.length ≤ (addD A B).length := by
            obtain ⟨ks3, a1, rfl, a3⟩ := h3
            rw [List.length_map]
            refine nodup_le a1 fun x hx => ?_
            have hx := (a3 x).mp hx
            rw [List.mem_append, List.mem_flatMap, List.mem_flatMap] at hx
            unfold addD
            rw [List.mem_flatMap]
            rcases hx with ⟨t', ht', hx⟩ | ⟨f', hf', hx⟩
            · obtain ⟨f', hf', hx⟩ := List.mem_flatMap.mp hx
              rw [List.mem_replicate] at hx
              exact ⟨t', mem_ks.mp (by rw [e]; simp [ht']), List.mem_map.mpr ⟨f', mem_ks.mp hf', hx.2.symm⟩⟩
            · rw [List.mem_replicate] at hx
              exact ⟨t, htA, List.mem_map.mpr ⟨f', mem_ks.mp (by rw [e2]; simp [hf']), hx.2.symm⟩⟩
          rw [addD_len] at h4
          unfold line
          omega
        have lA : A.length ≤ A.length * B.length := Nat.le_mul_of_pos_right _ hB
        have lB : B.length ≤ A.length * B.length := Nat.le_mul_of_pos_left _ hA
        show PutQ (gTup [5, 6]) (.val (.tuple [.int u, .int ((B.count u : Nat) : Int)])) _ _
        unfold l1_law_joined_k54
        walk_at "r"
        refine wp_dput ?_
        walk_at "r"
        refine wp_dgetD ?_
        walk_at "r"
        refine ⟨_, .inl (t + u), rfl, rfl, ?_⟩
        walk_at "r"
        refine ⟨m3, .int 0, rfl, rfl, ?_⟩
        rw [isW_get h3]
        walk_at "r"
        refine opq rfl rfl (ev_mul (mulOkN (by omega) (by omega))) ?_
        walk_at "r"
        refine dputq rfl rfl rfl hlen (SetR.s (SetR.s SetR.o)) ?_
        walk_at "r"
        refine ⟨_, ?_, rfl⟩
        have := isW_put h3 (t + u) (Nat.mul_pos hcp hcu)
        rw [fl_perm_app, ← List.append_assoc, ← Int.natCast_mul]
        exact this
      · rintro _ ⟨m3, h3, rfl⟩
        walk_at "r"
        exact ⟨m3, by rw [fl_perm_app]; exact h3, _, rfl, rfl⟩
    · rintro _ ⟨m2, h2, v, hv, rfl⟩
      exact ⟨rfl, m2, isW_perm h2 (joined_perm A B), v, hv, rfl⟩
  rintro _ ⟨kvs, hW, v, hv, rfl⟩
  walk_at "r"
  have hkl := ks_len (addD A B)
  rw [addD_len] at hkl
  refine wp_lc PyData.int (fun done acc ρ => acc = (done.map fun t => (t, (((addD A B).count t : Nat) : Int))).map fr ∧ ∃ u, isRef u = false ∧ ρ = [some (.val (tupF (sumsV A))), some (.val (tupF (sumsV B))), some (.own (.dct kvs)), u, none, none, none]) ?_
  refine wp_seqI ?_
  walk_at "r"
  refine unq rfl (ev_sortW hW) ?_
  walk_at "r"
  refine ⟨by unfold line; omega, ⟨rfl, v, hv, rfl⟩, ?_, ?_⟩
  · rintro done t rest acc _ e ⟨rfl, u, hu, rfl⟩
    have ht : t ∈ addD A B := mem_ks.mp (by rw [e]; simp)
    refine lcqY rfl ?_
    dsimp only [wipe, set_s, set_z]
    unfold e3_law_joined_k54
    walk_at "r"
    refine opq rfl rfl (show fDget (.ob (.dct kvs)) (.pv (.int t)) = some (.val (.int ((addD A B).count t : Nat))) from by simp [fDget, keyC, keyOf, isW_get' hW ht]) ?_
    walk_at "rl"
    exact ⟨by simp [fr], _, rfl, rfl⟩
  rintro _ _ ⟨rfl, u, hu, rfl⟩
  dsimp only [back, set_s, set_z, get_s, get_z]
  walk_at "r"
  exact k
end
end Py
namespace Py
open PySem D
local macro_rules
  | `(tactic| walk_at "w") => `(tactic| with_reducible first
    | refine seq_nx ?_ | refine seq_rt ?_ | refine seq_bk ?_ | refine seq_ct ?_ | refine wp_seq ?_ | refine wp_asg ?_ | refine wp_next ?_ | refine wp_ret ?_ | refine wp_retN ?_ | refine wp_brk ?_ | refine wp_cont ?_ | refine wp_expr ?_ | refine wp_op ?_ | refine wp_un ?_ | refine wp_c ?_
    | refine unB ?_ | refine wp_truB ?_ | refine wp_and ?_ | refine wp_or ?_ | refine wp_not ?_ | refine wp_ifE ?_ | refine wp_tup ?_ | refine wp_lst ?_ | refine wp_lcons ?_ | refine wp_lnil ?_ | refine frzV ?_ | refine frzN ?_ | refine wp_frz ?_ | refine wp_sl ?_ | refine wp_onone ?_ | refine wp_osome ?_
    | refine wp_anil ?_ | refine wp_av ?_ | refine wp_andV ?_ | refine wp_orV ?_ | refine wp_notV ?_ | refine wp_fgtR ?_ | refine turn_nx ?_ | refine turn_rt ?_ | refine turn_bk ?_ | refine turn_ct ?_ | refine fgt_rt ?_ | refine wp_par ?_ | refine wp_chain ?_ | refine wp_seqI ?_)
local macro_rules
  | `(tactic| walk_at "put") => `(tactic| focus ((repeat apply PutR.s); first | exact PutR.z rfl | exact PutR.z (by assumption)))
local macro_rules
  | `(tactic| walk_at "set") => `(tactic| focus ((repeat apply SetR.s); first | exact SetR.o | exact SetR.r))
local macro_rules
  | `(tactic| walk_at "fgt") => `(tactic| focus (repeat first | exact FgtsR.nil | exact FgtR.k | exact FgtR.z rfl | exact FgtR.z (by assumption) | apply FgtR.s | apply FgtsR.cons))
local macro_rules
  | `(tactic| walk_at "x") => `(tactic| first
    | ((with_reducible apply wp_varV); (focus exact rfl)) | ((with_reducible apply wp_varO); (focus exact rfl)) | ((with_reducible apply wp_varR); (focus exact rfl))
    | ((with_reducible apply opq); (focus exact rfl); (focus exact rfl); (focus (first | exact ev_eqI | exact ev_neI | exact ev_ltI | exact ev_leI | exact ev_gtI | exact ev_geI | exact ev_in2 | exact ev_in2n | exact ev_in4n | exact ev_isT | exact ev_isF | exact ev_isnT | exact ev_isnF | exact ev_strT | exact ev_strF n1 | exact ev_strF n2 | exact ev_strF n3 | exact ev_strF n4 | exact ev_strF n5 | exact ev_strF n6 | exact rfl)))
    | ((with_reducible apply unq); (focus exact rfl); (focus exact rfl))
    | ((with_reducible first | apply putqV | apply putqN); walk_at "put")
    | ((with_reducible apply putqB); (focus exact rfl); (focus exact rfl); walk_at "put"; walk_at "put")
    | ((with_reducible apply putq2); walk_at "put"; walk_at "put")
    | ((with_reducible apply parq); walk_at "put"; walk_at "put")
    | ((with_reducible apply wp_callR); (focus (repeat first | exact RefsR.nil | apply RefsR.v | apply RefsR.r)); (focus decide))
    | ((with_reducible apply wp_ar); (focus exact rfl))
    | ((with_reducible apply fin_rt); (focus exact rfl); (focus exact rfl))
    | ((with_reducible apply fin_nx); (focus exact rfl))
    | ((with_reducible apply wp_appendR); (focus exact rfl))
    | (with_reducible refine ⟨_, rfl, ?_⟩) | (with_reducible refine ⟨_, .inl rfl, ?_⟩) | (with_reducible refine ⟨_, .inr (.inl rfl), ?_⟩) | (with_reducible refine ⟨_, .inr (.inr rfl), ?_⟩)
    | (with_reducible apply callq0) | ((with_reducible apply frzB); (focus exact rfl); (focus exact rfl); walk_at "put")
    | ((with_reducible apply callq1); walk_at "set")
    | ((with_reducible apply callq2); walk_at "set"; walk_at "set")
    | ((with_reducible first | apply fgt_nx | apply fgt_bk | apply fgt_ct); walk_at "fgt")
    | ((with_reducible apply brT); (focus exact rfl)) | ((with_reducible apply brF); (focus exact rfl)))
local macro_rules
  | `(tactic| walk_at "r") => `(tactic| repeat first | walk_at "w" | walk_at "x")
local macro_rules
  | `(tactic| walk_at "ri") => `(tactic| repeat first | walk_at "w" | walk_at "x" | (with_reducible refine wp_if ?_))
local macro_rules
  | `(tactic| walk_at "app") => `(tactic| ((with_reducible apply appq); (focus exact rfl); (focus ((try simp only [List.length_map, List.length_nil, List.length_cons, List.length_append]); unfold line; omega)); walk_at "set"))
local macro_rules
  | `(tactic| walk_at "mul") => `(tactic| ((refine opq rfl rfl (ev_mul ?_) ?_); (focus (apply mulT <;> omega))))
local macro_rules
  | `(tactic| walk_at "rm") => `(tactic| repeat first | walk_at "w" | walk_at "x" | walk_at "mul")
local macro_rules
  | `(tactic| walk_at "len") => `(tactic| (refine And.intro ?_ ?_; (focus (simp [line]; done))))
local macro_rules
  | `(tactic| walk_at "rl") => `(tactic| repeat first | walk_at "w" | walk_at "x" | walk_at "len")
local macro_rules
  | `(tactic| walk_at "ril") => `(tactic| repeat first | walk_at "w" | walk_at "x" | walk_at "len" | (with_reducible refine wp_if ?_))
structure Dok (d : List Int) : Prop where
  ne : d ≠ []
  len : d.length ≤ 12
  lo : ∀ f ∈ d, 1 ≤ f
  hi : ∀ f ∈ d, f ≤ 30
theorem ds_of {n : Nat} {ds : List (List Int)} (h1 : ds.length ≤ n) (h2 : ∀ d ∈ ds, Dok d) : Ds n ds := ⟨h1, fun d hd => (h2 d hd).ne, fun d hd => (h2 d hd).len, fun d hd => (h2 d hd).lo, fun d hd => (h2 d hd).hi⟩
theorem Ds.ok {n : Nat} {ds : List (List Int)} (h : Ds n ds) : ∀ d ∈ ds, Dok d := fun d hd => ⟨h.ne d hd, h.few d hd, h.lo d hd, h.hi d hd⟩
theorem die_ok {p : Int} {xs : List Int} (h : Die p xs) (hp : p ≤ 30) : Dok xs := ⟨h.ne, h.len, h.lo, fun f hf => by have := h.hi f hf; omega⟩
theorem plain_optV (o : Option Int) : Plain 40 (optV o) := by
  cases o with
  | none => exact .none
  | some t => exact .int
theorem plain_tupF {ps : List (Int × Int)} (h : ps.length ≤ line) : Plain 40 (tupF ps) := .tuple (by rw [List.length_map]; exact h) fun x hx => by
  obtain ⟨p, _, rfl⟩ := List.mem_map.mp hx
  exact plain_fr
theorem sumsV_len {ds : List (List Int)} (h : Dcs ds) : (sumsV (thr ds)).length ≤ line := by
  have h1 := ks_len (thr ds)
  have h2 := h.2.1
  unfold sumsV
  rw [List.length_map]
  unfold line
  omega
theorem add_tup {xs ys : List (List Int)} (h : xs.length + ys.length ≤ line) : fAdd (.pv (.tuple (xs.map tupI))) (.pv (.tuple (ys.map tupI))) = some (.val (tupT (xs ++ ys))) := by
  show (if _ ≤ line then _ else _) = _
  rw [List.length_map, List.length_map, if_pos h, ← List.map_append]
  rfl
theorem fIx_die {l : List (List Int)} {j : Nat} (h : j < l.length) : fIx (.pv (.tuple (l.map tupI))) (.pv (.int (j : Int))) = some (.val (tupI (l[j]'h))) := by
  show (atI _ _).map _ = _
  unfold atI
  rw [List.length_map, ixN_nat h]
  simp [h]
theorem fIx_last {d : List Int} (h : d ≠ []) : fIx (.pv (tupI d)) (.pv (.int (-1))) = some (.val (.int (d.getLast h))) := by
  have hp : 0 < d.length := List.length_pos_iff.mpr h
  show (atI _ _).map _ = _
  unfold atI ixN
  rw [List.length_map, if_neg (by decide), if_pos (by omega), Option.bind_some, show ((-1 : Int) + d.length).toNat = d.length - 1 by omega, List.getElem?_map, ← List.getLast?_eq_getElem?, List.getLast?_eq_some_getLast h]
  rfl
theorem last_max {d : List Int} (s : d.Pairwise (· ≤ ·)) (h : d ≠ []) : ∀ x ∈ d, x ≤ d.getLast h := fun x hx => by
  have e := List.dropLast_concat_getLast h
  rw [← e] at hx s
  rcases List.mem_append.mp hx with hx | hx
  · exact (List.pairwise_append.mp s).2.2 x hx _ List.mem_cons_self
  · rw [List.mem_singleton.mp hx]; exact Int.le_refl _
theorem cut_len {α : Type} (xs : List α) (lo hi : Option Int) : (cut xs lo hi).length ≤ sIx xs.length xs.length hi - sIx xs.length 0 lo := by
  unfold cut
  rw [List.length_take]
  omega
theorem cut_le {α : Type} (xs : List α) (lo hi : Option Int) : (cut xs lo hi).length ≤ xs.length := by
  unfold cut
  rw [List.length_take, List.length_drop]
  omega
theorem cut_to {α : Type} (xs : List α) (j : Nat) : (cut xs none (some (j : Int))).length ≤ j := by
  have h := cut_len xs none (some (j : Int))
  simp only [sIx, if_neg (show ¬ ((j : Int) < 0) by omega)] at h
  omega
theorem cut_from {α : Type} (xs : List α) (j : Nat) : (cut xs (some (j : Int)) none).length ≤ xs.length - j := by
  have h := cut_len xs (some (j : Int)) none
  simp only [sIx, if_neg (show ¬ ((j : Int) < 0) by omega)] at h
  omega
theorem Ds.cut {n m : Nat} {ds : List (List Int)} (h : Ds n ds) {lo hi : Option Int} (hm : (Py.cut ds lo hi).length ≤ m) : Ds m (Py.cut ds lo hi) := ds_of hm fun d hd => h.ok d (cut_mem hd)
theorem Ds.app {n m k : Nat} {xs ys : List (List Int)} (h1 : Ds n xs) (h2 : Ds m ys) (h : xs.length + ys.length ≤ k) : Ds k (xs ++ ys) := ds_of (by rw [List.length_append]; exact h) fun d hd => (List.mem_append.mp hd).elim (h1.ok d) (h2.ok d)
theorem Ds.one {d : List Int} (h : Dok d) : Ds 1 [d] := ds_of (by simp) fun x hx => by rw [List.mem_singleton.mp hx]; exact h
theorem Ds.le {n m : Nat} {ds : List (List Int)} (h : Ds n ds) (hm : ds.length ≤ m) : Ds m ds := ds_of hm h.ok
theorem alike_concrete {A B L : List Int} {o : Option Int} (s : L.Pairwise (· < ·)) (h : ∀ t ∈ A ++ B, t ∈ L) (e : L.find? (unl A B) = o) : alikeV A B = o := (alike_find s h).trans e
theorem ds_dec {n : Nat} {ds : List (List Int)} (h : decide (ds.length ≤ n ∧ ∀ d ∈ ds, d ≠ [] ∧ d.length ≤ 12 ∧ ∀ f ∈ d, 1 ≤ f ∧ f ≤ 30) = true) : Ds n ds := by
  have h := of_decide_eq_true h
  exact ds_of h.1 fun d hd => ⟨(h.2 d hd).1, (h.2 d hd).2.1, fun f hf => ((h.2 d hd).2.2 f hf).1, fun f hf => ((h.2 d hd).2.2 f hf).2⟩
theorem shaped_tupF (ps : List (Int × Int)) : SeqAt.shaped (tupF ps) = true := by
  have h1 : ∀ l : List (Int × Int), PyData.canLayAll0 (l.map fr) = true := by
    intro l
    induction l with
    | nil => rfl
    | cons p l ih => simp only [List.map_cons, PyData.canLayAll0, ih, fr, PyData.canLay0, Bool.and_self]
  have h2 : ∀ l : List (Int × Int), PyData.depthAll (l.map fr) ≤ 1 := by
    intro l
    induction l with
    | nil => exact Nat.zero_le _
    | cons p l ih =>
      simp only [List.map_cons, PyData.depthAll, fr, PyData.depth] at ih ⊢
      simp; omega
  unfold SeqAt.shaped tupF
  have := h2 ps
  simp only [PyData.canLay0, PyData.depth, h1, Bool.true_and]
  exact decide_eq_true (by omega)
theorem ev_eqF (ps : List (Int × Int)) : fEq (.pv (tupF ps)) (.pv (tupF ps)) = some (.val (.bool true)) := by
  show (if SeqAt.shaped (tupF ps) = true ∧ SeqAt.shaped (tupF ps) = true then some (R.val (.bool (false ^^ PyData.eqv (tupF ps) (tupF ps)))) else none) = _
  have h := shaped_tupF ps
  rw [if_pos ⟨h, h⟩, SeqAt.eqv_refl _ (SeqAt.canLay_of_shaped h)]
  rfl
theorem fIx_int {l : List Int} {j : Nat} (h : j < l.length) {c : Ct} (hc : c = .ob (.lst (l.map PyData.int)) ∨ c = .pv (.tuple (l.map PyData.int))) : fIx c (.pv (.int (j : Int))) = some (.val (.int (l[j]'h))) := by
  have e : atI (l.map PyData.int) (j : Int) = some (.int (l[j]'h)) := by
    unfold atI
    rw [List.length_map, ixN_nat h]
    simp [h]
  rcases hc with rfl | rfl
  · show (atI _ _).map _ = _
    rw [e]; rfl
  · show (atI _ _).map _ = _
    rw [e]; rfl
end Py
namespace Py
open PySem D
local macro_rules
  | `(tactic| walk_at "w") => `(tactic| with_reducible first
    | refine seq_nx ?_ | refine seq_rt ?_ | refine seq_bk ?_ | refine seq_ct ?_ | refine wp_seq ?_ | refine wp_asg ?_ | refine wp_next ?_ | refine wp_ret ?_ | refine wp_retN ?_ | refine wp_brk ?_ | refine wp_cont ?_ | refine wp_expr ?_ | refine wp_op ?_ | refine wp_un ?_ | refine wp_c ?_
    | refine unB ?_ | refine wp_truB ?_ | refine wp_and ?_ | refine wp_or ?_ | refine wp_not ?_ | refine wp_ifE ?_ | refine wp_tup ?_ | refine wp_lst ?_ | refine wp_lcons ?_ | refine wp_lnil ?_ | refine frzV ?_ | refine frzN ?_ | refine wp_frz ?_ | refine wp_sl ?_ | refine wp_onone ?_ | refine wp_osome ?_
    | refine wp_anil ?_ | refine wp_av ?_ | refine wp_andV ?_ | refine wp_orV ?_ | refine wp_notV ?_ | refine wp_fgtR ?_ | refine turn_nx ?_ | refine turn_rt ?_ | refine turn_bk ?_ | refine turn_ct ?_ | refine fgt_rt ?_ | refine wp_par ?_ | refine wp_chain ?_ | refine wp_seqI ?_)
local macro_rules
  | `(tactic| walk_at "put") => `(tactic| focus ((repeat apply PutR.s); first | exact PutR.z rfl | exact PutR.z (by assumption)))
local macro_rules
  | `(tactic| walk_at "set") => `(tactic| focus ((repeat apply SetR.s); first | exact SetR.o | exact SetR.r))
local macro_rules
  | `(tactic| walk_at "fgt") => `(tactic| focus (repeat first | exact FgtsR.nil | exact FgtR.k | exact FgtR.z rfl | exact FgtR.z (by assumption) | apply FgtR.s | apply FgtsR.cons))
local macro_rules
  | `(tactic| walk_at "x") => `(tactic| first
    | ((with_reducible apply wp_varV); (focus exact rfl)) | ((with_reducible apply wp_varO); (focus exact rfl)) | ((with_reducible apply wp_varR); (focus exact rfl))
    | ((with_reducible apply opq); (focus exact rfl); (focus exact rfl); (focus (first | exact ev_eqI | exact ev_neI | exact ev_ltI | exact ev_leI | exact ev_gtI | exact ev_geI | exact ev_in2 | exact ev_in2n | exact ev_in4n | exact ev_isT | exact ev_isF | exact ev_isnT | exact ev_isnF | exact ev_strT | exact ev_strF n1 | exact ev_strF n2 | exact ev_strF n3 | exact ev_strF n4 | exact ev_strF n5 | exact ev_strF n6 | exact rfl)))
    | ((with_reducible apply unq); (focus exact rfl); (focus exact rfl))
    | ((with_reducible first | apply putqV | apply putqN); walk_at "put")
    | ((with_reducible apply putqB); (focus exact rfl); (focus exact rfl); walk_at "put"; walk_at "put")
    | ((with_reducible apply putq2); walk_at "put"; walk_at "put")
    | ((with_reducible apply parq); walk_at "put"; walk_at "put")
    | ((with_reducible apply wp_callR); (focus (repeat first | exact RefsR.nil | apply RefsR.v | apply RefsR.r)); (focus decide))
    | ((with_reducible apply wp_ar); (focus exact rfl))
    | ((with_reducible apply fin_rt); (focus exact rfl); (focus exact rfl))
    | ((with_reducible apply fin_nx); (focus exact rfl))
    | ((with_reducible apply wp_appendR); (focus exact rfl))
    | (with_reducible refine ⟨_, rfl, ?_⟩) | (with_reducible refine ⟨_, .inl rfl, ?_⟩) | (with_reducible refine ⟨_, .inr (.inl rfl), ?_⟩) | (with_reducible refine ⟨_, .inr (.inr rfl), ?_⟩)
    | (with_reducible apply callq0) | ((with_reducible apply frzB); (focus exact rfl); (focus exact rfl); walk_at "put")
    | ((with_reducible apply callq1); walk_at "set")
    | ((with_reducible apply callq2); walk_at "set"; walk_at "set")
    | ((with_reducible first | apply fgt_nx | apply fgt_bk | apply fgt_ct); walk_at "fgt")
    | ((with_reducible apply brT); (focus exact rfl)) | ((with_reducible apply brF); (focus exact rfl)))
local macro_rules
  | `(tactic| walk_at "r") => `(tactic| repeat first | walk_at "w" | walk_at "x")
local macro_rules
  | `(tactic| walk_at "ri") => `(tactic| repeat first | walk_at "w" | walk_at "x" | (with_reducible refine wp_if ?_))
local macro_rules
  | `(tactic| walk_at "app") => `(tactic| ((with_reducible apply appq); (focus exact rfl); (focus ((try simp only [List.length_map, List.length_nil, List.length_cons, List.length_append]); unfold line; omega)); walk_at "set"))
local macro_rules
  | `(tactic| walk_at "mul") => `(tactic| ((refine opq rfl rfl (ev_mul ?_) ?_); (focus (apply mulT <;> omega))))
local macro_rules
  | `(tactic| walk_at "rm") => `(tactic| repeat first | walk_at "w" | walk_at "x" | walk_at "mul")
local macro_rules
  | `(tactic| walk_at "len") => `(tactic| (refine And.intro ?_ ?_; (focus (simp [line]; done))))
local macro_rules
  | `(tactic| walk_at "rl") => `(tactic| repeat first | walk_at "w" | walk_at "x" | walk_at "len")
local macro_rules
  | `(tactic| walk_at "ril") => `(tactic| repeat first | walk_at "w" | walk_at "x" | walk_at "len" | (with_reducible refine wp_if ?_))
section
variable {Q : R → List Ob → Prop} {ρ : Env}
theorem of_parts {ds : List Int} {dice : List (List Int)} (hd : Ds 4 dice) (k : ∀ ds', Q (.val (.bool true)) [intsO ds']) : Ret d_law_parts_are_right_k54 [.ref (intsO ds), .val (tupT dice)] Q := by
  have hc := hd.dcs (by decide)
  have hlen := hd.len
  refine ret_mkR (by repeat constructor) ?_
  unfold b_law_parts_are_right_k54
  walk_at "ril"
  refine of_sums hc ?_
  walk_at "ril"
  refine of_law_sums hc ?_
  walk_at "ril"
  refine of_same (plain_tupF (sumsV_len hc)) ?_
  walk_at "ril"
  refine of_order (by omega) fun out ds hp => ?_
  have ho : Ds 4 out := ds_of (by rw [hp.length_eq]; exact hlen) fun d h => hd.ok d (hp.mem_iff.mp h)
  walk_at "ril"
  rw [List.length_map]
  refine of_take (by omega) fun a ds ha1 ha2 => ?_
  obtain ⟨a, rfl⟩ := Int.eq_ofNat_of_zero_le ha1
  walk_at "ril"
  rw [cut_map]
  have c1 := cut_le out none (some (a : Int))
  have c2 := cut_le out (some (a : Int)) none
  have lo := ho.len
  have d1 : Ds 4 (Py.cut out none (some (a : Int))) := ho.cut (by omega)
  have d2 : Ds 4 (Py.cut out (some (a : Int)) none) := ho.cut (by omega)
  have cc1 := d1.dcs (by decide)
  have cc2 := d2.dcs (by decide)
  refine of_sums cc1 ?_
  walk_at "ril"
  rw [cut_map]
  refine of_sums cc2 ?_
  walk_at "ril"
  refine of_is_sums (sumsV_len cc1) sumsV_pos (sumsV_asc _) ?_
  walk_at "ril"
  refine of_is_sums (sumsV_len cc2) sumsV_pos (sumsV_asc _) ?_
  walk_at "ril"
  have hoc := ho.dcs (by decide)
  refine of_sums hoc ?_
  walk_at "ril"
  rw [sumsV_perm (thr_perm hp)]
  refine of_same (plain_tupF (sumsV_len hc)) ?_
  walk_at "ril"
  have eo : Py.cut out none (some (a : Int)) ++ Py.cut out (some (a : Int)) none = out := by
    have h : a ≤ out.length := by rw [hp.length_eq]; omega
    unfold Py.cut
    simp only [sIx, if_neg (show ¬ ((a : Int) < 0) by omega), Int.toNat_natCast, Nat.min_eq_left h, List.drop_zero, Nat.sub_zero]
    rw [List.take_of_length_le (l := out.drop a) (by rw [List.length_drop]; omega), List.take_append_drop]
  have pp : (addD (thr (Py.cut out none (some (a : Int)))) (thr (Py.cut out (some (a : Int)) none))).Perm (thr dice) := by
    refine (thr_parts _ _).symm.trans ?_
    rw [eo]
    exact thr_perm hp
  refine of_joined ?_ (thr_pos cc1.1) (thr_pos cc2.1) ?_
  · rw [← addD_len, pp.length_eq]; exact hc.2.1
  rw [sumsV_perm pp]
  walk_at "ril"
  refine opq rfl rfl (ev_eqF _) ?_
  walk_at "ril"
  refine of_alike hoc hc (ho.lim (by decide)) (hd.lim (by decide)) ?_
  rw [alike_refl (thr_perm hp)]
  walk_at "ril"
  exact k _
theorem of_with_die {one other : List (List Int)} {d : List Int} (h1 : Ds 4 one) (h2 : Ds 4 other) (hd : Dok d) (hm : ∀ f ∈ d, d[0]'(List.length_pos_iff.mpr hd.ne) ≤ f) (k : Q (.val (.bool true)) []) : Ret d_law_with_die_is_right [.val (tupT one), .val (tupT other), .val (tupI d)] Q := by
  have l1 := h1.len
  have l2 := h2.len
  have hp := List.length_pos_iff.mpr hd.ne
  refine ret_mkR (by repeat constructor) ?_
  unfold b_law_with_die_is_right
  walk_at "ril"
  refine of_alike (h1.dcs (by decide)) (h2.dcs (by decide)) (h1.lim (by decide)) (h2.lim (by decide)) ?_
  walk_at "ril"
  have e1 : fAdd (.pv (tupT one)) (.pv (.tuple [tupI d])) = some (.val (tupT (one ++ [d]))) := add_tup (ys := [d]) (by rw [List.length_singleton]; unfold line; omega)
  have e2 : fAdd (.pv (.tuple [tupI d])) (.pv (tupT other)) = some (.val (tupT ([d] ++ other))) := add_tup (xs := [d]) (by rw [List.length_singleton]; unfold line; omega)
  refine opq rfl rfl e1 ?_
  walk_at "ril"
  refine opq rfl rfl e2 ?_
  walk_at "ril"
  have d1 : Ds 5 (one ++ [d]) := h1.app (Ds.one hd) (by rw [List.length_singleton]; omega)
  have d2 : Ds 5 ([d] ++ other) := (Ds.one hd).app h2 (by rw [List.length_singleton]; omega)
  refine of_alike (d1.dcs (by decide)) (d2.dcs (by decide)) (d1.lim (by decide)) (d2.lim (by decide)) ?_
  have e3 : alikeV (thr (one ++ [d])) (thr ([d] ++ other)) = (alikeV (thr one) (thr other)).map (· + d[0]'(List.length_pos_iff.mpr hd.ne)) := by
    rw [← alike_add (List.getElem_mem _) hm, ← thr_app, ← thr_app]
    exact alike_perm (.refl _) (thr_perm List.perm_append_comm)
  rw [e3]
  cases alikeV (thr one) (thr other) with
  | none =>
    walk_at "ril"
    exact k
  | some t =>
    walk_at "ril"
    refine opq rfl rfl (fIx_int (j := 0) hp (.inr rfl)) ?_
    walk_at "ril"
    refine of_same .int ?_
    walk_at "ril"
    exact k
end
end Py
namespace Py
open PySem D
local macro_rules
  | `(tactic| walk_at "w") => `(tactic| with_reducible first
    | refine seq_nx ?_ | refine seq_rt ?_ | refine seq_bk ?_ | refine seq_ct ?_ | refine wp_seq ?_ | refine wp_asg ?_ | refine wp_next ?_ | refine wp_ret ?_ | refine wp_retN ?_ | refine wp_brk ?_ | refine wp_cont ?_ | refine wp_expr ?_ | refine wp_op ?_ | refine wp_un ?_ | refine wp_c ?_
    | refine unB ?_ | refine wp_truB ?_ | refine wp_and ?_ | refine wp_or ?_ | refine wp_not ?_ | refine wp_ifE ?_ | refine wp_tup ?_ | refine wp_lst ?_ | refine wp_lcons ?_ | refine wp_lnil ?_ | refine frzV ?_ | refine frzN ?_ | refine wp_frz ?_ | refine wp_sl ?_ | refine wp_onone ?_ | refine wp_osome ?_
    | refine wp_anil ?_ | refine wp_av ?_ | refine wp_andV ?_ | refine wp_orV ?_ | refine wp_notV ?_ | refine wp_fgtR ?_ | refine turn_nx ?_ | refine turn_rt ?_ | refine turn_bk ?_ | refine turn_ct ?_ | refine fgt_rt ?_ | refine wp_par ?_ | refine wp_chain ?_ | refine wp_seqI ?_)
local macro_rules
  | `(tactic| walk_at "put") => `(tactic| focus ((repeat apply PutR.s); first | exact PutR.z rfl | exact PutR.z (by assumption)))
local macro_rules
  | `(tactic| walk_at "set") => `(tactic| focus ((repeat apply SetR.s); first | exact SetR.o | exact SetR.r))
local macro_rules
  | `(tactic| walk_at "fgt") => `(tactic| focus (repeat first | exact FgtsR.nil | exact FgtR.k | exact FgtR.z rfl | exact FgtR.z (by assumption) | apply FgtR.s | apply FgtsR.cons))
local macro_rules
  | `(tactic| walk_at "x") => `(tactic| first
    | ((with_reducible apply wp_varV); (focus exact rfl)) | ((with_reducible apply wp_varO); (focus exact rfl)) | ((with_reducible apply wp_varR); (focus exact rfl))
    | ((with_reducible apply opq); (focus exact rfl); (focus exact rfl); (focus (first | exact ev_eqI | exact ev_neI | exact ev_ltI | exact ev_leI | exact ev_gtI | exact ev_geI | exact ev_in2 | exact ev_in2n | exact ev_in4n | exact ev_isT | exact ev_isF | exact ev_isnT | exact ev_isnF | exact ev_strT | exact ev_strF n1 | exact ev_strF n2 | exact ev_strF n3 | exact ev_strF n4 | exact ev_strF n5 | exact ev_strF n6 | exact rfl)))
    | ((with_reducible apply unq); (focus exact rfl); (focus exact rfl))
    | ((with_reducible first | apply putqV | apply putqN); walk_at "put")
    | ((with_reducible apply putqB); (focus exact rfl); (focus exact rfl); walk_at "put"; walk_at "put")
    | ((with_reducible apply putq2); walk_at "put"; walk_at "put")
    | ((with_reducible apply parq); walk_at "put"; walk_at "put")
    | ((with_reducible apply wp_callR); (focus (repeat first | exact RefsR.nil | apply RefsR.v | apply RefsR.r)); (focus decide))
    | ((with_reducible apply wp_ar); (focus exact rfl))
    | ((with_reducible apply fin_rt); (focus exact rfl); (focus exact rfl))
    | ((with_reducible apply fin_nx); (focus exact rfl))
    | ((with_reducible apply wp_appendR); (focus exact rfl))
    | (with_reducible refine ⟨_, rfl, ?_⟩) | (with_reducible refine ⟨_, .inl rfl, ?_⟩) | (with_reducible refine ⟨_, .inr (.inl rfl), ?_⟩) | (with_reducible refine ⟨_, .inr (.inr rfl), ?_⟩)
    | (with_reducible apply callq0) | ((with_reducible apply frzB); (focus exact rfl); (focus exact rfl); walk_at "put")
    | ((with_reducible apply callq1); walk_at "set")
    | ((with_reducible apply callq2); walk_at "set"; walk_at "set")
    | ((with_reducible first | apply fgt_nx | apply fgt_bk | apply fgt_ct); walk_at "fgt")
    | ((with_reducible apply brT); (focus exact rfl)) | ((with_reducible apply brF); (focus exact rfl)))
local macro_rules
  | `(tactic| walk_at "r") => `(tactic| repeat first | walk_at "w" | walk_at "x")
local macro_rules
  | `(tactic| walk_at "ri") => `(tactic| repeat first | walk_at "w" | walk_at "x" | (with_reducible refine wp_if ?_))
local macro_rules
  | `(tactic| walk_at "app") => `(tactic| ((with_reducible apply appq); (focus exact rfl); (focus ((try simp only [List.length_map, List.length_nil, List.length_cons, List.length_append]); unfold line; omega)); walk_at "set"))
local macro_rules
  | `(tactic| walk_at "mul") => `(tactic| ((refine opq rfl rfl (ev_mul ?_) ?_); (focus (apply mulT <;> omega))))
local macro_rules
  | `(tactic| walk_at "rm") => `(tactic| repeat first | walk_at "w" | walk_at "x" | walk_at "mul")
local macro_rules
  | `(tactic| walk_at "len") => `(tactic| (refine And.intro ?_ ?_; (focus (simp [line]; done))))
local macro_rules
  | `(tactic| walk_at "rl") => `(tactic| repeat first | walk_at "w" | walk_at "x" | walk_at "len")
local macro_rules
  | `(tactic| walk_at "ril") => `(tactic| repeat first | walk_at "w" | walk_at "x" | walk_at "len" | (with_reducible refine wp_if ?_))
section
variable {Q : R → List Ob → Prop} {ρ : Env}
def upF (x : Int) : Int := if x + 1 < 30 then x + 1 else 30
theorem fIx_lastT {d : List (List Int)} (h : d ≠ []) : fIx (.pv (tupT d)) (.pv (.int (-1))) = some (.val (tupI (d.getLast h))) := by
  have hp : 0 < d.length := List.length_pos_iff.mpr h
  show (atI _ _).map _ = _
  unfold atI ixN
  rw [List.length_map, if_neg (by decide), if_pos (by omega), Option.bind_some, show ((-1 : Int) + d.length).toNat = d.length - 1 by omega, List.getElem?_map, ← List.getLast?_eq_getElem?, List.getLast?_eq_some_getLast h]
  rfl
def prT (y : List (List Int) × List (List Int)) : PV := .tuple [tupT y.1, tupT y.2]
theorem first_min {d : List Int} (s : d.Pairwise (· ≤ ·)) (h : 0 < d.length) : ∀ f ∈ d, d[0] ≤ f := by
  cases d with
  | nil => simp at h
  | cons x d =>
    intro f hf
    rcases List.mem_cons.mp hf with rfl | hf
    · exact Int.le_refl _
    · exact (List.pairwise_cons.mp s).1 f hf
def p6 : List (List Int) := [[1, 2, 3, 4, 5, 6], [1, 2, 3, 4, 5, 6]]
def c6 : List Int := [1, 2, 3, 4, 5, 6]
def k6 : List (List Int) := [[1, 2, 2, 3, 3, 4], [1, 3, 4, 5, 6, 8]]
theorem ds_p6 : Ds 2 p6 := ds_dec (by decide)
theorem ds_k6 : Ds 2 k6 := ds_dec (by decide)
theorem perm6 : (thr p6).Perm (thr k6) := by decide +kernel
theorem Law_k54_holds (ns : List Int) (hl : ns.length ≤ 63) (hb : ∀ z ∈ ns, Builtin.Int.intBits z ≤ 1048576) : ∃ os, d_law_k54 [.val (.list (ns.map PyData.int))] = some (.val (.bool true), os) := by
  suffices h : Ret d_law_k54 [.val (.list (ns.map PyData.int))] fun r _ => r = .val (.bool true) by
    obtain ⟨r, os, e, q⟩ := h
    exact ⟨os, by rw [e, q]⟩
  refine ret_mkR (by repeat constructor) ?_
  unfold b_law_k54
  walk_at "rl"
  refine of_draws (m := 140) hb hl (by decide) fun ds => ?_
  walk_at "rl"
  refine of_take (by decide) fun i1 ds hi1 hi2 => ?_
  walk_at "rl"
  obtain ⟨f, p, hf1, hp1, hix⟩ : ∃ f p : Int, (3 ≤ f ∧ f ≤ 12) ∧ (4 ≤ p ∧ p ≤ 30) ∧ atI [.tuple [.int 6, .int 12], .tuple [.int 6, .int 12], .tuple [.int 3, .int 4], .tuple [.int 12, .int 30]] i1 = some (.tuple [.int f, .int p]) := by
    rcases (show i1 = 0 ∨ i1 = 1 ∨ i1 = 2 ∨ i1 = 3 by omega) with rfl | rfl | rfl | rfl
    · exact ⟨6, 12, by decide, by decide, rfl⟩
    · exact ⟨6, 12, by decide, by decide, rfl⟩
    · exact ⟨3, 4, by decide, by decide, rfl⟩
    · exact ⟨12, 30, by decide, by decide, rfl⟩
  refine opq rfl rfl (ev_ix (xs := [.tuple [.int 6, .int 12], .tuple [.int 6, .int 12], .tuple [.int 3, .int 4], .tuple [.int 12, .int 30]]) (.inr (.inr rfl)) hix) ?_
  walk_at "r"
  refine wp_lc nP (fun done acc ρ => ∃ (xs : List (List Int)) (ds : List Int) (u : Option Sl), acc = xs.map tupI ∧ xs.length = done.length ∧ (∀ x ∈ xs, Dok x ∧ x.Pairwise (· ≤ ·)) ∧ isRef u = false ∧ ρ = [some (.val (.list (ns.map PyData.int))), some (.own (intsO ds)), some (.val (.int f)), some (.val (.int p)), none, none, none, none, none, none, none, none, u, none]) ?_
  refine wp_rng1 ?_
  walk_at "r"
  refine of_take (by decide) fun n ds hn1 hn2 => ?_
  walk_at "r"
  obtain ⟨n, rfl⟩ := Int.eq_ofNat_of_zero_le hn1
  refine ⟨by unfold line; omega, List.range n, by simp [nP], by simp [line]; omega, ⟨[], ds, none, rfl, rfl, by simp, rfl, rfl⟩, ?_, ?_⟩
  · rintro done y rest _ _ e ⟨xs, ds, u, rfl, h1, h2, hu, rfl⟩
    refine lcqY rfl ?_
    dsimp only [wipe, set_s, set_z, nP]
    unfold e1_law_k54
    walk_at "r"
    refine of_take (by omega) fun b ds hb1 hb2 => ?_
    walk_at "r"
    refine of_die (by omega) (by omega) (by omega) (by omega) fun d ds hd _ => ?_
    walk_at "r"
    refine ⟨xs ++ [d], ds, _, by simp, by simp [h1], fun x hx => ?_, rfl, rfl⟩
    rcases List.mem_append.mp hx with hx | hx
    · exact h2 x hx
    · rw [List.mem_singleton.mp hx]
      exact ⟨die_ok hd hp1.2, hd.asc⟩
  rintro _ _ ⟨dice, ds, u, rfl, hd1, hd2, hu, rfl⟩
  rw [List.length_range] at hd1
  have hdice : Ds 4 dice := ds_of (by omega) fun d hd => (hd2 d hd).1
  have hasc : ∀ d ∈ dice, d.Pairwise (· ≤ ·) := fun d hd => (hd2 d hd).2
  dsimp only [back, set_s, set_z, get_s, get_z]
  walk_at "r"
  refine wp_lc nP (fun done acc ρ => ∃ (xs : List (List Int)) (ds : List Int) (u : Option Sl), acc = xs.map tupI ∧ xs.length = done.length ∧ (∀ x ∈ xs, Dok x) ∧ isRef u = false ∧ ρ = [some (.val (.list (ns.map PyData.int))), some (.own (intsO ds)), some (.val (.int f)), some (.val (.int p)), some (.val (tupT dice)), none, none, none, none, none, none, none, u, none]) ?_
  refine wp_rng1 ?_
  walk_at "r"
  refine of_take (by decide) fun n2 ds hn3 hn4 => ?_
  walk_at "r"
  obtain ⟨n2, rfl⟩ := Int.eq_ofNat_of_zero_le hn3
  refine ⟨by unfold line; omega, List.range n2, by simp [nP], by simp [line]; omega, ⟨[], ds, _, rfl, rfl, by simp, ?_, rfl⟩, ?_, ?_⟩
  · first | rfl | exact hu
  · rintro done y rest _ _ e ⟨xs, ds, u, rfl, h1, h2, hu, rfl⟩
    refine lcqY rfl ?_
    dsimp only [wipe, set_s, set_z, nP]
    unfold e2_law_k54
    walk_at "r"
    refine of_take (by omega) fun b ds hb1 hb2 => ?_
    walk_at "r"
    refine of_die (by omega) (by omega) (by omega) (by omega) fun d ds hd _ => ?_
    walk_at "r"
    refine ⟨xs ++ [d], ds, _, by simp, by simp [h1], fun x hx => ?_, rfl, rfl⟩
    rcases List.mem_append.mp hx with hx | hx
    · exact h2 x hx
    · rw [List.mem_singleton.mp hx]
      exact die_ok hd hp1.2
  rintro _ _ ⟨free, ds, u2, rfl, hf1', hf2, hu2, rfl⟩
  rw [List.length_range] at hf1'
  have hfree : Ds 3 free := ds_of (by omega) hf2
  dsimp only [back, set_s, set_z, get_s, get_z]
  walk_at "rl"
  refine of_take (by omega) fun b ds hb1 hb2 => ?_
  walk_at "rl"
  refine of_die (by omega) (by omega) (by omega) (by omega) fun die ds hdie _ => ?_
  have hdk := die_ok hdie hp1.2
  have hdp := List.length_pos_iff.mpr hdie.ne
  walk_at "ril"
  refine of_parts hdice fun ds => ?_
  walk_at "ril"
  have lf := hfree.len
  have ld := hdice.len
  refine opq rfl rfl (show fAdd (.pv (.tuple (free.map tupI))) (.pv (.tuple [tupI die])) = some (.val (tupT (free ++ [die]))) from add_tup (ys := [die]) (by rw [List.length_singleton]; unfold line; omega)) ?_
  walk_at "ril"
  refine of_parts (hfree.app (Ds.one hdk) (by rw [List.length_singleton]; omega)) fun ds => ?_
  walk_at "rl"
  refine wp_mid (fun ρ => ∃ (sh : List (List Int)) (ds : List Int), Ds 4 sh ∧ ρ = [some (.val (.list (ns.map PyData.int))), some (.own (intsO ds)), some (.val (.int f)), some (.val (.int p)), some (.val (tupT dice)), some (.val (.tuple (free.map tupI))), some (.val (tupI die)), some (.val (tupT sh)), none, none, none, none, none, none]) ?_ ?_
  · walk_at "ril"
    refine branchD (fun h => ?_) fun h => ?_
    · rw [List.length_map] at h
      walk_at "ril"
      rw [cut_map]
      have c1 := cut_le dice none (some (-1))
      have c2 : (Py.cut dice none (some (-1))).length ≤ dice.length - 1 := by
        have h := cut_len dice none (some (-1))
        simp only [sIx, if_pos (show (-1 : Int) < 0 by decide)] at h
        omega
      refine of_order (by omega) fun out ds hp => ?_
      have ho : Ds 4 out := ds_of (by rw [hp.length_eq]; omega) fun d h => hdice.ok d (cut_mem (hp.mem_iff.mp h))
      have lo : out.length ≤ 3 := by rw [hp.length_eq]; omega
      walk_at "ril"
      have hne : dice ≠ [] := fun z => by rw [z] at h; simp at h
      have hld := hdice.ok _ (List.getLast_mem hne)
      have hix2 := fIx_lastT hne
      generalize dice.getLast hne = ld1 at *
      have hll := hld.len
      refine wp_lc PyData.int (fun done acc ρ => acc = (done.map upF).map PyData.int ∧ ∃ u, isRef u = false ∧ ρ = [some (.val (.list (ns.map PyData.int))), some (.own (intsO ds)), some (.val (.int f)), some (.val (.int p)), some (.val (tupT dice)), some (.val (.tuple (free.map tupI))), some (.val (tupI die)), some (.val (tupT dice)), none, none, none, none, none, u]) ?_
      refine wp_seqI ?_
      walk_at "r"
      refine opq rfl rfl hix2 ?_
      walk_at "r"
      refine ⟨by unfold line; omega, ⟨rfl, none, rfl, rfl⟩, ?_, ?_⟩
      · rintro done y rest acc _ e ⟨rfl, u, hu, rfl⟩
        refine lcqY rfl ?_
        dsimp only [wipe, set_s, set_z]
        unfold e3_law_k54
        walk_at "r"
        exact ⟨by simp [upF], _, rfl, rfl⟩
      rintro _ _ ⟨rfl, u, hu, rfl⟩
      dsimp only [back, set_s, set_z, get_s, get_z]
      have hup : Dok (ld1.map upF) := by
        refine ⟨fun z => hld.ne (List.map_eq_nil_iff.mp z), by rw [List.length_map]; omega, fun f hf => ?_, fun f hf => ?_⟩
        · obtain ⟨x, hx, rfl⟩ := List.mem_map.mp hf
          have := hld.lo x hx
          unfold upF
          split <;> omega
        · obtain ⟨x, hx, rfl⟩ := List.mem_map.mp hf
          unfold upF
          split <;> omega
      walk_at "ril"
      refine opq rfl rfl (show fAdd (.pv (tupT out)) (.pv (.tuple [tupI (ld1.map upF)])) = some (.val (tupT (out ++ [ld1.map upF]))) from add_tup (ys := [ld1.map upF]) (by rw [List.length_singleton]; unfold line; omega)) ?_
      walk_at "ril"
      exact ⟨out ++ [ld1.map upF], ds, ho.app (Ds.one hup) (by rw [List.length_singleton]; omega), rfl⟩
    · walk_at "ril"
      exact ⟨dice, ds, hdice, rfl⟩
  rintro _ ⟨sh, ds, hsh, rfl⟩
  walk_at "rl"
  refine wp_mid (fun ρ => ∃ (ds : List Int), ρ = [some (.val (.list (ns.map PyData.int))), some (.own (intsO ds)), some (.val (.int f)), some (.val (.int p)), some (.val (tupT dice)), some (.val (.tuple (free.map tupI))), some (.val (tupI die)), some (.val (tupT sh)), none, none, none, none, none, none]) ?_ ?_
  · refine wp_for (wp_seqI ?_)
    walk_at "rl"
    refine of_order (by omega) fun out ds hp => ?_
    have ho : Ds 4 out := ds_of (by rw [hp.length_eq]; omega) fun d h => hdice.ok d (hp.mem_iff.mp h)
    walk_at "rl"
    refine wp_loop prT (fun _ ρ => ρ = [some (.val (.list (ns.map PyData.int))), some (.own (intsO ds)), some (.val (.int f)), some (.val (.int p)), some (.val (tupT dice)), some (.val (.tuple (free.map tupI))), some (.val (tupI die)), some (.val (tupT sh)), none, none, none, none, none, none]) [(dice, free), (dice, out), (dice, sh), (free, sh)] rfl ?_ ?_
    · rintro done y rest _ e rfl
      have hy : Ds 4 y.1 ∧ Ds 4 y.2 := by
        have hm : y ∈ [(dice, free), (dice, out), (dice, sh), (free, sh)] := by rw [e]; simp
        simp only [List.mem_cons, List.not_mem_nil, or_false] at hm
        rcases hm with rfl | rfl | rfl | rfl
        · exact ⟨hdice, hfree.le (by omega)⟩
        · exact ⟨hdice, ho⟩
        · exact ⟨hdice, hsh⟩
        · exact ⟨hfree.le (by omega), hsh⟩
      unfold prT
      unfold l4_law_k54
      walk_at "ril"
      refine of_with_die hy.1 hy.2 hdk (first_min hdie.asc hdp) ?_
      walk_at "ril"
      refine opq rfl rfl (fIx_int (j := 0) hdp (.inr rfl)) ?_
      walk_at "ril"
      have hd0 : Dok [die[0], 30] := by
        have h1 := hdie.lo die[0] (List.getElem_mem _)
        have h2 := hdk.hi die[0] (List.getElem_mem _)
        refine ⟨by simp, by simp, fun f hf => ?_, fun f hf => ?_⟩ <;>
        · simp only [List.mem_cons, List.not_mem_nil, or_false] at hf
          omega
      refine of_with_die (d := [die[0], 30]) hy.1 hy.2 hd0 (fun f hf => ?_) ?_
      · have h2 := hdk.hi die[0] (List.getElem_mem _)
        simp only [List.mem_cons, List.not_mem_nil, or_false] at hf
        show die[0] ≤ f
        omega
      walk_at "ril"
      rfl
    · rintro _ rfl
      walk_at "rl"
      exact ⟨ds, rfl⟩
  rintro _ ⟨ds, rfl⟩
  walk_at "ril"
  have q1 : Ds 3 (k6 ++ [die]) := ds_k6.app (Ds.one hdk) (by simp [k6])
  have q2 : Ds 3 [c6, die, c6] := ds_of (by simp) fun d hd => by
    simp only [List.mem_cons, List.not_mem_nil, or_false] at hd
    rcases hd with rfl | rfl | rfl
    · exact ds_p6.ok _ (by simp [p6, c6])
    · exact hdk
    · exact ds_p6.ok _ (by simp [p6, c6])
  have q3 : (thr (k6 ++ [die])).Perm (thr [c6, die, c6]) := by
    rw [thr_app]
    refine (addD_perm perm6.symm die).trans ?_
    rw [← thr_app]
    exact thr_perm (List.Perm.cons _ (List.Perm.swap _ _ _))
  refine of_alike (one := k6 ++ [die]) (other := [c6, die, c6]) (q1.dcs (by decide)) (q2.dcs (by decide)) (q1.lim (by decide)) (q2.lim (by decide)) ?_
  rw [alike_refl q3]
  walk_at "ril"
  have q4 : Ds 3 [c6, [1, 2]] := ds_dec (by decide)
  have q5 : Ds 3 [[2, 3], c6] := ds_dec (by decide)
  refine of_alike (one := [c6, [1, 2]]) (other := [[2, 3], c6]) (q4.dcs (by decide)) (q5.dcs (by decide)) (q4.lim (by decide)) (q5.lim (by decide)) ?_
  rw [alike_concrete (L := [2, 3, 4, 5, 6, 7, 8, 9]) (o := some 2) (by decide) (by decide +kernel) (by decide +kernel)]
  walk_at "ril"
  refine of_same .int ?_
  walk_at "ril"
  rfl
end
end Py
theorem Law_k54.holds : ∀ ns : List Int, ns.length ≤ 63 → (∀ z ∈ ns, PySem.Builtin.Int.intBits z ≤ 1048576) → ∃ os, D.d_law_k54 [.val (.list (ns.map PySem.PyData.int))] = some (.val (.bool true), os) := Py.Law_k54_holds
/-! the walk (printed by gen.py) -/
namespace Law_k54
open PySem PySem.Spec PyProof.Rows L2 Py D
def topS (i : Nat) : Stmt := PySem.Challenge.pw_nosurebet_k54_whole_dice_thrown_together.main.body.getD i (.Pass ⟨0, 0, 0, 0⟩)
section
variable {P : Program} {w : World} {K : PySem.W.Frag} {mg : Str → Option Value} {base : Heap}
abbrev s_sums_with : Stmt := topS 1
theorem sc_sums_with : FnScope ["found", "die", "more", "total", "face"] ["found", "die"] (defScope s_sums_with) := ⟨rfl, rfl, rfl, by decide +kernel, rfl, by decide +kernel, by decide +kernel⟩
theorem bi_sums_with (D : Df K mg "sums_with" s_sums_with) : Binds K D.fd ["found", "die"] [] := D.F.binds (ps := ["found", "die"]) fun _ _ _ _ _ _ us hl => match us, hl with | [_, _], _ => rfl
theorem ok_sums_with (hs : base.NoSeer) (ht : P.given.tree = none) (D_sums_with : Df K mg "sums_with" s_sums_with) : FnOk P w K mg base CX0 (41) D_sums_with.f D_sums_with.fd ["found", "die"] (spOf K 2 d_sums_with) :=
  ok_of D_sums_with.F sc_sums_with (by decide) hs ht fun cdv A outer s H E c =>
    (bss_cons (bs_set 2 c.nd be_dct0)
    (bss_cons (bs_lock 0 (bs_for c.pass c.calm (bi_keysL 0 (pv 0)) (bg_name 3 c.nd) (bss_fgt [3, 4] (bss_one (bs_for c.pass c.calm (bi_seq (be_frz (be_var 1))) (bg_name 4 c.nd) (bss_fgt [4] (bss_one (bs_dput 2 c.units (pv 2) (be_op ob_add (be_var 3) (be_var 4)) (be_op ob_add (be_dgetD c.units (be_var 2) (be_op ob_add (be_var 3) (be_var 4)) be_int) (be_dget c.units (be_var 0) (be_var 3)))))))))))
    (bss_one (bs_ret (be_var 2)))))
abbrev s_ways_of : Stmt := topS 2
theorem sc_ways_of : FnScope ["dice", "found", "die"] ["dice"] (defScope s_ways_of) := ⟨rfl, rfl, rfl, by decide +kernel, rfl, by decide +kernel, by decide +kernel⟩
theorem bi_ways_of (D : Df K mg "ways_of" s_ways_of) : Binds K D.fd ["dice"] [] := D.F.binds (ps := ["dice"]) fun _ _ _ _ _ _ us hl => match us, hl with | [_], _ => rfl
theorem ok_ways_of (hs : base.NoSeer) (ht : P.given.tree = none) (D_ways_of : Df K mg "ways_of" s_ways_of) (D_sums_with : Df K mg "sums_with" s_sums_with) (G_sums_with : FnOk P w K mg base CX0 (41) D_sums_with.f D_sums_with.fd ["found", "die"] (spOf K 2 d_sums_with)) : FnOk P w K mg base CX0 (42) D_ways_of.f D_ways_of.fd ["dice"] (spOf K 1 d_ways_of) :=
  ok_of D_ways_of.F sc_ways_of (by decide) hs ht fun cdv A outer s H E c =>
    (bss_cons (bs_set 1 c.nd be_dctC)
    (bss_cons (bs_for c.pass c.calm (bi_seq (be_frz (be_var 0))) (bg_name 2 c.nd) (bss_fgt [2] (bss_one (bs_set 1 c.nd (be_call G_sums_with (c.room.mono (by omega)) rfl D_sums_with.g D_sums_with.F.kp (bi_sums_with D_sums_with) (ba_r 1 (pv 1) (ba_v (be_var 2) ba_nil)))))))
    (bss_one (bs_ret (be_var 1)))))
abbrev s_sums : Stmt := topS 3
theorem sc_sums : FnScope ["dice", "found", "total"] ["dice"] (defScope s_sums) := ⟨rfl, rfl, rfl, by decide +kernel, rfl, by decide +kernel, by decide +kernel⟩
theorem bi_sums (D : Df K mg "sums" s_sums) : Binds K D.fd ["dice"] [] := D.F.binds (ps := ["dice"]) fun _ _ _ _ _ _ us hl => match us, hl with | [_], _ => rfl
theorem ok_sums (hs : base.NoSeer) (ht : P.given.tree = none) (D_sums : Df K mg "sums" s_sums) (D_ways_of : Df K mg "ways_of" s_ways_of) (G_ways_of : FnOk P w K mg base CX0 (42) D_ways_of.f D_ways_of.fd ["dice"] (spOf K 1 d_ways_of)) (n_sorted : mg "sorted" = none) (n_tuple : mg "tuple" = none) : FnOk P w K mg base CX0 (43) D_sums.f D_sums.fd ["dice"] (spOf K 1 d_sums) :=
  ok_of D_sums.F sc_sums (by decide) hs ht fun cdv A outer s H E c =>
    (bss_cons (bs_set 1 c.nd (be_call G_ways_of (c.room.mono (by omega)) rfl D_ways_of.g D_ways_of.F.kp (bi_ways_of D_ways_of) (ba_v (be_var 0) ba_nil)))
    (bss_one (bs_ret (be_t1 c_tuple rfl n_tuple bt_tuple (be_lcN 2 [("total", 2)] c.calm c.nd (bi_seq (be_b1 (c_sortedD c.calm) rfl n_sorted bt_sorted (be_var 1))) (blk_at (N := ["dice", "found", "total"]) (sc := defScope s_sums) rfl rfl (by decide +kernel)) (by decide) rfl (fun _ _ _ _ _ => pg_name (i := 2) c.nd rfl (.inl rfl)) (fun _ _ _ _ _ => bts_nil) (fun _ _ _ _ _ => (be_tup (bl_cons (be_var 2) (bl_cons (be_dget c.units (be_var 1) (be_var 2)) bl_nil)))))))))
abbrev s_throws : Stmt := topS 4
theorem sc_throws : FnScope ["dice", "found", "die"] ["dice"] (defScope s_throws) := ⟨rfl, rfl, rfl, by decide +kernel, rfl, by decide +kernel, by decide +kernel⟩
theorem bi_throws (D : Df K mg "throws" s_throws) : Binds K D.fd ["dice"] [] := D.F.binds (ps := ["dice"]) fun _ _ _ _ _ _ us hl => match us, hl with | [_], _ => rfl
theorem ok_throws (hs : base.NoSeer) (ht : P.given.tree = none) (D_throws : Df K mg "throws" s_throws) (n_len : mg "len" = none) : FnOk P w K mg base CX0 (41) D_throws.f D_throws.fd ["dice"] (spOf K 1 d_throws) :=
  ok_of D_throws.F sc_throws (by decide) hs ht fun cdv A outer s H E c =>
    (bss_cons (bs_set 1 c.nd be_int)
    (bss_cons (bs_for c.pass c.calm (bi_seq (be_frz (be_var 0))) (bg_name 2 c.nd) (bss_fgt [2] (bss_one (bs_aug 1 c.nd ob_imul (be_b1 c_len rfl n_len bt_len (be_var 2))))))
    (bss_one (bs_ret (be_var 1)))))
abbrev s_alike : Stmt := topS 5
theorem sc_alike : FnScope ["one", "other", "left", "right", "total"] ["one", "other"] (defScope s_alike) := ⟨rfl, rfl, rfl, by decide +kernel, rfl, by decide +kernel, by decide +kernel⟩
theorem bi_alike (D : Df K mg "alike" s_alike) : Binds K D.fd ["one", "other"] [] := D.F.binds (ps := ["one", "other"]) fun _ _ _ _ _ _ us hl => match us, hl with | [_, _], _ => rfl
theorem ok_alike (hs : base.NoSeer) (ht : P.given.tree = none) (D_alike : Df K mg "alike" s_alike) (D_ways_of : Df K mg "ways_of" s_ways_of) (G_ways_of : FnOk P w K mg base CX0 (42) D_ways_of.f D_ways_of.fd ["dice"] (spOf K 1 d_ways_of)) (D_throws : Df K mg "throws" s_throws) (G_throws : FnOk P w K mg base CX0 (41) D_throws.f D_throws.fd ["dice"] (spOf K 1 d_throws)) (n_set : mg "set" = none) (n_sorted : mg "sorted" = none) : FnOk P w K mg base CX0 (43) D_alike.f D_alike.fd ["one", "other"] (spOf K 2 d_alike) :=
  ok_of D_alike.F sc_alike (by decide) hs ht fun cdv A outer s H E c =>
    (bss_cons (bs_parN 2 3 c.calm c.nd (be_call G_ways_of (c.room.mono (by omega)) rfl D_ways_of.g D_ways_of.F.kp (bi_ways_of D_ways_of) (ba_v (be_var 0) ba_nil)) (be_call G_ways_of (c.room.mono (by omega)) rfl D_ways_of.g D_ways_of.F.kp (bi_ways_of D_ways_of) (ba_v (be_var 1) ba_nil)))
    (bss_cons (bs_for c.pass c.calm (bi_seq (be_sset c.calm rfl n_sorted rfl n_set (be_op ob_add (be_b1 (c_sortedD c.calm) rfl n_sorted bt_sorted (be_var 2)) (be_b1 (c_sortedD c.calm) rfl n_sorted bt_sorted (be_var 3))))) (bg_name 4 c.nd) (bss_fgt [4] (bss_one (bs_if (bt_cmp (ob_ne c.units) (be_op ob_mul (be_dgetD c.units (be_var 2) (be_var 4) be_int) (be_call G_throws (c.room.mono (by omega)) rfl D_throws.g D_throws.F.kp (bi_throws D_throws) (ba_v (be_var 1) ba_nil))) (be_op ob_mul (be_dgetD c.units (be_var 3) (be_var 4) be_int) (be_call G_throws (c.room.mono (by omega)) rfl D_throws.g D_throws.F.kp (bi_throws D_throws) (ba_v (be_var 0) ba_nil)))) (bss_one (bs_ret (be_var 4))) bss_nil))))
    (bss_one (bs_ret be_non))))
abbrev s_law_draws : Stmt := topS 7
theorem sc_law_draws : FnScope ["script", "many", "cells", "rest", "draws", "k", "at", "once", "cell"] ["script", "many"] (defScope s_law_draws) := ⟨rfl, rfl, rfl, by decide +kernel, rfl, by decide +kernel, by decide +kernel⟩
theorem bi_law_draws (D : Df K mg "_law_draws" s_law_draws) : Binds K D.fd ["script", "many"] [] := D.F.binds (ps := ["script", "many"]) fun _ _ _ _ _ _ us hl => match us, hl with | [_, _], _ => rfl
theorem ok_law_draws (hs : base.NoSeer) (ht : P.given.tree = none) (D_law_draws : Df K mg "_law_draws" s_law_draws) (n_int : mg "int" = none) (n_len : mg "len" = none) (n_list : mg "list" = none) (n_range : mg "range" = none) : FnOk P w K mg base CX0 (41) D_law_draws.f D_law_draws.fd ["script", "many"] (spOf K 2 d_law_draws) :=
  ok_of D_law_draws.F sc_law_draws (by decide) hs ht fun cdv A outer s H E c =>
    (bss_cons (bs_setLcN 2 8 [("cell", 8)] c.calm c.nd rfl rfl (bi_seq (be_frz (be_var 0))) (blk_at (N := ["script", "many", "cells", "rest", "draws", "k", "at", "once", "cell"]) (sc := defScope s_law_draws) rfl rfl (by decide +kernel)) (by decide) rfl (sw_true rfl rfl rfl (by decide +kernel)) (fun _ _ _ _ _ => pg_name (i := 8) c.nd rfl (.inl rfl)) (fun _ _ _ _ _ => bts_nil) (fun _ _ _ _ _ => (be_t1 c_int rfl n_int bt_int (be_var 8))))
    (bss_cons (bs_if (bt_cmp (ob_eq c.units) (be_b1 c_len rfl n_len bt_len (be_var 2)) be_int) (bss_one (bs_expr (be_append 2 (pv 2) be_int))) bss_nil)
    (bss_cons (bs_set 3 c.nd (be_t1 c_list rfl n_list bt_list (be_var 2)))
    (bss_cons (bs_set 4 c.nd (be_lst bl_nil))
    (bss_cons (bs_for c.pass c.calm (bi_rng1 rfl n_range (be_var 1)) (bg_name 5 c.nd) (bss_fgt [5, 6, 7] (bss_cons (bs_set 6 c.nd (be_op ob_mod (be_var 5) (be_b1 c_len rfl n_len bt_len (be_var 2))))
    (bss_one (bs_if (bt_cmp ob_ge (be_ix (be_var 2) (be_var 6)) (be_op ob_pow be_int be_int)) (bss_cons (bs_expr (be_append 4 (pv 4) (be_op ob_mod (be_t1 c_int rfl n_int bt_int (be_ix (be_var 3) (be_var 6))) be_int)))
    (bss_one (bs_setIx 3 (pv 3) (be_var 6) (be_op (ob_div c.div) (be_ix (be_var 3) (be_var 6)) be_int)))) (bss_cons (bs_set 7 c.nd (be_op ob_mod (be_t1 c_int rfl n_int bt_int (be_op ob_add (be_op ob_add (be_op ob_mul (be_ix (be_var 2) (be_var 6)) be_int) (be_op ob_mul (be_var 5) be_int)) be_int)) be_int))
    (bss_one (bs_expr (be_append 4 (pv 4) (be_op ob_mod (be_t1 c_int rfl n_int bt_int (be_op ob_add (be_op ob_add (be_op ob_mul (be_var 7) (be_var 7)) (be_op ob_mul be_int (be_var 7))) (be_var 5))) be_int))))))))))
    (bss_cons (bs_expr (be_reverse 4 (pv 4)))
    (bss_one (bs_ret (be_var 4)))))))))
abbrev s_law_take : Stmt := topS 8
theorem sc_law_take : FnScope ["draws", "many"] ["draws", "many"] (defScope s_law_take) := ⟨rfl, rfl, rfl, by decide +kernel, rfl, by decide +kernel, by decide +kernel⟩
theorem bi_law_take (D : Df K mg "_law_take" s_law_take) : Binds K D.fd ["draws", "many"] [] := D.F.binds (ps := ["draws", "many"]) fun _ _ _ _ _ _ us hl => match us, hl with | [_, _], _ => rfl
theorem ok_law_take (hs : base.NoSeer) (ht : P.given.tree = none) (D_law_take : Df K mg "_law_take" s_law_take) (n_int : mg "int" = none) (n_len : mg "len" = none) : FnOk P w K mg base CX0 (41) D_law_take.f D_law_take.fd ["draws", "many"] (spOf K 2 d_law_take) :=
  ok_of D_law_take.F sc_law_take (by decide) hs ht fun cdv A outer s H E c =>
    (bss_cons (bs_if (bt_cmp (ob_eq c.units) (be_b1 c_len rfl n_len bt_len (be_var 0)) be_int) (bss_one (bs_ret be_int)) bss_nil)
    (bss_one (bs_ret (be_op ob_mod (be_t1 c_int rfl n_int bt_int (be_pop 0 (pv 0))) (be_var 1)))))
abbrev s_law_same : Stmt := topS 9
theorem sc_law_same : FnScope ["actual", "due", "k"] ["actual", "due"] (defScope s_law_same) := ⟨rfl, rfl, rfl, by decide +kernel, rfl, by decide +kernel, by decide +kernel⟩
theorem bi_law_same (D : Df K mg "_law_same" s_law_same) : Binds K D.fd ["actual", "due"] [] := D.F.binds (ps := ["actual", "due"]) fun _ _ _ _ _ _ us hl => match us, hl with | [_, _], _ => rfl
theorem ok_law_same (hs : base.NoSeer) (ht : P.given.tree = none) (D_law_same : Df K mg "_law_same" s_law_same) (n_bool : mg "bool" = none) (n_int : mg "int" = none) (n_isinstance : mg "isinstance" = none) (n_len : mg "len" = none) (n_range : mg "range" = none) (n_str : mg "str" = none) (n_tuple : mg "tuple" = none) : ∀ n : Nat, FnOk P w K mg base CX0 (40 + n) D_law_same.f D_law_same.fd ["actual", "due"] (spOf K 2 (d_law_same n))
  | 0 => ok_none rfl
  | n + 1 => by
    have G_law_same := ok_law_same hs ht D_law_same n_bool n_int n_isinstance n_len n_range n_str n_tuple n
    exact ok_of (k := 40 + n) D_law_same.F sc_law_same (by omega) hs ht fun cdv A outer s H E c =>
    (bss_cons (bs_if (bt_cmp ob_is (be_var 1) be_non) (bss_one (bs_ret (be_cmp ob_is (be_var 0) be_non))) bss_nil)
    (bss_cons (bs_if (bt_tru (be_isi .bool rfl n_isinstance bt_isinstance rfl n_bool bt_bool (be_var 1))) (bss_one (bs_ret (be_and (be_isi .bool rfl n_isinstance bt_isinstance rfl n_bool bt_bool (be_var 0)) (be_one (be_cmp (ob_eq c.units) (be_var 0) (be_var 1)))))) bss_nil)
    (bss_cons (bs_if (bt_tru (be_isi .int rfl n_isinstance bt_isinstance rfl n_int bt_int (be_var 1))) (bss_one (bs_ret (be_and (be_isi .int rfl n_isinstance bt_isinstance rfl n_int bt_int (be_var 0)) (be_and (be_not (be_isi .bool rfl n_isinstance bt_isinstance rfl n_bool bt_bool (be_var 0))) (be_one (be_cmp (ob_eq c.units) (be_var 0) (be_var 1))))))) bss_nil)
    (bss_cons (bs_if (bt_tru (be_isi .str rfl n_isinstance bt_isinstance rfl n_str bt_str (be_var 1))) (bss_one (bs_ret (be_and (be_isi .str rfl n_isinstance bt_isinstance rfl n_str bt_str (be_var 0)) (be_one (be_cmp (ob_eq c.units) (be_var 0) (be_var 1)))))) bss_nil)
    (bss_cons (bs_if (bt_w (bw_or (bt_not (bt_tru (be_isi .tuple rfl n_isinstance bt_isinstance rfl n_tuple bt_tuple (be_var 0)))) (bw_or1 (bt_cmp (ob_ne c.units) (be_b1 c_len rfl n_len bt_len (be_var 0)) (be_b1 c_len rfl n_len bt_len (be_var 1)))))) (bss_one (bs_ret be_bl)) bss_nil)
    (bss_cons (bs_for c.pass c.calm (bi_rng1 rfl n_range (be_b1 c_len rfl n_len bt_len (be_var 1))) (bg_name 2 c.nd) (bss_fgt [2] (bss_one (bs_if (bt_not (bt_tru (be_call G_law_same c.room rfl D_law_same.g D_law_same.F.kp (bi_law_same D_law_same) (ba_v (be_ix (be_var 0) (be_var 2)) (ba_v (be_ix (be_var 1) (be_var 2)) ba_nil))))) (bss_one (bs_ret be_bl)) bss_nil))))
    (bss_one (bs_ret be_bl))))))))
abbrev s_law_die : Stmt := topS 10
theorem sc_law_die : FnScope ["draws", "faces", "pips", "wide", "low", "k"] ["draws", "faces", "pips"] (defScope s_law_die) := ⟨rfl, rfl, rfl, by decide +kernel, rfl, by decide +kernel, by decide +kernel⟩
theorem bi_law_die (D : Df K mg "_law_die" s_law_die) : Binds K D.fd ["draws", "faces", "pips"] [] := D.F.binds (ps := ["draws", "faces", "pips"]) fun _ _ _ _ _ _ us hl => match us, hl with | [_, _, _], _ => rfl
theorem ok_law_die (hs : base.NoSeer) (ht : P.given.tree = none) (D_law_die : Df K mg "_law_die" s_law_die) (D_law_take : Df K mg "_law_take" s_law_take) (G_law_take : FnOk P w K mg base CX0 (41) D_law_take.f D_law_take.fd ["draws", "many"] (spOf K 2 d_law_take)) (n_min : mg "min" = none) (n_range : mg "range" = none) (n_sorted : mg "sorted" = none) (n_tuple : mg "tuple" = none) : FnOk P w K mg base CX0 (42) D_law_die.f D_law_die.fd ["draws", "faces", "pips"] (spOf K 3 d_law_die) :=
  ok_of D_law_die.F sc_law_die (by decide) hs ht fun cdv A outer s H E c =>
    (bss_cons (bs_set 3 c.nd (be_var 2))
    (bss_cons (bs_if (bt_cmp (ob_eq c.units) (be_call G_law_take (c.room.mono (by omega)) rfl D_law_take.g D_law_take.F.kp (bi_law_take D_law_take) (ba_r 0 (pv 0) (ba_v be_int ba_nil))) be_int) (bss_one (bs_set 3 c.nd (be_b2 (c_min2 c.calm) rfl n_min bt_min (be_var 2) be_int))) bss_nil)
    (bss_cons (bs_set 4 c.nd (be_op ob_add be_int (be_call G_law_take (c.room.mono (by omega)) rfl D_law_take.g D_law_take.F.kp (bi_law_take D_law_take) (ba_r 0 (pv 0) (ba_v (be_op ob_add (be_op ob_sub (be_var 2) (be_var 3)) be_int) ba_nil)))))
    (bss_one (bs_ret (be_t1 c_tuple rfl n_tuple bt_tuple (be_b1 c_sorted rfl n_sorted bt_sorted (be_lcN 5 [("k", 5)] c.calm c.nd (bi_rng1 rfl n_range (be_var 1)) (blk_at (N := ["draws", "faces", "pips", "wide", "low", "k"]) (sc := defScope s_law_die) rfl rfl (by decide +kernel)) (by decide) rfl (fun _ _ _ _ _ => pg_name (i := 5) c.nd rfl (.inl rfl)) (fun _ _ _ _ _ => bts_nil) (fun _ _ _ _ _ => (be_op ob_add (be_var 4) (be_call G_law_take (c.room.mono (by omega)) rfl D_law_take.g D_law_take.F.kp (bi_law_take D_law_take) (ba_r 0 (pv 0) (ba_v (be_var 3) ba_nil)))))))))))))
abbrev s_law_ways : Stmt := topS 11
theorem sc_law_ways : FnScope ["dice", "found", "die", "more", "reached", "face"] ["dice"] (defScope s_law_ways) := ⟨rfl, rfl, rfl, by decide +kernel, rfl, by decide +kernel, by decide +kernel⟩
theorem bi_law_ways (D : Df K mg "_law_ways" s_law_ways) : Binds K D.fd ["dice"] [] := D.F.binds (ps := ["dice"]) fun _ _ _ _ _ _ us hl => match us, hl with | [_], _ => rfl
theorem ok_law_ways (hs : base.NoSeer) (ht : P.given.tree = none) (D_law_ways : Df K mg "_law_ways" s_law_ways) (n_sorted : mg "sorted" = none) : FnOk P w K mg base CX0 (41) D_law_ways.f D_law_ways.fd ["dice"] (spOf K 1 d_law_ways) :=
  ok_of D_law_ways.F sc_law_ways (by decide) hs ht fun cdv A outer s H E c =>
    (bss_cons (bs_set 1 c.nd be_dctC)
    (bss_cons (bs_for c.pass c.calm (bi_seq (be_frz (be_var 0))) (bg_name 2 c.nd) (bss_fgt [2, 3, 4, 5] (bss_cons (bs_set 3 c.nd be_dct0)
    (bss_cons (bs_for c.pass c.calm (bi_seq (be_b1 (c_sortedD c.calm) rfl n_sorted bt_sorted (be_var 1))) (bg_name 4 c.nd) (bss_fgt [4, 5] (bss_one (bs_for c.pass c.calm (bi_seq (be_frz (be_var 2))) (bg_name 5 c.nd) (bss_fgt [5] (bss_one (bs_dput 3 c.units (pv 3) (be_op ob_add (be_var 4) (be_var 5)) (be_op ob_add (be_dgetD c.units (be_var 3) (be_op ob_add (be_var 4) (be_var 5)) be_int) (be_dget c.units (be_var 1) (be_var 4))))))))))
    (bss_one (bs_move 1 3 c.nd (pv 3)))))))
    (bss_one (bs_ret (be_var 1)))))
abbrev s_law_sums : Stmt := topS 12
theorem sc_law_sums : FnScope ["dice", "found", "reached"] ["dice"] (defScope s_law_sums) := ⟨rfl, rfl, rfl, by decide +kernel, rfl, by decide +kernel, by decide +kernel⟩
theorem bi_law_sums (D : Df K mg "_law_sums" s_law_sums) : Binds K D.fd ["dice"] [] := D.F.binds (ps := ["dice"]) fun _ _ _ _ _ _ us hl => match us, hl with | [_], _ => rfl
theorem ok_law_sums (hs : base.NoSeer) (ht : P.given.tree = none) (D_law_sums : Df K mg "_law_sums" s_law_sums) (D_law_ways : Df K mg "_law_ways" s_law_ways) (G_law_ways : FnOk P w K mg base CX0 (41) D_law_ways.f D_law_ways.fd ["dice"] (spOf K 1 d_law_ways)) (n_sorted : mg "sorted" = none) (n_tuple : mg "tuple" = none) : FnOk P w K mg base CX0 (42) D_law_sums.f D_law_sums.fd ["dice"] (spOf K 1 d_law_sums) :=
  ok_of D_law_sums.F sc_law_sums (by decide) hs ht fun cdv A outer s H E c =>
    (bss_cons (bs_set 1 c.nd (be_call G_law_ways (c.room.mono (by omega)) rfl D_law_ways.g D_law_ways.F.kp (bi_law_ways D_law_ways) (ba_v (be_var 0) ba_nil)))
    (bss_one (bs_ret (be_t1 c_tuple rfl n_tuple bt_tuple (be_lcN 2 [("reached", 2)] c.calm c.nd (bi_seq (be_b1 (c_sortedD c.calm) rfl n_sorted bt_sorted (be_var 1))) (blk_at (N := ["dice", "found", "reached"]) (sc := defScope s_law_sums) rfl rfl (by decide +kernel)) (by decide) rfl (fun _ _ _ _ _ => pg_name (i := 2) c.nd rfl (.inl rfl)) (fun _ _ _ _ _ => bts_nil) (fun _ _ _ _ _ => (be_tup (bl_cons (be_var 2) (bl_cons (be_dget c.units (be_var 1) (be_var 2)) bl_nil)))))))))
abbrev s_law_order : Stmt := topS 13
theorem sc_law_order : FnScope ["draws", "row", "left", "found", "k"] ["draws", "row"] (defScope s_law_order) := ⟨rfl, rfl, rfl, by decide +kernel, rfl, by decide +kernel, by decide +kernel⟩
theorem bi_law_order (D : Df K mg "_law_order" s_law_order) : Binds K D.fd ["draws", "row"] [] := D.F.binds (ps := ["draws", "row"]) fun _ _ _ _ _ _ us hl => match us, hl with | [_, _], _ => rfl
theorem ok_law_order (hs : base.NoSeer) (ht : P.given.tree = none) (D_law_order : Df K mg "_law_order" s_law_order) (D_law_take : Df K mg "_law_take" s_law_take) (G_law_take : FnOk P w K mg base CX0 (41) D_law_take.f D_law_take.fd ["draws", "many"] (spOf K 2 d_law_take)) (n_len : mg "len" = none) (n_list : mg "list" = none) (n_range : mg "range" = none) (n_tuple : mg "tuple" = none) : FnOk P w K mg base CX0 (42) D_law_order.f D_law_order.fd ["draws", "row"] (spOf K 2 d_law_order) :=
  ok_of D_law_order.F sc_law_order (by decide) hs ht fun cdv A outer s H E c =>
    (bss_cons (bs_set 2 c.nd (be_t1 c_list rfl n_list bt_list (be_var 1)))
    (bss_cons (bs_set 3 c.nd (be_lst bl_nil))
    (bss_cons (bs_for c.pass c.calm (bi_rng1 rfl n_range (be_b1 c_len rfl n_len bt_len (be_var 1))) (bg_name 4 c.nd) (bss_fgt [4] (bss_one (bs_expr (be_append 3 (pv 3) (be_popAt 2 (pv 2) (be_call G_law_take (c.room.mono (by omega)) rfl D_law_take.g D_law_take.F.kp (bi_law_take D_law_take) (ba_r 0 (pv 0) (ba_v (be_b1 c_len rfl n_len bt_len (be_var 2)) ba_nil)))))))))
    (bss_one (bs_ret (be_t1 c_tuple rfl n_tuple bt_tuple (be_var 3)))))))
abbrev s_law_is_sums : Stmt := topS 14
theorem sc_law_is_sums : FnScope ["told", "k", "pair", "number"] ["told"] (defScope s_law_is_sums) := ⟨rfl, rfl, rfl, by decide +kernel, rfl, by decide +kernel, by decide +kernel⟩
theorem bi_law_is_sums (D : Df K mg "_law_is_sums" s_law_is_sums) : Binds K D.fd ["told"] [] := D.F.binds (ps := ["told"]) fun _ _ _ _ _ _ us hl => match us, hl with | [_], _ => rfl
theorem ok_law_is_sums (hs : base.NoSeer) (ht : P.given.tree = none) (D_law_is_sums : Df K mg "_law_is_sums" s_law_is_sums) (n_bool : mg "bool" = none) (n_int : mg "int" = none) (n_isinstance : mg "isinstance" = none) (n_len : mg "len" = none) (n_range : mg "range" = none) (n_tuple : mg "tuple" = none) : FnOk P w K mg base CX0 (41) D_law_is_sums.f D_law_is_sums.fd ["told"] (spOf K 1 d_law_is_sums) :=
  ok_of D_law_is_sums.F sc_law_is_sums (by decide) hs ht fun cdv A outer s H E c =>
    (bss_cons (bs_if (bt_not (bt_tru (be_isi .tuple rfl n_isinstance bt_isinstance rfl n_tuple bt_tuple (be_var 0)))) (bss_one (bs_ret be_bl)) bss_nil)
    (bss_cons (bs_for c.pass c.calm (bi_rng1 rfl n_range (be_b1 c_len rfl n_len bt_len (be_var 0))) (bg_name 1 c.nd) (bss_fgt [1, 2, 3] (bss_cons (bs_set 2 c.nd (be_ix (be_var 0) (be_var 1)))
    (bss_cons (bs_if (bt_w (bw_or (bt_not (bt_tru (be_isi .tuple rfl n_isinstance bt_isinstance rfl n_tuple bt_tuple (be_var 2)))) (bw_or1 (bt_cmp (ob_ne c.units) (be_b1 c_len rfl n_len bt_len (be_var 2)) be_int)))) (bss_one (bs_ret be_bl)) bss_nil)
    (bss_cons (bs_for c.pass c.calm (bi_seq (be_frz (be_var 2))) (bg_name 3 c.nd) (bss_fgt [3] (bss_one (bs_if (bt_w (bw_or (bt_not (bt_tru (be_isi .int rfl n_isinstance bt_isinstance rfl n_int bt_int (be_var 3)))) (bw_or1 (bt_tru (be_isi .bool rfl n_isinstance bt_isinstance rfl n_bool bt_bool (be_var 3)))))) (bss_one (bs_ret be_bl)) bss_nil))))
    (bss_one (bs_if (bt_w (bw_or (bt_cmp ob_lt (be_ix (be_var 2) be_int) be_int) (bw_or1 (bt_w (bw_and (bt_cmp ob_gt (be_var 1) be_int) (bw_and1 (bt_cmp ob_le (be_ix (be_var 2) be_int) (be_ix (be_ix (be_var 0) (be_op ob_sub (be_var 1) be_int)) be_int)))))))) (bss_one (bs_ret be_bl)) bss_nil)))))))
    (bss_one (bs_ret be_bl))))
abbrev s_law_joined_k54 : Stmt := topS 15
theorem sc_law_joined_k54 : FnScope ["one", "other", "found", "reached", "ways", "more", "again"] ["one", "other"] (defScope s_law_joined_k54) := ⟨rfl, rfl, rfl, by decide +kernel, rfl, by decide +kernel, by decide +kernel⟩
theorem bi_law_joined_k54 (D : Df K mg "_law_joined" s_law_joined_k54) : Binds K D.fd ["one", "other"] [] := D.F.binds (ps := ["one", "other"]) fun _ _ _ _ _ _ us hl => match us, hl with | [_, _], _ => rfl
theorem ok_law_joined_k54 (hs : base.NoSeer) (ht : P.given.tree = none) (D_law_joined_k54 : Df K mg "_law_joined" s_law_joined_k54) (n_sorted : mg "sorted" = none) (n_tuple : mg "tuple" = none) : FnOk P w K mg base CX0 (41) D_law_joined_k54.f D_law_joined_k54.fd ["one", "other"] (spOf K 2 d_law_joined_k54) :=
  ok_of D_law_joined_k54.F sc_law_joined_k54 (by decide) hs ht fun cdv A outer s H E c =>
    (bss_cons (bs_set 2 c.nd be_dct0)
    (bss_cons (bs_for c.pass c.calm (bi_seq (be_frz (be_var 0))) (bg_tup c.calm (bgs_cons 3 c.nd (bgs_cons 4 c.nd bgs_nil))) (bss_fgt [4, 5, 6] (bss_one (bs_for c.pass c.calm (bi_seq (be_frz (be_var 1))) (bg_tup c.calm (bgs_cons 5 c.nd (bgs_cons 6 c.nd bgs_nil))) (bss_fgt [5, 6] (bss_one (bs_dput 2 c.units (pv 2) (be_op ob_add (be_var 3) (be_var 5)) (be_op ob_add (be_dgetD c.units (be_var 2) (be_op ob_add (be_var 3) (be_var 5)) be_int) (be_op ob_mul (be_var 4) (be_var 6))))))))))
    (bss_one (bs_ret (be_t1 c_tuple rfl n_tuple bt_tuple (be_lcN 3 [("reached", 3)] c.calm c.nd (bi_seq (be_b1 (c_sortedD c.calm) rfl n_sorted bt_sorted (be_var 2))) (blk_at (N := ["one", "other", "found", "reached", "ways", "more", "again"]) (sc := defScope s_law_joined_k54) rfl rfl (by decide +kernel)) (by decide) rfl (fun _ _ _ _ _ => pg_name (i := 3) c.nd rfl (.inl rfl)) (fun _ _ _ _ _ => bts_nil) (fun _ _ _ _ _ => (be_tup (bl_cons (be_var 3) (bl_cons (be_dget c.units (be_var 2) (be_var 3)) bl_nil))))))))))
abbrev s_law_parts_are_right_k54 : Stmt := topS 16
theorem sc_law_parts_are_right_k54 : FnScope ["draws", "dice", "told", "order", "at", "one", "other"] ["draws", "dice"] (defScope s_law_parts_are_right_k54) := ⟨rfl, rfl, rfl, by decide +kernel, rfl, by decide +kernel, by decide +kernel⟩
theorem bi_law_parts_are_right_k54 (D : Df K mg "_law_parts_are_right" s_law_parts_are_right_k54) : Binds K D.fd ["draws", "dice"] [] := D.F.binds (ps := ["draws", "dice"]) fun _ _ _ _ _ _ us hl => match us, hl with | [_, _], _ => rfl
theorem ok_law_parts_are_right_k54 (hs : base.NoSeer) (ht : P.given.tree = none) (D_law_parts_are_right_k54 : Df K mg "_law_parts_are_right" s_law_parts_are_right_k54) (D_sums : Df K mg "sums" s_sums) (G_sums : FnOk P w K mg base CX0 (43) D_sums.f D_sums.fd ["dice"] (spOf K 1 d_sums)) (D_law_order : Df K mg "_law_order" s_law_order) (G_law_order : FnOk P w K mg base CX0 (42) D_law_order.f D_law_order.fd ["draws", "row"] (spOf K 2 d_law_order)) (D_law_take : Df K mg "_law_take" s_law_take) (G_law_take : FnOk P w K mg base CX0 (41) D_law_take.f D_law_take.fd ["draws", "many"] (spOf K 2 d_law_take)) (D_law_same : Df K mg "_law_same" s_law_same) (G_law_same : FnOk P w K mg base CX0 (80) D_law_same.f D_law_same.fd ["actual", "due"] (spOf K 2 (d_law_same 40))) (D_law_sums : Df K mg "_law_sums" s_law_sums) (G_law_sums : FnOk P w K mg base CX0 (42) D_law_sums.f D_law_sums.fd ["dice"] (spOf K 1 d_law_sums)) (D_law_is_sums : Df K mg "_law_is_sums" s_law_is_sums) (G_law_is_sums : FnOk P w K mg base CX0 (41) D_law_is_sums.f D_law_is_sums.fd ["told"] (spOf K 1 d_law_is_sums)) (D_law_joined_k54 : Df K mg "_law_joined" s_law_joined_k54) (G_law_joined_k54 : FnOk P w K mg base CX0 (41) D_law_joined_k54.f D_law_joined_k54.fd ["one", "other"] (spOf K 2 d_law_joined_k54)) (D_alike : Df K mg "alike" s_alike) (G_alike : FnOk P w K mg base CX0 (43) D_alike.f D_alike.fd ["one", "other"] (spOf K 2 d_alike)) (n_len : mg "len" = none) : FnOk P w K mg base CX0 (81) D_law_parts_are_right_k54.f D_law_parts_are_right_k54.fd ["draws", "dice"] (spOf K 2 d_law_parts_are_right_k54) :=
  ok_of D_law_parts_are_right_k54.F sc_law_parts_are_right_k54 (by decide) hs ht fun cdv A outer s H E c =>
    (bss_cons (bs_set 2 c.nd (be_call G_sums (c.room.mono (by omega)) rfl D_sums.g D_sums.F.kp (bi_sums D_sums) (ba_v (be_var 1) ba_nil)))
    (bss_cons (bs_if (bt_not (bt_tru (be_call G_law_same (c.room.mono (by omega)) rfl D_law_same.g D_law_same.F.kp (bi_law_same D_law_same) (ba_v (be_var 2) (ba_v (be_call G_law_sums (c.room.mono (by omega)) rfl D_law_sums.g D_law_sums.F.kp (bi_law_sums D_law_sums) (ba_v (be_var 1) ba_nil)) ba_nil))))) (bss_one (bs_ret be_bl)) bss_nil)
    (bss_cons (bs_set 3 c.nd (be_call G_law_order (c.room.mono (by omega)) rfl D_law_order.g D_law_order.F.kp (bi_law_order D_law_order) (ba_r 0 (pv 0) (ba_v (be_var 1) ba_nil))))
    (bss_cons (bs_set 4 c.nd (be_call G_law_take (c.room.mono (by omega)) rfl D_law_take.g D_law_take.F.kp (bi_law_take D_law_take) (ba_r 0 (pv 0) (ba_v (be_op ob_add (be_b1 c_len rfl n_len bt_len (be_var 1)) be_int) ba_nil))))
    (bss_cons (bs_set 5 c.nd (be_call G_sums (c.room.mono (by omega)) rfl D_sums.g D_sums.F.kp (bi_sums D_sums) (ba_v (be_sl (be_var 3) bo_none (bo_some (be_var 4))) ba_nil)))
    (bss_cons (bs_set 6 c.nd (be_call G_sums (c.room.mono (by omega)) rfl D_sums.g D_sums.F.kp (bi_sums D_sums) (ba_v (be_sl (be_var 3) (bo_some (be_var 4)) bo_none) ba_nil)))
    (bss_cons (bs_if (bt_w (bw_or (bt_not (bt_tru (be_call G_law_is_sums (c.room.mono (by omega)) rfl D_law_is_sums.g D_law_is_sums.F.kp (bi_law_is_sums D_law_is_sums) (ba_v (be_var 5) ba_nil)))) (bw_or (bt_not (bt_tru (be_call G_law_is_sums (c.room.mono (by omega)) rfl D_law_is_sums.g D_law_is_sums.F.kp (bi_law_is_sums D_law_is_sums) (ba_v (be_var 6) ba_nil)))) (bw_or1 (bt_not (bt_tru (be_call G_law_same (c.room.mono (by omega)) rfl D_law_same.g D_law_same.F.kp (bi_law_same D_law_same) (ba_v (be_call G_sums (c.room.mono (by omega)) rfl D_sums.g D_sums.F.kp (bi_sums D_sums) (ba_v (be_var 3) ba_nil)) (ba_v (be_var 2) ba_nil))))))))) (bss_one (bs_ret be_bl)) bss_nil)
    (bss_one (bs_ret (be_and (be_cmp (ob_eq c.units) (be_call G_law_joined_k54 (c.room.mono (by omega)) rfl D_law_joined_k54.g D_law_joined_k54.F.kp (bi_law_joined_k54 D_law_joined_k54) (ba_v (be_var 5) (ba_v (be_var 6) ba_nil))) (be_var 2)) (be_one (be_cmp ob_is (be_call G_alike (c.room.mono (by omega)) rfl D_alike.g D_alike.F.kp (bi_alike D_alike) (ba_v (be_var 3) (ba_v (be_var 1) ba_nil))) be_non))))))))))))
abbrev s_law_with_die_is_right : Stmt := topS 17
theorem sc_law_with_die_is_right : FnScope ["one", "other", "die", "before", "behind"] ["one", "other", "die"] (defScope s_law_with_die_is_right) := ⟨rfl, rfl, rfl, by decide +kernel, rfl, by decide +kernel, by decide +kernel⟩
theorem bi_law_with_die_is_right (D : Df K mg "_law_with_die_is_right" s_law_with_die_is_right) : Binds K D.fd ["one", "other", "die"] [] := D.F.binds (ps := ["one", "other", "die"]) fun _ _ _ _ _ _ us hl => match us, hl with | [_, _, _], _ => rfl
theorem ok_law_with_die_is_right (hs : base.NoSeer) (ht : P.given.tree = none) (D_law_with_die_is_right : Df K mg "_law_with_die_is_right" s_law_with_die_is_right) (D_alike : Df K mg "alike" s_alike) (G_alike : FnOk P w K mg base CX0 (43) D_alike.f D_alike.fd ["one", "other"] (spOf K 2 d_alike)) (D_law_same : Df K mg "_law_same" s_law_same) (G_law_same : FnOk P w K mg base CX0 (80) D_law_same.f D_law_same.fd ["actual", "due"] (spOf K 2 (d_law_same 40))) (n_bool : mg "bool" = none) (n_int : mg "int" = none) (n_isinstance : mg "isinstance" = none) : FnOk P w K mg base CX0 (81) D_law_with_die_is_right.f D_law_with_die_is_right.fd ["one", "other", "die"] (spOf K 3 d_law_with_die_is_right) :=
  ok_of D_law_with_die_is_right.F sc_law_with_die_is_right (by decide) hs ht fun cdv A outer s H E c =>
    (bss_cons (bs_set 3 c.nd (be_call G_alike (c.room.mono (by omega)) rfl D_alike.g D_alike.F.kp (bi_alike D_alike) (ba_v (be_var 0) (ba_v (be_var 1) ba_nil))))
    (bss_cons (bs_set 4 c.nd (be_call G_alike (c.room.mono (by omega)) rfl D_alike.g D_alike.F.kp (bi_alike D_alike) (ba_v (be_op ob_add (be_var 0) (be_tup (bl_cons (be_var 2) bl_nil))) (ba_v (be_op ob_add (be_tup (bl_cons (be_var 2) bl_nil)) (be_var 1)) ba_nil))))
    (bss_cons (bs_if (bt_cmp ob_is (be_var 3) be_non) (bss_one (bs_ret (be_cmp ob_is (be_var 4) be_non))) bss_nil)
    (bss_cons (bs_if (bt_w (bw_or (bt_not (bt_tru (be_isi .int rfl n_isinstance bt_isinstance rfl n_int bt_int (be_var 3)))) (bw_or1 (bt_tru (be_isi .bool rfl n_isinstance bt_isinstance rfl n_bool bt_bool (be_var 3)))))) (bss_one (bs_ret be_bl)) bss_nil)
    (bss_one (bs_ret (be_call G_law_same (c.room.mono (by omega)) rfl D_law_same.g D_law_same.F.kp (bi_law_same D_law_same) (ba_v (be_var 4) (ba_v (be_op ob_add (be_var 3) (be_ix (be_var 2) be_int)) ba_nil)))))))))
abbrev s_law_k54 : Stmt := topS 18
theorem sc_law_k54 : FnScope ["script", "draws", "faces", "pips", "dice", "others", "die", "shifted", "one", "other", "known", "common", "k", "face"] ["script"] (defScope s_law_k54) := ⟨rfl, rfl, rfl, by decide +kernel, rfl, by decide +kernel, by decide +kernel⟩
theorem bi_law_k54 (D : Df K mg "law" s_law_k54) : Binds K D.fd ["script"] [] := D.F.binds (ps := ["script"]) fun _ _ _ _ _ _ us hl => match us, hl with | [_], _ => rfl
theorem ok_law_k54 (hs : base.NoSeer) (ht : P.given.tree = none) (D_law_k54 : Df K mg "law" s_law_k54) (D_law_draws : Df K mg "_law_draws" s_law_draws) (G_law_draws : FnOk P w K mg base CX0 (41) D_law_draws.f D_law_draws.fd ["script", "many"] (spOf K 2 d_law_draws)) (D_law_die : Df K mg "_law_die" s_law_die) (G_law_die : FnOk P w K mg base CX0 (42) D_law_die.f D_law_die.fd ["draws", "faces", "pips"] (spOf K 3 d_law_die)) (D_law_same : Df K mg "_law_same" s_law_same) (G_law_same : FnOk P w K mg base CX0 (80) D_law_same.f D_law_same.fd ["actual", "due"] (spOf K 2 (d_law_same 40))) (D_law_take : Df K mg "_law_take" s_law_take) (G_law_take : FnOk P w K mg base CX0 (41) D_law_take.f D_law_take.fd ["draws", "many"] (spOf K 2 d_law_take)) (D_alike : Df K mg "alike" s_alike) (G_alike : FnOk P w K mg base CX0 (43) D_alike.f D_alike.fd ["one", "other"] (spOf K 2 d_alike)) (D_law_parts_are_right_k54 : Df K mg "_law_parts_are_right" s_law_parts_are_right_k54) (G_law_parts_are_right_k54 : FnOk P w K mg base CX0 (81) D_law_parts_are_right_k54.f D_law_parts_are_right_k54.fd ["draws", "dice"] (spOf K 2 d_law_parts_are_right_k54)) (D_law_order : Df K mg "_law_order" s_law_order) (G_law_order : FnOk P w K mg base CX0 (42) D_law_order.f D_law_order.fd ["draws", "row"] (spOf K 2 d_law_order)) (D_law_with_die_is_right : Df K mg "_law_with_die_is_right" s_law_with_die_is_right) (G_law_with_die_is_right : FnOk P w K mg base CX0 (81) D_law_with_die_is_right.f D_law_with_die_is_right.fd ["one", "other", "die"] (spOf K 3 d_law_with_die_is_right)) (n_len : mg "len" = none) (n_min : mg "min" = none) (n_range : mg "range" = none) (n_tuple : mg "tuple" = none) : FnOk P w K mg base CX0 (82) D_law_k54.f D_law_k54.fd ["script"] (spOf K 1 d_law_k54) :=
  ok_of D_law_k54.F sc_law_k54 (by decide) hs ht fun cdv A outer s H E c =>
    (bss_cons (bs_set 1 c.nd (be_call G_law_draws (c.room.mono (by omega)) rfl D_law_draws.g D_law_draws.F.kp (bi_law_draws D_law_draws) (ba_v (be_var 0) (ba_v be_int ba_nil))))
    (bss_cons (bs_asg (be_ix (be_lst (bl_cons (be_tup (bl_cons be_int (bl_cons be_int bl_nil))) (bl_cons (be_tup (bl_cons be_int (bl_cons be_int bl_nil))) (bl_cons (be_tup (bl_cons be_int (bl_cons be_int bl_nil))) (bl_cons (be_tup (bl_cons be_int (bl_cons be_int bl_nil))) bl_nil))))) (be_call G_law_take (c.room.mono (by omega)) rfl D_law_take.g D_law_take.F.kp (bi_law_take D_law_take) (ba_r 1 (pv 1) (ba_v be_int ba_nil)))) (bg_tup c.calm (bgs_cons 2 c.nd (bgs_cons 3 c.nd bgs_nil))))
    (bss_cons (bs_set 4 c.nd (be_t1 c_tuple rfl n_tuple bt_tuple (be_lcN 12 [("k", 12)] c.calm c.nd (bi_rng1 rfl n_range (be_call G_law_take (c.room.mono (by omega)) rfl D_law_take.g D_law_take.F.kp (bi_law_take D_law_take) (ba_r 1 (pv 1) (ba_v be_int ba_nil)))) (blk_at (N := ["script", "draws", "faces", "pips", "dice", "others", "die", "shifted", "one", "other", "known", "common", "k", "face"]) (sc := defScope s_law_k54) rfl rfl (by decide +kernel)) (by decide) rfl (fun _ _ _ _ _ => pg_name (i := 12) c.nd rfl (.inl rfl)) (fun _ _ _ _ _ => bts_nil) (fun _ _ _ _ _ => (be_call G_law_die (c.room.mono (by omega)) rfl D_law_die.g D_law_die.F.kp (bi_law_die D_law_die) (ba_r 1 (pv 1) (ba_v (be_op ob_add be_int (be_call G_law_take (c.room.mono (by omega)) rfl D_law_take.g D_law_take.F.kp (bi_law_take D_law_take) (ba_r 1 (pv 1) (ba_v (be_var 2) ba_nil)))) (ba_v (be_var 3) ba_nil))))))))
    (bss_cons (bs_set 5 c.nd (be_t1 c_tuple rfl n_tuple bt_tuple (be_lcN 12 [("k", 12)] c.calm c.nd (bi_rng1 rfl n_range (be_call G_law_take (c.room.mono (by omega)) rfl D_law_take.g D_law_take.F.kp (bi_law_take D_law_take) (ba_r 1 (pv 1) (ba_v be_int ba_nil)))) (blk_at (N := ["script", "draws", "faces", "pips", "dice", "others", "die", "shifted", "one", "other", "known", "common", "k", "face"]) (sc := defScope s_law_k54) rfl rfl (by decide +kernel)) (by decide) rfl (fun _ _ _ _ _ => pg_name (i := 12) c.nd rfl (.inl rfl)) (fun _ _ _ _ _ => bts_nil) (fun _ _ _ _ _ => (be_call G_law_die (c.room.mono (by omega)) rfl D_law_die.g D_law_die.F.kp (bi_law_die D_law_die) (ba_r 1 (pv 1) (ba_v (be_op ob_add be_int (be_call G_law_take (c.room.mono (by omega)) rfl D_law_take.g D_law_take.F.kp (bi_law_take D_law_take) (ba_r 1 (pv 1) (ba_v (be_var 2) ba_nil)))) (ba_v (be_var 3) ba_nil))))))))
    (bss_cons (bs_set 6 c.nd (be_call G_law_die (c.room.mono (by omega)) rfl D_law_die.g D_law_die.F.kp (bi_law_die D_law_die) (ba_r 1 (pv 1) (ba_v (be_op ob_add be_int (be_call G_law_take (c.room.mono (by omega)) rfl D_law_take.g D_law_take.F.kp (bi_law_take D_law_take) (ba_r 1 (pv 1) (ba_v (be_var 2) ba_nil)))) (ba_v (be_var 3) ba_nil)))))
    (bss_cons (bs_if (bt_w (bw_or (bt_not (bt_tru (be_call G_law_parts_are_right_k54 (c.room.mono (by omega)) rfl D_law_parts_are_right_k54.g D_law_parts_are_right_k54.F.kp (bi_law_parts_are_right_k54 D_law_parts_are_right_k54) (ba_r 1 (pv 1) (ba_v (be_var 4) ba_nil))))) (bw_or1 (bt_not (bt_tru (be_call G_law_parts_are_right_k54 (c.room.mono (by omega)) rfl D_law_parts_are_right_k54.g D_law_parts_are_right_k54.F.kp (bi_law_parts_are_right_k54 D_law_parts_are_right_k54) (ba_r 1 (pv 1) (ba_v (be_op ob_add (be_var 5) (be_tup (bl_cons (be_var 6) bl_nil))) ba_nil)))))))) (bss_one (bs_ret be_bl)) bss_nil)
    (bss_cons (bs_set 7 c.nd (be_var 4))
    (bss_cons (bs_if (bt_cmp ob_gt (be_b1 c_len rfl n_len bt_len (be_var 4)) be_int) (bss_one (bs_set 7 c.nd (be_op ob_add (be_call G_law_order (c.room.mono (by omega)) rfl D_law_order.g D_law_order.F.kp (bi_law_order D_law_order) (ba_r 1 (pv 1) (ba_v (be_sl (be_var 4) bo_none (bo_some (be_neg be_int))) ba_nil))) (be_tup (bl_cons (be_t1 c_tuple rfl n_tuple bt_tuple (be_lcN 13 [("face", 13)] c.calm c.nd (bi_seq (be_ix (be_var 4) (be_neg be_int))) (blk_at (N := ["script", "draws", "faces", "pips", "dice", "others", "die", "shifted", "one", "other", "known", "common", "k", "face"]) (sc := defScope s_law_k54) rfl rfl (by decide +kernel)) (by decide) rfl (fun _ _ _ _ _ => pg_name (i := 13) c.nd rfl (.inl rfl)) (fun _ _ _ _ _ => bts_nil) (fun _ _ _ _ _ => (be_b2 (c_min2 c.calm) rfl n_min bt_min be_int (be_op ob_add (be_var 13) be_int))))) bl_nil))))) bss_nil)
    (bss_cons (bs_for c.pass c.calm (bi_seq (be_lst (bl_cons (be_tup (bl_cons (be_var 4) (bl_cons (be_var 5) bl_nil))) (bl_cons (be_tup (bl_cons (be_var 4) (bl_cons (be_call G_law_order (c.room.mono (by omega)) rfl D_law_order.g D_law_order.F.kp (bi_law_order D_law_order) (ba_r 1 (pv 1) (ba_v (be_var 4) ba_nil))) bl_nil))) (bl_cons (be_tup (bl_cons (be_var 4) (bl_cons (be_var 7) bl_nil))) (bl_cons (be_tup (bl_cons (be_var 5) (bl_cons (be_var 7) bl_nil))) bl_nil)))))) (bg_tup c.calm (bgs_cons 8 c.nd (bgs_cons 9 c.nd bgs_nil))) (bss_fgt [8, 9] (bss_one (bs_if (bt_w (bw_or (bt_not (bt_tru (be_call G_law_with_die_is_right (c.room.mono (by omega)) rfl D_law_with_die_is_right.g D_law_with_die_is_right.F.kp (bi_law_with_die_is_right D_law_with_die_is_right) (ba_v (be_var 8) (ba_v (be_var 9) (ba_v (be_var 6) ba_nil)))))) (bw_or1 (bt_not (bt_tru (be_call G_law_with_die_is_right (c.room.mono (by omega)) rfl D_law_with_die_is_right.g D_law_with_die_is_right.F.kp (bi_law_with_die_is_right D_law_with_die_is_right) (ba_v (be_var 8) (ba_v (be_var 9) (ba_v (be_tup (bl_cons (be_ix (be_var 6) be_int) (bl_cons be_int bl_nil))) ba_nil))))))))) (bss_one (bs_ret be_bl)) bss_nil))))
    (bss_cons (bs_set 10 c.nd (be_tup (bl_cons (be_tup (bl_cons be_int (bl_cons be_int (bl_cons be_int (bl_cons be_int (bl_cons be_int (bl_cons be_int bl_nil))))))) (bl_cons (be_tup (bl_cons be_int (bl_cons be_int (bl_cons be_int (bl_cons be_int (bl_cons be_int (bl_cons be_int bl_nil))))))) bl_nil))))
    (bss_cons (bs_set 11 c.nd (be_tup (bl_cons be_int (bl_cons be_int (bl_cons be_int (bl_cons be_int (bl_cons be_int (bl_cons be_int bl_nil))))))))
    (bss_cons (bs_if (bt_cmp ob_isNot (be_call G_alike (c.room.mono (by omega)) rfl D_alike.g D_alike.F.kp (bi_alike D_alike) (ba_v (be_op ob_add (be_var 10) (be_tup (bl_cons (be_var 6) bl_nil))) (ba_v (be_tup (bl_cons (be_var 11) (bl_cons (be_var 6) (bl_cons (be_var 11) bl_nil)))) ba_nil))) be_non) (bss_one (bs_ret be_bl)) bss_nil)
    (bss_one (bs_ret (be_call G_law_same (c.room.mono (by omega)) rfl D_law_same.g D_law_same.F.kp (bi_law_same D_law_same) (ba_v (be_call G_alike (c.room.mono (by omega)) rfl D_alike.g D_alike.F.kp (bi_alike D_alike) (ba_v (be_tup (bl_cons (be_var 11) (bl_cons (be_tup (bl_cons be_int (bl_cons be_int bl_nil))) bl_nil))) (ba_v (be_tup (bl_cons (be_tup (bl_cons be_int (bl_cons be_int bl_nil))) (bl_cons (be_var 11) bl_nil))) ba_nil))) (ba_v be_int ba_nil)))))))))))))))))
end
theorem all_mk {l : PySem.W.OpenLaw} {w : World} {K : PySem.W.Frag} {h : Heap} {mg : Str → Option Value} {fa f0 f1 f2 f3 f4 f5 f6 f7 f8 f9 f10 f11 f12 f13 f14 f15 f16 : Addr} {od0 an0 od1 an1 od2 an2 od3 an3 od4 an4 od5 an5 od6 an6 od7 an7 od8 an8 od9 an9 od10 an10 od11 an11 od12 an12 od13 an13 od14 an14 od15 an15 od16 an16 : Option Addr} {sl0 sl1 sl2 sl3 sl4 sl5 sl6 sl7 sl8 sl9 sl10 sl11 sl12 sl13 sl14 sl15 sl16 : Array (Option Value)} {oc0 kV0 dc0 pm0 cd0 ct0 oc1 kV1 dc1 pm1 cd1 ct1 oc2 kV2 dc2 pm2 cd2 ct2 oc3 kV3 dc3 pm3 cd3 ct3 oc4 kV4 dc4 pm4 cd4 ct4 oc5 kV5 dc5 pm5 cd5 ct5 oc6 kV6 dc6 pm6 cd6 ct6 oc7 kV7 dc7 pm7 cd7 ct7 oc8 kV8 dc8 pm8 cd8 ct8 oc9 kV9 dc9 pm9 cd9 ct9 oc10 kV10 dc10 pm10 cd10 ct10 oc11 kV11 dc11 pm11 cd11 ct11 oc12 kV12 dc12 pm12 cd12 ct12 oc13 kV13 dc13 pm13 cd13 ct13 oc14 kV14 dc14 pm14 cd14 ct14 oc15 kV15 dc15 pm15 cd15 ct15 oc16 kV16 dc16 pm16 cd16 ct16 : Value} (ht : l.prog.given.tree = none) (X : K.In h) (G : h.Ns mainGlobals mg) (hfa : mg "law" = some (.ref fa)) (a0 : PySem.W.nsIn K mainGlobals "sums_with" = some (some (.ref f0))) (l0 : K.lookup f0 = some ⟨oc0, od0, .func (PySem.W.fnOf "sums_with" "sums_with" (defArgs s_sums_with) (defBody s_sums_with) (defScope s_sums_with) .none kV0 dc0 pm0 an0 cd0 ct0), sl0⟩) (c0 : PySem.W.codeIn K cd0 "sums_with" = true) (k0 : PySem.W.keepIn K (.ref f0) = true) (a1 : PySem.W.nsIn K mainGlobals "ways_of" = some (some (.ref f1))) (l1 : K.lookup f1 = some ⟨oc1, od1, .func (PySem.W.fnOf "ways_of" "ways_of" (defArgs s_ways_of) (defBody s_ways_of) (defScope s_ways_of) .none kV1 dc1 pm1 an1 cd1 ct1), sl1⟩) (c1 : PySem.W.codeIn K cd1 "ways_of" = true) (k1 : PySem.W.keepIn K (.ref f1) = true) (a2 : PySem.W.nsIn K mainGlobals "sums" = some (some (.ref f2))) (l2 : K.lookup f2 = some ⟨oc2, od2, .func (PySem.W.fnOf "sums" "sums" (defArgs s_sums) (defBody s_sums) (defScope s_sums) .none kV2 dc2 pm2 an2 cd2 ct2), sl2⟩) (c2 : PySem.W.codeIn K cd2 "sums" = true) (k2 : PySem.W.keepIn K (.ref f2) = true) (a3 : PySem.W.nsIn K mainGlobals "throws" = some (some (.ref f3))) (l3 : K.lookup f3 = some ⟨oc3, od3, .func (PySem.W.fnOf "throws" "throws" (defArgs s_throws) (defBody s_throws) (defScope s_throws) .none kV3 dc3 pm3 an3 cd3 ct3), sl3⟩) (c3 : PySem.W.codeIn K cd3 "throws" = true) (k3 : PySem.W.keepIn K (.ref f3) = true) (a4 : PySem.W.nsIn K mainGlobals "alike" = some (some (.ref f4))) (l4 : K.lookup f4 = some ⟨oc4, od4, .func (PySem.W.fnOf "alike" "alike" (defArgs s_alike) (defBody s_alike) (defScope s_alike) .none kV4 dc4 pm4 an4 cd4 ct4), sl4⟩) (c4 : PySem.W.codeIn K cd4 "alike" = true) (k4 : PySem.W.keepIn K (.ref f4) = true) (a5 : PySem.W.nsIn K mainGlobals "_law_draws" = some (some (.ref f5))) (l5 : K.lookup f5 = some ⟨oc5, od5, .func (PySem.W.fnOf "_law_draws" "_law_draws" (defArgs s_law_draws) (defBody s_law_draws) (defScope s_law_draws) .none kV5 dc5 pm5 an5 cd5 ct5), sl5⟩) (c5 : PySem.W.codeIn K cd5 "_law_draws" = true) (k5 : PySem.W.keepIn K (.ref f5) = true) (a6 : PySem.W.nsIn K mainGlobals "_law_take" = some (some (.ref f6))) (l6 : K.lookup f6 = some ⟨oc6, od6, .func (PySem.W.fnOf "_law_take" "_law_take" (defArgs s_law_take) (defBody s_law_take) (defScope s_law_take) .none kV6 dc6 pm6 an6 cd6 ct6), sl6⟩) (c6 : PySem.W.codeIn K cd6 "_law_take" = true) (k6 : PySem.W.keepIn K (.ref f6) = true) (a7 : PySem.W.nsIn K mainGlobals "_law_same" = some (some (.ref f7))) (l7 : K.lookup f7 = some ⟨oc7, od7, .func (PySem.W.fnOf "_law_same" "_law_same" (defArgs s_law_same) (defBody s_law_same) (defScope s_law_same) .none kV7 dc7 pm7 an7 cd7 ct7), sl7⟩) (c7 : PySem.W.codeIn K cd7 "_law_same" = true) (k7 : PySem.W.keepIn K (.ref f7) = true) (a8 : PySem.W.nsIn K mainGlobals "_law_die" = some (some (.ref f8))) (l8 : K.lookup f8 = some ⟨oc8, od8, .func (PySem.W.fnOf "_law_die" "_law_die" (defArgs s_law_die) (defBody s_law_die) (defScope s_law_die) .none kV8 dc8 pm8 an8 cd8 ct8), sl8⟩) (c8 : PySem.W.codeIn K cd8 "_law_die" = true) (k8 : PySem.W.keepIn K (.ref f8) = true) (a9 : PySem.W.nsIn K mainGlobals "_law_ways" = some (some (.ref f9))) (l9 : K.lookup f9 = some ⟨oc9, od9, .func (PySem.W.fnOf "_law_ways" "_law_ways" (defArgs s_law_ways) (defBody s_law_ways) (defScope s_law_ways) .none kV9 dc9 pm9 an9 cd9 ct9), sl9⟩) (c9 : PySem.W.codeIn K cd9 "_law_ways" = true) (k9 : PySem.W.keepIn K (.ref f9) = true) (a10 : PySem.W.nsIn K mainGlobals "_law_sums" = some (some (.ref f10))) (l10 : K.lookup f10 = some ⟨oc10, od10, .func (PySem.W.fnOf "_law_sums" "_law_sums" (defArgs s_law_sums) (defBody s_law_sums) (defScope s_law_sums) .none kV10 dc10 pm10 an10 cd10 ct10), sl10⟩) (c10 : PySem.W.codeIn K cd10 "_law_sums" = true) (k10 : PySem.W.keepIn K (.ref f10) = true) (a11 : PySem.W.nsIn K mainGlobals "_law_order" = some (some (.ref f11))) (l11 : K.lookup f11 = some ⟨oc11, od11, .func (PySem.W.fnOf "_law_order" "_law_order" (defArgs s_law_order) (defBody s_law_order) (defScope s_law_order) .none kV11 dc11 pm11 an11 cd11 ct11), sl11⟩) (c11 : PySem.W.codeIn K cd11 "_law_order" = true) (k11 : PySem.W.keepIn K (.ref f11) = true) (a12 : PySem.W.nsIn K mainGlobals "_law_is_sums" = some (some (.ref f12))) (l12 : K.lookup f12 = some ⟨oc12, od12, .func (PySem.W.fnOf "_law_is_sums" "_law_is_sums" (defArgs s_law_is_sums) (defBody s_law_is_sums) (defScope s_law_is_sums) .none kV12 dc12 pm12 an12 cd12 ct12), sl12⟩) (c12 : PySem.W.codeIn K cd12 "_law_is_sums" = true) (k12 : PySem.W.keepIn K (.ref f12) = true) (a13 : PySem.W.nsIn K mainGlobals "_law_joined" = some (some (.ref f13))) (l13 : K.lookup f13 = some ⟨oc13, od13, .func (PySem.W.fnOf "_law_joined" "_law_joined" (defArgs s_law_joined_k54) (defBody s_law_joined_k54) (defScope s_law_joined_k54) .none kV13 dc13 pm13 an13 cd13 ct13), sl13⟩) (c13 : PySem.W.codeIn K cd13 "_law_joined" = true) (k13 : PySem.W.keepIn K (.ref f13) = true) (a14 : PySem.W.nsIn K mainGlobals "_law_parts_are_right" = some (some (.ref f14))) (l14 : K.lookup f14 = some ⟨oc14, od14, .func (PySem.W.fnOf "_law_parts_are_right" "_law_parts_are_right" (defArgs s_law_parts_are_right_k54) (defBody s_law_parts_are_right_k54) (defScope s_law_parts_are_right_k54) .none kV14 dc14 pm14 an14 cd14 ct14), sl14⟩) (c14 : PySem.W.codeIn K cd14 "_law_parts_are_right" = true) (k14 : PySem.W.keepIn K (.ref f14) = true) (a15 : PySem.W.nsIn K mainGlobals "_law_with_die_is_right" = some (some (.ref f15))) (l15 : K.lookup f15 = some ⟨oc15, od15, .func (PySem.W.fnOf "_law_with_die_is_right" "_law_with_die_is_right" (defArgs s_law_with_die_is_right) (defBody s_law_with_die_is_right) (defScope s_law_with_die_is_right) .none kV15 dc15 pm15 an15 cd15 ct15), sl15⟩) (c15 : PySem.W.codeIn K cd15 "_law_with_die_is_right" = true) (k15 : PySem.W.keepIn K (.ref f15) = true) (a16 : PySem.W.nsIn K mainGlobals "law" = some (some (.ref f16))) (l16 : K.lookup f16 = some ⟨oc16, od16, .func (PySem.W.fnOf "law" "law" (defArgs s_law_k54) (defBody s_law_k54) (defScope s_law_k54) .none kV16 dc16 pm16 an16 cd16 ct16), sl16⟩) (c16 : PySem.W.codeIn K cd16 "law" = true) (k16 : PySem.W.keepIn K (.ref f16) = true) (z_bool : PySem.W.nsIn K mainGlobals "bool" = some none) (z_int : PySem.W.nsIn K mainGlobals "int" = some none) (z_isinstance : PySem.W.nsIn K mainGlobals "isinstance" = some none) (z_len : PySem.W.nsIn K mainGlobals "len" = some none) (z_list : PySem.W.nsIn K mainGlobals "list" = some none) (z_min : PySem.W.nsIn K mainGlobals "min" = some none) (z_range : PySem.W.nsIn K mainGlobals "range" = some none) (z_set : PySem.W.nsIn K mainGlobals "set" = some none) (z_sorted : PySem.W.nsIn K mainGlobals "sorted" = some none) (z_str : PySem.W.nsIn K mainGlobals "str" = some none) (z_tuple : PySem.W.nsIn K mainGlobals "tuple" = some none) :
    ∃ fd : FuncData, (∀ (s : Shared) (v : Value), BindsTo s fd ⟨[v], []⟩ [("script", v)]) ∧ ∀ base : Heap, K.In base → base.Ns mainGlobals mg → base.NoSeer → FnOk l.prog w K mg base CX0 82 fa fd ["script"] (spOf K 1 d_law_k54) := by
  have e := hfa.symm.trans (PySem.W.mg_of X G a16)
  cases e
  let D_sums_with : Df K mg "sums_with" s_sums_with := ⟨f0, _, fun_mk l0 c0 k0, PySem.W.mg_of X G a0⟩
  let D_ways_of : Df K mg "ways_of" s_ways_of := ⟨f1, _, fun_mk l1 c1 k1, PySem.W.mg_of X G a1⟩
  let D_sums : Df K mg "sums" s_sums := ⟨f2, _, fun_mk l2 c2 k2, PySem.W.mg_of X G a2⟩
  let D_throws : Df K mg "throws" s_throws := ⟨f3, _, fun_mk l3 c3 k3, PySem.W.mg_of X G a3⟩
  let D_alike : Df K mg "alike" s_alike := ⟨f4, _, fun_mk l4 c4 k4, PySem.W.mg_of X G a4⟩
  let D_law_draws : Df K mg "_law_draws" s_law_draws := ⟨f5, _, fun_mk l5 c5 k5, PySem.W.mg_of X G a5⟩
  let D_law_take : Df K mg "_law_take" s_law_take := ⟨f6, _, fun_mk l6 c6 k6, PySem.W.mg_of X G a6⟩
  let D_law_same : Df K mg "_law_same" s_law_same := ⟨f7, _, fun_mk l7 c7 k7, PySem.W.mg_of X G a7⟩
  let D_law_die : Df K mg "_law_die" s_law_die := ⟨f8, _, fun_mk l8 c8 k8, PySem.W.mg_of X G a8⟩
  let D_law_ways : Df K mg "_law_ways" s_law_ways := ⟨f9, _, fun_mk l9 c9 k9, PySem.W.mg_of X G a9⟩
  let D_law_sums : Df K mg "_law_sums" s_law_sums := ⟨f10, _, fun_mk l10 c10 k10, PySem.W.mg_of X G a10⟩
  let D_law_order : Df K mg "_law_order" s_law_order := ⟨f11, _, fun_mk l11 c11 k11, PySem.W.mg_of X G a11⟩
  let D_law_is_sums : Df K mg "_law_is_sums" s_law_is_sums := ⟨f12, _, fun_mk l12 c12 k12, PySem.W.mg_of X G a12⟩
  let D_law_joined_k54 : Df K mg "_law_joined" s_law_joined_k54 := ⟨f13, _, fun_mk l13 c13 k13, PySem.W.mg_of X G a13⟩
  let D_law_parts_are_right_k54 : Df K mg "_law_parts_are_right" s_law_parts_are_right_k54 := ⟨f14, _, fun_mk l14 c14 k14, PySem.W.mg_of X G a14⟩
  let D_law_with_die_is_right : Df K mg "_law_with_die_is_right" s_law_with_die_is_right := ⟨f15, _, fun_mk l15 c15 k15, PySem.W.mg_of X G a15⟩
  let D_law_k54 : Df K mg "law" s_law_k54 := ⟨fa, _, fun_mk l16 c16 k16, PySem.W.mg_of X G a16⟩
  have n_bool := PySem.W.mg_none_of X G z_bool
  have n_int := PySem.W.mg_none_of X G z_int
  have n_isinstance := PySem.W.mg_none_of X G z_isinstance
  have n_len := PySem.W.mg_none_of X G z_len
  have n_list := PySem.W.mg_none_of X G z_list
  have n_min := PySem.W.mg_none_of X G z_min
  have n_range := PySem.W.mg_none_of X G z_range
  have n_set := PySem.W.mg_none_of X G z_set
  have n_sorted := PySem.W.mg_none_of X G z_sorted
  have n_str := PySem.W.mg_none_of X G z_str
  have n_tuple := PySem.W.mg_none_of X G z_tuple
  refine ⟨D_law_k54.fd, fun s v => .of_eq rfl, fun base _ _ hs => ?_⟩
  have G_sums_with := ok_sums_with (P := l.prog) (w := w) (base := base) hs ht D_sums_with
  have G_ways_of := ok_ways_of (P := l.prog) (w := w) (base := base) hs ht D_ways_of D_sums_with G_sums_with
  have G_sums := ok_sums (P := l.prog) (w := w) (base := base) hs ht D_sums D_ways_of G_ways_of n_sorted n_tuple
  have G_throws := ok_throws (P := l.prog) (w := w) (base := base) hs ht D_throws n_len
  have G_alike := ok_alike (P := l.prog) (w := w) (base := base) hs ht D_alike D_ways_of G_ways_of D_throws G_throws n_set n_sorted
  have G_law_draws := ok_law_draws (P := l.prog) (w := w) (base := base) hs ht D_law_draws n_int n_len n_list n_range
  have G_law_take := ok_law_take (P := l.prog) (w := w) (base := base) hs ht D_law_take n_int n_len
  have G_law_same := ok_law_same (P := l.prog) (w := w) (base := base) hs ht D_law_same n_bool n_int n_isinstance n_len n_range n_str n_tuple 40
  have G_law_die := ok_law_die (P := l.prog) (w := w) (base := base) hs ht D_law_die D_law_take G_law_take n_min n_range n_sorted n_tuple
  have G_law_ways := ok_law_ways (P := l.prog) (w := w) (base := base) hs ht D_law_ways n_sorted
  have G_law_sums := ok_law_sums (P := l.prog) (w := w) (base := base) hs ht D_law_sums D_law_ways G_law_ways n_sorted n_tuple
  have G_law_order := ok_law_order (P := l.prog) (w := w) (base := base) hs ht D_law_order D_law_take G_law_take n_len n_list n_range n_tuple
  have G_law_is_sums := ok_law_is_sums (P := l.prog) (w := w) (base := base) hs ht D_law_is_sums n_bool n_int n_isinstance n_len n_range n_tuple
  have G_law_joined_k54 := ok_law_joined_k54 (P := l.prog) (w := w) (base := base) hs ht D_law_joined_k54 n_sorted n_tuple
  have G_law_parts_are_right_k54 := ok_law_parts_are_right_k54 (P := l.prog) (w := w) (base := base) hs ht D_law_parts_are_right_k54 D_sums G_sums D_law_order G_law_order D_law_take G_law_take D_law_same G_law_same D_law_sums G_law_sums D_law_is_sums G_law_is_sums D_law_joined_k54 G_law_joined_k54 D_alike G_alike n_len
  have G_law_with_die_is_right := ok_law_with_die_is_right (P := l.prog) (w := w) (base := base) hs ht D_law_with_die_is_right D_alike G_alike D_law_same G_law_same n_bool n_int n_isinstance
  exact ok_law_k54 (P := l.prog) (w := w) (base := base) hs ht D_law_k54 D_law_draws G_law_draws D_law_die G_law_die D_law_same G_law_same D_law_take G_law_take D_alike G_alike D_law_parts_are_right_k54 G_law_parts_are_right_k54 D_law_order G_law_order D_law_with_die_is_right G_law_with_die_is_right n_len n_min n_range n_tuple
end Law_k54
open PySem PySem.W PyProof.Rows
set_option maxHeartbeats 0 in
theorem PySem.Challenge.cw_nosurebet_k54_whole_dice_thrown_together_holds : PySem.Challenge.rw_nosurebet_k54_whole_dice_thrown_together.Holds := by
  w_on; o_law; k_head; (case hw => w_witness2)
  k_fill
  refine Py.walk_py (l := PySem.Challenge.rw_nosurebet_k54_whole_dice_thrown_together) (n := 63) (k := 82) (x := "script") (d := D.d_law_k54) rfl (by decide) rfl ⟨rfl, by decide, by decide⟩ (by rfl) (fun w h Y => PySem.W.kIn_of Y) ?F Law_k54.holds
  case F =>
    intro w mg fa h KX G hmg
    refine' Law_k54.all_mk rfl KX G hmg ?a0 ?l0 ?c0 ?k0 ?a1 ?l1 ?c1 ?k1 ?a2 ?l2 ?c2 ?k2 ?a3 ?l3 ?c3 ?k3 ?a4 ?l4 ?c4 ?k4 ?a5 ?l5 ?c5 ?k5 ?a6 ?l6 ?c6 ?k6 ?a7 ?l7 ?c7 ?k7 ?a8 ?l8 ?c8 ?k8 ?a9 ?l9 ?c9 ?k9 ?a10 ?l10 ?c10 ?k10 ?a11 ?l11 ?c11 ?k11 ?a12 ?l12 ?c12 ?k12 ?a13 ?l13 ?c13 ?k13 ?a14 ?l14 ?c14 ?k14 ?a15 ?l15 ?c15 ?k15 ?a16 ?l16 ?c16 ?k16 ?z_bool ?z_int ?z_isinstance ?z_len ?z_list ?z_min ?z_range ?z_set ?z_sorted ?z_str ?z_tuple
    (case a0 => k_is); (case l0 => k_is); (case c0 => k_is); (case k0 => k_is); (case a1 => k_is); (case l1 => k_is); (case c1 => k_is); (case k1 => k_is); (case a2 => k_is); (case l2 => k_is); (case c2 => k_is); (case k2 => k_is); (case a3 => k_is); (case l3 => k_is); (case c3 => k_is); (case k3 => k_is); (case a4 => k_is); (case l4 => k_is); (case c4 => k_is); (case k4 => k_is); (case a5 => k_is); (case l5 => k_is); (case c5 => k_is); (case k5 => k_is); (case a6 => k_is); (case l6 => k_is); (case c6 => k_is); (case k6 => k_is); (case a7 => k_is); (case l7 => k_is); (case c7 => k_is); (case k7 => k_is); (case a8 => k_is); (case l8 => k_is); (case c8 => k_is); (case k8 => k_is); (case a9 => k_is); (case l9 => k_is); (case c9 => k_is); (case k9 => k_is); (case a10 => k_is); (case l10 => k_is); (case c10 => k_is); (case k10 => k_is); (case a11 => k_is); (case l11 => k_is); (case c11 => k_is); (case k11 => k_is); (case a12 => k_is); (case l12 => k_is); (case c12 => k_is); (case k12 => k_is); (case a13 => k_is); (case l13 => k_is); (case c13 => k_is); (case k13 => k_is); (case a14 => k_is); (case l14 => k_is); (case c14 => k_is); (case k14 => k_is); (case a15 => k_is); (case l15 => k_is); (case c15 => k_is); (case k15 => k_is); (case a16 => k_is); (case l16 => k_is); (case c16 => k_is); (case k16 => k_is); (case z_bool => k_is); (case z_int => k_is); (case z_isinstance => k_is); (case z_len => k_is); (case z_list => k_is); (case z_min => k_is); (case z_range => k_is); (case z_set => k_is); (case z_sorted => k_is); (case z_str => k_is); (case z_tuple => k_is)
