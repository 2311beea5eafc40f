import PyProof.Rows.All
import PySem.Challenge.RW_tablesense_k58_weights_judged
import HandS.ForMost
import PyProof.ReprRoads
import PyProof.ReprLen
import KE.KeyNested
import HandS.TupAny
import HandS.Conv
import HandS.TupMul
import HandS.Wide
import HandS.Deep
import HandS.Style
import HandS.Zip
import HandS.Rev
import HandS.RevTup
import KE.GoesNew
import KE.KDictZip
import KE.SortData
import KE.KIndexOf
import HandS.IsInst
import HandS.Iter
import HandS.More
import HandS.WideBits
import KE.DataFind
import HandS.Strs
import HandS.Codes
import KE.DataMinMax
import HandS.NoneIn
import HandS.ExcCtx
import KE.KExcLine
import HandS.ExcIs
import KE.BitLaws
set_option Elab.async false
set_option linter.all false
set_option autoImplicit false
/-! FzR: readings. What a piece of the program does, as a plain function: slots, a memory of mutable objects, data by value. -/
namespace Fz
open PySem
open L2 (ixN atI)

/-- a value: data, or a mutable object by its number -/
inductive S where
  | d (x : PyData)
  | r (n : Nat)
inductive MO where
  | lst (xs : List S)
  | frz (xs : List PyData)
  | dct (kvs : List (PyData × S))
  | dcT (kvs : List (NestedKey × S))
mutual
/-- data that is a key by its items: None, whole numbers, tuples of such -/
def nkey : PyData → Option NestedKey
  | .none => some .none
  | .int i => some (.num i)
  | .tuple ds => (nkeys ds).map .tup
  | _ => none
def nkeys : List PyData → Option (List NestedKey)
  | [] => some []
  | d :: ds => match nkey d, nkeys ds with
    | some k, some ks => some (k :: ks)
    | _, _ => none
end
/-- a tuple that is a key -/
def keyOf (d : PyData) : Option NestedKey := match d with
  | .tuple ds => match nkeys ds with
    | some ks => if (NestedKey.tup ks).depth ≤ 8 then some (.tup ks) else none
    | none => none
  | _ => none
def getT (k : NestedKey) : List (NestedKey × S) → Option S
  | [] => none
  | (k', v) :: r => if k' = k then some v else getT k r
def setT (k : NestedKey) (v : S) (kvs : List (NestedKey × S)) : List (NestedKey × S) :=
  if (getT k kvs).isSome = true then kvs.map (fun p => if p.1 = k then (p.1, v) else p) else kvs ++ [(k, v)]
abbrev Mem := List MO
abbrev Lo := List (Option S)
abbrev RE := Lo → Mem → Option (S × Mem)
abbrev RT := Lo → Mem → Option (Bool × Mem)
abbrev RA := Lo → Mem → Option (List S × Mem)
abbrev RI := Lo → Mem → Option (List S × Mem)
abbrev Tg := S → Lo → Option Lo
inductive Ct where
  | nx | bk | ct
  | rt (s : S)
abbrev RS := Lo → Mem → Option (Ct × Lo × Mem)

def lim : Nat := 1000000

def allD : List S → Option (List PyData)
  | [] => some []
  | .d x :: r => (allD r).map (x :: ·)
  | .r _ :: _ => none
theorem allD_map : ∀ ds : List PyData, allD (ds.map S.d) = some ds
  | [] => rfl
  | d :: ds => by simp only [List.map_cons, allD, allD_map ds, Option.map_some]
theorem allD_eq : ∀ {ss : List S} {ds : List PyData}, allD ss = some ds → ss = ds.map S.d
  | [], ds, h => by cases h; rfl
  | .d x :: r, ds, h => by
    simp only [allD, Option.map_eq_some_iff] at h
    obtain ⟨es, h1, rfl⟩ := h
    rw [allD_eq h1]; rfl
  | .r _ :: _, ds, h => by cases h

def deref (m : Mem) : S → Option PyData
  | .d x => some x
  | .r n => match m[n]? with
    | some (.lst ss) => (allD ss).map .list
    | some (.frz xs) => some (.list xs)
    | _ => none
@[simp] theorem deref_d (m : Mem) (x : PyData) : deref m (.d x) = some x := rfl
def derefs (m : Mem) : List S → Option (List PyData)
  | [] => some []
  | x :: r => (deref m x).bind fun d => (derefs m r).map (d :: ·)

/-! ### pure functions on data -/
def toI : PyData → Option Int
  | .int i => some i
  | .bool b => some (if b then 1 else 0)
  | _ => none
def pAdd : PyData → PyData → Option PyData
  | .int i, .int j => some (.int (i + j))
  | .int i, .bool b => some (.int (i + (if b then 1 else 0)))
  | .str x, .str y => if x.length + y.length ≤ lim then some (.str (x ++ y)) else none
  | .tuple xs, .tuple ys => if xs.length + ys.length ≤ lim then some (.tuple (xs ++ ys)) else none
  | .list xs, .list ys => if xs.length + ys.length ≤ lim then some (.list (xs ++ ys)) else none
  | _, _ => none
def pSub : PyData → PyData → Option PyData
  | .int i, .int j => some (.int (i - j))
  | _, _ => none
def small64 (i : Int) : Bool := decide (-(2 ^ 64) < i) && decide (i < 2 ^ 64)
def wide (i : Int) : Bool := decide (i.natAbs < 2 ^ 4000)
def pMul : PyData → PyData → Option PyData
  | .int i, .int j => if small64 i || small64 j || (wide i && wide j) then some (.int (i * j)) else none
  | .list xs, .int k => if xs.length * k.toNat ≤ lim ∧ k ≤ lim ∧ -lim ≤ k then some (.list (List.replicate k.toNat xs).flatten) else none
  | .tuple xs, .int k => if 0 < xs.length ∧ xs.length ≤ 1000 ∧ k ≤ 1000 ∧ -1000 ≤ k then some (.tuple (List.replicate k.toNat xs).flatten) else none
  | _, _ => none
def pFdiv : PyData → PyData → Option PyData
  | .int i, .int j => if 0 < j ∧ j.natAbs < 2 ^ 4000 then some (.int (i / j)) else none
  | _, _ => none
def pMod : PyData → PyData → Option PyData
  | .int i, .int j => if 0 < j then some (.int (i % j)) else none
  | _, _ => none
def pPow : PyData → PyData → Option PyData
  | .int i, .int j => if 0 ≤ j ∧ j ≤ 1000000 ∧ i.natAbs < 2 ^ 64 then some (.int (i ^ j.toNat)) else none
  | _, _ => none
def pShl : PyData → PyData → Option PyData
  | .int i, .int j => if 0 ≤ j ∧ j ≤ 1000000 ∧ i.natAbs < 2 ^ 64 then some (.int (i * 2 ^ j.toNat)) else none
  | _, _ => none
def pShr : PyData → PyData → Option PyData
  | .int i, .int j => if 0 ≤ j then some (.int (i / 2 ^ j.toNat)) else none
  | _, _ => none
def pAnd : PyData → PyData → Option PyData
  | .int i, .int j => some (.int (Builtin.bitAnd i j))
  | _, _ => none
def pOr : PyData → PyData → Option PyData
  | .int i, .int j => some (.int (Builtin.bitOr i j))
  | _, _ => none
def pXor : PyData → PyData → Option PyData
  | .int i, .int j => some (.int (Builtin.bitXor i j))
  | _, _ => none
def pNeg : PyData → Option PyData
  | .int i => some (.int (-i))
  | _ => none
def pCmp (p : Int → Int → Bool) : PyData → PyData → Option PyData
  | .int i, .int j => some (.bool (p i j))
  | _, _ => none
def pLt := pCmp fun i j => decide (i < j)
def pLe := pCmp fun i j => decide (i ≤ j)
def pGt := pCmp fun i j => decide (j < i)
def pGe := pCmp fun i j => decide (j ≤ i)
/-- == as a bool -/
def eqB : PyData → PyData → Option Bool
  | .str x, .str y => some (decide (x = y))
  | .int x, .int y => some (decide (x = y))
  | x, y => if SeqAt.shaped x && SeqAt.shaped y then some (PyData.eqv x y) else none
def pEq (x y : PyData) : Option PyData := (eqB x y).map .bool
def pNe (x y : PyData) : Option PyData := (eqB x y).map fun b => .bool (!b)
def inB (x : PyData) : PyData → Option Bool
  | .list ds => if SeqAt.shaped x && SeqAt.shaped (.list ds) then some (ds.any fun z => PyData.eqv z x) else none
  | .tuple ds => if SeqAt.shaped x && SeqAt.shaped (.tuple ds) then some (ds.any fun z => PyData.eqv z x) else none
  | _ => none
def pIn (x y : PyData) : Option PyData := (inB x y).map .bool
def pNotIn (x y : PyData) : Option PyData := (inB x y).map fun b => .bool (!b)
def isN : PyData → Bool
  | .none => true
  | _ => false
def pIsN (x : PyData) : Option PyData := some (.bool (isN x))
def pNotN (x : PyData) : Option PyData := some (.bool (!isN x))
def truth : PyData → Option Bool
  | .none => some false
  | .bool b => some b
  | .int i => some (i != 0)
  | .list xs => some (!xs.isEmpty)
  | .tuple xs => some (!xs.isEmpty)
  | _ => none

def asI : List PyData → Option (List Int)
  | [] => some []
  | .int i :: r => (asI r).map (i :: ·)
  | _ :: _ => none
def asB : List PyData → Option (List Bool)
  | [] => some []
  | .bool i :: r => (asB r).map (i :: ·)
  | _ :: _ => none
theorem asI_map : ∀ ns : List Int, asI (ns.map .int) = some ns
  | [] => rfl
  | n :: ns => by simp only [List.map_cons, asI, asI_map ns, Option.map_some]
theorem asI_eq : ∀ {ds : List PyData} {ns : List Int}, asI ds = some ns → ds = ns.map .int
  | [], ns, h => by cases h; rfl
  | d :: ds, ns, h => by
    cases d <;> simp only [asI, Option.map_eq_some_iff, reduceCtorEq] at h
    obtain ⟨es, h1, rfl⟩ := h
    rw [asI_eq h1]; rfl
theorem asB_map : ∀ ns : List Bool, asB (ns.map .bool) = some ns
  | [] => rfl
  | n :: ns => by simp only [List.map_cons, asB, asB_map ns, Option.map_some]
theorem asB_eq : ∀ {ds : List PyData} {ns : List Bool}, asB ds = some ns → ds = ns.map .bool
  | [], ns, h => by cases h; rfl
  | d :: ds, ns, h => by
    cases d <;> simp only [asB, Option.map_eq_some_iff, reduceCtorEq] at h
    obtain ⟨es, h1, rfl⟩ := h
    rw [asB_eq h1]; rfl

def fLen : List PyData → Option PyData
  | [.list xs] => some (.int xs.length)
  | [.tuple xs] => some (.int xs.length)
  | _ => none
def items : PyData → Option (List PyData)
  | .list xs => some xs
  | .tuple xs => some xs
  | _ => none
def fSum : List PyData → Option PyData
  | [x] => (items x).bind fun xs => (asI xs).map fun ns => .int ns.sum
  | _ => none
def maxI : List Int → Option Int
  | [] => none
  | x :: r => some (r.foldl max x)
def minI : List Int → Option Int
  | [] => none
  | x :: r => some (r.foldl min x)
def fMax : List PyData → Option PyData
  | [x] => (items x).bind fun xs => (asI xs).bind fun ns => (maxI ns).map .int
  | [.int i, .int j] => some (.int (if j > i then j else i))
  | _ => none
def fMin : List PyData → Option PyData
  | [x] => (items x).bind fun xs => (asI xs).bind fun ns => (minI ns).map .int
  | [.int i, .int j] => some (.int (if j < i then j else i))
  | _ => none
def fTuple : List PyData → Option PyData
  | [.list xs] => some (.tuple xs)
  | [.tuple xs] => some (.tuple xs)
  | _ => none
def fList : List PyData → Option PyData
  | [.list xs] => some (.list xs)
  | [.tuple xs] => some (.list xs)
  | _ => none
def fAbs : List PyData → Option PyData
  | [.int i] => some (.int (if i < 0 then -i else i))
  | _ => none
def fInt : List PyData → Option PyData
  | [.int i] => some (.int i)
  | [.bool b] => some (.int (if b then 1 else 0))
  | _ => none
def fAny : List PyData → Option PyData
  | [.list xs] => (asB xs).map fun bs => .bool (bs.any id)
  | _ => none
def fAll : List PyData → Option PyData
  | [.list xs] => (asB xs).map fun bs => .bool (bs.all id)
  | _ => none
/-- what repr takes -/
def ReprOk (d : PyData) : Prop := d.showable = true ∧ d.depth ≤ 64 ∧ d.shown.length ≤ sizeLine
instance (d : PyData) : Decidable (ReprOk d) := by unfold ReprOk; infer_instance
def fRepr : List PyData → Option PyData
  | [.list xs] => if ReprOk (.list xs) then some (.str (PyData.shown (.list xs))) else none
  | [.tuple xs] => if ReprOk (.tuple xs) then some (.str (PyData.shown (.tuple xs))) else none
  | [.int i] => if ReprOk (.int i) then some (.str (PyData.shown (.int i))) else none
  | [.dict kvs] => if ReprOk (.dict kvs) then some (.str (PyData.shown (.dict kvs))) else none
  | [.str x] => if ReprOk (.str x) then some (.str (PyData.shown (.str x))) else none
  | [.bool b] => some (.str (PyData.shown (.bool b)))
  | [.none] => some (.str (PyData.shown .none))
  | _ => none
def ixD : PyData → PyData → Option PyData
  | .list xs, .int i => atI xs i
  | .tuple xs, .int i => atI xs i
  | _, _ => none
/-- the places of a slice -/
def cutL (xs : List PyData) (lo hi : Option Int) : List PyData :=
  (xs.drop (HT.sIx xs.length 0 lo)).take (HT.sIx xs.length xs.length hi - HT.sIx xs.length 0 lo)
def slD : PyData → Option Int → Option Int → Option PyData
  | .list xs, lo, hi => some (.list (cutL xs lo hi))
  | .tuple xs, lo, hi => some (.tuple (cutL xs lo hi))
  | _, _, _ => none

/-! ### expressions -/
def eC (x : PyData) : RE := fun _ m => some (.d x, m)
def eV (i : Nat) : RE := fun l m => match l[i]? with
  | some (some s) => some (s, m)
  | _ => none
def eUn (g : PyData → Option PyData) (a : RE) : RE := fun l m =>
  (a l m).bind fun p => (deref p.2 p.1).bind fun d => (g d).map fun r => (.d r, p.2)
def eOp (g : PyData → PyData → Option PyData) (a b : RE) : RE := fun l m =>
  (a l m).bind fun p => (b l p.2).bind fun q => (deref q.2 p.1).bind fun d => (deref q.2 q.1).bind fun e => (g d e).map fun r => (.d r, q.2)
def kD : L2.Key → PyData
  | .inl i => .int i
  | .inr x => .str x
def getK (k : PyData) : List (PyData × S) → Option S
  | [] => none
  | (k', v) :: r => if PyData.eqv k' k then some v else getK k r
def setK (k : PyData) (v : S) (kvs : List (PyData × S)) : List (PyData × S) :=
  if (kvs.any fun p => PyData.eqv p.1 k) = true then kvs.map (fun p => if PyData.eqv p.1 k = true then (p.1, v) else p) else kvs ++ [(k, v)]
def ixS (m : Mem) : S → PyData → Option S
  | .d d, k => (ixD d k).map .d
  | .r n, k => match m[n]?, k with
    | some (.lst ss), .int i => atI ss i
    | some (.frz xs), .int i => (atI xs i).map .d
    | some (.dct kvs), .str x => getK (.str x) kvs
    | some (.dct kvs), .int x => getK (.int x) kvs
    | some (.dcT kvs), .tuple ds => (keyOf (.tuple ds)).bind fun k => getT k kvs
    | _, _ => none
def eIx (a b : RE) : RE := fun l m =>
  (a l m).bind fun p => (b l p.2).bind fun q => (deref q.2 q.1).bind fun k => (ixS q.2 p.1 k).map fun r => (r, q.2)
/-- an optional bound of a slice -/
abbrev RO := Lo → Mem → Option (Option Int × Mem)
def oN : RO := fun _ m => some (none, m)
def oI (a : RE) : RO := fun l m => (a l m).bind fun p => match p.1 with
  | .d (.int i) => some (some i, p.2)
  | _ => none
def eSl (a : RE) (lo hi : RO) : RE := fun l m =>
  (a l m).bind fun p => (lo l p.2).bind fun q => (hi l q.2).bind fun u => (deref u.2 p.1).bind fun d => (slD d q.1 u.1).map fun r => (.d r, u.2)
def eIf (c : RT) (a b : RE) : RE := fun l m => (c l m).bind fun p => if p.1 = true then a l p.2 else b l p.2
def eAnd (a b : RE) : RE := fun l m => (a l m).bind fun p => match p.1 with
  | .d (.bool c) => if c = true then b l p.2 else some (.d (.bool false), p.2)
  | _ => none
def eOr (a b : RE) : RE := fun l m => (a l m).bind fun p => match p.1 with
  | .d (.bool c) => if c = true then some (.d (.bool true), p.2) else b l p.2
  | _ => none
def eNot (c : RT) : RE := fun l m => (c l m).map fun p => (.d (.bool (!p.1)), p.2)
/-- a op b op' c -/
def eChain (g g' : PyData → PyData → Option PyData) (a b c : RE) : RE := fun l m =>
  (a l m).bind fun p => (b l p.2).bind fun q => (deref q.2 p.1).bind fun d => (deref q.2 q.1).bind fun e => (g d e).bind fun r => match r with
    | .bool true => (c l q.2).bind fun u => (deref u.2 q.1).bind fun e' => (deref u.2 u.1).bind fun f => (g' e' f).map fun r => (.d r, u.2)
    | .bool false => some (.d (.bool false), q.2)
    | _ => none

/-! ### tests -/
def tV (a : RE) : RT := fun l m => (a l m).bind fun p => (deref p.2 p.1).bind fun d => (truth d).map fun b => (b, p.2)
def tAnd (a b : RT) : RT := fun l m => (a l m).bind fun p => if p.1 = true then b l p.2 else some (false, p.2)
def tOr (a b : RT) : RT := fun l m => (a l m).bind fun p => if p.1 = true then some (true, p.2) else b l p.2
def tNot (a : RT) : RT := fun l m => (a l m).map fun p => (!p.1, p.2)
def tYes : RT := fun _ m => some (true, m)

/-! ### displays, calls -/
def rA : List RE → RA
  | [] => fun _ m => some ([], m)
  | a :: r => fun l m => (a l m).bind fun p => (rA r l p.2).map fun q => (p.1 :: q.1, q.2)
def eTup (as : List RE) : RE := fun l m => (rA as l m).bind fun p => (allD p.1).map fun ds => (.d (.tuple ds), p.2)
def eLst (as : List RE) : RE := fun l m => (rA as l m).bind fun p => (allD p.1).map fun ds => (.d (.list ds), p.2)
def eLstM (as : List RE) : RE := fun l m => (rA as l m).map fun p => (.r p.2.length, p.2 ++ [.lst p.1])
def eB (g : List PyData → Option PyData) (as : List RE) : RE := fun l m => (rA as l m).bind fun p => (derefs p.2 p.1).bind fun ds => (g ds).map fun r => (.d r, p.2)
abbrev PF := List PyData → Option PyData
abbrev IF := List S → Mem → Option (S × Mem)
/-- positions put in another order -/
def pick {α : Type} (is : List Nat) (xs : List α) : List α := is.filterMap fun i => xs[i]?
/-- arguments, some by their names -/
def rK (is : List Nat) (as ks : List RE) : RA := fun l m => (rA as l m).bind fun p => (rA ks l p.2).map fun q => (pick is (p.1 ++ q.1), q.2)
def eP (F : PF) (as : RA) : RE := fun l m => (as l m).bind fun p => (allD p.1).bind fun ds => (F ds).map fun r => (.d r, p.2)
def eI (F : IF) (as : RA) : RE := fun l m => (as l m).bind fun p => F p.1 p.2
/-- a list that is never changed from now on, by value -/
def eZ (a : RE) : RE := fun l m => (a l m).bind fun p => match p.1 with
  | .d x => some (.d x, p.2)
  | .r n => match p.2[n]? with
    | some (.lst ss) => (allD ss).map fun ds => (.d (.list ds), p.2.set n (.frz ds))
    | some (.frz ds) => some (.d (.list ds), p.2)
    | _ => none
/-- a dict display with texts as keys -/
def eDct (ks : List Str) (as : List RE) : RE := fun l m => (rA as l m).map fun p => (.r p.2.length, p.2 ++ [.dct ((ks.map PyData.str).zip p.1)])

/-! ### what is walked -/
def iD (a : RE) : RI := fun l m => (eZ a l m).bind fun p => match p.1 with
  | .d x => (items x).map fun xs => (xs.map S.d, p.2)
  | .r _ => none
def upto (n : Nat) : List PyData := (List.range n).map fun i => .int (i : Nat)
def fromTo (i : Int) (n : Nat) : List PyData := (List.range n).map fun k => .int (i + (k : Nat))
def iRange (a : RE) : RI := fun l m => (a l m).bind fun p => match p.1 with
  | .d (.int j) => if -lim ≤ j ∧ j ≤ lim then some ((upto j.toNat).map S.d, p.2) else none
  | _ => none
def iRange2 (a b : RE) : RI := fun l m => (a l m).bind fun p => (b l p.2).bind fun q => match p.1, q.1 with
  | .d (.int i), .d (.int j) => if -lim ≤ i ∧ j ≤ lim ∧ i ≤ lim ∧ -lim ≤ j then some ((fromTo i (j - i).toNat).map S.d, q.2) else none
  | _, _ => none
def pairs : List PyData → List PyData → List PyData
  | x :: xs, y :: ys => .tuple [x, y] :: pairs xs ys
  | _, _ => []
def iZip (a b : RE) : RI := fun l m => (eZ a l m).bind fun p => (eZ b l p.2).bind fun q => match p.1, q.1 with
  | .d x, .d y => (items x).bind fun xs => (items y).map fun ys => ((pairs xs ys).map S.d, q.2)
  | _, _ => none
def iEnum (a : RE) : RI := fun l m => (eZ a l m).bind fun p => match p.1 with
  | .d x => (items x).map fun xs => ((pairs (upto xs.length) xs).map S.d, p.2)
  | .r _ => none

/-! ### targets -/
def gN (i : Nat) : Tg := fun x l => some (l.set i (some x))
def gAll : List Tg → List PyData → Lo → Option Lo
  | [], [], l => some l
  | t :: ts, x :: xs, l => (t (.d x) l).bind fun l' => gAll ts xs l'
  | _, _, _ => none
def gT (ts : List Tg) : Tg := fun x l => match x with
  | .d (.tuple ds) => gAll ts ds l
  | _ => none

/-! ### comprehensions -/
def wipe (l : Lo) : List Nat → Lo
  | [] => l
  | v :: vs => (wipe l vs).set v none
def lcGo (vs : List Nat) (g : Tg) (t : RT) (e : RE) : List S → Lo → Mem → Option (List S × Mem)
  | [], _, m => some ([], m)
  | x :: xs, l, m => (g x (wipe l vs)).bind fun l1 => (t l1 m).bind fun b =>
      if b.1 = true then (e l1 b.2).bind fun p => (lcGo vs g t e xs l p.2).map fun q => (p.1 :: q.1, q.2) else lcGo vs g t e xs l b.2
def eLc (vs : List Nat) (it : RI) (g : Tg) (t : RT) (e : RE) : RE := fun l m =>
  (it l m).bind fun p => (lcGo vs g t e p.1 l p.2).bind fun q => (allD q.1).map fun ds => (.d (.list ds), q.2)
def eLcM (vs : List Nat) (it : RI) (g : Tg) (t : RT) (e : RE) : RE := fun l m =>
  (it l m).bind fun p => (lcGo vs g t e p.1 l p.2).map fun q => (.r q.2.length, q.2 ++ [.lst q.1])

/-! ### statements -/
def sSkip : RS := fun l m => some (.nx, l, m)
def sBrk : RS := fun l m => some (.bk, l, m)
def sCnt : RS := fun l m => some (.ct, l, m)
def sSeq (a b : RS) : RS := fun l m => (a l m).bind fun p => match p.1 with
  | .nx => b p.2.1 p.2.2
  | c => some (c, p.2.1, p.2.2)
def sAsg (g : Tg) (e : RE) : RS := fun l m => (e l m).bind fun p => (g p.1 l).map fun l' => (.nx, l', p.2)
abbrev sSet (i : Nat) (e : RE) : RS := sAsg (gN i) e
/-- several names at once -/
def sPar (is : List Nat) (as : List RE) : RS := fun l m => (rA as l m).map fun p => (.nx, (is.zip p.1).foldl (fun l q => l.set q.1 (some q.2)) l, p.2)
def sAug (i : Nat) (g : PyData → PyData → Option PyData) (e : RE) : RS := sSet i (eOp g (eV i) e)
def sDrop (e : RE) : RS := fun l m => (e l m).map fun p => (.nx, l, p.2)
def sRet (e : RE) : RS := fun l m => (e l m).map fun p => (.rt p.1, l, p.2)
def sRetN : RS := fun l m => some (.rt (.d .none), l, m)
def sIf (c : RT) (a b : RS) : RS := fun l m => (c l m).bind fun p => if p.1 = true then a l p.2 else b l p.2
def forGo (g : Tg) (b : RS) : List S → Lo → Mem → Option (Ct × Lo × Mem)
  | [], l, m => some (.nx, l, m)
  | x :: xs, l, m => (g x l).bind fun l1 => (b l1 m).bind fun p => match p.1 with
    | .nx => forGo g b xs p.2.1 p.2.2
    | .ct => forGo g b xs p.2.1 p.2.2
    | .bk => some (.nx, p.2.1, p.2.2)
    | .rt s => some (.rt s, p.2.1, p.2.2)
def sFor (it : RI) (g : Tg) (b : RS) : RS := fun l m => (it l m).bind fun p => forGo g b p.1 l p.2
def whileGo (c : RT) (b : RS) : Nat → Lo → Mem → Option (Ct × Lo × Mem)
  | 0, _, _ => none
  | k + 1, l, m => (c l m).bind fun q => if q.1 = true then (b l q.2).bind fun p => match p.1 with
      | .nx => whileGo c b k p.2.1 p.2.2
      | .ct => whileGo c b k p.2.1 p.2.2
      | .bk => some (.nx, p.2.1, p.2.2)
      | .rt s => some (.rt s, p.2.1, p.2.2)
    else some (.nx, l, q.2)
def sWhile (k : Nat) (c : RT) (b : RS) : RS := fun l m => whileGo c b k l m

/-! ### what changes an object -/
def putI (xs : List S) (i : Int) (v : S) : Option (List S) := (ixN xs.length i).map fun j => xs.set j v
/-- o[i] = v -/
def setS (m : Mem) : S → PyData → S → Option Mem
  | .r n, k, v => match m[n]?, k with
    | some (.lst ss), .int i => (putI ss i v).map fun ss' => m.set n (.lst ss')
    | some (.dct kvs), .str x => if kvs.length < lim then some (m.set n (.dct (setK (.str x) v kvs))) else none
    | some (.dct kvs), .int x => if kvs.length < lim then some (m.set n (.dct (setK (.int x) v kvs))) else none
    | some (.dcT kvs), .tuple ds => (keyOf (.tuple ds)).bind fun k => if kvs.length < lim then some (m.set n (.dcT (setT k v kvs))) else none
    | _, _ => none
  | _, _, _ => none
def sPut (o i e : RE) : RS := fun l m => (e l m).bind fun v => (o l v.2).bind fun p => (i l p.2).bind fun q => (deref q.2 q.1).bind fun k => (setS q.2 p.1 k v.1).map fun m' => (.nx, l, m')
def mAppend (m : Mem) : S → List S → Option (S × Mem)
  | .r n, [v] => match m[n]? with
    | some (.lst ss) => if ss.length < lim then some (.d .none, m.set n (.lst (ss ++ [v]))) else none
    | _ => none
  | _, _ => none
def mExtend (m : Mem) : S → List S → Option (S × Mem)
  | .r n, [v] => match m[n]?, deref m v with
    | some (.lst ss), some (.list xs) => if ss.length + xs.length ≤ lim then some (.d .none, m.set n (.lst (ss ++ xs.map S.d))) else none
    | _, _ => none
  | _, _ => none
def mPop (m : Mem) : S → List S → Option (S × Mem)
  | .r n, [] => match m[n]? with
    | some (.lst ss) => (ss[ss.length - 1]?).map fun x => (x, m.set n (.lst ss.dropLast))
    | _ => none
  | _, _ => none
def isL (m : Mem) : S → Bool
  | .r n => match m[n]? with
    | some (.lst _) => true
    | _ => false
  | _ => false
def eM (g : Mem → S → List S → Option (S × Mem)) (o : RE) (as : List RE) : RE := fun l m => (o l m).bind fun p => if isL p.2 p.1 = true then (rA as l p.2).bind fun q => g q.2 p.1 q.1 else none

/-! ### defs -/
def lo0 (n : Nat) (ss : List S) : Lo := ss.map some ++ List.replicate (n - ss.length) none
/-- a def that only makes data of data -/
def runP (n : Nat) (b : RS) : PF := fun ds => (b (lo0 n (ds.map S.d)) []).bind fun p => match p.1 with
  | .rt s => deref p.2.2 s
  | .nx => some .none
  | _ => none
/-- a def that works on the caller's objects -/
def runI (n : Nat) (b : RS) : IF := fun ss m => (b (lo0 n ss) m).bind fun p => match p.1 with
  | .rt s => some (s, p.2.2)
  | .nx => some (.d .none, p.2.2)
  | _ => none
end Fz

set_option linter.all false
set_option autoImplicit false
set_option maxRecDepth 100000
/-! FzS1: what a reading speaks of: data by value in the abstract heap, the world (permission, addresses, memory), its steps. -/
namespace Fz
open PySem PySem.Spec PyProof.Rows L2

/-- a list that the text's own objects hold -/
def KL (K : PySem.W.Frag) (a : Addr) (xs : List V) : Prop := ∃ (its : List Value) (n : Nat), K.lookup a = some { cls := .type "list", data := .seq its.toArray n } ∧ Vals xs its ∧ its.length ≤ sizeLine ∧ (a == sysModules) = false
def RdL (K : PySem.W.Frag) (H : Hp) (a : Addr) (xs : List V) : Prop := Rd H a (.lst xs) ∨ KL K a xs
theorem RdL.seq {K : PySem.W.Frag} {H : Hp} {a : Addr} {xs : List V} (h : RdL K H a xs) : SqL K H a xs := by
  rcases h with h | ⟨its, n, e, r, z, _⟩
  · exact .inl h
  · exact .inr ⟨_, its.toArray, n, e, rfl, rfl, rfl, by simpa using z, by simpa using r⟩
/-- a tuple of the text's own objects, or one of which the object is known: no dict of its own -/
def SqN (K : PySem.W.Frag) (H : Hp) (a : Addr) (xs : List V) : Prop :=
  (∃ o : Obj, H a = some (.frz o (.tup xs)) ∧ o.dict = none) ∨
    ∃ (o : Obj) (its : Array Value) (n : Nat), K.lookup a = some o ∧ o.cls = .type "tuple" ∧ o.dict = none ∧ o.data = .seq its n ∧ its.size ≤ sizeLine ∧ Vals xs its.toList
theorem SqN.sq {K : PySem.W.Frag} {H : Hp} {a : Addr} {xs : List V} (h : SqN K H a xs) : SqT K H a xs := by
  rcases h with ⟨o, h, _⟩ | ⟨o, its, n, h1, h2, _, h3⟩
  · exact .inl (.inr ⟨o, h⟩)
  · exact .inr ⟨o, its, n, h1, h2, h3⟩
/-- a value without parts and its data -/
def AtomV (v : Value) : PyData → Prop
  | .none => v = .none
  | .bool b => v = .bool b
  | .int i => ∃ t, v = .int i t
  | .str x => ∃ t, v = .str x t
  | _ => False
/-- at a: a dict of such -/
def DVal (a : Addr) (kvs : List (PyData × PyData)) (h : Heap) : Prop := (a == sysModules) = false ∧ ∃ (o : Obj) (es : Array DictEntry) (n : Nat), h.get? a = some o ∧ o.ExactDict ∧ o.data = .dict es n ∧ Paired AtomV (es.toList.map (·.key)) (kvs.map (·.1)) ∧ Paired AtomV (es.toList.map (·.val)) (kvs.map (·.2))
def DV (a : Addr) (kvs : List (PyData × PyData)) : HO := .ext (DVal a kvs)
/-- the modules' dict is tracked -/
def SysH (H : Hp) : Prop := ∃ u, H sysModules = some u ∧ ∃ (o : Obj) (φ : Heap → Prop), u = .frz o (.ext φ)
section
variable (K : PySem.W.Frag) (P : Addr → Prop) (H : Hp)
mutual
/-- v is the data d; a list within is one that stays (P) -/
inductive Dq : V → PyData → Prop
  | non : Dq .non .none
  | bl (b : Bool) : Dq (.bl b) (.bool b)
  | int (i : Int) : Dq (.int i) (.int i)
  | str (x : Str) : Dq (.str x) (.str x)
  | lst {a : Addr} {xs : List V} {ds : List PyData} : Rd H a (.lst xs) → P a → ds.length ≤ sizeLine → DqAll xs ds → Dq (.ref a) (.list ds)
  | lstK {a : Addr} {xs : List V} {ds : List PyData} : KL K a xs → ds.length ≤ sizeLine → DqAll xs ds → Dq (.ref a) (.list ds)
  | tup {a : Addr} {xs : List V} {ds : List PyData} : SqN K H a xs → ds.length ≤ sizeLine → DqAll xs ds → Dq (.ref a) (.tuple ds)
  | dct {a : Addr} {kvs : List (PyData × PyData)} : H a = some (DV a kvs) → P a → SysH H → P sysModules → Dq (.ref a) (.dict kvs)
inductive DqAll : List V → List PyData → Prop
  | nil : DqAll [] []
  | cons {v : V} {vs : List V} {d : PyData} {ds : List PyData} : Dq v d → DqAll vs ds → DqAll (v :: vs) (d :: ds)
end
end

def isLive : Option MO → Bool
  | some (.lst _) => true
  | some (.dct _) => true
  | some (.dcT _) => true
  | _ => false
def live (m : Mem) (n : Nat) : Prop := isLive m[n]? = true
/-- what is not a live object of the memory, and is permitted from outside -/
def Pq (P0 : Addr → Prop) (α : Nat → Addr) (m : Mem) (a : Addr) : Prop := P0 a ∧ ∀ n, live m n → α n ≠ a

mutual
/-- the hash of a key without texts -/
def nh : NestedKey → Int
  | .none => reduceHash 0xFCA86420
  | .num i => hashInt i
  | .text _ => 0
  | .tup ks => reduceHash (Builtin.Tuple.tupleHashOf (nhs ks))
def nhs : List NestedKey → List Int
  | [] => []
  | k :: ks => nh k :: nhs ks
end
abbrev DEnt := NestedKey × Addr × Value
/-- the raw dict at a: its entries -/
def DRaw (a : Addr) (xs : List DEnt) (h : Heap) : Prop := xs.length ≤ sizeLine ∧ (a == sysModules) = false ∧ (xs.map (·.1)).Nodup ∧ ∃ o es ep, h.get? a = some o ∧ o.ExactDict ∧ o.data = .dict es ep ∧ es.toList = xs.map fun x => (⟨nh x.1, .ref x.2.1, x.2.2⟩ : DictEntry)
def DN (a : Addr) (xs : List DEnt) : HO := .ext (DRaw a xs)
structure Wo where
  P0 : Addr → Prop
  al : Nat → Addr
  m : Mem
abbrev Wo.P (w : Wo) : Addr → Prop := Pq w.P0 w.al w.m

section
variable (K : PySem.W.Frag) (w : Wo) (H : Hp)
def SV (v : V) : S → Prop
  | .d x => Dq K w.P H v x
  | .r n => n < w.m.length ∧ v = .ref (w.al n)
abbrev SVs : List V → List S → Prop := Paired (SV K w H)
/-- the dict's entries -/
def DEt (P : Addr → Prop) (x : DEnt) : Prop := ∃ d, Dq K P H (.ref x.2.1) d ∧ keyOf d = some x.1
def TSV : List DEnt → List (NestedKey × S) → Prop := Paired fun x p => x.1 = p.1 ∧ DEt K H w.P x ∧ ∃ v, RelV v x.2.2 ∧ SV K w H v p.2
def KSV : List (Key × V) → List (PyData × S) → Prop := Paired fun p q => kD p.1 = q.1 ∧ SV K w H p.2 q.2
structure Wd : Prop where
  sys : SysH H
  syp : w.P0 sysModules
  syn : ∀ n, n < w.m.length → w.al n ≠ sysModules
  fre : ∀ a, H a = none → w.P0 a
  inj : ∀ i j, i < w.m.length → j < w.m.length → w.al i = w.al j → i = j
  per : ∀ n, n < w.m.length → w.P0 (w.al n)
  lst : ∀ n ss, w.m[n]? = some (.lst ss) → ss.length ≤ sizeLine ∧ ∃ vs, H (w.al n) = some (.lst vs) ∧ SVs K w H vs ss
  frz : ∀ n ds, w.m[n]? = some (.frz ds) → ds.length ≤ sizeLine ∧ ∃ vs, H (w.al n) = some (.lst vs) ∧ DqAll K w.P H vs ds
  dct : ∀ n kvs, w.m[n]? = some (.dct kvs) → ∃ kv', H (w.al n) = some (.dK kv') ∧ KSV K w H kv' kvs
  dcT : ∀ n kvs, w.m[n]? = some (.dcT kvs) → ∃ xs, H (w.al n) = some (DN (w.al n) xs) ∧ TSV K w H xs kvs
def SL (σ : L2.St) (l : Lo) : Prop := l.length = σ.length ∧ ∀ (i : Nat) (s : S), l[i]? = some (some s) → ∃ v, σ[i]? = some (some v) ∧ SV K w H v s
end

structure Ex (w : Wo) (H : Hp) (w' : Wo) (H' : Hp) : Prop where
  out : w'.P0 = w.P0
  len : w.m.length ≤ w'.m.length
  same : ∀ n, n < w.m.length → w'.al n = w.al n
  keep : ∀ a o, H a = some o → (∀ n, live w.m n → w.al n ≠ a) → H' a = some o ∧ ∀ n, live w'.m n → w'.al n ≠ a
theorem Ex.refl (w : Wo) (H : Hp) : Ex w H w H := ⟨rfl, Nat.le_refl _, fun _ _ => rfl, fun _ _ h p => ⟨h, p⟩⟩
theorem Ex.trans {w w1 w2 : Wo} {H H1 H2 : Hp} (a : Ex w H w1 H1) (b : Ex w1 H1 w2 H2) : Ex w H w2 H2 :=
  ⟨b.out.trans a.out, Nat.le_trans a.len b.len, fun n h => (b.same n (Nat.lt_of_lt_of_le h a.len)).trans (a.same n h), fun a' o h p => let ⟨h1, p1⟩ := a.keep a' o h p; b.keep a' o h1 p1⟩

section
variable {K : PySem.W.Frag} {w w' : Wo} {H H' : Hp} {P P' : Addr → Prop}
theorem live_lt {m : Mem} {n : Nat} (h : live m n) : n < m.length := by
  rcases Nat.lt_or_ge n m.length with q | q
  · exact q
  · unfold live at h; rw [List.getElem?_eq_none q] at h; cases h
theorem Wd.liveAt (W : Wd K w H) {n : Nat} (h : live w.m n) : (∃ vs, H (w.al n) = some (.lst vs)) ∨ (∃ kv, H (w.al n) = some (.dK kv)) ∨ ∃ φ, H (w.al n) = some (.ext φ) := by
  unfold live at h
  cases q : w.m[n]? with
  | none => rw [q] at h; cases h
  | some o =>
    cases o with
    | lst ss => obtain ⟨_, vs, e, _⟩ := W.lst n ss q; exact .inl ⟨vs, e⟩
    | frz ds => rw [q] at h; cases h
    | dct kvs => obtain ⟨vs, e, _⟩ := W.dct n kvs q; exact .inr (.inl ⟨vs, e⟩)
    | dcT kvs => obtain ⟨xs, e, _⟩ := W.dcT n kvs q; exact .inr (.inr ⟨_, e⟩)
/-- a tracked thing that is no mutable object is not live -/
def Lv (w : Wo) (H : Hp) : Prop := ∀ n, live w.m n → (∃ vs, H (w.al n) = some (.lst vs)) ∨ (∃ kv, H (w.al n) = some (.dK kv)) ∨ ∃ φ, H (w.al n) = some (.ext φ)
theorem Wd.lv (W : Wd K w H) : Lv w H := fun n h => W.liveAt h
theorem Lv.nl (W : Lv w H) {a : Addr} {o : HO} (h : H a = some o) (h1 : ∀ vs, o ≠ .lst vs) (h2 : ∀ kv, o ≠ .dK kv) (h3 : ∀ φ, o ≠ .ext φ) : ∀ n, live w.m n → w.al n ≠ a := fun n hl e => by
  subst e
  rcases W n hl with ⟨vs, q⟩ | ⟨kv, q⟩ | ⟨φ, q⟩
  · rw [q] at h; cases h; exact h1 _ rfl
  · rw [q] at h; cases h; exact h2 _ rfl
  · rw [q] at h; cases h; exact h3 _ rfl
theorem Lv.rdT (W : Lv w H) (E : Ex w H w' H') {a : Addr} {xs : List V} (h : SqT K H a xs) : SqT K H' a xs := by
  rcases h with (h | ⟨o, h⟩) | h
  · exact .inl (.inl (E.keep a _ h (W.nl h (by intro _ q; cases q) (by intro _ q; cases q) (by intro _ q; cases q))).1)
  · exact .inl (.inr ⟨o, (E.keep a _ h (W.nl h (by intro _ q; cases q) (by intro _ q; cases q) (by intro _ q; cases q))).1⟩)
  · exact .inr h
theorem Lv.rdN (W : Lv w H) (E : Ex w H w' H') {a : Addr} {xs : List V} (h : SqN K H a xs) : SqN K H' a xs := by
  rcases h with ⟨o, h, hd⟩ | h
  · exact .inl ⟨o, (E.keep a _ h (W.nl h (by intro _ q; cases q) (by intro _ q; cases q) (by intro _ q; cases q))).1, hd⟩
  · exact .inr h
theorem Wd.rdT (W : Wd K w H) (E : Ex w H w' H') {a : Addr} {xs : List V} (h : SqT K H a xs) : SqT K H' a xs := W.lv.rdT E h
theorem Wd.rdL (E : Ex w H w' H') {a : Addr} {xs : List V} (h : Rd H a (.lst xs)) (p : w.P a) : Rd H' a (.lst xs) ∧ w'.P a := by
  obtain ⟨p0, pn⟩ := p
  rcases h with h | ⟨o, h⟩
  · obtain ⟨q, r⟩ := E.keep a _ h pn
    exact ⟨.inl q, by rw [E.out]; exact p0, r⟩
  · obtain ⟨q, r⟩ := E.keep a _ h pn
    exact ⟨.inr ⟨o, q⟩, by rw [E.out]; exact p0, r⟩
theorem Ex.at (E : Ex w H w' H') {a : Addr} {o : HO} (h : H a = some o) (p : w.P a) : H' a = some o ∧ w'.P a := by
  obtain ⟨q, r⟩ := E.keep a _ h p.2
  exact ⟨q, by rw [E.out]; exact p.1, r⟩
theorem Ex.sys (E : Ex w H w' H') (h : SysH H) (p : w.P sysModules) : SysH H' ∧ w'.P sysModules := let ⟨φ, e⟩ := h; let ⟨a, b⟩ := E.at e.1 p; ⟨⟨φ, a, e.2⟩, b⟩
mutual
theorem Dq.go' (W : Lv w H) (E : Ex w H w' H') : ∀ {v : V} {d : PyData}, Dq K w.P H v d → Dq K w'.P H' v d
  | _, _, .non => .non
  | _, _, .bl b => .bl b
  | _, _, .int i => .int i
  | _, _, .str x => .str x
  | _, _, .lst h p z a => .lst (Wd.rdL E h p).1 (Wd.rdL E h p).2 z (DqAll.go' W E a)
  | _, _, .lstK h z a => .lstK h z (DqAll.go' W E a)
  | _, _, .tup h z a => .tup (W.rdN E h) z (DqAll.go' W E a)
  | _, _, .dct h p hs ps => .dct (E.at h p).1 (E.at h p).2 (E.sys hs ps).1 (E.sys hs ps).2
theorem DqAll.go' (W : Lv w H) (E : Ex w H w' H') : ∀ {vs : List V} {ds : List PyData}, DqAll K w.P H vs ds → DqAll K w'.P H' vs ds
  | _, _, .nil => .nil
  | _, _, .cons a b => .cons (Dq.go' W E a) (DqAll.go' W E b)
end
theorem Dq.go (W : Wd K w H) (E : Ex w H w' H') {v : V} {d : PyData} (h : Dq K w.P H v d) : Dq K w'.P H' v d := Dq.go' W.lv E h
theorem DqAll.go (W : Wd K w H) (E : Ex w H w' H') {vs : List V} {ds : List PyData} (h : DqAll K w.P H vs ds) : DqAll K w'.P H' vs ds := DqAll.go' W.lv E h
mutual
/-- growth of the heap, of the permission -/
theorem Dq.mono (S0 : Same H H') (hp : ∀ a o, H a = some o → P a → P' a) : ∀ {v : V} {d : PyData}, Dq K P H v d → Dq K P' H' v d
  | _, _, .non => .non
  | _, _, .bl b => .bl b
  | _, _, .int i => .int i
  | _, _, .str x => .str x
  | _, _, .lst (a := a) h p z r => .lst (by rcases h with h | ⟨o, h⟩; exact .inl (S0 _ _ h); exact .inr ⟨o, S0 _ _ h⟩) (by rcases h with h | ⟨o, h⟩ <;> exact hp a _ h p) z (DqAll.mono S0 hp r)
  | _, _, .lstK h z a => .lstK h z (DqAll.mono S0 hp a)
  | _, _, .tup h z r => .tup (by rcases h with ⟨o, h, hd⟩ | h; exact .inl ⟨o, S0 _ _ h, hd⟩; exact .inr h) z (DqAll.mono S0 hp r)
  | _, _, .dct h p hs ps => .dct (S0 _ _ h) (hp _ _ h p) (hs.imp fun _ e => ⟨S0 _ _ e.1, e.2⟩) (hs.elim fun _ e => hp _ _ e.1 ps)
theorem DqAll.mono (S0 : Same H H') (hp : ∀ a o, H a = some o → P a → P' a) : ∀ {vs : List V} {ds : List PyData}, DqAll K P H vs ds → DqAll K P' H' vs ds
  | _, _, .nil => .nil
  | _, _, .cons a b => .cons (Dq.mono S0 hp a) (DqAll.mono S0 hp b)
end
theorem Dq.tup_inv {v : V} {ds : List PyData} (h : Dq K P H v (.tuple ds)) : ∃ a xs, v = .ref a ∧ SqT K H a xs ∧ ds.length ≤ sizeLine ∧ DqAll K P H xs ds := match h with
  | .tup h z r => ⟨_, _, rfl, h.sq, z, r⟩
theorem Dq.tup_invN {v : V} {ds : List PyData} (h : Dq K P H v (.tuple ds)) : ∃ a xs, v = .ref a ∧ SqN K H a xs ∧ ds.length ≤ sizeLine ∧ DqAll K P H xs ds := match h with
  | .tup h z r => ⟨_, _, rfl, h, z, r⟩
theorem Dq.lst_inv {v : V} {ds : List PyData} (h : Dq K P H v (.list ds)) : ∃ a xs, v = .ref a ∧ ((Rd H a (.lst xs) ∧ P a) ∨ KL K a xs) ∧ ds.length ≤ sizeLine ∧ DqAll K P H xs ds := match h with
  | .lst h p z r => ⟨_, _, rfl, .inl ⟨h, p⟩, z, r⟩
  | .lstK h z r => ⟨_, _, rfl, .inr h, z, r⟩
theorem SV.go (W : Wd K w H) (E : Ex w H w' H') {v : V} {s : S} (h : SV K w H v s) : SV K w' H' v s := by
  cases s with
  | d x => exact Dq.go W E h
  | r n => exact ⟨Nat.lt_of_lt_of_le h.1 E.len, by rw [E.same n h.1]; exact h.2⟩
theorem SVs.go (W : Wd K w H) (E : Ex w H w' H') : ∀ {vs : List V} {ss : List S}, SVs K w H vs ss → SVs K w' H' vs ss
  | _, _, .nil => .nil
  | _, _, .cons a b => .cons (SV.go W E a) (SVs.go W E b)
theorem KSV.go (W : Wd K w H) (E : Ex w H w' H') : ∀ {vs : List (Key × V)} {ss : List (PyData × S)}, KSV K w H vs ss → KSV K w' H' vs ss
  | _, _, .nil => .nil
  | _, _, .cons a b => .cons ⟨a.1, SV.go W E a.2⟩ (KSV.go W E b)
theorem DEt.go (W : Wd K w H) (E : Ex w H w' H') {x : DEnt} (h : DEt K H w.P x) : DEt K H' w'.P x := let ⟨d, a, b⟩ := h; ⟨d, Dq.go W E a, b⟩
theorem TSV.go (W : Wd K w H) (E : Ex w H w' H') : ∀ {vs : List DEnt} {ss : List (NestedKey × S)}, TSV K w H vs ss → TSV K w' H' vs ss
  | _, _, .nil => .nil
  | _, _, .cons a b => .cons ⟨a.1, DEt.go W E a.2.1, let ⟨v, r1, r2⟩ := a.2.2; ⟨v, r1, SV.go W E r2⟩⟩ (TSV.go W E b)
theorem SL.go (W : Wd K w H) (E : Ex w H w' H') {σ : L2.St} {l : Lo} (h : SL K w H σ l) : SL K w' H' σ l :=
  ⟨h.1, fun i s e => let ⟨v, q, r⟩ := h.2 i s e; ⟨v, q, SV.go W E r⟩⟩
/-- more is laid, nothing is changed -/
theorem Wd.same (W : Wd K w H) (S0 : Same H H') : Ex w H w H' ∧ Wd K w H' := by
  have E : Ex w H w H' := ⟨rfl, Nat.le_refl _, fun _ _ => rfl, fun a o h p => ⟨S0 a o h, p⟩⟩
  refine ⟨E, W.sys.imp fun _ e => ⟨S0 _ _ e.1, e.2⟩, W.syp, W.syn, fun a h => W.fre a (S0.free h), W.inj, W.per, fun n ss e => ?_, fun n ds e => ?_, fun n kvs e => ?_, fun n kvs e => ?_⟩
  · obtain ⟨z, vs, h, r⟩ := W.lst n ss e; exact ⟨z, vs, S0 _ _ h, SVs.go W E r⟩
  · obtain ⟨z, vs, h, r⟩ := W.frz n ds e; exact ⟨z, vs, S0 _ _ h, DqAll.go W E r⟩
  · obtain ⟨vs, h, r⟩ := W.dct n kvs e; exact ⟨vs, S0 _ _ h, KSV.go W E r⟩
  · obtain ⟨vs, h, r⟩ := W.dcT n kvs e; exact ⟨vs, S0 _ _ h, TSV.go W E r⟩
/-- a fresh address is permitted -/
theorem Wd.new (W : Wd K w H) {p : Addr} (h : H p = none) : w.P p := ⟨W.fre p h, fun n hl e => by
  subst e
  rcases W.liveAt hl with ⟨_, q⟩ | ⟨_, q⟩ | ⟨_, q⟩ <;> (rw [q] at h; cases h)⟩
theorem SV.d_of {v : V} {x : PyData} (h : Dq K w.P H v x) : SV K w H v (.d x) := h
theorem SVs.d : ∀ {vs : List V} {ds : List PyData}, DqAll K w.P H vs ds → SVs K w H vs (ds.map S.d)
  | _, _, .nil => .nil
  | _, _, .cons a b => .cons a (SVs.d b)
theorem SVs.all : ∀ {vs : List V} {ss : List S} {ds : List PyData}, SVs K w H vs ss → allD ss = some ds → DqAll K w.P H vs ds
  | _, _, _, .nil, h => by cases h; exact .nil
  | _, .d x :: r, ds, .cons a b, h => by
    simp only [allD, Option.map_eq_some_iff] at h
    obtain ⟨es, h1, rfl⟩ := h
    exact .cons a (SVs.all b h1)
  | _, .r _ :: _, _, .cons _ _, h => by cases h
theorem SVs.len {vs : List V} {ss : List S} (h : SVs K w H vs ss) : vs.length = ss.length := Paired.length h
theorem DqAll.len : ∀ {vs : List V} {ds : List PyData}, DqAll K P H vs ds → vs.length = ds.length
  | _, _, .nil => rfl
  | _, _, .cons _ b => by rw [List.length_cons, List.length_cons, DqAll.len b]

/-! ### momentary readings: the top may be a live list -/
/-- v reads as d now -/
def Dt (K : PySem.W.Frag) (P : Addr → Prop) (H : Hp) (v : V) (d : PyData) : Prop := Dq K P H v d ∨ ∃ a xs ds, v = .ref a ∧ Rd H a (.lst xs) ∧ DqAll K P H xs ds ∧ d = .list ds
def DtAll (K : PySem.W.Frag) (P : Addr → Prop) (H : Hp) : List V → List PyData → Prop := Paired (Dt K P H)
theorem SV.deref (W : Wd K w H) {v : V} {s : S} {d : PyData} (h : SV K w H v s) (e : deref w.m s = some d) : Dt K w.P H v d := by
  cases s with
  | d x => cases e; exact .inl h
  | r n =>
    obtain ⟨hn, rfl⟩ := h
    simp only [Fz.deref] at e
    cases q : w.m[n]? with
    | none => rw [q] at e; cases e
    | some o =>
      rw [q] at e
      cases o with
      | lst ss =>
        obtain ⟨_, vs, h1, h2⟩ := W.lst _ _ q
        have e' : (allD ss).map PyData.list = some d := e
        rw [Option.map_eq_some_iff] at e'
        obtain ⟨ds, e1, rfl⟩ := e'
        exact .inr ⟨_, vs, ds, rfl, .inl h1, SVs.all h2 e1, rfl⟩
      | frz xs =>
        obtain ⟨z, vs, h1, h2⟩ := W.frz _ _ q
        cases e
        exact .inr ⟨_, vs, xs, rfl, .inl h1, h2, rfl⟩
      | dct kvs => cases e
      | dcT kvs => cases e
theorem SVs.derefs (W : Wd K w H) : ∀ {vs : List V} {ss : List S} {ds : List PyData}, SVs K w H vs ss → derefs w.m ss = some ds → DtAll K w.P H vs ds
  | _, _, _, .nil, e => by cases e; exact .nil
  | _, s :: r, ds, .cons a b, e => by
    simp only [Fz.derefs, Option.bind_eq_some_iff, Option.map_eq_some_iff] at e
    obtain ⟨d, e1, es, e2, rfl⟩ := e
    exact .cons (SV.deref W a e1) (SVs.derefs W b e2)
theorem atoms_read {h : Heap} : ∀ {us : List Value} {ds : List PyData}, Paired AtomV us ds → ReadsAll h us ds []
  | _, _, .nil => .nil
  | _, d :: _, .cons a b => by
    have r := atoms_read (h := h) b
    cases d <;> simp only [AtomV] at a
    · subst a; exact .cons (as := []) .none r
    · subst a; exact .cons (as := []) (.bool _) r
    · obtain ⟨t, rfl⟩ := a; exact .cons (as := []) (.int _ t) r
    · obtain ⟨t, rfl⟩ := a; exact .cons (as := []) (.str _ t) r
section
variable {X : Cx} {pins : List (Addr × Obj)} {σ : L2.St} {s : Shared}
theorem sys_ne {a : Addr} {xs : List V} (h : Rd H a (.lst xs)) (hs : SysH H) : a ≠ sysModules := fun e => by
  subst e
  obtain ⟨_, q, o', φ, rfl⟩ := hs
  rcases h with h | ⟨o, h⟩ <;> (rw [q] at h; cases h)
mutual
/-- how data lies in the heap -/
theorem Dq.reads (I : Inv X pins σ H s) : ∀ {v : V} {d : PyData} {u : Value}, Dq X.K P H v d → RelV v u → ∃ as, Reads s.heap u d as ∧ (SysH H → sysModules ∉ as)
  | _, _, u, .non, r => by cases (show u = Value.none from r); exact ⟨[], .none, fun _ h => by cases h⟩
  | _, _, u, .bl b, r => by cases (show u = Value.bool b from r); exact ⟨[], .bool b, fun _ h => by cases h⟩
  | _, _, u, .int i, r => by obtain ⟨t, rfl⟩ := (show ∃ t, u = Value.int i t from r); exact ⟨[], .int i t, fun _ h => by cases h⟩
  | _, _, u, .str x, r => by obtain ⟨t, rfl⟩ := (show ∃ t, u = Value.str x t from r); exact ⟨[], .str x t, fun _ h => by cases h⟩
  | _, _, u, .lst (a := a) h _ _ b, r => by
    cases (show u = Value.ref a from r)
    obtain ⟨its, rv, ⟨o, n, ho, hc, _, hd⟩, _⟩ := I.list (.inl h)
    obtain ⟨as, q, q2⟩ := DqAll.readsAll I b rv
    exact ⟨a :: as, .list ho hc hd (by simpa using q), fun hs hm => by
      rcases List.mem_cons.mp hm with e | hm
      · exact sys_ne h hs e.symm
      · exact q2 hs hm⟩
  | _, _, u, .lstK (a := a) h _ b, r => by
    cases (show u = Value.ref a from r)
    obtain ⟨its, rv, ⟨o, n, ho, hc, _, hd⟩, _⟩ := I.list (RdL.seq (.inr h))
    obtain ⟨as, q, q2⟩ := DqAll.readsAll I b rv
    obtain ⟨_, _, _, _, _, hne⟩ := h
    exact ⟨a :: as, .list ho hc hd (by simpa using q), fun hs hm => by
      rcases List.mem_cons.mp hm with e | hm
      · rw [e] at hne; simp at hne
      · exact q2 hs hm⟩
  | _, _, u, .tup (a := a) h _ b, r => by
    cases (show u = Value.ref a from r)
    obtain ⟨its, rv, ⟨o, ho, hc, n, hd⟩, _⟩ := I.tuple h.sq
    obtain ⟨as, q, q2⟩ := DqAll.readsAll I b rv
    exact ⟨as, .tuple ho hc hd (by simpa using q), q2⟩
  | _, _, u, .dct (a := a) h _ _ _, r => by
    cases (show u = Value.ref a from r)
    obtain ⟨⟨hne, o, es, n, ho, hc, hd, h1, h2⟩, _⟩ := I.hok a _ h
    exact ⟨a :: [] ++ [], .dict ho hc.1 hd (atoms_read h1) (atoms_read h2), fun _ hm => by
      have : sysModules = a := by simpa using hm
      rw [this] at hne; simp at hne⟩
theorem DqAll.readsAll (I : Inv X pins σ H s) : ∀ {vs : List V} {ds : List PyData} {us : List Value}, DqAll X.K P H vs ds → Vals vs us → ∃ as, ReadsAll s.heap us ds as ∧ (SysH H → sysModules ∉ as)
  | _, _, _, .nil, .nil => ⟨[], .nil, fun _ h => by cases h⟩
  | _, _, _, .cons a b, .cons r1 r2 => by
    obtain ⟨as, q, q2⟩ := Dq.reads I a r1
    obtain ⟨bs, p, p2⟩ := DqAll.readsAll I b r2
    exact ⟨as ++ bs, .cons q p, fun hs hm => by
      rcases List.mem_append.mp hm with hm | hm
      · exact q2 hs hm
      · exact p2 hs hm⟩
end
theorem Dt.reads (I : Inv X pins σ H s) {v : V} {d : PyData} {u : Value} (h : Dt X.K P H v d) (r : RelV v u) : ∃ as, Reads s.heap u d as ∧ (SysH H → sysModules ∉ as) := by
  rcases h with h | ⟨a, xs, ds, rfl, h1, h2, rfl⟩
  · exact Dq.reads I h r
  · cases (show u = Value.ref a from r)
    obtain ⟨its, rv, ⟨o, n, ho, hc, _, hd⟩, _⟩ := I.list (.inl h1)
    obtain ⟨as, q, q2⟩ := DqAll.readsAll I h2 rv
    exact ⟨a :: as, .list ho hc hd (by simpa using q), fun hs hm => by
      rcases List.mem_cons.mp hm with e | hm
      · exact sys_ne h1 hs e.symm
      · exact q2 hs hm⟩
end
mutual
theorem Dq.sysH : ∀ {v : V} {d : PyData}, Dq K P H v d → d.hasDict = true → SysH H
  | _, _, .non, h => by simp [PyData.hasDict] at h
  | _, _, .bl _, h => by simp [PyData.hasDict] at h
  | _, _, .int _, h => by simp [PyData.hasDict] at h
  | _, _, .str _, h => by simp [PyData.hasDict] at h
  | _, _, .lst _ _ _ a, h => DqAll.sysH a (by simpa [PyData.hasDict] using h)
  | _, _, .lstK _ _ a, h => DqAll.sysH a (by simpa [PyData.hasDict] using h)
  | _, _, .tup _ _ a, h => DqAll.sysH a (by simpa [PyData.hasDict] using h)
  | _, _, .dct _ _ hs _, _ => hs
theorem DqAll.sysH : ∀ {vs : List V} {ds : List PyData}, DqAll K P H vs ds → PyData.hasDictAll ds = true → SysH H
  | _, _, .nil, h => by simp [PyData.hasDictAll] at h
  | _, _, .cons a b, h => by
    simp only [PyData.hasDictAll, Bool.or_eq_true] at h
    rcases h with h | h
    · exact Dq.sysH a h
    · exact DqAll.sysH b h
end
theorem Dt.sysH {v : V} {d : PyData} (h : Dt K P H v d) (hd : d.hasDict = true) : SysH H := by
  rcases h with h | ⟨a, xs, ds, rfl, h1, h2, rfl⟩
  · exact h.sysH hd
  · exact h2.sysH (by simpa [PyData.hasDict] using hd)
end
end Fz

set_option linter.all false
set_option autoImplicit false
set_option maxRecDepth 100000
/-! FzS2: the judgements of readings, and expressions. -/
namespace Fz
open PySem PySem.Spec PyProof.Rows L2

def tF (K : PySem.W.Frag) (f : RE) : TE := fun σ H Q => ∃ w l s m', Wd K w H ∧ SL K w H σ l ∧ f l w.m = some (s, m') ∧
  ∀ w' H' v, w'.m = m' → Ex w H w' H' → Wd K w' H' → SV K w' H' v s → Q v H'
def tT (K : PySem.W.Frag) (f : RT) : TT := fun σ H Q => ∃ w l b m', Wd K w H ∧ SL K w H σ l ∧ f l w.m = some (b, m') ∧
  ∀ w' H', w'.m = m' → Ex w H w' H' → Wd K w' H' → Q b H'
def tA (K : PySem.W.Frag) (f : RA) : TA := fun σ H Q => ∃ w l ss m', Wd K w H ∧ SL K w H σ l ∧ f l w.m = some (ss, m') ∧
  ∀ w' H' vs, w'.m = m' → Ex w H w' H' → Wd K w' H' → SVs K w' H' vs ss → Q vs H'
def tOp' (K : PySem.W.Frag) (f : RO) : TO := fun σ H Q => ∃ w l o m', Wd K w H ∧ SL K w H σ l ∧ f l w.m = some (o, m') ∧
  ∀ w' H', w'.m = m' → Ex w H w' H' → Wd K w' H' → Q o H'
def FE (X : Cx) (e : Expr) (f : RE) : Prop := PE X e (tF X.K f)
def FT (X : Cx) (e : Expr) (f : RT) : Prop := PT X e (tT X.K f)
def FW (X : Cx) (e : Expr) (f : RT) : Prop := PW X e (tT X.K f)
def FA (X : Cx) (es : List Expr) (f : RA) : Prop := PA X es (tA X.K f)
def FO (X : Cx) (e : Option Expr) (f : RO) : Prop := PO X e (tOp' X.K f)

theorem _root_.L2.PE.imp {X : Cx} {e : Expr} {t t' : TE} (h : PE X e t) (i : ∀ σ H Q, t' σ H Q → t σ H Q) : PE X e t' := ⟨fun pins s σ H Q I q => h.run pins s σ H Q I (i _ _ _ q)⟩
theorem _root_.L2.PT.imp {X : Cx} {e : Expr} {t t' : TT} (h : PT X e t) (i : ∀ σ H Q, t' σ H Q → t σ H Q) : PT X e t' := ⟨fun pins s σ H Q I q => h.run pins s σ H Q I (i _ _ _ q)⟩
theorem _root_.L2.PW.imp {X : Cx} {e : Expr} {t t' : TT} (h : PW X e t) (i : ∀ σ H Q, t' σ H Q → t σ H Q) : PW X e t' := ⟨fun wh pins s σ H Q I q => h.run wh pins s σ H Q I (i _ _ _ q)⟩
theorem _root_.L2.PA.imp {X : Cx} {e : List Expr} {t t' : TA} (h : PA X e t) (i : ∀ σ H Q, t' σ H Q → t σ H Q) : PA X e t' := ⟨fun pos pins s σ H Q I q => h.run pos pins s σ H Q I (i _ _ _ q)⟩
theorem _root_.L2.PO.imp {X : Cx} {e : Option Expr} {t t' : TO} (h : PO X e t) (i : ∀ σ H Q, t' σ H Q → t σ H Q) : PO X e t' := by
  refine ⟨?_⟩
  intros
  exact h.run _ _ _ _ _ (by assumption) (i _ _ _ (by assumption))

section
variable {K : PySem.W.Frag} {w : Wo} {H : Hp} {σ : L2.St} {l : Lo}
theorem goF {f : RE} {s : S} {m' : Mem} {R : VK} (W : Wd K w H) (L : SL K w H σ l) (e : f l w.m = some (s, m'))
    (k : ∀ w' H' v, w'.m = m' → Ex w H w' H' → Wd K w' H' → SL K w' H' σ l → SV K w' H' v s → R v H') : tF K f σ H R :=
  ⟨w, l, s, m', W, L, e, fun w' H' v c E W' h => k w' H' v c E W' (L.go W E) h⟩
theorem goT {f : RT} {b : Bool} {m' : Mem} {R : Bool → Hp → Prop} (W : Wd K w H) (L : SL K w H σ l) (e : f l w.m = some (b, m'))
    (k : ∀ w' H', w'.m = m' → Ex w H w' H' → Wd K w' H' → SL K w' H' σ l → R b H') : tT K f σ H R :=
  ⟨w, l, b, m', W, L, e, fun w' H' c E W' => k w' H' c E W' (L.go W E)⟩
theorem goA {f : RA} {ss : List S} {m' : Mem} {R : List V → Hp → Prop} (W : Wd K w H) (L : SL K w H σ l) (e : f l w.m = some (ss, m'))
    (k : ∀ w' H' vs, w'.m = m' → Ex w H w' H' → Wd K w' H' → SL K w' H' σ l → SVs K w' H' vs ss → R vs H') : tA K f σ H R :=
  ⟨w, l, ss, m', W, L, e, fun w' H' v c E W' h => k w' H' v c E W' (L.go W E) h⟩
theorem goO {f : RO} {o : Option Int} {m' : Mem} {R : Option Int → Hp → Prop} (W : Wd K w H) (L : SL K w H σ l) (e : f l w.m = some (o, m'))
    (k : ∀ w' H', w'.m = m' → Ex w H w' H' → Wd K w' H' → SL K w' H' σ l → R o H') : tOp' K f σ H R :=
  ⟨w, l, o, m', W, L, e, fun w' H' c E W' => k w' H' c E W' (L.go W E)⟩
end

/-! ### pure rules, by values -/
def rF1 (K : PySem.W.Frag) (g : PyData → Option PyData) : V → Hp → VK → Prop := fun x H Q => ∃ P d r, (∀ a, H a = none → P a) ∧ Dt K P H x d ∧ g d = some r ∧ ∀ v H', Same H H' → Dq K P H' v r → Q v H'
def rF2 (K : PySem.W.Frag) (g : PyData → PyData → Option PyData) : R2 := fun x y H Q => ∃ P d e r, (∀ a, H a = none → P a) ∧ Dt K P H x d ∧ Dt K P H y e ∧ g d e = some r ∧ ∀ v H', Same H H' → Dq K P H' v r → Q v H'
def rFs (K : PySem.W.Frag) (g : PF) : List V → Hp → VK → Prop := fun xs H Q => ∃ P ds r, (∀ a, H a = none → P a) ∧ DtAll K P H xs ds ∧ g ds = some r ∧ ∀ v H', Same H H' → Dq K P H' v r → Q v H'
def rFm (K : PySem.W.Frag) (g : PF) : V → List V → Hp → VK → Prop := fun x xs H Q => ∃ P d ds r, (∀ a, H a = none → P a) ∧ Dt K P H x d ∧ DtAll K P H xs ds ∧ g (d :: ds) = some r ∧ ∀ v H', Same H H' → Dq K P H' v r → Q v H'
abbrev FUn (X : Cx) (f : Value → Sem Value) (g : PyData → Option PyData) : Prop := UnR X f (rF1 X.K g)
abbrev FOp (X : Cx) (f : Value → Value → Sem Value) (g : PyData → PyData → Option PyData) : Prop := OpR X f (rF2 X.K g)
abbrev FCall (X : Cx) (f : Value) (g : PF) : Prop := CallR X f (rFs X.K g)

section
variable {X : Cx} {a b c : Expr} {fa fb fc : RE} {pos : Pos}
theorem fe_int {i : Int} {j : Nat} : FE X (.Constant (.int i) j pos) (eC (.int i)) := PE.imp pe_int fun σ H Q ⟨w, l, s, m', W, L, e, k⟩ => by
  cases e; exact k w H _ rfl (Ex.refl w H) W (.int i)
theorem fe_bl {i : Bool} {j : Nat} : FE X (.Constant (.bool i) j pos) (eC (.bool i)) := PE.imp pe_bl fun σ H Q ⟨w, l, s, m', W, L, e, k⟩ => by
  cases e; exact k w H _ rfl (Ex.refl w H) W (.bl i)
theorem fe_non {j : Nat} : FE X (.Constant .none j pos) (eC .none) := PE.imp pe_non fun σ H Q ⟨w, l, s, m', W, L, e, k⟩ => by
  cases e; exact k w H _ rfl (Ex.refl w H) W .non
theorem fe_str {i : Str} {j : Nat} : FE X (.Constant (.str i) j pos) (eC (.str i)) := PE.imp pe_str fun σ H Q ⟨w, l, s, m', W, L, e, k⟩ => by
  cases e; exact k w H _ rfl (Ex.refl w H) W (.str i)
/-- the name that stands in the i-th slot -/
theorem fe_var (i : Nat) {x : Str} (hN : X.N[i]? = some x := by rfl) (hv : Vis X.env.scope x := by first | exact Or.inl rfl | exact Or.inr (Or.inl rfl) | exact Or.inr (Or.inr rfl)) (hd : (x == ("__debug__" : Str)) = false := by decide) (hcd : (x == ("__classdict__" : Str)) = false := by decide) :
    FE X (.Name x pos) (eV i) := PE.imp (pe_var (i := i) hN hv hd hcd) fun σ H Q ⟨w, l, s, m', W, L, e, k⟩ => by
  simp only [eV] at e
  cases q : l[i]? with
  | none => rw [q] at e; cases e
  | some o =>
    rw [q] at e
    cases o with
    | none => cases e
    | some s1 =>
      cases e
      obtain ⟨v, h1, h2⟩ := L.2 i s q
      exact ⟨v, h1, k w H v rfl (Ex.refl w H) W h2⟩
/-- a constant of the module that is no object -/
theorem fe_glob {x : Str} {v : V} {u : Value} {d : PyData} (hg : Gl X x) (hm : X.mg x = some u) (r : RelV v u) (h : ∀ P H, Dq X.K P H v d) (hd : (x == ("__debug__" : Str)) = false := by decide) : FE X (.Name x pos) (eC d) :=
  PE.imp (pe_glob hg hm r hd) fun σ H Q ⟨w, l, s, m', W, L, e, k⟩ => by
    cases e; exact k w H _ rfl (Ex.refl w H) W (h _ _)

/-- from an operator's rule -/
theorem fin2 {K : PySem.W.Frag} {w : Wo} {H : Hp} {g : PyData → PyData → Option PyData} {x y : V} {s s' : S} {d e r : PyData} {Q : VK} (W : Wd K w H) (h1 : SV K w H x s) (h2 : SV K w H y s') (e1 : deref w.m s = some d) (e2 : deref w.m s' = some e) (eg : g d e = some r)
    (k : ∀ w' H' v, w'.m = w.m → Ex w H w' H' → Wd K w' H' → SV K w' H' v (.d r) → Q v H') : rF2 K g x y H Q :=
  ⟨w.P, d, e, r, fun a h => W.new h, h1.deref W e1, h2.deref W e2, eg, fun v H' S0 hv => let ⟨E, W'⟩ := W.same S0; k w H' v rfl E W' hv⟩
theorem bin2 {K : PySem.W.Frag} {g : PyData → PyData → Option PyData} {σ : L2.St} {H : Hp} {Q : VK} (h : tF K (eOp g fa fb) σ H Q) : tOp (rF2 K g) (tF K fa) (tF K fb) σ H Q := by
  obtain ⟨w, l, s, m', W, L, e, k⟩ := h
  simp only [eOp, Option.bind_eq_some_iff, Option.map_eq_some_iff, Prod.mk.injEq] at e
  obtain ⟨p, e1, q, e2, d, e3, d', e4, r, e5, rfl, rfl⟩ := e
  refine goF W L e1 fun w1 H1 v1 c1 E1 W1 L1 s1 => goF W1 L1 (by rw [c1]; exact e2) fun w2 H2 v2 c2 E2 W2 L2 s2 => ?_
  exact fin2 W2 (s1.go W1 E2) s2 (by rw [c2]; exact e3) (by rw [c2]; exact e4) e5 fun w' H' v c E W' hv => k w' H' v (c.trans c2) (E1.trans (E2.trans E)) W' hv
theorem fe_op {op : Operator} {g : PyData → PyData → Option PyData} (ho : FOp X (binaryOp op) g) (ha : FE X a fa) (hb : FE X b fb) : FE X (.BinOp a op b pos) (eOp g fa fb) := PE.imp (pe_op ho ha hb) fun σ H Q h => bin2 h
theorem fe_cmp {op : CmpOp} {g : PyData → PyData → Option PyData} (ho : FOp X (compareOp op) g) (ha : FE X a fa) (hb : FE X b fb) (hm : behindInMarks op b = false := by rfl) : FE X (.Compare a [op] [b] pos) (eOp g fa fb) := PE.imp (pe_cmpR ho ha hb hm) fun σ H Q h => bin2 h
theorem fe_ix {g : PyData → PyData → Option PyData} (ho : IxR X (rF2 X.K g)) (ha : FE X a fa) (hb : FE X b fb) (hs : PlainIx b := by intro _ _; rfl) : FE X (.Subscript a b pos) (eOp g fa fb) := PE.imp (pe_ix ho ha hb hs) fun σ H Q h => bin2 h
theorem fe_un {op : UnaryOp} {g : PyData → Option PyData} (ho : FUn X (unaryOp op) g) (ha : FE X a fa) : FE X (.UnaryOp op a pos) (eUn g fa) := PE.imp (pe_un ho ha) fun σ H Q h => by
  obtain ⟨w, l, s, m', W, L, e, k⟩ := h
  simp only [eUn, Option.bind_eq_some_iff, Option.map_eq_some_iff, Prod.mk.injEq] at e
  obtain ⟨p, e1, d, e3, r, e5, rfl, rfl⟩ := e
  refine goF W L e1 fun w1 H1 v1 c1 E1 W1 L1 s1 => ?_
  refine ⟨w1.P, d, r, fun a h => W1.new h, s1.deref W1 (by rw [c1]; exact e3), e5, fun v H' S0 hv => ?_⟩
  obtain ⟨E, W'⟩ := W1.same S0
  exact k w1 H' v c1 (E1.trans E) W' hv
/-- a test of a comparison -/
theorem tTest_of {K : PySem.W.Frag} {t : TE} {f : RE} {σ : L2.St} {H : Hp} {Q : Bool → Hp → Prop} (imp : ∀ Q, tF K f σ H Q → t σ H Q) (h : tT K (fun l m => (f l m).bind fun p => match p.1 with
    | .d (.bool b) => some (b, p.2)
    | _ => none) σ H Q) : tTest t σ H Q := by
  obtain ⟨w, l, b, m', W, L, e, k⟩ := h
  simp only [Option.bind_eq_some_iff] at e
  obtain ⟨p, e1, e2⟩ := e
  obtain ⟨ps, pm⟩ := p
  cases ps with
  | r n => cases e2
  | d x =>
    cases x <;> cases e2
    refine imp _ (goF W L e1 fun w1 H1 v1 c1 E1 W1 L1 s1 => ?_)
    cases (show Dq K w1.P H1 v1 (.bool b) from s1)
    exact ⟨b, rfl, k w1 H1 c1 E1 W1⟩
end
/-- a comparison as a test -/
def tB (a : RE) : RT := fun l m => (a l m).bind fun p => match p.1 with
  | .d (.bool b) => some (b, p.2)
  | _ => none
section
variable {X : Cx} {a b c : Expr} {fa fb fc : RE} {pos : Pos}
theorem ft_cmp {op : CmpOp} {g : PyData → PyData → Option PyData} (ho : FOp X (compareOp op) g) (ha : FE X a fa) (hb : FE X b fb) (hm : behindInMarks op b = false := by rfl) : FT X (.Compare a [op] [b] pos) (tB (eOp g fa fb)) :=
  PT.imp (pt_cmpR ho ha hb hm) fun σ H Q h => tTest_of (fun Q => bin2) h

/-! ### chains: a op b op' c -/
theorem chain3 {K : PySem.W.Frag} {g g' : PyData → PyData → Option PyData} (hg : ∀ d e r, g d e = some r → ∃ k, r = .bool k) {σ : L2.St} {H : Hp} {Q : VK} (h : tF K (eChain g g' fa fb fc) σ H Q) : tChain (rF2 K g) (rF2 K g') (tF K fa) (tF K fb) (tF K fc) σ H Q := by
  obtain ⟨w, l, s, m', W, L, e, k⟩ := h
  simp only [eChain, Option.bind_eq_some_iff] at e
  obtain ⟨p, e1, q, e2, d, e3, d', e4, r, e5, e6⟩ := e
  refine goF W L e1 fun w1 H1 v1 c1 E1 W1 L1 s1 => goF W1 L1 (by rw [c1]; exact e2) fun w2 H2 v2 c2 E2 W2 L2 s2 => ?_
  obtain ⟨kk, rfl⟩ := hg _ _ _ e5
  refine fin2 W2 (s1.go W1 E2) s2 (by rw [c2]; exact e3) (by rw [c2]; exact e4) e5 fun w3 H3 v3 c3 E3 W3 h3 => ?_
  cases (show Dq K w3.P H3 v3 (.bool kk) from h3)
  refine ⟨kk, rfl, ?_⟩
  cases kk with
  | false =>
    cases e6
    rw [if_neg Bool.false_ne_true]
    exact k w3 H3 _ (c3.trans c2) (E1.trans (E2.trans E3)) W3 (.bl false)
  | true =>
    simp only [Option.bind_eq_some_iff, Option.map_eq_some_iff, Prod.mk.injEq] at e6
    obtain ⟨u, f1, x, f2, y, f3, z, f4, rfl, rfl⟩ := e6
    rw [if_pos rfl]
    refine goF W3 (L2.go W2 E3) (by rw [c3, c2]; exact f1) fun w4 H4 v4 c4 E4 W4 L4 s4 => ?_
    exact fin2 W4 ((s2.go W2 E3).go W3 E4) s4 (by rw [c4]; exact f2) (by rw [c4]; exact f3) f4 fun w' H' v c E W' hv => k w' H' v (c.trans c4) (E1.trans (E2.trans (E3.trans (E4.trans E)))) W' hv
theorem fe_chain {op op' : CmpOp} {g g' : PyData → PyData → Option PyData} (hg : ∀ d e r, g d e = some r → ∃ k, r = .bool k) (ho : FOp X (compareOp op) g) (ho' : FOp X (compareOp op') g') (ha : FE X a fa) (hb : FE X b fb) (hc : FE X c fc) (hm : lastMarks [op, op'] [b, c] = false := by with_unfolding_all rfl) :
    FE X (.Compare a [op, op'] [b, c] pos) (eChain g g' fa fb fc) := PE.imp (pe_chain ho ho' ha hb hc hm) fun σ H Q h => chain3 hg h
theorem ft_chain {op op' : CmpOp} {g g' : PyData → PyData → Option PyData} (hg : ∀ d e r, g d e = some r → ∃ k, r = .bool k) (ho : FOp X (compareOp op) g) (ho' : FOp X (compareOp op') g') (ha : FE X a fa) (hb : FE X b fb) (hc : FE X c fc) (hm : lastMarks [op, op'] [b, c] = false := by with_unfolding_all rfl) :
    FT X (.Compare a [op, op'] [b, c] pos) (tB (eChain g g' fa fb fc)) := PT.imp (pt_chain ho ho' ha hb hc hm) fun σ H Q h => tTest_of (fun Q => chain3 hg) h
theorem cmp_bool {p : Int → Int → Bool} : ∀ d e r, pCmp p d e = some r → ∃ k, r = .bool k := by
  intro d e r h
  cases d <;> cases e <;> cases h
  exact ⟨_, rfl⟩
end
end Fz

set_option linter.all false
set_option autoImplicit false
set_option maxRecDepth 100000
/-! FzS3: the world's changes (laid, frozen, written); tests, choices, displays, calls. -/
namespace Fz
open PySem PySem.Spec PyProof.Rows L2

/-! ### changes -/
def Wo.push (w : Wo) (p : Addr) (o : MO) : Wo := ⟨w.P0, fun n => if n = w.m.length then p else w.al n, w.m ++ [o]⟩
def Wo.put (w : Wo) (n : Nat) (o : MO) : Wo := ⟨w.P0, w.al, w.m.set n o⟩
section
variable {K : PySem.W.Frag} {w : Wo} {H : Hp}
theorem same_upd {p : Addr} {o : HO} (h : H p = none) : Same H (upd H p o) := fun b x e => by
  rw [upd_ne (ne_of_none e h)]; exact e
theorem live_push {w : Wo} {p : Addr} {o : MO} {n : Nat} (h : live (w.push p o).m n) (hn : n ≠ w.m.length) : live w.m n := by
  have hl := live_lt h
  have e : (w.push p o).m.length = w.m.length + 1 := by simp [Wo.push]
  unfold live at h ⊢
  rw [show (w.push p o).m[n]? = w.m[n]? from List.getElem?_append_left (by omega)] at h
  exact h
theorem push_ex {p : Addr} {o : HO} {mo : MO} (W : Wd K w H) (hp : H p = none) : Ex w H (w.push p mo) (upd H p o) := by
  refine ⟨rfl, by simp [Wo.push], fun n hn => ?_, fun a u h q => ⟨(same_upd hp) a u h, fun n hl => ?_⟩⟩
  · show (if n = w.m.length then p else w.al n) = _
    rw [if_neg (Nat.ne_of_lt hn)]
  · show (if n = w.m.length then p else w.al n) ≠ a
    by_cases hn : n = w.m.length
    · rw [if_pos hn]; exact (ne_of_none h hp).symm
    · rw [if_neg hn]; exact q n (live_push hl hn)
theorem push_get {p : Addr} {mo : MO} {n : Nat} {o : MO} (h : (w.push p mo).m[n]? = some o) : (n < w.m.length ∧ w.m[n]? = some o) ∨ (n = w.m.length ∧ o = mo) := by
  have h' : (w.m ++ [mo])[n]? = some o := h
  rcases Nat.lt_or_ge n w.m.length with q | q
  · rw [List.getElem?_append_left q] at h'; exact .inl ⟨q, h'⟩
  · rw [List.getElem?_append_right q] at h'
    have q2 : n - w.m.length < 1 := by
      rcases Nat.lt_or_ge (n - w.m.length) 1 with z | z
      · exact z
      · rw [List.getElem?_eq_none (by simpa using z)] at h'; cases h'
    have e : n = w.m.length := by omega
    subst e
    simp at h'
    exact .inr ⟨rfl, h'.symm⟩
theorem push_al {p : Addr} {mo : MO} {n : Nat} (h : n < w.m.length) : (w.push p mo).al n = w.al n := if_neg (Nat.ne_of_lt h)
theorem push_al' {p : Addr} {mo : MO} : (w.push p mo).al w.m.length = p := if_pos rfl
theorem Wd.there (W : Wd K w H) {n : Nat} (h : n < w.m.length) : H (w.al n) ≠ none := by
  cases q : w.m[n]? with
  | none => rw [List.getElem?_eq_none_iff] at q; omega
  | some o =>
    cases o with
    | lst ss => obtain ⟨_, vs, e, _⟩ := W.lst n ss q; rw [e]; simp
    | frz ds => obtain ⟨_, vs, e, _⟩ := W.frz n ds q; rw [e]; simp
    | dct kvs => obtain ⟨vs, e, _⟩ := W.dct n kvs q; rw [e]; simp
    | dcT kvs => obtain ⟨vs, e, _⟩ := W.dcT n kvs q; rw [e]; simp
theorem push_inj {p : Addr} {mo : MO} (W : Wd K w H) (hp : H p = none) (i j : Nat) (hi : i < (w.push p mo).m.length) (hj : j < (w.push p mo).m.length) (e : (w.push p mo).al i = (w.push p mo).al j) : i = j := by
  have hl : (w.push p mo).m.length = w.m.length + 1 := by simp [Wo.push]
  rw [hl] at hi hj
  by_cases h1 : i = w.m.length
  · by_cases h2 : j = w.m.length
    · rw [h1, h2]
    · rw [h1, push_al', push_al (by omega)] at e
      exact absurd (e ▸ hp) (W.there (by omega))
  · by_cases h2 : j = w.m.length
    · rw [h2, push_al', push_al (by omega)] at e
      exact absurd (e ▸ hp) (W.there (by omega))
    · rw [push_al (by omega), push_al (by omega)] at e
      exact W.inj i j (by omega) (by omega) e
theorem push_wd {p : Addr} {o : HO} {mo : MO} (W : Wd K w H) (hp : H p = none)
    (hl : ∀ ss, mo = .lst ss → ss.length ≤ sizeLine ∧ ∃ vs, o = .lst vs ∧ SVs K w H vs ss) (hd : ∀ kvs, mo = .dct kvs → ∃ vs, o = .dK vs ∧ KSV K w H vs kvs) (hf : ∀ ds, mo ≠ .frz ds) (ht : ∀ kvs, mo = .dcT kvs → ∃ vs, o = DN p vs ∧ TSV K w H vs kvs := by intro _ e; cases e) : Wd K (w.push p mo) (upd H p o) := by
  have E := push_ex (o := o) (mo := mo) W hp
  have up : ∀ {n u}, n < w.m.length → H (w.al n) = some u → upd H p o ((w.push p mo).al n) = some u := fun {n u} h q => by
    rw [push_al h]; exact same_upd hp _ _ q
  have hne : p ≠ sysModules := fun e => by obtain ⟨φ, q, _⟩ := W.sys; rw [e, q] at hp; cases hp
  refine ⟨W.sys.imp fun _ e => ⟨same_upd hp _ _ e.1, e.2⟩, W.syp, fun n h => ?_, fun a h => W.fre a ((same_upd hp).free h), push_inj W hp, fun n h => ?_, fun n ss e => ?_, fun n ds e => ?_, fun n kvs e => ?_, fun n kvs e => ?_⟩
  · have h' : n < w.m.length + 1 := by simpa [Wo.push] using h
    by_cases hn : n = w.m.length
    · rw [hn, push_al']; exact hne
    · rw [push_al (by omega)]; exact W.syn n (by omega)
  · have h' : n < w.m.length + 1 := by simpa [Wo.push] using h
    by_cases hn : n = w.m.length
    · rw [hn, push_al']; exact W.fre p hp
    · rw [push_al (by omega)]; exact W.per n (by omega)
  · rcases push_get e with ⟨h, q⟩ | ⟨rfl, rfl⟩
    · obtain ⟨z, vs, e1, r⟩ := W.lst n ss q
      exact ⟨z, vs, up h e1, SVs.go W E r⟩
    · obtain ⟨z, vs, rfl, r⟩ := hl ss rfl
      exact ⟨z, vs, by rw [push_al', upd_same], SVs.go W E r⟩
  · rcases push_get e with ⟨h, q⟩ | ⟨rfl, rfl⟩
    · obtain ⟨z, vs, e1, r⟩ := W.frz n ds q
      exact ⟨z, vs, up h e1, DqAll.go W E r⟩
    · exact absurd rfl (hf ds)
  · rcases push_get e with ⟨h, q⟩ | ⟨rfl, rfl⟩
    · obtain ⟨vs, e1, r⟩ := W.dct n kvs q
      exact ⟨vs, up h e1, KSV.go W E r⟩
    · obtain ⟨vs, rfl, r⟩ := hd kvs rfl
      exact ⟨vs, by rw [push_al', upd_same], KSV.go W E r⟩
  · rcases push_get e with ⟨h, q⟩ | ⟨rfl, rfl⟩
    · obtain ⟨vs, e1, r⟩ := W.dcT n kvs q
      exact ⟨vs, by rw [push_al h]; exact same_upd hp _ _ e1, TSV.go W E r⟩
    · obtain ⟨vs, rfl, r⟩ := ht kvs rfl
      exact ⟨vs, by rw [push_al', upd_same], TSV.go W E r⟩
theorem put_get {n k : Nat} {mo o : MO} (h : (w.put n mo).m[k]? = some o) : (k ≠ n ∧ w.m[k]? = some o) ∨ (k = n ∧ o = mo ∧ n < w.m.length) := by
  have h' : (w.m.set n mo)[k]? = some o := h
  by_cases e : n = k
  · subst e
    rcases Nat.lt_or_ge n w.m.length with q | q
    · rw [List.getElem?_set_self q] at h'; cases h'; exact .inr ⟨rfl, rfl, q⟩
    · rw [List.getElem?_eq_none (by simpa using q)] at h'; cases h'
  · rw [List.getElem?_set_ne e] at h'; exact .inl ⟨Ne.symm e, h'⟩
theorem live_put {n k : Nat} {mo : MO} (h : live (w.put n mo).m k) (hl : live w.m n) : live w.m k := by
  unfold live at h
  cases q : (w.put n mo).m[k]? with
  | none => rw [q] at h; cases h
  | some o =>
    rw [q] at h
    rcases put_get q with ⟨_, e⟩ | ⟨rfl, rfl, _⟩
    · unfold live; rw [e]; exact h
    · exact hl
/-- a live object is written -/
theorem put_ex {n : Nat} {o : HO} {mo : MO} (hn : live w.m n) : Ex w H (w.put n mo) (upd H (w.al n) o) := by
  refine ⟨rfl, by simp [Wo.put], fun _ _ => rfl, fun a u h q => ⟨?_, fun k hl => q k (live_put hl hn)⟩⟩
  rw [upd_ne (fun e => q n hn e.symm)]; exact h
theorem put_wd {n : Nat} {o : HO} {mo : MO} (W : Wd K w H) (hn : live w.m n)
    (hl : ∀ ss, mo = .lst ss → ss.length ≤ sizeLine ∧ ∃ vs, o = .lst vs ∧ SVs K w H vs ss) (hd : ∀ kvs, mo = .dct kvs → ∃ vs, o = .dK vs ∧ KSV K w H vs kvs) (hf : ∀ ds, mo ≠ .frz ds) (ht : ∀ kvs, mo = .dcT kvs → ∃ vs, o = DN (w.al n) vs ∧ TSV K w H vs kvs := by intro _ e; cases e) : Wd K (w.put n mo) (upd H (w.al n) o) := by
  have E := put_ex (H := H) (o := o) (mo := mo) hn
  have hlt := live_lt hn
  have up : ∀ {k u}, k < w.m.length → k ≠ n → H (w.al k) = some u → upd H (w.al n) o ((w.put n mo).al k) = some u := fun {k u} h ne q => by
    show upd H (w.al n) o (w.al k) = _
    rw [upd_ne fun e => ne (W.inj k n h hlt e)]; exact q
  refine ⟨W.sys.imp fun _ e => ⟨by rw [upd_ne (fun q => W.syn n hlt q.symm)]; exact e.1, e.2⟩, W.syp, fun k h => W.syn k (by simpa [Wo.put] using h), fun a h => W.fre a ?_, fun i j hi hj => W.inj i j (by simpa [Wo.put] using hi) (by simpa [Wo.put] using hj), fun k h => W.per k (by simpa [Wo.put] using h), fun k ss e => ?_, fun k ds e => ?_, fun k kvs e => ?_, fun k kvs e => ?_⟩
  · by_cases e : a = w.al n
    · rw [e, upd_same] at h; cases h
    · rw [upd_ne e] at h; exact h
  · rcases put_get e with ⟨ne, q⟩ | ⟨rfl, rfl, _⟩
    · obtain ⟨z, vs, e1, r⟩ := W.lst k ss q
      exact ⟨z, vs, up (List.getElem?_eq_some_iff.mp q).1 ne e1, SVs.go W E r⟩
    · obtain ⟨z, vs, rfl, r⟩ := hl ss rfl
      exact ⟨z, vs, upd_same, SVs.go W E r⟩
  · rcases put_get e with ⟨ne, q⟩ | ⟨rfl, rfl, _⟩
    · obtain ⟨z, vs, e1, r⟩ := W.frz k ds q
      exact ⟨z, vs, up (List.getElem?_eq_some_iff.mp q).1 ne e1, DqAll.go W E r⟩
    · exact absurd rfl (hf ds)
  · rcases put_get e with ⟨ne, q⟩ | ⟨rfl, rfl, _⟩
    · obtain ⟨vs, e1, r⟩ := W.dct k kvs q
      exact ⟨vs, up (List.getElem?_eq_some_iff.mp q).1 ne e1, KSV.go W E r⟩
    · obtain ⟨vs, rfl, r⟩ := hd kvs rfl
      exact ⟨vs, upd_same, KSV.go W E r⟩
  · rcases put_get e with ⟨ne, q⟩ | ⟨rfl, rfl, _⟩
    · obtain ⟨vs, e1, r⟩ := W.dcT k kvs q
      exact ⟨vs, up (List.getElem?_eq_some_iff.mp q).1 ne e1, TSV.go W E r⟩
    · obtain ⟨vs, rfl, r⟩ := ht kvs rfl
      exact ⟨vs, upd_same, TSV.go W E r⟩
/-- a list of data is taken out of the live ones -/
theorem frz_live {n k : Nat} {ds : List PyData} (h : live (w.put n (.frz ds)).m k) : live w.m k ∧ k ≠ n := by
  unfold live at h
  cases q : (w.put n (.frz ds)).m[k]? with
  | none => rw [q] at h; cases h
  | some o =>
    rw [q] at h
    rcases put_get q with ⟨ne, e⟩ | ⟨rfl, rfl, _⟩
    · exact ⟨by unfold live; rw [e]; exact h, ne⟩
    · cases h
theorem frz_ex {n : Nat} {ds : List PyData} : Ex w H (w.put n (.frz ds)) H :=
  ⟨rfl, by simp [Wo.put], fun _ _ => rfl, fun a u h q => ⟨h, fun k hl => q k (frz_live hl).1⟩⟩
theorem frz_ok {n : Nat} {ss : List S} {ds : List PyData} (W : Wd K w H) (h : w.m[n]? = some (.lst ss)) (e : allD ss = some ds) :
    Wd K (w.put n (.frz ds)) H ∧ Dq K (w.put n (.frz ds)).P H (.ref (w.al n)) (.list ds) := by
  have E := frz_ex (w := w) (H := H) (n := n) (ds := ds)
  have hlt := (List.getElem?_eq_some_iff.mp h).1
  obtain ⟨z0, vs, h1, r⟩ := W.lst n ss h
  have hz : ds.length ≤ sizeLine := by rw [allD_eq e, List.length_map] at z0; exact z0
  have r' : DqAll K (w.put n (.frz ds)).P H vs ds := DqAll.go W E (SVs.all r e)
  refine ⟨⟨W.sys, W.syp, fun k h => W.syn k (by simpa [Wo.put] using h), W.fre, fun i j hi hj => W.inj i j (by simpa [Wo.put] using hi) (by simpa [Wo.put] using hj), fun k h => W.per k (by simpa [Wo.put] using h), fun k ss e => ?_, fun k ds e => ?_, fun k kvs e => ?_, fun k kvs e => ?_⟩, .lst (.inl h1) ⟨W.per n hlt, fun k hl q => (frz_live hl).2 (W.inj k n (live_lt (frz_live hl).1) hlt q)⟩ hz r'⟩
  · rcases put_get e with ⟨ne, q⟩ | ⟨rfl, z, _⟩
    · obtain ⟨z, vs, e1, r⟩ := W.lst k ss q
      exact ⟨z, vs, e1, SVs.go W E r⟩
    · cases z
  · rcases put_get e with ⟨ne, q⟩ | ⟨rfl, z, _⟩
    · obtain ⟨z, vs, e1, r⟩ := W.frz k ds q
      exact ⟨z, vs, e1, DqAll.go W E r⟩
    · cases z
      exact ⟨hz, vs, h1, r'⟩
  · rcases put_get e with ⟨ne, q⟩ | ⟨rfl, z, _⟩
    · obtain ⟨vs, e1, r⟩ := W.dct k kvs q
      exact ⟨vs, e1, KSV.go W E r⟩
    · cases z
  · rcases put_get e with ⟨ne, q⟩ | ⟨rfl, z, _⟩
    · obtain ⟨vs, e1, r⟩ := W.dcT k kvs q
      exact ⟨vs, e1, TSV.go W E r⟩
    · cases z
end
end Fz

set_option linter.all false
set_option autoImplicit false
set_option maxRecDepth 100000
set_option maxHeartbeats 4000000
/-! FzT0: tuples of which the object is known (no dict of its own): displays, +, slices, tuple(list), tuple(range). -/
namespace Fz
open PySem PySem.Spec PyProof.Rows L2 HT
/-- a new tuple -/
abbrev tupO (us : List Value) : Obj := { cls := .type "tuple", data := .seq us.toArray }
def kNew (H : Hp) (xs : List V) (Q : VK) : Prop := ∀ (p : Addr) (o : Obj), o.dict = none → H p = none → Q (.ref p) (upd H p (.frz o (.tup xs)))
section
variable {X : Cx} {pins : List (Addr × Obj)} {σ : L2.St} {H : Hp} {s : Shared}
theorem lay_tup {us : List Value} {xs : List V} (I : Inv X pins σ H s) (r : Vals xs us) (z : xs.length ≤ sizeLine) :
    Inv X pins σ (upd H s.heap.objs.size (.frz (tupO us) (.tup xs))) { s with heap := s.heap.push (tupO us) } :=
  I.laid (t' := s.toks) (fun _ _ k => Heap.get?_push_of_some _ k) (Nat.le_refl _) ⟨Heap.get?_push_size _ rfl, z, us, r, IsTup.new _ _⟩
theorem EP.newT {us : List Value} {xs : List V} {Q : VK} (I : Inv X pins σ H s) (r : Vals xs us) (z : xs.length ≤ sizeLine) (q : kNew H xs Q) : EP X pins σ Q (.ref s.heap.objs.size) { s with heap := s.heap.push (tupO us) } :=
  ⟨.ref s.heap.objs.size, _, lay_tup I r z, rfl, q _ (tupO us) rfl (I.hok.fresh (Nat.le_refl _))⟩
end
section
variable {X : Cx} {es : List Expr} {e : Expr} {t : TA} {pos : Pos}
theorem pe_tupN {x1} (h : PA X es t) : PE X (.Tuple es x1 pos) (fun σ H Q => t σ H fun xs H1 => xs.length ≤ sizeLine ∧ kNew H1 xs Q) :=
  ⟨fun pins s σ H Q I hq => wpAny_Tuple_spliced (thn (h.run pos pins s σ H _ I hq) fun us s1 ⟨xs, H1, I1, r, z, q⟩ => ⟨by rw [← r.length]; exact z, EP.newT I1 r z q⟩)⟩
def rCatN (K : PySem.W.Frag) : R2 := fun x y H Q => ∃ a b xs ys, x = .ref a ∧ y = .ref b ∧ SqT K H a xs ∧ SqT K H b ys ∧ xs.length + ys.length ≤ sizeLine ∧
  (xs = [] → Q (.ref b) H) ∧ (xs ≠ [] → ys = [] → Q (.ref a) H) ∧ (xs ≠ [] → ys ≠ [] → kNew H (xs ++ ys) Q)
theorem op_catN : OpR X (binaryOp .Add) (rCatN X.K) := by
  rintro pins s σ H _ _ v u Q I rx ry ⟨a, b, xs, ys, rfl, rfl, ha, hb, hz, q0, q1, q2⟩
  cases rx
  cases ry
  obtain ⟨us, r, t, _⟩ := I.tuple ha
  obtain ⟨ws, r2, t2, _⟩ := I.tuple hb
  by_cases hx : xs = []
  · subst hx; cases r
    exact cat_tup0 t t2 ⟨.ref b, H, I, rfl, q0 rfl⟩
  · refine cat_tup t t2 (fun z => hx (r.nil_iff.mp z)) (fun z => ⟨.ref a, H, I, rfl, q1 hx (r2.nil_iff.mp z)⟩) (fun z => ?_) (by rw [← r.length, ← r2.length]; exact hz)
    exact EP.newT I (r.append r2) (by rw [List.length_append]; exact hz) (q2 hx fun w => z (r2.nil_iff.mpr w))
def rSlN (K : PySem.W.Frag) : V → Option Int → Option Int → Hp → VK → Prop := fun x lo hi H Q => ∃ a xs, x = .ref a ∧ SqT K H a xs ∧
  (sIx xs.length 0 lo = 0 ∧ sIx xs.length xs.length hi = xs.length → Q (.ref a) H) ∧ (¬ (sIx xs.length 0 lo = 0 ∧ sIx xs.length xs.length hi = xs.length) → kNew H (cutV xs lo hi) Q)
theorem sl_tupN : SlR X (rSlN X.K) := by
  rintro pins s σ H _ v vl vu lo hi sl Q I rx hs pl pu ⟨a, xs, rfl, hx, q1, q2⟩
  cases rx
  obtain ⟨us, r, t, z⟩ := I.tuple hx
  have e : us.toArray.size = xs.length := (List.size_toArray ..).trans r.length.symm
  refine ⟨"tuple", _, PyProof.Rows.slot_tuple_getitem.lookup, t.typeIs, ?_⟩
  by_cases hw : sIx xs.length 0 lo = 0 ∧ sIx xs.length xs.length hi = xs.length
  · exact getItem_tuple_whole t hs pl pu (by rw [e]; exact hw) ⟨.ref a, H, I, rfl, q1 hw⟩
  · refine getItem_tuple_cut t hs pl pu (by rw [e]; exact hw) ?_ (by rw [e]; exact z)
    rw [e]
    exact EP.newT I ((r.drop _).take _) (Nat.le_trans (cutV_length xs lo hi) z) (q2 hw)
theorem call_tupleN : CallR X (.type "tuple") (fun xs H Q => ∃ p ys, xs = [.ref p] ∧ ((SqL X.K H p ys ∧ kNew H ys Q) ∨ (SqT X.K H p ys ∧ Q (.ref p) H))) := by
  rintro pins s σ H _ us Q I r ⟨p, ys, rfl, h⟩
  obtain ⟨u, rfl, rx⟩ := vals1 r
  cases rx
  rcases h with ⟨hq, q⟩ | ⟨hq, q⟩
  · obtain ⟨ws, r2, pl, z⟩ := I.list hq
    refine call_tuple_list pl.isList (fun h' kp => ?_) (by rw [List.size_toArray, ← r2.length]; exact z)
    have I1 : Inv X pins σ H { s with heap := h' } := I.kept (t' := s.toks) kp
    exact EP.newT I1 r2 z q
  · obtain ⟨ws, r2, pl, z⟩ := I.tuple hq
    exact call_tuple_same pl ⟨.ref p, H, I, rfl, q⟩
theorem pe_tupRgN {te : L2.St → Hp → (Int → Int → Hp → Prop) → Prop} {p : Pos} (hc : X.calm = true) (hg : Gl X "tuple") (hm : X.mg "tuple" = none) (he : PRg X e te) (na : starEach [e] X.env = (false, eval e X.env) :: starEach [] X.env := by rfl) :
    PE X (.Call (.Name "tuple" p) [e] [] pos) (fun σ H Q => te σ H fun a b H1 => RgOk a b ∧ kNew H1 (rgV a b) Q) := by
  refine ⟨fun pins s σ H Q I h => ?_⟩
  refine Call_ (ld_blt I hg hm boot_tuple (PyProof.Rows.callWith_type1 (args_cons (thn (he pins s σ H _ I h) fun x s1 ⟨r, a, b, t, u, v, H1, ex, hr, I1, ok, q⟩ => args_nil ?_) na) na))
  subst ex
  obtain ⟨b1, b2, b3, b4, b5⟩ := ok
  refine call_tuple_range (n := (b - a).toNat) (I1.ok.hd hc) hr (small_one b1 b2 b3 b4) (rangeSize_nat a b) b5 fun h' tk acc hk hi => ?_
  have I2 : Inv X pins σ H1 { s1 with heap := h', toks := tk } := I1.kept hk
  have := EP.newT (us := acc.toList) I2 (vals_rg hi) (by rw [rgV_length, sizeLine_eq]; omega) q
  rw [show tupO acc.toList = { cls := .type "tuple", data := .seq acc } by simp [tupO]] at this
  exact this
end
end Fz

set_option linter.all false
set_option autoImplicit false
set_option maxRecDepth 100000
/-! FzS4: tests, choices, displays, values frozen, subscripts and slices, calls of built-ins. -/
namespace Fz
open PySem PySem.Spec PyProof.Rows L2

section
variable {X : Cx} {a b c : Expr} {fa fb fc : RE} {ta tb tc : RT} {pos : Pos} {es rest : List Expr}

/-! ### tests -/
theorem Dq.tru {K : PySem.W.Frag} {P : Addr → Prop} {H : Hp} {v : V} {d : PyData} {k : Bool} (h : Dt K P H v d) (e : truth d = some k) : TruV K v H k := by
  have emp : ∀ {xs : List V} {ds : List PyData}, DqAll K P H xs ds → xs.isEmpty = ds.isEmpty := fun r => by
    cases r <;> rfl
  rcases h with h | ⟨a, xs, ds, rfl, h1, h2, rfl⟩
  · cases h with
    | non => cases e; rfl
    | bl b => cases e; rfl
    | int i => cases e; rfl
    | str x => cases e
    | lst h1 _ _ h2 => cases e; exact .inl ⟨_, .inl h1, by rw [emp h2]⟩
    | lstK h1 _ h2 => cases e; exact .inl ⟨_, RdL.seq (.inr h1), by rw [emp h2]⟩
    | tup h1 _ h2 => cases e; exact .inr (.inl ⟨_, h1.sq, by rw [emp h2]⟩)
    | dct _ _ _ _ => cases e
  · cases e; exact .inl ⟨_, .inl h1, by rw [emp h2]⟩
theorem ft_tru (ha : FE X a fa) (he : ∀ whole, isTrue a X.env whole = (do let v ← whole; standAt a.pos; holding [v] (truthy v)) := by intro _; rfl) : FT X a (tV fa) := PT.imp (pt_truth ha he) fun σ H Q h => by
  obtain ⟨w, l, b, m', W, L, e, k⟩ := h
  simp only [tV, Option.bind_eq_some_iff, Option.map_eq_some_iff, Prod.mk.injEq] at e
  obtain ⟨p, e1, d, e2, b', e3, rfl, rfl⟩ := e
  exact goF W L e1 fun w1 H1 v1 c1 E1 W1 L1 s1 => ⟨b', Dq.tru (s1.deref W1 (by rw [c1]; exact e2)) e3, k w1 H1 c1 E1 W1⟩
/-- an expression whose value is a bool, as a test -/
theorem ft_val (ha : FE X a fa) (he : ∀ whole, isTrue a X.env whole = (do let v ← whole; standAt a.pos; holding [v] (truthy v)) := by intro _; rfl) : FT X a (tB fa) := PT.imp (pt_val ha he) fun σ H Q h => by
  obtain ⟨w, l, b, m', W, L, e, k⟩ := h
  simp only [tB, Option.bind_eq_some_iff] at e
  obtain ⟨⟨ps, pm⟩, e1, e2⟩ := e
  cases ps with
  | r n => cases e2
  | d x =>
    cases x <;> cases e2
    refine goF W L e1 fun w1 H1 v1 c1 E1 W1 L1 s1 => ?_
    cases (show Dq X.K w1.P H1 v1 (.bool b) from s1)
    exact ⟨b, rfl, k w1 H1 c1 E1 W1⟩
theorem ft_not (ha : FT X a ta) : FT X (.UnaryOp .Not a pos) (tNot ta) := PT.imp (pt_not ha) fun σ H Q h => by
  obtain ⟨w, l, b, m', W, L, e, k⟩ := h
  simp only [Fz.tNot, Option.map_eq_some_iff, Prod.mk.injEq] at e
  obtain ⟨p, e1, rfl, rfl⟩ := e
  exact goT W L e1 fun w1 H1 c1 E1 W1 L1 => k w1 H1 c1 E1 W1
theorem fw_and1 (ha : FT X a ta) : FW X (.BoolOp .And [a] pos) ta := pw_and1 ha
theorem fw_or1 (ha : FT X a ta) : FW X (.BoolOp .Or [a] pos) ta := pw_or1 ha
theorem fw_and (ha : FT X a ta) (hb : FW X (.BoolOp .And (b :: rest) pos) tb) : FW X (.BoolOp .And (a :: b :: rest) pos) (tAnd ta tb) := PW.imp (pw_and ha hb) fun σ H Q h => by
  obtain ⟨w, l, x, m', W, L, e, k⟩ := h
  simp only [Fz.tAnd, Option.bind_eq_some_iff] at e
  obtain ⟨⟨p, m1⟩, e1, e2⟩ := e
  refine goT W L e1 fun w1 H1 c1 E1 W1 L1 => ?_
  cases p with
  | true =>
    rw [if_pos rfl] at e2 ⊢
    exact goT W1 L1 (by rw [c1]; exact e2) fun w2 H2 c2 E2 W2 L2 => k w2 H2 c2 (E1.trans E2) W2
  | false =>
    cases e2
    rw [if_neg Bool.false_ne_true]
    exact k w1 H1 c1 E1 W1
theorem fw_or (ha : FT X a ta) (hb : FW X (.BoolOp .Or (b :: rest) pos) tb) : FW X (.BoolOp .Or (a :: b :: rest) pos) (tOr ta tb) := PW.imp (pw_or ha hb) fun σ H Q h => by
  obtain ⟨w, l, x, m', W, L, e, k⟩ := h
  simp only [Fz.tOr, Option.bind_eq_some_iff] at e
  obtain ⟨⟨p, m1⟩, e1, e2⟩ := e
  refine goT W L e1 fun w1 H1 c1 E1 W1 L1 => ?_
  cases p with
  | true =>
    cases e2
    rw [if_pos rfl]
    exact k w1 H1 c1 E1 W1
  | false =>
    rw [if_neg Bool.false_ne_true] at e2 ⊢
    exact goT W1 L1 (by rw [c1]; exact e2) fun w2 H2 c2 E2 W2 L2 => k w2 H2 c2 (E1.trans E2) W2
theorem ft_w (h : FW X a ta) : FT X a ta := h.pt

/-! ### bools as values, choices -/
theorem fe_one {op : BoolOp} (h : FE X a fa) : FE X (.BoolOp op [a] pos) fa := pe_one h
theorem bl_of {K : PySem.W.Frag} {w : Wo} {H : Hp} {v : V} {k : Bool} (h : SV K w H v (.d (.bool k))) : v = .bl k := by
  cases (show Dq K w.P H v (.bool k) from h); rfl
theorem fe_and (ha : FE X a fa) (hb : FE X (.BoolOp .And (b :: rest) pos) fb) : FE X (.BoolOp .And (a :: b :: rest) pos) (eAnd fa fb) := PE.imp (pe_and ha hb) fun σ H Q h => by
  obtain ⟨w, l, x, m', W, L, e, k⟩ := h
  simp only [eAnd, Option.bind_eq_some_iff] at e
  obtain ⟨⟨p, m1⟩, e1, e2⟩ := e
  cases p with
  | r n => cases e2
  | d y =>
    cases y with
    | bool cc =>
      refine goF W L e1 fun w1 H1 v1 c1 E1 W1 L1 s1 => ⟨cc, bl_of s1, ?_⟩
      cases cc with
      | true => exact goF W1 L1 (by rw [c1]; exact e2) fun w2 H2 v2 c2 E2 W2 L2 s2 => k w2 H2 v2 c2 (E1.trans E2) W2 s2
      | false => cases e2; exact k w1 H1 _ c1 E1 W1 (.bl false)
    | _ => cases e2
theorem fe_or (ha : FE X a fa) (hb : FE X (.BoolOp .Or (b :: rest) pos) fb) : FE X (.BoolOp .Or (a :: b :: rest) pos) (eOr fa fb) := PE.imp (pe_or ha hb) fun σ H Q h => by
  obtain ⟨w, l, x, m', W, L, e, k⟩ := h
  simp only [eOr, Option.bind_eq_some_iff] at e
  obtain ⟨⟨p, m1⟩, e1, e2⟩ := e
  cases p with
  | r n => cases e2
  | d y =>
    cases y with
    | bool cc =>
      refine goF W L e1 fun w1 H1 v1 c1 E1 W1 L1 s1 => ⟨cc, bl_of s1, ?_⟩
      cases cc with
      | false => exact goF W1 L1 (by rw [c1]; exact e2) fun w2 H2 v2 c2 E2 W2 L2 s2 => k w2 H2 v2 c2 (E1.trans E2) W2 s2
      | true => cases e2; exact k w1 H1 _ c1 E1 W1 (.bl true)
    | _ => cases e2
theorem fe_not (ha : FE X a fa) : FE X (.UnaryOp .Not a pos) (eNot (tB fa)) := PE.imp (pe_not ha) fun σ H Q h => by
  obtain ⟨w, l, x, m', W, L, e, k⟩ := h
  simp only [eNot, tB, Option.bind_eq_some_iff, Option.map_eq_some_iff, Prod.mk.injEq] at e
  obtain ⟨⟨r, mm⟩, ⟨⟨p, m1⟩, e1, e2⟩, e3, e4⟩ := e
  cases p with
  | r n => cases e2
  | d y =>
    cases y <;> cases e2
    refine goF W L e1 fun w1 H1 v1 c1 E1 W1 L1 s1 => ⟨_, bl_of s1, ?_⟩
    subst e3 e4
    exact k w1 H1 _ c1 E1 W1 (.bl _)
theorem fe_if (hc : FT X c tc) (ha : FE X a fa) (hb : FE X b fb) : FE X (.IfExp c a b pos) (eIf tc fa fb) := PE.imp (pe_ifExp hc ha hb) fun σ H Q h => by
  obtain ⟨w, l, x, m', W, L, e, k⟩ := h
  simp only [eIf, Option.bind_eq_some_iff] at e
  obtain ⟨⟨p, m1⟩, e1, e2⟩ := e
  refine goT W L e1 fun w1 H1 c1 E1 W1 L1 => ?_
  cases p with
  | true => exact goF W1 L1 (by rw [c1]; exact e2) fun w2 H2 v2 c2 E2 W2 L2 s2 => k w2 H2 v2 c2 (E1.trans E2) W2 s2
  | false => exact goF W1 L1 (by rw [c1]; exact e2) fun w2 H2 v2 c2 E2 W2 L2 s2 => k w2 H2 v2 c2 (E1.trans E2) W2 s2

/-! ### argument lists, displays -/
theorem fa_nil : FA X [] (rA []) := PA.imp pa_nil fun σ H Q ⟨w, l, s, m', W, L, e, k⟩ => by
  cases e; exact k w H [] rfl (Ex.refl w H) W .nil
theorem fa_cons {as : List RE} (ha : FE X a fa) (hr : FA X es (rA as)) (hs : starEach (a :: es) X.env = (false, eval a X.env) :: starEach es X.env := by rfl) : FA X (a :: es) (rA (fa :: as)) := PA.imp (pa_cons ha hr hs) fun σ H Q ⟨w, l, s, m', W, L, e, k⟩ => by
  simp only [rA, Option.bind_eq_some_iff, Option.map_eq_some_iff, Prod.mk.injEq] at e
  obtain ⟨p, e1, q, e2, rfl, rfl⟩ := e
  exact goF W L e1 fun w1 H1 v1 c1 E1 W1 L1 s1 => goA W1 L1 (by rw [c1]; exact e2) fun w2 H2 v2 c2 E2 W2 L2 s2 => k w2 H2 _ c2 (E1.trans E2) W2 (.cons (s1.go W1 E2) s2)
theorem rA_len : ∀ {as : List RE} {l : Lo} {m : Mem} {p : List S × Mem}, rA as l m = some p → p.1.length = as.length
  | [], l, m, p, h => by cases h; rfl
  | a :: as, l, m, p, h => by
    simp only [rA, Option.bind_eq_some_iff, Option.map_eq_some_iff] at h
    obtain ⟨x, _, q, e2, rfl⟩ := h
    simp only [List.length_cons, rA_len e2]
theorem ok_len {n : Nat} (h : n ≤ 1000) : n ≤ sizeLine := Nat.le_trans h (by decide)
theorem fe_tup {as : List RE} {k : Nat} (h : FA X es (rA as)) (hz : as.length ≤ 1000 := by first | decide | exact Nat.le_of_ble_eq_true rfl) : FE X (.Tuple es k pos) (eTup as) := PE.imp (pe_tupN h) fun σ H Q ⟨w, l, s, m', W, L, e, k⟩ => by
  simp only [eTup, Option.bind_eq_some_iff, Option.map_eq_some_iff, Prod.mk.injEq] at e
  obtain ⟨p, e1, ds, e2, rfl, rfl⟩ := e
  refine goA W L e1 fun w1 H1 vs c1 E1 W1 L1 s1 => ?_
  have hl : ds.length ≤ sizeLine := by
    have h1 := rA_len e1
    rw [allD_eq e2, List.length_map] at h1
    exact ok_len (by omega)
  refine ⟨by rw [s1.len, allD_eq e2, List.length_map]; exact hl, fun q o ho hq => ?_⟩
  obtain ⟨E, W'⟩ := W1.same (same_upd (o := .frz o (.tup vs)) hq)
  exact k w1 _ _ c1 (E1.trans E) W' (.tup (.inl ⟨o, upd_same, ho⟩) hl (DqAll.go W1 E (s1.all e2)))
theorem fe_lst {as : List RE} (h : FA X es (rA as)) (hz : as.length ≤ 1000 := by first | decide | exact Nat.le_of_ble_eq_true rfl) : FE X (.List es pos) (eLst as) := PE.imp (pe_lst h) fun σ H Q ⟨w, l, s, m', W, L, e, k⟩ => by
  simp only [eLst, Option.bind_eq_some_iff, Option.map_eq_some_iff, Prod.mk.injEq] at e
  obtain ⟨p, e1, ds, e2, rfl, rfl⟩ := e
  refine goA W L e1 fun w1 H1 vs c1 E1 W1 L1 s1 => ?_
  have hl : ds.length ≤ sizeLine := by
    have h1 := rA_len e1
    rw [allD_eq e2, List.length_map] at h1
    exact ok_len (by omega)
  refine ⟨by rw [s1.len, allD_eq e2, List.length_map]; exact hl, fun q hq => ?_⟩
  obtain ⟨E, W'⟩ := W1.same (same_upd (o := .lst vs) hq)
  exact k w1 _ _ c1 (E1.trans E) W' (.lst (.inl upd_same) (W1.new hq) hl (DqAll.go W1 E (s1.all e2)))
theorem fe_lstM {as : List RE} (h : FA X es (rA as)) (hz : as.length ≤ 1000 := by first | decide | exact Nat.le_of_ble_eq_true rfl) : FE X (.List es pos) (eLstM as) := PE.imp (pe_lst h) fun σ H Q ⟨w, l, s, m', W, L, e, k⟩ => by
  simp only [eLstM, Option.map_eq_some_iff, Prod.mk.injEq] at e
  obtain ⟨p, e1, rfl, rfl⟩ := e
  refine goA W L e1 fun w1 H1 vs c1 E1 W1 L1 s1 => ?_
  have hl : p.1.length ≤ sizeLine := by rw [rA_len e1]; exact ok_len hz
  refine ⟨by rw [s1.len]; exact hl, fun q hq => ?_⟩
  refine k (w1.push q (.lst p.1)) _ _ (by rw [← c1]; rfl) (E1.trans (push_ex W1 hq)) (push_wd W1 hq (fun ss e => ?_) (fun _ e => by cases e) (fun _ e => by cases e)) ⟨by rw [← c1]; simp [Wo.push], by rw [← c1]; exact congrArg V.ref push_al'.symm⟩
  cases e
  exact ⟨hl, vs, rfl, s1⟩

/-! ### by value from now on -/
theorem fe_z (ha : FE X a fa) : FE X a (eZ fa) := PE.imp ha fun σ H Q ⟨w, l, s, m', W, L, e, k⟩ => by
  simp only [eZ, Option.bind_eq_some_iff] at e
  obtain ⟨⟨p, m1⟩, e1, e2⟩ := e
  refine goF W L e1 fun w1 H1 v1 c1 E1 W1 L1 s1 => ?_
  cases p with
  | d x => cases e2; exact k w1 H1 v1 c1 E1 W1 s1
  | r n =>
    simp only at e2
    obtain ⟨hn, rfl⟩ := s1
    subst c1
    cases q : w1.m[n]? with
    | none => rw [q] at e2; cases e2
    | some o =>
      rw [q] at e2
      cases o with
      | lst ss =>
        have e3 : (allD ss).map (fun ds => (S.d (.list ds), w1.m.set n (.frz ds))) = some (s, m') := e2
        simp only [Option.map_eq_some_iff, Prod.mk.injEq] at e3
        obtain ⟨ds, e4, rfl, rfl⟩ := e3
        obtain ⟨W', r⟩ := frz_ok W1 q e4
        exact k (w1.put n (.frz ds)) H1 _ rfl (E1.trans frz_ex) W' r
      | frz ds =>
        cases e2
        obtain ⟨z, vs, h1, r⟩ := W1.frz n ds q
        refine k w1 H1 _ rfl E1 W1 (Dq.lst (.inl h1) ⟨W1.per n hn, fun j hl e => ?_⟩ z r)
        have := W1.inj j n (live_lt hl) hn e
        subst this
        unfold live at hl
        rw [q] at hl
        cases hl
      | dct kvs => cases e2
      | dcT kvs => cases e2

/-! ### built-ins -/
theorem finS {K : PySem.W.Frag} {w : Wo} {H : Hp} {g : PF} {xs : List V} {ss : List S} {ds : List PyData} {r : PyData} {Q : VK} (W : Wd K w H) (h1 : SVs K w H xs ss) (e1 : derefs w.m ss = some ds) (eg : g ds = some r)
    (k : ∀ w' H' v, w'.m = w.m → Ex w H w' H' → Wd K w' H' → SV K w' H' v (.d r) → Q v H') : rFs K g xs H Q :=
  ⟨w.P, ds, r, fun a h => W.new h, h1.derefs W e1, eg, fun v H' S0 hv => let ⟨E, W'⟩ := W.same S0; k w H' v rfl E W' hv⟩
theorem callS {K : PySem.W.Frag} {g : PF} {as : List RE} {σ : L2.St} {H : Hp} {Q : VK} (h : tF K (eB g as) σ H Q) : tCB (rFs K g) (tA K (rA as)) σ H Q := by
  obtain ⟨w, l, s, m', W, L, e, k⟩ := h
  simp only [eB, Option.bind_eq_some_iff, Option.map_eq_some_iff, Prod.mk.injEq] at e
  obtain ⟨p, e1, ds, e2, r, e3, rfl, rfl⟩ := e
  refine goA W L e1 fun w1 H1 vs c1 E1 W1 L1 s1 => finS W1 s1 (by rw [c1]; exact e2) e3 fun w' H' v c E W' hv => k w' H' v (c.trans c1) (E1.trans E) W' hv
theorem fe_b {x : Str} {id : String} {g : PF} {as : List RE} {p : Pos} (hc : FCall X (.builtin id) g) (hm : X.mg x = none) (hv : bootBuiltins x = some (.builtin id)) (ha : FA X (a :: es) (rA as)) (hg : Gl X x := by rfl) (hn : x ≠ "__name__" := by decide) (hdb : (x == ("__debug__" : Str)) = false := by decide) (he : starEach (a :: es) X.env = (false, eval a X.env) :: starEach es X.env := by rfl) (hpl : (backTo pos (starEach es X.env)).any (·.1) = false := by rfl) :
    FE X (.Call (.Name x p) (a :: es) [] pos) (eB g as) := PE.imp (pe_callB hc hg hm hv ha hn hdb he hpl) fun σ H Q h => callS h
theorem fe_ty {x : Str} {T : String} {g : PF} {as : List RE} {p : Pos} (hc : FCall X (.type T) g) (hm : X.mg x = none) (hv : bootBuiltins x = some (.type T)) (ha : FA X (a :: es) (rA as)) (hg : Gl X x := by rfl) (hn : x ≠ "__name__" := by decide) (hdb : (x == ("__debug__" : Str)) = false := by decide) (he : starEach (a :: es) X.env = (false, eval a X.env) :: starEach es X.env := by rfl) (hpl : (backTo pos (starEach es X.env)).any (·.1) = false := by rfl) :
    FE X (.Call (.Name x p) (a :: es) [] pos) (eB g as) := PE.imp (pe_callTy hc hg hm hv ha hn hdb he hpl) fun σ H Q h => callS h

/-! ### slices -/
theorem fo_none : FO X none oN := PO.imp po_none fun σ H Q ⟨w, l, s, m', W, L, e, k⟩ => by
  cases e; exact k w H rfl (Ex.refl w H) W
theorem fo_some (ha : FE X a fa) : FO X (some a) (oI fa) := PO.imp (po_some ha) fun σ H Q ⟨w, l, s, m', W, L, e, k⟩ => by
  simp only [oI, Option.bind_eq_some_iff] at e
  obtain ⟨⟨p, m1⟩, e1, e2⟩ := e
  cases p with
  | r n => cases e2
  | d x =>
    cases x <;> cases e2
    rename_i i
    refine goF W L e1 fun w1 H1 v1 c1 E1 W1 L1 s1 => ?_
    cases (show Dq X.K w1.P H1 v1 (.int i) from s1)
    exact ⟨i, rfl, k w1 H1 c1 E1 W1⟩
def rSl (K : PySem.W.Frag) : V → Option Int → Option Int → Hp → VK → Prop := fun x lo hi H Q => ∃ P d r, (∀ a, H a = none → P a) ∧ Dt K P H x d ∧ slD d lo hi = some r ∧ ∀ v H', Same H H' → Dq K P H' v r → Q v H'
theorem fe_sl {lo hi : Option Expr} {fl fh : RO} {p2 : Pos} (hr : SlR X (rSl X.K)) (ha : FE X a fa) (hl : FO X lo fl) (hh : FO X hi fh) : FE X (.Subscript a (.Slice lo hi none p2) pos) (eSl fa fl fh) := PE.imp (pe_slice hr ha hl hh) fun σ H Q ⟨w, l, s, m', W, L, e, k⟩ => by
  simp only [eSl, Option.bind_eq_some_iff, Option.map_eq_some_iff, Prod.mk.injEq] at e
  obtain ⟨p, e1, q, e2, u, e3, d, e4, r, e5, rfl, rfl⟩ := e
  refine goF W L e1 fun w1 H1 v1 c1 E1 W1 L1 s1 => goO W1 L1 (by rw [c1]; exact e2) fun w2 H2 c2 E2 W2 L2 => goO W2 L2 (by rw [c2]; exact e3) fun w3 H3 c3 E3 W3 L3 => ?_
  refine ⟨w3.P, d, r, fun a h => W3.new h, ((s1.go W1 E2).go W2 E3).deref W3 (by rw [c3]; exact e4), e5, fun v H' S0 hv => ?_⟩
  obtain ⟨E, W'⟩ := W3.same S0
  exact k w3 H' v c3 (E1.trans (E2.trans (E3.trans E))) W' hv
end
end Fz

set_option linter.all false
set_option autoImplicit false
set_option maxRecDepth 100000
/-! FzS5: targets, statements, what is walked, loops. -/
namespace Fz
open PySem PySem.Spec PyProof.Rows L2

/-- behind a statement -/
def Aft (K : PySem.W.Frag) (w : Wo) (H : Hp) (D : Ends) (l' : Lo) (m' : Mem) : Ct → Prop
  | .nx => ∀ w' H' σ', w'.m = m' → Ex w H w' H' → Wd K w' H' → SL K w' H' σ' l' → D.nx σ' H'
  | .bk => ∀ w' H' σ', w'.m = m' → Ex w H w' H' → Wd K w' H' → SL K w' H' σ' l' → D.bk σ' H'
  | .ct => ∀ w' H' σ', w'.m = m' → Ex w H w' H' → Wd K w' H' → SL K w' H' σ' l' → D.ct σ' H'
  | .rt s => ∀ w' H' v, w'.m = m' → Ex w H w' H' → Wd K w' H' → SV K w' H' v s → D.rt v H'
theorem Aft.later {K : PySem.W.Frag} {w w1 : Wo} {H H1 : Hp} {D : Ends} {l' : Lo} {m' : Mem} {c : Ct} (h : Aft K w H D l' m' c) (E : Ex w H w1 H1) : Aft K w1 H1 D l' m' c := by
  cases c with
  | nx => exact fun w' H' σ' c E' W L => h w' H' σ' c (E.trans E') W L
  | bk => exact fun w' H' σ' c E' W L => h w' H' σ' c (E.trans E') W L
  | ct => exact fun w' H' σ' c E' W L => h w' H' σ' c (E.trans E') W L
  | rt s => exact fun w' H' v c E' W r => h w' H' v c (E.trans E') W r
def tS (K : PySem.W.Frag) (f : RS) : TS := fun D σ H => ∃ w l c l' m', Wd K w H ∧ SL K w H σ l ∧ f l w.m = some (c, l', m') ∧ Aft K w H D l' m' c
/-- all but the slots is are as they were -/
def Agr (is : List Nat) (σ σ' : L2.St) : Prop := σ'.length = σ.length ∧ ∀ j, j ∉ is → σ'[j]? = σ[j]?
def gF (K : PySem.W.Frag) (is : List Nat) (g : Tg) : TG := fun v σ H Q => ∃ w l s l', Wd K w H ∧ SL K w H σ l ∧ SV K w H v s ∧ g s l = some l' ∧ ∀ w' H' σ', w'.m = w.m → Ex w H w' H' → Wd K w' H' → SL K w' H' σ' l' → Agr is σ σ' → Q σ' H'
def gFs (K : PySem.W.Frag) (is : List Nat) (gs : List Tg) : TGs := fun vs σ H Q => ∃ w l ds l', Wd K w H ∧ SL K w H σ l ∧ DqAll K w.P H vs ds ∧ gAll gs ds l = some l' ∧ ∀ w' H' σ', w'.m = w.m → Ex w H w' H' → Wd K w' H' → SL K w' H' σ' l' → Agr is σ σ' → Q σ' H'
def FS (X : Cx) (st : Stmt) (f : RS) : Prop := PS X st (tS X.K f)
def FSs (X : Cx) (st : List Stmt) (f : RS) : Prop := PSs X st (tS X.K f)
def FG (X : Cx) (tg : Expr) (is : List Nat) (g : Tg) : Prop := PG X tg (gF X.K is g)
def FGs (X : Cx) (tg : List Expr) (is : List Nat) (g : List Tg) : Prop := PGs X tg (gFs X.K is g)
theorem Agr.refl (is : List Nat) (σ : L2.St) : Agr is σ σ := ⟨rfl, fun _ _ => rfl⟩
theorem Agr.set (i : Nat) (σ : L2.St) (x : Option V) : Agr [i] σ (σ.set i x) := ⟨by simp, fun j h => List.getElem?_set_ne (fun e => h (by simp [e]))⟩
theorem Agr.trans {a b : List Nat} {σ σ1 σ2 : L2.St} (h : Agr a σ σ1) (k : Agr b σ1 σ2) : Agr (a ++ b) σ σ2 := ⟨k.1.trans h.1, fun j q => (k.2 j fun z => q (List.mem_append_right _ z)).trans (h.2 j fun z => q (List.mem_append_left _ z))⟩
theorem _root_.L2.PS.imp {X : Cx} {e : Stmt} {t t' : TS} (h : PS X e t) (i : ∀ D σ H, t' D σ H → t D σ H) : PS X e t' := ⟨fun pins s σ H Q I q => h.run pins s σ H Q I (i _ _ _ q)⟩
theorem _root_.L2.PSs.imp {X : Cx} {e : List Stmt} {t t' : TS} (h : PSs X e t) (i : ∀ D σ H, t' D σ H → t D σ H) : PSs X e t' := ⟨fun pins s σ H Q I q => h.run pins s σ H Q I (i _ _ _ q)⟩
theorem _root_.L2.PG.imp {X : Cx} {e : Expr} {t t' : TG} (h : PG X e t) (i : ∀ v σ H Q, t' v σ H Q → t v σ H Q) : PG X e t' := ⟨fun pins s σ H v u Q I r q => h.run pins s σ H v u Q I r (i _ _ _ _ q)⟩
theorem _root_.L2.PGs.imp {X : Cx} {e : List Expr} {t t' : TGs} (h : PGs X e t) (i : ∀ v σ H Q, t' v σ H Q → t v σ H Q) : PGs X e t' := ⟨fun pins s σ H v u Q I r q => h.run pins s σ H v u Q I r (i _ _ _ _ q)⟩

section
variable {X : Cx} {pos : Pos}
theorem SL.set {K : PySem.W.Frag} {w : Wo} {H : Hp} {σ : L2.St} {l : Lo} {v : V} {s : S} (L : SL K w H σ l) (r : SV K w H v s) (i : Nat) : SL K w H (σ.set i (some v)) (l.set i (some s)) := by
  refine ⟨by simp only [List.length_set]; exact L.1, fun j t e => ?_⟩
  by_cases h : i = j
  · subst h
    by_cases hi : i < l.length
    · rw [List.getElem?_set_self hi] at e
      cases e
      exact ⟨v, List.getElem?_set_self (by rw [← L.1]; exact hi), r⟩
    · rw [List.getElem?_eq_none (by simpa using hi)] at e; cases e
  · rw [List.getElem?_set_ne h] at e
    obtain ⟨u, h1, h2⟩ := L.2 j t e
    exact ⟨u, by rw [List.getElem?_set_ne h]; exact h1, h2⟩
theorem fg_name (i : Nat) {x : Str} (hN : X.N.Nodup) (hi : X.N[i]? = some x := by rfl) (hx : Loc X.env.scope x := by first | exact Or.inl rfl | exact Or.inr rfl) (hf : X.fn x = true ∨ X.env.scope.names.lookup x = some .local := by first | exact .inl rfl | exact .inr rfl) : FG X (.Name x pos) [i] (gN i) :=
  PG.imp (pg_name hN hi hx hf) fun v σ H Q ⟨w, l, s, l', W, L, r, e, k⟩ => by
    cases e
    exact k w H _ rfl (Ex.refl w H) W (L.set r i) (Agr.set i σ _)
theorem fgs_nil : FGs X [] [] [] := PGs.imp pgs_nil fun v σ H Q ⟨w, l, ds, l', W, L, r, e, k⟩ => by
  cases r with
  | nil => cases e; exact ⟨rfl, k w H _ rfl (Ex.refl w H) W L (Agr.refl _ _)⟩
  | cons _ _ => cases e
theorem fgs_cons {e : Expr} {es : List Expr} {g : Tg} {gs : List Tg} {is js : List Nat} (h1 : FG X e is g) (h2 : FGs X es js gs) (hs : (assignEach (e :: es) X.env).map (·.2) = assign e X.env :: (assignEach es X.env).map (·.2) := by rfl) : FGs X (e :: es) (is ++ js) (g :: gs) :=
  PGs.imp (pgs_cons h1 h2 hs) fun v σ H Q ⟨w, l, ds, l', W, L, r, e, k⟩ => by
    cases r with
    | nil => cases e
    | cons a b =>
      simp only [gAll, Option.bind_eq_some_iff] at e
      obtain ⟨l1, e1, e2⟩ := e
      refine ⟨_, _, rfl, w, l, .d _, l1, W, L, a, e1, fun w1 H1 σ1 c1 E1 W1 L1 g1 => ?_⟩
      exact ⟨w1, l1, _, l', W1, L1, DqAll.go W E1 b, e2, fun w' H' σ' c E W' L' g2 => k w' H' σ' (c.trans c1) (E1.trans E) W' L' (g1.trans g2)⟩
theorem fg_tup {es : List Expr} {k : Nat} {gs : List Tg} {is : List Nat} (h : FGs X es is gs) (hc : X.calm = true := by rfl) (hn : (assignEach es X.env).length = gs.length := by rfl) (hst : (assignEach es X.env).findIdx? (·.1) = none := by rfl) : FG X (.Tuple es k pos) is (gT gs) :=
  PG.imp (pg_tup hc h hn hst) fun v σ H Q ⟨w, l, s, l', W, L, r, e, k⟩ => by
    cases s with
    | r n => cases e
    | d x =>
      cases x <;> try (cases e; done)
      rename_i ds
      obtain ⟨a, xs, rfl, h1, h2, h3⟩ := Dq.tup_inv (show Dq X.K w.P H v (.tuple ds) from r)
      have hl : ∀ {gs : List Tg} {ds : List PyData} {l l' : Lo}, gAll gs ds l = some l' → ds.length = gs.length := by
        intro gs
        induction gs with
        | nil => intro ds l l' h; cases ds with
          | nil => rfl
          | cons _ _ => cases h
        | cons g gs ih => intro ds l l' h; cases ds with
          | nil => cases h
          | cons d ds =>
            simp only [gAll, Option.bind_eq_some_iff] at h
            obtain ⟨l1, _, e2⟩ := h
            simp only [List.length_cons, ih e2]
      have e' : gAll gs ds l = some l' := e
      exact ⟨a, xs, rfl, h1, by rw [h3.len, hl e'], w, l, ds, l', W, L, h3, e', k⟩

/-! ### statements -/
theorem fss_nil : FSs X [] sSkip := PSs.imp pss_nil fun D σ H ⟨w, l, c, l', m', W, L, e, k⟩ => by
  cases e; exact k w H σ rfl (Ex.refl w H) W L
theorem seqS {K : PySem.W.Frag} {fa fb : RS} {D : Ends} {σ : L2.St} {H : Hp} (h : tS K (sSeq fa fb) D σ H) : tSeq (tS K fa) (tS K fb) D σ H := by
  obtain ⟨w, l, c, l', m', W, L, e, k⟩ := h
  simp only [sSeq, Option.bind_eq_some_iff] at e
  obtain ⟨⟨c1, l1, m1⟩, e1, e2⟩ := e
  refine ⟨w, l, c1, l1, m1, W, L, e1, ?_⟩
  cases c1 with
  | nx =>
    refine fun w1 H1 σ1 d1 E1 W1 L1 => ⟨w1, l1, c, l', m', W1, L1, by rw [d1]; exact e2, k.later E1⟩
  | bk => cases e2; exact k
  | ct => cases e2; exact k
  | rt s => cases e2; exact k
theorem fss_cons {st : Stmt} {rest : List Stmt} {fa fb : RS} (h1 : FS X st fa) (h2 : FSs X rest fb) : FSs X (st :: rest) (sSeq fa fb) := PSs.imp (pss_cons h1 h2) fun D σ H h => seqS h
theorem fss_one {st : Stmt} {fa : RS} (h1 : FS X st fa) : FSs X [st] fa := pss_one h1
theorem fs_pass : FS X (.Pass pos) sSkip := PS.imp ps_pass fun D σ H ⟨w, l, c, l', m', W, L, e, k⟩ => by
  cases e; exact k w H σ rfl (Ex.refl w H) W L
theorem fs_brk : FS X (.Break pos) sBrk := PS.imp ps_break fun D σ H ⟨w, l, c, l', m', W, L, e, k⟩ => by
  cases e; exact k w H σ rfl (Ex.refl w H) W L
theorem fs_cnt : FS X (.Continue pos) sCnt := PS.imp ps_continue fun D σ H ⟨w, l, c, l', m', W, L, e, k⟩ => by
  cases e; exact k w H σ rfl (Ex.refl w H) W L
theorem fs_asg {tg e : Expr} {f : RE} {g : Tg} {is : List Nat} (he : FE X e f) (hg : FG X tg is g) (hs : swapsWithSole [tg] e pos.line X.env = pure false := by rfl) (hw : swappedStores [tg] e X.env = pure none := by rfl)
    (h1 : (assignEach [tg] X.env).map (·.2) = [assign tg X.env] := by rfl) : FS X (.Assign [tg] e pos) (sAsg g f) := PS.imp (ps_asg he hg hs hw h1) fun D σ H ⟨w, l, c, l', m', W, L, e, k⟩ => by
  simp only [sAsg, Option.bind_eq_some_iff, Option.map_eq_some_iff, Prod.mk.injEq] at e
  obtain ⟨p, e1, l1, e2, rfl, rfl, rfl⟩ := e
  refine goF W L e1 fun w1 H1 v1 c1 E1 W1 L1 s1 => ⟨w1, l, p.1, l1, W1, L1, s1, e2, fun w' H' σ' c E W' L' _ => k w' H' σ' (c.trans c1) (E1.trans E) W' L'⟩
theorem fs_set (i : Nat) {x : Str} {e : Expr} {f : RE} {pos' : Pos} (he : FE X e f) (hN : X.N.Nodup) (hi : X.N[i]? = some x := by rfl) (hx : Loc X.env.scope x := by first | exact Or.inl rfl | exact Or.inr rfl) (hs : swapsWith e (some (.Name x pos')) pos.line X.env = pure false := by rfl) (hf : X.fn x = true ∨ X.env.scope.names.lookup x = some .local := by first | exact .inl rfl | exact .inr rfl) :
    FS X (.Assign [.Name x pos'] e pos) (sSet i f) := PS.imp (ps_set hN hi hx he hs hf) fun D σ H ⟨w, l, c, l', m', W, L, e, k⟩ => by
  simp only [sSet, sAsg, Option.bind_eq_some_iff, Option.map_eq_some_iff, Prod.mk.injEq] at e
  obtain ⟨p, e1, l1, e2, rfl, rfl, rfl⟩ := e
  cases e2
  exact goF W L e1 fun w1 H1 v1 c1 E1 W1 L1 s1 => k w1 H1 _ c1 E1 W1 (L1.set s1 i)
theorem fs_ret {e : Expr} {f : RE} (he : FE X e f) : FS X (.Return (some e) pos) (sRet f) := PS.imp (ps_ret he) fun D σ H ⟨w, l, c, l', m', W, L, e, k⟩ => by
  simp only [sRet, Option.map_eq_some_iff, Prod.mk.injEq] at e
  obtain ⟨p, e1, rfl, rfl, rfl⟩ := e
  exact goF W L e1 fun w1 H1 v1 c1 E1 W1 L1 s1 => k w1 H1 v1 c1 E1 W1 s1
theorem fs_retN : FS X (.Return none pos) sRetN := PS.imp ps_retN fun D σ H ⟨w, l, c, l', m', W, L, e, k⟩ => by
  cases e; exact k w H _ rfl (Ex.refl w H) W Dq.non
theorem fs_drop {e : Expr} {f : RE} (he : FE X e f) (hs : swapsWith e none pos.line X.env = pure false := by rfl) : FS X (.Expr e pos) (sDrop f) := PS.imp (ps_expr he hs) fun D σ H ⟨w, l, c, l', m', W, L, e, k⟩ => by
  simp only [sDrop, Option.map_eq_some_iff, Prod.mk.injEq] at e
  obtain ⟨p, e1, rfl, rfl, rfl⟩ := e
  exact goF W L e1 fun w1 H1 v1 c1 E1 W1 L1 s1 => k w1 H1 _ c1 E1 W1 L1
theorem fs_if {c : Expr} {a b : List Stmt} {tc : RT} {fa fb : RS} (hc : FT X c tc) (ha : FSs X a fa) (hb : FSs X b fb) : FS X (.If c a b pos) (sIf tc fa fb) := PS.imp (ps_if hc ha hb) fun D σ H ⟨w, l, c, l', m', W, L, e, k⟩ => by
  simp only [sIf, Option.bind_eq_some_iff] at e
  obtain ⟨⟨p, m1⟩, e1, e2⟩ := e
  refine goT W L e1 fun w1 H1 c1 E1 W1 L1 => ?_
  cases p with
  | true => exact ⟨w1, l, c, l', m', W1, L1, by rw [c1]; exact e2, k.later E1⟩
  | false => exact ⟨w1, l, c, l', m', W1, L1, by rw [c1]; exact e2, k.later E1⟩

end
section
variable {K : PySem.W.Frag} {w : Wo} {H : Hp}
/-! ### another permission, more laid -/
def Wo.perm (w : Wo) (P0 : Addr → Prop) : Wo := ⟨P0, w.al, w.m⟩
section
variable {H' : Hp} {P1 : Addr → Prop}
theorem SV.perm (S0 : Same H H') (hp : ∀ a o, H a = some o → w.P0 a → P1 a) {v : V} {s : S} (h : SV K w H v s) : SV K (w.perm P1) H' v s := by
  cases s with
  | d x => exact Dq.mono S0 (fun a o e p => ⟨hp a o e p.1, p.2⟩) (show Dq K w.P H v x from h)
  | r n => exact h
theorem SVs.perm (S0 : Same H H') (hp : ∀ a o, H a = some o → w.P0 a → P1 a) : ∀ {vs : List V} {ss : List S}, SVs K w H vs ss → SVs K (w.perm P1) H' vs ss
  | _, _, .nil => .nil
  | _, _, .cons a b => .cons (SV.perm S0 hp a) (SVs.perm S0 hp b)
theorem KSV.perm (S0 : Same H H') (hp : ∀ a o, H a = some o → w.P0 a → P1 a) : ∀ {vs : List (Key × V)} {ss : List (PyData × S)}, KSV K w H vs ss → KSV K (w.perm P1) H' vs ss
  | _, _, .nil => .nil
  | _, _, .cons a b => .cons ⟨a.1, SV.perm S0 hp a.2⟩ (KSV.perm S0 hp b)
theorem TSV.perm (S0 : Same H H') (hp : ∀ a o, H a = some o → w.P0 a → P1 a) : ∀ {vs : List DEnt} {ss : List (NestedKey × S)}, TSV K w H vs ss → TSV K (w.perm P1) H' vs ss
  | _, _, .nil => .nil
  | _, _, .cons a b => .cons ⟨a.1, (let ⟨d, q1, q2⟩ := a.2.1; ⟨d, Dq.mono S0 (fun a o e p => ⟨hp a o e p.1, p.2⟩) q1, q2⟩), let ⟨v, r1, r2⟩ := a.2.2; ⟨v, r1, SV.perm S0 hp r2⟩⟩ (TSV.perm S0 hp b)
theorem SL.perm (S0 : Same H H') (hp : ∀ a o, H a = some o → w.P0 a → P1 a) {σ : L2.St} {l : Lo} (h : SL K w H σ l) : SL K (w.perm P1) H' σ l :=
  ⟨h.1, fun i s e => let ⟨v, q, r⟩ := h.2 i s e; ⟨v, q, SV.perm S0 hp r⟩⟩
theorem Wd.perm (W : Wd K w H) (S0 : Same H H') (hp : ∀ a o, H a = some o → w.P0 a → P1 a) (hf : ∀ a, H' a = none → P1 a) : Wd K (w.perm P1) H' := by
  refine ⟨W.sys.imp fun _ e => ⟨S0 _ _ e.1, e.2⟩, W.sys.elim fun _ e => hp _ _ e.1 W.syp, W.syn, hf, W.inj, fun n hn => ?_, fun n ss e => ?_, fun n ds e => ?_, fun n kvs e => ?_, fun n kvs e => ?_⟩
  · cases q : H (w.al n) with
    | none => exact absurd q (W.there hn)
    | some o => exact hp _ o q (W.per n hn)
  · obtain ⟨z, vs, h, r⟩ := W.lst n ss e; exact ⟨z, vs, S0 _ _ h, SVs.perm S0 hp r⟩
  · obtain ⟨z, vs, h, r⟩ := W.frz n ds e; exact ⟨z, vs, S0 _ _ h, DqAll.mono S0 (fun a o e p => ⟨hp a o e p.1, p.2⟩) r⟩
  · obtain ⟨vs, h, r⟩ := W.dct n kvs e; exact ⟨vs, S0 _ _ h, KSV.perm S0 hp r⟩
  · obtain ⟨vs, h, r⟩ := W.dcT n kvs e; exact ⟨vs, S0 _ _ h, TSV.perm S0 hp r⟩
/-- what was tracked is tracked -/
theorem Ex.there {w' : Wo} (E : Ex w H w' H') (W' : Wd K w' H') {a : Addr} (h : H' a = none) : H a = none := by
  cases q : H a with
  | none => rfl
  | some o =>
    by_cases hl : ∃ n, live w.m n ∧ w.al n = a
    · obtain ⟨n, l1, l2⟩ := hl
      have hn := live_lt l1
      exact absurd (by rw [E.same n hn, l2]; exact h) (W'.there (Nat.lt_of_lt_of_le hn E.len))
    · rw [(E.keep a o q fun n l1 l2 => hl ⟨n, l1, l2⟩).1] at h; cases h
end
end
section
variable {X : Cx} {pos : Pos}

/-! ### what is walked -/
/-- J yields the items xs, and the world goes on -/
def Yl (K : PySem.W.Frag) (w : Wo) (H : Hp) (J : It) (xs : List S) : Prop := xs.length ≤ sizeLine ∧ ∀ P1 w2 H2, (∀ a o, H a = some o → w.P0 a → P1 a) → Ex (w.perm P1) H w2 H2 → Wd K w2 H2 →
  J.stop xs.length H2 ∧ ∀ i s, xs[i]? = some s → J.go i H2 ∧ ∀ v H3, J.yld i H2 v H3 → ∃ w3, w3.m = w2.m ∧ Ex w2 H2 w3 H3 ∧ Wd K w3 H3 ∧ SV K w3 H3 v s
def tI (K : PySem.W.Frag) (f : RI) : TI := fun σ H R => ∃ w l xs m', Wd K w H ∧ SL K w H σ l ∧ f l w.m = some (xs, m') ∧
  ∀ w' H' J, w'.m = m' → Ex w H w' H' → Wd K w' H' → Yl K w' H' J xs → R J H'
def FI (X : Cx) (tg iter : Expr) (f : RI) : Prop := PI X tg iter (tI X.K f)
theorem _root_.L2.PI.imp {X : Cx} {tg e : Expr} {t t' : TI} (h : PI X tg e t) (i : ∀ σ H R, t' σ H R → t σ H R) : PI X tg e t' := ⟨fun pins s σ H R I q => h.run pins s σ H R I (i _ _ _ q)⟩

theorem DqAll.at {K : PySem.W.Frag} {P : Addr → Prop} {H : Hp} : ∀ {vs : List V} {ds : List PyData}, DqAll K P H vs ds → ∀ (i : Nat) (d : PyData), ds[i]? = some d → ∃ v, vs[i]? = some v ∧ Dq K P H v d
  | _, _, .nil, i, d, h => by simp at h
  | _, _, .cons a b, 0, d, h => by simp at h; subst h; exact ⟨_, rfl, a⟩
  | _, _, .cons a b, i + 1, d, h => by
    obtain ⟨v, e, r⟩ := DqAll.at b i d (by simpa using h)
    exact ⟨v, by simpa using e, r⟩
theorem map_at {ds : List PyData} {i : Nat} {s : S} (h : (ds.map S.d)[i]? = some s) : ∃ d, ds[i]? = some d ∧ s = .d d := by
  rw [List.getElem?_map] at h
  cases q : ds[i]? with
  | none => rw [q] at h; cases h
  | some d => rw [q] at h; cases h; exact ⟨d, rfl, rfl⟩
theorem goZ {K : PySem.W.Frag} {w : Wo} {H : Hp} {σ : L2.St} {l : Lo} {f : RE} {x : PyData} {m' : Mem} {R : VK} (W : Wd K w H) (L : SL K w H σ l) (e : eZ f l w.m = some (.d x, m'))
    (k : ∀ w' H' v, w'.m = m' → Ex w H w' H' → Wd K w' H' → SL K w' H' σ l → Dq K w'.P H' v x → R v H') : tF K (eZ f) σ H R := goF W L e k
theorem DqAll.goP {K : PySem.W.Frag} {w w2 : Wo} {H H2 : Hp} {P1 : Addr → Prop} (W : Wd K w H) (hp : ∀ a o, H a = some o → w.P0 a → P1 a) (E : Ex (w.perm P1) H w2 H2) {vs : List V} {ds : List PyData} (r : DqAll K w.P H vs ds) : DqAll K w2.P H2 vs ds := by
  have r1 : DqAll K (w.perm P1).P H vs ds := DqAll.mono (fun _ _ e => e) (fun a o e p => ⟨hp a o e p.1, p.2⟩) r
  exact DqAll.go' (w := w.perm P1) W.lv E r1
/-- a list that stays -/
theorem yl_list {K : PySem.W.Frag} {w : Wo} {H : Hp} {a : Addr} {xs : List V} {ds : List PyData} (W : Wd K w H) (h : (Rd H a (.lst xs) ∧ w.P a) ∨ KL K a xs) (z : ds.length ≤ sizeLine) (r : DqAll K w.P H xs ds) : Yl K w H (Itl K a) (ds.map S.d) := by
  refine ⟨by rw [List.length_map]; exact z, fun P1 w2 H2 hp E W2 => ?_⟩
  have h2 : SqL K H2 a xs := by
    rcases h with ⟨h, p⟩ | h
    · refine .inl (Wd.rdL E h (⟨?_, p.2⟩ : (w.perm P1).P a)).1
      rcases h with h | ⟨o, h⟩ <;> exact hp a _ h p.1
    · exact RdL.seq (.inr h)
  have r2 := DqAll.goP W hp E r
  refine ⟨⟨xs, h2, by rw [List.length_map, r.len]; exact Nat.le_refl _⟩, fun i s e => ?_⟩
  obtain ⟨d, e1, rfl⟩ := map_at e
  obtain ⟨v, e2, r3⟩ := r2.at i d e1
  refine ⟨⟨xs, v, h2, e2⟩, fun v' H3 y => ?_⟩
  obtain ⟨rfl, y2⟩ := y
  have := Option.some.inj ((y2 xs h2).symm.trans e2)
  subst this
  exact ⟨w2, rfl, Ex.refl _ _, W2, r3⟩
theorem yl_tup {K : PySem.W.Frag} {w : Wo} {H : Hp} {a : Addr} {xs : List V} {ds : List PyData} (W : Wd K w H) (h : SqT K H a xs) (z : ds.length ≤ sizeLine) (r : DqAll K w.P H xs ds) : Yl K w H (Itt K a) (ds.map S.d) := by
  refine ⟨by rw [List.length_map]; exact z, fun P1 w2 H2 hp E W2 => ?_⟩
  have h2 : SqT K H2 a xs := W.rdT (w' := w2.perm w.P0) ⟨rfl, E.len, E.same, E.keep⟩ h
  have r2 := DqAll.goP W hp E r
  refine ⟨⟨xs, h2, by rw [List.length_map, r.len]; exact Nat.le_refl _⟩, fun i s e => ?_⟩
  obtain ⟨d, e1, rfl⟩ := map_at e
  obtain ⟨v, e2, r3⟩ := r2.at i d e1
  refine ⟨⟨xs, v, h2, e2⟩, fun v' H3 y => ?_⟩
  obtain ⟨rfl, y2⟩ := y
  have := Option.some.inj ((y2 xs h2).symm.trans e2)
  subst this
  exact ⟨w2, rfl, Ex.refl _ _, W2, r3⟩
/-- a list, told to be one -/
def iL (a : RE) : RI := fun l m => (eZ a l m).bind fun p => match p.1 with
  | .d (.list xs) => some (xs.map S.d, p.2)
  | _ => none
def iT (a : RE) : RI := fun l m => (eZ a l m).bind fun p => match p.1 with
  | .d (.tuple xs) => some (xs.map S.d, p.2)
  | _ => none
theorem fi_list {tg e : Expr} {f : RE} (he : FE X e f) : FI X tg e (iL f) := PI.imp (pi_list (fe_z he)) fun σ H R ⟨w, l, xs, m', W, L, e, k⟩ => by
  simp only [iL, Option.bind_eq_some_iff] at e
  obtain ⟨⟨p, m1⟩, e1, e2⟩ := e
  cases p with
  | r n => cases e2
  | d x =>
    cases x <;> try (cases e2; done)
    rename_i ds
    cases e2
    refine goZ W L e1 fun w1 H1 v1 c1 E1 W1 L1 s1 => ?_
    obtain ⟨a, xs, rfl, h1, h2, h3⟩ := s1.lst_inv
    exact ⟨a, rfl, ⟨xs, RdL.seq (h1.imp And.left id)⟩, k w1 H1 _ c1 E1 W1 (yl_list W1 h1 h2 h3)⟩
theorem fi_tup {tg e : Expr} {f : RE} (he : FE X e f) : FI X tg e (iT f) := PI.imp (pi_tup (fe_z he)) fun σ H R ⟨w, l, xs, m', W, L, e, k⟩ => by
  simp only [iT, Option.bind_eq_some_iff] at e
  obtain ⟨⟨p, m1⟩, e1, e2⟩ := e
  cases p with
  | r n => cases e2
  | d x =>
    cases x <;> try (cases e2; done)
    rename_i ds
    cases e2
    refine goZ W L e1 fun w1 H1 v1 c1 E1 W1 L1 s1 => ?_
    obtain ⟨a, xs, rfl, h1, h2, h3⟩ := s1.tup_inv
    exact ⟨a, rfl, ⟨xs, h1⟩, k w1 H1 _ c1 E1 W1 (yl_tup W1 h1 h2 h3)⟩
/-- a list or a tuple -/
theorem fi_seq {tg e : Expr} {f : RE} (he : FE X e f) : FI X tg e (iD f) := by
  have h1 := fi_list (tg := tg) he
  have h2 := fi_tup (tg := tg) he
  refine ⟨fun pins s σ H R I h => ?_⟩
  obtain ⟨w, l, xs, m', W, L, e, k⟩ := h
  simp only [iD, Option.bind_eq_some_iff] at e
  obtain ⟨⟨p, m1⟩, e1, e2⟩ := e
  cases p with
  | r n => cases e2
  | d x =>
    cases x <;> try (cases e2; done)
    · cases e2
      exact h1.run pins s σ H R I ⟨w, l, _, _, W, L, by simp only [iL, e1, Option.bind_some], k⟩
    · cases e2
      exact h2.run pins s σ H R I ⟨w, l, _, _, W, L, by simp only [iT, e1, Option.bind_some], k⟩
theorem upto_at {n i : Nat} {s : S} (h : ((upto n).map S.d)[i]? = some s) : i < n ∧ s = .d (.int (i : Nat)) := by
  obtain ⟨d, h1, rfl⟩ := map_at h
  unfold upto at h1
  rw [List.getElem?_map] at h1
  cases q : (List.range n)[i]? with
  | none => rw [q] at h1; cases h1
  | some j =>
    rw [q] at h1; cases h1
    obtain ⟨hi, e⟩ := List.getElem?_eq_some_iff.mp q
    simp at hi e
    subst e
    exact ⟨hi, rfl⟩
theorem fromTo_at {n i : Nat} {lo : Int} {s : S} (h : ((fromTo lo n).map S.d)[i]? = some s) : i < n ∧ s = .d (.int (lo + (i : Nat))) := by
  obtain ⟨d, h1, rfl⟩ := map_at h
  unfold fromTo at h1
  rw [List.getElem?_map] at h1
  cases q : (List.range n)[i]? with
  | none => rw [q] at h1; cases h1
  | some j =>
    rw [q] at h1; cases h1
    obtain ⟨hi, e⟩ := List.getElem?_eq_some_iff.mp q
    simp at hi e
    subst e
    exact ⟨hi, rfl⟩
theorem lim_le : lim ≤ sizeLine := by rw [sizeLine_eq]; decide
theorem yl_rng {K : PySem.W.Frag} {w : Wo} {H : Hp} {lo : Int} {n : Nat} (hz : n ≤ sizeLine) : Yl K w H (Itr lo n) ((fromTo lo n).map S.d) := by
  have hl : ((fromTo lo n).map S.d).length = n := by simp [fromTo]
  refine ⟨by rw [hl]; exact hz, fun P1 w2 H2 hp E W2 => ⟨by rw [hl]; exact Nat.le_refl _, fun i s e => ?_⟩⟩
  obtain ⟨hi, rfl⟩ := fromTo_at e
  refine ⟨hi, fun v H3 y => ?_⟩
  obtain ⟨rfl, rfl⟩ := y
  exact ⟨w2, rfl, Ex.refl _ _, W2, .int _⟩
theorem upto_eq (n : Nat) : upto n = fromTo 0 n := by
  unfold upto fromTo
  exact List.map_congr_left fun k _ => by rw [Int.zero_add]
theorem fi_range {tg a : Expr} {f : RE} {p : Pos} (hm : X.mg "range" = none) (ha : FE X a f) (hg : Gl X "range" := by rfl) (hs : starEach [a] X.env = [(false, eval a X.env)] := by rfl) : FI X tg (.Call (.Name "range" p) [a] [] pos) (iRange f) :=
  PI.imp (pi_range1 hg hm (fa_cons ha fa_nil (by rw [hs]; rfl)) hs) fun σ H R ⟨w, l, xs, m', W, L, e, k⟩ => by
    simp only [iRange, Option.bind_eq_some_iff] at e
    obtain ⟨⟨p, m1⟩, e1, e2⟩ := e
    cases p with
    | r n => cases e2
    | d x =>
      cases x <;> try (cases e2; done)
      rename_i j
      simp only at e2
      split at e2
      · rename_i hj
        obtain ⟨hn, hj⟩ := hj
        cases e2
        refine goA W L (show rA [f] l w.m = some ([S.d (.int j)], m') by simp [rA, e1]) fun w1 H1 vs c1 E1 W1 L1 s1 => ?_
        cases s1
        rename_i r rr
        cases rr
        cases (show Dq X.K w1.P H1 _ (.int j) from r)
        have hll : (lim : Int) = 1000000 := rfl
        have h3 := lim_le
        have h4 : lim = 1000000 := rfl
        exact ⟨j, rfl, by omega, by omega, k w1 H1 _ c1 E1 W1 (by rw [upto_eq]; exact yl_rng (by omega))⟩
      · cases e2
theorem fi_range2 {tg a b : Expr} {f f2 : RE} {p : Pos} (hm : X.mg "range" = none) (ha : FE X a f) (hb : FE X b f2) (hg : Gl X "range" := by rfl) (hs : starEach [a, b] X.env = [(false, eval a X.env), (false, eval b X.env)] := by rfl) (hs2 : starEach [b] X.env = [(false, eval b X.env)] := by rfl) :
    FI X tg (.Call (.Name "range" p) [a, b] [] pos) (iRange2 f f2) :=
  PI.imp (pi_range2 hg hm (fa_cons ha (fa_cons hb fa_nil (by rw [hs2]; rfl)) (by rw [hs, hs2])) hs hs2) fun σ H R ⟨w, l, xs, m', W, L, e, k⟩ => by
    simp only [iRange2, Option.bind_eq_some_iff] at e
    obtain ⟨⟨p, m1⟩, e1, ⟨q, m2⟩, e2, e3⟩ := e
    cases p with
    | r n => cases e3
    | d x =>
      cases q with
      | r n => cases x <;> cases e3
      | d y =>
        cases x <;> try (cases e3; done)
        cases y <;> try (cases e3; done)
        rename_i i j
        simp only at e3
        split at e3
        · rename_i hj
          obtain ⟨h1, h2, h3, h4⟩ := hj
          cases e3
          refine goA W L (show rA [f, f2] l w.m = some ([S.d (.int i), S.d (.int j)], m') by simp [rA, e1, e2]) fun w1 H1 vs c1 E1 W1 L1 s1 => ?_
          cases s1
          rename_i r rr
          cases rr
          rename_i r' rr
          cases rr
          cases (show Dq X.K w1.P H1 _ (.int i) from r)
          cases (show Dq X.K w1.P H1 _ (.int j) from r')
          have hll : (lim : Int) = 1000000 := rfl
          have h5 := sizeLine_eq
          exact ⟨i, j, rfl, ⟨by omega, by omega, by omega, by omega⟩, k w1 H1 _ c1 E1 W1 (yl_rng (by omega))⟩
        · cases e3

/-! ### loops -/
theorem passN {M : Model} {A : Around} {env : Env} : PassesOwn M A env (fun _ _ => False) := PassesOwn.never
theorem fs_for {tg iter : Expr} {body : List Stmt} {it : RI} {g : Tg} {is : List Nat} {b : RS} (hp : PassesOwn (model X.prog X.w) X.A X.env X.xe) (hi : FI X tg iter it) (hg : FG X tg is g) (hb : FSs X body b) (hc : X.calm = true := by rfl)
    (hs : ∀ x, foldedSetIterable iter X.env x = pure x := by intro _; rfl) : FS X (.For tg iter body [] pos) (sFor it g b) := PS.imp (ps_for hp hc hi hg hb hs) fun D σ H ⟨w, l, c, l', m', W, L, e, k⟩ => by
  simp only [sFor, Option.bind_eq_some_iff] at e
  obtain ⟨⟨xs, m1⟩, e1, e2⟩ := e
  refine ⟨w, l, xs, m1, W, L, e1, fun w1 H1 J c1 E1 W1 Y => ?_⟩
  refine ⟨fun i m σ' H' => m = xs.length - i ∧ i ≤ xs.length ∧ ∃ w2 l2, Ex w1 H1 w2 H' ∧ Wd X.K w2 H' ∧ SL X.K w2 H' σ' l2 ∧ forGo g b (xs.drop i) l2 w2.m = some (c, l', m') ∧ Aft X.K w2 H' D l' m' c,
    ⟨xs.length, by simp, Nat.zero_le _, w1, l, Ex.refl _ _, W1, L.go W E1, by rw [List.drop_zero, c1]; exact e2, k.later E1⟩, ?_⟩
  rintro i m σ' H' ⟨rfl, hi', w2, l2, E2, W2, L2, e3, k2⟩
  obtain ⟨y1, y2⟩ := Y.2 w1.P0 w2 H' (fun _ _ _ p => p) E2 W2
  by_cases hlt : i < xs.length
  · obtain ⟨go, yld⟩ := y2 i xs[i] (List.getElem?_eq_getElem hlt)
    refine .inr ⟨go, fun σ3 H3 => ∃ w3 l3, Ex w1 H1 w3 H3 ∧ Wd X.K w3 H3 ∧ SL X.K w3 H3 σ3 l3 ∧ forGo g b (xs.drop (i + 1)) l3 w3.m = some (c, l', m') ∧ Aft X.K w3 H3 D l' m' c,
      fun σ3 H3 h => ⟨_, by omega, rfl, by omega, h⟩, fun v H3 hy => ?_⟩
    obtain ⟨w3, c3, E3, W3, s3⟩ := yld v H3 hy
    rw [List.drop_eq_getElem_cons hlt] at e3
    simp only [forGo, Option.bind_eq_some_iff] at e3
    obtain ⟨l3, e4, ⟨cc, l4, m4⟩, e5, e6⟩ := e3
    refine ⟨w3, l2, xs[i], l3, W3, L2.go W2 E3, s3, e4, fun w4 H4 σ4 c4 E4 W4 L4 _ => ?_⟩
    refine ⟨w4, l3, cc, l4, m4, W4, L4, by rw [c4, c3]; exact e5, ?_⟩
    have E24 := E2.trans (E3.trans E4)
    have k4 := k2.later (E3.trans E4)
    cases cc with
    | nx => exact fun w5 H5 σ5 c5 E5 W5 L5 => ⟨w5, l4, E24.trans E5, W5, L5, by rw [c5]; exact e6, k4.later E5⟩
    | ct => exact fun w5 H5 σ5 c5 E5 W5 L5 => ⟨w5, l4, E24.trans E5, W5, L5, by rw [c5]; exact e6, k4.later E5⟩
    | bk =>
      cases e6
      exact fun w5 H5 σ5 c5 E5 W5 L5 => k4 w5 H5 σ5 c5 E5 W5 L5
    | rt s =>
      cases e6
      exact fun w5 H5 v c5 E5 W5 r => k4 w5 H5 v c5 E5 W5 r
  · have hi2 : i = xs.length := by omega
    subst hi2
    rw [List.drop_length] at e3
    cases e3
    exact .inl ⟨y1, k2 w2 H' σ' rfl (Ex.refl _ _) W2 L2⟩
theorem fs_while (n : Nat) {c : Expr} {body : List Stmt} {tc : RT} {b : RS} (hp : PassesOwn (model X.prog X.w) X.A X.env X.xe) (hc : FT X c tc) (hb : FSs X body b) : FS X (.While c body [] pos) (sWhile n tc b) := PS.imp (ps_while hp hc hb) fun D σ H ⟨w, l, c, l', m', W, L, e, k⟩ => by
  simp only [sWhile] at e
  refine ⟨fun j σ' H' => ∃ w2 l2, Ex w H w2 H' ∧ Wd X.K w2 H' ∧ SL X.K w2 H' σ' l2 ∧ whileGo tc b j l2 w2.m = some (c, l', m') ∧ Aft X.K w2 H' D l' m' c, ⟨n, w, l, Ex.refl _ _, W, L, e, k⟩, ?_⟩
  rintro j σ' H' ⟨w2, l2, E2, W2, L2, e3, k2⟩
  cases j with
  | zero => cases e3
  | succ j =>
    simp only [whileGo, Option.bind_eq_some_iff] at e3
    obtain ⟨⟨q, m3⟩, e4, e5⟩ := e3
    refine goT W2 L2 e4 fun w3 H3 c3 E3 W3 L3 => ?_
    cases q with
    | false =>
      cases e5
      rw [if_neg Bool.false_ne_true]
      exact k2 w3 H3 σ' c3 E3 W3 L3
    | true =>
      rw [if_pos rfl] at e5 ⊢
      simp only [Option.bind_eq_some_iff] at e5
      obtain ⟨⟨cc, l4, m4⟩, e6, e7⟩ := e5
      refine ⟨fun σ5 H5 => ∃ w5 l5, Ex w H w5 H5 ∧ Wd X.K w5 H5 ∧ SL X.K w5 H5 σ5 l5 ∧ whileGo tc b j l5 w5.m = some (c, l', m') ∧ Aft X.K w5 H5 D l' m' c, fun σ5 H5 h => ⟨j, Nat.lt_succ_self j, h⟩, ?_⟩
      refine ⟨w3, l2, cc, l4, m4, W3, L3, by rw [c3]; exact e6, ?_⟩
      have E23 := E2.trans E3
      have k3 := k2.later E3
      cases cc with
      | nx => exact fun w5 H5 σ5 c5 E5 W5 L5 => ⟨w5, l4, E23.trans E5, W5, L5, by rw [c5]; exact e7, k3.later E5⟩
      | ct => exact fun w5 H5 σ5 c5 E5 W5 L5 => ⟨w5, l4, E23.trans E5, W5, L5, by rw [c5]; exact e7, k3.later E5⟩
      | bk =>
        cases e7
        exact fun w5 H5 σ5 c5 E5 W5 L5 => k3 w5 H5 σ5 c5 E5 W5 L5
      | rt s =>
        cases e7
        exact fun w5 H5 v c5 E5 W5 r => k3 w5 H5 v c5 E5 W5 r
end
end Fz

set_option linter.all false
set_option autoImplicit false
set_option maxRecDepth 100000
/-! FzS6: list comprehensions. -/
namespace Fz
open PySem PySem.Spec PyProof.Rows L2

/-! ### an object aside: tracked, in no one's reach -/
section
variable {K : PySem.W.Frag} {P : Addr → Prop} {H : Hp} {D : Addr} {acc : List V} {o : HO}
/-- of any kind but a tuple -/
def NotT (H : Hp) (D : Addr) : Prop := ∀ ys, ¬ Rd H D (.tup ys)
theorem NotT.lst (h : H D = some (.lst acc)) : NotT H D := fun ys r => by
  rcases r with r | ⟨o, r⟩ <;> (rw [h] at r; cases r)
theorem NotT.dK {kv : List (Key × V)} (h : H D = some (.dK kv)) : NotT H D := fun ys r => by
  rcases r with r | ⟨o, r⟩ <;> (rw [h] at r; cases r)
theorem sqt_out (hD : NotT H D) {a : Addr} {xs : List V} (h : SqT K H a xs) : SqT K (upd H D o) a xs := by
  have ne : Rd H a (.tup xs) → a ≠ D := fun q e => hD xs (e ▸ q)
  rcases h with (h | ⟨o', h⟩) | h
  · exact .inl (.inl (by rw [upd_ne (ne (.inl h))]; exact h))
  · exact .inl (.inr ⟨o', by rw [upd_ne (ne (.inr ⟨o', h⟩))]; exact h⟩)
  · exact .inr h
theorem sqn_out (hD : NotT H D) {a : Addr} {xs : List V} (h : SqN K H a xs) : SqN K (upd H D o) a xs := by
  rcases h with ⟨o', h, hd⟩ | h
  · have ne : a ≠ D := fun e => by subst e; exact hD xs (.inr ⟨o', h⟩)
    exact .inl ⟨o', by rw [upd_ne ne]; exact h, hd⟩
  · exact .inr h
mutual
theorem Dq.out (hD : NotT H D) (hP : ∀ a, P a → a ≠ D) : ∀ {v : V} {d : PyData}, Dq K P H v d → Dq K P (upd H D o) v d
  | _, _, .non => .non
  | _, _, .bl b => .bl b
  | _, _, .int i => .int i
  | _, _, .str x => .str x
  | _, _, .lst h p z a => .lst (by rcases h with h | ⟨o', h⟩; exact .inl (by rw [upd_ne (hP _ p)]; exact h); exact .inr ⟨o', by rw [upd_ne (hP _ p)]; exact h⟩) p z (DqAll.out hD hP a)
  | _, _, .lstK h z a => .lstK h z (DqAll.out hD hP a)
  | _, _, .tup h z a => .tup (sqn_out hD h) z (DqAll.out hD hP a)
  | _, _, .dct h p hs ps => .dct (by rw [upd_ne (hP _ p)]; exact h) p (hs.imp fun _ e => ⟨by rw [upd_ne (hP _ ps)]; exact e.1, e.2⟩) ps
theorem DqAll.out (hD : NotT H D) (hP : ∀ a, P a → a ≠ D) : ∀ {vs : List V} {ds : List PyData}, DqAll K P H vs ds → DqAll K P (upd H D o) vs ds
  | _, _, .nil => .nil
  | _, _, .cons a b => .cons (Dq.out hD hP a) (DqAll.out hD hP b)
end
variable {w : Wo}
theorem SV.out (hD : NotT H D) (hP : ∀ a, w.P a → a ≠ D) {v : V} {s : S} (h : SV K w H v s) : SV K w (upd H D o) v s := by
  cases s with
  | d x => exact Dq.out hD hP h
  | r n => exact h
theorem SVs.out (hD : NotT H D) (hP : ∀ a, w.P a → a ≠ D) : ∀ {vs : List V} {ss : List S}, SVs K w H vs ss → SVs K w (upd H D o) vs ss
  | _, _, .nil => .nil
  | _, _, .cons a b => .cons (SV.out hD hP a) (SVs.out hD hP b)
theorem KSV.out (hD : NotT H D) (hP : ∀ a, w.P a → a ≠ D) : ∀ {vs : List (Key × V)} {ss : List (PyData × S)}, KSV K w H vs ss → KSV K w (upd H D o) vs ss
  | _, _, .nil => .nil
  | _, _, .cons a b => .cons ⟨a.1, SV.out hD hP a.2⟩ (KSV.out hD hP b)
theorem TSV.out (hD : NotT H D) (hP : ∀ a, w.P a → a ≠ D) : ∀ {vs : List DEnt} {ss : List (NestedKey × S)}, TSV K w H vs ss → TSV K w (upd H D o) vs ss
  | _, _, .nil => .nil
  | _, _, .cons a b => .cons ⟨a.1, (let ⟨d, q1, q2⟩ := a.2.1; ⟨d, Dq.out hD hP q1, q2⟩), let ⟨v, r1, r2⟩ := a.2.2; ⟨v, r1, SV.out hD hP r2⟩⟩ (TSV.out hD hP b)
theorem SL.out (hD : NotT H D) (hP : ∀ a, w.P a → a ≠ D) {σ : L2.St} {l : Lo} (h : SL K w H σ l) : SL K w (upd H D o) σ l :=
  ⟨h.1, fun i s e => let ⟨v, q, r⟩ := h.2 i s e; ⟨v, q, SV.out hD hP r⟩⟩
theorem Wd.out (W : Wd K w H) (hD : NotT H D) (h0 : ∀ a, w.P0 a → a ≠ D) : Wd K w (upd H D o) := by
  have hP : ∀ a, w.P a → a ≠ D := fun a p => h0 a p.1
  have al : ∀ {n u}, n < w.m.length → H (w.al n) = some u → upd H D o (w.al n) = some u := fun {n u} hn q => by rw [upd_ne (h0 _ (W.per n hn))]; exact q
  refine ⟨W.sys.imp fun _ e => ⟨by rw [upd_ne (h0 _ W.syp)]; exact e.1, e.2⟩, W.syp, W.syn, fun a h => ?_, W.inj, W.per, fun n ss e => ?_, fun n ds e => ?_, fun n kvs e => ?_, fun n kvs e => ?_⟩
  · by_cases q : a = D
    · rw [q, upd_same] at h; cases h
    · rw [upd_ne q] at h; exact W.fre a h
  · obtain ⟨z, vs, h, r⟩ := W.lst n ss e; exact ⟨z, vs, al (List.getElem?_eq_some_iff.mp e).1 h, SVs.out hD hP r⟩
  · obtain ⟨z, vs, h, r⟩ := W.frz n ds e; exact ⟨z, vs, al (List.getElem?_eq_some_iff.mp e).1 h, DqAll.out hD hP r⟩
  · obtain ⟨vs, h, r⟩ := W.dct n kvs e; exact ⟨vs, al (List.getElem?_eq_some_iff.mp e).1 h, KSV.out hD hP r⟩
  · obtain ⟨vs, h, r⟩ := W.dcT n kvs e; exact ⟨vs, al (List.getElem?_eq_some_iff.mp e).1 h, TSV.out hD hP r⟩

end

/-! ### the loop -/
def tTs (K : PySem.W.Frag) (f : RT) : TT := tT K f
def FTs (X : Cx) (ifs : List Expr) (f : RT) : Prop := PTs X ifs (tT X.K f)
theorem _root_.L2.PTs.imp {X : Cx} {e : List Expr} {t t' : TT} (h : PTs X e t) (i : ∀ σ H Q, t' σ H Q → t σ H Q) : PTs X e t' := ⟨fun pins s σ H Q I q => h.run pins s σ H Q I (i _ _ _ q)⟩
theorem fts_nil {X : Cx} : FTs X [] Fz.tYes := PTs.imp pts_nil fun σ H Q ⟨w, l, b, m', W, L, e, k⟩ => by
  cases e; exact k w H rfl (Ex.refl w H) W
theorem fts_one {X : Cx} {c : Expr} {t : RT} (h : FT X c t) : FTs X [c] t := pts_one h
theorem SL.wipe {K : PySem.W.Frag} {w : Wo} {H : Hp} {σ : L2.St} {l : Lo} (h : SL K w H σ l) : ∀ vs : List Nat, SL K w H (L2.wipe σ vs) (Fz.wipe l vs)
  | [] => h
  | v :: vs => by
    have ih := SL.wipe h vs
    refine ⟨by simp only [Fz.wipe, L2.wipe, List.length_set]; exact ih.1, fun i s e => ?_⟩
    simp only [Fz.wipe, L2.wipe] at e ⊢
    by_cases q : v = i
    · subst q
      by_cases hv : v < (Fz.wipe l vs).length
      · rw [List.getElem?_set_self hv] at e; cases e
      · rw [List.getElem?_eq_none (by simpa using hv)] at e; cases e
    · rw [List.getElem?_set_ne q] at e ⊢
      exact ih.2 i s e
theorem wipe_in {σ : L2.St} {j : Nat} : ∀ {vs : List Nat}, j ∈ vs → j < σ.length → (L2.wipe σ vs)[j]? = some none
  | [], h, _ => by cases h
  | v :: vs, h, hl => by
    unfold L2.wipe
    by_cases e : v = j
    · subst e; rw [List.getElem?_set_self (by rw [L2.wipe_length]; exact hl)]
    · rw [List.getElem?_set_ne e]
      exact wipe_in (by rcases List.mem_cons.mp h with q | q; exact absurd q.symm e; exact q) hl
theorem Agr.wipe {is vs : List Nat} {σ σ2 : L2.St} (g : Agr is (L2.wipe σ vs) σ2) (hs : ∀ i ∈ is, i ∈ vs) : L2.wipe σ2 vs = L2.wipe σ vs := by
  have hl : σ2.length = σ.length := g.1.trans (L2.wipe_length σ vs)
  apply List.ext_getElem?
  intro j
  by_cases hj : j < σ.length
  · by_cases hv : j ∈ vs
    · rw [wipe_in hv (by omega), wipe_in hv hj]
    · rw [L2.wipe_out hv, g.2 j fun h => hv (hs j h)]
  · rw [List.getElem?_eq_none (by rw [L2.wipe_length]; omega), List.getElem?_eq_none (by rw [L2.wipe_length]; omega)]
/-- from the walk's start to the list's end -/
theorem lc_loop {K : PySem.W.Frag} {w1 : Wo} {H1 : Hp} {σ : L2.St} {l : Lo} {J : It} {xs : List S} {vs is : List Nat} {g : Tg} {t : RT} {e : RE} {ss : List S} {m' : Mem} {Qd : V → Hp → Prop}
    (W1 : Wd K w1 H1) (L1 : SL K w1 H1 σ l) (Y : Yl K w1 H1 J xs) (e1 : lcGo vs g t e xs l w1.m = some (ss, m')) (hs : ∀ i ∈ is, i ∈ vs)
    (fin : ∀ D w2 H acc, H1 D = none → w2.P0 = (fun a => w1.P0 a ∧ a ≠ D) → w2.m = m' → Ex (w1.perm fun a => w1.P0 a ∧ a ≠ D) H1 w2 H → Wd K w2 H → H D = some (.lst acc) → SVs K w2 H acc ss → ss.length ≤ sizeLine → Qd (.ref D) H) :
    ∀ D, H1 D = none → ∃ W : Nat → Nat → Hp → Prop, (∃ m, W 0 m (upd H1 D (.lst []))) ∧ ∀ i m H, W i m H →
      (J.stop i H ∧ Qd (.ref D) H) ∨ (J.go i H ∧ ∃ Nx : Hp → Prop, (∀ H', Nx H' → ∃ m', m' < m ∧ W (i + 1) m' H') ∧ ∀ x H', J.yld i H x H' → gF K is g x (L2.wipe σ vs) H' fun σ2 H2 => L2.wipe σ2 vs = L2.wipe σ vs ∧ tT K t σ2 H2 fun b H3 =>
        if b = true then tF K e σ2 H3 fun y H4 => ∃ acc, H4 D = some (.lst acc) ∧ acc.length < sizeLine ∧ Nx (upd H4 D (.lst (acc ++ [y]))) else Nx H3) := by
  intro D hD
  -- the inner permission: not the new list
  let P1 : Addr → Prop := fun a => w1.P0 a ∧ a ≠ D
  have back : ∀ {w2 : Wo} {H : Hp}, w2.P0 = P1 → Ex (w1.perm P1) H1 w2 H → Ex w1 H1 (w2.perm w1.P0) H := fun p E => ⟨rfl, E.len, E.same, E.keep⟩
  refine ⟨fun i m H => m = xs.length - i ∧ i ≤ xs.length ∧ ∃ w2 acc sa sr, w2.P0 = P1 ∧ Ex (w1.perm P1) H1 w2 H ∧ Wd K w2 H ∧ SL K w2 H σ l ∧ H D = some (.lst acc) ∧ SVs K w2 H acc sa ∧ sa.length ≤ i ∧ lcGo vs g t e (xs.drop i) l w2.m = some (sr, m') ∧ sa ++ sr = ss, ?_, ?_⟩
  · have hne : ∀ a o, H1 a = some o → w1.P0 a → P1 a := fun a o h p => ⟨p, fun q => by rw [q, hD] at h; cases h⟩
    have S0 : Same H1 (upd H1 D (.lst [])) := same_upd hD
    refine ⟨xs.length, by simp, Nat.zero_le _, w1.perm P1, [], [], ss, rfl, ⟨rfl, Nat.le_refl _, fun _ _ => rfl, fun a o h p => ⟨S0 a o h, p⟩⟩, W1.perm S0 hne fun a h => ⟨W1.fre a (S0.free h), fun q => ?_⟩, L1.perm S0 hne, upd_same, .nil, Nat.le_refl _, by rw [List.drop_zero]; exact e1, rfl⟩
    rw [q, upd_same] at h; cases h
  · rintro i m H ⟨rfl, hi, w2, acc, sa, sr, p2, E2, W2, L2', hDa, ra, la, e2, e3⟩
    have hP0 : ∀ {w : Wo}, w.P0 = P1 → ∀ a, w.P0 a → a ≠ D := fun p a h => by rw [p] at h; exact h.2
    obtain ⟨y1, y2⟩ := Y.2 P1 w2 H (fun a o h p => ⟨p, fun q => by rw [q, hD] at h; cases h⟩) E2 W2
    by_cases hlt : i < xs.length
    · obtain ⟨go, yld⟩ := y2 i xs[i] (List.getElem?_eq_getElem hlt)
      refine .inr ⟨go, fun H3 => ∃ w3 acc sa sr, w3.P0 = P1 ∧ Ex (w1.perm P1) H1 w3 H3 ∧ Wd K w3 H3 ∧ SL K w3 H3 σ l ∧ H3 D = some (.lst acc) ∧ SVs K w3 H3 acc sa ∧ sa.length ≤ i + 1 ∧ lcGo vs g t e (xs.drop (i + 1)) l w3.m = some (sr, m') ∧ sa ++ sr = ss,
        fun H3 h => ⟨_, by omega, rfl, by omega, h⟩, fun v H3 hy => ?_⟩
      obtain ⟨w3, c3, E3, W3, s3⟩ := yld v H3 hy
      have keepD : ∀ {wa wb : Wo} {Ha Hb : Hp}, wa.P0 = P1 → Wd K wa Ha → Ex wa Ha wb Hb → Ha D = some (.lst acc) → Hb D = some (.lst acc) := fun p Wa E h =>
        (E.keep D _ h fun n hl => hP0 p _ (Wa.per n (live_lt hl))).1
      have p3 : w3.P0 = P1 := E3.out.trans p2
      have hD3 := keepD p2 W2 E3 hDa
      rw [List.drop_eq_getElem_cons hlt] at e2
      simp only [lcGo, Option.bind_eq_some_iff] at e2
      obtain ⟨l3, f1, ⟨b, m4⟩, f2, f3⟩ := e2
      refine ⟨w3, Fz.wipe l vs, xs[i], l3, W3, (L2'.go W2 E3).wipe vs, s3, f1, fun w4 H4 σ4 c4 E4 W4 L4 ag => ⟨ag.wipe hs, ?_⟩⟩
      have p4 : w4.P0 = P1 := E4.out.trans p3
      have hD4 := keepD p3 W3 E4 hD3
      refine goT W4 L4 (show t l3 w4.m = some (b, m4) by rw [c4, c3]; exact f2) fun w5 H5 c5 E5 W5 L5 => ?_
      have p5 : w5.P0 = P1 := E5.out.trans p4
      have hD5 := keepD p4 W4 E5 hD4
      have E25 := E3.trans (E4.trans E5)
      have lS := (((L2'.go W2 E3).go W3 E4).go W4 E5)
      cases b with
      | false =>
        rw [if_neg Bool.false_ne_true] at f3 ⊢
        exact ⟨w5, acc, sa, sr, p5, E2.trans E25, W5, lS, hD5, SVs.go W4 E5 (SVs.go W3 E4 (SVs.go W2 E3 ra)), by omega, by rw [c5]; exact f3, e3⟩
      | true =>
        rw [if_pos rfl] at f3 ⊢
        simp only [Option.bind_eq_some_iff, Option.map_eq_some_iff, Prod.mk.injEq] at f3
        obtain ⟨⟨y, m6⟩, f4, ⟨sq, mq⟩, f5, rfl, rfl⟩ := f3
        refine goF W5 L5 (by rw [c5]; exact f4) fun w6 H6 v6 c6 E6 W6 L6 s6 => ?_
        have p6 : w6.P0 = P1 := E6.out.trans p5
        have hD6 := keepD p5 W5 E6 hD5
        have ra6 := SVs.go W5 E6 (SVs.go W4 E5 (SVs.go W3 E4 (SVs.go W2 E3 ra)))
        have hP6 : ∀ a, w6.P a → a ≠ D := fun a h => hP0 p6 a h.1
        refine ⟨acc, hD6, ?_, w6, acc ++ [v6], sa ++ [y], sq, p6, ?_, W6.out (.lst hD6) (hP0 p6), SL.out (.lst hD6) hP6 (lS.go W5 E6), upd_same, ?_, by simp; omega, by rw [c6]; exact f5, by rw [← e3, List.append_assoc]; rfl⟩
        · rw [ra6.len]; exact Nat.lt_of_le_of_lt la (Nat.lt_of_lt_of_le hlt Y.1)
        · have E := E2.trans (E25.trans E6)
          refine ⟨E.out, E.len, E.same, fun a o h p => ?_⟩
          obtain ⟨h1, h2⟩ := E.keep a o h p
          exact ⟨by rw [upd_ne fun q => by rw [q, hD] at h; cases h]; exact h1, h2⟩
        · exact Paired.snoc (SVs.out (.lst hD6) hP6 ra6) (SV.out (.lst hD6) hP6 s6)
    · have hi2 : i = xs.length := by omega
      subst hi2
      rw [List.drop_length] at e2
      cases e2
      rw [List.append_nil] at e3
      subst e3
      exact .inl ⟨y1, fin D w2 H acc hD p2 rfl E2 W2 hDa ra (Nat.le_trans la Y.1)⟩

section
variable {K : PySem.W.Frag} {w1 w2 : Wo} {H1 H : Hp} {D : Addr} {acc : List V} {ss : List S}
/-- the new list stays -/
theorem lc_frz (W1 : Wd K w1 H1) (hD : H1 D = none) (p2 : w2.P0 = fun a => w1.P0 a ∧ a ≠ D) (E2 : Ex (w1.perm fun a => w1.P0 a ∧ a ≠ D) H1 w2 H) (W2 : Wd K w2 H) (hDa : H D = some (.lst acc)) {ds : List PyData} (ra : SVs K w2 H acc ss) (e : allD ss = some ds) (z : ss.length ≤ sizeLine) :
    Ex w1 H1 (w2.perm w1.P0) H ∧ Wd K (w2.perm w1.P0) H ∧ Dq K (w2.perm w1.P0).P H (.ref D) (.list ds) := by
  have hp : ∀ a o, H a = some o → w2.P0 a → w1.P0 a := fun a o _ h => by rw [p2] at h; exact h.1
  have z' : ds.length ≤ sizeLine := by rw [allD_eq e, List.length_map] at z; exact z
  refine ⟨⟨rfl, E2.len, E2.same, E2.keep⟩, W2.perm (fun _ _ e => e) hp fun a h => W1.fre a (Ex.there (w := w1.perm fun a => w1.P0 a ∧ a ≠ D) E2 W2 h), .lst (.inl hDa) ⟨W1.fre D hD, fun n hl q => ?_⟩ z' (SVs.all (SVs.perm (fun _ _ e => e) hp ra) e)⟩
  have := W2.per n (live_lt hl)
  rw [p2] at this
  exact this.2 q
/-- the new list is one of the memory's -/
theorem join_mem {mo : MO} {ob : HO} (W1 : Wd K w1 H1) (hD : H1 D = none) (p2 : w2.P0 = fun a => w1.P0 a ∧ a ≠ D) (E2 : Ex (w1.perm fun a => w1.P0 a ∧ a ≠ D) H1 w2 H) (W2 : Wd K w2 H) (hDa : H D = some ob)
    (hl : ∀ ss, mo = .lst ss → ss.length ≤ sizeLine ∧ ∃ vs, ob = .lst vs ∧ SVs K w2 H vs ss) (hd : ∀ kvs, mo = .dct kvs → ∃ vs, ob = .dK vs ∧ KSV K w2 H vs kvs) (hf : ∀ ds, mo ≠ .frz ds)
    (ht : ∀ kvs, mo = .dcT kvs → ∃ vs, ob = DN D vs ∧ TSV K w2 H vs kvs := by intro _ e; cases e) :
    Ex w1 H1 ((w2.push D mo).perm w1.P0) H ∧ Wd K ((w2.push D mo).perm w1.P0) H := by
  have nD : ∀ n, n < w2.m.length → w2.al n ≠ D := fun n hn q => by
    have := W2.per n hn
    rw [p2] at this
    exact this.2 q
  have al_old : ∀ {n}, n < w2.m.length → ((w2.push D mo).perm w1.P0).al n = w2.al n := fun h => push_al (w := w2) (p := D) (mo := mo) h
  have al_new : ((w2.push D mo).perm w1.P0).al w2.m.length = D := push_al' (w := w2) (p := D) (mo := mo)
  have lvo : ∀ {n}, live ((w2.push D mo).perm w1.P0).m n → n ≠ w2.m.length → live w2.m n := fun h hn => live_push (w := w2) (p := D) (o := mo) h hn
  have hp : ∀ a o, H a = some o → w2.P a → ((w2.push D mo).perm w1.P0).P a := fun a o _ h => by
    obtain ⟨h1, h2⟩ := h
    rw [p2] at h1
    refine ⟨h1.1, fun n hl q => ?_⟩
    by_cases hn : n = w2.m.length
    · rw [hn, al_new] at q; exact h1.2 q.symm
    · have := lvo hl hn
      rw [al_old (live_lt this)] at q; exact h2 n this q
  have sv : ∀ {v s}, SV K w2 H v s → SV K ((w2.push D mo).perm w1.P0) H v s := fun {v s} h => by
    cases s with
    | d x => exact Dq.mono (fun _ _ e => e) hp (show Dq K w2.P H v x from h)
    | r n => exact ⟨by have := h.1; simp [Wo.push, Wo.perm]; omega, by rw [al_old h.1]; exact h.2⟩
  have svs : ∀ {vs : List V} {ss' : List S}, SVs K w2 H vs ss' → SVs K ((w2.push D mo).perm w1.P0) H vs ss' := fun h => Paired.mapP h fun _ _ q => sv q
  refine ⟨⟨rfl, Nat.le_trans E2.len (by simp [Wo.push, Wo.perm]), fun n hn => ?_, fun a o h p => ?_⟩, ?_⟩
  · rw [al_old (Nat.lt_of_lt_of_le hn E2.len)]; exact E2.same n hn
  · obtain ⟨h1, h2⟩ := E2.keep a o h p
    refine ⟨h1, fun n hl q => ?_⟩
    by_cases hn : n = w2.m.length
    · rw [hn, al_new] at q; rw [← q, hD] at h; cases h
    · have := lvo hl hn
      rw [al_old (live_lt this)] at q; exact h2 n this q
  · have hsy : w1.P0 sysModules ∧ sysModules ≠ D := by have := W2.syp; rw [p2] at this; exact this
    refine ⟨W2.sys, hsy.1, fun n hn => ?_, fun a h => W1.fre a (Ex.there (w := w1.perm fun a => w1.P0 a ∧ a ≠ D) E2 W2 h), fun i j hi hj q => ?_, fun n hn => ?_, fun n ss' e => ?_, fun n ds e => ?_, fun n kvs e => ?_, fun n kvs e => ?_⟩
    · have h' : n < w2.m.length + 1 := by simpa [Wo.push, Wo.perm] using hn
      by_cases h1 : n = w2.m.length
      · rw [h1, al_new]; exact hsy.2.symm
      · rw [al_old (by omega)]; exact W2.syn n (by omega)
    · have hl : ((w2.push D mo).perm w1.P0).m.length = w2.m.length + 1 := by simp [Wo.push, Wo.perm]
      rw [hl] at hi hj
      by_cases h1 : i = w2.m.length
      · by_cases h2 : j = w2.m.length
        · rw [h1, h2]
        · rw [h1, al_new, al_old (by omega)] at q
          exact absurd q.symm (nD j (by omega))
      · by_cases h2 : j = w2.m.length
        · rw [h2, al_new, al_old (by omega)] at q
          exact absurd q (nD i (by omega))
        · rw [al_old (by omega), al_old (by omega)] at q
          exact W2.inj i j (by omega) (by omega) q
    · have h' : n < w2.m.length + 1 := by simpa [Wo.push, Wo.perm] using hn
      by_cases h1 : n = w2.m.length
      · rw [h1, al_new]; exact W1.fre D hD
      · have := W2.per n (by omega)
        rw [p2] at this
        rw [al_old (by omega)]; exact this.1
    · rcases push_get (w := w2) (p := D) (mo := mo) e with ⟨h, q⟩ | ⟨rfl, q⟩
      · obtain ⟨z, vs, e1, r⟩ := W2.lst n ss' q
        exact ⟨z, vs, by rw [al_old h]; exact e1, svs r⟩
      · obtain ⟨z, vs, rfl, r⟩ := hl ss' q.symm
        exact ⟨z, vs, by rw [al_new]; exact hDa, svs r⟩
    · rcases push_get (w := w2) (p := D) (mo := mo) e with ⟨h, q⟩ | ⟨rfl, q⟩
      · obtain ⟨z, vs, e1, r⟩ := W2.frz n ds q
        exact ⟨z, vs, by rw [al_old h]; exact e1, DqAll.mono (fun _ _ e => e) hp r⟩
      · exact absurd q.symm (hf ds)
    · rcases push_get (w := w2) (p := D) (mo := mo) e with ⟨h, q⟩ | ⟨rfl, q⟩
      · obtain ⟨vs, e1, r⟩ := W2.dct n kvs q
        exact ⟨vs, by rw [al_old h]; exact e1, Paired.mapP r fun _ _ q => ⟨q.1, sv q.2⟩⟩
      · obtain ⟨vs, rfl, r⟩ := hd kvs q.symm
        exact ⟨vs, by rw [al_new]; exact hDa, Paired.mapP r fun _ _ q => ⟨q.1, sv q.2⟩⟩
    · rcases push_get (w := w2) (p := D) (mo := mo) e with ⟨h, q⟩ | ⟨rfl, q⟩
      · obtain ⟨vs, e1, r⟩ := W2.dcT n kvs q
        exact ⟨vs, by rw [al_old h]; exact e1, Paired.mapP r fun _ _ q => ⟨q.1, (let ⟨d, q1, q2⟩ := q.2.1; ⟨d, Dq.mono (fun _ _ e => e) hp q1, q2⟩), let ⟨v, r1, r2⟩ := q.2.2; ⟨v, r1, sv r2⟩⟩⟩
      · obtain ⟨vs, rfl, r⟩ := ht kvs q.symm
        exact ⟨vs, by rw [al_new]; exact hDa, Paired.mapP r fun _ _ q => ⟨q.1, (let ⟨d, q1, q2⟩ := q.2.1; ⟨d, Dq.mono (fun _ _ e => e) hp q1, q2⟩), let ⟨v, r1, r2⟩ := q.2.2; ⟨v, r1, sv r2⟩⟩⟩
theorem lc_mem (W1 : Wd K w1 H1) (hD : H1 D = none) (p2 : w2.P0 = fun a => w1.P0 a ∧ a ≠ D) (E2 : Ex (w1.perm fun a => w1.P0 a ∧ a ≠ D) H1 w2 H) (W2 : Wd K w2 H) (hDa : H D = some (.lst acc)) (ra : SVs K w2 H acc ss) (z : ss.length ≤ sizeLine) :
    Ex w1 H1 ((w2.push D (.lst ss)).perm w1.P0) H ∧ Wd K ((w2.push D (.lst ss)).perm w1.P0) H :=
  join_mem W1 hD p2 E2 W2 hDa (fun ss' e => by cases e; exact ⟨z, acc, rfl, ra⟩) (fun _ e => by cases e) (fun _ e => by cases e)
end

/-! ### the rules -/
section
variable {X : Cx} {pos : Pos} {tg iter elt : Expr} {ifs : List Expr} {scope : Scope} {own : List (Str × Nat)} {it : RI} {g : Tg} {is : List Nat} {t : RT} {e : RE}
theorem fe_lc (hN : X.N.Nodup) (hi : FI X tg iter it) (ok : BlkOk X.N X.env.scope scope own)
    (hg : ∀ (s : Shared) (H : Hp) (C : Addr) (cl : List (Str × Addr)) (fp : List Addr), FG (X.blk s H scope (compEnvC scope cl C X.env) fp) tg is g)
    (ht : ∀ (s : Shared) (H : Hp) (C : Addr) (cl : List (Str × Addr)) (fp : List Addr), FTs (X.blk s H scope (compEnvC scope cl C X.env) fp) ifs t)
    (he : ∀ (s : Shared) (H : Hp) (C : Addr) (cl : List (Str × Addr)) (fp : List Addr), FE (X.blk s H scope (compEnvC scope cl C X.env) fp) elt e)
    (hs : ∀ i ∈ is, i ∈ own.map (·.2) := by decide) (hc : X.calm = true := by rfl) (hf : ∀ x, foldedSetIterable iter X.env x = pure x := by intro _; rfl) :
    FE X (.ListComp elt [⟨tg, iter, ifs, 0⟩] scope pos) (eLc (own.map (·.2)) it g t e) := PE.imp (pe_lc (wi := tI X.K it) (g := gF X.K is g) (tt := tT X.K t) (te := tF X.K e) hc hN hi ok hg ht he hf) fun σ H Q ⟨w, l, s, m', W, L, e0, k⟩ => by
  simp only [eLc, Option.bind_eq_some_iff, Option.map_eq_some_iff, Prod.mk.injEq] at e0
  obtain ⟨⟨xs, m1⟩, e1, ⟨ss, m2⟩, e2, ds, e3, rfl, rfl⟩ := e0
  refine ⟨w, l, xs, m1, W, L, e1, fun w1 H1 J c1 E1 W1 Y => ?_⟩
  refine lc_loop (Qd := Q) W1 (L.go W E1) Y (by rw [c1]; exact e2) hs fun D w2 H2 acc hD p2 c2 E2 W2 hDa ra la => ?_
  obtain ⟨E3, W3, r⟩ := lc_frz W1 hD p2 E2 W2 hDa ra e3 la
  exact k (w2.perm w1.P0) H2 _ c2 (E1.trans E3) W3 r
theorem fe_lcM (hN : X.N.Nodup) (hi : FI X tg iter it) (ok : BlkOk X.N X.env.scope scope own)
    (hg : ∀ (s : Shared) (H : Hp) (C : Addr) (cl : List (Str × Addr)) (fp : List Addr), FG (X.blk s H scope (compEnvC scope cl C X.env) fp) tg is g)
    (ht : ∀ (s : Shared) (H : Hp) (C : Addr) (cl : List (Str × Addr)) (fp : List Addr), FTs (X.blk s H scope (compEnvC scope cl C X.env) fp) ifs t)
    (he : ∀ (s : Shared) (H : Hp) (C : Addr) (cl : List (Str × Addr)) (fp : List Addr), FE (X.blk s H scope (compEnvC scope cl C X.env) fp) elt e)
    (hs : ∀ i ∈ is, i ∈ own.map (·.2) := by decide) (hc : X.calm = true := by rfl) (hf : ∀ x, foldedSetIterable iter X.env x = pure x := by intro _; rfl) :
    FE X (.ListComp elt [⟨tg, iter, ifs, 0⟩] scope pos) (eLcM (own.map (·.2)) it g t e) := PE.imp (pe_lc (wi := tI X.K it) (g := gF X.K is g) (tt := tT X.K t) (te := tF X.K e) hc hN hi ok hg ht he hf) fun σ H Q ⟨w, l, s, m', W, L, e0, k⟩ => by
  simp only [eLcM, Option.bind_eq_some_iff, Option.map_eq_some_iff, Prod.mk.injEq] at e0
  obtain ⟨⟨xs, m1⟩, e1, ⟨ss, m2⟩, e2, rfl, rfl⟩ := e0
  refine ⟨w, l, xs, m1, W, L, e1, fun w1 H1 J c1 E1 W1 Y => ?_⟩
  refine lc_loop (Qd := Q) W1 (L.go W E1) Y (by rw [c1]; exact e2) hs fun D w2 H2 acc hD p2 c2 E2 W2 hDa ra la => ?_
  obtain ⟨E3, W3⟩ := lc_mem W1 hD p2 E2 W2 hDa ra la
  subst c2
  exact k _ H2 _ rfl (E1.trans E3) W3 ⟨by simp [Wo.push, Wo.perm], congrArg V.ref (push_al' (w := w2) (p := D) (mo := .lst ss)).symm⟩
end
end Fz

set_option linter.all false
set_option autoImplicit false
set_option maxRecDepth 100000
/-! FzS7: defs: what they promise by their readings, how they are called; the law's end. -/
namespace Fz
open PySem PySem.Spec PyProof.Rows L2

/-- a def keeps its promise wherever no repr is under way -/
structure FnG (P : Program) (w : World) (K : PySem.W.Frag) (mg : Str → Option Value) (base : Heap) (CX : CXT) (k : Nat) (f : Addr) (fd : FuncData) (ps : List Str) (sp : Sp) : Prop where
  len : ∀ vs H Q E, sp vs H Q E → vs.length = ps.length
  run : ∀ (A : Around) (outer : List Env) (s : Shared) (H : Hp) (args : Args) (us : List Value) (vs : List V) (Q : VK) (E : XK), A.guards = some [] → Room k A → Env0 P w K mg base A outer s H →
    BindsTo s fd args (ps.zip us) → Vals vs us → sp vs H Q E → codeAny (model P w) A (.call (.ref f) args) (CR CX outer P w H s Q E) s
theorem FnG.mono {P : Program} {w : World} {K : PySem.W.Frag} {mg : Str → Option Value} {base : Heap} {CX : CXT} {j k : Nat} {f : Addr} {fd : FuncData} {ps : List Str} {sp : Sp} (F : FnG P w K mg base CX j f fd ps sp) (h : j ≤ k) : FnG P w K mg base CX k f fd ps sp :=
  ⟨F.len, fun A outer s H args us vs Q E hg hr => F.run A outer s H args us vs Q E hg (hr.mono h)⟩
theorem guards_deeper (A : Around) (env : Env) : (A.deeper env).guards = A.guards := by
  cases h : A.guards <;> simp [Around.deeper, h]
/-- a def of the text, by its body -/
theorem fnG_of {CX : CXT} {P : Program} {w : World} {K : PySem.W.Frag} {mg : Str → Option Value} {base : Heap} {k : Nat} {x qual : Str} {st : Stmt} {f : Addr} {fd : FuncData} {N ps : List Str} {sp : Sp}
    (F : Fun K x qual st f fd) (S : FnScope N ps (defScope st)) (len : ∀ vs H Q E, sp vs H Q E → vs.length = ps.length)
    (hbody : ∀ (cdv : Value) (A : Around) (outer : List Env) (s : Shared) (H : Hp) (vs : List V) (Q : VK) (E : XK), A.guards = some [] → Room k (A.deeper (envOfC qual (defScope st) s.heap.objs.size f cdv)) → sp vs H Q E →
      ∃ t, PSs (cxOf CX P w K mg base N qual (defScope st) f cdv A outer s H E) (defBody st) t ∧ t { nx := fun _ H' => Q .non H', rt := Q } (start N vs) H) : FnG P w K mg base CX (k + 1) f fd ps sp := by
  obtain ⟨oc, od, kV, doc, pm, an, cdv, ct, osl, rfl, lk, hcd⟩ := F.ex
  refine ⟨len, fun A outer s H args us vs Q E hgu hr e0 hb r hsp => ?_⟩
  have hl := len _ _ _ _ hsp
  have keep : ∀ b o, base.get? b = some o → s.heap.get? b = some o := fun b o e => (e0.bs b o e).1
  have kinds : ∀ y ∈ ps.zip us, (defScope st).names.lookup y.1 = some .local ∨ ((defScope st).names.lookup y.1 = some .cell ∧ ((cellsFrom (s.heap.objs.size + 1) (defScope st).names []).lookup y.1).isSome = true) := fun y hy =>
    (S.par y.1 (List.of_mem_zip (a := y.1) (b := y.2) hy).1).imp id fun q => ⟨q, PySem.W.cellsFrom_some _ _ _ (.inl q)⟩
  refine codeAny_call_function hr.depth ((e0.mod.kin.keeps keep) _ _ lk) rfl S.co S.gen rfl (PySem.W.codeRec_of (e0.mod.kin.keeps keep) hcd) (hb _ _ _ _ ?_)
  refine wpAny_newFunctionEnv_cells S.kind kinds fun env he s1 x => ?_
  subst he
  refine ⟨(e0.mod.nolimit.keeps keep).keeps x.toInCall.keep, codeAny_func ?_⟩
  obtain ⟨t, ht, hq⟩ := hbody cdv A outer s H vs Q E hgu (hr.deeper _) hsp
  refine wpAny_mono (ht.run [] s1 (start N vs) H _ (inv_start S hr.hd e0 hl r x) hq) (fun fl s' hs => ?_) fun e s' hs => hs
  cases fl with
  | ret u =>
    obtain ⟨v, σ', H', J, rv, q⟩ := hs
    exact ⟨v, H', J.os, J.bare, J.base, J.hok, rv, q⟩
  | next =>
    obtain ⟨σ', H', J, q⟩ := hs
    exact ⟨V.non, H', J.os, J.bare, J.base, J.hok, rfl, q⟩
  | brk =>
    obtain ⟨_, _, _, z⟩ := hs
    exact z.elim
  | cont =>
    obtain ⟨_, _, _, z⟩ := hs
    exact z.elim

/-! ### promises by readings -/
def spP (K : PySem.W.Frag) (n : Nat) (F : PF) : Sp := fun vs H Q _ => vs.length = n ∧ ∃ P ds r, ((∀ a, H a = none → P a) ∧ SysH H ∧ P sysModules) ∧ DqAll K P H vs ds ∧ F ds = some r ∧ ∀ v H', Same H H' → Dq K P H' v r → Q v H'
def spI (K : PySem.W.Frag) (n : Nat) (F : IF) : Sp := fun vs H Q _ => vs.length = n ∧ ∃ w ss r m', Wd K w H ∧ SVs K w H vs ss ∧ F ss w.m = some (r, m') ∧
  ∀ w' H' v, w'.m = m' → Ex w H w' H' → Wd K w' H' → SV K w' H' v r → Q v H'
theorem sl0 {K : PySem.W.Frag} {w : Wo} {H : Hp} {N : List Str} {vs : List V} {ss : List S} (h : SVs K w H vs ss) (hl : vs.length ≤ N.length) : SL K w H (start N vs) (lo0 N.length ss) := by
  have e := h.len
  have get : ∀ {vs : List V} {ss : List S}, SVs K w H vs ss → ∀ (i : Nat) (s : S), ss[i]? = some s → ∃ v, vs[i]? = some v ∧ SV K w H v s := by
    intro vs ss h
    induction h with
    | nil => intro i s q; simp at q
    | cons a b ih =>
      intro i s q
      cases i with
      | zero => simp at q; subst q; exact ⟨_, rfl, a⟩
      | succ i => obtain ⟨v, q1, q2⟩ := ih i s (by simpa using q); exact ⟨v, by simpa using q1, q2⟩
  refine ⟨by simp [lo0, L2.start]; omega, fun i s q => ?_⟩
  unfold lo0 at q
  by_cases hi : i < ss.length
  · rw [List.getElem?_append_left (by simpa using hi), List.getElem?_map] at q
    cases z : ss[i]? with
    | none => rw [z] at q; cases q
    | some s' =>
      rw [z] at q; cases q
      obtain ⟨v, q1, q2⟩ := get h i s z
      refine ⟨v, ?_, q2⟩
      unfold L2.start
      rw [List.getElem?_append_left (by simp; omega), List.getElem?_map, q1]; rfl
  · rw [List.getElem?_append_right (by simpa using hi), List.getElem?_replicate] at q
    split at q <;> cases q
/-- what is handed back is data, for good -/
theorem SV.ret {K : PySem.W.Frag} {w : Wo} {H : Hp} (W : Wd K w H) {v : V} {s : S} {d : PyData} (h : SV K w H v s) (e : Fz.deref w.m s = some d) : Dq K w.P0 H v d := by
  have up : ∀ a o, H a = some o → w.P a → w.P0 a := fun _ _ _ p => p.1
  cases s with
  | d x => cases e; exact Dq.mono (fun _ _ e => e) up (show Dq K w.P H v _ from h)
  | r n =>
    obtain ⟨hn, rfl⟩ := h
    simp only [Fz.deref] at e
    cases q : w.m[n]? with
    | none => rw [q] at e; cases e
    | some o =>
      rw [q] at e
      cases o with
      | lst ss =>
        obtain ⟨z, vs, h1, h2⟩ := W.lst _ _ q
        have e' : (allD ss).map PyData.list = some d := e
        rw [Option.map_eq_some_iff] at e'
        obtain ⟨ds, e1, rfl⟩ := e'
        rw [allD_eq e1, List.length_map] at z
        exact .lst (.inl h1) (W.per n hn) z (DqAll.mono (fun _ _ e => e) up (SVs.all h2 e1))
      | frz xs =>
        obtain ⟨z, vs, h1, h2⟩ := W.frz _ _ q
        cases e
        exact .lst (.inl h1) (W.per n hn) z (DqAll.mono (fun _ _ e => e) up h2)
      | dct kvs => cases e
      | dcT kvs => cases e
section
variable {P : Program} {w : World} {K : PySem.W.Frag} {mg : Str → Option Value} {base : Heap}
abbrev cxN (P : Program) (w : World) (K : PySem.W.Frag) (mg : Str → Option Value) (base : Heap) (N : List Str) (qual : Str) (st : Stmt) (f : Addr) (cdv : Value) (A : Around) (outer : List Env) (s : Shared) (H : Hp) (E : XK) : Cx :=
  (cxOf CX0 P w K mg base N qual (defScope st) f cdv A outer s H E).nox
/-- a def that makes data of data -/
theorem okP {x qual : Str} {st : Stmt} {f : Addr} {fd : FuncData} {N ps : List Str} {k : Nat} {b : RS} (F : Fun K x qual st f fd) (Sc : FnScope N ps (defScope st)) (hps : ps.length ≤ N.length)
    (hbody : ∀ (cdv : Value) (A : Around) (outer : List Env) (s : Shared) (H : Hp) (E : XK), A.guards = some [] → Room k (A.deeper (envOfC qual (defScope st) s.heap.objs.size f cdv)) → FSs (cxN P w K mg base N qual st f cdv A outer s H E) (defBody st) b) :
    FnG P w K mg base CX0 (k + 1) f fd ps (spP K ps.length (runP N.length b)) := by
  refine fnG_of F Sc (fun vs H Q E h => h.1) fun cdv A outer s H vs Q E hg hr h => ?_
  obtain ⟨hl, P0, ds, r, ⟨hf, hy, hz⟩, ha, e, q⟩ := h
  refine ⟨tS K b, (hbody cdv A outer s H E hg hr).nox, ?_⟩
  simp only [runP, Option.bind_eq_some_iff] at e
  obtain ⟨⟨c, l', m'⟩, e1, e2⟩ := e
  have W : Wd K ⟨P0, fun _ => 0, []⟩ H := ⟨hy, hz, fun n h => absurd h (by simp), hf, fun i j h => absurd h (by simp), fun n h => absurd h (by simp), fun n ss h => by simp at h, fun n ss h => by simp at h, fun n ss h => by simp at h, fun n ss h => by simp at h⟩
  have ha' : SVs K ⟨P0, fun _ => 0, []⟩ H vs (ds.map S.d) := SVs.d (DqAll.mono (P' := Wo.P ⟨P0, fun _ => 0, []⟩) (fun _ _ e => e) (fun a o _ p => ⟨p, fun n hl => absurd (live_lt hl) (by simp)⟩) ha)
  have same : ∀ {w' H'}, Ex ⟨P0, fun _ => 0, []⟩ H w' H' → Same H H' := fun E b o h => (E.keep b o h fun n hl => absurd (live_lt hl) (by simp)).1
  refine ⟨_, lo0 N.length (ds.map S.d), c, l', m', W, sl0 ha' (by omega), e1, ?_⟩
  cases c with
  | nx => cases e2; exact fun w' H' σ' c E W' L' => q _ _ (same E) .non
  | bk => cases e2
  | ct => cases e2
  | rt s' => exact fun w' H' v c E W' sv => q _ _ (same E) (by
      have h := SV.ret W' sv (by rw [c]; exact e2)
      rw [E.out] at h; exact h)
/-- a def that works on its caller's objects -/
theorem okI {x qual : Str} {st : Stmt} {f : Addr} {fd : FuncData} {N ps : List Str} {k : Nat} {b : RS} (F : Fun K x qual st f fd) (Sc : FnScope N ps (defScope st)) (hps : ps.length ≤ N.length)
    (hbody : ∀ (cdv : Value) (A : Around) (outer : List Env) (s : Shared) (H : Hp) (E : XK), A.guards = some [] → Room k (A.deeper (envOfC qual (defScope st) s.heap.objs.size f cdv)) → FSs (cxN P w K mg base N qual st f cdv A outer s H E) (defBody st) b) :
    FnG P w K mg base CX0 (k + 1) f fd ps (spI K ps.length (runI N.length b)) := by
  refine fnG_of F Sc (fun vs H Q E h => h.1) fun cdv A outer s H vs Q E hg hr h => ?_
  obtain ⟨hl, w, ss, r, m', W, ha, e, q⟩ := h
  refine ⟨tS K b, (hbody cdv A outer s H E hg hr).nox, ?_⟩
  simp only [runI, Option.bind_eq_some_iff] at e
  obtain ⟨⟨c, l', m2⟩, e1, e2⟩ := e
  refine ⟨w, lo0 N.length ss, c, l', m2, W, sl0 ha (by omega), e1, ?_⟩
  cases c with
  | nx => cases e2; exact fun w' H' σ' c E W' L' => q _ _ _ c E W' Dq.non
  | bk => cases e2
  | ct => cases e2
  | rt s' => cases e2; exact fun w' H' v c E W' sv => q _ _ _ c E W' sv
end

/-! ### calls -/
theorem Paired.get {α β : Type} {R : α → β → Prop} : ∀ {xs : List α} {ys : List β}, Paired R xs ys → ∀ i : Nat, (xs[i]? = none ∧ ys[i]? = none) ∨ ∃ x y, xs[i]? = some x ∧ ys[i]? = some y ∧ R x y
  | _, _, .nil, i => .inl ⟨by simp, by simp⟩
  | _, _, .cons a b, 0 => .inr ⟨_, _, rfl, rfl, a⟩
  | _, _, .cons a b, i + 1 => by simpa using Paired.get b i
theorem Paired.pick {α β : Type} {R : α → β → Prop} {xs : List α} {ys : List β} (h : Paired R xs ys) : ∀ is : List Nat, Paired R (Fz.pick is xs) (Fz.pick is ys)
  | [] => .nil
  | i :: is => by
    have ih := Paired.pick h is
    unfold Fz.pick at ih ⊢
    rcases Paired.get h i with ⟨h1, h2⟩ | ⟨x, y, h1, h2, r⟩
    · simp only [List.filterMap_cons, h1, h2]; exact ih
    · simp only [List.filterMap_cons, h1, h2]; exact .cons r ih
theorem Paired.app {α β : Type} {R : α → β → Prop} : ∀ {xs xs' : List α} {ys ys' : List β}, Paired R xs ys → Paired R xs' ys' → Paired R (xs ++ xs') (ys ++ ys')
  | _, _, _, _, .nil, h => h
  | _, _, _, _, .cons a b, h => .cons a (Paired.app b h)
/-- how keywords ks bind behind n positional values: is, the places in the parameters' order -/
def KwB (fd : FuncData) (ps ks : List Str) (n : Nat) (is : List Nat) : Prop := ∀ (s : Shared) (us ws : List Value), us.length = n → ws.length = ks.length → BindsTo s fd ⟨us, ks.zip ws⟩ (ps.zip (pick is (us ++ ws)))
section
variable {X : Cx} {CX : CXT} {k n : Nat} {f : Addr} {fd : FuncData} {ps ks : List Str} {sp : Sp} {E : XK} {x : Str} {p pos : Pos} {a : Expr} {es : List Expr} {kws : List Keyword} {t tk : TA} {is : List Nat}
theorem runG {pins : List (Addr × Obj)} {σ : L2.St} {H : Hp} {s : Shared} {Q : VK} {us us' : List Value} {kw : List (Str × Value)} {vs : List V} (F : FnG X.prog X.w X.K X.mg X.base CX k f fd ps sp) (hG : X.A.guards = some []) (hr : Room k X.A) (hx : Passes CX X E)
    (I : Inv X pins σ H s) (hb : BindsTo s fd ⟨us, kw⟩ (ps.zip us')) (r : Vals vs us') (h : sp vs H Q E) : wpAny (model X.prog X.w) X.A (call (.ref f) us kw) (EP X pins σ Q) X.xe s := by
  refine wpAny_call (codeAny_mono (F.run X.A X.stack s H ⟨us, kw⟩ us' vs Q E hG hr I.env0 hb r h) fun r s' hq => ?_)
  match r, hq with
  | .error e, hq => exact hx pins σ H s e s' I hq
  | .ok (.ret u), hq => exact I.after hq
  | .ok .next, hq => exact hq.elim
  | .ok .brk, hq => exact hq.elim
  | .ok .cont, hq => exact hq.elim
/-- f(e, ..) -/
theorem pe_g (F : FnG X.prog X.w X.K X.mg X.base CX k f fd ps sp) (hG : X.A.guards = some []) (hr : Room k X.A) (hm : X.mg x = some (.ref f)) (hk : PySem.W.keepIn X.K (.ref f) = true) (hb : Binds X.K fd ps []) (hx : Passes CX X E) (ha : PA X (a :: es) t)
    (hg : Gl X x := by rfl) (hd : (x == ("__debug__" : Str)) = false := by decide) (he : starEach (a :: es) X.env = (false, eval a X.env) :: starEach es X.env := by rfl) (hpl : (backTo pos (starEach es X.env)).any (·.1) = false := by rfl) :
    PE X (.Call (.Name x p) (a :: es) [] pos) (tCall sp [] E t) := by
  refine ⟨fun pins s σ H Q I h => wpAny_Call_Name_kw (ld_glob I hg hm ?_ hd)⟩
  refine PySem.W.callWith_K (h₀ := X.base) I.ok.mod.kin hk (thn (ha.run pos pins s σ H _ I h) fun us s1 ⟨vs, H1, I1, r, q⟩ => ⟨I1.kIn, ?_⟩) he hpl
  have q' : sp vs H1 Q E := by simpa using q
  have hl : us.length = ps.length := by rw [← r.length]; exact F.len _ _ _ _ q'
  have hb' := hb s1 us I1.kIn (by simpa using hl)
  rw [List.append_nil] at hb'
  exact runG F hG hr hx I1 hb' r q'
/-- f() -/
theorem pe_g0 (F : FnG X.prog X.w X.K X.mg X.base CX k f fd ps sp) (hG : X.A.guards = some []) (hr : Room k X.A) (hm : X.mg x = some (.ref f)) (hk : PySem.W.keepIn X.K (.ref f) = true) (hb : Binds X.K fd ps []) (hx : Passes CX X E)
    (hg : Gl X x := by rfl) (hd : (x == ("__debug__" : Str)) = false := by decide) : PE X (.Call (.Name x p) [] [] pos) (fun _ H Q => sp [] H Q E) := by
  refine ⟨fun pins s σ H Q I h => wpAny_Call_Name_kw (ld_glob I hg hm ?_ hd)⟩
  have hl : ([] : List Value).length = ps.length := F.len _ _ _ _ h
  have hb' := hb s [] I.kIn (by simpa using hl)
  exact PySem.W.callWith_K0 I.kIn hk (runG (us := []) F hG hr hx I hb' .nil h)
/-- f(e, .., k = e', ..) -/
theorem pe_gk (F : FnG X.prog X.w X.K X.mg X.base CX k f fd ps sp) (hG : X.A.guards = some []) (hr : Room k X.A) (hm : X.mg x = some (.ref f)) (hk : PySem.W.keepIn X.K (.ref f) = true) (hb : KwB fd ps ks n is) (hx : Passes CX X E) (ha : PA X (a :: es) t) (hkw : PK X kws tk)
    (hg : Gl X x := by rfl) (hd : (x == ("__debug__" : Str)) = false := by decide) (hall : (backToKw pos (keywordEach kws X.env)).all (·.1.isSome) = true := by rfl) (hks : (backToKw pos (keywordEach kws X.env)).filterMap (·.1) = ks := by rfl)
    (he : starEach (a :: es) X.env = (false, eval a X.env) :: starEach es X.env := by rfl) (hpl : ((backTo pos (starEach (a :: es) X.env)).any (·.1) || (backToKw pos (keywordEach kws X.env)).any (·.1.isNone)) = false := by rfl) :
    PE X (.Call (.Name x p) (a :: es) kws pos) (fun σ H Q => t σ H fun vs H1 => tk σ H1 fun zs H2 => vs.length = n ∧ zs.length = ks.length ∧ sp (pick is (vs ++ zs)) H2 Q E) := by
  refine ⟨fun pins s σ H Q I h => wpAny_Call_Name_kw (ld_glob I hg hm ?_ hd)⟩
  refine PySem.W.callWith_KW (h₀ := X.base) I.ok.mod.kin hk hall (thn (ha.run pos pins s σ H _ I h) fun us s1 ⟨vs, H1, I1, r, q⟩ => ?_) hpl he
  refine thn (hkw.run pos pins s1 σ H1 _ I1 q) fun ws s2 ⟨zs, H2, I2, rz, l1, l2, q2⟩ => ⟨I2.kIn, ?_⟩
  rw [hks]
  exact runG F hG hr hx I2 (hb s2 us ws (by rw [← r.length]; exact l1) (by rw [← rz.length]; exact l2)) (Paired.pick (Paired.app r rz) is) q2
/-- f(k = e, ..) -/
theorem pe_gk0 (F : FnG X.prog X.w X.K X.mg X.base CX k f fd ps sp) (hG : X.A.guards = some []) (hr : Room k X.A) (hm : X.mg x = some (.ref f)) (hk : PySem.W.keepIn X.K (.ref f) = true) (hb : KwB fd ps ks 0 is) (hx : Passes CX X E) (hkw : PK X kws tk)
    (hg : Gl X x := by rfl) (hd : (x == ("__debug__" : Str)) = false := by decide) (hall : (backToKw pos (keywordEach kws X.env)).all (·.1.isSome) = true := by rfl) (hks : (backToKw pos (keywordEach kws X.env)).filterMap (·.1) = ks := by rfl)
    (hpl : ((backTo pos (starEach [] X.env)).any (·.1) || (backToKw pos (keywordEach kws X.env)).any (·.1.isNone)) = false := by rfl) :
    PE X (.Call (.Name x p) [] kws pos) (fun σ H Q => tk σ H fun zs H2 => zs.length = ks.length ∧ sp (pick is zs) H2 Q E) := by
  refine ⟨fun pins s σ H Q I h => wpAny_Call_Name_kw (ld_glob I hg hm ?_ hd)⟩
  refine PySem.W.callWith_KW0 (h₀ := X.base) I.ok.mod.kin hk hall ?_ hpl
  refine thn (hkw.run pos pins s σ H _ I h) fun ws s2 ⟨zs, H2, I2, rz, l2, q2⟩ => ⟨I2.kIn, ?_⟩
  rw [hks]
  have hb' := hb s2 [] ws rfl (by rw [← rz.length]; exact l2)
  exact runG (us := []) F hG hr hx I2 hb' (Paired.pick rz is) q2
end

section
variable {X : Cx} {k n : Nat} {f : Addr} {fd : FuncData} {ps ks : List Str} {x : Str} {p pos : Pos} {a : Expr} {es : List Expr} {kws : List Keyword} {is : List Nat} {G : PF} {GI : IF} {as bs : List RE}
def FK (X : Cx) (kws : List Keyword) (f : RA) : Prop := PK X kws (tA X.K f)
theorem fk_nil : FK X [] (rA []) := ⟨fun pos pins s σ H Q I ⟨w, l, ss, m', W, L, e, k⟩ => pk_nil.run pos pins s σ H Q I (by cases e; exact k w H [] rfl (Ex.refl w H) W .nil)⟩
theorem fk_cons {nm : Option Str} {kpos : Pos} {fa : RE} (ha : FE X a fa) (hr : FK X kws (rA as)) : FK X (⟨nm, a, kpos⟩ :: kws) (rA (fa :: as)) := ⟨fun pos pins s σ H Q I ⟨w, l, ss, m', W, L, e, k⟩ => (pk_cons ha hr).run pos pins s σ H Q I (by
  simp only [rA, Option.bind_eq_some_iff, Option.map_eq_some_iff, Prod.mk.injEq] at e
  obtain ⟨p, e1, q, e2, rfl, rfl⟩ := e
  exact goF W L e1 fun w1 H1 v1 c1 E1 W1 L1 s1 => goA W1 L1 (by rw [c1]; exact e2) fun w2 H2 v2 c2 E2 W2 L2 s2 => k w2 H2 _ c2 (E1.trans E2) W2 (.cons (s1.go W1 E2) s2))⟩
/-- a pure def's promise, met -/
theorem metP {K : PySem.W.Frag} {w : Wo} {H : Hp} {vs : List V} {ss : List S} {ds : List PyData} {r : PyData} {Q : VK} {E : XK} (W : Wd K w H) (h : SVs K w H vs ss) (hl : ss.length = n) (e : allD ss = some ds) (eg : G ds = some r)
    (k : ∀ w' H' v, w'.m = w.m → Ex w H w' H' → Wd K w' H' → SV K w' H' v (.d r) → Q v H') : spP K n G vs H Q E :=
  ⟨by rw [h.len]; exact hl, w.P, ds, r, ⟨fun a q => W.new q, W.sys, W.syp, fun n hl => W.syn n (live_lt hl)⟩, h.all e, eg, fun v H' S0 hv => let ⟨E, W'⟩ := W.same S0; k w H' v rfl E W' hv⟩
theorem fe_p (F : FnG X.prog X.w X.K X.mg X.base CX0 k f fd ps (spP X.K n G)) (hG : X.A.guards = some []) (hr : Room k X.A) (hm : X.mg x = some (.ref f)) (hk : PySem.W.keepIn X.K (.ref f) = true) (hb : Binds X.K fd ps []) (ha : FA X (a :: es) (rA as)) (hn : as.length = n := by rfl)
    (hg : Gl X x := by rfl) (hd : (x == ("__debug__" : Str)) = false := by decide) (he : starEach (a :: es) X.env = (false, eval a X.env) :: starEach es X.env := by rfl) (hpl : (backTo pos (starEach es X.env)).any (·.1) = false := by rfl) :
    FE X (.Call (.Name x p) (a :: es) [] pos) (eP G (rA as)) := PE.imp (pe_g F hG hr hm hk hb pass0 ha hg hd he hpl) fun σ H Q ⟨w, l, s, m', W, L, e, k⟩ => by
  simp only [eP, Option.bind_eq_some_iff, Option.map_eq_some_iff, Prod.mk.injEq] at e
  obtain ⟨q, e1, ds, e2, r, e3, rfl, rfl⟩ := e
  refine goA W L e1 fun w1 H1 vs c1 E1 W1 L1 s1 => ?_
  rw [List.append_nil]
  exact metP W1 s1 (by rw [rA_len e1]; exact hn) e2 e3 fun w' H' v c E W' hv => k w' H' v (c.trans c1) (E1.trans E) W' hv
theorem fe_p0 (F : FnG X.prog X.w X.K X.mg X.base CX0 k f fd ps (spP X.K 0 G)) (hG : X.A.guards = some []) (hr : Room k X.A) (hm : X.mg x = some (.ref f)) (hk : PySem.W.keepIn X.K (.ref f) = true) (hb : Binds X.K fd ps [])
    (hg : Gl X x := by rfl) (hd : (x == ("__debug__" : Str)) = false := by decide) : FE X (.Call (.Name x p) [] [] pos) (eP G (rA [])) := PE.imp (pe_g0 F hG hr hm hk hb pass0 hg hd) fun σ H Q ⟨w, l, s, m', W, L, e, k⟩ => by
  simp only [eP, rA, Option.bind_some, Option.bind_eq_some_iff, Option.map_eq_some_iff, Prod.mk.injEq] at e
  obtain ⟨ds, e2, r, e3, rfl, rfl⟩ := e
  exact metP W .nil rfl e2 e3 fun w' H' v c E W' hv => k w' H' v c E W' hv
theorem pair_len {α β : Type} : ∀ (xs : List α) (ys : List β), xs.length = ys.length → Paired (fun _ _ => True) xs ys
  | [], [], _ => .nil
  | [], _ :: _, h => by cases h
  | _ :: _, [], h => by cases h
  | x :: xs, y :: ys, h => .cons trivial (pair_len xs ys (by simpa using h))
theorem pick_len {α β : Type} (is : List Nat) {xs : List α} {ys : List β} (h : xs.length = ys.length) : (pick is xs).length = (pick is ys).length := Paired.length (Paired.pick (pair_len xs ys h) is)
theorem fe_pk (F : FnG X.prog X.w X.K X.mg X.base CX0 k f fd ps (spP X.K n G)) (hG : X.A.guards = some []) (hr : Room k X.A) (hm : X.mg x = some (.ref f)) (hk : PySem.W.keepIn X.K (.ref f) = true) (hb : KwB fd ps ks as.length is) (ha : FA X (a :: es) (rA as)) (hkw : FK X kws (rA bs)) (hbs : bs.length = ks.length := by rfl) (hn : (pick is (List.replicate (as.length + bs.length) ())).length = n := by rfl)
    (hg : Gl X x := by rfl) (hd : (x == ("__debug__" : Str)) = false := by decide) (hall : (backToKw pos (keywordEach kws X.env)).all (·.1.isSome) = true := by rfl) (hks : (backToKw pos (keywordEach kws X.env)).filterMap (·.1) = ks := by rfl)
    (he : starEach (a :: es) X.env = (false, eval a X.env) :: starEach es X.env := by rfl) (hpl : ((backTo pos (starEach (a :: es) X.env)).any (·.1) || (backToKw pos (keywordEach kws X.env)).any (·.1.isNone)) = false := by rfl) :
    FE X (.Call (.Name x p) (a :: es) kws pos) (eP G (rK is as bs)) := PE.imp (pe_gk F hG hr hm hk hb pass0 ha hkw hg hd hall hks he hpl) fun σ H Q ⟨w, l, s, m', W, L, e, k⟩ => by
  simp only [eP, rK, Option.bind_eq_some_iff, Option.map_eq_some_iff, Prod.mk.injEq] at e
  obtain ⟨u, ⟨q, e1, q2, e2, rfl⟩, ds, e3, r, e4, rfl, rfl⟩ := e
  refine goA W L e1 fun w1 H1 vs c1 E1 W1 L1 s1 => goA W1 L1 (by rw [c1]; exact e2) fun w2 H2 zs c2 E2 W2 L2 s2 => ?_
  refine ⟨by rw [s1.len, rA_len e1], by rw [s2.len, rA_len e2, hbs], ?_⟩
  have sp := Paired.pick (Paired.app (s1.go W1 E2) s2) is
  refine metP W2 sp ?_ e3 e4 fun w' H' v c E W' hv => k w' H' v (c.trans c2) (E1.trans (E2.trans E)) W' hv
  rw [← hn]
  exact pick_len _ (by rw [List.length_append, rA_len e1, rA_len e2, List.length_replicate])
theorem fe_pk0 (F : FnG X.prog X.w X.K X.mg X.base CX0 k f fd ps (spP X.K n G)) (hG : X.A.guards = some []) (hr : Room k X.A) (hm : X.mg x = some (.ref f)) (hk : PySem.W.keepIn X.K (.ref f) = true) (hb : KwB fd ps ks 0 is) (hkw : FK X kws (rA bs)) (hbs : bs.length = ks.length := by rfl) (hn : (pick is (List.replicate bs.length ())).length = n := by rfl)
    (hg : Gl X x := by rfl) (hd : (x == ("__debug__" : Str)) = false := by decide) (hall : (backToKw pos (keywordEach kws X.env)).all (·.1.isSome) = true := by rfl) (hks : (backToKw pos (keywordEach kws X.env)).filterMap (·.1) = ks := by rfl)
    (hpl : ((backTo pos (starEach [] X.env)).any (·.1) || (backToKw pos (keywordEach kws X.env)).any (·.1.isNone)) = false := by rfl) :
    FE X (.Call (.Name x p) [] kws pos) (eP G (rK is [] bs)) := PE.imp (pe_gk0 F hG hr hm hk hb pass0 hkw hg hd hall hks hpl) fun σ H Q ⟨w, l, s, m', W, L, e, k⟩ => by
  simp only [eP, rK, rA, Option.bind_some, Option.bind_eq_some_iff, Option.map_eq_some_iff, Prod.mk.injEq, List.nil_append] at e
  obtain ⟨u, ⟨q2, e2, rfl⟩, ds, e3, r, e4, rfl, rfl⟩ := e
  refine goA W L e2 fun w2 H2 zs c2 E2 W2 L2 s2 => ?_
  refine ⟨by rw [s2.len, rA_len e2, hbs], ?_⟩
  have sp := Paired.pick s2 is
  refine metP W2 sp ?_ e3 e4 fun w' H' v c E W' hv => k w' H' v (c.trans c2) (E2.trans E) W' hv
  rw [← hn]
  exact pick_len _ (by rw [rA_len e2, List.length_replicate])
theorem fe_i (F : FnG X.prog X.w X.K X.mg X.base CX0 k f fd ps (spI X.K n GI)) (hG : X.A.guards = some []) (hr : Room k X.A) (hm : X.mg x = some (.ref f)) (hk : PySem.W.keepIn X.K (.ref f) = true) (hb : Binds X.K fd ps []) (ha : FA X (a :: es) (rA as)) (hn : as.length = n := by rfl)
    (hg : Gl X x := by rfl) (hd : (x == ("__debug__" : Str)) = false := by decide) (he : starEach (a :: es) X.env = (false, eval a X.env) :: starEach es X.env := by rfl) (hpl : (backTo pos (starEach es X.env)).any (·.1) = false := by rfl) :
    FE X (.Call (.Name x p) (a :: es) [] pos) (eI GI (rA as)) := PE.imp (pe_g F hG hr hm hk hb pass0 ha hg hd he hpl) fun σ H Q ⟨w, l, s, m', W, L, e, k⟩ => by
  simp only [eI, Option.bind_eq_some_iff] at e
  obtain ⟨q, e1, e2⟩ := e
  refine goA W L e1 fun w1 H1 vs c1 E1 W1 L1 s1 => ?_
  rw [List.append_nil]
  exact ⟨by rw [s1.len, rA_len e1]; exact hn, w1, q.1, s, m', W1, s1, by rw [c1]; exact e2, fun w' H' v c E W' hv => k w' H' v c (E1.trans E) W' hv⟩
end
end Fz

set_option linter.all false
set_option autoImplicit false
set_option maxRecDepth 100000
set_option maxHeartbeats 4000000
/-! FzT: a tuple times an int, any int. -/
namespace Fz
open PySem PySem.Spec PyProof.Rows L2
theorem tuple_mul1 (l : Addr) (items : Array Value) (n : Nat) (dd : Option Addr) (sl : Array (Option Value)) (u : Tok) :
    Meets (Builtin.«tuple.__mul__» ⟨[.ref l, .int 1 u], []⟩) (fun _ R s => s.heap.get? l = some { cls := .type "tuple", dict := dd, data := .seq items n, slots := sl } ∧ R (.ok (.ret (Value.ref l))) s) :=
  .of_wp fun prog w A R s h => by
    obtain ⟨hp, g, d, tk, os⟩ := s
    obtain ⟨hl, h⟩ := h
    have f1 := AutoSeq1.idx_int
    have c1 : (items.isEmpty || (1 : Int) == 1) = true := by simp
    wp_walk using wpAny_loadPart' hl
    exact ⟨_, rfl, h⟩
theorem tuple_mul0 (l : Addr) (items : Array Value) (n : Nat) (dd : Option Addr) (sl : Array (Option Value)) (x : Int) (u : Tok) (c0 : (decide (x < -(2 ^ 63)) || decide (x ≥ 2 ^ 63)) = false) (c1 : (items.isEmpty || x == 1) = false) (c2 : (decide (x ≤ 0) || items.isEmpty) = true) :
    Meets (Builtin.«tuple.__mul__» ⟨[.ref l, .int x u], []⟩) (fun _ R s => s.heap.get? l = some { cls := .type "tuple", dict := dd, data := .seq items n, slots := sl } ∧
      R (.ok (.ret (Value.ref s.heap.objs.size))) { s with heap := s.heap.push { cls := Value.type "tuple", data := Data.seq #[] }, toks := s.toks }) :=
  .of_wp fun prog w A R s h => by
    obtain ⟨hp, g, d, tk, os⟩ := s
    obtain ⟨hl, h⟩ := h
    have f1 := AutoSeq1.idx_int
    wp_walk using wpAny_loadPart' hl
    repeat (first
      | (refine wpAny_ite_false (decide_eq_false (by rw [c0]; exact Bool.false_ne_true)) ?_; wp_walk using wpAny_loadPart' hl)
      | (refine wpAny_ite_false (decide_eq_false (by rw [c1]; exact Bool.false_ne_true)) ?_; wp_walk using wpAny_loadPart' hl)
      | (refine wpAny_ite_true (decide_eq_true c2) ?_; wp_walk using wpAny_loadPart' hl))
    exact ⟨_, rfl, h⟩
/-- t * k, any small k, t not empty -/
def rRepA (K : PySem.W.Frag) : R2 := fun x y H Q => ∃ l k xs, x = .ref l ∧ y = .int k ∧ SqT K H l xs ∧ xs ≠ [] ∧ -1000 ≤ k ∧ k ≤ 1000 ∧ xs.length ≤ 1000 ∧ (k = 1 → Q (.ref l) H) ∧ (k ≠ 1 → kNew H (List.replicate k.toNat xs).flatten Q)
section
variable {X : Cx}
theorem op_repA : OpR X (binaryOp .Mult) (rRepA X.K) := by
  intro pins s σ H x y v u Q I rx ry h
  obtain ⟨l, k, xs, rfl, rfl, hT, hne, h1, h2, hz, q1, q2⟩ := h
  cases rx
  obtain ⟨t, rfl⟩ := ry
  obtain ⟨its, r, ⟨⟨cls, dd, data, sl⟩, ho, hc, n, hd⟩, hs⟩ := I.tuple hT
  simp only at hc hd
  subst hc hd
  have hle : its.length = xs.length := r.length.symm
  have hn : its ≠ [] := fun e => hne (by
    rw [e] at hle
    exact List.eq_nil_of_length_eq_zero hle.symm)
  have hi : its.toArray.isEmpty = false := by
    cases its with
    | nil => exact absurd rfl hn
    | cons a b => rfl
  by_cases hk2 : 2 ≤ k
  · have e0 : its.toArray.size = xs.length := (List.size_toArray ..).trans hle
    have m0 : ((its.toArray.size : Nat) : Int) * k ≤ 1000000 := by
      rw [e0]
      have := Int.mul_le_mul_of_nonneg_right (show ((xs.length : Nat) : Int) ≤ 1000 by omega) (show 0 ≤ k by omega)
      omega
    have fl : (List.replicate k.toNat xs).flatten.length ≤ sizeLine := by
      rw [PyProof.Rows.lm_len_rep_flat, sizeLine_eq]
      have : k.toNat * xs.length ≤ 1000 * 1000 := Nat.mul_le_mul (by omega) hz
      omega
    have g0 : (decide (k < -(2 ^ 63)) || decide (k ≥ 2 ^ 63)) = false := by
      rw [decide_eq_false (by omega), decide_eq_false (by omega)] <;> rfl
    have g1 : (its.toArray.isEmpty || k == 1) = false := by
      rw [hi, Bool.false_or, beq_eq_false_iff_ne]; omega
    have g2 : (decide (k ≤ 0) || its.toArray.isEmpty) = false := by
      rw [hi, Bool.or_false]; exact decide_eq_false (by omega)
    have g4 : Builtin.Tuple.tupleTooMany (((its.toArray.size : Nat) : Int) * k) = false := by
      unfold Builtin.Tuple.tupleTooMany
      rw [sizeLine_eq]; exact decide_eq_false (by omega)
    refine wpAny_binaryOp_repeat_ref (T := "tuple") (U := "int") (by decide) ⟨_, ho, rfl⟩ (fun s' => typeIs_int s' k t) noFill_tuple_mul F.fills_int_mul F.slot_int_rmul repeat_tuple F.slot_int_index.lookup
      (call_meets F.slot_int_rmul (typeIs_int s k t) F.entry_int_rmul (F.args_int_rmul_2 _ _) (int_rmul_tuple k t l its.toArray n dd sl)
        ⟨ho, rfl, ⟨_, ho, rfl⟩, call_meets F.slot_tuple_mul ⟨_, ho, rfl⟩ F.entry_tuple_mul (F.args_tuple_mul_2 _ _) (tuple_mulW l its.toArray n dd sl k t g0 g1 g2 (by omega) g4 (by rw [size_rep, List.size_toArray, PyProof.Rows.lm_len_rep_flat, hle, ← PyProof.Rows.lm_len_rep_flat]; exact fl)) ⟨ho, ?_⟩⟩)
    rw [size_rep]
    exact EP.newT I (r.rep k.toNat) fl (q2 (by omega))
  by_cases hk1 : k = 1
  · subst hk1
    exact wpAny_binaryOp_repeat_ref (T := "tuple") (U := "int") (by decide) ⟨_, ho, rfl⟩ (fun s' => typeIs_int s' 1 t) noFill_tuple_mul F.fills_int_mul F.slot_int_rmul repeat_tuple F.slot_int_index.lookup
      (call_meets F.slot_int_rmul (typeIs_int s 1 t) F.entry_int_rmul (F.args_int_rmul_2 _ _) (int_rmul_tuple 1 t l its.toArray n dd sl)
        ⟨ho, rfl, ⟨_, ho, rfl⟩, call_meets F.slot_tuple_mul ⟨_, ho, rfl⟩ F.entry_tuple_mul (F.args_tuple_mul_2 _ _) (tuple_mul1 l its.toArray n dd sl t) ⟨ho, ⟨.ref l, H, I, rfl, q1 rfl⟩⟩⟩)
  · have c0 : (decide (k < -(2 ^ 63)) || decide (k ≥ 2 ^ 63)) = false := by
      rw [decide_eq_false (by omega), decide_eq_false (by omega)] <;> rfl
    have c1 : (its.toArray.isEmpty || k == 1) = false := by
      rw [hi, Bool.false_or]
      exact beq_eq_false_iff_ne.mpr hk1
    have c2 : (decide (k ≤ 0) || its.toArray.isEmpty) = true := by
      rw [decide_eq_true (by omega)]; rfl
    refine wpAny_binaryOp_repeat_ref (T := "tuple") (U := "int") (by decide) ⟨_, ho, rfl⟩ (fun s' => typeIs_int s' k t) noFill_tuple_mul F.fills_int_mul F.slot_int_rmul repeat_tuple F.slot_int_index.lookup
      (call_meets F.slot_int_rmul (typeIs_int s k t) F.entry_int_rmul (F.args_int_rmul_2 _ _) (int_rmul_tuple k t l its.toArray n dd sl)
        ⟨ho, rfl, ⟨_, ho, rfl⟩, call_meets F.slot_tuple_mul ⟨_, ho, rfl⟩ F.entry_tuple_mul (F.args_tuple_mul_2 _ _) (tuple_mul0 l its.toArray n dd sl k t c0 c1 c2) ⟨ho, ?_⟩⟩)
    have e0 : k.toNat = 0 := by omega
    have q := q2 hk1
    rw [e0] at q
    exact EP.newT (us := []) I .nil (Nat.zero_le _) q
end
end Fz

set_option linter.all false
set_option autoImplicit false
set_option maxRecDepth 100000
/-! FzS8: the rules of operators and built-ins, by data. -/
namespace Fz
open PySem PySem.Spec PyProof.Rows L2

section
variable {K : PySem.W.Frag} {P : Addr → Prop} {H : Hp} {v : V}
theorem Dt.int_inv {i : Int} (h : Dt K P H v (.int i)) : v = .int i := by
  rcases h with h | ⟨_, _, _, _, _, _, e⟩
  · cases h; rfl
  · cases e
theorem Dt.bl_inv {b : Bool} (h : Dt K P H v (.bool b)) : v = .bl b := by
  rcases h with h | ⟨_, _, _, _, _, _, e⟩
  · cases h; rfl
  · cases e
theorem Dt.str_inv {x : Str} (h : Dt K P H v (.str x)) : v = .str x := by
  rcases h with h | ⟨_, _, _, _, _, _, e⟩
  · cases h; rfl
  · cases e
theorem Dt.non_inv (h : Dt K P H v .none) : v = .non := by
  rcases h with h | ⟨_, _, _, _, _, _, e⟩
  · cases h; rfl
  · cases e
theorem Dt.tup_inv {ds : List PyData} (h : Dt K P H v (.tuple ds)) : ∃ a xs, v = .ref a ∧ SqT K H a xs ∧ DqAll K P H xs ds ∧ ds.length ≤ sizeLine ∧ Dq K P H v (.tuple ds) := by
  rcases h with h | ⟨_, _, _, _, _, _, e⟩
  · obtain ⟨a, xs, e, h1, h2, h3⟩ := h.tup_inv
    exact ⟨a, xs, e, h1, h3, h2, h⟩
  · cases e
theorem Dt.lst_inv {ds : List PyData} (h : Dt K P H v (.list ds)) : ∃ a xs, v = .ref a ∧ RdL K H a xs ∧ DqAll K P H xs ds := by
  rcases h with h | ⟨a, xs, ds', e, h1, h2, e'⟩
  · obtain ⟨a, xs, e, h1, h2, h3⟩ := h.lst_inv
    exact ⟨a, xs, e, h1.imp And.left id, h3⟩
  · cases e'; exact ⟨a, xs, e, .inl h1, h2⟩
theorem isN_iff {d : PyData} (h : Dt K P H v d) : decide (v = .non) = isN d := by
  rcases h with h | ⟨a, xs, ds, rfl, _, _, rfl⟩
  · cases h <;> rfl
  · rfl
theorem DqAll.get {vs : List V} {ds : List PyData} (h : DqAll K P H vs ds) (i : Nat) : (vs[i]? = none ∧ ds[i]? = none) ∨ ∃ x d, vs[i]? = some x ∧ ds[i]? = some d ∧ Dq K P H x d := by
  have hl := h.len
  cases q : ds[i]? with
  | none => rw [List.getElem?_eq_none_iff] at q; exact .inl ⟨List.getElem?_eq_none_iff.mpr (by omega), rfl⟩
  | some d =>
    obtain ⟨v, e, r⟩ := h.at i d q
    exact .inr ⟨v, d, e, rfl, r⟩
theorem DqAll.app {vs vs' : List V} {ds ds' : List PyData} (h : DqAll K P H vs ds) (k : DqAll K P H vs' ds') : DqAll K P H (vs ++ vs') (ds ++ ds') := by
  revert ds
  induction vs with
  | nil => intro ds h; cases h; exact k
  | cons v vs ih => intro ds h; cases h with
    | cons a b => exact .cons a (ih b)
theorem DqAll.drop {vs : List V} {ds : List PyData} (h : DqAll K P H vs ds) : ∀ n, DqAll K P H (vs.drop n) (ds.drop n) := by
  intro n
  revert vs ds
  induction n with
  | zero => intro vs ds h; exact h
  | succ n ih => intro vs ds h; cases h with
    | nil => exact .nil
    | cons a b => exact ih b
theorem DqAll.take {vs : List V} {ds : List PyData} (h : DqAll K P H vs ds) : ∀ n, DqAll K P H (vs.take n) (ds.take n) := by
  intro n
  revert vs ds
  induction n with
  | zero => intro vs ds h; exact .nil
  | succ n ih => intro vs ds h; cases h with
    | nil => exact .nil
    | cons a b => exact .cons a (ih b)
theorem DqAll.rep {vs : List V} {ds : List PyData} (h : DqAll K P H vs ds) : ∀ n, DqAll K P H (List.replicate n vs).flatten (List.replicate n ds).flatten
  | 0 => .nil
  | n + 1 => by
    rw [List.replicate_succ, List.replicate_succ, List.flatten_cons, List.flatten_cons]
    exact h.app (DqAll.rep h n)
theorem DqAll.ints {vs : List V} {ds : List PyData} {ns : List Int} (h : DqAll K P H vs ds) (e : asI ds = some ns) : vs = ns.map V.int := by
  rw [asI_eq e] at h
  clear e
  induction ns generalizing vs with
  | nil => cases h; rfl
  | cons n ns ih =>
    cases h with
    | cons a b => cases a; rw [ih b]; rfl
theorem DqAll.bls {vs : List V} {ds : List PyData} {ns : List Bool} (h : DqAll K P H vs ds) (e : asB ds = some ns) : vs = ns.map V.bl := by
  rw [asB_eq e] at h
  clear e
  induction ns generalizing vs with
  | nil => cases h; rfl
  | cons n ns ih =>
    cases h with
    | cons a b => cases a; rw [ih b]; rfl
/-- what stays where nothing changes -/
theorem Dq.here {d : PyData} (h : Dq K P H v d) {Q : VK} (q : ∀ v H', Same H H' → Dq K P H' v d → Q v H') : Q v H := q v H (Same.refl H) h
theorem Dq.up {H' : Hp} {d : PyData} (S0 : Same H H') (h : Dq K P H v d) : Dq K P H' v d := Dq.mono S0 (fun _ _ _ p => p) h
theorem DqAll.up {H' : Hp} {vs : List V} {ds : List PyData} (S0 : Same H H') (h : DqAll K P H vs ds) : DqAll K P H' vs ds := DqAll.mono S0 (fun _ _ _ p => p) h
/-- a new tuple, a new list -/
theorem new_tup {xs : List V} {ds : List PyData} (h : DqAll K P H xs ds) (z : ds.length ≤ sizeLine) {p : Addr} {o : Obj} (ho : o.dict = none) (hp : H p = none) : Same H (upd H p (.frz o (.tup xs))) ∧ Dq K P (upd H p (.frz o (.tup xs))) (.ref p) (.tuple ds) :=
  ⟨same_upd hp, .tup (.inl ⟨o, upd_same, ho⟩) z (h.up (same_upd hp))⟩
theorem new_lst {xs : List V} {ds : List PyData} (h : DqAll K P H xs ds) (z : ds.length ≤ sizeLine) (hf : ∀ a, H a = none → P a) {p : Addr} (hp : H p = none) : Same H (upd H p (.lst xs)) ∧ Dq K P (upd H p (.lst xs)) (.ref p) (.list ds) :=
  ⟨same_upd hp, .lst (.inl upd_same) (hf p hp) z (h.up (same_upd hp))⟩
end
section
variable {X : Cx} {pins : List (Addr × Obj)} {σ : L2.St} {H : Hp} {s : Shared} {a : Addr} {xs : List V}
theorem _root_.L2.Inv.rdL (I : Inv X pins σ H s) (h : RdL X.K H a xs) : xs.length ≤ sizeLine ∧ ∃ (its : List Value) (n : Nat), Vals xs its ∧ xs.length = its.length ∧ s.heap.get? a = some { cls := .type "list", data := .seq its.toArray n } := by
  rcases h with h | ⟨its, n, e, r, z, _⟩
  · obtain ⟨z, its, n, r, e⟩ := h.ok I.hok
    exact ⟨z, its, n, r, r.length, e⟩
  · exact ⟨by rw [r.length]; exact z, its, n, r, r.length, I.kIn a _ e⟩
theorem _root_.L2.Inv.dqZ {P : Addr → Prop} {ds : List PyData} (I : Inv X pins σ H s) (h : RdL X.K H a xs) (d : DqAll X.K P H xs ds) : ds.length ≤ sizeLine := by
  obtain ⟨z, _⟩ := I.rdL h
  rw [d.len] at z; exact z
end

/-! ### operators -/
section
variable {X : Cx}
theorem fo_ii {f : Value → Value → Sem Value} {g : PyData → PyData → Option PyData} {C : Int → Int → Prop} {r : Int → Int → V} {rd : Int → Int → PyData} (h : OpR X f (rI C r)) (hr : ∀ K P H i j, Dq K P H (r i j) (rd i j))
    (hg : ∀ d e x, g d e = some x → ∃ i j, d = .int i ∧ e = .int j ∧ C i j ∧ x = rd i j) : FOp X f g := by
  intro pins s σ H x y v u Q I rx ry ⟨P, d, e, r', hf, hd, he, eg, q⟩
  obtain ⟨i, j, rfl, rfl, c, rfl⟩ := hg d e r' eg
  have e1 := hd.int_inv
  have e2 := he.int_inv
  subst e1 e2
  exact h pins s σ H _ _ v u Q I rx ry ⟨i, j, rfl, rfl, c, q _ H (Same.refl H) (hr _ _ _ _ _)⟩
theorem fo_i0 {f : Value → Value → Sem Value} {g : PyData → PyData → Option PyData} {r : Int → Int → V} {rd : Int → Int → PyData} (h : OpR X f (rI0 r)) (hr : ∀ K P H i j, Dq K P H (r i j) (rd i j))
    (hg : ∀ d e x, g d e = some x → ∃ i j, d = .int i ∧ e = .int j ∧ x = rd i j) : FOp X f g := by
  intro pins s σ H x y v u Q I rx ry ⟨P, d, e, r', hf, hd, he, eg, q⟩
  obtain ⟨i, j, rfl, rfl, rfl⟩ := hg d e r' eg
  have e1 := hd.int_inv
  have e2 := he.int_inv
  subst e1 e2
  exact h pins s σ H _ _ v u Q I rx ry ⟨i, j, rfl, rfl, q _ H (Same.refl H) (hr _ _ _ _ _)⟩
theorem gi {g : PyData → PyData → Option PyData} {rd : Int → Int → PyData} (h1 : ∀ i j, g (.int i) (.int j) = some (rd i j)) (h2 : ∀ d e x, g d e = some x → ∃ i j, d = .int i ∧ e = .int j) : ∀ d e x, g d e = some x → ∃ i j, d = .int i ∧ e = .int j ∧ x = rd i j := fun d e x q => by
  obtain ⟨i, j, rfl, rfl⟩ := h2 d e x q
  rw [h1] at q; cases q
  exact ⟨i, j, rfl, rfl, rfl⟩
theorem fo_sub : FOp X (binaryOp .Sub) pSub := fo_i0 op_sub (fun _ _ _ _ _ => .int _) (gi (fun _ _ => rfl) fun d e x q => by cases d <;> cases e <;> cases q; exact ⟨_, _, rfl, rfl⟩)
theorem fo_and : FOp X (binaryOp .BitAnd) pAnd := fo_i0 op_and (fun _ _ _ _ _ => .int _) (gi (fun _ _ => rfl) fun d e x q => by cases d <;> cases e <;> cases q; exact ⟨_, _, rfl, rfl⟩)
theorem fo_or : FOp X (binaryOp .BitOr) pOr := fo_i0 op_or (fun _ _ _ _ _ => .int _) (gi (fun _ _ => rfl) fun d e x q => by cases d <;> cases e <;> cases q; exact ⟨_, _, rfl, rfl⟩)
theorem fo_xor : FOp X (binaryOp .BitXor) pXor := fo_i0 op_xor (fun _ _ _ _ _ => .int _) (gi (fun _ _ => rfl) fun d e x q => by cases d <;> cases e <;> cases q; exact ⟨_, _, rfl, rfl⟩)
theorem fo_lt : FOp X (compareOp .Lt) pLt := fo_i0 op_lt (fun _ _ _ _ _ => .bl _) (gi (fun _ _ => rfl) fun d e x q => by cases d <;> cases e <;> cases q; exact ⟨_, _, rfl, rfl⟩)
theorem fo_le : FOp X (compareOp .LtE) pLe := fo_i0 op_le (fun _ _ _ _ _ => .bl _) (gi (fun _ _ => rfl) fun d e x q => by cases d <;> cases e <;> cases q; exact ⟨_, _, rfl, rfl⟩)
theorem fo_gt : FOp X (compareOp .Gt) pGt := fo_i0 op_gt (fun _ _ _ _ _ => .bl _) (gi (fun _ _ => rfl) fun d e x q => by cases d <;> cases e <;> cases q; exact ⟨_, _, rfl, rfl⟩)
theorem fo_ge : FOp X (compareOp .GtE) pGe := fo_i0 op_ge (fun _ _ _ _ _ => .bl _) (gi (fun _ _ => rfl) fun d e x q => by cases d <;> cases e <;> cases q; exact ⟨_, _, rfl, rfl⟩)
theorem gc {g : PyData → PyData → Option PyData} {rd : Int → Int → PyData} {C : Int → Int → Prop} (h1 : ∀ i j x, g (.int i) (.int j) = some x → C i j ∧ x = rd i j) (h2 : ∀ d e x, g d e = some x → ∃ i j, d = .int i ∧ e = .int j) : ∀ d e x, g d e = some x → ∃ i j, d = .int i ∧ e = .int j ∧ C i j ∧ x = rd i j := fun d e x q => by
  obtain ⟨i, j, rfl, rfl⟩ := h2 d e x q
  exact ⟨i, j, rfl, rfl, h1 i j x q⟩
theorem fo_fdiv : FOp X (binaryOp .FloorDiv) pFdiv := fo_ii op_fdivW (fun _ _ _ _ _ => .int _) (gc (fun i j x q => by
  simp only [pFdiv] at q; split at q
  · cases q; rename_i h; exact ⟨wide_div h.1 h.2 (by decide) (by decide), rfl⟩
  · cases q) fun d e x q => by cases d <;> cases e <;> first | exact ⟨_, _, rfl, rfl⟩ | cases q)
theorem fo_mod : FOp X (binaryOp .Mod) pMod := fo_ii op_mod (fun _ _ _ _ _ => .int _) (gc (fun i j x q => by
  simp only [pMod] at q; split at q
  · cases q; rename_i h; exact ⟨h, rfl⟩
  · cases q) fun d e x q => by cases d <;> cases e <;> first | exact ⟨_, _, rfl, rfl⟩ | cases q)
theorem fo_pow : FOp X (binaryOp .Pow) pPow := fo_ii op_pow (fun _ _ _ _ _ => .int _) (gc (fun i j x q => by
  simp only [pPow] at q; split at q
  · cases q; rename_i h; exact ⟨h, rfl⟩
  · cases q) fun d e x q => by cases d <;> cases e <;> first | exact ⟨_, _, rfl, rfl⟩ | cases q)
theorem fo_shl : FOp X (binaryOp .LShift) pShl := fo_ii op_shl (fun _ _ _ _ _ => .int _) (gc (fun i j x q => by
  simp only [pShl] at q; split at q
  · cases q; rename_i h; exact ⟨h, rfl⟩
  · cases q) fun d e x q => by cases d <;> cases e <;> first | exact ⟨_, _, rfl, rfl⟩ | cases q)
theorem fo_shr : FOp X (binaryOp .RShift) pShr := fo_ii op_shr (fun _ _ _ _ _ => .int _) (gc (fun i j x q => by
  simp only [pShr] at q; split at q
  · cases q; rename_i h; exact ⟨h, rfl⟩
  · cases q) fun d e x q => by cases d <;> cases e <;> first | exact ⟨_, _, rfl, rfl⟩ | cases q)
theorem fo_neg : FUn X (unaryOp .USub) pNeg := by
  intro pins s σ H x v Q I rx ⟨P, d, r', hf, hd, eg, q⟩
  cases d <;> cases eg
  have e1 := hd.int_inv
  subst e1
  exact un_neg pins s σ H _ v Q I rx ⟨_, rfl, q _ H (Same.refl H) (.int _)⟩
theorem fo_add : FOp X (binaryOp .Add) pAdd := by
  intro pins s σ H x y v u Q I rx ry ⟨P, d, e, r, hf, hd, he, eg, q⟩
  cases d <;> cases e <;> try (cases eg; done)
  case int.bool i b =>
    cases eg
    have e1 := hd.int_inv; have e2 := he.bl_inv; subst e1 e2
    refine op_add_ib pins s σ H _ _ v u Q I rx ry ⟨i, b, rfl, rfl, q _ H (Same.refl H) ?_⟩
    cases b <;> exact .int _
  case int.int i j =>
    cases eg
    have e1 := hd.int_inv; have e2 := he.int_inv; subst e1 e2
    exact op_add pins s σ H _ _ v u Q I rx ry ⟨i, j, rfl, rfl, q _ H (Same.refl H) (.int _)⟩
  case str.str i j =>
    simp only [pAdd] at eg
    split at eg
    · rename_i hz
      cases eg
      have e1 := hd.str_inv; have e2 := he.str_inv; subst e1 e2
      exact op_add_str pins s σ H _ _ v u Q I rx ry ⟨i, j, rfl, rfl, Nat.le_trans hz lim_le, q _ H (Same.refl H) (.str _)⟩
    · cases eg
  case list.list ds es =>
    simp only [pAdd] at eg
    split at eg
    · rename_i hz
      cases eg
      obtain ⟨a, xs, rfl, h1, h2⟩ := hd.lst_inv
      obtain ⟨b, ys, rfl, h3, h4⟩ := he.lst_inv
      cases rx
      cases ry
      obtain ⟨z, its, n, r, hl, e⟩ := I.rdL h1
      obtain ⟨z2, its2, n2, r2, hl2, e2⟩ := I.rdL h3
      have hz' : (ds ++ es).length ≤ sizeLine := by rw [List.length_append]; exact Nat.le_trans hz lim_le
      have hz2 : its.length + its2.length ≤ sizeLine := by rw [← hl, ← hl2, h2.len, h4.len]; exact Nat.le_trans hz lim_le
      refine PySem.P.add_list e e2 ?_ (by rw [List.size_toArray, List.size_toArray]; exact hz2)
      have ea : its.toArray ++ its2.toArray = (its ++ its2).toArray := by simp
      rw [ea]
      obtain ⟨S0, dq⟩ := new_lst (h2.app h4) hz' hf I.fresh
      exact ⟨.ref _, _, I.lnew (t' := s.toks) (r.append r2) (by rw [List.length_append]; omega), rfl, q _ _ S0 dq⟩
    · cases eg
  case tuple.tuple ds es =>
    simp only [pAdd] at eg
    split at eg
    · rename_i hz
      cases eg
      obtain ⟨a, xs, rfl, h1, h2, _, h5⟩ := hd.tup_inv
      obtain ⟨b, ys, rfl, h3, h4, _, h6⟩ := he.tup_inv
      have hz' : (ds ++ es).length ≤ sizeLine := by rw [List.length_append]; exact Nat.le_trans hz lim_le
      refine op_catN pins s σ H _ _ v u Q I rx ry ⟨a, b, xs, ys, rfl, rfl, h1, h3, by rw [h2.len, h4.len]; exact Nat.le_trans hz lim_le, fun e => ?_, fun _ e => ?_, fun _ _ p o ho hp => ?_⟩
      · subst e; cases h2; exact q _ H (Same.refl H) h6
      · subst e; cases h4; rw [List.append_nil] at q; exact q _ H (Same.refl H) h5
      · obtain ⟨S0, dq⟩ := new_tup (h2.app h4) hz' ho hp
        exact q _ _ S0 dq
    · cases eg
/-- a list times an int -/
theorem op_repR : OpR X (binaryOp .Mult) (fun x y H Q => ∃ l k xs, x = V.ref l ∧ y = V.int k ∧ RdL X.K H l xs ∧ -(2 ^ 63) ≤ k ∧ k < 2 ^ 63 ∧ xs.length * k.toNat ≤ sizeLine ∧
    ∀ p, H p = none → Q (.ref p) (upd H p (.lst (List.replicate k.toNat xs).flatten))) := by
  intro pins s σ H x y v u Q I rx ry h
  obtain ⟨l, k, xs, rfl, rfl, hH, h1, h2, hz, q⟩ := h
  cases rx
  obtain ⟨t, rfl⟩ := ry
  obtain ⟨z, its, n, r, hl, e⟩ := I.rdL hH
  have hlen : its.toArray.size * k.toNat ≤ sizeLine := by rw [List.size_toArray, ← hl]; exact hz
  have hcap : ¬ its.toArray.size * k.toNat > (2 ^ 63 - 1) / 8 := by
    have : (sizeLine : Nat) ≤ (2 ^ 63 - 1) / 8 := by decide
    omega
  have hfit : ¬ (!Builtin.List.listFitsIndex k) = true := by
    rw [fitsIndex_both h1 h2]
    exact Bool.false_ne_true
  have hlong : ¬ Builtin.List.listTooLong (its.toArray.size * k.toNat) = true := by
    rw [notLongL hlen]
    exact Bool.false_ne_true
  refine wpAny_binaryOp_repeat_ref (T := "list") (U := "int") (by decide) ⟨_, e, rfl⟩ (fun s' => typeIs_int s' k t) noFill_list_mul F.fills_int_mul F.slot_int_rmul repeat_list F.slot_int_index.lookup
    (call_meets F.slot_int_rmul (typeIs_int s k t) F.entry_int_rmul (F.args_int_rmul_2 _ _) (int___rmul___int_list k t l its.toArray n)
      ⟨e, rfl, ⟨_, e, rfl⟩, call_meets F.slot_list_mul ⟨_, e, rfl⟩ F.entry_list_mul (F.args_list_mul_2 _ _) (AutoListH.list___mul___list_int_3 l its.toArray n k t hfit hcap hlong) ⟨e, ?_⟩⟩)
  rw [listMul_foldl_if]
  exact ⟨.ref _, _, I.lnew (t' := s.toks) (r.rep k.toNat) (by rw [PyProof.Rows.lm_len_rep_flat, Nat.mul_comm]; exact hz), rfl, q _ I.fresh⟩
theorem small_ok {i : Int} (h : small64 i = true) : -(2 ^ 64) < i ∧ i < 2 ^ 64 := by
  unfold small64 at h
  simpa using h
theorem fo_mul : FOp X (binaryOp .Mult) pMul := by
  intro pins s σ H x y v u Q I rx ry ⟨P, d, e, r, hf, hd, he, eg, q⟩
  cases d <;> cases e <;> try (cases eg; done)
  case int.int i j =>
    simp only [pMul] at eg
    split at eg
    · rename_i hz
      cases eg
      have e1 := hd.int_inv; have e2 := he.int_inv; subst e1 e2
      rw [Bool.or_eq_true, Bool.or_eq_true] at hz
      rcases hz with (hz | hz) | hz
      · exact op_mul pins s σ H _ _ v u Q I rx ry ⟨i, j, rfl, rfl, .inl (small_ok hz), q _ H (Same.refl H) (.int _)⟩
      · exact op_mul pins s σ H _ _ v u Q I rx ry ⟨i, j, rfl, rfl, .inr (small_ok hz), q _ H (Same.refl H) (.int _)⟩
      · rw [Bool.and_eq_true] at hz
        exact op_mulW pins s σ H _ _ v u Q I rx ry ⟨i, j, rfl, rfl, wide_mul (of_decide_eq_true hz.1) (of_decide_eq_true hz.2) (by decide) (by decide) (by decide), q _ H (Same.refl H) (.int _)⟩
    · cases eg
  case tuple.int ds k =>
    simp only [pMul] at eg
    split at eg
    · rename_i hz
      obtain ⟨h0, hz, hk, hk2⟩ := hz
      cases eg
      obtain ⟨a, xs, rfl, h1, h2, _, h3⟩ := hd.tup_inv
      have e2 := he.int_inv; subst e2
      have hs := sizeLine_eq
      have hne : xs ≠ [] := fun e => by rw [← h2.len, e] at h0; exact absurd h0 (by decide)
      refine op_repA pins s σ H _ _ v u Q I rx ry ⟨a, k, xs, rfl, rfl, h1, hne, hk2, hk, by rw [h2.len]; exact hz, fun e => ?_, fun _ p o ho hp => ?_⟩
      · subst e
        have q := q (.ref a) H (Same.refl H)
        simp only [show (1 : Int).toNat = 1 from rfl, List.replicate_one, List.flatten_cons, List.flatten_nil, List.append_nil] at q
        exact q h3
      · obtain ⟨S0, dq⟩ := new_tup (h2.rep k.toNat) (by rw [← (h2.rep k.toNat).len, PyProof.Rows.lm_len_rep_flat, h2.len, hs]; have a1 : k.toNat * ds.length ≤ 1000 * 1000 := Nat.mul_le_mul (by omega) hz; omega) ho hp
        exact q _ _ S0 dq
    · cases eg
  case list.int ds k =>
    simp only [pMul] at eg
    split at eg
    · rename_i hz
      obtain ⟨hz, hk, hk2⟩ := hz
      cases eg
      obtain ⟨a, xs, rfl, h1, h2⟩ := hd.lst_inv
      have e2 := he.int_inv; subst e2
      have hll : (lim : Int) = 1000000 := rfl
      have hll' : lim = 1000000 := rfl
      have hs := sizeLine_eq
      have hl : xs.length * k.toNat ≤ sizeLine := by rw [h2.len]; omega
      refine op_repR pins s σ H _ _ v u Q I rx ry ⟨a, k, xs, rfl, rfl, h1, by omega, by omega, hl, fun p hp => ?_⟩
      obtain ⟨S0, dq⟩ := new_lst (h2.rep k.toNat) (by rw [← (h2.rep k.toNat).len, PyProof.Rows.lm_len_rep_flat, Nat.mul_comm]; exact hl) hf hp
      exact q _ _ S0 dq
    · cases eg
theorem fo_isN : ∀ {a : Expr} {fa : RE} {pos pos' : Pos} {j : Nat}, FE X a fa → FE X (.Compare a [.Is] [.Constant .none j pos'] pos) (eUn pIsN fa) := fun {a fa pos pos' j} ha =>
  PE.imp (pe_cmp (pc_isN ha)) fun σ H Q ⟨w, l, s, m', W, L, e, k⟩ => by
    simp only [eUn, Option.bind_eq_some_iff, Option.map_eq_some_iff, Prod.mk.injEq] at e
    obtain ⟨p, e1, d, e3, r, e5, rfl, rfl⟩ := e
    cases e5
    refine goF W L e1 fun w1 H1 v1 c1 E1 W1 L1 s1 => ?_
    rw [isN_iff (s1.deref W1 (by rw [c1]; exact e3))]
    exact k w1 H1 _ c1 E1 W1 (.bl _)
theorem fo_notN : ∀ {a : Expr} {fa : RE} {pos pos' : Pos} {j : Nat}, FE X a fa → FE X (.Compare a [.IsNot] [.Constant .none j pos'] pos) (eUn pNotN fa) := fun {a fa pos pos' j} ha =>
  PE.imp (pe_cmp (pc_notN ha)) fun σ H Q ⟨w, l, s, m', W, L, e, k⟩ => by
    simp only [eUn, Option.bind_eq_some_iff, Option.map_eq_some_iff, Prod.mk.injEq] at e
    obtain ⟨p, e1, d, e3, r, e5, rfl, rfl⟩ := e
    cases e5
    refine goF W L e1 fun w1 H1 v1 c1 E1 W1 L1 s1 => ?_
    rw [isN_iff (s1.deref W1 (by rw [c1]; exact e3))]
    exact k w1 H1 _ c1 E1 W1 (.bl _)
theorem ft_of {a : Expr} {pos pos' : Pos} {j : Nat} {fa : RE} {op : CmpOp} {g : PyData → Option PyData} {t : TE} (h : PC X op a (.Constant .none j pos') t) (i : ∀ σ H Q, tF X.K (eUn g fa) σ H Q → t σ H Q) (hb : behindInMarks op (.Constant .none j pos') = false) : FT X (.Compare a [op] [.Constant .none j pos'] pos) (Fz.tB (eUn g fa)) :=
  PT.imp (pt_cmp h hb) fun σ H Q h2 => tTest_of (fun Q => i σ H Q) h2
theorem ft_isN {a : Expr} {fa : RE} {pos pos' : Pos} {j : Nat} (ha : FE X a fa) : FT X (.Compare a [.Is] [.Constant .none j pos'] pos) (Fz.tB (eUn pIsN fa)) := ft_of (pc_isN ha) (fun σ H Q ⟨w, l, s, m', W, L, e, k⟩ => by
    simp only [eUn, Option.bind_eq_some_iff, Option.map_eq_some_iff, Prod.mk.injEq] at e
    obtain ⟨p, e1, d, e3, r, e5, rfl, rfl⟩ := e
    cases e5
    refine goF W L e1 fun w1 H1 v1 c1 E1 W1 L1 s1 => ?_
    rw [isN_iff (s1.deref W1 (by rw [c1]; exact e3))]
    exact k w1 H1 _ c1 E1 W1 (.bl _)) rfl
theorem ft_notN {a : Expr} {fa : RE} {pos pos' : Pos} {j : Nat} (ha : FE X a fa) : FT X (.Compare a [.IsNot] [.Constant .none j pos'] pos) (Fz.tB (eUn pNotN fa)) := ft_of (pc_notN ha) (fun σ H Q ⟨w, l, s, m', W, L, e, k⟩ => by
    simp only [eUn, Option.bind_eq_some_iff, Option.map_eq_some_iff, Prod.mk.injEq] at e
    obtain ⟨p, e1, d, e3, r, e5, rfl, rfl⟩ := e
    cases e5
    refine goF W L e1 fun w1 H1 v1 c1 E1 W1 L1 s1 => ?_
    rw [isN_iff (s1.deref W1 (by rw [c1]; exact e3))]
    exact k w1 H1 _ c1 E1 W1 (.bl _)) rfl
end
end Fz

set_option linter.all false
set_option autoImplicit false
set_option maxRecDepth 100000
/-! FzS9: ==, in, subscripts, slices, len, sum, max, min, tuple, list, abs, int, any, all, repr. -/
namespace Fz
open PySem PySem.Spec PyProof.Rows L2

section
variable {X : Cx}
theorem eqB_shape {d e : PyData} {k : Bool} (h : eqB d e = some k) : (∃ x y, d = .str x ∧ e = .str y ∧ k = decide (x = y)) ∨ (∃ x y, d = .int x ∧ e = .int y ∧ k = decide (x = y)) ∨ (SeqAt.shaped d = true ∧ SeqAt.shaped e = true ∧ k = PyData.eqv d e) := by
  have gen : ∀ {d e : PyData}, (if (SeqAt.shaped d && SeqAt.shaped e) = true then some (PyData.eqv d e) else none) = some k → SeqAt.shaped d = true ∧ SeqAt.shaped e = true ∧ k = PyData.eqv d e := fun {d e} q => by
    split at q
    · rename_i hh; rw [Bool.and_eq_true] at hh; cases q; exact ⟨hh.1, hh.2, rfl⟩
    · cases q
  cases d <;> cases e <;> simp only [eqB] at h <;> first
    | exact .inr (.inr (gen h))
    | (cases h; exact .inl ⟨_, _, rfl, rfl, rfl⟩)
    | (cases h; exact .inr (.inl ⟨_, _, rfl, rfl, rfl⟩))
theorem fo_eq (hu : X.A.units + 64 < cLine) : FOp X (compareOp .Eq) pEq := by
  intro pins s σ H x y v u Q I rx ry ⟨P, d, e, r, hf, hd, he, eg, q⟩
  simp only [pEq, Option.map_eq_some_iff] at eg
  obtain ⟨k, eg, rfl⟩ := eg
  have q' := q _ H (Same.refl H) (.bl k)
  rcases eqB_shape eg with ⟨a, b, rfl, rfl, rfl⟩ | ⟨a, b, rfl, rfl, rfl⟩ | ⟨h1, h2, rfl⟩
  · have e1 := hd.str_inv; have e2 := he.str_inv; subst e1 e2
    exact op_eq pins s σ H _ _ v u Q I rx ry ⟨rfl, by rw [dec_str]; rw [← Bool.beq_eq_decide_eq] at q'; exact q'⟩
  · have e1 := hd.int_inv; have e2 := he.int_inv; subst e1 e2
    exact op_eq pins s σ H _ _ v u Q I rx ry ⟨rfl, by rw [dec_int]; rw [← Bool.beq_eq_decide_eq] at q'; exact q'⟩
  · obtain ⟨as, r1, _⟩ := Dt.reads I hd rx
    obtain ⟨bs, r2, _⟩ := Dt.reads I he ry
    exact SeqAt.compareEq_shaped r1 r2 h1 h2 hu ⟨.bl _, H, I, rfl, q'⟩
theorem fo_ne (hu : X.A.units + 64 < cLine) : FOp X (compareOp .NotEq) pNe := by
  intro pins s σ H x y v u Q I rx ry ⟨P, d, e, r, hf, hd, he, eg, q⟩
  simp only [pNe, Option.map_eq_some_iff] at eg
  obtain ⟨k, eg, rfl⟩ := eg
  have q' := q _ H (Same.refl H) (.bl (!k))
  rcases eqB_shape eg with ⟨a, b, rfl, rfl, rfl⟩ | ⟨a, b, rfl, rfl, rfl⟩ | ⟨h1, h2, rfl⟩
  · have e1 := hd.str_inv; have e2 := he.str_inv; subst e1 e2
    exact op_ne pins s σ H _ _ v u Q I rx ry ⟨rfl, by rw [dec_str]; rw [← Bool.beq_eq_decide_eq] at q'; exact q'⟩
  · have e1 := hd.int_inv; have e2 := he.int_inv; subst e1 e2
    exact op_ne pins s σ H _ _ v u Q I rx ry ⟨rfl, by rw [dec_int]; rw [← Bool.beq_eq_decide_eq] at q'; exact q'⟩
  · obtain ⟨as, r1, _⟩ := Dt.reads I hd rx
    obtain ⟨bs, r2, _⟩ := Dt.reads I he ry
    exact SeqAt.compareNe_shaped r1 r2 h1 h2 hu ⟨.bl _, H, I, rfl, q'⟩
theorem inB_shape {d e : PyData} {k : Bool} (h : inB d e = some k) : ∃ ds, (e = .list ds ∨ e = .tuple ds) ∧ SeqAt.shaped d = true ∧ SeqAt.shaped e = true ∧ k = ds.any fun z => PyData.eqv z d := by
  cases e <;> simp only [inB] at h <;> try (cases h; done)
  all_goals
    split at h
    · rename_i q; rw [Bool.and_eq_true] at q; cases h
      first
      | exact ⟨_, .inl rfl, q.1, q.2, rfl⟩
      | exact ⟨_, .inr rfl, q.1, q.2, rfl⟩
    · cases h
theorem fo_in (hu : X.A.units + 65 < cLine) : FOp X (compareOp .In) pIn := by
  intro pins s σ H x y v u Q I rx ry ⟨P, d, e, r, hf, hd, he, eg, q⟩
  simp only [pIn, Option.map_eq_some_iff] at eg
  obtain ⟨k, eg, rfl⟩ := eg
  have q' := q _ H (Same.refl H) (.bl k)
  obtain ⟨ds, rfl | rfl, h1, h2, rfl⟩ := inB_shape eg
  · obtain ⟨as, r1, _⟩ := Dt.reads I hd rx
    obtain ⟨bs, r2, _⟩ := Dt.reads I he ry
    exact SeqAt.in_list_reads r2 r1 (SeqAt.canLay_of_shaped h2) (SeqAt.canLay_of_shaped h1) (room_in_shaped h1 hu) ⟨.bl _, H, I, rfl, q'⟩
  · obtain ⟨as, r1, _⟩ := Dt.reads I hd rx
    obtain ⟨bs, r2, _⟩ := Dt.reads I he ry
    exact SeqAt.in_tuple_reads r2 r1 (SeqAt.canLay_of_shaped h2) (SeqAt.canLay_of_shaped h1) (room_in_shaped h1 hu) ⟨.bl _, H, I, rfl, q'⟩
theorem fo_notIn (hu : X.A.units + 65 < cLine) : FOp X (compareOp .NotIn) pNotIn := by
  intro pins s σ H x y v u Q I rx ry ⟨P, d, e, r, hf, hd, he, eg, q⟩
  simp only [pNotIn, Option.map_eq_some_iff] at eg
  obtain ⟨k, eg, rfl⟩ := eg
  have q' := q _ H (Same.refl H) (.bl (!k))
  obtain ⟨ds, rfl | rfl, h1, h2, rfl⟩ := inB_shape eg
  · obtain ⟨as, r1, _⟩ := Dt.reads I hd rx
    obtain ⟨bs, r2, _⟩ := Dt.reads I he ry
    exact SeqAt.notIn_list_reads r2 r1 (SeqAt.canLay_of_shaped h2) (SeqAt.canLay_of_shaped h1) (room_in_shaped h1 hu) ⟨.bl _, H, I, rfl, q'⟩
  · obtain ⟨as, r1, _⟩ := Dt.reads I hd rx
    obtain ⟨bs, r2, _⟩ := Dt.reads I he ry
    exact SeqAt.notIn_tuple_reads r2 r1 (SeqAt.canLay_of_shaped h2) (SeqAt.canLay_of_shaped h1) (room_in_shaped h1 hu) ⟨.bl _, H, I, rfl, q'⟩

/-! ### subscripts, slices -/
theorem at_of {K : PySem.W.Frag} {P : Addr → Prop} {H : Hp} {xs : List V} {ds : List PyData} (h : DqAll K P H xs ds) {i : Int} {d : PyData} (e : atI ds i = some d) : ∃ v, atI xs i = some v ∧ Dq K P H v d := by
  unfold atI at e ⊢
  rw [h.len]
  cases q : ixN ds.length i with
  | none => rw [q] at e; cases e
  | some j =>
    rw [q] at e
    obtain ⟨v, h1, h2⟩ := h.at j d e
    exact ⟨v, h1, h2⟩
theorem ix_data : IxR X (rF2 X.K ixD) := by
  intro value slice pins s σ H x y v u Q I rx ry ⟨P, d, e, r, hf, hd, he, eg, q⟩ hpl
  cases d <;> cases e <;> try (cases eg; done)
  case list.int ds i =>
    have e2 := he.int_inv; subst e2
    obtain ⟨a, xs, rfl, h1, h2⟩ := hd.lst_inv
    obtain ⟨z, e3, e4⟩ := at_of h2 (show atI ds i = some r from eg)
    exact ix_list value slice pins s σ H _ _ v u Q I rx ry ⟨a, xs, i, z, rfl, rfl, h1.seq, e3, q z H (Same.refl H) e4⟩ hpl
  case tuple.int ds i =>
    have e2 := he.int_inv; subst e2
    obtain ⟨a, xs, rfl, h1, h2, _, _⟩ := hd.tup_inv
    obtain ⟨z, e3, e4⟩ := at_of h2 (show atI ds i = some r from eg)
    exact ix_tup value slice pins s σ H _ _ v u Q I rx ry ⟨a, xs, i, z, rfl, rfl, h1, e3, q z H (Same.refl H) e4⟩ hpl
theorem cut_len (ds : List PyData) (lo hi : Option Int) : (cutL ds lo hi).length ≤ ds.length := by
  unfold cutL
  rw [List.length_take, List.length_drop]
  omega
theorem cut_all {K : PySem.W.Frag} {P : Addr → Prop} {H : Hp} {xs : List V} {ds : List PyData} (h : DqAll K P H xs ds) (lo hi : Option Int) : DqAll K P H (cutV xs lo hi) (cutL ds lo hi) := by
  unfold cutV cutL
  rw [h.len]
  exact (h.drop _).take _
theorem cut_whole {ds : List PyData} {lo hi : Option Int} (h : HT.sIx ds.length 0 lo = 0 ∧ HT.sIx ds.length ds.length hi = ds.length) : cutL ds lo hi = ds := by
  unfold cutL
  rw [h.1, h.2]
  simp
theorem sl_data : SlR X (rSl X.K) := by
  intro pins s σ H x v vl vu lo hi sl Q I rx hs pl pu ⟨P, d, r, hf, hd, eg, q⟩
  cases d <;> try (cases eg; done)
  case list ds =>
    cases eg
    obtain ⟨a, xs, rfl, h1, h2⟩ := hd.lst_inv
    refine sl_list pins s σ H _ v vl vu lo hi sl Q I rx hs pl pu ⟨a, xs, rfl, h1.seq, fun p hp => ?_⟩
    obtain ⟨S0, dq⟩ := new_lst (cut_all h2 lo hi) (Nat.le_trans (cut_len ds lo hi) (I.dqZ h1 h2)) hf hp
    exact q _ _ S0 dq
  case tuple ds =>
    cases eg
    obtain ⟨a, xs, rfl, h1, h2, z, h3⟩ := hd.tup_inv
    refine sl_tupN pins s σ H _ v vl vu lo hi sl Q I rx hs pl pu ⟨a, xs, rfl, h1, fun w => ?_, fun w p o ho hp => ?_⟩
    · rw [h2.len] at w
      rw [cut_whole w] at q
      exact q _ H (Same.refl H) h3
    · obtain ⟨S0, dq⟩ := new_tup (cut_all h2 lo hi) (Nat.le_trans (cut_len ds lo hi) z) ho hp
      exact q _ _ S0 dq

/-! ### calls -/
theorem all1 {K : PySem.W.Frag} {P : Addr → Prop} {H : Hp} {xs : List V} {d : PyData} (h : DtAll K P H xs [d]) : ∃ x, xs = [x] ∧ Dt K P H x d := by
  cases h with
  | cons a b => cases b; exact ⟨_, rfl, a⟩
theorem all2 {K : PySem.W.Frag} {P : Addr → Prop} {H : Hp} {xs : List V} {d e : PyData} (h : DtAll K P H xs [d, e]) : ∃ x y, xs = [x, y] ∧ Dt K P H x d ∧ Dt K P H y e := by
  cases h with
  | cons a b => cases b with
    | cons c d => cases d; exact ⟨_, _, rfl, a, c⟩
theorem fc_len : FCall X (.builtin "len") fLen := by
  intro pins s σ H xs us Q I rx ⟨P, ds, r, hf, hd, eg, q⟩
  match ds, hd, eg with
  | [.list es], hd, eg =>
    cases eg
    obtain ⟨x, rfl, hx⟩ := all1 hd
    obtain ⟨a, ys, rfl, h1, h2⟩ := hx.lst_inv
    exact call_len_seq pins s σ H _ us Q I rx ⟨a, ys, rfl, .inl h1.seq, by rw [h2.len]; exact q _ H (Same.refl H) (.int _)⟩
  | [.tuple es], hd, eg =>
    cases eg
    obtain ⟨x, rfl, hx⟩ := all1 hd
    obtain ⟨a, ys, rfl, h1, h2, _⟩ := hx.tup_inv
    exact call_len_seq pins s σ H _ us Q I rx ⟨a, ys, rfl, .inr h1, by rw [h2.len]; exact q _ H (Same.refl H) (.int _)⟩
theorem fc_tuple : FCall X (.type "tuple") fTuple := by
  intro pins s σ H xs us Q I rx ⟨P, ds, r, hf, hd, eg, q⟩
  match ds, hd, eg with
  | [.list es], hd, eg =>
    cases eg
    obtain ⟨x, rfl, hx⟩ := all1 hd
    obtain ⟨a, ys, rfl, h1, h2⟩ := hx.lst_inv
    refine call_tupleN pins s σ H _ us Q I rx ⟨a, ys, rfl, .inl ⟨h1.seq, fun p o ho hp => ?_⟩⟩
    obtain ⟨S0, dq⟩ := new_tup h2 (I.dqZ h1 h2) ho hp
    exact q _ _ S0 dq
  | [.tuple es], hd, eg =>
    cases eg
    obtain ⟨x, rfl, hx⟩ := all1 hd
    obtain ⟨a, ys, rfl, h1, h2, _, h3⟩ := hx.tup_inv
    exact call_tuple_of pins s σ H _ us Q I rx ⟨a, ys, rfl, .inr ⟨h1, q _ H (Same.refl H) h3⟩⟩
theorem fc_list : FCall X (.type "list") fList := by
  intro pins s σ H xs us Q I rx ⟨P, ds, r, hf, hd, eg, q⟩
  match ds, hd, eg with
  | [.list es], hd, eg =>
    cases eg
    obtain ⟨x, rfl, hx⟩ := all1 hd
    obtain ⟨a, ys, rfl, h1, h2⟩ := hx.lst_inv
    refine call_list_of pins s σ H _ us Q I rx ⟨a, ys, rfl, .inl h1.seq, fun p hp => ?_⟩
    obtain ⟨S0, dq⟩ := new_lst h2 (I.dqZ h1 h2) hf hp
    exact q _ _ S0 dq
  | [.tuple es], hd, eg =>
    cases eg
    obtain ⟨x, rfl, hx⟩ := all1 hd
    obtain ⟨a, ys, rfl, h1, h2, z, _⟩ := hx.tup_inv
    refine call_list_of pins s σ H _ us Q I rx ⟨a, ys, rfl, .inr h1, fun p hp => ?_⟩
    obtain ⟨S0, dq⟩ := new_lst h2 z hf hp
    exact q _ _ S0 dq
theorem fc_abs : FCall X (.builtin "abs") fAbs := by
  intro pins s σ H xs us Q I rx ⟨P, ds, r, hf, hd, eg, q⟩
  match ds, hd, eg with
  | [.int i], hd, eg =>
    cases eg
    obtain ⟨x, rfl, hx⟩ := all1 hd
    have := hx.int_inv; subst this
    exact call_abs pins s σ H _ us Q I rx ⟨i, rfl, q _ H (Same.refl H) (.int _)⟩
theorem fc_int : FCall X (.type "int") fInt := by
  intro pins s σ H xs us Q I rx ⟨P, ds, r, hf, hd, eg, q⟩
  match ds, hd, eg with
  | [.int i], hd, eg =>
    cases eg
    obtain ⟨x, rfl, hx⟩ := all1 hd
    have := hx.int_inv; subst this
    exact call_int1 pins s σ H _ us Q I rx (.inl ⟨i, rfl, q _ H (Same.refl H) (.int _)⟩)
  | [.bool b], hd, eg =>
    cases eg
    obtain ⟨x, rfl, hx⟩ := all1 hd
    have := hx.bl_inv; subst this
    exact call_int1 pins s σ H _ us Q I rx (.inr ⟨b, rfl, q _ H (Same.refl H) (.int _)⟩)
theorem fc_any (hc : X.calm = true := by rfl) : FCall X (.builtin "any") fAny := by
  intro pins s σ H xs us Q I rx ⟨P, ds, r, hf, hd, eg, q⟩
  match ds, hd, eg with
  | [.list es], hd, eg =>
    simp only [fAny, Option.map_eq_some_iff] at eg
    obtain ⟨bs, e1, rfl⟩ := eg
    obtain ⟨x, rfl, hx⟩ := all1 hd
    obtain ⟨a, ys, rfl, h1, h2⟩ := hx.lst_inv
    exact cr_any hc pins s σ H _ us Q I rx ⟨a, bs, rfl, by rw [← h2.bls e1]; exact h1.seq, q _ H (Same.refl H) (.bl _)⟩
theorem fc_all (hc : X.calm = true := by rfl) : FCall X (.builtin "all") fAll := by
  intro pins s σ H xs us Q I rx ⟨P, ds, r, hf, hd, eg, q⟩
  match ds, hd, eg with
  | [.list es], hd, eg =>
    simp only [fAll, Option.map_eq_some_iff] at eg
    obtain ⟨bs, e1, rfl⟩ := eg
    obtain ⟨x, rfl, hx⟩ := all1 hd
    obtain ⟨a, ys, rfl, h1, h2⟩ := hx.lst_inv
    exact cr_all hc pins s σ H _ us Q I rx ⟨a, bs, rfl, by rw [← h2.bls e1]; exact h1.seq, q _ H (Same.refl H) (.bl _)⟩
theorem fc_repr (hu : X.A.units + 65 < cLine) (hg : X.A.guards = some []) : FCall X (.builtin "repr") fRepr := by
  intro pins s σ H xs us Q I rx ⟨P, ds, r, hf, hd, eg, q⟩
  have core : ∀ {d : PyData} {a : Addr}, Dt X.K P H (.ref a) d → ReprOk d → xs = [.ref a] → (∀ v H', Same H H' → Dq X.K P H' v (.str d.shown) → Q v H') → wpAny (model X.prog X.w) X.A (call (.builtin "repr") us) (EP X pins σ Q) X.xe s := by
    intro d a hx ok hxs q
    subst hxs
    obtain ⟨u, rfl, ru⟩ := vals1 rx
    obtain ⟨as, rd, hsm⟩ := Dt.reads I hx ru
    cases ru
    obtain ⟨h2, h3, h4⟩ := ok
    exact repr_of_reads' rd h2 (fun h => hsm (hx.sysH h)) hg (by omega) (fun _ _ e => e) (fun h' t tk hk => ⟨.str _, H, I.kept hk, ⟨_, rfl⟩, q _ H (Same.refl H) (.str _)⟩) h4
  match ds, hd, eg with
  | [.list es], hd, eg =>
    simp only [fRepr] at eg
    split at eg
    · rename_i ok
      cases eg
      obtain ⟨x, rfl, hx⟩ := all1 hd
      obtain ⟨a, ys, rfl, _, _⟩ := hx.lst_inv
      exact core hx ok rfl q
    · cases eg
  | [.tuple es], hd, eg =>
    simp only [fRepr] at eg
    split at eg
    · rename_i ok
      cases eg
      obtain ⟨x, rfl, hx⟩ := all1 hd
      obtain ⟨a, ys, rfl, _⟩ := hx.tup_inv
      exact core hx ok rfl q
    · cases eg
  | [.int i], hd, eg =>
    simp only [fRepr] at eg
    split at eg
    · rename_i ok
      cases eg
      obtain ⟨x, rfl, hx⟩ := all1 hd
      have := hx.int_inv; subst this
      obtain ⟨u, rfl, t, rfl⟩ := vals1 rx
      have h2 : i.natAbs.log2 < 1920 := by simpa [PyData.showable] using ok.1
      refine PySem.P.repr_of_int h2 ⟨.str _, H, I.tok _, ⟨_, rfl⟩, ?_⟩
      have := q _ H (Same.refl H) (.str _)
      rw [PyData.shown_int] at this
      exact this
    · cases eg
  | [.dict kvs], hd, eg =>
    simp only [fRepr] at eg
    split at eg
    · rename_i ok
      cases eg
      obtain ⟨x, rfl, hx⟩ := all1 hd
      obtain ⟨a, rfl⟩ : ∃ a, x = .ref a := by
        rcases hx with hx | ⟨_, _, _, _, _, _, q⟩
        · cases hx with
          | dct => exact ⟨_, rfl⟩
        · cases q
      exact core hx ok rfl q
    · cases eg
  | [.str y], hd, eg =>
    simp only [fRepr] at eg
    split at eg
    · rename_i ok
      cases eg
      obtain ⟨x, rfl, hx⟩ := all1 hd
      have := hx.str_inv; subst this
      obtain ⟨u, rfl, t, rfl⟩ := vals1 rx
      have h2 : (reprText y).length ≤ sizeLine := by have := ok.2.2; simpa [PyData.shown] using this
      refine PySem.P.repr_of_str ⟨.str _, H, I.tok _, ⟨_, rfl⟩, ?_⟩ h2
      have := q _ H (Same.refl H) (.str _)
      simpa [PyData.shown] using this
    · cases eg
  | [.bool b], hd, eg =>
    simp only [fRepr] at eg
    cases eg
    obtain ⟨x, rfl, hx⟩ := all1 hd
    have := hx.bl_inv; subst this
    obtain ⟨u, rfl, ru⟩ := vals1 rx
    cases (show u = Value.bool b from ru)
    refine PySem.P.repr_of_bool ⟨.str _, H, I.tok _, ⟨_, rfl⟩, ?_⟩
    have := q _ H (Same.refl H) (.str _)
    simpa [PyData.shown] using this
  | [.none], hd, eg =>
    simp only [fRepr] at eg
    cases eg
    obtain ⟨x, rfl, hx⟩ := all1 hd
    have := hx.non_inv; subst this
    obtain ⟨u, rfl, ru⟩ := vals1 rx
    cases (show u = Value.none from ru)
    refine PySem.P.repr_of_none ⟨.str _, H, I.tok _, ⟨_, rfl⟩, ?_⟩
    have := q _ H (Same.refl H) (.str _)
    simpa [PyData.shown] using this
end

/-! ### sums, greatest and least items -/
section
variable {prog : Program} {w : World} {A : Around} {E : Value → Shared → Prop} {s : Shared} {a : Addr} {its : List Value} {ns : List Int} {Q : Value → Shared → Prop}
theorem iter_tup {Q : Value → Shared → Prop} (hl : s.heap.IsTuple a its.toArray)
    (h : ∀ s₂ : Shared, s₂ = { s with heap := s.heap.push { cls := .type "tuple_iterator", data := .fields #[.ref a, .int 0 0] } } →
      (s₂.heap.IsTupleIter s.heap.objs.size a 0 ∧ s₂.heap.IsTuple a its.toArray) → (∀ b ∈ [s.heap.objs.size, a], b < s₂.heap.objs.size) → a ≠ s.heap.objs.size → Q (.ref s.heap.objs.size) s₂) : wpAny (model prog w) A (pyIter (.ref a)) Q E s := by
  have hlt : a < s.heap.objs.size := by obtain ⟨_, e, _⟩ := hl; exact Heap.lt_size e
  refine wpAny_pyIter_tuple hl (h _ rfl ⟨⟨_, Heap.get?_push_size _ rfl, rfl, rfl⟩, ?_⟩ (fun b hb => ?_) (Nat.ne_of_lt hlt))
  · obtain ⟨o, e, r⟩ := hl
    exact ⟨o, Heap.get?_push_of_some _ e, r⟩
  · show b < (s.heap.push _).objs.size
    rw [Heap.size_push]
    simp only [List.mem_cons, List.not_mem_nil, or_false] at hb
    rcases hb with e | e
    · rw [e]; exact Nat.lt_succ_self _
    · rw [e]; exact Nat.lt_succ_of_lt hlt
theorem kept_it {h' : Heap} {o0 : Obj} (hk : ∀ b o, b ∉ [s.heap.objs.size] → (s.heap.push o0).get? b = some o → h'.get? b = some o) : ∀ b o, s.heap.get? b = some o → h'.get? b = some o := fun b o e => by
  refine hk b o (fun hm => ?_) (Heap.get?_push_of_some _ e)
  simp only [List.mem_cons, List.not_mem_nil, or_false] at hm
  exact absurd (hm ▸ Heap.lt_size e) (Nat.lt_irrefl _)
theorem ints_at (hi : IntsAre its ns) {i : Nat} {v : Value} (h : its.toArray[i]? = some v) : ∃ t, v = .int (ns.getD i 0) t := by
  have h' : its[i]? = some v := by simpa using h
  clear h
  induction hi generalizing i with
  | nil => simp at h'
  | cons n t _ ih =>
    cases i with
    | zero => simp at h'; subst h'; exact ⟨t, rfl⟩
    | succ i => exact ih (by simpa using h')
theorem pre_sum : ∀ (ns : List Int), preSum (fun i => ns.getD i 0) ns.length = ns.sum := by
  intro ns
  have gen : ∀ k, k ≤ ns.length → preSum (fun i => ns.getD i 0) k = (ns.take k).sum := by
    intro k
    induction k with
    | zero => intro _; rfl
    | succ k ih =>
      intro h
      have hk : k < ns.length := by omega
      show preSum _ k + _ = _
      rw [ih (by omega), List.take_add_one, List.getElem?_eq_getElem hk, List.sum_append]
      simp [List.getD_eq_getElem?_getD, List.getElem?_eq_getElem hk]
  rw [gen _ (Nat.le_refl _), List.take_length]
theorem sum_tup (hh : A.handled = none) (hl : s.heap.IsTuple a its.toArray) (hi : IntsAre its ns)
    (h : ∀ h' tk t', (∀ b o, s.heap.get? b = some o → h'.get? b = some o) → Q (.int ns.sum t') { s with heap := h', toks := tk }) : wpAny (model prog w) A (call (.builtin "sum") [.ref a]) Q E s := by
  refine call_sum_walkG (iter_tup hl fun s₂ e st hfp hne => ?_)
  subst e
  refine ⟨_, _, _, _, _, _, fun i => ns.getD i 0, rfl, Walks.tuple (A := A.in1) hh _ a hne its.toArray, st, hfp, (fun _ _ h => ints_at hi h), fun h' tk t' hk => ?_⟩
  have := h h' tk t' (kept_it hk)
  rw [← pre_sum ns, ← hi.length] at this
  simpa using this
end
end Fz

set_option linter.all false
set_option autoImplicit false
set_option maxRecDepth 100000
/-! FzD: dicts of the memory whose keys are tuples (of None, whole numbers, such tuples). -/
namespace Fz
open PySem PySem.Spec PyProof.Rows L2

mutual
theorem nh_eq (w : World) : ∀ {d : PyData} {k : NestedKey}, nkey d = some k → k.hash w = nh k
  | .none, k, h => by cases h; simp only [NestedKey.hash, nh]
  | .int i, k, h => by cases h; simp only [NestedKey.hash, nh]
  | .tuple ds, k, h => by
    simp only [nkey, Option.map_eq_some_iff] at h
    obtain ⟨ks, h1, rfl⟩ := h
    simp only [NestedKey.hash, nh, nhs_eq w h1]
  | .bool _, k, h => by simp [nkey] at h
  | .str _, k, h => by simp [nkey] at h
  | .list _, k, h => by simp [nkey] at h
  | .dict _, k, h => by simp [nkey] at h
theorem nhs_eq (w : World) : ∀ {ds : List PyData} {ks : List NestedKey}, nkeys ds = some ks → NestedKey.hashes w ks = nhs ks
  | [], ks, h => by simp only [nkeys] at h; cases h; simp only [NestedKey.hashes, nhs]
  | d :: ds, ks, h => by
    simp only [nkeys] at h
    split at h
    · rename_i k ks' h1 h2
      cases h
      simp only [NestedKey.hashes, nhs, nh_eq w h1, nhs_eq w h2]
    · cases h
end
theorem keyOf_nkey {d : PyData} {k : NestedKey} (h : keyOf d = some k) : nkey d = some k ∧ k.depth ≤ 8 := by
  cases d <;> try (cases h; done)
  rename_i ds
  simp only [keyOf] at h
  split at h
  · rename_i ks h1
    split at h
    · rename_i hz; cases h; exact ⟨by simp only [nkey, h1, Option.map_some], hz⟩
    · cases h
  · cases h

section
variable {X : Cx} {pins : List (Addr × Obj)} {σ : L2.St} {H : Hp} {s : Shared} {P : Addr → Prop}
mutual
theorem Dq.key (I : Inv X pins σ H s) : ∀ {v : V} {d : PyData} {k : NestedKey} {u : Value}, Dq X.K P H v d → nkey d = some k → RelV v u → NestedIs s.heap k u
  | _, _, k, u, .non, h, r => by cases h; cases (show u = Value.none from r); exact .none
  | _, _, k, u, .bl b, h, r => by simp [nkey] at h
  | _, _, k, u, .int i, h, r => by cases h; obtain ⟨t, rfl⟩ := (show ∃ t, u = Value.int i t from r); exact .int i t
  | _, _, k, u, .str x, h, r => by simp [nkey] at h
  | _, _, k, u, .lst _ _ _ _, h, r => by simp [nkey] at h
  | _, _, k, u, .lstK _ _ _, h, r => by simp [nkey] at h
  | _, _, k, u, .dct _ _ _ _, h, r => by simp [nkey] at h
  | _, _, k, u, .tup (a := a) h1 _ h2, h, r => by
    simp only [nkey, Option.map_eq_some_iff] at h
    obtain ⟨ks, h3, rfl⟩ := h
    cases (show u = Value.ref a from r)
    obtain ⟨its, rv, ⟨o, ho, hc, n, hd⟩, _⟩ := I.tuple h1.sq
    exact .tup ho hc hd (by simpa using DqAll.keys I h2 h3 rv)
theorem DqAll.keys (I : Inv X pins σ H s) : ∀ {vs : List V} {ds : List PyData} {ks : List NestedKey} {us : List Value}, DqAll X.K P H vs ds → nkeys ds = some ks → Vals vs us → NestedAll s.heap ks us
  | _, _, ks, us, .nil, h, r => by simp only [nkeys] at h; cases h; cases r; exact .nil
  | _, _, ks, us, .cons a b, h, r => by
    cases r with
    | cons r1 r2 =>
      simp only [nkeys] at h
      split at h
      · rename_i k ks' h1 h2
        cases h
        exact .cons (Dq.key I a h1 r1) (DqAll.keys I b h2 r2)
      · cases h
end
/-- a key that is handed in -/
def KyA (K : PySem.W.Frag) (P : Addr → Prop) (H : Hp) (b : Addr) (k : NestedKey) : Prop := ∃ d, Dq K P H (.ref b) d ∧ keyOf d = some k
theorem KyA.is (I : Inv X pins σ H s) {b : Addr} {k : NestedKey} (h : KyA X.K P H b k) : (nestedKind X.prog X.w).is s.heap k b :=
  let ⟨_, a, e⟩ := h; ⟨Dq.key I a (keyOf_nkey e).1 rfl, (keyOf_nkey e).2⟩
theorem KyA.hash {b : Addr} {k : NestedKey} {K : PySem.W.Frag} (h : KyA K P H b k) (w : World) : k.hash w = nh k := let ⟨_, _, e⟩ := h; nh_eq w (keyOf_nkey e).1
theorem dn_of (I : Inv X pins σ H s) {a : Addr} {xs : List DEnt} (e : H a = some (DN a xs)) (hk : ∀ x ∈ xs, KyA X.K P H x.2.1 x.1) : xs.length ≤ sizeLine ∧ (a == sysModules) = false ∧ s.heap.DictOfH (nestedKind X.prog X.w) a xs := by
  obtain ⟨⟨hz, hm, hn, o, es, ep, h1, h2, h3, h4⟩, _⟩ := I.hok a _ e
  refine ⟨hz, hm, o, es, ep, h1, h2, h3, ?_, fun x hx => (hk x hx).is I, hn⟩
  rw [h4]
  exact List.map_congr_left fun x hx => by
    show (⟨nh x.1, _, _⟩ : DictEntry) = ⟨x.1.hash X.w, _, _⟩
    rw [(hk x hx).hash]
theorem dn_stay {a : Addr} {xs : List DEnt} {h1 h2 : Heap} (h : DRaw a xs h1) (k : ∀ o, h1.get? a = some o → h2.get? a = some o) : DRaw a xs h2 :=
  let ⟨z, m, n, o, es, ep, e, r⟩ := h; ⟨z, m, n, o, es, ep, k _ e, r⟩
theorem dn_ok {P : Program} {w : World} {H' : Hp} {h' : Heap} {a : Addr} {xs : List DEnt} (h : DRaw a xs h') : ObjOk P w H' h' a (DN a xs) :=
  ⟨h, (let ⟨_, _, _, o, _, _, e, _⟩ := h; ⟨o, e⟩), fun _ _ q k => dn_stay q k⟩
theorem dn_typeIs (I : Inv X pins σ H s) {a : Addr} {xs : List DEnt} (e : H a = some (DN a xs)) : s.TypeIs (.ref a) "dict" := by
  obtain ⟨⟨_, _, _, o, es, ep, h1, h2, _, _⟩, _⟩ := I.hok a _ e
  exact ⟨o, h1, h2.1⟩

variable {A : Around} {E : Value → Shared → Prop}
/-- d[k], there -/
theorem dn_getItem {Q : Value → Shared → Prop} {a b : Addr} {k : NestedKey} {xs : List DEnt} {p : Addr × Value} (hu : A.units + 10 < cLine) (I : Inv X pins σ H s) (e : H a = some (DN a xs)) (hk : ∀ x ∈ xs, KyA X.K P H x.2.1 x.1) (hb : KyA X.K P H b k) (hp : atKey xs k = some p)
    (h : ∀ s', Inv X pins σ H s' → Q p.2 s') : wpAny (model X.prog X.w) A (getItem (.ref a) (.ref b)) Q E s :=
  let ⟨_, _, hm⟩ := dn_of I e hk
  wpAny_getItem_heap (knd := nestedKind X.prog X.w) (by show A.in1.units + 8 < cLine; rw [Around.in1_units]; omega) (hb.is I) hm hp (h _ (I.tok _))
theorem dn_in {Q : Value → Shared → Prop} {a b : Addr} {k : NestedKey} {xs : List DEnt} (hu : A.units + 10 < cLine) (I : Inv X pins σ H s) (e : H a = some (DN a xs)) (hk : ∀ x ∈ xs, KyA X.K P H x.2.1 x.1) (hb : KyA X.K P H b k)
    (h : ∀ s', Inv X pins σ H s' → Q (.bool (atKey xs k).isSome) s') : wpAny (model X.prog X.w) A (compareOp .In (.ref b) (.ref a)) Q E s :=
  let ⟨_, hd, hm⟩ := dn_of I e hk
  wpAny_in_heap (knd := nestedKind X.prog X.w) (by show A.in1.units + 8 < cLine; rw [Around.in1_units]; omega) (hb.is I) hd hm (h _ (I.tok _))
theorem dn_notIn {Q : Value → Shared → Prop} {a b : Addr} {k : NestedKey} {xs : List DEnt} (hu : A.units + 10 < cLine) (I : Inv X pins σ H s) (e : H a = some (DN a xs)) (hk : ∀ x ∈ xs, KyA X.K P H x.2.1 x.1) (hb : KyA X.K P H b k)
    (h : ∀ s', Inv X pins σ H s' → Q (.bool (!(atKey xs k).isSome)) s') : wpAny (model X.prog X.w) A (compareOp .NotIn (.ref b) (.ref a)) Q E s :=
  let ⟨_, hd, hm⟩ := dn_of I e hk
  wpAny_notIn_heap (knd := nestedKind X.prog X.w) (by show A.in1.units + 8 < cLine; rw [Around.in1_units]; omega) (hb.is I) hd hm (h _ (I.tok _))
theorem stored_keys {xs : List DEnt} {k : NestedKey} {b : Addr} {v : Value} {C : DEnt → Prop} (hk : ∀ x ∈ xs, ∀ v, C (x.1, x.2.1, v)) (hb : C (k, b, v)) : ∀ x ∈ storedH xs k b v, C x := fun x hx => by
  unfold storedH at hx
  split at hx
  · obtain ⟨y, hy, rfl⟩ := List.mem_map.mp hx
    unfold putAt
    split
    · exact hk y hy v
    · exact hk y hy y.2.2
  · rcases List.mem_append.mp hx with hy | hy
    · exact hk x hy x.2.2
    · cases List.mem_singleton.mp hy; exact hb
/-- d[k] = v -/
theorem dn_setItem {Q : Unit → Shared → Prop} {a b : Addr} {k : NestedKey} {xs : List DEnt} {r : Value} (hu : A.units + 10 < cLine) (I : Inv X pins σ H s) (e : H a = some (DN a xs)) (hk : ∀ x ∈ xs, KyA X.K P H x.2.1 x.1) (hb : KyA X.K P H b k) (hz : xs.length < sizeLine)
    (h : ∀ s', Inv X pins σ (upd H a (DN a (storedH xs k b r))) s' → Q () s') : wpAny (model X.prog X.w) A (setItem (.ref a) (.ref b) r) Q E s := by
  obtain ⟨hz0, hd, hm⟩ := dn_of I e hk
  refine wpAny_setItem_heap (hsz := hz0) (knd := nestedKind X.prog X.w) (by show A.in1.units + 8 < cLine; rw [Around.in1_units]; omega) (hb.is I) hm fun h' dd' hs => h _ ?_
  obtain ⟨q, es, ep, hq, h2, h3, h4, _, h5⟩ := dd'
  refine d_write I (by rw [e]; exact True.intro) hs ⟨q, hq⟩ (dn_ok ⟨?_, hd, h5, q, es, ep, hq, h2, h3, ?_⟩)
  · unfold storedH
    split
    · rw [List.length_map]; omega
    · rw [List.length_append, List.length_singleton]; omega
  · rw [h4]
    refine List.map_congr_left fun x hx => ?_
    have hh : x.1.hash X.w = nh x.1 := stored_keys (C := fun x => x.1.hash X.w = nh x.1) (fun y hy _ => (hk y hy).hash _) (hb.hash _) x hx
    show (⟨x.1.hash X.w, _, _⟩ : DictEntry) = ⟨nh x.1, _, _⟩
    rw [hh]
end

/-! ### expressions -/
def DNk (K : PySem.W.Frag) (H : Hp) (a : Addr) (xs : List DEnt) (b : Addr) (k : NestedKey) : Prop := ∃ P, H a = some (DN a xs) ∧ (∀ x ∈ xs, KyA K P H x.2.1 x.1) ∧ KyA K P H b k
def tNGet (K : PySem.W.Frag) (td ty : TE) : TE := fun σ H Q => td σ H fun x H1 => ty σ H1 fun y H2 => ∃ a xs b k p v, x = .ref a ∧ y = .ref b ∧ DNk K H2 a xs b k ∧ atKey xs k = some p ∧ RelV v p.2 ∧ Q v H2
def tNIn (K : PySem.W.Frag) (ty td : TE) : TE := fun σ H Q => ty σ H fun y H1 => td σ H1 fun x H2 => ∃ a xs b k, x = .ref a ∧ y = .ref b ∧ DNk K H2 a xs b k ∧ Q (.bl (atKey xs k).isSome) H2
def tNNotIn (K : PySem.W.Frag) (ty td : TE) : TE := fun σ H Q => ty σ H fun y H1 => td σ H1 fun x H2 => ∃ a xs b k, x = .ref a ∧ y = .ref b ∧ DNk K H2 a xs b k ∧ Q (.bl (!(atKey xs k).isSome)) H2
def sNPut (K : PySem.W.Frag) (td ty tv : TE) : TS := fun D σ H => tv σ H fun v H1 => td σ H1 fun x H2 => ty σ H2 fun y H3 => ∃ a xs b k, x = .ref a ∧ y = .ref b ∧ DNk K H3 a xs b k ∧ xs.length < sizeLine ∧ ∀ r, RelV v r → D.nx σ (upd H3 a (DN a (storedH xs k b r)))
section
variable {X : Cx} {o i e value : Expr} {pos pos' tpos : Pos} {td ty tv : TE}
theorem pe_nget (hu : X.A.units + 11 < cLine) (ho : PE X o td) (hi : PE X i ty) (hs : NoSl i) : PE X (.Subscript o i pos) (tNGet X.K td ty) := by
  refine ⟨fun pins s σ H Q I h => ?_⟩
  refine subD_of PySem.F.slot_dict_getitem.lookup hs (thn (ho.run pins s σ H _ I h) fun u s1 ⟨x, H1, I1, rx, q1⟩ => thn (hi.run pins s1 σ H1 _ I1 q1) fun iv s2 ⟨y, H2, I2, ry, a, xs, b, k, p, v, ex, ey, ⟨P, e, hk, hb⟩, hp, rv, q2⟩ => ?_)
  subst ex ey
  obtain rfl : u = Value.ref a := rx
  obtain rfl : iv = Value.ref b := ry
  exact ⟨dn_typeIs I2 e, dn_getItem (by omega) I2 e hk hb hp fun s3 I3 => ⟨v, H2, I3, rv, q2⟩⟩
theorem pc_nin (hu : X.A.units + 11 < cLine) (hi : PE X i ty) (ho : PE X o td) : PC X .In i o (tNIn X.K ty td) := by
  refine ⟨fun pins s σ H Q I h => ?_⟩
  refine thn (hi.run pins s σ H _ I h) fun iv s1 ⟨y, H1, I1, ry, q1⟩ => thn (ho.run pins s1 σ H1 _ I1 q1) fun u s2 ⟨x, H2, I2, rx, a, xs, b, k, ex, ey, ⟨P, e, hk, hb⟩, q2⟩ => ?_
  subst ex ey
  obtain rfl : u = Value.ref a := rx
  obtain rfl : iv = Value.ref b := ry
  exact dn_in (by omega) I2 e hk hb fun s3 I3 => ⟨.bl _, H2, I3, rfl, q2⟩
theorem pc_nnotin (hu : X.A.units + 11 < cLine) (hi : PE X i ty) (ho : PE X o td) : PC X .NotIn i o (tNNotIn X.K ty td) := by
  refine ⟨fun pins s σ H Q I h => ?_⟩
  refine thn (hi.run pins s σ H _ I h) fun iv s1 ⟨y, H1, I1, ry, q1⟩ => thn (ho.run pins s1 σ H1 _ I1 q1) fun u s2 ⟨x, H2, I2, rx, a, xs, b, k, ex, ey, ⟨P, e, hk, hb⟩, q2⟩ => ?_
  subst ex ey
  obtain rfl : u = Value.ref a := rx
  obtain rfl : iv = Value.ref b := ry
  exact dn_notIn (by omega) I2 e hk hb fun s3 I3 => ⟨.bl _, H2, I3, rfl, q2⟩
theorem ps_nput (hu : X.A.units + 11 < cLine) (ho : PE X o td) (hi : PE X i ty) (hv : PE X value tv) (hs : swapsWith value (some (.Subscript o i pos')) pos.line X.env = pure false) :
    PS X (.Assign [.Subscript o i pos'] value pos) (sNPut X.K td ty tv) := by
  refine ⟨fun pins s σ H D I h => ?_⟩
  refine wpAny_Assign_Subscript (thn (hv.run pins s σ H _ I h) fun r s1 ⟨v, H1, I1, rv, q1⟩ => thn (ho.run pins s1 σ H1 _ I1 q1) fun u s2 ⟨x, H2, I2, rx, q2⟩ => thn (hi.run pins s2 σ H2 _ I2 q2) fun iv s3 ⟨y, H3, I3, ry, a, xs, b, k, ex, ey, ⟨P, e, hk, hb⟩, hz, q3⟩ => ?_) hs
  subst ex ey
  obtain rfl : u = Value.ref a := rx
  obtain rfl : iv = Value.ref b := ry
  exact dn_setItem (by omega) I3 e hk hb hz fun s4 I4 => ⟨σ, _, I4, q3 r rv⟩
theorem dn_empty {P : Program} {w : World} {H : Hp} (h : Heap) (hb : sysModules < h.objs.size) : ObjOk P w H (h.push { cls := .type "dict", data := .dict #[] }) h.objs.size (DN h.objs.size []) :=
  dn_ok ⟨Nat.zero_le _, beq_eq_false_iff_ne.mpr (Ne.symm (Nat.ne_of_lt hb)), List.nodup_nil, _, #[], 0, Heap.get?_push_size _ rfl, ⟨rfl, rfl, rfl⟩, rfl, rfl⟩
def tNNew : TE := fun _ H Q => ∀ p, H p = none → Q (.ref p) (upd H p (DN p []))
theorem pe_nnew : PE X (.Dict [] [] pos) tNNew := ⟨fun pins s σ H Q I h =>
  wpAny_Dict_empty ⟨.ref s.heap.objs.size, _, I.laid (a := s.heap.objs.size) (o := DN s.heap.objs.size []) (t' := s.toks) (fun _ _ q => Heap.get?_push_of_some _ q) (Nat.le_refl _) (dn_empty s.heap I.big), rfl, h _ (I.hok.fresh (Nat.le_refl _))⟩⟩
end

/-! ### readings -/
section
variable {K : PySem.W.Frag} {w : Wo} {H : Hp}
theorem TSV.ky : ∀ {xs : List DEnt} {kvs : List (NestedKey × S)}, TSV K w H xs kvs → ∀ x ∈ xs, KyA K w.P H x.2.1 x.1
  | _, _, .nil, x, h => by simp at h
  | _, _, .cons a b, x, h => by
    rcases List.mem_cons.mp h with rfl | h
    · exact a.2.1
    · exact TSV.ky b x h
theorem atKey_c {x : DEnt} {xs : List DEnt} {k : NestedKey} : atKey (x :: xs) k = if x.1 = k then some x.2 else atKey xs k := by
  unfold atKey
  rw [List.find?_cons]
  by_cases h : x.1 = k
  · rw [if_pos h, decide_eq_true h]; rfl
  · rw [if_neg h, decide_eq_false h]
theorem TSV.get : ∀ {xs : List DEnt} {kvs : List (NestedKey × S)}, TSV K w H xs kvs → ∀ {k : NestedKey} {s : S}, getT k kvs = some s → ∃ p v, atKey xs k = some p ∧ RelV v p.2 ∧ SV K w H v s
  | _, _, .nil, k, s, h => by cases h
  | x :: xs, (k', s') :: kvs, .cons a b, k, s, h => by
    obtain ⟨e, _, v, r1, r2⟩ := a
    simp only [getT] at h
    rw [atKey_c, e]
    split at h
    · rename_i hk
      cases h
      rw [if_pos hk]
      exact ⟨_, v, rfl, r1, r2⟩
    · rename_i hk
      rw [if_neg hk]
      exact TSV.get b h
theorem TSV.isSome : ∀ {xs : List DEnt} {kvs : List (NestedKey × S)}, TSV K w H xs kvs → ∀ (k : NestedKey), (atKey xs k).isSome = (getT k kvs).isSome
  | _, _, .nil, k => rfl
  | x :: xs, (k', s') :: kvs, .cons a b, k => by
    rw [atKey_c, a.1]
    simp only [getT]
    split
    · rfl
    · exact TSV.isSome b k
theorem TSV.mapSet : ∀ {xs : List DEnt} {kvs : List (NestedKey × S)}, TSV K w H xs kvs → ∀ (k : NestedKey) {v : V} {r : Value} {s : S}, RelV v r → SV K w H v s → TSV K w H (xs.map (putAt k r)) (kvs.map fun p => if p.1 = k then (p.1, s) else p)
  | _, _, .nil, k, v, r, s, _, _ => .nil
  | x :: xs, p :: kvs, .cons a b, k, v, r, s, rv, h => by
    refine .cons ?_ (TSV.mapSet b k rv h)
    unfold putAt
    show _ = (if p.1 = k then (p.1, s) else p).1 ∧ _ ∧ ∃ v, _ ∧ SV K w H v (if p.1 = k then (p.1, s) else p).2
    rw [a.1]
    by_cases hk : p.1 = k
    · rw [if_pos hk, if_pos hk]; exact ⟨rfl, (let ⟨d, q1, q2⟩ := a.2.1; ⟨d, q1, by rw [← a.1]; exact q2⟩), v, rv, h⟩
    · rw [if_neg hk, if_neg hk]; exact a
theorem TSV.put {xs : List DEnt} {kvs : List (NestedKey × S)} (h : TSV K w H xs kvs) {k : NestedKey} {b : Addr} {v : V} {r : Value} {s : S} (hb : KyA K w.P H b k) (rv : RelV v r) (hs : SV K w H v s) : TSV K w H (storedH xs k b r) (setT k s kvs) := by
  unfold storedH setT
  rw [h.isSome k]
  split
  · exact h.mapSet k rv hs
  · exact Paired.snoc h ⟨rfl, hb, v, rv, hs⟩
theorem Dt.key {v : V} {d : PyData} {k : NestedKey} {P : Addr → Prop} (h : Dt K P H v d) (e : keyOf d = some k) : ∃ b, v = .ref b ∧ KyA K P H b k := by
  rcases h with h | ⟨a, xs, ds, rfl, h1, h2, rfl⟩
  · cases d <;> try (cases e; done)
    obtain ⟨a, xs, rfl, _⟩ := Dq.tup_inv h
    exact ⟨a, rfl, _, h, e⟩
  · cases e
end
/-- a new dict whose keys are tuples -/
def eDnT : RE := fun _ m => some (.r m.length, m ++ [.dcT []])
def isSomeT (m : Mem) : S → PyData → Option Bool
  | .r n, d => match m[n]? with
    | some (.dcT kvs) => (keyOf d).map fun k => (getT k kvs).isSome
    | _ => none
  | _, _ => none
/-- key in d -/
def eInT (b : Bool) (x y : RE) : RE := fun l m => (x l m).bind fun p => (y l p.2).bind fun q => (deref q.2 p.1).bind fun d => (isSomeT q.2 q.1 d).map fun c => (.d (.bool (c == b)), q.2)
section
variable {X : Cx} {a b : Expr} {fa fb : RE} {pos : Pos}
theorem fe_dnT : FE X (.Dict [] [] pos) eDnT := PE.imp pe_nnew fun σ H Q ⟨w, l, s, m', W, L, e, k⟩ => by
  cases e
  intro p hp
  exact k (w.push p (.dcT [])) _ _ rfl (push_ex W hp) (push_wd W hp (fun _ e => by cases e) (fun _ e => by cases e) (fun _ e => by cases e) (fun kvs e => by cases e; exact ⟨[], rfl, .nil⟩)) ⟨by simp [Wo.push], congrArg V.ref (push_al' (w := w) (p := p) (mo := .dcT [])).symm⟩
theorem isSomeT_inv {m : Mem} {s : S} {d : PyData} {c : Bool} (h : isSomeT m s d = some c) : ∃ n kvs k, s = .r n ∧ m[n]? = some (.dcT kvs) ∧ keyOf d = some k ∧ c = (getT k kvs).isSome := by
  cases s with
  | d x => cases h
  | r n =>
    simp only [isSomeT] at h
    cases q : m[n]? with
    | none => rw [q] at h; cases h
    | some o =>
      rw [q] at h
      cases o with
      | dcT kvs =>
        have h : (keyOf d).map (fun k => (getT k kvs).isSome) = some c := h
        rw [Option.map_eq_some_iff] at h
        obtain ⟨k, h1, rfl⟩ := h
        exact ⟨n, kvs, k, rfl, q, h1, rfl⟩
      | lst _ => cases h
      | frz _ => cases h
      | dct _ => cases h
theorem inT_go {K : PySem.W.Frag} {bb : Bool} {σ : L2.St} {H : Hp} {Q : VK} (h : tF K (eInT bb fa fb) σ H Q) : tF K fa σ H fun y H1 => tF K fb σ H1 fun x H2 => ∃ a xs b k, x = .ref a ∧ y = .ref b ∧ DNk K H2 a xs b k ∧ Q (.bl ((atKey xs k).isSome == bb)) H2 := by
  obtain ⟨w, l, s, m', W, L, e, k⟩ := h
  simp only [eInT, Option.bind_eq_some_iff, Option.map_eq_some_iff, Prod.mk.injEq] at e
  obtain ⟨p, e1, q, e2, d, e3, c, e4, rfl, rfl⟩ := e
  obtain ⟨n, kvs, kk, e5, e6, e7, rfl⟩ := isSomeT_inv e4
  refine goF W L e1 fun w1 H1 v1 c1 E1 W1 L1 s1 => goF W1 L1 (by rw [c1]; exact e2) fun w2 H2 v2 c2 E2 W2 L2 s2 => ?_
  rw [e5] at s2
  obtain ⟨hn, rfl⟩ := s2
  obtain ⟨b, rfl, hb⟩ := Dt.key ((s1.go W1 E2).deref W2 (by rw [c2]; exact e3)) e7
  obtain ⟨xs, h1, h2⟩ := W2.dcT n kvs (by rw [c2]; exact e6)
  refine ⟨_, xs, b, kk, rfl, rfl, ⟨w2.P, h1, h2.ky, hb⟩, ?_⟩
  rw [h2.isSome]
  exact k w2 H2 _ c2 (E1.trans E2) W2 (.bl _)
theorem fe_inT (hu : X.A.units + 11 < cLine) (ha : FE X a fa) (hb : FE X b fb) (hm : behindInMarks .In b = false := by rfl) : FE X (.Compare a [.In] [b] pos) (eInT true fa fb) := PE.imp (pe_cmp (pc_nin hu ha hb) hm) fun σ H Q h => by
  have := inT_go h
  simp only [beq_true] at this
  exact this
theorem fe_notInT (hu : X.A.units + 11 < cLine) (ha : FE X a fa) (hb : FE X b fb) (hm : behindInMarks .NotIn b = false := by rfl) : FE X (.Compare a [.NotIn] [b] pos) (eInT false fa fb) := PE.imp (pe_cmp (pc_nnotin hu ha hb) hm) fun σ H Q h => by
  have := inT_go h
  simp only [beq_false] at this
  exact this
theorem ft_inT (hu : X.A.units + 11 < cLine) (ha : FE X a fa) (hb : FE X b fb) (hm : behindInMarks .In b = false := by rfl) : FT X (.Compare a [.In] [b] pos) (tB (eInT true fa fb)) := PT.imp (pt_cmp (pc_nin hu ha hb) hm) fun σ H Q h => tTest_of (fun Q h => by
  have := inT_go h
  simp only [beq_true] at this
  exact this) h
theorem ft_notInT (hu : X.A.units + 11 < cLine) (ha : FE X a fa) (hb : FE X b fb) (hm : behindInMarks .NotIn b = false := by rfl) : FT X (.Compare a [.NotIn] [b] pos) (tB (eInT false fa fb)) := PT.imp (pt_cmp (pc_nnotin hu ha hb) hm) fun σ H Q h => tTest_of (fun Q h => by
  have := inT_go h
  simp only [beq_false] at this
  exact this) h
end
end Fz

set_option linter.all false
set_option autoImplicit false
set_option maxRecDepth 100000
/-! FzS10: the memory's objects: read, written; dicts; methods of lists; several names at once. -/
namespace Fz
open PySem PySem.Spec PyProof.Rows L2

/-! ### keys -/
theorem kD_eqv (a b : Key) : PyData.eqv (kD a) (kD b) = decide (a = b) := by
  cases a <;> cases b
  · simp only [kD, PyData.eqv]; rw [← key_ll]
  · simp only [kD, PyData.eqv]; exact (key_lr _ _).symm
  · simp only [kD, PyData.eqv]; exact (key_rl _ _).symm
  · simp only [kD, PyData.eqv]; rw [key_rr]; exact Bool.beq_eq_decide_eq ..
section
variable {K : PySem.W.Frag} {w : Wo} {H : Hp}
theorem KSV.get : ∀ {kv' : List (Key × V)} {kvs : List (PyData × S)}, KSV K w H kv' kvs → ∀ {k : Key} {s : S}, getK (kD k) kvs = some s → ∃ v, valV kv' k = some v ∧ SV K w H v s
  | _, _, .nil, k, s, h => by cases h
  | p :: ps, (q1, q2) :: qs, .cons a b, k, s, h => by
    obtain ⟨e, r⟩ := a
    simp only at e r
    subst e
    simp only [getK, kD_eqv] at h
    by_cases hk : p.1 = k
    · rw [decide_eq_true hk, if_pos rfl] at h
      cases h
      exact ⟨p.2, valV_pos hk, r⟩
    · rw [decide_eq_false hk, if_neg Bool.false_ne_true] at h
      obtain ⟨v, h1, h2⟩ := KSV.get b h
      exact ⟨v, by rw [valV_neg hk]; exact h1, h2⟩
theorem KSV.any : ∀ {kv' : List (Key × V)} {kvs : List (PyData × S)}, KSV K w H kv' kvs → ∀ (k : Key), (kv'.any fun p => decide (p.1 = k)) = kvs.any fun p => PyData.eqv p.1 (kD k)
  | _, _, .nil, k => rfl
  | p :: ps, q :: qs, .cons a b, k => by
    simp only [List.any_cons, KSV.any b k]
    rw [← a.1, kD_eqv]
theorem KSV.mapSet : ∀ {kv' : List (Key × V)} {kvs : List (PyData × S)}, KSV K w H kv' kvs → ∀ (k : Key) {v : V} {s : S}, SV K w H v s →
    KSV K w H (kv'.map fun p => if p.1 = k then (p.1, v) else p) (kvs.map fun p => if PyData.eqv p.1 (kD k) = true then (p.1, s) else p)
  | _, _, .nil, k, v, s, r => .nil
  | p :: ps, q :: qs, .cons a b, k, v, s, r => by
    refine .cons ?_ (KSV.mapSet b k r)
    simp only
    rw [← a.1, kD_eqv]
    by_cases hk : p.1 = k
    · rw [if_pos hk, decide_eq_true hk, if_pos rfl]; exact ⟨rfl, r⟩
    · rw [if_neg hk, decide_eq_false hk, if_neg Bool.false_ne_true, a.1]; exact ⟨rfl, a.2⟩
theorem KSV.set {kv' : List (Key × V)} {kvs : List (PyData × S)} (h : KSV K w H kv' kvs) (k : Key) {v : V} {s : S} (r : SV K w H v s) : KSV K w H (putK kv' k v) (setK (kD k) s kvs) := by
  unfold putK setK
  rw [← h.any k]
  split
  · exact h.mapSet k r
  · exact Paired.snoc h ⟨rfl, r⟩
theorem KSV.len {kv' : List (Key × V)} {kvs : List (PyData × S)} (h : KSV K w H kv' kvs) : kv'.length = kvs.length := Paired.length h
theorem SVs.at : ∀ {vs : List V} {ss : List S}, SVs K w H vs ss → ∀ (i : Nat) (s : S), ss[i]? = some s → ∃ v, vs[i]? = some v ∧ SV K w H v s
  | _, _, .nil, i, d, h => by simp at h
  | _, _, .cons a b, 0, d, h => by simp at h; subst h; exact ⟨_, rfl, a⟩
  | _, _, .cons a b, i + 1, d, h => by
    obtain ⟨v, e, r⟩ := SVs.at b i d (by simpa using h)
    exact ⟨v, by simpa using e, r⟩
theorem SVs.atI {vs : List V} {ss : List S} (h : SVs K w H vs ss) {i : Int} {s : S} (e : L2.atI ss i = some s) : ∃ v, L2.atI vs i = some v ∧ SV K w H v s := by
  unfold L2.atI at e ⊢
  rw [h.len]
  cases q : ixN ss.length i with
  | none => rw [q] at e; cases e
  | some j => rw [q] at e; exact h.at j s e
theorem SVs.setAt : ∀ {vs : List V} {ss : List S}, SVs K w H vs ss → ∀ (i : Nat) {v : V} {s : S}, SV K w H v s → SVs K w H (vs.set i v) (ss.set i s)
  | _, _, .nil, i, v, s, r => .nil
  | _, _, .cons a b, 0, v, s, r => .cons r b
  | _, _, .cons a b, i + 1, v, s, r => .cons a (SVs.setAt b i r)
theorem SVs.dropLast : ∀ {vs : List V} {ss : List S}, SVs K w H vs ss → SVs K w H vs.dropLast ss.dropLast
  | _, _, .nil => .nil
  | [_], [_], .cons _ .nil => .nil
  | _ :: _ :: _, _ :: _ :: _, .cons a (.cons b c) => .cons a (SVs.dropLast (.cons b c))
end

/-! ### o[i] read -/
section
variable {X : Cx} {a b : Expr} {fa fb : RE} {pos : Pos}
/-- the object's items: data or things of the memory -/
def rIxS (K : PySem.W.Frag) : R2 := fun x y H Q => ∃ w s k r, Wd K w H ∧ SV K w H x s ∧ y = .int k ∧ (∀ n kvs, s = .r n → w.m[n]? ≠ some (.dct kvs)) ∧ ixS w.m s (.int k) = some r ∧ ∀ v, SV K w H v r → Q v H
theorem ix_mem : IxR X (rIxS X.K) := by
  intro value slice pins s σ H x y v u Q I rx ry ⟨w, sx, k, r, W, hx, hy, nd, e, q⟩ hpl
  subst hy
  cases sx with
  | d d =>
    simp only [ixS, Option.map_eq_some_iff] at e
    obtain ⟨d', e1, rfl⟩ := e
    have hx' : Dt X.K w.P H x d := .inl hx
    cases d <;> try (cases e1; done)
    case list ds =>
      obtain ⟨a, xs, rfl, h1, h2⟩ := hx'.lst_inv
      obtain ⟨z, e3, e4⟩ := at_of h2 (show L2.atI ds k = some d' from e1)
      exact ix_list value slice pins s σ H _ _ v u Q I rx ry ⟨a, xs, k, z, rfl, rfl, h1.seq, e3, q z e4⟩ hpl
    case tuple ds =>
      obtain ⟨a, xs, rfl, h1, h2, _, _⟩ := hx'.tup_inv
      obtain ⟨z, e3, e4⟩ := at_of h2 (show L2.atI ds k = some d' from e1)
      exact ix_tup value slice pins s σ H _ _ v u Q I rx ry ⟨a, xs, k, z, rfl, rfl, h1, e3, q z e4⟩ hpl
  | r n =>
    obtain ⟨hn, rfl⟩ := hx
    simp only [ixS] at e
    cases hm : w.m[n]? with
    | none => rw [hm] at e; cases e
    | some o =>
      rw [hm] at e
      cases o with
      | lst ss =>
        obtain ⟨_, vs, h1, h2⟩ := W.lst n ss hm
        obtain ⟨z, e3, e4⟩ := h2.atI e
        exact ix_list value slice pins s σ H _ _ v u Q I rx ry ⟨_, vs, k, z, rfl, rfl, .inl (.inl h1), e3, q z e4⟩ hpl
      | frz ds =>
        obtain ⟨_, vs, h1, h2⟩ := W.frz n ds hm
        have e' : (L2.atI ds k).map S.d = some r := e
        rw [Option.map_eq_some_iff] at e'
        obtain ⟨d, e5, rfl⟩ := e'
        obtain ⟨z, e3, e4⟩ := at_of h2 e5
        exact ix_list value slice pins s σ H _ _ v u Q I rx ry ⟨_, vs, k, z, rfl, rfl, .inl (.inl h1), e3, q z e4⟩ hpl
      | dct kvs => exact absurd hm (nd n kvs rfl)
      | dcT kvs => cases e
end

theorem key_of_str {K : PySem.W.Frag} {w : Wo} {H : Hp} {v : V} {k : Key} (h : Dt K w.P H v (kD k)) : v = kV k := by
  cases k with
  | inl i => exact Dt.int_inv h
  | inr x => exact Dt.str_inv h
section
variable {X : Cx} {a b : Expr} {fa fb : RE} {pos : Pos}
/-- a[b]: an item of a list or a tuple, what a dict holds -/
theorem fe_ixs (hu0 : X.A.units + 11 < cLine) (ha : FE X a fa) (hb : FE X b fb) (hs : PlainIx b := by intro _ _; rfl) (hs2 : NoSl b := by intro _ _; rfl) : FE X (.Subscript a b pos) (eIx fa fb) := by
  refine ⟨fun pins s σ H Q I h => ?_⟩
  obtain ⟨w, l, s0, m', W, L, e, k⟩ := h
  simp only [eIx, Option.bind_eq_some_iff, Option.map_eq_some_iff, Prod.mk.injEq] at e
  obtain ⟨p, e1, q, e2, d, e3, r, e4, rfl, rfl⟩ := e
  have hu : X.A.units + 1 < cLine := by omega
  by_cases hdT : ∃ n kvs, p.1 = .r n ∧ q.2[n]? = some (.dcT kvs)
  · obtain ⟨n, kvs, hp, hm⟩ := hdT
    have hkey : ∃ kk, keyOf d = some kk ∧ getT kk kvs = some r := by
      rw [hp] at e4
      simp only [ixS, hm] at e4
      cases d <;> try (cases e4; done)
      simp only [Option.bind_eq_some_iff] at e4
      exact e4
    obtain ⟨kk, hk, hg⟩ := hkey
    refine (pe_nget hu0 ha hb hs2).run pins s σ H Q I ?_
    refine goF W L e1 fun w1 H1 v1 c1 E1 W1 L1 s1 => goF W1 L1 (by rw [c1]; exact e2) fun w2 H2 v2 c2 E2 W2 L2 s2 => ?_
    have s1' := s1.go W1 E2
    rw [hp] at s1'
    obtain ⟨hn, rfl⟩ := s1'
    obtain ⟨xs, h1, h2⟩ := W2.dcT n kvs (by rw [c2]; exact hm)
    obtain ⟨pp, v, h3, h4, h5⟩ := h2.get hg
    obtain ⟨b, rfl, hb⟩ := Dt.key (s2.deref W2 (by rw [c2]; exact e3)) hk
    exact ⟨_, xs, b, kk, pp, v, rfl, rfl, ⟨w2.P, h1, h2.ky, hb⟩, h3, h4, k w2 H2 v c2 (E1.trans E2) W2 h5⟩
  by_cases hd : ∃ n kvs, p.1 = .r n ∧ q.2[n]? = some (.dct kvs)
  · obtain ⟨n, kvs, hp, hm⟩ := hd
    have hkey : ∃ kk, d = kD kk ∧ getK (kD kk) kvs = some r := by
      rw [hp] at e4
      simp only [ixS, hm] at e4
      cases d <;> try (cases e4; done)
      · exact ⟨.inl _, rfl, e4⟩
      · exact ⟨.inr _, rfl, e4⟩
    obtain ⟨kk, rfl, hg⟩ := hkey
    refine (pe_dget hu ha hb hs2).run pins s σ H Q I ?_
    refine goF W L e1 fun w1 H1 v1 c1 E1 W1 L1 s1 => goF W1 L1 (by rw [c1]; exact e2) fun w2 H2 v2 c2 E2 W2 L2 s2 => ?_
    have s1' := s1.go W1 E2
    rw [hp] at s1'
    obtain ⟨hn, rfl⟩ := s1'
    obtain ⟨kv', h1, h2⟩ := W2.dct n kvs (by rw [c2]; exact hm)
    obtain ⟨v, h3, h4⟩ := h2.get hg
    have hk := key_of_str (s2.deref W2 (by rw [c2]; exact e3))
    subst hk
    refine ⟨_, v, rfl, ?_, k w2 H2 v c2 (E1.trans E2) W2 h4⟩
    rw [← h3]
    exact DGet.k h1
  · have hint : ∃ i, d = .int i := by
      cases hp : p.1 with
      | d x => rw [hp] at e4; simp only [ixS, Option.map_eq_some_iff] at e4; obtain ⟨y, e5, _⟩ := e4; cases x <;> cases d <;> first | exact ⟨_, rfl⟩ | cases e5
      | r n =>
        rw [hp] at e4
        simp only [ixS] at e4
        cases hm : q.2[n]? with
        | none => rw [hm] at e4; cases e4
        | some o =>
          rw [hm] at e4
          cases o with
          | dct kvs => exact absurd ⟨n, kvs, hp, hm⟩ hd
          | dcT kvs => exact absurd ⟨n, kvs, hp, hm⟩ hdT
          | lst ss => cases d <;> first | exact ⟨_, rfl⟩ | cases e4
          | frz ss => cases d <;> first | exact ⟨_, rfl⟩ | cases e4
    obtain ⟨i, rfl⟩ := hint
    refine (pe_ix ix_mem ha hb hs).run pins s σ H Q I ?_
    refine goF W L e1 fun w1 H1 v1 c1 E1 W1 L1 s1 => goF W1 L1 (by rw [c1]; exact e2) fun w2 H2 v2 c2 E2 W2 L2 s2 => ?_
    have := (s2.deref W2 (by rw [c2]; exact e3)).int_inv
    subst this
    exact ⟨w2, p.1, i, r, W2, s1.go W1 E2, rfl, fun n kvs z y => hd ⟨n, kvs, z, by rw [← c2]; exact y⟩, by rw [c2]; exact e4, fun v hv => k w2 H2 v c2 (E1.trans E2) W2 hv⟩
end

/-! ### o[i] = v -/
section
variable {X : Cx} {o i e : Expr} {fo fi fe : RE} {pos pos' : Pos}
theorem fs_put (hu0 : X.A.units + 11 < cLine) (he : FE X e fe) (ho : FE X o fo) (hi : FE X i fi) (hsw : swapsWithSole [.Subscript o i pos'] e pos.line X.env = pure false := by rfl) (hst : swappedStores [.Subscript o i pos'] e X.env = pure none := by rfl)
    (h1 : (assignEach [.Subscript o i pos'] X.env).map (·.2) = [assign (.Subscript o i pos') X.env] := by rfl) (hs2 : swapsWith e (some (.Subscript o i pos')) pos.line X.env = pure false := by rfl)
    (has : ∀ v, assign (.Subscript o i pos') X.env v = (do
      let ov ← holding [v] (eval o X.env)
      let iv ← holding [v, ov] (eval i X.env)
      standAt pos'
      holding [v, ov, iv] (setItem ov iv v)
      release [v, ov, iv] []) := by intro _; rfl) : FS X (.Assign [.Subscript o i pos'] e pos) (sPut fo fi fe) := by
  refine ⟨fun pins s σ H D I h => ?_⟩
  obtain ⟨w, l, c, l', m', W, L, er, k⟩ := h
  simp only [sPut, Option.bind_eq_some_iff, Option.map_eq_some_iff, Prod.mk.injEq] at er
  obtain ⟨v, e1, p, e2, q, e3, d, e4, mm, e5, rfl, rfl, rfl⟩ := er
  have hu : X.A.units + 1 < cLine := by omega
  cases hp : p.1 with
  | d x => rw [hp] at e5; cases e5
  | r n =>
    rw [hp] at e5
    simp only [setS] at e5
    cases hm : q.2[n]? with
    | none => rw [hm] at e5; cases e5
    | some ob =>
      rw [hm] at e5
      cases ob with
      | frz ds => cases e5
      | dcT kvs =>
        have hkey : ∃ kk, keyOf d = some kk ∧ kvs.length < lim ∧ mm = q.2.set n (.dcT (setT kk v.1 kvs)) := by
          cases d <;> try (cases e5; done)
          simp only [Option.bind_eq_some_iff] at e5
          obtain ⟨kk, h1, h2⟩ := e5
          split at h2
          · rename_i hz; cases h2; exact ⟨kk, h1, hz, rfl⟩
          · cases h2
        obtain ⟨kk, hk, hz, rfl⟩ := hkey
        refine (ps_nput hu0 ho hi he hs2).run pins s σ H D I ?_
        refine goF W L e1 fun w1 H1 v1 c1 E1 W1 L1 s1 => goF W1 L1 (by rw [c1]; exact e2) fun w2 H2 v2 c2 E2 W2 L2 s2 => goF W2 L2 (by rw [c2]; exact e3) fun w3 H3 v3 c3 E3 W3 L3 s3 => ?_
        have s2' := s2.go W2 E3
        rw [hp] at s2'
        obtain ⟨hn, rfl⟩ := s2'
        have hm3 : w3.m[n]? = some (.dcT kvs) := by rw [c3]; exact hm
        obtain ⟨xs, h2, h3⟩ := W3.dcT n kvs hm3
        have hlv : live w3.m n := by unfold live; rw [hm3]; rfl
        obtain ⟨b, rfl, hb⟩ := Dt.key (s3.deref W3 (by rw [c3]; exact e4)) hk
        refine ⟨_, xs, b, kk, rfl, rfl, ⟨w3.P, h2, h3.ky, hb⟩, by rw [Paired.length h3]; exact Nat.lt_of_lt_of_le hz lim_le, fun r rv => ?_⟩
        refine k (w3.put n (.dcT (setT kk v.1 kvs))) _ σ (by rw [← c3]; rfl) (E1.trans (E2.trans (E3.trans (put_ex hlv)))) (put_wd W3 hlv (fun _ e => by cases e) (fun _ e => by cases e) (fun _ e => by cases e) (fun kvs' e => ?_)) (((L1.go W1 E2).go W2 E3).go W3 (put_ex hlv))
        cases e
        exact ⟨_, rfl, h3.put hb rv ((s1.go W1 E2).go W2 E3)⟩
      | lst ss =>
        cases d <;> try (cases e5; done)
        rename_i j
        have e6 : (putI ss j v.1).map (fun ss' => q.2.set n (.lst ss')) = some mm := e5
        simp only [putI, Option.map_eq_some_iff] at e6
        obtain ⟨ss', ⟨jj, e7, rfl⟩, rfl⟩ := e6
        refine (ps_asg (g := gSub (tF X.K fo) (tF X.K fi) rSetL) he (pg_sub ho hi set_list has) hsw hst h1).run pins s σ H D I ?_
        refine goF W L e1 fun w1 H1 v1 c1 E1 W1 L1 s1 => goF W1 L1 (by rw [c1]; exact e2) fun w2 H2 v2 c2 E2 W2 L2 s2 => goF W2 L2 (by rw [c2]; exact e3) fun w3 H3 v3 c3 E3 W3 L3 s3 => ?_
        have s2' := s2.go W2 E3
        rw [hp] at s2'
        obtain ⟨hn, rfl⟩ := s2'
        have hm3 : w3.m[n]? = some (.lst ss) := by rw [c3]; exact hm
        obtain ⟨z, vs, h2, h3⟩ := W3.lst n ss hm3
        have hlv : live w3.m n := by unfold live; rw [hm3]; rfl
        have hk := (s3.deref W3 (by rw [c3]; exact e4)).int_inv
        subst hk
        refine ⟨_, vs, j, jj, rfl, rfl, h2, by rw [h3.len]; exact e7, ?_⟩
        refine k (w3.put n (.lst (ss.set jj v.1))) _ σ (by rw [← c3]; rfl) (E1.trans (E2.trans (E3.trans (put_ex hlv)))) (put_wd W3 hlv (fun ss' e => ?_) (fun _ e => by cases e) (fun _ e => by cases e)) (((L1.go W1 E2).go W2 E3).go W3 (put_ex hlv))
        cases e
        exact ⟨by rw [List.length_set]; exact z, _, rfl, h3.setAt jj ((s1.go W1 E2).go W2 E3)⟩
      | dct kvs =>
        have hkey : ∃ kk, d = kD kk ∧ kvs.length < lim ∧ mm = q.2.set n (.dct (setK (kD kk) v.1 kvs)) := by
          cases d <;> try (cases e5; done)
          · simp only at e5
            split at e5
            · rename_i hz; cases e5; exact ⟨.inl _, rfl, hz, rfl⟩
            · cases e5
          · simp only at e5
            split at e5
            · rename_i hz; cases e5; exact ⟨.inr _, rfl, hz, rfl⟩
            · cases e5
        obtain ⟨kk, rfl, hz, rfl⟩ := hkey
        refine (ps_dput hu ho hi he hs2).run pins s σ H D I ?_
        refine goF W L e1 fun w1 H1 v1 c1 E1 W1 L1 s1 => goF W1 L1 (by rw [c1]; exact e2) fun w2 H2 v2 c2 E2 W2 L2 s2 => goF W2 L2 (by rw [c2]; exact e3) fun w3 H3 v3 c3 E3 W3 L3 s3 => ?_
        have s2' := s2.go W2 E3
        rw [hp] at s2'
        obtain ⟨hn, rfl⟩ := s2'
        have hm3 : w3.m[n]? = some (.dct kvs) := by rw [c3]; exact hm
        obtain ⟨kv', h2, h3⟩ := W3.dct n kvs hm3
        have hlv : live w3.m n := by unfold live; rw [hm3]; rfl
        have hk := key_of_str (s3.deref W3 (by rw [c3]; exact e4))
        subst hk
        refine ⟨_, _, rfl, DPut.k h2 (by rw [h3.len]; exact Nat.lt_of_lt_of_le hz lim_le), ?_⟩
        refine k (w3.put n (.dct (setK (kD kk) v.1 kvs))) _ σ (by rw [← c3]; rfl) (E1.trans (E2.trans (E3.trans (put_ex hlv)))) (put_wd W3 hlv (fun _ e => by cases e) (fun kvs' e => ?_) (fun _ e => by cases e)) (((L1.go W1 E2).go W2 E3).go W3 (put_ex hlv))
        cases e
        exact ⟨_, rfl, h3.set kk ((s1.go W1 E2).go W2 E3)⟩
end
end Fz

set_option linter.all false
set_option autoImplicit false
set_option maxRecDepth 100000
/-! FzS11: methods of the memory's lists, dict displays, several names at once, augmented assignments. -/
namespace Fz
open PySem PySem.Spec PyProof.Rows L2

/-! ### methods of lists -/
def rMt (K : PySem.W.Frag) (g : Mem → S → List S → Option (S × Mem)) : V → List V → Hp → VK → Prop := fun x xs H Q => ∃ w s ss r m', Wd K w H ∧ SV K w H x s ∧ SVs K w H xs ss ∧ g w.m s ss = some (r, m') ∧
  ∀ w' H' v, w'.m = m' → Ex w H w' H' → Wd K w' H' → SV K w' H' v r → Q v H'
abbrev FMt (X : Cx) (id : String) (g : Mem → S → List S → Option (S × Mem)) : Prop := MtR X id (rMt X.K g)
section
variable {K : PySem.W.Frag} {w : Wo} {H : Hp}
/-- a list of the memory takes other items -/
theorem put_lst {n : Nat} {ss ss' : List S} {vs' : List V} (W : Wd K w H) (hm : w.m[n]? = some (.lst ss)) (z : ss'.length ≤ sizeLine) (h : SVs K w H vs' ss') : Ex w H (w.put n (.lst ss')) (upd H (w.al n) (.lst vs')) ∧ Wd K (w.put n (.lst ss')) (upd H (w.al n) (.lst vs')) := by
  have hlv : live w.m n := by unfold live; rw [hm]; rfl
  refine ⟨put_ex hlv, put_wd W hlv (fun _ e => ?_) (fun _ e => by cases e) (fun _ e => by cases e)⟩
  cases e
  exact ⟨z, _, rfl, h⟩
theorem isL_ty (W : Wd K w H) {v : V} {s : S} (h : SV K w H v s) (e : isL w.m s = true) : tyV K "list" v H := by
  cases s with
  | d x => cases e
  | r n =>
    obtain ⟨_, rfl⟩ := h
    simp only [isL] at e
    cases q : w.m[n]? with
    | none => rw [q] at e; cases e
    | some o =>
      rw [q] at e
      cases o with
      | lst ss => obtain ⟨_, vs, h1, _⟩ := W.lst n ss q; exact .inl ⟨rfl, vs, .inl (.inl h1)⟩
      | frz _ => cases e
      | dct _ => cases e
      | dcT _ => cases e
theorem SVs.one {xs : List V} {s : S} (h : SVs K w H xs [s]) : ∃ x, xs = [x] ∧ SV K w H x s := by
  cases h with
  | cons a b => cases b; exact ⟨_, rfl, a⟩
theorem SVs.nil_inv {xs : List V} (h : SVs K w H xs []) : xs = [] := by
  cases h; rfl
end
section
variable {X : Cx} {o e : Expr} {es : List Expr} {fo : RE} {as : List RE} {name : Str} {apos cpos : Pos} {id : String} {g : Mem → S → List S → Option (S × Mem)}
theorem fe_m (hm : FMt X id g) (slot : Slot "list" name id) (hty : typeOf (.builtin id) = pure (.type "method_descriptor")) (ho : FE X o fo) (ha : FA X (e :: es) (rA as))
    (hbase : attributeBase o name X.env (eval o X.env) = eval o X.env := by rfl)
    (hfew : ((backTo cpos (starEach (e :: es) X.env)).all (fun x => !x.1) && (backToKw cpos (keywordEach [] X.env)).all (fun x => x.1.isSome)
      && decide ((e :: es).length + ([] : List Keyword).length + (if ([] : List Keyword).isEmpty then 0 else 1) < 30)) = true := by rfl)
    (hline : (apos.endLine == cpos.line) = true := by rfl) (hs : starEach (e :: es) X.env = (false, eval e X.env) :: starEach es X.env := by rfl) (hplain : (backTo cpos (starEach es X.env)).any (·.1) = false := by rfl) :
    FE X (.Call (.Attribute o name apos) (e :: es) [] cpos) (eM g fo as) := PE.imp (pe_bm F.plainAttrs_list slot hty hm ho ha hbase hfew hline hs hplain) fun σ H Q ⟨w, l, s, m', W, L, e, k⟩ => by
  simp only [eM, Option.bind_eq_some_iff] at e
  obtain ⟨p, e1, e2⟩ := e
  split at e2
  · rename_i hl
    simp only [Option.bind_eq_some_iff] at e2
    obtain ⟨q, e3, e4⟩ := e2
    refine goF W L e1 fun w1 H1 v1 c1 E1 W1 L1 s1 => ⟨isL_ty W1 s1 (by rw [c1]; exact hl), goA W1 L1 (by rw [c1]; exact e3) fun w2 H2 vs c2 E2 W2 L2 s2 => ?_⟩
    exact ⟨w2, p.1, q.1, s, m', W2, s1.go W1 E2, s2, by rw [c2]; exact e4, fun w' H' v c E W' hv => k w' H' v c (E1.trans (E2.trans E)) W' hv⟩
  · cases e2
theorem fe_m0 (hm : FMt X id g) (slot : Slot "list" name id) (hty : typeOf (.builtin id) = pure (.type "method_descriptor")) (ho : FE X o fo)
    (hbase : attributeBase o name X.env (eval o X.env) = eval o X.env := by rfl) (hline : (apos.endLine == cpos.line) = true := by rfl) :
    FE X (.Call (.Attribute o name apos) [] [] cpos) (eM g fo []) := PE.imp (pe_bm0 F.plainAttrs_list slot hty hm ho hbase hline) fun σ H Q ⟨w, l, s, m', W, L, e, k⟩ => by
  simp only [eM, Option.bind_eq_some_iff] at e
  obtain ⟨p, e1, e2⟩ := e
  split at e2
  · rename_i hl
    simp only [rA, Option.bind_some] at e2
    refine goF W L e1 fun w1 H1 v1 c1 E1 W1 L1 s1 => ⟨isL_ty W1 s1 (by rw [c1]; exact hl), ?_⟩
    exact ⟨w1, p.1, [], s, m', W1, s1, .nil, by rw [c1]; exact e2, fun w' H' v c E W' hv => k w' H' v c (E1.trans E) W' hv⟩
  · cases e2
theorem fm_append : FMt X "list.append" mAppend := by
  intro pins s σ H x xs v us Q I rx rv ⟨w, sx, ss, r, m', W, hx, hs, e, q⟩
  cases sx with
  | d x => cases e
  | r n =>
    obtain ⟨hn, rfl⟩ := hx
    match ss, hs, e with
    | [y], hs, e =>
      simp only [mAppend] at e
      cases hm : w.m[n]? with
      | none => rw [hm] at e; cases e
      | some ob =>
        rw [hm] at e
        cases ob with
        | lst zs =>
          simp only at e
          split at e
          · rename_i hz
            cases e
            obtain ⟨x, rfl, hy⟩ := hs.one
            obtain ⟨z, vs, h1, h2⟩ := W.lst n zs hm
            have hl : zs.length < sizeLine := Nat.lt_of_lt_of_le hz lim_le
            obtain ⟨E, W'⟩ := put_lst W hm (ss' := zs ++ [y]) (by rw [List.length_append, List.length_singleton]; exact hl) (Paired.snoc h2 hy)
            exact mt_append pins s σ H _ _ v us Q I rx rv ⟨_, vs, x, rfl, rfl, h1, by rw [h2.len]; exact hl, q _ _ _ rfl E W' Dq.non⟩
          · cases e
        | frz _ => cases e
        | dct _ => cases e
        | dcT _ => cases e
theorem fm_extend : FMt X "list.extend" mExtend := by
  intro pins s σ H x xs v us Q I rx rv ⟨w, sx, ss, r, m', W, hx, hs, e, q⟩
  cases sx with
  | d x => cases e
  | r n =>
    obtain ⟨hn, rfl⟩ := hx
    match ss, hs, e with
    | [y], hs, e =>
      simp only [mExtend] at e
      cases hm : w.m[n]? with
      | none => rw [hm] at e; cases e
      | some ob =>
        rw [hm] at e
        cases hd : Fz.deref w.m y with
        | none => rw [hd] at e; cases ob <;> cases e
        | some d =>
          rw [hd] at e
          cases ob with
          | lst zs =>
            cases d <;> try (cases e; done)
            rename_i ds
            simp only at e
            split at e
            · rename_i hz
              cases e
              obtain ⟨x, rfl, hy⟩ := hs.one
              obtain ⟨b, ys, rfl, h3, h4⟩ := (hy.deref W hd).lst_inv
              obtain ⟨z, vs, h1, h2⟩ := W.lst n zs hm
              have hl : zs.length + ds.length ≤ sizeLine := Nat.le_trans hz lim_le
              obtain ⟨E, W'⟩ := put_lst W hm (ss' := zs ++ ds.map S.d) (by rw [List.length_append, List.length_map]; exact hl) (Paired.app h2 (SVs.d h4))
              -- the method itself, its argument any list that is read
              cases rx
              obtain ⟨u, rfl, ru⟩ := rv.one
              cases ru
              obtain ⟨z1, its, c1, r1, l1, e1⟩ := I.lstM h1
              obtain ⟨z2, its2, c2, r2, l2, e2⟩ := I.rdL h3
              have a1 := h2.len
              have a2 := h4.len
              have fit : its.toArray.size + its2.toArray.size ≤ sizeLine := by simp only [List.size_toArray]; omega
              have notlong : ¬ (!its.toArray.isEmpty && Builtin.List.listTooLong (its.toArray.size + its2.toArray.size)) = true := by
                rw [notLongL fit, Bool.and_false]; exact Bool.false_ne_true
              refine call_meets F.slot_list_extend ⟨_, e1, rfl⟩ F.entry_list_extend (F.args_list_extend_2 _ _)
                (AutoSeq1.list_extend_list_list_0 _ its.toArray c1 b its2.toArray c2 notlong (by simp only [List.size_toArray]; omega) (by omega)) ⟨e1, e2, ?_⟩
              exact ⟨.non, _, I.lset (its' := its ++ its2) h1 e1 (by simp) (r1.append r2) (by simp only [List.length_append]; omega), rfl, q _ _ _ rfl E W' Dq.non⟩
            · cases e
          | frz _ => cases e
          | dct _ => cases e
          | dcT _ => cases e
theorem fm_pop : FMt X "list.pop" mPop := by
  intro pins s σ H x xs v us Q I rx rv ⟨w, sx, ss, r, m', W, hx, hs, e, q⟩
  cases sx with
  | d x => cases e
  | r n =>
    obtain ⟨hn, rfl⟩ := hx
    match ss, hs, e with
    | [], hs, e =>
      simp only [mPop] at e
      cases hm : w.m[n]? with
      | none => rw [hm] at e; cases e
      | some ob =>
        rw [hm] at e
        cases ob with
        | lst zs =>
          simp only [Option.map_eq_some_iff, Prod.mk.injEq] at e
          obtain ⟨y, e1, rfl, rfl⟩ := e
          have hxs := hs.nil_inv
          subst hxs
          obtain ⟨z, vs, h1, h2⟩ := W.lst n zs hm
          obtain ⟨yv, h3, h4⟩ := h2.at _ y e1
          obtain ⟨E, W'⟩ := put_lst W hm (ss' := zs.dropLast) (by rw [List.length_dropLast]; omega) h2.dropLast
          exact mt_pop pins s σ H _ _ v us Q I rx rv ⟨_, vs, yv, rfl, rfl, h1, by rw [h2.len]; exact h3, q _ _ _ rfl E W' (h4.go W E)⟩
        | frz _ => cases e
        | dct _ => cases e
        | dcT _ => cases e
end

/-! ### augmented assignments -/
section
variable {X : Cx} {pos pos' : Pos}
/-- a op= b, by data -/
def FIp (X : Cx) (op : Operator) (g : PyData → PyData → Option PyData) : Prop := PIp X op (rF2 X.K g)
theorem fs_aug (i : Nat) {x : Str} {e : Expr} {f : RE} {op : Operator} {g : PyData → PyData → Option PyData} (ho : FIp X op g) (he : FE X e f) (hN : X.N.Nodup) (hi : X.N[i]? = some x := by rfl) (hx : Loc X.env.scope x := by first | exact Or.inl rfl | exact Or.inr rfl) (hf : X.fn x = true ∨ X.env.scope.names.lookup x = some .local := by first | exact .inl rfl | exact .inr rfl) :
    FS X (.AugAssign (.Name x pos') op e pos) (sAug i g f) := PS.imp (ps_aug hN hi hx he ho hf) fun D σ H ⟨w, l, c, l', m', W, L, e, k⟩ => by
  simp only [sAug, sSet, sAsg, gN, eOp, eV, Option.bind_eq_some_iff, Option.map_eq_some_iff, Prod.mk.injEq] at e
  obtain ⟨p, ⟨q, e1, u, e2, d, e3, d', e4, r, e5, rfl⟩, l1, e6, rfl, rfl, rfl⟩ := e
  cases e6
  cases hq : l[i]? with
  | none => rw [hq] at e1; cases e1
  | some os =>
    rw [hq] at e1
    cases os with
    | none => cases e1
    | some s0 =>
      cases e1
      obtain ⟨v0, h1, h2⟩ := L.2 i _ hq
      refine ⟨v0, h1, goF W L e2 fun w1 H1 v1 c1 E1 W1 L1 s1 => ?_⟩
      refine fin2 W1 (h2.go W E1) s1 (by rw [c1]; exact e3) (by rw [c1]; exact e4) e5 fun w' H' v c E W' hv => ?_
      exact k w' H' _ (c.trans c1) (E1.trans E) W' ((L1.go W1 E).set hv i)
theorem fip_of {op : Operator} {g : PyData → PyData → Option PyData} {C : Int → Int → Prop} {r : Int → Int → V} {rd : Int → Int → PyData} (h : OpR X (inplaceOp op) (rI C r)) (hr : ∀ K P H i j, Dq K P H (r i j) (rd i j))
    (hg : ∀ d e x, g d e = some x → ∃ i j, d = .int i ∧ e = .int j ∧ C i j ∧ x = rd i j) : FIp X op g := fun pins s σ H x y v u Q I rx ry q => fo_ii h hr hg pins s σ H x y v u Q I rx ry q
theorem fip_sub : FIp X .Sub pSub := fun pins s σ H x y v u Q I rx ry q => fo_i0 iop_sub (fun _ _ _ _ _ => .int _) (gi (fun _ _ => rfl) fun d e x q => by cases d <;> cases e <;> cases q; exact ⟨_, _, rfl, rfl⟩) pins s σ H x y v u Q I rx ry q
/-- += of ints -/
def pAddI : PyData → PyData → Option PyData
  | .int i, .int j => some (.int (i + j))
  | _, _ => none
theorem fip_add : FIp X .Add pAddI := fun pins s σ H x y v u Q I rx ry q => fo_i0 iop_add (fun _ _ _ _ _ => .int _) (gi (fun _ _ => rfl) fun d e x q => by cases d <;> cases e <;> cases q; exact ⟨_, _, rfl, rfl⟩) pins s σ H x y v u Q I rx ry q
end

/-! ### several names at once -/
section
variable {X : Cx} {pos : Pos}
theorem fs_par2 (i j : Nat) {x y : Str} {a b : Expr} {fa fb : RE} {px py pt : Pos} {kt k2 : Nat} {pt2 : Pos} (ha : FA X [a, b] (rA [fa, fb])) (hN : X.N.Nodup) (hi : X.N[i]? = some x := by rfl) (hj : X.N[j]? = some y := by rfl) (hij : i ≠ j := by decide)
    (hx : X.env.scope.names.lookup x = some .local := by rfl) (hy : X.env.scope.names.lookup y = some .local := by rfl) (hc : X.calm = true := by rfl)
    (hw : swappedStores [.Tuple [.Name x px, .Name y py] kt pt] (.Tuple [a, b] k2 pt2) X.env = pure (some [x, y]) := by rfl)
    (hs : swapsWithSole [.Tuple [.Name x px, .Name y py] kt pt] (.Tuple [a, b] k2 pt2) pos.line X.env = pure false := by rfl) :
    FS X (.Assign [.Tuple [.Name x px, .Name y py] kt pt] (.Tuple [a, b] k2 pt2) pos) (sPar [i, j] [fa, fb]) := PS.imp (ps_par hc hN hi hj hij hx hy ha hw hs) fun D σ H ⟨w, l, c, l', m', W, L, e, k⟩ => by
  simp only [sPar, Option.map_eq_some_iff, Prod.mk.injEq] at e
  obtain ⟨p, e1, rfl, rfl, rfl⟩ := e
  refine goA W L e1 fun w1 H1 vs c1 E1 W1 L1 s1 => ?_
  have hl := rA_len e1
  match hp : p.1, s1, hl with
  | [s, t], .cons ra (.cons rb .nil), _ =>
    rw [hp] at k
    exact ⟨_, _, rfl, k w1 H1 _ c1 E1 W1 ((L1.set ra i).set rb j)⟩
theorem fs_par3 (i j h : Nat) {x y z : Str} {a b c : Expr} {fa fb fc : RE} {px py pz pt : Pos} {kt k2 : Nat} {pt2 : Pos} (ha : FA X [a, b, c] (rA [fa, fb, fc])) (hN : X.N.Nodup) (hi : X.N[i]? = some x := by rfl) (hj : X.N[j]? = some y := by rfl) (hh : X.N[h]? = some z := by rfl) (hij : i ≠ j := by decide) (hih : i ≠ h := by decide) (hjh : j ≠ h := by decide)
    (hx : X.env.scope.names.lookup x = some .local := by rfl) (hy : X.env.scope.names.lookup y = some .local := by rfl) (hz : X.env.scope.names.lookup z = some .local := by rfl) (hc : X.calm = true := by rfl)
    (hw : swappedStores [.Tuple [.Name x px, .Name y py, .Name z pz] kt pt] (.Tuple [a, b, c] k2 pt2) X.env = pure (some [x, y, z]) := by rfl)
    (hs : swapsWithSole [.Tuple [.Name x px, .Name y py, .Name z pz] kt pt] (.Tuple [a, b, c] k2 pt2) pos.line X.env = pure false := by rfl) :
    FS X (.Assign [.Tuple [.Name x px, .Name y py, .Name z pz] kt pt] (.Tuple [a, b, c] k2 pt2) pos) (sPar [i, j, h] [fa, fb, fc]) := PS.imp (ps_par3 hc hN hi hj hh hij hih hjh hx hy hz ha hw hs) fun D σ H ⟨w, l, c, l', m', W, L, e, k⟩ => by
  simp only [sPar, Option.map_eq_some_iff, Prod.mk.injEq] at e
  obtain ⟨p, e1, rfl, rfl, rfl⟩ := e
  refine goA W L e1 fun w1 H1 vs c1 E1 W1 L1 s1 => ?_
  have hl := rA_len e1
  match hp : p.1, s1, hl with
  | [s, t, u], .cons ra (.cons rb (.cons rc .nil)), _ =>
    rw [hp] at k
    exact ⟨_, _, _, rfl, k w1 H1 _ c1 E1 W1 (((L1.set ra i).set rb j).set rc h)⟩
end

/-! ### names stored from the left, captured ones among them -/
def setAll (is : List Nat) (ss : List S) (l : Lo) : Lo := (is.zip ss).foldl (fun l q => l.set q.1 (some q.2)) l
def gNs (K : PySem.W.Frag) (is : List Nat) : TGs := fun vs σ H Q => ∃ w l ss, Wd K w H ∧ SL K w H σ l ∧ SVs K w H vs ss ∧ ss.length = is.length ∧ ∀ σ', SL K w H σ' (setAll is ss l) → Q σ' H
def FNs (X : Cx) (ts : List Expr) (is : List Nat) : Prop := PGs X ts (gNs X.K is)
section
variable {X : Cx} {pos : Pos}
theorem fns_nil : FNs X [] [] := PGs.imp pgs_nil fun v σ H Q ⟨w, l, ss, W, L, r, hl, k⟩ => by
  cases r with
  | nil => exact ⟨rfl, k σ L⟩
  | cons _ _ => cases hl
theorem fns_cons (i : Nat) {x : Str} {p : Pos} {ts : List Expr} {is : List Nat} (h2 : FNs X ts is) (hN : X.N.Nodup) (hi : X.N[i]? = some x := by rfl) (hx : Loc X.env.scope x := by first | exact Or.inl rfl | exact Or.inr rfl) (hf : X.fn x = true ∨ X.env.scope.names.lookup x = some .local := by first | exact .inl rfl | exact .inr rfl)
    (hs : (assignEach (.Name x p :: ts) X.env).map (·.2) = assign (.Name x p) X.env :: (assignEach ts X.env).map (·.2) := by rfl) : FNs X (.Name x p :: ts) (i :: is) := PGs.imp (pgs_cons (pg_name hN hi hx hf) h2 hs) fun v σ H Q ⟨w, l, ss, W, L, r, hl, k⟩ => by
  cases r with
  | nil => cases hl
  | cons a b => exact ⟨_, _, rfl, w, _, _, W, L.set a i, b, by simpa using hl, fun σ' L' => k σ' L'⟩
theorem fs_parN {ts es : List Expr} {is : List Nat} {as : List RE} {pt pt2 : Pos} {kt k2 : Nat} (hn : FNs X ts is) (ha : FA X es (rA as)) (hl : as.length = is.length := by rfl) (hc : X.calm = true := by rfl) (hcount : (assignEach ts X.env).length = is.length := by rfl) (hst : (assignEach ts X.env).findIdx? (·.1) = none := by rfl) (hz : as.length ≤ 1000 := by decide)
    (hs : swapsWithSole [.Tuple ts kt pt] (.Tuple es k2 pt2) pos.line X.env = pure false := by rfl) (hw : swappedStores [.Tuple ts kt pt] (.Tuple es k2 pt2) X.env = pure none := by rfl)
    (h1 : (assignEach [.Tuple ts kt pt] X.env).map (·.2) = [assign (.Tuple ts kt pt) X.env] := by rfl) : FS X (.Assign [.Tuple ts kt pt] (.Tuple es k2 pt2) pos) (sPar is as) :=
  PS.imp (ps_asg (pe_tup ha) (pg_tup hc hn hcount hst) hs hw h1) fun D σ H ⟨w, l, c, l', m', W, L, e, k⟩ => by
    simp only [sPar, Option.map_eq_some_iff, Prod.mk.injEq] at e
    obtain ⟨p, e1, rfl, rfl, rfl⟩ := e
    refine goA W L e1 fun w1 H1 vs c1 E1 W1 L1 s1 => ?_
    have hlen : p.1.length = is.length := (rA_len e1).trans hl
    refine ⟨by rw [s1.len, rA_len e1]; exact ok_len hz, fun q hq => ?_⟩
    obtain ⟨E2, W2⟩ := W1.same (same_upd (o := .tup vs) hq)
    refine ⟨q, vs, rfl, .inl (.inl upd_same), by rw [s1.len, hlen], w1, l, p.1, W2, L1.go W1 E2, SVs.go W1 E2 s1, hlen, fun σ' L' => k w1 _ σ' c1 (E1.trans E2) W2 L'⟩
end

/-! ### dict displays, their keys written texts -/
theorem nodup_merge : ∀ (kvs acc : List (Key × V)), (∀ p ∈ kvs, ∀ q ∈ acc, q.1 ≠ p.1) → (kvs.map (·.1)).Nodup → mergeK acc kvs = acc ++ kvs
  | [], acc, _, _ => by simp [mergeK]
  | p :: kvs, acc, h, nd => by
    rw [List.map_cons, List.nodup_cons] at nd
    have e : putK acc p.1 p.2 = acc ++ [p] := by
      have : (acc.any fun kv => decide (kv.1 = p.1)) = false := by
        rw [List.any_eq_false]
        intro q hq
        simpa using h p List.mem_cons_self q hq
      unfold putK
      rw [this, if_neg Bool.false_ne_true]
    show mergeK (putK acc p.1 p.2) kvs = _
    rw [e, nodup_merge kvs (acc ++ [p]) (fun q hq r hr => ?_) nd.2, List.append_assoc]
    · rfl
    · rcases List.mem_append.mp hr with hr | hr
      · exact h q (List.mem_cons_of_mem _ hq) r hr
      · simp only [List.mem_singleton] at hr
        subst hr
        exact fun e => nd.1 (by rw [e]; exact List.mem_map.mpr ⟨q, hq, rfl⟩)
def trs (K : PySem.W.Frag) : List Str → List RE → List (TE × TE)
  | k :: ks, a :: as => (tC (.str k), tF K a) :: trs K ks as
  | _, _ => []
def FPs (X : Cx) (pos : Pos) (keys : List (Option Expr)) (values : List Expr) (ks : List Str) (as : List RE) : Prop := ks.length = as.length ∧ PPs X pos keys values (trs X.K ks as)
section
variable {X : Cx} {pos : Pos}
theorem fps_nil : FPs X pos [] [] [] [] := ⟨rfl, pps_nil⟩
theorem fps_cons {x : Str} {j : Nat} {p : Pos} {v : Expr} {fa : RE} {keys : List (Option Expr)} {values : List Expr} {ks : List Str} {as : List RE} (hv : FE X v fa) (hr : FPs X pos keys values ks as) : FPs X pos (some (.Constant (.str x) j p) :: keys) (v :: values) (x :: ks) (fa :: as) :=
  ⟨by rw [List.length_cons, List.length_cons, hr.1], pps_cons pe_str hv hr.2⟩
theorem go_trs {K : PySem.W.Frag} : ∀ {ks : List Str} {as : List RE} {σ : L2.St} {w : Wo} {H : Hp} {l : Lo} {ss : List S} {m' : Mem} {R : List (V × V) → Hp → Prop}, ks.length = as.length → Wd K w H → SL K w H σ l → rA as l w.m = some (ss, m') →
    (∀ w' H' vs, w'.m = m' → Ex w H w' H' → Wd K w' H' → SVs K w' H' vs ss → R ((ks.map V.str).zip vs) H') → tPairs (trs K ks as) σ H R
  | [], [], σ, w, H, l, ss, m', R, _, W, L, e, k => by
    cases e
    exact k w H [] rfl (Ex.refl w H) W .nil
  | x :: ks, a :: as, σ, w, H, l, ss, m', R, hl, W, L, e, k => by
    simp only [rA, Option.bind_eq_some_iff, Option.map_eq_some_iff, Prod.mk.injEq] at e
    obtain ⟨p, e1, q, e2, rfl, rfl⟩ := e
    refine goF W L e1 fun w1 H1 v1 c1 E1 W1 L1 s1 => ?_
    refine go_trs (R := fun ps H3 => R ((.str x, v1) :: ps) H3) (by simpa using hl) W1 L1 (by rw [c1]; exact e2) fun w2 H2 vs c2 E2 W2 s2 => ?_
    exact k w2 H2 (v1 :: vs) c2 (E1.trans E2) W2 (.cons (s1.go W1 E2) s2)
theorem zip_ksv {K : PySem.W.Frag} {w : Wo} {H : Hp} : ∀ {ks : List Str} {vs : List V} {ss : List S}, SVs K w H vs ss → KSV K w H ((ks.map Sum.inr).zip vs) ((ks.map PyData.str).zip ss)
  | [], _, _, _ => .nil
  | k :: ks, _, _, .nil => .nil
  | k :: ks, _, _, .cons a b => .cons ⟨rfl, a⟩ (zip_ksv b)
theorem zip_kV : ∀ (ks : List Str) (vs : List V), (ks.map V.str).zip vs = ((ks.map (Sum.inr : Str → Key)).zip vs).map fun kv => (kV kv.1, kv.2)
  | [], _ => rfl
  | k :: ks, [] => rfl
  | k :: ks, v :: vs => by
    simp only [List.map_cons, List.zip_cons_cons, zip_kV ks vs]
    rfl
theorem fe_dct {keys : List (Option Expr)} {values : List Expr} {ks : List Str} {as : List RE} (h : FPs X pos keys values ks as) (nd : ks.Nodup := by decide) (hall : keys.all (·.isSome) = true := by rfl) (hl : keys.length = values.length := by rfl) (h0 : keys ≠ [] := by simp) (h15 : keys.length ≤ 15 := by decide) (hk : ks.length ≤ 15 := by decide) :
    FE X (.Dict keys values pos) (eDct ks as) := PE.imp (pe_disp h.2 hall hl h0 h15) fun σ H Q ⟨w, l, s, m', W, L, e, k⟩ => by
  simp only [eDct, Option.map_eq_some_iff, Prod.mk.injEq] at e
  obtain ⟨p, e1, rfl, rfl⟩ := e
  intro D hD
  have hne : ∀ a o, H a = some o → w.P0 a → w.P0 a ∧ a ≠ D := fun a o h p => ⟨p, fun q => by rw [q, hD] at h; cases h⟩
  have S0 : Same H (upd H D (.dK [])) := same_upd hD
  have W0 : Wd X.K (w.perm fun a => w.P0 a ∧ a ≠ D) (upd H D (.dK [])) := W.perm S0 hne fun a h => ⟨W.fre a (S0.free h), fun q => by rw [q, upd_same] at h; cases h⟩
  have E0 : Ex (w.perm fun a => w.P0 a ∧ a ≠ D) H (w.perm fun a => w.P0 a ∧ a ≠ D) (upd H D (.dK [])) := ⟨rfl, Nat.le_refl _, fun _ _ => rfl, fun a o h p => ⟨S0 a o h, p⟩⟩
  refine go_trs (l := l) h.1 W0 (L.perm S0 hne) (show rA as l w.m = some (p.1, p.2) from e1) fun w2 H2 vs c2 E2 W2 s2 => ?_
  have p2 : w2.P0 = fun a => w.P0 a ∧ a ≠ D := E2.out
  have hP0 : ∀ a, w2.P0 a → a ≠ D := fun a h => by rw [p2] at h; exact h.2
  have hD2 : H2 D = some (.dK []) := (E2.keep D _ upd_same fun n hl => (W0.per n (live_lt hl)).2).1
  have hlen : p.1.length = ks.length := (rA_len e1).trans h.1.symm
  have hzip : (((ks.map (Sum.inr : Str → Key)).zip vs).map (·.1)) = ks.map Sum.inr := by
    rw [List.map_fst_zip]
    rw [List.length_map, s2.len, hlen]; exact Nat.le_refl _
  have hm : mergeK [] ((ks.map (Sum.inr : Str → Key)).zip vs) = (ks.map Sum.inr).zip vs := by
    rw [nodup_merge _ [] (fun _ _ q hq => by cases hq) ?_, List.nil_append]
    rw [hzip]
    exact List.Pairwise.map _ (fun a b hab e => hab (Sum.inr.inj e)) nd
  refine ⟨hD2, (ks.map Sum.inr).zip vs, zip_kV ks vs, ?_, ?_⟩
  · rw [List.length_zip, List.length_map]; omega
  · rw [hm]
    have W3 : Wd X.K w2 (upd H2 D (.dK ((ks.map Sum.inr).zip vs))) := W2.out (.dK hD2) hP0
    have s3 : SVs X.K w2 (upd H2 D (.dK ((ks.map Sum.inr).zip vs))) vs p.1 := SVs.out (.dK hD2) (fun a q => hP0 a q.1) s2
    have E3 : Ex (w.perm fun a => w.P0 a ∧ a ≠ D) H w2 (upd H2 D (.dK ((ks.map Sum.inr).zip vs))) := by
      have E := E0.trans E2
      refine ⟨E.out, E.len, E.same, fun a o h q => ?_⟩
      obtain ⟨a1, a2⟩ := E.keep a o h q
      exact ⟨by rw [upd_ne fun z => by rw [z, hD] at h; cases h]; exact a1, a2⟩
    obtain ⟨E4, W4⟩ := join_mem (mo := .dct ((ks.map PyData.str).zip p.1)) W hD p2 E3 W3 upd_same (fun _ e => by cases e) (fun kvs e => by cases e; exact ⟨_, rfl, zip_ksv s3⟩) (fun _ e => by cases e)
    exact k _ _ _ (by rw [← c2]; rfl) E4 W4 ⟨by rw [← c2]; simp [Wo.push, Wo.perm], by rw [← c2]; exact congrArg V.ref (push_al' (w := w2) (p := D) (mo := .dct ((ks.map PyData.str).zip p.1))).symm⟩
end
end Fz

set_option linter.all false
set_option autoImplicit false
set_option maxRecDepth 100000
/-! FzS12: the law's own call: from its reading to the row. -/
namespace Fz
open PySem PySem.Spec PyProof.Rows L2

/-- what stands behind the top, with at most the script set apart -/
def apart (o os : Obj) (ns : List Int) (a : Addr) (yes : Bool) : Hp := fun b => if b = sysModules then some (.frz os (.ext fun _ => True)) else if yes = true ∧ b = a then some (.frz o (.lst (ns.map V.int))) else none
theorem apart_some {o os : Obj} {ns : List Int} {a b : Addr} {yes : Bool} {u : HO} (h : apart o os ns a yes b = some u) : (b = sysModules ∧ u = .frz os (.ext fun _ => True)) ∨ (yes = true ∧ b = a ∧ u = .frz o (.lst (ns.map V.int))) := by
  unfold apart at h
  split at h
  · rename_i q; exact .inl ⟨q, (Option.some.inj h).symm⟩
  · split at h
    · rename_i q; exact .inr ⟨q.1, q.2, (Option.some.inj h).symm⟩
    · cases h
theorem law_goes {P : Program} {w : World} {K : PySem.W.Frag} {mg mb : Str → Option Value} {k : Nat} {fa a : Addr} {fd : FuncData} {x : Str} {G : PF} {s : Shared} {vs : List Value} {ns : List Int}
    (hK : K.In s.heap) (hmg : s.heap.Ns mainGlobals mg) (hmb : s.heap.Ns builtinsNs mb) (hbt : ∀ x : Str, x ≠ "__name__" → mb x = bootBuiltins x) (hlim : s.heap.NoLimit) (hgens : s.gens = #[]) (hsee : s.heap.NoSeer) (hk1 : K.lookup sysModules = none)
    (hobj : s.heap.get? a = some { cls := .type "list", data := .seq vs.toArray }) (hints : IntsAre vs ns) (hlen : ns.length ≤ sizeLine) (hroom : Room k callerA)
    (hfn : ∀ base : Heap, K.In base → base.Ns mainGlobals mg → FnG P w K mg base CX0 k fa fd [x] (spP K 1 G)) (hbind : ∀ (s : Shared) (u : Value), BindsTo s fd ⟨[u], []⟩ [(x, u)])
    (hlaw : G [.list (ns.map .int)] = some (.bool true)) :
    codeAny (model P w) callerA (.call (.ref fa) ⟨[.ref a], []⟩) (fun r s' => r = .ok (.ret (.bool true)) ∧ OldK s.heap s'.heap ∧ s'.os = s.os ∧ AllBare s'.gens) s := by
  have rv : Vals (ns.map V.int) vs := vals_ints hints
  let o : Obj := { cls := .type "list", data := .seq vs.toArray }
  obtain ⟨osy, hsy, esy, epy, hdy⟩ : ∃ osy, s.heap.get? sysModules = some osy ∧ ∃ es ep, osy.data = .dict es ep := by
    obtain ⟨mm, ⟨ob, es, ep, e, d, _⟩, _⟩ := hsee.mods
    exact ⟨ob, e, es, ep, d⟩
  have ha : a ≠ sysModules := fun e => by
    rw [e, hsy] at hobj
    cases hobj
    cases hdy
  let H : Hp := apart o osy ns a (K.lookup a).isNone
  have hH : ∀ {b u}, H b = some u → (b = sysModules ∧ u = .frz osy (.ext fun _ => True)) ∨ (b = a ∧ u = .frz o (.lst (ns.map V.int)) ∧ K.lookup a = none) := fun h => by
    rcases apart_some h with h | ⟨h1, h2, h3⟩
    · exact .inl h
    · exact .inr ⟨h2, h3, by simpa using h1⟩
  -- a dict is not the script
  have free : ∀ {b : Addr} {ob : Obj} {es : Array DictEntry} {ep : Nat}, b ≠ sysModules → s.heap.get? b = some ob → ob.data = .dict es ep → H b = none := fun {b ob es ep} hb e d => by
    cases q : H b with
    | none => rfl
    | some u =>
      rcases hH q with ⟨z, _⟩ | ⟨rfl, _⟩
      · exact absurd z hb
      · rw [hobj] at e
        cases e
        cases d
  have names : ∀ {b : Addr} {m : Str → Option Value}, b ≠ sysModules → s.heap.Ns b m → (hidT s.heap H).Ns b m := fun {b m} hb ⟨ob, es, ep, e, d, r⟩ => ⟨ob, es, ep, hidT_get e (free hb e d), d, r⟩
  have hKin : K.In (hidT s.heap H) := fun b ob e => hidT_get (hK b ob e) (by
    cases q : H b with
    | none => rfl
    | some u =>
      rcases hH q with ⟨rfl, _⟩ | ⟨rfl, _, hn⟩
      · rw [hk1] at e; cases e
      · rw [hn] at e; cases e)
  have hmod : Mod K mg (hidT s.heap H) := ⟨hKin, names (by decide) hmg, ⟨mb, names (by decide) hmb, hbt⟩, let ⟨mc, h1, h2⟩ := hlim; ⟨mc, names (by decide) h1, h2⟩⟩
  have hok : HOk P w H s.heap := fun b u h => by
    rcases hH h with ⟨rfl, rfl⟩ | ⟨rfl, rfl, _⟩
    · exact ⟨hsy, trivial, ⟨_, hsy⟩, fun _ _ _ _ => trivial⟩
    exact ⟨hobj, by rw [List.length_map]; exact hlen, vs, _, rv, hobj⟩
  have e0 : Env0 P w K mg (hidT s.heap H) callerA [] s H := ⟨rfl, hmod, fun b ob e => of_hidT e, Nat.le_of_eq (hidT_size _ _), trivial, fun b h => (List.not_mem_nil h).elim, hok, .of_eq hgens⟩
  have dint : ∀ ns : List Int, DqAll K (fun _ => True) H (ns.map V.int) (ns.map PyData.int) := fun ns => by
    induction ns with
    | nil => exact .nil
    | cons n ns ih => exact .cons (.int n) ih
  have hz : (ns.map PyData.int).length ≤ sizeLine := by rw [List.length_map]; exact hlen
  have harg : Dq K (fun _ => True) H (.ref a) (.list (ns.map .int)) := by
    cases q : K.lookup a with
    | none => exact .lst (.inr ⟨o, by show (if a = sysModules then _ else _) = _; rw [if_neg ha]; exact if_pos ⟨by rw [q]; rfl, rfl⟩⟩) trivial hz (dint ns)
    | some o' =>
      have e := hK a o' q
      rw [hobj] at e
      cases e
      exact .lstK ⟨vs, 0, q, rv, by rw [← rv.length, List.length_map]; exact hlen, by simpa using ha⟩ hz (dint ns)
  have hsp : spP K 1 G [.ref a] H (fun v _ => v = .bl true) E0 :=
    ⟨rfl, fun _ => True, _, _, ⟨fun _ _ => trivial, ⟨_, if_pos rfl, osy, _, rfl⟩, trivial⟩, .cons harg .nil, hlaw, fun v H' _ h => by cases h; rfl⟩
  refine codeAny_mono ((hfn _ hKin (names (by decide) hmg)).run callerA [] s H ⟨[.ref a], []⟩ [.ref a] [.ref a] _ _ rfl hroom e0 (hbind s (.ref a)) (.cons rfl .nil) hsp) fun r s' h => ?_
  match r, h with
  | .error e, h => exact h.elim
  | .ok .next, h => exact h.elim
  | .ok .brk, h => exact h.elim
  | .ok .cont, h => exact h.elim
  | .ok (.ret u), h =>
    obtain ⟨v, H', os, bare, un, hok', rr, q⟩ := h
    have q' : v = .bl true := q
    subst q'
    obtain rfl : u = Value.bool true := rr
    refine ⟨rfl, OldK.of_keep fun b ob e => ?_, os, bare⟩
    cases q : H b with
    | none => exact un.keep b ob e q (fun z => (List.not_mem_nil z).elim) (fun z => (List.not_mem_nil z).elim)
    | some u =>
      rcases hH q with ⟨rfl, rfl⟩ | ⟨rfl, rfl, _⟩
      · obtain ⟨e2, _⟩ := hok' _ _ (un.frzs _ _ _ q)
        rw [hsy] at e
        cases e
        exact e2
      · obtain ⟨e2, _⟩ := hok' b _ (un.frzs b _ _ q)
        rw [hobj] at e
        cases e
        exact e2
end Fz

set_option linter.all false
set_option autoImplicit false
set_option maxRecDepth 100000
/-! FzS13: sums, greatest and least items, lists made of a list many times. -/
namespace Fz
open PySem PySem.Spec PyProof.Rows L2

theorem mem_fold_max : ∀ (r : List Int) (x : Int), r.foldl max x ∈ x :: r ∧ ∀ y ∈ x :: r, y ≤ r.foldl max x
  | [], x => ⟨by simp, by simp⟩
  | a :: r, x => by
    obtain ⟨h1, h2⟩ := mem_fold_max r (max x a)
    refine ⟨?_, fun y hy => ?_⟩
    · simp only [List.foldl_cons]
      rcases List.mem_cons.mp h1 with h | h
      · rw [h]
        rcases Int.le_total x a with q | q
        · rw [Int.max_eq_right q]; simp
        · rw [Int.max_eq_left q]; simp
      · simp [h]
    · simp only [List.foldl_cons]
      have h3 := h2 (max x a) (by simp)
      rcases List.mem_cons.mp hy with h | h
      · rw [h]; omega
      · rcases List.mem_cons.mp h with h | h
        · rw [h]; omega
        · exact h2 y (by simp [h])
theorem mem_fold_min : ∀ (r : List Int) (x : Int), r.foldl min x ∈ x :: r ∧ ∀ y ∈ x :: r, r.foldl min x ≤ y
  | [], x => ⟨by simp, by simp⟩
  | a :: r, x => by
    obtain ⟨h1, h2⟩ := mem_fold_min r (min x a)
    refine ⟨?_, fun y hy => ?_⟩
    · simp only [List.foldl_cons]
      rcases List.mem_cons.mp h1 with h | h
      · rw [h]
        rcases Int.le_total x a with q | q
        · rw [Int.min_eq_left q]; simp
        · rw [Int.min_eq_right q]; simp
      · simp [h]
    · simp only [List.foldl_cons]
      have h3 := h2 (min x a) (by simp)
      rcases List.mem_cons.mp hy with h | h
      · rw [h]; omega
      · rcases List.mem_cons.mp h with h | h
        · rw [h]; omega
        · exact h2 y (by simp [h])
theorem maxI_is {ns : List Int} {m : Int} (h : maxI ns = some m) : 0 < ns.length ∧ ∀ k, k ∈ ns → (∀ y, y ∈ ns → y ≤ k) → k = m := by
  cases ns with
  | nil => cases h
  | cons x r =>
    cases h
    obtain ⟨h1, h2⟩ := mem_fold_max r x
    exact ⟨by simp, fun k hk hm => Int.le_antisymm (h2 k hk) (hm _ h1)⟩
theorem minI_is {ns : List Int} {m : Int} (h : minI ns = some m) : 0 < ns.length ∧ ∀ k, k ∈ ns → (∀ y, y ∈ ns → k ≤ y) → k = m := by
  cases ns with
  | nil => cases h
  | cons x r =>
    cases h
    obtain ⟨h1, h2⟩ := mem_fold_min r x
    exact ⟨by simp, fun k hk hm => Int.le_antisymm (hm _ h1) (h2 k hk)⟩
section
variable {X : Cx}
theorem fc_sum (hc : X.calm = true := by rfl) : FCall X (.builtin "sum") fSum := by
  intro pins s σ H xs us Q I rx ⟨P, ds, r, hf, hd, eg, q⟩
  match ds, hd, eg with
  | [d], hd, eg =>
    simp only [fSum, Option.bind_eq_some_iff, Option.map_eq_some_iff] at eg
    obtain ⟨es, e1, ns, e2, rfl⟩ := eg
    obtain ⟨x, rfl, hx⟩ := all1 hd
    cases d <;> cases e1
    · obtain ⟨a, ys, rfl, h1, h2⟩ := hx.lst_inv
      exact cr_sum hc pins s σ H _ us Q I rx ⟨a, ns, rfl, by rw [← h2.ints e2]; exact h1.seq, q _ H (Same.refl H) (.int _)⟩
    · obtain ⟨a, ys, rfl, h1, h2, _⟩ := hx.tup_inv
      rw [h2.ints e2] at h1
      obtain ⟨its, rv, hl, _⟩ := I.tuple h1
      rw [Vals.ref1 rx]
      exact sum_tup (I.ok.hd hc) hl rv.ints fun h' tk t' hk => ⟨.int _, H, I.kept hk, ⟨_, rfl⟩, q _ H (Same.refl H) (.int _)⟩

section
variable {prog : Program} {w : World} {A : Around} {E : Value → Shared → Prop} {s : Shared} {a : Addr} {its : List Value} {ns : List Int} {Q : Value → Shared → Prop}
theorem max_tup (hh : A.handled = none) (hl : s.heap.IsTuple a its.toArray) (hi : IntsAre its ns) (hne : 0 < ns.length)
    (h : ∀ h' tk M t', (∀ b o, s.heap.get? b = some o → h'.get? b = some o) → M ∈ ns → (∀ y, y ∈ ns → y ≤ M) → Q (.int M t') { s with heap := h', toks := tk }) : wpAny (model prog w) A (call (.builtin "max") [.ref a]) Q E s := by
  have hz : its.toArray.size = ns.length := by simpa using hi.length
  refine call_max_walk (iter_tup hl fun s₂ e st hfp hne' => ?_)
  subst e
  refine ⟨_, _, _, _, _, _, _, rfl, Walks.tuple (A := A.in1) hh _ a hne' its.toArray, st, hfp, by omega, CmpOf.ints_gt (fun i => ns.getD i 0) (fun _ _ h => ints_at hi h), fun v h' tk hP hk => ?_⟩
  obtain ⟨t, rfl⟩ := ints_at hi hP
  obtain ⟨h1, h2⟩ := argBest_gt (fun i => ns.getD i 0) (its.toArray.size - 1)
  refine h h' tk _ t (kept_it hk) (PySem.getD_mem (by omega)) fun y hy => ?_
  obtain ⟨j, hj, rfl⟩ := mem_getD hy
  exact h2 j (by omega)
theorem min_tup (hh : A.handled = none) (hl : s.heap.IsTuple a its.toArray) (hi : IntsAre its ns) (hne : 0 < ns.length)
    (h : ∀ h' tk M t', (∀ b o, s.heap.get? b = some o → h'.get? b = some o) → M ∈ ns → (∀ y, y ∈ ns → M ≤ y) → Q (.int M t') { s with heap := h', toks := tk }) : wpAny (model prog w) A (call (.builtin "min") [.ref a]) Q E s := by
  have hz : its.toArray.size = ns.length := by simpa using hi.length
  refine call_min_walk (iter_tup hl fun s₂ e st hfp hne' => ?_)
  subst e
  refine ⟨_, _, _, _, _, _, _, rfl, Walks.tuple (A := A.in1) hh _ a hne' its.toArray, st, hfp, by omega, CmpOf.ints_lt (fun i => ns.getD i 0) (fun _ _ h => ints_at hi h), fun v h' tk hP hk => ?_⟩
  obtain ⟨t, rfl⟩ := ints_at hi hP
  obtain ⟨h1, h2⟩ := argBest_lt (fun i => ns.getD i 0) (its.toArray.size - 1)
  refine h h' tk _ t (kept_it hk) (PySem.getD_mem (by omega)) fun y hy => ?_
  obtain ⟨j, hj, rfl⟩ := mem_getD hy
  exact h2 j (by omega)
end
theorem fc_max (hc : X.calm = true := by rfl) : FCall X (.builtin "max") fMax := by
  intro pins s σ H xs us Q I rx ⟨P, ds, r, hf, hd, eg, q⟩
  match ds, hd, eg with
  | [d], hd, eg =>
    simp only [fMax, Option.bind_eq_some_iff, Option.map_eq_some_iff] at eg
    obtain ⟨es, e1, ns, e2, m, e3, rfl⟩ := eg
    obtain ⟨hne, hm⟩ := maxI_is e3
    obtain ⟨x, rfl, hx⟩ := all1 hd
    cases d <;> cases e1
    · obtain ⟨a, ys, rfl, h1, h2⟩ := hx.lst_inv
      exact cr_max hc pins s σ H _ us Q I rx ⟨a, ns, rfl, by rw [← h2.ints e2]; exact h1.seq, hne, fun k hk hb => by rw [hm k hk hb]; exact q _ H (Same.refl H) (.int _)⟩
    · obtain ⟨a, ys, rfl, h1, h2, _⟩ := hx.tup_inv
      rw [h2.ints e2] at h1
      obtain ⟨its, rv, hl, _⟩ := I.tuple h1
      rw [Vals.ref1 rx]
      exact max_tup (I.ok.hd hc) hl rv.ints hne fun h' tk M t' hk hM hb => ⟨.int _, H, I.kept hk, ⟨_, rfl⟩, by rw [hm M hM hb]; exact q _ H (Same.refl H) (.int _)⟩
  | [.int i, .int j], hd, eg =>
    cases eg
    obtain ⟨x, y, rfl, hx, hy⟩ := all2 hd
    have := hx.int_inv; subst this
    have := hy.int_inv; subst this
    exact call_max2 hc pins s σ H _ us Q I rx ⟨i, j, rfl, q _ H (Same.refl H) (.int _)⟩
theorem fc_min (hc : X.calm = true := by rfl) : FCall X (.builtin "min") fMin := by
  intro pins s σ H xs us Q I rx ⟨P, ds, r, hf, hd, eg, q⟩
  match ds, hd, eg with
  | [d], hd, eg =>
    simp only [fMin, Option.bind_eq_some_iff, Option.map_eq_some_iff] at eg
    obtain ⟨es, e1, ns, e2, m, e3, rfl⟩ := eg
    obtain ⟨hne, hm⟩ := minI_is e3
    obtain ⟨x, rfl, hx⟩ := all1 hd
    cases d <;> cases e1
    · obtain ⟨a, ys, rfl, h1, h2⟩ := hx.lst_inv
      exact cr_min hc pins s σ H _ us Q I rx ⟨a, ns, rfl, by rw [← h2.ints e2]; exact h1.seq, hne, fun k hk hb => by rw [hm k hk hb]; exact q _ H (Same.refl H) (.int _)⟩
    · obtain ⟨a, ys, rfl, h1, h2, _⟩ := hx.tup_inv
      rw [h2.ints e2] at h1
      obtain ⟨its, rv, hl, _⟩ := I.tuple h1
      rw [Vals.ref1 rx]
      exact min_tup (I.ok.hd hc) hl rv.ints hne fun h' tk M t' hk hM hb => ⟨.int _, H, I.kept hk, ⟨_, rfl⟩, by rw [hm M hM hb]; exact q _ H (Same.refl H) (.int _)⟩
  | [.int i, .int j], hd, eg =>
    cases eg
    obtain ⟨x, y, rfl, hx, hy⟩ := all2 hd
    have := hx.int_inv; subst this
    have := hy.int_inv; subst this
    exact call_min2 hc pins s σ H _ us Q I rx ⟨i, j, rfl, q _ H (Same.refl H) (.int _)⟩
/-- a list times an int, to be changed -/
def eMulM (a b : RE) : RE := fun l m => (a l m).bind fun p => (b l p.2).bind fun q => (deref q.2 p.1).bind fun d => (deref q.2 q.1).bind fun e => (pMul d e).bind fun r => match r with
  | .list xs => some (.r q.2.length, q.2 ++ [.lst (xs.map S.d)])
  | _ => none
theorem fe_mulM {a b : Expr} {fa fb : RE} {pos : Pos} (ha : FE X a fa) (hb : FE X b fb) : FE X (.BinOp a .Mult b pos) (eMulM fa fb) := PE.imp (pe_op op_repR ha hb) fun σ H Q ⟨w, l, s, m', W, L, e, k⟩ => by
  simp only [eMulM, Option.bind_eq_some_iff] at e
  obtain ⟨p, e1, q, e2, d, e3, d2, e4, r, e5, e6⟩ := e
  refine goF W L e1 fun w1 H1 v1 c1 E1 W1 L1 s1 => goF W1 L1 (by rw [c1]; exact e2) fun w2 H2 v2 c2 E2 W2 L2 s2 => ?_
  have h1 := (s1.go W1 E2).deref W2 (by rw [c2]; exact e3)
  have h2 := s2.deref W2 (by rw [c2]; exact e4)
  cases r with
  | list xs =>
    cases d <;> cases d2 <;> try (cases e5; done)
    · simp only [pMul] at e5
      split at e5 <;> cases e5
    · rename_i ds kk
      simp only [pMul] at e5
      split at e5
      · rename_i hz
        obtain ⟨hz, hk, hk2⟩ := hz
        cases e5
        cases e6
        obtain ⟨a, xs, rfl, h1, h3⟩ := h1.lst_inv
        have e2 := h2.int_inv; subst e2
        have hll : (lim : Int) = 1000000 := rfl
        have hll' : lim = 1000000 := rfl
        have hs := sizeLine_eq
        have hl : xs.length * kk.toNat ≤ sizeLine := by rw [h3.len]; omega
        refine ⟨a, kk, xs, rfl, rfl, h1, by omega, by omega, hl, fun p hp => ?_⟩
        refine k (w2.push p (.lst ((List.replicate kk.toNat ds).flatten.map S.d))) _ _ (by rw [← c2]; rfl) (E1.trans (E2.trans (push_ex W2 hp))) (push_wd W2 hp (fun ss e => ?_) (fun _ e => by cases e) (fun _ e => by cases e)) ⟨by rw [← c2]; simp [Wo.push], by rw [← c2]; exact congrArg V.ref push_al'.symm⟩
        cases e
        refine ⟨?_, (List.replicate kk.toNat xs).flatten, rfl, SVs.d (h3.rep kk.toNat)⟩
        rw [List.length_map, ← (h3.rep kk.toNat).len, PyProof.Rows.lm_len_rep_flat, Nat.mul_comm]
        exact hl
      · cases e5
    · simp only [pMul] at e5
      split at e5 <;> cases e5
  | _ => cases e6
end
end Fz

set_option linter.all false
set_option autoImplicit false
set_option maxRecDepth 100000
/-! FzS14: enumerate and zip over lists and tuples, mixed. -/
namespace Fz
open PySem PySem.Spec PyProof.Rows L2

def SqB (b : Bool) (K : PySem.W.Frag) (H : Hp) (a : Addr) (xs : List V) : Prop := if b = true then SqL K H a xs else SqT K H a xs
def IsB (b : Bool) (h : Heap) (a : Addr) (its : Array Value) : Prop := if b = true then h.IsList a its else h.IsTuple a its
def ItB (b : Bool) (h : Heap) (it a : Addr) (i : Nat) : Prop := if b = true then h.IsListIter it a i else h.IsTupleIter it a i
def itO (b : Bool) (a : Addr) : Obj := if b = true then { cls := .type "list_iterator", data := .fields #[.ref a, .int 0 0] } else { cls := .type "tuple_iterator", data := .fields #[.ref a, .int 0 0] }
theorem drawsB {prog : Program} {w : World} {A : Around} (hh : A.handled = none) (b : Bool) (it a : Addr) (hne : a ≠ it) (items : Array Value) :
    Draws prog w A it [it, a] items.size (fun i v => items[i]? = some v) (fun i h => ItB b h it a i ∧ IsB b h a items) := by
  cases b
  · exact Draws.tuple hh it a hne items
  · exact Draws.list hh it a hne items
theorem beginsB (b : Bool) (a : Addr) (items : Array Value) : Begins (.ref a) (itO b a) fun h => IsB b h a items := by
  cases b
  · exact begins_tuple a items
  · exact begins_list a items
theorem IsB.lt {b : Bool} {h : Heap} {a : Addr} {its : Array Value} (p : IsB b h a its) : a < h.objs.size := by
  cases b
  · obtain ⟨_, e, _⟩ := (show h.IsTuple a its from p); exact Heap.lt_size e
  · obtain ⟨_, e, _⟩ := (show h.IsList a its from p); exact Heap.lt_size e
theorem ItB.at {b : Bool} {h h' : Heap} {it a : Addr} {i : Nat} (p : ItB b h it a i) (k : ∀ o, h.get? it = some o → h'.get? it = some o) : ItB b h' it a i := by
  cases b
  · obtain ⟨o, e, r⟩ := (show h.IsTupleIter it a i from p); exact ⟨o, k o e, r⟩
  · exact (show h.IsListIter it a i from p).at k
theorem ItB.obj {b : Bool} {h : Heap} {it a : Addr} {i : Nat} (p : ItB b h it a i) : ∃ o, h.get? it = some o ∧ ∀ v, o.data ≠ .cell v := by
  cases b
  · obtain ⟨o, e, _, d⟩ := (show h.IsTupleIter it a i from p); exact ⟨o, e, fun v q => by rw [d] at q; cases q⟩
  · obtain ⟨o, e, _, d⟩ := (show h.IsListIter it a i from p); exact ⟨o, e, fun v q => by rw [d] at q; cases q⟩
theorem ItB.new {b : Bool} {h : Heap} {it a : Addr} (e : h.get? it = some (itO b a)) : ItB b h it a 0 := by
  cases b
  · exact ⟨_, e, rfl, rfl⟩
  · exact ⟨_, e, rfl, rfl⟩
theorem IsB.ne {b : Bool} {h : Heap} {a it a' : Addr} {i : Nat} {its : Array Value} (p : IsB b h a its) (q : ItB b h it a' i) : a ≠ it := fun e => by
  subst e
  cases b
  · obtain ⟨o1, q1, c1, _⟩ := (show h.IsTuple a its from p)
    obtain ⟨o2, q2, c2, _⟩ := (show h.IsTupleIter a a' i from q)
    rw [q1] at q2; cases q2; rw [c1] at c2
    exact absurd c2 (by decide)
  · obtain ⟨o1, q1, c1, _⟩ := (show h.IsList a its from p)
    obtain ⟨o2, q2, c2, _⟩ := (show h.IsListIter a a' i from q)
    rw [q1] at q2; cases q2; rw [c1] at c2
    exact absurd c2 (by decide)
section
variable {X : Cx} {pins : List (Addr × Obj)} {σ : L2.St} {H : Hp} {s : Shared}
theorem _root_.L2.Inv.sqB {b : Bool} {a : Addr} {xs : List V} (I : Inv X pins σ H s) (h : SqB b X.K H a xs) : ∃ its, Vals xs its ∧ IsB b s.heap a its.toArray := by
  cases b
  · obtain ⟨its, rv, p, _⟩ := I.tuple h
    exact ⟨its, rv, p⟩
  · obtain ⟨its, rv, p, _⟩ := I.list h
    exact ⟨its, rv, p.isList⟩
theorem _root_.L2.Inv.sqB_inj {b : Bool} {a : Addr} {xs ys : List V} (I : Inv X pins σ H s) (h : SqB b X.K H a xs) (h2 : SqB b X.K H a ys) : xs = ys := by
  cases b
  · exact I.tuple_inj h h2
  · exact I.list_inj h h2
end

/-! ### enumerate -/
def IteB (b : Bool) (K : PySem.W.Frag) (a : Addr) : It :=
  ⟨fun i H => ∃ (xs : List V) (x : V), SqB b K H a xs ∧ xs[i]? = some x, fun i H v H' => ∃ T x, v = .ref T ∧ H T = none ∧ (∃ o : Obj, o.dict = none ∧ H' = upd H T (.frz o (.tup [.int (i : Nat), x]))) ∧ ∀ xs, SqB b K H a xs → xs[i]? = some x, fun i H => ∃ xs : List V, SqB b K H a xs ∧ xs.length = i⟩
theorem turn_enumB {P : Program} {w : World} {K : PySem.W.Frag} {elts : List Expr} {kk : Nat} {tpos : Pos} (b : Bool) (a e it : Addr) (hae : a ≠ e) (hai : a ≠ it) :
    Turn P w K (.Tuple elts kk tpos) (IteB b K a) [e, it] e (fun i h => (∃ old, IsEnum h e it ((i : Nat) : Int) old) ∧ ItB b h it a i ∧ e ≠ it) where
  mem := by simp
  obj := fun i h st c hb => by
    obtain ⟨⟨old, he⟩, hi, _⟩ := st
    have e' : c = e ∨ c = it := by simpa using hb
    rcases e' with z | z
    · rw [z]; exact ⟨_, he, fun v q => nomatch q⟩
    · rw [z]; exact hi.obj
  keep := fun i h h' st k => let ⟨⟨old, he⟩, hi, hne⟩ := st; ⟨⟨old, k e (by simp) _ he⟩, hi.at fun o q => k it (by simp) o q, hne⟩
  item := by
    intro X hP hw hK hc i pins s σ H E I hf st hg
    subst hP hw hK
    obtain ⟨⟨old, he⟩, hit, hne⟩ := st
    obtain ⟨xs, x, hq, hx⟩ := hg
    obtain ⟨its, rv, p⟩ := I.sqB hq
    obtain ⟨u, hu, ru⟩ := rv.get hx
    have hel : e < s.heap.objs.size := Heap.lt_size he
    have hil : it < s.heap.objs.size := by obtain ⟨_, q, _⟩ := hit.obj; exact Heap.lt_size q
    have hlt : i < its.toArray.size := by
      have := (List.getElem?_eq_some_iff.mp hu).1
      simpa using this
    refine wpAny_pyNext_enum_itemC (drawsB (A := X.A.in1) (I.ok.hd hc) b it a hai its.toArray) he ⟨hit, p⟩ hlt hne (by simp [hne, Ne.symm hae]) fun y h' tk hy ho st' hT hsz hk => ?_
    obtain rfl : u = y := by
      have hu' : its.toArray[i]? = some u := by simpa using hu
      exact Option.some.inj (hu'.symm.trans hy)
    have hit' := st'.1
    refine ⟨_, rfl, wpAny_letOwnedTupleGo_enum (s := { s with heap := h', toks := tk + 1 }) ho fun h'' he' sb => ?_⟩
    have hT2 : h''.get? s.heap.objs.size = some { cls := .type "tuple", data := .seq #[.int i tk, u] } := (sb.2 _ (Nat.ne_of_gt hel)).trans hT
    have new : ObjOk X.prog X.w (upd H s.heap.objs.size (.frz { cls := .type "tuple", data := .seq #[.int i tk, u] } (.tup [.int (i : Nat), x]))) h'' s.heap.objs.size (.frz { cls := .type "tuple", data := .seq #[.int i tk, u] } (.tup [.int (i : Nat), x])) :=
      ⟨hT2, by show 2 ≤ sizeLine; decide, [.int i tk, u], .cons ⟨_, rfl⟩ (.cons ru .nil), ⟨_, hT2, rfl, _, rfl⟩⟩
    have I1 : Inv X pins σ (upd H s.heap.objs.size (.frz { cls := .type "tuple", data := .seq #[.int i tk, u] } (.tup [.int (i : Nat), x]))) { s with heap := h'', toks := tk + 1 } :=
      I.turnedNew (ch := [e, it]) (fun b ob hb q => (sb.2 b (fun z => hb (by simp [z]))).trans (hk b ob (fun z => hb (by simp [z])) (fun z => hb (by simp [z])) q)) hf (Nat.le_refl _) new
    refine ⟨.ref s.heap.objs.size, _, I1, rfl, ⟨_, x, rfl, I.hok.fresh (Nat.le_refl _), ⟨_, rfl, rfl⟩, fun ys hy => by rw [I.sqB_inj hy hq]; exact hx⟩, ⟨⟨u, ?_⟩, hit'.at fun o q => (sb.2 it (Ne.symm hne)).trans q, hne⟩, fun c hb => ?_⟩
    · have e1 : ((i + 1 : Nat) : Int) = (i : Int) + 1 := by omega
      rw [e1]; exact he'
    · have hb' : c < s.heap.objs.size := by
        have e' : c = e ∨ c = it := by simpa using hb
        rcases e' with z | z
        · rw [z]; exact hel
        · rw [z]; exact hil
      rw [upd_ne (Nat.ne_of_lt hb')]
      exact (hf c hb).1
  done := by
    intro X hP hw hK hc i pins s σ H E I hf st hg
    subst hP hw hK
    obtain ⟨⟨old, he⟩, hit, hne⟩ := st
    obtain ⟨xs, hq, hx⟩ := hg
    obtain ⟨its, rv, p⟩ := I.sqB hq
    obtain ⟨f0, f1, f2, f3, f4, f5⟩ := hf it (by simp)
    have hl := rv.length
    have hn : its.toArray.size = i := by simp; omega
    refine wpAny_pyNext_enum_endD (drawsB (A := X.A.in1) (I.ok.hd hc) b it a hai its.toArray) he (show (fun i h => ItB b h it a i ∧ IsB b h a its.toArray) its.toArray.size s.heap from by rw [hn]; exact ⟨hit, p⟩) fun h' eb => ⟨rfl, I.turned (t' := s.toks) (fun b o hb q => eb b o hb q) f0 f1 f3 f4 f5⟩
  self := fun A i s Q E st h => let ⟨⟨_, he⟩, _⟩ := st; wpAny_pyIter_enum he h
set_option maxHeartbeats 1000000 in
theorem meets_enumerate_newB1 {v : Value} {o : Obj} {H : Heap → Prop} (B : Begins v o H) :
    Meets (Builtin.«enumerate.__new__» ⟨[.type "enumerate", v], []⟩) (fun _ R s => H s.heap ∧
      R (.ok (.ret (.ref (s.heap.push o).objs.size))) { s with heap := (s.heap.push o).push { cls := .type "enumerate", data := .fields #[.none, .bool false, .ref s.heap.objs.size, rawInt 0, .none, .none] } }) :=
  .of_wp fun prog w A R s h => by
    obtain ⟨hp, g, d, tk, os⟩ := s; obtain ⟨h1, h⟩ := h
    have hsub := sub_enumerate
    have q1 : ∀ {A' : Around} {E : Value → Shared → Prop} {Q : Value → Shared → Prop}, Q (.ref hp.objs.size) ⟨hp.push o, g, d, tk, os⟩ → wpAny (model prog w) A' (pyIter v) Q E ⟨hp, g, d, tk, os⟩ :=
      fun q => B.iter prog w _ _ ⟨hp, g, d, tk, os⟩ _ h1 q
    wp_walk using q1
    refine wpAny_stack_any fun st => wpAny_pure ?_
    split
    · rename_i c _ _ _ _ _
      cases (c == Value.type "enumerate")
      · wp_walk using q1
        exact ⟨_, rfl, h⟩
      · wp_walk using q1
        exact ⟨_, rfl, h⟩
    · wp_walk using q1
      exact ⟨_, rfl, h⟩
theorem enum_begins1 {prog : Program} {w : World} {A : Around} {E : Value → Shared → Prop} {s : Shared} {v : Value} {o : Obj} {H : Heap → Prop} {Q : Value → Shared → Prop} (B : Begins v o H) (h1 : H s.heap)
    (h : ∀ h', IsEnum h' (s.heap.objs.size + 1) s.heap.objs.size 0 .none → h'.get? s.heap.objs.size = some o → h'.objs.size = s.heap.objs.size + 2 →
      (∀ b o, s.heap.get? b = some o → h'.get? b = some o) → Q (.ref (s.heap.objs.size + 1)) { s with heap := h' }) :
    wpAny (model prog w) A (call (.type "enumerate") [v]) Q E s := by
  refine callType_new F.called_enumerate (by decide) (F.typeCall_enumerate_1 _) (F.newCall_enumerate_1 _) (fun obj => F.args_object_init_2 obj _) F.entry_enumerate_new
    (meets_enumerate_newB1 B) ⟨h1, ?_⟩
  have hz : (s.heap.push o).objs.size = s.heap.objs.size + 1 := Heap.size_push ..
  show _ ∧ _
  rw [hz]
  have he : IsEnum ((s.heap.push o).push { cls := .type "enumerate", data := .fields #[.none, .bool false, .ref s.heap.objs.size, rawInt 0, .none, .none] }) (s.heap.objs.size + 1) s.heap.objs.size 0 .none := by
    have := Heap.get?_push_size (s.heap.push o) (o := { cls := .type "enumerate", data := .fields #[.none, .bool false, .ref s.heap.objs.size, rawInt 0, .none, .none] }) rfl
    rw [hz] at this; exact this
  refine ⟨⟨_, he, rfl⟩, h _ he (Heap.get?_push_of_some _ (Heap.get?_push_size _ B.free)) (by rw [Heap.size_push, hz]) fun b o x => Heap.get?_push_of_some _ (Heap.get?_push_of_some _ x)⟩
def tEnumB (K : PySem.W.Frag) (ta : TA) : TI := fun σ H R => ta σ H fun vs H1 => ∃ b a xs, vs = [.ref a] ∧ SqB b K H1 a xs ∧ R (IteB b K a) H1
theorem pi_enumB {X : Cx} {e : Expr} {ta : TA} {p pos tpos : Pos} {elts : List Expr} {kk : Nat} (hg : Gl X "enumerate") (hm : X.mg "enumerate" = none) (ha : PA X [e] ta) (hs : starEach [e] X.env = [(false, eval e X.env)] := by rfl) :
    PI X (.Tuple elts kk tpos) (.Call (.Name "enumerate" p) [e] [] pos) (tEnumB X.K ta) := by
  refine ⟨fun pins s σ H R I h => ?_⟩
  refine Call_ (ld_blt I hg hm boot_enumerate (PyProof.Rows.callWith_type1 (thn (ha.run pos pins s σ H _ I h) fun us s1 ⟨vs, H1, I1, r1, q1⟩ => ?_) hs rfl))
  obtain ⟨b, a, xs, ex, hq, q⟩ := q1
  subst ex
  cases r1 with
  | cons r rr =>
    cases rr
    cases r
    obtain ⟨its, rv, p'⟩ := I1.sqB hq
    have hla := p'.lt
    refine enum_begins1 (beginsB b a its.toArray) p' fun h' he hit hsz hk => wpAny_pyIter_enum he ?_
    have I2 : Inv X pins σ H1 { s1 with heap := h' } := I1.kept (t' := s1.toks) hk
    refine ⟨s1.heap.objs.size + 1, [s1.heap.objs.size + 1, s1.heap.objs.size], _, _, H1, rfl, I2, turn_enumB b a (s1.heap.objs.size + 1) s1.heap.objs.size (Nat.ne_of_lt (Nat.lt_succ_of_lt hla)) (Nat.ne_of_lt hla), ⟨⟨.none, he⟩, .new hit, Nat.succ_ne_self _⟩, fun c hb => ?_, q⟩
    have e' : c = s1.heap.objs.size + 1 ∨ c = s1.heap.objs.size := by simpa using hb
    have hle : s1.heap.objs.size ≤ c := by
      rcases e' with z | z
      · rw [z]; exact Nat.le_add_right _ _
      · rw [z]; exact Nat.le_refl _
    exact I1.fpOk hle (I1.hok.fresh hle)

/-! ### zip -/
def ItzB (b c : Bool) (K : PySem.W.Frag) (a d : Addr) : It :=
  ⟨fun i H => ∃ (xs ys : List V) (x y : V), SqB b K H a xs ∧ SqB c K H d ys ∧ xs[i]? = some x ∧ ys[i]? = some y,
    fun i H v H' => ∃ T x y, v = .ref T ∧ H T = none ∧ (∃ o : Obj, o.dict = none ∧ H' = upd H T (.frz o (.tup [x, y]))) ∧ (∀ xs, SqB b K H a xs → xs[i]? = some x) ∧ ∀ ys, SqB c K H d ys → ys[i]? = some y,
    fun i H => ∃ xs ys : List V, SqB b K H a xs ∧ SqB c K H d ys ∧ min xs.length ys.length = i⟩
theorem turn_zipB {P : Program} {w : World} {K : PySem.W.Frag} {elts : List Expr} {kk : Nat} {tpos : Pos} {b c : Bool} {a d z TI TO i1 i2 : Addr} (S : ZipSep2 z TI TO i1 i2 [i1, a] [i2, d]) :
    Turn P w K (.Tuple elts kk tpos) (ItzB b c K a d) [z, TI, TO, i1, i2] z (fun i h => IsZip h z TI TO .none ∧ IsTupOf2 h TI (.ref i1) (.ref i2) ∧ (∃ x y, IsTupOf2 h TO x y) ∧ ItB b h i1 a i ∧ ItB c h i2 d i) where
  mem := by simp
  obj := fun i h st q hq => by
    obtain ⟨hz, hTI, ⟨x, y, hTO⟩, h1, h2⟩ := st
    have e' : q = z ∨ q = TI ∨ q = TO ∨ q = i1 ∨ q = i2 := by simpa using hq
    rcases e' with e | e | e | e | e
    · rw [e]; exact ⟨_, hz, fun v q => nomatch q⟩
    · rw [e]; exact ⟨_, hTI, fun v q => nomatch q⟩
    · rw [e]; exact ⟨_, hTO, fun v q => nomatch q⟩
    · rw [e]; exact h1.obj
    · rw [e]; exact h2.obj
  keep := fun i h h' st k => by
    obtain ⟨hz, hTI, ⟨x, y, hTO⟩, h1, h2⟩ := st
    exact ⟨k z (by simp) _ hz, k TI (by simp) _ hTI, ⟨x, y, k TO (by simp) _ hTO⟩, h1.at fun o q => k i1 (by simp) o q, h2.at fun o q => k i2 (by simp) o q⟩
  item := by
    intro X hP hw hK hc i pins s σ H E I hf st hg
    subst hP hw hK
    obtain ⟨hz, hTI, ⟨x0, y0, hTO⟩, h1, h2⟩ := st
    obtain ⟨xs, ys, x, y, hqx, hqy, hx, hy⟩ := hg
    obtain ⟨its, rv, p⟩ := I.sqB hqx
    obtain ⟨its2, rv2, p2⟩ := I.sqB hqy
    obtain ⟨u, hu, ru⟩ := rv.get hx
    obtain ⟨u2, hu2, ru2⟩ := rv2.get hy
    have hzl : z < s.heap.objs.size := Heap.lt_size hz
    have n1 : a ≠ i1 := p.ne h1
    have n2 : d ≠ i2 := p2.ne h2
    have hlt : i < its.toArray.size := by have := (List.getElem?_eq_some_iff.mp hu).1; simpa using this
    have hlt2 : i < its2.toArray.size := by have := (List.getElem?_eq_some_iff.mp hu2).1; simpa using this
    refine wpAny_pyNext_zipD2_item S (drawsB (A := X.A.in1) (I.ok.hd hc) b i1 a n1 its.toArray) (drawsB (A := X.A.in1) (I.ok.hd hc) c i2 d n2 its2.toArray) hz hTI hTO ⟨h1, p⟩ ⟨h2, p2⟩ hlt hlt2 fun v1 v2 h' tk e1 e2 z' TO' st1 st2 hT hsz hk => ?_
    obtain rfl : u = v1 := by
      have hu' : its.toArray[i]? = some u := by simpa using hu
      exact Option.some.inj (hu'.symm.trans e1)
    obtain rfl : u2 = v2 := by
      have hu' : its2.toArray[i]? = some u2 := by simpa using hu2
      exact Option.some.inj (hu'.symm.trans e2)
    refine ⟨_, rfl, wpAny_letOwnedTupleGo_zip (s := { s with heap := h', toks := tk }) z' fun h'' z'' sb => ?_⟩
    have hT2 : h''.get? s.heap.objs.size = some { cls := .type "tuple", data := .seq #[u, u2] } := (sb.2 _ (Nat.ne_of_gt hzl)).trans hT
    have new : ObjOk X.prog X.w (upd H s.heap.objs.size (.frz { cls := .type "tuple", data := .seq #[u, u2] } (.tup [x, y]))) h'' s.heap.objs.size (.frz { cls := .type "tuple", data := .seq #[u, u2] } (.tup [x, y])) :=
      ⟨hT2, by show 2 ≤ sizeLine; decide, [u, u2], .cons ru (.cons ru2 .nil), ⟨_, hT2, rfl, _, rfl⟩⟩
    have I1 : Inv X pins σ (upd H s.heap.objs.size (.frz { cls := .type "tuple", data := .seq #[u, u2] } (.tup [x, y]))) { s with heap := h'', toks := tk } :=
      I.turnedNew (t' := tk) (ch := [z, TI, TO, i1, i2]) (fun c o hb q => (sb.2 c (fun q' => hb (by simp [q']))).trans (hk c o (fun q' => hb (by simp [q'])) (fun q' => hb (by simp [q'])) (fun q' => hb (by simp [q'])) (fun q' => hb (by simp [q'])) q)) hf (Nat.le_refl _) new
    refine ⟨.ref s.heap.objs.size, _, I1, rfl, ⟨_, x, y, rfl, I.hok.fresh (Nat.le_refl _), ⟨_, rfl, rfl⟩, fun l hl => by rw [I.sqB_inj hl hqx]; exact hx, fun l hl => by rw [I.sqB_inj hl hqy]; exact hy⟩, ⟨z'', ?_, ⟨u, u2, ?_⟩, ?_, ?_⟩, fun q hcm => ?_⟩
    · exact (sb.2 _ S.TIz).trans (hk _ _ S.TIz S.TITO S.TIi1 S.TIi2 hTI)
    · exact (sb.2 _ S.TOz).trans TO'
    · exact st1.1.at fun o q => (sb.2 _ (Ne.symm S.zi1)).trans q
    · exact st2.1.at fun o q => (sb.2 _ (Ne.symm S.zi2)).trans q
    · have hlt : q < s.heap.objs.size := by
        have e' : q = z ∨ q = TI ∨ q = TO ∨ q = i1 ∨ q = i2 := by simpa using hcm
        rcases e' with e | e | e | e | e
        · rw [e]; exact hzl
        · rw [e]; exact Heap.lt_size hTI
        · rw [e]; exact Heap.lt_size hTO
        · rw [e]; obtain ⟨_, e1, _⟩ := h1.obj; exact Heap.lt_size e1
        · rw [e]; obtain ⟨_, e2, _⟩ := h2.obj; exact Heap.lt_size e2
      rw [upd_ne (Nat.ne_of_lt hlt)]
      exact (hf q hcm).1
  done := by
    intro X hP hw hK hc i pins s σ H E I hf st hg
    subst hP hw hK
    obtain ⟨hz, hTI, ⟨x0, y0, hTO⟩, h1, h2⟩ := st
    obtain ⟨xs, ys, hqx, hqy, hend⟩ := hg
    obtain ⟨its, rv, p⟩ := I.sqB hqx
    obtain ⟨its2, rv2, p2⟩ := I.sqB hqy
    have l1 := rv.length
    have l2 := rv2.length
    have n1 : a ≠ i1 := p.ne h1
    have n2 : d ≠ i2 := p2.ne h2
    have z1 : its.toArray.size = its.length := by simp
    have z2 : its2.toArray.size = its2.length := by simp
    exact wpAny_pyNext_zipD2_end S (drawsB (A := X.A.in1) (I.ok.hd hc) b i1 a n1 its.toArray) (drawsB (A := X.A.in1) (I.ok.hd hc) c i2 d n2 its2.toArray) hz hTI hTO ⟨h1, p⟩ ⟨h2, p2⟩ (by omega) (by omega) (by omega) fun h' tk hk => ⟨rfl, I.turnedL (t' := tk) (ch := [z, TI, TO, i1, i2]) (fun c o hb q =>
      hk c o (fun q' => hb (by simp [q'])) (fun q' => hb (by simp [q'])) (fun q' => hb (by simp [q'])) (fun q' => hb (by simp [q'])) q) hf⟩
  self := fun A i s Q E st h => wpAny_pyIter_zip st.1 h
def tZipB (K : PySem.W.Frag) (ta : TA) : TI := fun σ H R => ta σ H fun vs H1 => ∃ b c a d xs ys, vs = [.ref a, .ref d] ∧ SqB b K H1 a xs ∧ SqB c K H1 d ys ∧ R (ItzB b c K a d) H1
theorem pi_zipB {X : Cx} {e e2 : Expr} {ta : TA} {p pos tpos : Pos} {elts : List Expr} {kk : Nat} (hg : Gl X "zip") (hm : X.mg "zip" = none) (ha : PA X [e, e2] ta)
    (hs : starEach [e, e2] X.env = (false, eval e X.env) :: starEach [e2] X.env := by rfl) (hpl : (backTo pos (starEach [e2] X.env)).any (·.1) = false := by rfl) :
    PI X (.Tuple elts kk tpos) (.Call (.Name "zip" p) [e, e2] [] pos) (tZipB X.K ta) := by
  refine ⟨fun pins s σ H R I h => ?_⟩
  refine Call_ (ld_blt I hg hm PyProof.Rows.boot_zip (PyProof.Rows.callWith_type1 (thn (ha.run pos pins s σ H _ I h) fun us s1 ⟨vs, H1, I1, r1, q1⟩ => ?_) hs hpl))
  obtain ⟨b, c, a, d, xs, ys, ex, hqx, hqy, q⟩ := q1
  subst ex
  cases r1 with
  | cons r rr =>
    cases rr with
    | cons r' rr =>
      cases rr
      cases r
      cases r'
      obtain ⟨its, rv, p1⟩ := I1.sqB hqx
      obtain ⟨its2, rv2, p2⟩ := I1.sqB hqy
      refine zip_begins2 (beginsB b a its.toArray) (beginsB c d its2.toArray) p1 p2 fun h' hz hTI hTO h1 h2 hsz hk => wpAny_pyIter_zip hz ?_
      have I2 : Inv X pins σ H1 { s1 with heap := h' } := I1.kept (t' := s1.toks) hk
      have S : ZipSep2 (s1.heap.objs.size + 4) (s1.heap.objs.size + 2) (s1.heap.objs.size + 3) s1.heap.objs.size (s1.heap.objs.size + 1) [s1.heap.objs.size, a] [s1.heap.objs.size + 1, d] :=
        zip_sep2 (N := s1.heap.objs.size) (fp1 := [a]) (fp2 := [d]) (fun b hb => by rw [List.mem_singleton.mp hb]; exact p1.lt) (fun b hb => by rw [List.mem_singleton.mp hb]; exact p2.lt)
      refine ⟨s1.heap.objs.size + 4, [s1.heap.objs.size + 4, s1.heap.objs.size + 2, s1.heap.objs.size + 3, s1.heap.objs.size, s1.heap.objs.size + 1], _, _, H1, rfl, I2, turn_zipB S, ⟨hz, hTI, ⟨_, _, hTO⟩, .new h1, .new h2⟩, fun c hcm => ?_, q⟩
      have e' : c = s1.heap.objs.size + 4 ∨ c = s1.heap.objs.size + 2 ∨ c = s1.heap.objs.size + 3 ∨ c = s1.heap.objs.size ∨ c = s1.heap.objs.size + 1 := by simpa using hcm
      have hle : s1.heap.objs.size ≤ c := by
        rcases e' with z | z | z | z | z
        · rw [z]; exact Nat.le_add_right _ _
        · rw [z]; exact Nat.le_add_right _ _
        · rw [z]; exact Nat.le_add_right _ _
        · rw [z]; exact Nat.le_refl _
        · rw [z]; exact Nat.le_add_right _ _
      exact I1.fpOk hle (I1.hok.fresh hle)
end Fz

set_option linter.all false
set_option autoImplicit false
set_option maxRecDepth 100000
/-! FzS15: readings of enumerate and zip. -/
namespace Fz
open PySem PySem.Spec PyProof.Rows L2
def Stay (K : PySem.W.Frag) (w : Wo) (H : Hp) (b : Bool) (a : Addr) (xs : List V) (ds : List PyData) : Prop :=
  ∀ P1 w2 H2, (∀ a o, H a = some o → w.P0 a → P1 a) → Ex (w.perm P1) H w2 H2 → Wd K w2 H2 → SqB b K H2 a xs ∧ DqAll K w2.P H2 xs ds
theorem stay_of {K : PySem.W.Frag} {w : Wo} {H : Hp} {v : V} {x : PyData} {ds : List PyData} (W : Wd K w H) (h : Dq K w.P H v x) (e : items x = some ds) : ∃ b a xs, v = .ref a ∧ ds.length ≤ sizeLine ∧ xs.length = ds.length ∧ SqB b K H a xs ∧ Stay K w H b a xs ds := by
  cases x <;> cases e
  · obtain ⟨a, xs, rfl, h1, h2, h3⟩ := h.lst_inv
    refine ⟨true, a, xs, rfl, h2, h3.len, RdL.seq (h1.imp And.left id), fun P1 w2 H2 hp E W2 => ⟨?_, DqAll.goP W hp E h3⟩⟩
    rcases h1 with ⟨h, p⟩ | h
    · refine .inl (Wd.rdL E h (⟨?_, p.2⟩ : (w.perm P1).P a)).1
      rcases h with h | ⟨o, h⟩ <;> exact hp a _ h p.1
    · exact RdL.seq (.inr h)
  · obtain ⟨a, xs, rfl, h1, h2, h3⟩ := h.tup_inv
    exact ⟨false, a, xs, rfl, h2, h3.len, h1, fun P1 w2 H2 hp E W2 => ⟨W.rdT (w' := w2.perm w.P0) ⟨rfl, E.len, E.same, E.keep⟩ h1, DqAll.goP W hp E h3⟩⟩
theorem new_pair {K : PySem.W.Frag} {w : Wo} {H : Hp} {x y : V} {d e : PyData} {T : Addr} {o : Obj} (ho : o.dict = none) (W : Wd K w H) (hT : H T = none) (h1 : Dq K w.P H x d) (h2 : Dq K w.P H y e) :
    ∃ w3, w3.m = w.m ∧ Ex w H w3 (upd H T (.frz o (.tup [x, y]))) ∧ Wd K w3 (upd H T (.frz o (.tup [x, y]))) ∧ SV K w3 (upd H T (.frz o (.tup [x, y]))) (.ref T) (.d (.tuple [d, e])) := by
  obtain ⟨S0, dq⟩ := new_tup (K := K) (P := w.P) (xs := [x, y]) (ds := [d, e]) (.cons h1 (.cons h2 .nil)) (by show 2 ≤ sizeLine; decide) ho hT
  obtain ⟨E, W'⟩ := W.same S0
  exact ⟨w, rfl, E, W', dq⟩
theorem pairs_len : ∀ (xs ys : List PyData), (pairs xs ys).length = min xs.length ys.length
  | [], _ => by simp [pairs]
  | _ :: _, [] => by simp [pairs]
  | x :: xs, y :: ys => by simp only [pairs, List.length_cons, pairs_len xs ys]; omega
theorem pairs_at : ∀ {xs ys : List PyData} {i : Nat} {z : PyData}, (pairs xs ys)[i]? = some z → ∃ x y, xs[i]? = some x ∧ ys[i]? = some y ∧ z = .tuple [x, y]
  | [], _, i, z, h => by simp [pairs] at h
  | _ :: _, [], i, z, h => by simp [pairs] at h
  | x :: xs, y :: ys, 0, z, h => by simp [pairs] at h; exact ⟨x, y, rfl, rfl, h.symm⟩
  | x :: xs, y :: ys, i + 1, z, h => by
    simp only [pairs, List.getElem?_cons_succ] at h ⊢
    exact pairs_at h
theorem yl_enum {K : PySem.W.Frag} {w : Wo} {H : Hp} {b : Bool} {a : Addr} {xs : List V} {ds : List PyData} (z : ds.length ≤ sizeLine) (hl : xs.length = ds.length) (St1 : Stay K w H b a xs ds) : Yl K w H (IteB b K a) ((pairs (upto ds.length) ds).map S.d) := by
  have hpl : ((pairs (upto ds.length) ds).map S.d).length = ds.length := by
    rw [List.length_map, pairs_len]; simp [upto]
  refine ⟨by rw [hpl]; exact z, fun P1 w2 H2 hp E W2 => ?_⟩
  obtain ⟨h2, r2⟩ := St1 P1 w2 H2 hp E W2
  refine ⟨⟨xs, h2, by rw [hpl]; exact hl⟩, fun i s e => ?_⟩
  obtain ⟨d0, e1, rfl⟩ := map_at e
  obtain ⟨x, y, hx, hy, rfl⟩ := pairs_at e1
  have hx' : x = .int (i : Nat) := by
    have : ((upto ds.length).map S.d)[i]? = some (.d x) := by rw [List.getElem?_map, hx]; rfl
    obtain ⟨_, q⟩ := upto_at this
    exact S.d.inj q
  subst hx'
  obtain ⟨v, e2, r3⟩ := r2.at i y hy
  refine ⟨⟨xs, v, h2, e2⟩, fun v' H3 yl => ?_⟩
  obtain ⟨T, x', rfl, hT, ⟨o, ho, rfl⟩, q⟩ := yl
  have := Option.some.inj ((q xs h2).symm.trans e2)
  subst this
  exact new_pair ho W2 hT (.int _) r3
theorem yl_zip {K : PySem.W.Frag} {w : Wo} {H : Hp} {b c : Bool} {a a2 : Addr} {xs ys : List V} {ds es : List PyData} (z : ds.length ≤ sizeLine) (hl : xs.length = ds.length) (hl2 : ys.length = es.length) (St1 : Stay K w H b a xs ds) (St2 : Stay K w H c a2 ys es) :
    Yl K w H (ItzB b c K a a2) ((pairs ds es).map S.d) := by
  have hpl : ((pairs ds es).map S.d).length = min ds.length es.length := by rw [List.length_map, pairs_len]
  refine ⟨by rw [hpl]; omega, fun P1 w2 H2 hp E W2 => ?_⟩
  obtain ⟨h2, r2⟩ := St1 P1 w2 H2 hp E W2
  obtain ⟨h3, r3⟩ := St2 P1 w2 H2 hp E W2
  refine ⟨⟨xs, ys, h2, h3, by rw [hpl, hl, hl2]⟩, fun i s e => ?_⟩
  obtain ⟨d0, e1, rfl⟩ := map_at e
  obtain ⟨x, y, hx, hy, rfl⟩ := pairs_at e1
  obtain ⟨v, e2, q2⟩ := r2.at i x hx
  obtain ⟨u, e3, q3⟩ := r3.at i y hy
  refine ⟨⟨xs, ys, v, u, h2, h3, e2, e3⟩, fun v' H3 yl => ?_⟩
  obtain ⟨T, x', y', rfl, hT, ⟨o, ho, rfl⟩, f1, f2⟩ := yl
  have := Option.some.inj ((f1 xs h2).symm.trans e2)
  subst this
  have := Option.some.inj ((f2 ys h3).symm.trans e3)
  subst this
  exact new_pair ho W2 hT q2 q3
section
variable {X : Cx} {e e2 : Expr} {f f2 : RE} {p pos tpos : Pos} {elts : List Expr} {kk : Nat}
theorem fi_enum (hm : X.mg "enumerate" = none) (he : FE X e f) (hg : Gl X "enumerate" := by rfl) (hs : starEach [e] X.env = [(false, eval e X.env)] := by rfl) : FI X (.Tuple elts kk tpos) (.Call (.Name "enumerate" p) [e] [] pos) (iEnum f) :=
  PI.imp (pi_enumB hg hm (fa_cons (fe_z he) fa_nil (by rw [hs]; rfl)) hs) fun σ H R ⟨w, l, xs, m', W, L, e, k⟩ => by
    simp only [iEnum, Option.bind_eq_some_iff] at e
    obtain ⟨⟨p, m1⟩, e1, e2⟩ := e
    cases p with
    | r n => cases e2
    | d x =>
      simp only [Option.map_eq_some_iff, Prod.mk.injEq] at e2
      obtain ⟨ds, e3, rfl, rfl⟩ := e2
      refine goA W L (show rA [eZ f] l w.m = some ([S.d x], m1) by simp [rA, e1]) fun w1 H1 vs c1 E1 W1 L1 s1 => ?_
      cases s1
      rename_i r rr
      cases rr
      obtain ⟨b, a, xs, rfl, h1, h2, h3, h4⟩ := stay_of W1 (show Dq X.K w1.P H1 _ x from r) e3
      exact ⟨b, a, xs, rfl, h3, k w1 H1 _ c1 E1 W1 (yl_enum h1 h2 h4)⟩
theorem fi_zip (hm : X.mg "zip" = none) (he : FE X e f) (he2 : FE X e2 f2) (hg : Gl X "zip" := by rfl) (hs : starEach [e, e2] X.env = (false, eval e X.env) :: starEach [e2] X.env := by rfl) (hs2 : starEach [e2] X.env = [(false, eval e2 X.env)] := by rfl) (hpl : (backTo pos (starEach [e2] X.env)).any (·.1) = false := by rfl) :
    FI X (.Tuple elts kk tpos) (.Call (.Name "zip" p) [e, e2] [] pos) (iZip f f2) :=
  PI.imp (pi_zipB hg hm (fa_cons (fe_z he) (fa_cons (fe_z he2) fa_nil (by rw [hs2]; rfl)) hs) hs hpl) fun σ H R ⟨w, l, xs, m', W, L, e, k⟩ => by
    simp only [iZip, Option.bind_eq_some_iff] at e
    obtain ⟨⟨p, m1⟩, e1, ⟨q, m2⟩, e2, e3⟩ := e
    cases p with
    | r n => cases q <;> cases e3
    | d x =>
      cases q with
      | r n => cases e3
      | d y =>
        simp only [Option.map_eq_some_iff, Option.bind_eq_some_iff, Prod.mk.injEq] at e3
        obtain ⟨ds, e4, es, e5, rfl, rfl⟩ := e3
        refine goA W L (show rA [eZ f, eZ f2] l w.m = some ([S.d x, S.d y], m2) by simp [rA, e1, e2]) fun w1 H1 vs c1 E1 W1 L1 s1 => ?_
        cases s1
        rename_i r rr
        cases rr
        rename_i r' rr
        cases rr
        obtain ⟨b, a, xs, rfl, h1, h2, h3, h4⟩ := stay_of W1 (show Dq X.K w1.P H1 _ x from r) e4
        obtain ⟨c, a2, ys, rfl, h5, h6, h7, h8⟩ := stay_of W1 (show Dq X.K w1.P H1 _ y from r') e5
        exact ⟨b, c, a, a2, xs, ys, rfl, h3, h7, k w1 H1 _ c1 E1 W1 (yl_zip h1 h2 h6 h4 h8)⟩
end
end Fz

set_option linter.all false
set_option autoImplicit false
set_option maxRecDepth 100000
/-! FzS16: the row's end; what stands in the module. -/
namespace Fz
open PySem PySem.Spec PyProof.Rows L2
theorem walkG {l : PySem.W.OpenLaw} {n k : Nat} {q : Program} {loose : List Str} {XP : (Str → Option Value) → Heap → Prop} {YP : World → Heap → Prop} {d : DefRec} {K : Params → PySem.W.Frag} {G : PF} {x : Str}
    (hn : l.most = some n) (hn2 : n ≤ sizeLine) (hdf : d.params.defaults = []) (hr : Room k callerA)
    (hY : ∀ (w : World) (h : Heap), YP w h → (K w.params).In h) (hi : importsNone q = true) (hk1 : ∀ P : Params, (K P).lookup sysModules = none)
    (F : ∀ (w : World) (mg : Str → Option Value) (fa : Addr) (h : Heap), (K w.params).In h → h.Ns mainGlobals mg → mg d.name = some (.ref fa) →
      ∃ fd : FuncData, (∀ (s : Shared) (u : Value), BindsTo s fd ⟨[u], []⟩ [(x, u)]) ∧
        ∀ base : Heap, (K w.params).In base → base.Ns mainGlobals mg → FnG l.prog w (K w.params) mg base CX0 k fa fd [x] (spP (K w.params) 1 G))
    (hG : ∀ ns : List Int, ns.length ≤ n → G [.list (ns.map .int)] = some (.bool true)) :
    PySem.W.WalkO q loose XP YP l.row.toRowW d [] (fun f vs => PySem.call f vs) := by
  refine Att.attach_call hn hdf fun w s₀ s₁ mg mb fa o pm cd doc a vs ns G' Y ho hd hcd hmg hobj hints hlen hg => ?_
  have KX := hY w _ Y
  obtain ⟨fd, hb, hF⟩ := F w mg fa _ KX G'.T.g hmg
  exact law_goes KX G'.T.g G'.T.b G'.T.builtins G'.T.nolimit hg (G'.T.seer hi) (hk1 _) hobj hints (Nat.le_trans hlen hn2) hr hF hb (hG ns hlen)
section
variable {K : PySem.W.Frag} {it : RI} {g : Tg} {is vs : List Nat} {t : RT} {e : RE} {σ : L2.St} {H : Hp} {Q : VK}
theorem lc_imp (hs : ∀ i ∈ is, i ∈ vs) (h : tF K (eLc vs it g t e) σ H Q) : tLc (tI K it) (gF K is g) (tT K t) (tF K e) vs σ H Q := by
  obtain ⟨w, l, s, m', W, L, e0, k⟩ := h
  simp only [eLc, Option.bind_eq_some_iff, Option.map_eq_some_iff, Prod.mk.injEq] at e0
  obtain ⟨⟨xs, m1⟩, e1, ⟨ss, m2⟩, e2, ds, e3, rfl, rfl⟩ := e0
  refine ⟨w, l, xs, m1, W, L, e1, fun w1 H1 J c1 E1 W1 Y => ?_⟩
  refine lc_loop (Qd := Q) W1 (L.go W E1) Y (by rw [c1]; exact e2) hs fun D w2 H2 acc hD p2 c2 E2 W2 hDa ra la => ?_
  obtain ⟨E3, W3, r⟩ := lc_frz W1 hD p2 E2 W2 hDa ra e3 la
  exact k (w2.perm w1.P0) H2 _ c2 (E1.trans E3) W3 r
theorem lc_impM (hs : ∀ i ∈ is, i ∈ vs) (h : tF K (eLcM vs it g t e) σ H Q) : tLc (tI K it) (gF K is g) (tT K t) (tF K e) vs σ H Q := by
  obtain ⟨w, l, s, m', W, L, e0, k⟩ := h
  simp only [eLcM, Option.bind_eq_some_iff, Option.map_eq_some_iff, Prod.mk.injEq] at e0
  obtain ⟨⟨xs, m1⟩, e1, ⟨ss, m2⟩, e2, rfl, rfl⟩ := e0
  refine ⟨w, l, xs, m1, W, L, e1, fun w1 H1 J c1 E1 W1 Y => ?_⟩
  refine lc_loop (Qd := Q) W1 (L.go W E1) Y (by rw [c1]; exact e2) hs fun D w2 H2 acc hD p2 c2 E2 W2 hDa ra la => ?_
  obtain ⟨E3, W3⟩ := lc_mem W1 hD p2 E2 W2 hDa ra la
  subst c2
  exact k _ H2 _ rfl (E1.trans E3) W3 ⟨by simp [Wo.push, Wo.perm], congrArg V.ref (push_al' (w := w2) (p := D) (mo := .lst ss)).symm⟩
theorem set_imp {i : Nat} {f : RE} {D : Ends} (h : tS K (sSet i f) D σ H) : tF K f σ H fun v H1 => D.nx (σ.set i (some v)) H1 := by
  obtain ⟨w, l, c, l', m', W, L, e, k⟩ := h
  simp only [sSet, sAsg, Option.bind_eq_some_iff, Option.map_eq_some_iff, Prod.mk.injEq] at e
  obtain ⟨p, e1, l1, e2, rfl, rfl, rfl⟩ := e
  cases e2
  exact goF W L e1 fun w1 H1 v1 c1 E1 W1 L1 s1 => k w1 H1 _ c1 E1 W1 (L1.set s1 i)
end
section
variable {X : Cx} {pos spos py : Pos} {y : Str} {tg iter elt : Expr} {ifs : List Expr} {scope : Scope} {own : List (Str × Nat)} {it : RI} {g : Tg} {is : List Nat} {t : RT} {e : RE}
/-- name = [..], the name a local, on one line -/
theorem fs_setLc (i : Nat) (hN : X.N.Nodup) (hi : FI X tg iter it) (ok : BlkOk X.N X.env.scope scope own)
    (hg : ∀ (s : Shared) (H : Hp) (C : Addr) (cl : List (Str × Addr)) (fp : List Addr), FG (X.blk s H scope (compEnvC scope cl C X.env) fp) tg is g)
    (ht : ∀ (s : Shared) (H : Hp) (C : Addr) (cl : List (Str × Addr)) (fp : List Addr), FTs (X.blk s H scope (compEnvC scope cl C X.env) fp) ifs t)
    (he : ∀ (s : Shared) (H : Hp) (C : Addr) (cl : List (Str × Addr)) (fp : List Addr), FE (X.blk s H scope (compEnvC scope cl C X.env) fp) elt e)
    (hy : X.N[i]? = some y := by rfl) (hyl : X.env.scope.names.lookup y = some .local := by rfl) (hk : X.env.scope.kind = .function := by rfl) (hl : (py.line == pos.line) = true := by rfl) (hna : (scope.names.any fun (n, k) => n == y && (k == .local || k == .cell)) = false := by rfl)
    (hs : ∀ i ∈ is, i ∈ own.map (·.2) := by decide) (hc : X.calm = true := by rfl) (hf : ∀ x, foldedSetIterable iter X.env x = pure x := by intro _; rfl) :
    FS X (.Assign [.Name y py] (.ListComp elt [⟨tg, iter, ifs, 0⟩] scope pos) spos) (sSet i (eLc (own.map (·.2)) it g t e)) :=
  PS.imp (ps_setLc (wi := tI X.K it) (g := gF X.K is g) (tt := tT X.K t) (te := tF X.K e) hc hN hy hyl (sw_true hk hyl hl hna) hi ok hg ht he hf) fun D σ H h => lc_imp hs (set_imp h)
theorem fs_setLcM (i : Nat) (hN : X.N.Nodup) (hi : FI X tg iter it) (ok : BlkOk X.N X.env.scope scope own)
    (hg : ∀ (s : Shared) (H : Hp) (C : Addr) (cl : List (Str × Addr)) (fp : List Addr), FG (X.blk s H scope (compEnvC scope cl C X.env) fp) tg is g)
    (ht : ∀ (s : Shared) (H : Hp) (C : Addr) (cl : List (Str × Addr)) (fp : List Addr), FTs (X.blk s H scope (compEnvC scope cl C X.env) fp) ifs t)
    (he : ∀ (s : Shared) (H : Hp) (C : Addr) (cl : List (Str × Addr)) (fp : List Addr), FE (X.blk s H scope (compEnvC scope cl C X.env) fp) elt e)
    (hy : X.N[i]? = some y := by rfl) (hyl : X.env.scope.names.lookup y = some .local := by rfl) (hk : X.env.scope.kind = .function := by rfl) (hl : (py.line == pos.line) = true := by rfl) (hna : (scope.names.any fun (n, k) => n == y && (k == .local || k == .cell)) = false := by rfl)
    (hs : ∀ i ∈ is, i ∈ own.map (·.2) := by decide) (hc : X.calm = true := by rfl) (hf : ∀ x, foldedSetIterable iter X.env x = pure x := by intro _; rfl) :
    FS X (.Assign [.Name y py] (.ListComp elt [⟨tg, iter, ifs, 0⟩] scope pos) spos) (sSet i (eLcM (own.map (·.2)) it g t e)) :=
  PS.imp (ps_setLc (wi := tI X.K it) (g := gF X.K is g) (tt := tT X.K t) (te := tF X.K e) hc hN hy hyl (sw_true hk hyl hl hna) hi ok hg ht he hf) fun D σ H h => lc_impM hs (set_imp h)
end
/-- a def that stands in the module -/
structure DefAt (K : PySem.W.Frag) (mg : Str → Option Value) (x : Str) (st : Stmt) (f : Addr) (fd : FuncData) : Prop where
  fn : Fun K x x st f fd
  up : mg x = some (.ref f)
theorem hu1 {A : Around} {k : Nat} (r : Room k A) : A.units + 1 < cLine := by have := r.un; omega
theorem hu11 {A : Around} {k : Nat} (r : Room k A) : A.units + 11 < cLine := by have := r.un; omega
theorem hu64 {A : Around} {k : Nat} (r : Room k A) : A.units + 64 < cLine := by have := r.un; omega
theorem hu65 {A : Around} {k : Nat} (r : Room k A) : A.units + 65 < cLine := by have := r.un; omega
end Fz

set_option linter.all false
set_option autoImplicit false
set_option maxRecDepth 100000
/-! FzS17: list(zip(..)), list(enumerate(..)): an iterator whose tuples are held. -/
namespace Fz
open PySem PySem.Spec PyProof.Rows L2
section
variable {prog : Program} {w : World} {A : Around} {E : Value → Shared → Prop} {s : Shared} {z TI TO T i1 i2 : Addr} {f : Bool} {oT : Obj} {fp1 fp2 : List Addr} {n1 n2 i : Nat} {P1 P2 : Nat → Value → Prop} {St1 St2 : Nat → Heap → Prop}
theorem zipH_item {Q : Option Value → Shared → Prop} (S : ZipSep2 z TI TO i1 i2 fp1 fp2) (D1 : Draws prog w A.in1 i1 fp1 n1 P1 St1) (D2 : Draws prog w A.in1 i2 fp2 n2 P2 St2)
    (hz : IsZipHeld s.heap z TI TO T f) (hT : s.heap.get? T = some oT) (hTI : IsTupOf2 s.heap TI (.ref i1) (.ref i2)) (st1 : St1 i s.heap) (st2 : St2 i s.heap) (hlt1 : i < n1) (hlt2 : i < n2)
    (hQ : ∀ x1 x2 h' tk, P1 i x1 → P2 i x2 → IsZipHeld h' z TI TO T true → St1 (i + 1) h' → St2 (i + 1) h' → IsTupOf2 h' s.heap.objs.size x1 x2 →
      (∀ c o, c ≠ z → c ≠ i1 → c ≠ i2 → s.heap.get? c = some o → h'.get? c = some o) → Q (some (.ref s.heap.objs.size)) { s with heap := h', toks := tk }) : wpAny (model prog w) A (pyNext (.ref z)) Q E s := by
  have hTy : s.TypeIs (.ref z) "zip" := ⟨_, hz, rfl⟩
  unfold pyNext
  refine wpAny_bind (wpAny_attempt (wpAny_callSpecial?_slot (name := Str.ofString "__next__") hTy F.slot_zip_next
    (wpAny_call_entry F.slot_zip_next hTy F.entry_zip_next ?_ (F.args_zip_next_1 _))))
  obtain ⟨hp, g, d, tk0, os⟩ := s
  show wpAny _ _ (field (.ref z) 2 >>= _) _ _ _
  refine wpAny_bind (wpAny_field hz rfl (x := .bool false) rfl ?_)
  show wpAny _ _ (field (.ref z) 3 >>= _) _ _ _
  refine wpAny_bind (wpAny_field hz rfl (x := .ref TI) rfl ?_)
  refine wpAny_bind (wpAny_seqItems hTI rfl ?_)
  show wpAny _ _ (Builtin.SmallTypes.ownedTupleIsFree (.ref z) >>= _) _ _ _
  refine wpAny_bind (wpAny_tupleHeld_zip hz hT fun g0 hz0 hs0 => ?_)
  replace hs0 : Heap.SameBut z hp g0 := hs0
  simp only [Bool.false_eq_true, if_false]
  refine wpAny_bind ?_
  rw [← Array.forIn_toList]
  simp only [List.forIn_cons, List.forIn_nil]
  refine wpAny_bind (wpAny_bind (wpAny_holding ?_))
  show wpAny _ _ (Builtin.SmallTypes.nextOf (.ref i1) >>= _) _ _ ⟨g0, g, d, tk0, os⟩
  refine wpAny_bind (D1.item i _ _ _ hlt1 (D1.over st1 hs0 S.zf1) fun x1 p1 tk1 hx1 sn1 hp1 => wpAny_pure ?_)
  replace hp1 : Heap.SameBut i1 g0 p1 := hp1
  refine wpAny_pure ?_
  refine wpAny_bind (wpAny_bind (wpAny_holding ?_))
  show wpAny _ _ (Builtin.SmallTypes.nextOf (.ref i2) >>= _) _ _ ⟨p1, g, d, tk1, os⟩
  refine wpAny_bind (D2.item i _ _ _ hlt2 (D2.over (D2.over st2 hs0 S.zf2) hp1 S.sep1_2) fun x2 p2 tk2 hx2 sn2 hp2 => wpAny_pure ?_)
  replace hp2 : Heap.SameBut i2 p1 p2 := hp2
  refine wpAny_pure (wpAny_pure ?_)
  show wpAny _ _ (newTuple [x1, x2] >>= _) _ _ _
  refine wpAny_bind (wpAny_newTuple ?_)
  have hsz : p2.objs.size = hp.objs.size := by rw [hp2.1, hp1.1, hs0.1]
  have hz₃ : IsZipHeld p2 z TI TO T true := hp2.extBut _ _ S.zi2 (hp1.extBut _ _ S.zi1 hz0)
  have hk : ∀ c o, c ≠ z → c ≠ i1 → c ≠ i2 → hp.get? c = some o → p2.get? c = some o := fun c o c1 c2 c3 e => hp2.extBut _ _ c3 (hp1.extBut _ _ c2 (hs0.extBut _ _ c1 e))
  have hj1 : St1 (i + 1) p2 := D1.over sn1 hp2 S.sep2_1
  have hpp : IsTupOf2 (p2.push { cls := .type "tuple", data := .seq #[x1, x2] }) p2.objs.size x1 x2 := Heap.get?_push_size _ rfl
  refine wpAny_pure ⟨_, rfl, ?_⟩
  refine wpAny_pure ?_
  show Q (some (.ref p2.objs.size)) ⟨p2.push { cls := .type "tuple", data := .seq #[x1, x2] }, g, d, tk2, os⟩
  rw [hsz] at hpp ⊢
  exact hQ x1 x2 _ tk2 hx1 hx2 (Heap.get?_push_of_some _ hz₃) (D1.frame _ _ _ hj1 fun b hb o e => Heap.get?_push_of_some _ e) (D2.frame _ _ _ sn2 fun b hb o e => Heap.get?_push_of_some _ e) hpp fun c o c1 c2 c3 e => Heap.get?_push_of_some _ (hk c o c1 c2 c3 e)
theorem zipH_end {Q : Option Value → Shared → Prop} (S : ZipSep2 z TI TO i1 i2 fp1 fp2) (D1 : Draws prog w A.in1 i1 fp1 n1 P1 St1) (D2 : Draws prog w A.in1 i2 fp2 n2 P2 St2)
    (hz : IsZipHeld s.heap z TI TO T f) (hT : s.heap.get? T = some oT) (hTI : IsTupOf2 s.heap TI (.ref i1) (.ref i2)) (st1 : St1 i s.heap) (st2 : St2 i s.heap) (hle1 : i ≤ n1) (hle2 : i ≤ n2) (hend : i = n1 ∨ i = n2)
    (hQ : ∀ h' tk, (∀ c o, c ≠ z → c ≠ i1 → c ≠ i2 → s.heap.get? c = some o → h'.get? c = some o) → Q none { s with heap := h', toks := tk }) : wpAny (model prog w) A (pyNext (.ref z)) Q E s := by
  have hTy : s.TypeIs (.ref z) "zip" := ⟨_, hz, rfl⟩
  unfold pyNext
  refine wpAny_bind (wpAny_attempt (wpAny_callSpecial?_slot (name := Str.ofString "__next__") hTy F.slot_zip_next
    (wpAny_call_entry F.slot_zip_next hTy F.entry_zip_next ?_ (F.args_zip_next_1 _))))
  obtain ⟨hp, g, d, tk0, os⟩ := s
  show wpAny _ _ (field (.ref z) 2 >>= _) _ _ _
  refine wpAny_bind (wpAny_field hz rfl (x := .bool false) rfl ?_)
  show wpAny _ _ (field (.ref z) 3 >>= _) _ _ _
  refine wpAny_bind (wpAny_field hz rfl (x := .ref TI) rfl ?_)
  refine wpAny_bind (wpAny_seqItems hTI rfl ?_)
  show wpAny _ _ (Builtin.SmallTypes.ownedTupleIsFree (.ref z) >>= _) _ _ _
  refine wpAny_bind (wpAny_tupleHeld_zip hz hT fun g0 hz0 hs0 => ?_)
  replace hs0 : Heap.SameBut z hp g0 := hs0
  simp only [Bool.false_eq_true, if_false]
  refine wpAny_bind ?_
  rw [← Array.forIn_toList]
  simp only [List.forIn_cons, List.forIn_nil]
  refine wpAny_bind (wpAny_bind (wpAny_holding ?_))
  show wpAny _ _ (Builtin.SmallTypes.nextOf (.ref i1) >>= _) _ _ ⟨g0, g, d, tk0, os⟩
  by_cases hlt1 : i < n1
  · refine wpAny_bind (D1.item i _ _ _ hlt1 (D1.over st1 hs0 S.zf1) fun x1 p1 tk1 hx1 sn1 hp1 => wpAny_pure ?_)
    replace hp1 : Heap.SameBut i1 g0 p1 := hp1
    refine wpAny_pure ?_
    have hi2 : i = n2 := by omega
    refine wpAny_bind (wpAny_bind (wpAny_holding ?_))
    show wpAny _ _ (Builtin.SmallTypes.nextOf (.ref i2) >>= _) _ _ ⟨p1, g, d, tk1, os⟩
    refine wpAny_bind (D2.done ⟨p1, g, d, tk1, os⟩ _ _ (by rw [← hi2]; exact (D2.over (D2.over st2 hs0 S.zf2) hp1 S.sep1_2)) fun q e hq he => ?_)
    replace hq : Heap.ExtBut i2 p1 q := hq
    obtain ⟨o, ho, hc⟩ := he
    refine wpAny_bind (wpAny_isInstance (T := "StopIteration") (b := true) ⟨o, ho, hc⟩ isSubtype_stop ?_)
    exact wpAny_pure (hQ q tk1 fun c o c1 c2 c3 x => hq _ _ c3 (hp1.extBut _ _ c2 (hs0.extBut _ _ c1 x)))
  · have hi1 : i = n1 := by omega
    refine wpAny_bind (D1.done ⟨g0, g, d, tk0, os⟩ _ _ (by rw [← hi1]; exact (D1.over st1 hs0 S.zf1)) fun q e hq he => ?_)
    replace hq : Heap.ExtBut i1 g0 q := hq
    obtain ⟨o, ho, hc⟩ := he
    refine wpAny_bind (wpAny_isInstance (T := "StopIteration") (b := true) ⟨o, ho, hc⟩ isSubtype_stop ?_)
    exact wpAny_pure (hQ q tk0 fun c o c1 c2 c3 x => hq _ _ c2 (hs0.extBut _ _ c1 x))
variable {e it : Addr} {fp : List Addr} {n : Nat} {P : Nat → Value → Prop} {St : Nat → Heap → Prop} {old : Value}
theorem enumH_item {Q : Option Value → Shared → Prop} (D : Draws prog w A.in1 it fp n P St) (he : IsEnumHeld s.heap e it (i : Int) old T f) (hT : s.heap.get? T = some oT) (hTe : T ≠ e) (hTi : T ≠ it) (hst : St i s.heap) (hlt : i < n) (hne : e ≠ it) (hef : e ∉ fp)
    (hQ : ∀ x h' tk, P i x → IsEnumHeld h' e it ((i : Int) + 1) old T true → St (i + 1) h' → h'.get? s.heap.objs.size = some { cls := .type "tuple", data := .seq #[.int i tk, x] } →
      (∀ b o, b ≠ e → b ≠ it → s.heap.get? b = some o → h'.get? b = some o) → Q (some (.ref s.heap.objs.size)) { s with heap := h', toks := tk + 1 }) : wpAny (model prog w) A (pyNext (.ref e)) Q E s := by
  have hTy : s.TypeIs (.ref e) "enumerate" := ⟨_, he, rfl⟩
  unfold pyNext
  refine wpAny_bind (wpAny_attempt (wpAny_callSpecial?_slot (name := Str.ofString "__next__") hTy F.slot_enumerate_next
    (wpAny_call_entry F.slot_enumerate_next hTy F.entry_enumerate_next ?_ (F.args_enumerate_next_1 _))))
  obtain ⟨hp, g, d, tk₀, os⟩ := s
  show wpAny _ _ (field (.ref e) 2 >>= _) _ _ _
  refine wpAny_bind (wpAny_field he rfl (x := .ref it) rfl ?_)
  refine wpAny_bind (D.item i _ _ _ hlt hst fun x h₁ tk hPx hit₁ hs₁ => ?_)
  replace hs₁ : Heap.SameBut it hp h₁ := hs₁
  have he₁ : IsEnumHeld h₁ e it i old T f := (hs₁.2 e hne).trans he
  show wpAny _ _ (field (.ref e) 3 >>= _) _ _ ⟨h₁, g, d, tk, os⟩
  refine wpAny_bind (wpAny_field he₁ rfl (x := rawInt i) rfl ?_)
  show wpAny _ _ (field (.ref e) 4 >>= _) _ _ ⟨h₁, g, d, tk, os⟩
  refine wpAny_bind (wpAny_field he₁ rfl (x := .none) rfl ?_)
  show wpAny _ _ (mkInt i >>= _) _ _ ⟨h₁, g, d, tk, os⟩
  refine wpAny_bind (wpAny_mkInt ?_)
  show wpAny _ _ (setField (.ref e) 3 (rawInt ((i : Int) + 1)) >>= _) _ _ ⟨h₁, g, d, tk + 1, os⟩
  refine wpAny_bind (wpAny_setField_rec he₁ (by simp) fun h₂ he₂ hs₂ => ?_)
  replace hs₂ : Heap.SameBut e h₁ h₂ := hs₂
  replace he₂ : IsEnumHeld h₂ e it ((i : Int) + 1) old T f := he₂
  show wpAny _ _ (setField (.ref e) 4 .none >>= _) _ _ ⟨h₂, g, d, tk + 1, os⟩
  refine wpAny_bind (wpAny_setField_rec he₂ (by simp) fun h₃ he₃ hs₃ => ?_)
  replace hs₃ : Heap.SameBut e h₂ h₃ := hs₃
  replace he₃ : IsEnumHeld h₃ e it ((i : Int) + 1) old T f := he₃
  show wpAny _ _ (newTuple [.int i tk, x] >>= _) _ _ ⟨h₃, g, d, tk + 1, os⟩
  refine wpAny_bind (wpAny_newTuple ?_)
  have he₄ : IsEnumHeld (h₃.push { cls := .type "tuple", data := .seq #[.int i tk, x] }) e it ((i : Int) + 1) old T f := Heap.get?_push_of_some _ he₃
  generalize hh₄ : h₃.push { cls := .type "tuple", data := .seq #[.int i tk, x] } = h₄ at he₄
  have hsz : h₃.objs.size = hp.objs.size := by rw [hs₃.1, hs₂.1, hs₁.1]
  have hel : e < hp.objs.size := Heap.lt_size he
  have ht₄ : h₄.get? hp.objs.size = some { cls := .type "tuple", data := .seq #[.int i tk, x] } := by rw [← hh₄, ← hsz]; exact Heap.get?_push_size _ rfl
  have hk₄ : ∀ b o, b ≠ e → b ≠ it → hp.get? b = some o → h₄.get? b = some o := fun b o hbe hbi hb => by
    rw [← hh₄]; exact Heap.get?_push_of_some _ (hs₃.extBut b o hbe (hs₂.extBut b o hbe (hs₁.extBut b o hbi hb)))
  have hit₄ : St (i + 1) h₄ := D.frame _ _ _ hit₁ fun b hb o y => by
    have hbe : b ≠ e := fun q => hef (q ▸ hb)
    rw [← hh₄]; exact Heap.get?_push_of_some _ (hs₃.extBut b o hbe (hs₂.extBut b o hbe y))
  show wpAny _ _ (Builtin.SmallTypes.ownedTupleIsFree (.ref e) >>= _) _ _ ⟨h₄, g, d, tk + 1, os⟩
  rw [hsz]
  clear hh₄ he₃ hs₃ he₂ hs₂ he₁ hs₁ hit₁ hsz h₃ h₂ h₁
  refine wpAny_bind (wpAny_tupleHeld_enum (s := ⟨h₄, g, d, tk + 1, os⟩) he₄ (hk₄ T oT hTe hTi hT) fun h₅ he₅ hs₅ => ?_)
  replace hs₅ : Heap.SameBut e h₄ h₅ := hs₅
  simp only [Bool.false_eq_true, if_false]
  refine wpAny_pure ⟨_, rfl, wpAny_pure (hQ x h₅ tk hPx he₅ (D.frame _ _ _ hit₄ fun b hb o y => hs₅.extBut b o (fun q => hef (q ▸ hb)) y) (hs₅.extBut _ _ (Nat.ne_of_gt hel) ht₄) fun b o hbe hbi hb => hs₅.extBut b o hbe (hk₄ b o hbe hbi hb))⟩
theorem enumH_end {Q : Option Value → Shared → Prop} {k : Int} (D : Draws prog w A.in1 it fp n P St) (he : IsEnumHeld s.heap e it k old T f) (hst : St n s.heap)
    (hQ : ∀ h', Heap.ExtBut it s.heap h' → Q none { s with heap := h' }) : wpAny (model prog w) A (pyNext (.ref e)) Q E s := by
  have hTy : s.TypeIs (.ref e) "enumerate" := ⟨_, he, rfl⟩
  unfold pyNext
  refine wpAny_bind (wpAny_attempt (wpAny_callSpecial?_slot (name := Str.ofString "__next__") hTy F.slot_enumerate_next
    (wpAny_call_entry F.slot_enumerate_next hTy F.entry_enumerate_next ?_ (F.args_enumerate_next_1 _))))
  show wpAny _ _ (field (.ref e) 2 >>= _) _ _ _
  refine wpAny_bind (wpAny_field he rfl (x := .ref it) rfl ?_)
  refine wpAny_bind (D.done _ _ _ hst fun h' x he' hx' => ?_)
  obtain ⟨o, ho, hc⟩ := hx'
  refine wpAny_bind (wpAny_isInstance (T := "StopIteration") (b := true) ⟨o, ho, hc⟩ isSubtype_stop ?_)
  exact wpAny_pure (hQ _ he')
end

/-! ### list(iterator) -/
structure TurnH (P : Program) (w : World) (K : PySem.W.Frag) (J : It) (fp : List Addr) (it : Addr) (Ty : String) (tn : Nat → Heap → Hp → Prop) : Prop where
  mem : it ∈ fp
  keep : ∀ i h h' H H', tn i h H → (∀ b ∈ fp, ∀ o, h.get? b = some o → h'.get? b = some o) → (∀ T (xs : Obj × List V), H T = some (.frz xs.1 (.tup xs.2)) → H' T = some (.frz xs.1 (.tup xs.2))) → tn i h' H'
  type : ∀ i h H, tn i h H → ∃ o, h.get? it = some o ∧ o.cls = .type Ty
  self : ∀ (A : Around) (i : Nat) (s : Shared) (H : Hp) (Q : Value → Shared → Prop) (E : Value → Shared → Prop), tn i s.heap H → Q (.ref it) s → wpAny (model P w) A (pyIter (.ref it)) Q E s
  item : ∀ (X : Cx), X.prog = P → X.w = w → X.K = K → ∀ (A : Around), A.handled = none → ∀ (i : Nat) (pins : List (Addr × Obj)) (s : Shared) (σ : L2.St) (H : Hp) (E : Value → Shared → Prop), L2.Inv X pins σ H s → (∀ b ∈ fp, FpOk X pins H b) → tn i s.heap H → J.go i H →
    wpAny (model P w) A (pyNext (.ref it)) (fun r s1 => ∃ u x H', r = some u ∧ L2.Inv X pins σ H' s1 ∧ RelV x u ∧ J.yld i H x H' ∧ tn (i + 1) s1.heap H' ∧ (∀ b ∈ fp, H' b = none) ∧ ∀ T xs, H T = some (.lst xs) → H' T = some (.lst xs)) E s
  done : ∀ (X : Cx), X.prog = P → X.w = w → X.K = K → ∀ (A : Around), A.handled = none → ∀ (i : Nat) (pins : List (Addr × Obj)) (s : Shared) (σ : L2.St) (H : Hp) (E : Value → Shared → Prop), L2.Inv X pins σ H s → (∀ b ∈ fp, FpOk X pins H b) → tn i s.heap H → J.stop i H →
    wpAny (model P w) A (pyNext (.ref it)) (fun r s1 => r = none ∧ L2.Inv X pins σ H s1) E s
theorem fpTo {X : Cx} {pins : List (Addr × Obj)} {H H' : Hp} {b : Addr} (h : FpOk X pins H b) (e : H' b = none) : FpOk X pins H' b := by
  obtain ⟨f0, f1, f2, f3, f4, f5⟩ := h
  exact ⟨e, f1, f2, f3, f4, f5⟩
section
variable {P : Program} {w : World} {K : PySem.W.Frag} {J : It} {fp : List Addr} {it : Addr} {Ty : String} {tn : Nat → Heap → Hp → Prop} {X : Cx} {pins : List (Addr × Obj)} {σ : L2.St} {Q : V → Hp → Prop}
/-- what the loop of list(..) needs, the list at D -/
def LoopQ (J : It) (D : Addr) (Q : V → Hp → Prop) (W : Nat → Nat → Hp → Prop) : Prop := ∀ i m H, W i m H →
  (J.stop i H ∧ Q (.ref D) H) ∨ (J.go i H ∧ ∃ Nx : Hp → Prop, (∀ H', Nx H' → ∃ m', m' < m ∧ W (i + 1) m' H') ∧ ∀ x H', J.yld i H x H' → ∃ acc, H' D = some (.lst acc) ∧ acc.length < sizeLine ∧ Nx (upd H' D (.lst (acc ++ [x]))))
theorem ext_loop (t : TurnH X.prog X.w X.K J fp it Ty tn) {A : Around} (hA : A.handled = none) {D : Addr} {W : Nat → Nat → Hp → Prop} (hW : LoopQ J D Q W) (hDf : D ∉ fp) {R : Result → Shared → Prop}
    (hR : ∀ s' H', L2.Inv X pins σ H' s' → Q (.ref D) H' → R (.ok (.ret .none)) s') :
    ∀ (m i : Nat) (s : Shared) (H : Hp), W i m H → L2.Inv X pins σ H s → (∀ b ∈ fp, FpOk X pins H b) → tn i s.heap H →
    codeAny (model X.prog X.w) A (.builtin "list.extend.loop" ⟨[.ref D, .ref it, .none], []⟩) R s := by
  intro m
  induction m using Nat.strongRecOn with
  | ind m ih =>
    intro i s H h I hf st
    have hA1 : A.in1.handled = none := hA
    refine codeAny_builtin F.entry_extend_loop ?_
    rw [Around.under_plainId F.plain_extend_loop _]
    show wpAny _ A.in1 (pyNext (.ref it) >>= _) _ _ s
    rcases hW i m H h with ⟨h1, h2⟩ | ⟨h1, Nx, h2, h3⟩
    · refine wpAny_bind (wpAny_mono (t.done X rfl rfl rfl A.in1 hA1 i pins s σ H _ I hf st h1) (fun r s1 ⟨e, I1⟩ => ?_) fun _ _ e => e)
      subst e
      exact wpAny_pure (hR s1 H I1 h2)
    · refine wpAny_bind (wpAny_mono (t.item X rfl rfl rfl A.in1 hA1 i pins s σ H _ I hf st h1) (fun r s1 ⟨u, x, H1, e, I1, rx, y, st1, f1, l1⟩ => ?_) fun _ _ e => e)
      subst e
      obtain ⟨acc, hD, hz, hN⟩ := h3 x H1 y
      obtain ⟨m', lt, w'⟩ := h2 _ hN
      obtain ⟨z, its, n, rv, hl, eD⟩ := I1.lstM hD
      show wpAny _ A.in1 (updateSeq D (·.push u) >>= _) _ _ _
      refine wpAny_bind ?_
      have hpush : its.toArray.push u = (its ++ [u]).toArray := by simp
      refine wpAny_updateSeq eD rfl (wpAny_pure ⟨plainId_quiet F.plain_extend_loop _, ?_⟩) (by rw [List.size_toArray]; omega) (by show (its.toArray.push u).size ≤ sizeLine + 1; rw [Array.size_push, List.size_toArray]; omega)
      have I2 := I1.lset (its' := its ++ [u]) (ys := acc ++ [x]) (f := (·.push u)) (t' := s1.toks) hD eD hpush (rv.append (.cons rx .nil)) (by rw [List.length_append]; simp; omega)
      refine ih m' lt (i + 1) _ _ w' ?_ (fun b hb => fpTo (hf b hb) ?_) (t.keep _ _ _ _ _ st1 (fun b hb o e => (Heap.get?_update_other _ _ (fun q : D = b => hDf (by rw [q]; exact hb))).trans e) fun T xs e => ?_)
      · exact I2
      · rw [upd_ne (fun q : b = D => hDf (by rw [← q]; exact hb))]; exact f1 b hb
      · rw [upd_ne (fun q : T = D => by rw [q, hD] at e; cases e)]; exact e
theorem list_of_turnH {Q : V → Hp → Prop} {s : Shared} {H : Hp} (t : TurnH X.prog X.w X.K J fp it Ty tn) (hc : X.calm = true) (hTl : (Value.type Ty == Value.type "list") = false) (hTt : (Value.type Ty == Value.type "tuple") = false)
    (nl : typeLookup (.type Ty) "__len__" = pure none) (nh : typeLookup (.type Ty) "__length_hint__" = pure none)
    (I : L2.Inv X pins σ H s) (hf : ∀ b ∈ fp, FpOk X pins H b) (hlt : ∀ b ∈ fp, b < s.heap.objs.size) (st : tn 0 s.heap H)
    (hW : ∀ D, H D = none → ∃ W : Nat → Nat → Hp → Prop, (∃ m, W 0 m (upd H D (.lst []))) ∧ LoopQ J D Q W) : wpAny (model X.prog X.w) X.A (call (.type "list") [.ref it]) (EP X pins σ Q) X.xe s := by
  have hDf : s.heap.objs.size ∉ fp := fun hm => Nat.lt_irrefl _ (hlt _ hm)
  have hSI : s.heap.objs.size ≠ it := fun e => hDf (e ▸ t.mem)
  have hh := I.ok.hd hc
  obtain ⟨W, ⟨m, w0⟩, hL⟩ := hW s.heap.objs.size I.fresh
  refine callType_codes (Q₁ := fun obj s₁ => obj = .ref s.heap.objs.size ∧ s₁ = { s with heap := s.heap.push { cls := .type "list", data := .seq #[] } }) F.called_list (F.typeCall_list_1 _) F.entry_list_init
    (code_list_new _ ⟨rfl, rfl⟩) fun obj s₁ h₁ => ?_
  obtain ⟨rfl, rfl⟩ := h₁
  have hS : (s.heap.push { cls := .type "list", data := .seq #[] }).get? s.heap.objs.size = some { cls := .type "list", data := .seq #[] } := Heap.get?_push_size _ rfl
  refine ⟨⟨_, hS, rfl⟩, F.args_list_init_2 _ _, ?_⟩
  have I1 : L2.Inv X pins σ (upd H s.heap.objs.size (.lst [])) { s with heap := s.heap.push { cls := .type "list", data := .seq #[] } } := I.lnew (its := []) (ys := []) (t' := s.toks) .nil (Nat.zero_le _)
  have hD1 : (upd H s.heap.objs.size (.lst [])) s.heap.objs.size = some (.lst []) := upd_same
  have up1 : ∀ {f : Array Value → Array Value} {s' : Shared} {c : Nat}, L2.Inv X pins σ (upd H s.heap.objs.size (.lst [])) s' → s'.heap.get? s.heap.objs.size = some { cls := .type "list", data := .seq #[] c } → f #[] = #[] →
      L2.Inv X pins σ (upd H s.heap.objs.size (.lst [])) { s' with heap := s'.heap.update s.heap.objs.size (Obj.mapSeq f) } := fun {f s' c} I' e hf' => by
    have := I'.lset (its := []) (its' := []) (ys := []) (f := f) (t' := s'.toks) hD1 e hf' .nil (Nat.zero_le _)
    rwa [show upd (upd H s.heap.objs.size (.lst [])) s.heap.objs.size (.lst []) = upd H s.heap.objs.size (.lst []) from funext fun b => by unfold upd; split <;> rfl] at this
  have st1 : tn 0 (s.heap.push { cls := .type "list", data := .seq #[] }) (upd H s.heap.objs.size (.lst [])) := t.keep _ _ _ _ _ st (fun b _ o e => Heap.get?_push_of_some _ e) fun T xs e => by rw [upd_ne (ne_of_none e I.fresh)]; exact e
  have keepU : ∀ {h : Heap} {f : Array Value → Array Value}, tn 0 h (upd H s.heap.objs.size (.lst [])) → tn 0 (h.update s.heap.objs.size (Obj.mapSeq f)) (upd H s.heap.objs.size (.lst [])) := fun {h f} q => t.keep _ _ _ _ _ q (fun b hb o e => (Heap.get?_update_other _ _ (fun q : s.heap.objs.size = b => hDf (by rw [q]; exact hb))).trans e) fun _ _ e => e
  show wpAny _ X.A.in1.in1 (do let old ← Builtin.List.listItems (.ref s.heap.objs.size); Builtin.List.listUpdate (.ref s.heap.objs.size) (fun _ => #[]); letGo old.toList.reverse; Builtin.List.listExtendWith (.ref s.heap.objs.size) (.ref it) .none) _ _ _
  refine wpAny_bind ?_
  unfold Builtin.List.listItems
  refine wpAny_bind (wpAny_seqItems hS rfl (wpAny_pure ?_))
  show wpAny _ X.A.in1.in1 (updateSeq s.heap.objs.size (fun _ => #[]) >>= fun _ => letGo (#[] : Array Value).toList.reverse >>= fun _ => Builtin.List.listExtendWith (.ref s.heap.objs.size) (.ref it) .none) _ _ _
  refine wpAny_bind (wpAny_updateSeq hS rfl ?_)
  have hS₂ := Heap.get?_update_self (Obj.mapSeq (fun _ => (#[] : Array Value))) hS rfl
  have I2 := up1 (f := fun _ => #[]) I1 hS rfl
  have st2 := keepU (f := fun _ => #[]) st1
  refine wpAny_bind (wpAny_letGo ?_)
  unfold Builtin.List.listExtendWith
  obtain ⟨oT, ho, hcls⟩ := t.type _ _ _ st2
  refine wpAny_bind (wpAny_typeOf (T := Ty) ⟨oT, ho, hcls⟩ ?_)
  have h1 : Builtin.List.listSameRef (.ref s.heap.objs.size) (.ref it) = false := by simp [Builtin.List.listSameRef, hSI]
  simp only [h1, hTl, hTt, Bool.or_false, Bool.false_eq_true, if_false]
  refine wpAny_bind (t.self _ 0 _ _ _ _ st2 ?_)
  refine wpAny_bind (wpAny_holding ?_)
  unfold Builtin.List.listLengthHint
  refine wpAny_bind (wpAny_specialOf (T := Ty) ⟨oT, ho, hcls⟩ nl ?_)
  show wpAny _ X.A.in1.in1 (specialOf (Value.ref it) (Str.ofString "__length_hint__") >>= _) _ _ _
  refine wpAny_bind (wpAny_specialOf (T := Ty) ⟨oT, ho, hcls⟩ nh ?_)
  refine wpAny_pure ?_
  show wpAny _ X.A.in1.in1 (rule "list.extend.makes-room" >>= fun _ => Builtin.List.listTouch (.ref s.heap.objs.size) >>= fun _ =>
    again (.builtin "list.extend.loop" ⟨[.ref s.heap.objs.size, .ref it, .none], []⟩)) _ _ _
  refine wpAny_bind (wpAny_rule ?_)
  refine wpAny_bind ?_
  show wpAny _ X.A.in1.in1 (updateSeq s.heap.objs.size (·.push .none) >>= fun _ => updateSeq s.heap.objs.size (·.pop)) _ _ _
  refine wpAny_bind (wpAny_updateSeq hS₂ rfl ?_)
  have hS₃ := Heap.get?_update_self (Obj.mapSeq (·.push Value.none)) hS₂ rfl
  refine wpAny_updateSeq (hz := by seq_fits) hS₃ rfl ?_
  have I3 : L2.Inv X pins σ (upd H s.heap.objs.size (.lst [])) { s with heap := (((s.heap.push { cls := .type "list", data := .seq #[] }).update s.heap.objs.size (Obj.mapSeq (fun _ => #[]))).update s.heap.objs.size (Obj.mapSeq (·.push Value.none))).update s.heap.objs.size (Obj.mapSeq (·.pop)) } := by
    have uu : ∀ x y : HO, upd (upd H s.heap.objs.size x) s.heap.objs.size y = upd H s.heap.objs.size y := fun x y => funext fun b => by unfold upd; split <;> rfl
    have a1 := I2.lset (its' := [Value.none]) (ys := [V.non]) (f := (·.push Value.none)) (its := []) (t' := s.toks) hD1 hS₂ rfl (.cons rfl .nil) (by decide)
    rw [uu] at a1
    have a2 := a1.lset (its' := []) (ys := []) (f := (·.pop)) (its := [Value.none]) (t' := s.toks) upd_same hS₃ rfl .nil (Nat.zero_le _)
    rw [uu] at a2
    exact a2
  refine wpAny_pure ⟨plainId_quiet F.plain_extend_loop _, ext_loop t (A := X.A.in1) hh hL hDf (fun s' H' I' q => ?_) m 0 _ _ w0 I3 (fun b hb => fpTo (hf b hb) ?_) (keepU (keepU st2))⟩
  · exact ⟨rfl, .ref s.heap.objs.size, H', I', rfl, q⟩
  · rw [upd_ne (fun q : b = s.heap.objs.size => hDf (by rw [← q]; exact hb))]; exact (hf b hb).1
end
end Fz

set_option linter.all false
set_option autoImplicit false
set_option maxRecDepth 100000
/-! FzS18: list(zip(a, b)), list(enumerate(a)). -/
namespace Fz
open PySem PySem.Spec PyProof.Rows L2
theorem _root_.L2.Inv.tupAlive {X : Cx} {pins : List (Addr × Obj)} {σ : L2.St} {H : Hp} {s : Shared} {T : Addr} {xs : Obj × List V} (I : L2.Inv X pins σ H s) (h : H T = some (.frz xs.1 (.tup xs.2))) : ∃ o, s.heap.get? T = some o :=
  ⟨_, (I.hok T _ h).1⟩
theorem turnH_zip {P : Program} {w : World} {K : PySem.W.Frag} {b c : Bool} {a d z TI TO i1 i2 : Addr} (S : ZipSep2 z TI TO i1 i2 [i1, a] [i2, d]) :
    TurnH P w K (ItzB b c K a d) [z, TI, TO, i1, i2] z "zip" (fun i h H => IsTupOf2 h TI (.ref i1) (.ref i2) ∧ ItB b h i1 a i ∧ ItB c h i2 d i ∧
      (∃ o, h.get? TO = some o) ∧ ((IsZip h z TI TO .none ∧ ∃ x y, IsTupOf2 h TO x y) ∨ ∃ T f, ∃ xs : Obj × List V, IsZipHeld h z TI TO T f ∧ H T = some (.frz xs.1 (.tup xs.2)))) where
  mem := by simp
  keep := fun i h h' H H' st k kt => by
    obtain ⟨hTI, h1, h2, ⟨oO, hO⟩, hz⟩ := st
    refine ⟨k TI (by simp) _ hTI, h1.at fun o q => k i1 (by simp) o q, h2.at fun o q => k i2 (by simp) o q, ⟨oO, k TO (by simp) _ hO⟩, ?_⟩
    rcases hz with ⟨hz, x, y, hTO⟩ | ⟨T, f, xs, hz, hT⟩
    · exact .inl ⟨k z (by simp) _ hz, x, y, k TO (by simp) _ hTO⟩
    · exact .inr ⟨T, f, xs, k z (by simp) _ hz, kt _ _ hT⟩
  type := fun i h H st => by
    obtain ⟨_, _, _, _, hz⟩ := st
    rcases hz with ⟨hz, _⟩ | ⟨T, f, xs, hz, hT⟩
    · exact ⟨_, hz, rfl⟩
    · exact ⟨_, hz, rfl⟩
  self := fun A i s H Q E st h => by
    obtain ⟨_, _, _, _, hz⟩ := st
    rcases hz with ⟨hz, _⟩ | ⟨T, f, xs, hz, hT⟩
    · exact wpAny_pyIter_zip hz h
    · have hT : s.TypeIs (.ref z) "zip" := ⟨_, hz, rfl⟩
      refine wpAny_pyIter_slot hT F.slot_zip_iter (wpAny_call_entry F.slot_zip_iter hT F.entry_zip_iter ?_ (F.args_zip_iter_1 _))
      show wpAny _ _ (ret (.ref z)) _ _ s
      exact wpAny_pure ⟨_, rfl, "zip", _, hT, F.slot_zip_next.lookup, h⟩
  item := by
    intro X hP hw hK A hA i pins s σ H E I hf st hg
    subst hP hw hK
    obtain ⟨hTI, h1, h2, ⟨oO, hO⟩, hz⟩ := st
    obtain ⟨xs, ys, x, y, hqx, hqy, hx, hy⟩ := hg
    obtain ⟨its, rv, p⟩ := I.sqB hqx
    obtain ⟨its2, rv2, p2⟩ := I.sqB hqy
    obtain ⟨u, hu, ru⟩ := rv.get hx
    obtain ⟨u2, hu2, ru2⟩ := rv2.get hy
    have n1 : a ≠ i1 := p.ne h1
    have n2 : d ≠ i2 := p2.ne h2
    have hlt : i < its.toArray.size := by have := (List.getElem?_eq_some_iff.mp hu).1; simpa using this
    have hlt2 : i < its2.toArray.size := by have := (List.getElem?_eq_some_iff.mp hu2).1; simpa using this
    have lt : ∀ q ∈ [z, TI, TO, i1, i2], ∀ o, s.heap.get? q = some o → q < s.heap.objs.size := fun q _ o e => Heap.lt_size e
    have fin : ∀ (x1 x2 : Value) (h' : Heap) (tk : Tok), its.toArray[i]? = some x1 → its2.toArray[i]? = some x2 → IsTupOf2 h' s.heap.objs.size x1 x2 →
        (∀ c o, c ∉ [z, TI, TO, i1, i2] → s.heap.get? c = some o → h'.get? c = some o) → IsTupOf2 h' TI (.ref i1) (.ref i2) → ItB b h' i1 a (i + 1) → ItB c h' i2 d (i + 1) → (∃ o, h'.get? TO = some o) →
        (∃ T f, ∃ xs : Obj × List V, IsZipHeld h' z TI TO T f ∧ (upd H s.heap.objs.size (.frz { cls := .type "tuple", data := .seq #[x1, x2] } (.tup [x, y]))) T = some (.frz xs.1 (.tup xs.2))) →
        ∃ u v H', (some (Value.ref s.heap.objs.size) : Option Value) = some u ∧ L2.Inv X pins σ H' { s with heap := h', toks := tk } ∧ RelV v u ∧ (ItzB b c X.K a d).yld i H v H' ∧
          (IsTupOf2 h' TI (.ref i1) (.ref i2) ∧ ItB b h' i1 a (i + 1) ∧ ItB c h' i2 d (i + 1) ∧ (∃ o, h'.get? TO = some o) ∧ ((IsZip h' z TI TO .none ∧ ∃ x y, IsTupOf2 h' TO x y) ∨ ∃ T f, ∃ xs : Obj × List V, IsZipHeld h' z TI TO T f ∧ H' T = some (.frz xs.1 (.tup xs.2)))) ∧ (∀ b ∈ [z, TI, TO, i1, i2], H' b = none) ∧ ∀ T xs, H T = some (.lst xs) → H' T = some (.lst xs) := by
      intro v1 v2 h' tk e1 e2 hT hk k1 k2 k3 kO k4
      obtain rfl : u = v1 := by
        have hu' : its.toArray[i]? = some u := by simpa using hu
        exact Option.some.inj (hu'.symm.trans e1)
      obtain rfl : u2 = v2 := by
        have hu' : its2.toArray[i]? = some u2 := by simpa using hu2
        exact Option.some.inj (hu'.symm.trans e2)
      have hn : H s.heap.objs.size = none := I.hok.fresh (Nat.le_refl _)
      have new : ObjOk X.prog X.w (upd H s.heap.objs.size (.frz { cls := .type "tuple", data := .seq #[u, u2] } (.tup [x, y]))) h' s.heap.objs.size (.frz { cls := .type "tuple", data := .seq #[u, u2] } (.tup [x, y])) :=
        ⟨hT, by show 2 ≤ sizeLine; decide, [u, u2], .cons ru (.cons ru2 .nil), ⟨_, hT, rfl, _, rfl⟩⟩
      refine ⟨_, .ref s.heap.objs.size, _, rfl, I.turnedNew (t' := tk) (ch := [z, TI, TO, i1, i2]) hk hf (Nat.le_refl _) new, rfl, ⟨_, x, y, rfl, hn, ⟨_, rfl, rfl⟩, fun l hl => by rw [I.sqB_inj hl hqx]; exact hx, fun l hl => by rw [I.sqB_inj hl hqy]; exact hy⟩, ⟨k1, k2, k3, kO, .inr k4⟩, fun q hq => ?_, fun T xs e => ?_⟩
      · have hql : q < s.heap.objs.size := by
          have e' : q = z ∨ q = TI ∨ q = TO ∨ q = i1 ∨ q = i2 := by simpa using hq
          rcases e' with e | e | e | e | e
          · rcases hz with ⟨hz, _⟩ | ⟨T, f, xs, hz, _⟩ <;> (rw [e]; exact Heap.lt_size hz)
          · rw [e]; exact Heap.lt_size hTI
          · rw [e]; exact Heap.lt_size hO
          · rw [e]; obtain ⟨_, e1, _⟩ := h1.obj; exact Heap.lt_size e1
          · rw [e]; obtain ⟨_, e2, _⟩ := h2.obj; exact Heap.lt_size e2
        rw [upd_ne (Nat.ne_of_lt hql)]
        exact (hf q hq).1
      · rw [upd_ne (ne_of_none e hn)]; exact e
    rcases hz with ⟨hz, x0, y0, hTO⟩ | ⟨T, f, zs, hz, hT⟩
    · refine wpAny_pyNext_zipD2_item S (drawsB (A := A.in1) hA b i1 a n1 its.toArray) (drawsB (A := A.in1) hA c i2 d n2 its2.toArray) hz hTI hTO ⟨h1, p⟩ ⟨h2, p2⟩ hlt hlt2 fun v1 v2 h' tk e1 e2 z' TO' st1 st2 hT hsz hk => ?_
      exact fin v1 v2 h' tk e1 e2 hT (fun c o hc e => hk c o (fun q => hc (by simp [q])) (fun q => hc (by simp [q])) (fun q => hc (by simp [q])) (fun q => hc (by simp [q])) e) (hk _ _ S.TIz S.TITO S.TIi1 S.TIi2 hTI) st1.1 st2.1 ⟨_, TO'⟩ ⟨s.heap.objs.size, false, (_, _), z', upd_same⟩
    · obtain ⟨oT, hoT⟩ := I.tupAlive hT
      refine zipH_item S (drawsB (A := A.in1) hA b i1 a n1 its.toArray) (drawsB (A := A.in1) hA c i2 d n2 its2.toArray) hz hoT hTI ⟨h1, p⟩ ⟨h2, p2⟩ hlt hlt2 fun v1 v2 h' tk e1 e2 z' st1 st2 hT2 hk => ?_
      exact fin v1 v2 h' tk e1 e2 hT2 (fun c o hc e => hk c o (fun q => hc (by simp [q])) (fun q => hc (by simp [q])) (fun q => hc (by simp [q])) e) (hk _ _ S.TIz S.TIi1 S.TIi2 hTI) st1.1 st2.1 ⟨oO, hk _ _ S.TOz S.Ti1 S.Ti2 hO⟩ ⟨T, true, zs, z', by rw [upd_ne (ne_of_none hT (I.hok.fresh (Nat.le_refl _)))]; exact hT⟩
  done := by
    intro X hP hw hK A hA i pins s σ H E I hf st hg
    subst hP hw hK
    obtain ⟨hTI, h1, h2, ⟨oO, hO⟩, hz⟩ := st
    obtain ⟨xs, ys, hqx, hqy, hend⟩ := hg
    obtain ⟨its, rv, p⟩ := I.sqB hqx
    obtain ⟨its2, rv2, p2⟩ := I.sqB hqy
    have l1 := rv.length
    have l2 := rv2.length
    have n1 : a ≠ i1 := p.ne h1
    have n2 : d ≠ i2 := p2.ne h2
    have z1 : its.toArray.size = its.length := by simp
    have z2 : its2.toArray.size = its2.length := by simp
    have fin : ∀ (h' : Heap) (tk : Tok), (∀ c o, c ∉ [z, TI, TO, i1, i2] → s.heap.get? c = some o → h'.get? c = some o) → L2.Inv X pins σ H { s with heap := h', toks := tk } := fun h' tk hk => I.turnedL (t' := tk) (ch := [z, TI, TO, i1, i2]) hk hf
    rcases hz with ⟨hz, x0, y0, hTO⟩ | ⟨T, f, zs, hz, hT⟩
    · exact wpAny_pyNext_zipD2_end S (drawsB (A := A.in1) hA b i1 a n1 its.toArray) (drawsB (A := A.in1) hA c i2 d n2 its2.toArray) hz hTI hTO ⟨h1, p⟩ ⟨h2, p2⟩ (by omega) (by omega) (by omega) fun h' tk hk => ⟨rfl, fin h' tk fun c o hc e => hk c o (fun q => hc (by simp [q])) (fun q => hc (by simp [q])) (fun q => hc (by simp [q])) (fun q => hc (by simp [q])) e⟩
    · obtain ⟨oT, hoT⟩ := I.tupAlive hT
      exact zipH_end S (drawsB (A := A.in1) hA b i1 a n1 its.toArray) (drawsB (A := A.in1) hA c i2 d n2 its2.toArray) hz hoT hTI ⟨h1, p⟩ ⟨h2, p2⟩ (by omega) (by omega) (by omega) fun h' tk hk => ⟨rfl, fin h' tk fun c o hc e => hk c o (fun q => hc (by simp [q])) (fun q => hc (by simp [q])) (fun q => hc (by simp [q])) e⟩
theorem turnH_enum {P : Program} {w : World} {K : PySem.W.Frag} (b : Bool) (a e it : Addr) (hae : a ≠ e) (hai : a ≠ it) (hne : e ≠ it) :
    TurnH P w K (IteB b K a) [e, it] e "enumerate" (fun i h H => ItB b h it a i ∧ ((∃ old, IsEnum h e it (i : Int) old) ∨ ∃ T f old, ∃ xs : Obj × List V, IsEnumHeld h e it (i : Int) old T f ∧ H T = some (.frz xs.1 (.tup xs.2)))) where
  mem := by simp
  keep := fun i h h' H H' st k kt => by
    obtain ⟨h1, hz⟩ := st
    refine ⟨h1.at fun o q => k it (by simp) o q, ?_⟩
    rcases hz with ⟨old, he⟩ | ⟨T, f, old, xs, he, hT⟩
    · exact .inl ⟨old, k e (by simp) _ he⟩
    · exact .inr ⟨T, f, old, xs, k e (by simp) _ he, kt _ _ hT⟩
  type := fun i h H st => by
    obtain ⟨_, hz⟩ := st
    rcases hz with ⟨old, he⟩ | ⟨T, f, old, xs, he, hT⟩
    · exact ⟨_, he, rfl⟩
    · exact ⟨_, he, rfl⟩
  self := fun A i s H Q E st h => by
    obtain ⟨_, hz⟩ := st
    rcases hz with ⟨old, he⟩ | ⟨T, f, old, xs, he, hT⟩
    · exact wpAny_pyIter_enum he h
    · have hT : s.TypeIs (.ref e) "enumerate" := ⟨_, he, rfl⟩
      refine wpAny_pyIter_slot hT F.slot_enumerate_iter (wpAny_call_entry F.slot_enumerate_iter hT F.entry_enumerate_iter ?_ (F.args_enumerate_iter_1 _))
      show wpAny _ _ (ret (.ref e)) _ _ s
      exact wpAny_pure ⟨_, rfl, "enumerate", _, hT, F.slot_enumerate_next.lookup, h⟩
  item := by
    intro X hP hw hK A hA i pins s σ H E I hf st hg
    subst hP hw hK
    obtain ⟨hit, hz⟩ := st
    obtain ⟨xs, x, hq, hx⟩ := hg
    obtain ⟨its, rv, p⟩ := I.sqB hq
    obtain ⟨u, hu, ru⟩ := rv.get hx
    have hlt : i < its.toArray.size := by have := (List.getElem?_eq_some_iff.mp hu).1; simpa using this
    have hil : it < s.heap.objs.size := by obtain ⟨_, q, _⟩ := hit.obj; exact Heap.lt_size q
    have hel : e < s.heap.objs.size := by rcases hz with ⟨old, he⟩ | ⟨T, f, old, xs, he, hT⟩ <;> exact Heap.lt_size he
    have e1 : ((i + 1 : Nat) : Int) = (i : Int) + 1 := by omega
    have fin : ∀ (x1 : Value) (h' : Heap) (tk t : Tok), its.toArray[i]? = some x1 → h'.get? s.heap.objs.size = some { cls := .type "tuple", data := .seq #[.int i t, x1] } →
        (∀ c o, c ∉ [e, it] → s.heap.get? c = some o → h'.get? c = some o) → ItB b h' it a (i + 1) →
        (∃ T f old, ∃ xs : Obj × List V, IsEnumHeld h' e it ((i : Int) + 1) old T f ∧ (upd H s.heap.objs.size (.frz { cls := .type "tuple", data := .seq #[.int i t, x1] } (.tup [.int (i : Nat), x]))) T = some (.frz xs.1 (.tup xs.2))) →
        ∃ u v H', (some (Value.ref s.heap.objs.size) : Option Value) = some u ∧ L2.Inv X pins σ H' { s with heap := h', toks := tk } ∧ RelV v u ∧ (IteB b X.K a).yld i H v H' ∧
          (ItB b h' it a (i + 1) ∧ ((∃ old, IsEnum h' e it ((i + 1 : Nat) : Int) old) ∨ ∃ T f old, ∃ xs : Obj × List V, IsEnumHeld h' e it ((i + 1 : Nat) : Int) old T f ∧ H' T = some (.frz xs.1 (.tup xs.2)))) ∧ (∀ b ∈ [e, it], H' b = none) ∧ ∀ T xs, H T = some (.lst xs) → H' T = some (.lst xs) := by
      intro v1 h' tk t e2 hT hk k1 k4
      obtain rfl : u = v1 := by
        have hu' : its.toArray[i]? = some u := by simpa using hu
        exact Option.some.inj (hu'.symm.trans e2)
      have hn : H s.heap.objs.size = none := I.hok.fresh (Nat.le_refl _)
      have new : ObjOk X.prog X.w (upd H s.heap.objs.size (.frz { cls := .type "tuple", data := .seq #[.int i t, u] } (.tup [.int (i : Nat), x]))) h' s.heap.objs.size (.frz { cls := .type "tuple", data := .seq #[.int i t, u] } (.tup [.int (i : Nat), x])) :=
        ⟨hT, by show 2 ≤ sizeLine; decide, [.int i t, u], .cons ⟨_, rfl⟩ (.cons ru .nil), ⟨_, hT, rfl, _, rfl⟩⟩
      refine ⟨_, .ref s.heap.objs.size, _, rfl, I.turnedNew (t' := tk) (ch := [e, it]) hk hf (Nat.le_refl _) new, rfl, ⟨_, x, rfl, hn, ⟨_, rfl, rfl⟩, fun l hl => by rw [I.sqB_inj hl hq]; exact hx⟩, ⟨k1, .inr (by rw [e1]; exact k4)⟩, fun q hq => ?_, fun T xs e => ?_⟩
      · have hql : q < s.heap.objs.size := by
          have e' : q = e ∨ q = it := by simpa using hq
          rcases e' with z | z
          · rw [z]; exact hel
          · rw [z]; exact hil
        rw [upd_ne (Nat.ne_of_lt hql)]
        exact (hf q hq).1
      · rw [upd_ne (ne_of_none e hn)]; exact e
    rcases hz with ⟨old, he⟩ | ⟨T, f, old, zs, he, hT⟩
    · refine wpAny_pyNext_enum_itemC (drawsB (A := A.in1) hA b it a hai its.toArray) he ⟨hit, p⟩ hlt hne (by simp [hne, Ne.symm hae]) fun y h' tk hy ho st' hT hsz hk => ?_
      exact fin y h' (tk + 1) tk hy hT (fun c o hc q => hk c o (fun z => hc (by simp [z])) (fun z => hc (by simp [z])) q) st'.1 ⟨s.heap.objs.size, false, y, (_, _), ho, upd_same⟩
    · obtain ⟨oT, hoT⟩ := I.tupAlive hT
      have tne : ∀ q ∈ [e, it], T ≠ q := fun q hq z => by have := (hf q hq).1; rw [← z, hT] at this; cases this
      refine enumH_item (drawsB (A := A.in1) hA b it a hai its.toArray) he hoT (tne e (by simp)) (tne it (by simp)) ⟨hit, p⟩ hlt hne (by simp [hne, Ne.symm hae]) fun y h' tk hy ho st' hT2 hk => ?_
      exact fin y h' (tk + 1) tk hy hT2 (fun c o hc q => hk c o (fun z => hc (by simp [z])) (fun z => hc (by simp [z])) q) st'.1 ⟨T, true, old, zs, ho, by rw [upd_ne (ne_of_none hT (I.hok.fresh (Nat.le_refl _)))]; exact hT⟩
  done := by
    intro X hP hw hK A hA i pins s σ H E I hf st hg
    subst hP hw hK
    obtain ⟨hit, hz⟩ := st
    obtain ⟨xs, hq, hx⟩ := hg
    obtain ⟨its, rv, p⟩ := I.sqB hq
    obtain ⟨f0, f1, f2, f3, f4, f5⟩ := hf it (by simp)
    have hl := rv.length
    have hn : its.toArray.size = i := by simp; omega
    rcases hz with ⟨old, he⟩ | ⟨T, f, old, zs, he, hT⟩
    · exact wpAny_pyNext_enum_endD (drawsB (A := A.in1) hA b it a hai its.toArray) he (show (fun i h => ItB b h it a i ∧ IsB b h a its.toArray) its.toArray.size s.heap from by rw [hn]; exact ⟨hit, p⟩) fun h' eb => ⟨rfl, I.turned (t' := s.toks) (fun b o hb q => eb b o hb q) f0 f1 f3 f4 f5⟩
    · exact enumH_end (drawsB (A := A.in1) hA b it a hai its.toArray) he (show (fun i h => ItB b h it a i ∧ IsB b h a its.toArray) its.toArray.size s.heap from by rw [hn]; exact ⟨hit, p⟩) fun h' eb => ⟨rfl, I.turned (t' := s.toks) (fun b o hb q => eb b o hb q) f0 f1 f3 f4 f5⟩

/-! ### an expression that yields an iterator -/
def PLE (X : Cx) (pins : List (Addr × Obj)) (σ : L2.St) (R : It → Hp → Prop) (v : Value) (s1 : Shared) : Prop :=
  ∃ (it : Addr) (fp : List Addr) (Ty : String) (tn : Nat → Heap → Hp → Prop) (J : It) (H' : Hp), v = .ref it ∧ L2.Inv X pins σ H' s1 ∧ TurnH X.prog X.w X.K J fp it Ty tn ∧ tn 0 s1.heap H' ∧ (∀ b ∈ fp, FpOk X pins H' b) ∧ (∀ b ∈ fp, b < s1.heap.objs.size) ∧
    ((Value.type Ty == Value.type "list") = false ∧ (Value.type Ty == Value.type "tuple") = false ∧ typeLookup (.type Ty) "__len__" = pure none ∧ typeLookup (.type Ty) "__length_hint__" = pure none) ∧ R J H'
structure PL (X : Cx) (e : Expr) (wi : TI) : Prop where
  run : ∀ (pins : List (Addr × Obj)) (s : Shared) (σ : L2.St) (H : Hp) (R : It → Hp → Prop), L2.Inv X pins σ H s → wi σ H R → wpAny (model X.prog X.w) X.A (eval e X.env) (PLE X pins σ R) X.xe s
def FL (X : Cx) (e : Expr) (f : RI) : Prop := PL X e (tI X.K f)
theorem zip_no_len : typeLookup (.type "zip") "__len__" = pure none := by rw [typeLookup_type, builtinLookup_eq_fast]; kernel_rfl
theorem zip_no_hint : typeLookup (.type "zip") "__length_hint__" = pure none := by rw [typeLookup_type, builtinLookup_eq_fast]; kernel_rfl
theorem enum_no_len : typeLookup (.type "enumerate") "__len__" = pure none := by rw [typeLookup_type, builtinLookup_eq_fast]; kernel_rfl
theorem enum_no_hint : typeLookup (.type "enumerate") "__length_hint__" = pure none := by rw [typeLookup_type, builtinLookup_eq_fast]; kernel_rfl
section
variable {X : Cx} {e e2 : Expr} {f f2 : RE} {p pos : Pos} {it : RI}
theorem fl_enum (hm : X.mg "enumerate" = none) (he : FE X e f) (hg : Gl X "enumerate" := by rfl) (hs : starEach [e] X.env = [(false, eval e X.env)] := by rfl) : FL X (.Call (.Name "enumerate" p) [e] [] pos) (iEnum f) := by
  refine ⟨fun pins s σ H R I ⟨w, l, xs, m', W, L, e0, k⟩ => ?_⟩
  simp only [iEnum, Option.bind_eq_some_iff] at e0
  obtain ⟨⟨p, m1⟩, e1, e2⟩ := e0
  cases p with
  | r n => cases e2
  | d x =>
    simp only [Option.map_eq_some_iff, Prod.mk.injEq] at e2
    obtain ⟨ds, e3, rfl, rfl⟩ := e2
    refine Call_ (ld_blt I hg hm boot_enumerate (PyProof.Rows.callWith_type1 (thn ((fa_cons (fe_z he) fa_nil (by rw [hs]; rfl)).run pos pins s σ H (fun vs H1 => ∃ w1 v, vs = [v] ∧ Wd X.K w1 H1 ∧ Dq X.K w1.P H1 v x ∧ w1.m = m1 ∧ Ex w H w1 H1) I ⟨w, l, [S.d x], m1, W, L, by simp [rA, e1], fun w1 H1 vs c1 E1 W1 r1 => ?_⟩) fun us s1 ⟨vs, H1, I1, r1, w1, v, ev, W1, r, c1, E1⟩ => ?_) hs rfl))
    · cases r1
      rename_i r rr
      cases rr
      exact ⟨w1, _, rfl, W1, r, c1, E1⟩
    · subst ev
      obtain ⟨b, a, xs, rfl, h1, h2, h3, h4⟩ := stay_of W1 r e3
      cases r1 with
      | cons r rr =>
        cases rr
        cases r
        obtain ⟨its, rv, p'⟩ := I1.sqB h3
        have hla := p'.lt
        refine enum_begins1 (beginsB b a its.toArray) p' fun h' he hit hsz hk => ?_
        have I2 : L2.Inv X pins σ H1 { s1 with heap := h' } := I1.kept (t' := s1.toks) hk
        refine ⟨s1.heap.objs.size + 1, [s1.heap.objs.size + 1, s1.heap.objs.size], "enumerate", _, _, H1, rfl, I2, turnH_enum b a (s1.heap.objs.size + 1) s1.heap.objs.size (Nat.ne_of_lt (Nat.lt_succ_of_lt hla)) (Nat.ne_of_lt hla) (Nat.succ_ne_self _), ⟨.new hit, .inl ⟨.none, he⟩⟩, fun c hb => ?_, fun c hb => ?_, ⟨by decide, by decide, enum_no_len, enum_no_hint⟩, k w1 H1 _ c1 E1 W1 (yl_enum h1 h2 h4)⟩
        · have e' : c = s1.heap.objs.size + 1 ∨ c = s1.heap.objs.size := by simpa using hb
          have hle : s1.heap.objs.size ≤ c := by
            rcases e' with z | z
            · rw [z]; exact Nat.le_add_right _ _
            · rw [z]; exact Nat.le_refl _
          exact I1.fpOk hle (I1.hok.fresh hle)
        · have e' : c = s1.heap.objs.size + 1 ∨ c = s1.heap.objs.size := by simpa using hb
          show c < h'.objs.size
          rw [hsz]
          rcases e' with z | z
          · rw [z]; exact Nat.lt_succ_self _
          · rw [z]; exact Nat.lt_add_of_pos_right (by decide)
theorem fl_zip (hm : X.mg "zip" = none) (he : FE X e f) (he2 : FE X e2 f2) (hg : Gl X "zip" := by rfl) (hs : starEach [e, e2] X.env = (false, eval e X.env) :: starEach [e2] X.env := by rfl) (hs2 : starEach [e2] X.env = [(false, eval e2 X.env)] := by rfl) (hpl : (backTo pos (starEach [e2] X.env)).any (·.1) = false := by rfl) :
    FL X (.Call (.Name "zip" p) [e, e2] [] pos) (iZip f f2) := by
  refine ⟨fun pins s σ H R I ⟨w, l, xs, m', W, L, e0, k⟩ => ?_⟩
  simp only [iZip, Option.bind_eq_some_iff] at e0
  obtain ⟨⟨p, m1⟩, e1, ⟨q, m2⟩, e2, e3⟩ := e0
  cases p with
  | r n => cases q <;> cases e3
  | d x =>
    cases q with
    | r n => cases e3
    | d y =>
      simp only [Option.map_eq_some_iff, Option.bind_eq_some_iff, Prod.mk.injEq] at e3
      obtain ⟨ds, e4, es, e5, rfl, rfl⟩ := e3
      refine Call_ (ld_blt I hg hm PyProof.Rows.boot_zip (PyProof.Rows.callWith_type1 (thn ((fa_cons (fe_z he) (fa_cons (fe_z he2) fa_nil (by rw [hs2]; rfl)) hs).run pos pins s σ H (fun vs H1 => ∃ w1 v u, vs = [v, u] ∧ Wd X.K w1 H1 ∧ Dq X.K w1.P H1 v x ∧ Dq X.K w1.P H1 u y ∧ w1.m = m2 ∧ Ex w H w1 H1) I ⟨w, l, [S.d x, S.d y], m2, W, L, by simp [rA, e1, e2], fun w1 H1 vs c1 E1 W1 r1 => ?_⟩) fun us s1 ⟨vs, H1, I1, r1, w1, v, u, ev, W1, r, r', c1, E1⟩ => ?_) hs hpl))
      · cases r1
        rename_i r rr
        cases rr
        rename_i r' rr
        cases rr
        exact ⟨w1, _, _, rfl, W1, r, r', c1, E1⟩
      · subst ev
        obtain ⟨b, a, xs, rfl, h1, h2, h3, h4⟩ := stay_of W1 r e4
        obtain ⟨c, d, ys, rfl, h5, h6, h7, h8⟩ := stay_of W1 r' e5
        cases r1 with
        | cons q rr =>
          cases rr with
          | cons q' rr =>
            cases rr
            cases q
            cases q'
            obtain ⟨its, rv, p1⟩ := I1.sqB h3
            obtain ⟨its2, rv2, p2⟩ := I1.sqB h7
            refine zip_begins2 (beginsB b a its.toArray) (beginsB c d its2.toArray) p1 p2 fun h' hz hTI hTO g1 g2 hsz hk => ?_
            have I2 : L2.Inv X pins σ H1 { s1 with heap := h' } := I1.kept (t' := s1.toks) hk
            have S : ZipSep2 (s1.heap.objs.size + 4) (s1.heap.objs.size + 2) (s1.heap.objs.size + 3) s1.heap.objs.size (s1.heap.objs.size + 1) [s1.heap.objs.size, a] [s1.heap.objs.size + 1, d] :=
              zip_sep2 (N := s1.heap.objs.size) (fp1 := [a]) (fp2 := [d]) (fun b hb => by rw [List.mem_singleton.mp hb]; exact p1.lt) (fun b hb => by rw [List.mem_singleton.mp hb]; exact p2.lt)
            refine ⟨s1.heap.objs.size + 4, [s1.heap.objs.size + 4, s1.heap.objs.size + 2, s1.heap.objs.size + 3, s1.heap.objs.size, s1.heap.objs.size + 1], "zip", _, _, H1, rfl, I2, turnH_zip S, ⟨hTI, .new g1, .new g2, ⟨_, hTO⟩, .inl ⟨hz, _, _, hTO⟩⟩, fun c hcm => ?_, fun c hcm => ?_, ⟨by decide, by decide, zip_no_len, zip_no_hint⟩, k w1 H1 _ c1 E1 W1 (yl_zip h1 h2 h6 h4 h8)⟩
            · have e' : c = s1.heap.objs.size + 4 ∨ c = s1.heap.objs.size + 2 ∨ c = s1.heap.objs.size + 3 ∨ c = s1.heap.objs.size ∨ c = s1.heap.objs.size + 1 := by simpa using hcm
              have hle : s1.heap.objs.size ≤ c := by
                rcases e' with z | z | z | z | z
                · rw [z]; exact Nat.le_add_right _ _
                · rw [z]; exact Nat.le_add_right _ _
                · rw [z]; exact Nat.le_add_right _ _
                · rw [z]; exact Nat.le_refl _
                · rw [z]; exact Nat.le_add_right _ _
              exact I1.fpOk hle (I1.hok.fresh hle)
            · have e' : c = s1.heap.objs.size + 4 ∨ c = s1.heap.objs.size + 2 ∨ c = s1.heap.objs.size + 3 ∨ c = s1.heap.objs.size ∨ c = s1.heap.objs.size + 1 := by simpa using hcm
              show c < h'.objs.size
              rw [hsz]
              rcases e' with z | z | z | z | z <;> (rw [z]; first | exact Nat.add_lt_add_left (by decide) _ | exact Nat.lt_add_of_pos_right (by decide))
theorem lcGo_id : ∀ (xs : List S) (m : Mem), lcGo [0] (gN 0) tYes (eV 0) xs [none] m = some (xs, m)
  | [], m => rfl
  | x :: xs, m => by
    simp [lcGo, gN, Fz.wipe, tYes, eV, lcGo_id xs m]
/-- list of an iterator -/
def eLi (it : RI) : RE := fun l m => (it l m).bind fun p => (allD p.1).map fun ds => (.d (.list ds), p.2)
theorem fe_li (h : FL X e it) (hm : X.mg "list" = none) (hg : Gl X "list" := by rfl) (hc : X.calm = true := by rfl) (hs : starEach [e] X.env = [(false, eval e X.env)] := by rfl) : FE X (.Call (.Name "list" p) [e] [] pos) (eLi it) := by
  refine ⟨fun pins s σ H Q I ⟨w, l, s0, m', W, L, e0, k⟩ => ?_⟩
  simp only [eLi, Option.bind_eq_some_iff, Option.map_eq_some_iff, Prod.mk.injEq] at e0
  obtain ⟨⟨xs, m1⟩, e1, ds, e2, rfl, rfl⟩ := e0
  refine Call_ (ld_blt I hg hm boot_list (PyProof.Rows.callWith_type1 ?_ (by rw [hs]; rfl) rfl))
  rw [hs]
  refine Calls.spliced_cons (thn (h.run pins s σ H (fun J H1 => ∃ w1, w1.m = m1 ∧ Ex w H w1 H1 ∧ Wd X.K w1 H1 ∧ Yl X.K w1 H1 J xs) I ⟨w, l, xs, m1, W, L, e1, fun w1 H1 J c1 E1 W1 Y => ⟨w1, c1, E1, W1, Y⟩⟩) fun v s1 ⟨it, fp, Ty, tn, J, H1, ev, I1, t, st, hf, hlt, ⟨t1, t2, t3, t4⟩, w1, c1, E1, W1, Y⟩ => ?_)
  subst ev
  refine Calls.spliced_nil ?_
  refine list_of_turnH t hc t1 t2 t3 t4 I1 hf hlt st fun D hD => ?_
  have L1 : SL X.K w1 H1 [none] [none] := ⟨rfl, fun i s e => by
    cases i with
    | zero => simp at e
    | succ i => simp at e⟩
  obtain ⟨Wf, hm0, hW⟩ := lc_loop (Qd := Q) (vs := [0]) (is := [0]) (t := tYes) W1 L1 Y (by rw [c1]; exact lcGo_id xs m1) (by simp) (fun D w2 H2 acc hD p2 c2 E2 W2 hDa ra la => by
    obtain ⟨E3, W3, r⟩ := lc_frz W1 hD p2 E2 W2 hDa ra e2 la
    exact k (w2.perm w1.P0) H2 _ c2 (E1.trans E3) W3 r) D hD
  refine ⟨Wf, hm0, fun i m H2 hw => ?_⟩
  rcases hW i m H2 hw with z | ⟨z1, Nx, z2, z3⟩
  · exact .inl z
  · refine .inr ⟨z1, Nx, z2, fun x H3 y => ?_⟩
    obtain ⟨w3, l3, s3, l4, W3, L3, r3, g3, k3⟩ := z3 x H3 y
    cases g3
    have q1 := k3 w3 H3 _ rfl (Ex.refl _ _) W3 (L3.set r3 0) (Agr.set 0 _ _)
    obtain ⟨_, w4, l5, b4, m4, W4, L4, e4, k4⟩ := q1
    cases e4
    have q2 := k4 w4 H3 rfl (Ex.refl _ _) W4
    have q3 : tF X.K (eV 0) (List.set (L2.wipe [none] [0]) 0 (some x)) H3 fun y H4 => ∃ acc, H4 D = some (HO.lst acc) ∧ acc.length < sizeLine ∧ Nx (upd H4 D (HO.lst (acc ++ [y]))) := q2
    obtain ⟨w5, l6, s5, m5, W5, L5, e5, k5⟩ := q3
    simp only [eV] at e5
    cases q : l6[0]? with
    | none => rw [q] at e5; cases e5
    | some o =>
      rw [q] at e5
      cases o with
      | none => cases e5
      | some s6 =>
        cases e5
        obtain ⟨v, v1, v2⟩ := L5.2 0 s5 q
        have : v = x := by
          simp [L2.wipe] at v1
          exact v1.symm
        subst this
        exact k5 w5 H3 _ rfl (Ex.refl _ _) W5 v2
end
end Fz

set_option linter.all false
set_option autoImplicit false
set_option maxRecDepth 100000
/-! FzM: reckoning with readings. -/
namespace Fz
open PySem
open L2 (ixN atI)
section
variable {x : PyData} {l : Lo} {m : Mem} {a b c : RE} {i : Nat}
@[simp] theorem eC_e : eC x l m = some (.d x, m) := rfl
@[simp] theorem eV_e : eV i l m = (l[i]?.join).map (fun s => (s, m)) := by
  unfold eV
  rcases l[i]? with _ | (_ | s) <;> rfl
@[simp] theorem eOp_e {g} : eOp g a b l m = (a l m).bind fun p => (b l p.2).bind fun q => (deref q.2 p.1).bind fun d => (deref q.2 q.1).bind fun e => (g d e).map fun r => (.d r, q.2) := rfl
@[simp] theorem eUn_e {g} : eUn g a l m = (a l m).bind fun p => (deref p.2 p.1).bind fun d => (g d).map fun r => (.d r, p.2) := rfl
@[simp] theorem eIx_e : eIx a b l m = (a l m).bind fun p => (b l p.2).bind fun q => (deref q.2 q.1).bind fun k => (ixS q.2 p.1 k).map fun r => (r, q.2) := rfl
@[simp] theorem oN_e : oN l m = some (none, m) := rfl
@[simp] theorem oI_e {r : S × Mem} (h : a l m = some r) (i : Int) (hi : r.1 = .d (.int i)) : oI a l m = some (some i, r.2) := by
  obtain ⟨s, m2⟩ := r
  simp only at hi; subst hi
  simp [oI, h]
@[simp] theorem oI_c {k : Int} : oI (eC (.int k)) l m = some (some k, m) := rfl
@[simp] theorem eSl_e {lo hi : RO} : eSl a lo hi l m = (a l m).bind fun p => (lo l p.2).bind fun q => (hi l q.2).bind fun u => (deref u.2 p.1).bind fun d => (slD d q.1 u.1).map fun r => (.d r, u.2) := rfl
@[simp] theorem eIf_e {t : RT} : eIf t a b l m = (t l m).bind fun p => if p.1 = true then a l p.2 else b l p.2 := rfl
@[simp] theorem tB_e : tB a l m = (a l m).bind fun p => match p.1 with
  | .d (.bool b) => some (b, p.2)
  | _ => none := rfl
@[simp] theorem tV_e : tV a l m = (a l m).bind fun p => (deref p.2 p.1).bind fun d => (truth d).map fun b => (b, p.2) := rfl
@[simp] theorem tAnd_e {s t : RT} : Fz.tAnd s t l m = (s l m).bind fun p => if p.1 = true then t l p.2 else some (false, p.2) := rfl
@[simp] theorem tOr_e {s t : RT} : Fz.tOr s t l m = (s l m).bind fun p => if p.1 = true then some (true, p.2) else t l p.2 := rfl
@[simp] theorem tNot_e {s : RT} : Fz.tNot s l m = (s l m).map fun p => (!p.1, p.2) := rfl
@[simp] theorem tYes_e : tYes l m = some (true, m) := rfl
@[simp] theorem rA_n : rA [] l m = some ([], m) := rfl
@[simp] theorem rA_c {r : List RE} : rA (a :: r) l m = (a l m).bind fun p => (rA r l p.2).map fun q => (p.1 :: q.1, q.2) := rfl
@[simp] theorem eTup_e {as : List RE} : eTup as l m = (rA as l m).bind fun p => (allD p.1).map fun ds => (.d (.tuple ds), p.2) := rfl
@[simp] theorem eLst_e {as : List RE} : eLst as l m = (rA as l m).bind fun p => (allD p.1).map fun ds => (.d (.list ds), p.2) := rfl
@[simp] theorem eLstM_e {as : List RE} : eLstM as l m = (rA as l m).map fun p => (.r p.2.length, p.2 ++ [.lst p.1]) := rfl
@[simp] theorem eB_e {g : PF} {as : List RE} : eB g as l m = (rA as l m).bind fun p => (derefs p.2 p.1).bind fun ds => (g ds).map fun r => (.d r, p.2) := rfl
@[simp] theorem eP_e {F : PF} {as : RA} : eP F as l m = (as l m).bind fun p => (allD p.1).bind fun ds => (F ds).map fun r => (.d r, p.2) := rfl
@[simp] theorem eI_e {F : IF} {as : RA} : eI F as l m = (as l m).bind fun p => F p.1 p.2 := rfl
@[simp] theorem rK_e {is : List Nat} {as ks : List RE} : rK is as ks l m = (rA as l m).bind fun p => (rA ks l p.2).map fun q => (pick is (p.1 ++ q.1), q.2) := rfl
@[simp] theorem eZ_e : eZ a l m = (a l m).bind fun p => match p.1 with
  | .d x => some (.d x, p.2)
  | .r n => match p.2[n]? with
    | some (.lst ss) => (allD ss).map fun ds => (.d (.list ds), p.2.set n (.frz ds))
    | some (.frz ds) => some (.d (.list ds), p.2)
    | _ => none := rfl
@[simp] theorem eDct_e {ks : List Str} {as : List RE} : eDct ks as l m = (rA as l m).map fun p => (.r p.2.length, p.2 ++ [.dct ((ks.map PyData.str).zip p.1)]) := rfl
@[simp] theorem eM_e {g} {as : List RE} : eM g a as l m = (a l m).bind fun p => if isL p.2 p.1 = true then (rA as l p.2).bind fun q => g q.2 p.1 q.1 else none := rfl
@[simp] theorem eMulM_e : eMulM a b l m = (a l m).bind fun p => (b l p.2).bind fun q => (deref q.2 p.1).bind fun d => (deref q.2 q.1).bind fun e => (pMul d e).bind fun r => match r with
  | .list xs => some (.r q.2.length, q.2 ++ [.lst (xs.map S.d)])
  | _ => none := rfl
@[simp] theorem eLi_e {it : RI} : eLi it l m = (it l m).bind fun p => (allD p.1).map fun ds => (.d (.list ds), p.2) := rfl
@[simp] theorem eAnd_e : eAnd a b l m = (a l m).bind fun p => match p.1 with
  | .d (.bool c) => if c = true then b l p.2 else some (.d (.bool false), p.2)
  | _ => none := rfl
@[simp] theorem eOr_e : eOr a b l m = (a l m).bind fun p => match p.1 with
  | .d (.bool c) => if c = true then some (.d (.bool true), p.2) else b l p.2
  | _ => none := rfl
@[simp] theorem eNot_e {t : RT} : eNot t l m = (t l m).map fun p => (.d (.bool (!p.1)), p.2) := rfl
@[simp] theorem derefs_n : derefs m [] = some [] := rfl
@[simp] theorem derefs_c {s : S} {r : List S} : derefs m (s :: r) = (deref m s).bind fun d => (derefs m r).map (d :: ·) := rfl
@[simp] theorem allD_n : allD [] = some [] := rfl
@[simp] theorem allD_d {y : PyData} {r : List S} : allD (.d y :: r) = (allD r).map (y :: ·) := rfl
/-! ### what is walked -/
@[simp] theorem iD_e : iD a l m = (eZ a l m).bind fun p => match p.1 with
  | .d x => (items x).map fun xs => (xs.map S.d, p.2)
  | .r _ => none := rfl
@[simp] theorem iRange_e : iRange a l m = (a l m).bind fun p => match p.1 with
  | .d (.int j) => if -lim ≤ j ∧ j ≤ lim then some ((upto j.toNat).map S.d, p.2) else none
  | _ => none := rfl
@[simp] theorem iZip_e : iZip a b l m = (eZ a l m).bind fun p => (eZ b l p.2).bind fun q => match p.1, q.1 with
  | .d x, .d y => (items x).bind fun xs => (items y).map fun ys => ((pairs xs ys).map S.d, q.2)
  | _, _ => none := rfl
@[simp] theorem iEnum_e : iEnum a l m = (eZ a l m).bind fun p => match p.1 with
  | .d x => (items x).map fun xs => ((pairs (upto xs.length) xs).map S.d, p.2)
  | .r _ => none := rfl
@[simp] theorem eLc_e {vs it g t} : eLc vs it g t a l m = (it l m).bind fun p => (lcGo vs g t a p.1 l p.2).bind fun q => (allD q.1).map fun ds => (.d (.list ds), q.2) := rfl
@[simp] theorem eLcM_e {vs it g t} : eLcM vs it g t a l m = (it l m).bind fun p => (lcGo vs g t a p.1 l p.2).map fun q => (.r q.2.length, q.2 ++ [.lst q.1]) := rfl
@[simp] theorem items_l {xs} : items (.list xs) = some xs := rfl
@[simp] theorem items_t {xs} : items (.tuple xs) = some xs := rfl
/-! ### statements -/
variable {s t : RS} {tc : RT} {e : RE} {o : RE} {k : RE}
@[simp] theorem sSkip_e : sSkip l m = some (.nx, l, m) := rfl
@[simp] theorem sBrk_e : sBrk l m = some (.bk, l, m) := rfl
@[simp] theorem sCnt_e : sCnt l m = some (.ct, l, m) := rfl
@[simp] theorem sSeq_e : sSeq s t l m = (s l m).bind fun p => match p.1 with
  | .nx => t p.2.1 p.2.2
  | c => some (c, p.2.1, p.2.2) := rfl
@[simp] theorem sSet_e : sSet i e l m = (e l m).map fun p => (.nx, l.set i (some p.1), p.2) := by
  unfold sSet sAsg gN
  cases e l m <;> rfl
@[simp] theorem sAsg_e {g : Tg} : sAsg g e l m = (e l m).bind fun p => (g p.1 l).map fun l' => (.nx, l', p.2) := rfl
@[simp] theorem sPar_e {is : List Nat} {as : List RE} : sPar is as l m = (rA as l m).map fun p => (.nx, (is.zip p.1).foldl (fun l q => l.set q.1 (some q.2)) l, p.2) := rfl
@[simp] theorem sDrop_e : sDrop e l m = (e l m).map fun p => (.nx, l, p.2) := rfl
@[simp] theorem sRet_e : sRet e l m = (e l m).map fun p => (.rt p.1, l, p.2) := rfl
@[simp] theorem sRetN_e : sRetN l m = some (.rt (.d .none), l, m) := rfl
@[simp] theorem sIf_e : sIf tc s t l m = (tc l m).bind fun p => if p.1 = true then s l p.2 else t l p.2 := rfl
@[simp] theorem sPut_e : sPut o k e l m = (e l m).bind fun v => (o l v.2).bind fun p => (k l p.2).bind fun q => (deref q.2 q.1).bind fun k => (setS q.2 p.1 k v.1).map fun m' => (.nx, l, m') := rfl
@[simp] theorem sFor_e {it : RI} {g : Tg} : sFor it g s l m = (it l m).bind fun p => forGo g s p.1 l p.2 := rfl
@[simp] theorem gN_e {y : S} : gN i y l = some (l.set i (some y)) := rfl
end
/-! ### operators -/
@[simp] theorem pAdd_i {i j : Int} : pAdd (.int i) (.int j) = some (.int (i + j)) := rfl
@[simp] theorem pSub_i {i j : Int} : pSub (.int i) (.int j) = some (.int (i - j)) := rfl
theorem pMul_i {i j : Int} (h : -(2 ^ 64) < i ∧ i < 2 ^ 64 ∨ -(2 ^ 64) < j ∧ j < 2 ^ 64) : pMul (.int i) (.int j) = some (.int (i * j)) := by
  have : (small64 i || small64 j || (wide i && wide j)) = true := by
    rw [Bool.or_eq_true, Bool.or_eq_true]
    left
    rcases h with h | h
    · left; simpa [small64] using h
    · right; simpa [small64] using h
  simp only [pMul, this, if_true]
theorem pMul_w {i j : Int} (h1 : i.natAbs < 2 ^ 4000) (h2 : j.natAbs < 2 ^ 4000) : pMul (.int i) (.int j) = some (.int (i * j)) := by
  have : (small64 i || small64 j || (wide i && wide j)) = true := by
    rw [Bool.or_eq_true, Bool.and_eq_true]
    exact .inr ⟨decide_eq_true h1, decide_eq_true h2⟩
  simp only [pMul, this, if_true]
@[simp] theorem pLt_i {i j : Int} : pLt (.int i) (.int j) = some (.bool (decide (i < j))) := rfl
@[simp] theorem pLe_i {i j : Int} : pLe (.int i) (.int j) = some (.bool (decide (i ≤ j))) := rfl
@[simp] theorem pGt_i {i j : Int} : pGt (.int i) (.int j) = some (.bool (decide (j < i))) := rfl
@[simp] theorem pGe_i {i j : Int} : pGe (.int i) (.int j) = some (.bool (decide (j ≤ i))) := rfl
@[simp] theorem pEq_i {i j : Int} : pEq (.int i) (.int j) = some (.bool (decide (i = j))) := rfl
@[simp] theorem pNe_i {i j : Int} : pNe (.int i) (.int j) = some (.bool (!decide (i = j))) := rfl
@[simp] theorem pEq_s {i j : Str} : pEq (.str i) (.str j) = some (.bool (decide (i = j))) := rfl
@[simp] theorem pNe_s {i j : Str} : pNe (.str i) (.str j) = some (.bool (!decide (i = j))) := rfl
theorem pFdiv_i {i j : Int} (h : 0 < j ∧ j < 1073741824) : pFdiv (.int i) (.int j) = some (.int (i / j)) := by
  have h2 : j.natAbs < 2 ^ 4000 := Nat.lt_of_lt_of_le (by omega : j.natAbs < 2 ^ 30) (Nat.pow_le_pow_right (by decide) (by decide))
  simp only [pFdiv, if_pos (And.intro h.1 h2)]
theorem pFdiv_w {i j : Int} (h : 0 < j) (h2 : j.natAbs < 2 ^ 4000) : pFdiv (.int i) (.int j) = some (.int (i / j)) := by simp only [pFdiv, if_pos (And.intro h h2)]
theorem pMod_i {i j : Int} (h : 0 < j) : pMod (.int i) (.int j) = some (.int (i % j)) := by simp only [pMod, if_pos h]
@[simp] theorem fInt_i {i : Int} : fInt [.int i] = some (.int i) := rfl
@[simp] theorem fInt_b {b : Bool} : fInt [.bool b] = some (.int (if b then 1 else 0)) := rfl
@[simp] theorem fAbs_i {i : Int} : fAbs [.int i] = some (.int (if i < 0 then -i else i)) := rfl
@[simp] theorem fLen_l {xs} : fLen [.list xs] = some (.int xs.length) := rfl
@[simp] theorem fLen_t {xs} : fLen [.tuple xs] = some (.int xs.length) := rfl
@[simp] theorem fTuple_l {xs} : fTuple [.list xs] = some (.tuple xs) := rfl
@[simp] theorem fTuple_t {xs} : fTuple [.tuple xs] = some (.tuple xs) := rfl
@[simp] theorem fList_l {xs} : fList [.list xs] = some (.list xs) := rfl
@[simp] theorem fList_t {xs} : fList [.tuple xs] = some (.list xs) := rfl
@[simp] theorem ixD_l {xs i} : ixD (.list xs) (.int i) = atI xs i := rfl
@[simp] theorem ixD_t {xs i} : ixD (.tuple xs) (.int i) = atI xs i := rfl
@[simp] theorem slD_l {xs lo hi} : slD (.list xs) lo hi = some (.list (cutL xs lo hi)) := rfl
@[simp] theorem slD_t {xs lo hi} : slD (.tuple xs) lo hi = some (.tuple (cutL xs lo hi)) := rfl
/-! ### loops -/
theorem forGo_fold {α σ : Type} {g : Tg} {b : RS} (enc : α → S) (L : σ → Lo) (M : σ → Mem) (f : σ → α → σ) : ∀ (xs : List α) (s0 : σ), (∀ s x, x ∈ xs → (g (enc x) (L s)).bind (fun l1 => b l1 (M s)) = some (.nx, L (f s x), M (f s x))) →
    forGo g b (xs.map enc) (L s0) (M s0) = some (.nx, L (xs.foldl f s0), M (xs.foldl f s0))
  | [], s0, _ => rfl
  | x :: xs, s0, h => by
    have h1 := h s0 x (by simp)
    simp only [List.map_cons, forGo, List.foldl_cons]
    rw [Option.bind_eq_some_iff] at h1
    obtain ⟨l1, e1, e2⟩ := h1
    rw [e1, Option.bind_some, e2, Option.bind_some]
    exact forGo_fold enc L M f xs (f s0 x) fun s y hy => h s y (by simp [hy])
/-- a loop by an invariant; the body goes on -/
theorem forGo_inv {α : Type} {g : Tg} {b : RS} (enc : α → S) (I : List α → Lo → Mem → Prop) : ∀ (xs pre : List α) (l : Lo) (m : Mem), I pre l m →
    (∀ p x q l m, pre ++ xs = p ++ x :: q → I p l m → ∃ l1 l2 m2, g (enc x) l = some l1 ∧ b l1 m = some (.nx, l2, m2) ∧ I (p ++ [x]) l2 m2) →
    ∃ l' m', forGo g b (xs.map enc) l m = some (.nx, l', m') ∧ I (pre ++ xs) l' m'
  | [], pre, l, m, h, _ => ⟨l, m, rfl, by simpa using h⟩
  | x :: xs, pre, l, m, h, hs => by
    obtain ⟨l1, l2, m2, e1, e2, h2⟩ := hs pre x xs l m rfl h
    obtain ⟨l', m', e3, h3⟩ := forGo_inv enc I xs (pre ++ [x]) l2 m2 h2 fun p y q l m e => hs p y q l m (by rw [← e]; simp)
    refine ⟨l', m', ?_, by simpa using h3⟩
    simp only [List.map_cons, forGo, e1, e2, Option.bind_some]
    exact e3
/-- a comprehension that leaves the memory as it is -/
theorem lcGo_pure {α : Type} {vs : List Nat} {g : Tg} {t : RT} {e : RE} {l : Lo} {m : Mem} (enc : α → S) (p : α → Bool) (f : α → S) : ∀ xs : List α,
    (∀ x, x ∈ xs → ∃ l1, g (enc x) (Fz.wipe l vs) = some l1 ∧ t l1 m = some (p x, m) ∧ (p x = true → e l1 m = some (f x, m))) →
    lcGo vs g t e (xs.map enc) l m = some ((xs.filter p).map f, m)
  | [], _ => rfl
  | x :: xs, h => by
    obtain ⟨l1, e1, e2, e3⟩ := h x (by simp)
    have ih := lcGo_pure enc p f xs fun y hy => h y (by simp [hy])
    simp only [List.map_cons, lcGo, e1, e2, Option.bind_some]
    cases q : p x with
    | false => simp only [Bool.false_eq_true, if_false, ih, List.filter_cons, q]
    | true => simp only [if_true, e3 q, Option.bind_some, ih, Option.map_some, List.filter_cons, q, List.map_cons]
/-- a comprehension by an invariant -/
theorem lcGo_inv {α : Type} {vs : List Nat} {g : Tg} {t : RT} {e : RE} {l : Lo} (enc : α → S) (I : List α → List S → Mem → Prop) : ∀ (xs pre : List α) (acc : List S) (m : Mem), I pre acc m →
    (∀ q x r acc m, pre ++ xs = q ++ x :: r → I q acc m → ∃ l1 b m1, g (enc x) (Fz.wipe l vs) = some l1 ∧ t l1 m = some (b, m1) ∧ ((b = false ∧ I (q ++ [x]) acc m1) ∨ (b = true ∧ ∃ y m2, e l1 m1 = some (y, m2) ∧ I (q ++ [x]) (acc ++ [y]) m2))) →
    ∃ out m', lcGo vs g t e (xs.map enc) l m = some (out, m') ∧ I (pre ++ xs) (acc ++ out) m'
  | [], pre, acc, m, h, _ => ⟨[], m, rfl, by simpa using h⟩
  | x :: xs, pre, acc, m, h, hs => by
    obtain ⟨l1, b, m1, e1, e2, h2⟩ := hs pre x xs acc m rfl h
    have hs' : ∀ acc' m', I (pre ++ [x]) acc' m' → ∃ out m'', lcGo vs g t e (xs.map enc) l m' = some (out, m'') ∧ I (pre ++ [x] ++ xs) (acc' ++ out) m'' := fun acc' m' h' =>
      lcGo_inv enc I xs (pre ++ [x]) acc' m' h' fun q y r acc m e => hs q y r acc m (by rw [← e]; simp)
    simp only [List.map_cons, lcGo, e1, e2, Option.bind_some]
    rcases h2 with ⟨rfl, h2⟩ | ⟨rfl, y, m2, e3, h2⟩
    · obtain ⟨out, m', e4, h4⟩ := hs' _ _ h2
      exact ⟨out, m', by simp only [Bool.false_eq_true, if_false]; exact e4, by simpa using h4⟩
    · obtain ⟨out, m', e4, h4⟩ := hs' _ _ h2
      exact ⟨y :: out, m', by simp only [if_true, e3, Option.bind_some, e4, Option.map_some], by simpa using h4⟩
theorem while_go {c : RT} {b : RS} {k : Nat} {l l' : Lo} {m m1 m2 : Mem} (h1 : c l m = some (true, m1)) (h2 : b l m1 = some (.nx, l', m2)) : whileGo c b (k + 1) l m = whileGo c b k l' m2 := by
  simp only [whileGo, h1, Option.bind_some, if_true, h2]
theorem while_no {c : RT} {b : RS} {k : Nat} {l : Lo} {m m1 : Mem} (h1 : c l m = some (false, m1)) : whileGo c b (k + 1) l m = some (.nx, l, m1) := by
  simp only [whileGo, h1, Option.bind_some, Bool.false_eq_true, if_false]
theorem map_upto (n : Nat) : (upto n).map S.d = (List.range n).map fun i => S.d (.int (i : Nat)) := by
  unfold upto; rw [List.map_map]; rfl

/-! ### what repr takes -/
def big : Nat := 1000000000
mutual
def cost : PyData → Nat
  | .none => 1
  | .bool _ => 1
  | .int i => if i.natAbs < 10 ^ 12 then 1 else big
  | .str x => if (x.cps.toList.all fun c => decide (c < 16 ^ 8)) = true then x.cps.size + 1 else big
  | .list xs => costAll xs + 1
  | .tuple xs => costAll xs + 1
  | .dict kvs => costKv kvs + 1
def costAll : List PyData → Nat
  | [] => 0
  | x :: xs => cost x + costAll xs
def costKv : List (PyData × PyData) → Nat
  | [] => 0
  | (a, b) :: r => cost a + cost b + costKv r
end
/-- of small cost: all that repr asks but depth -/
structure Fit (d : PyData) : Prop where
  sh : d.showable = true
  lv : d.leavesShort 13 = true
  wt : d.weight + 1 ≤ 64 * cost d
structure FitAll (ds : List PyData) : Prop where
  sh : PyData.showableAll ds = true
  lv : PyData.leavesShortAll 13 ds = true
  wt : PyData.weightAll ds ≤ 64 * costAll ds
structure FitKv (ds : List (PyData × PyData)) : Prop where
  sh : PyData.showableKv ds = true
  lv : PyData.leavesShortKv 13 ds = true
  wt : PyData.weightKv ds ≤ 64 * costKv ds
theorem cost_pos : ∀ d : PyData, 1 ≤ cost d
  | .none => by simp [cost]
  | .bool _ => by simp [cost]
  | .int i => by simp only [cost]; split <;> simp [big]
  | .str x => by simp only [cost]; split <;> simp [big]
  | .list xs => by simp [cost]
  | .tuple xs => by simp [cost]
  | .dict _ => by simp [cost]
mutual
theorem fit : ∀ d : PyData, cost d < big → Fit d
  | .none, _ => ⟨rfl, rfl, by simp [PyData.weight, cost]⟩
  | .bool _, _ => ⟨rfl, rfl, by simp [PyData.weight, cost]⟩
  | .int i, h => by
    simp only [cost] at h
    split at h
    · rename_i hi
      have hl : i.natAbs.log2 < 40 := by
        by_cases h0 : i.natAbs = 0
        · rw [h0]; decide
        · exact (Nat.log2_lt h0).2 (Nat.lt_trans hi (by decide))
      refine ⟨?_, ?_, ?_⟩
      · simp only [PyData.showable, decide_eq_true_eq]; omega
      · simp only [PyData.leavesShort, decide_eq_true_eq]; exact PyData.shown_int_le hi
      · simp only [PyData.weight, cost, if_pos hi]; split <;> omega
    · exact absurd h (Nat.lt_irrefl _)
  | .str x, h => by
    simp only [cost] at h
    split at h
    · rename_i hx
      refine ⟨rfl, by simpa only [PyData.leavesShort] using hx, ?_⟩
      simp only [PyData.weight, cost, if_pos hx]; omega
    · exact absurd h (Nat.lt_irrefl _)
  | .list xs, h => by
    simp only [cost] at h
    have f := fitAll xs (by omega)
    exact ⟨by simpa only [PyData.showable] using f.sh, by simpa only [PyData.leavesShort] using f.lv, by have := f.wt; simp only [PyData.weight, cost]; omega⟩
  | .tuple xs, h => by
    simp only [cost] at h
    have f := fitAll xs (by omega)
    exact ⟨by simpa only [PyData.showable] using f.sh, by simpa only [PyData.leavesShort] using f.lv, by have := f.wt; simp only [PyData.weight, cost]; omega⟩
  | .dict xs, h => by
    simp only [cost] at h
    have f := fitKv xs (by omega)
    exact ⟨by simpa only [PyData.showable] using f.sh, by simpa only [PyData.leavesShort] using f.lv, by have := f.wt; simp only [PyData.weight, cost]; omega⟩
theorem fitAll : ∀ ds : List PyData, costAll ds < big → FitAll ds
  | [], _ => ⟨rfl, rfl, by simp [PyData.weightAll]⟩
  | x :: xs, h => by
    simp only [costAll] at h
    have f := fit x (by omega)
    have g := fitAll xs (by omega)
    have c := cost_pos x
    exact ⟨by simp only [PyData.showableAll, f.sh, g.sh, Bool.and_self], by simp only [PyData.leavesShortAll, f.lv, g.lv, Bool.and_self], by
      have h1 := f.wt; have h2 := g.wt
      simp only [PyData.weightAll, costAll]; omega⟩
theorem fitKv : ∀ ds : List (PyData × PyData), costKv ds < big → FitKv ds
  | [], _ => ⟨rfl, rfl, by simp [PyData.weightKv]⟩
  | (a, b) :: xs, h => by
    simp only [costKv] at h
    have f := fit a (by omega)
    have e := fit b (by omega)
    have g := fitKv xs (by omega)
    exact ⟨by simp only [PyData.showableKv, f.sh, e.sh, g.sh, Bool.and_self], by simp only [PyData.leavesShortKv, f.lv, e.lv, g.lv, Bool.and_self], by
      have h1 := f.wt; have h2 := g.wt; have h3 := e.wt
      simp only [PyData.weightKv, costKv]; omega⟩
end
/-- depth at most n, cost at most c -/
def Sml (n c : Nat) (d : PyData) : Prop := d.depth ≤ n ∧ cost d ≤ c
theorem Sml.repr {n c : Nat} {d : PyData} (h : Sml n c d) (hn : n ≤ 64) (hc : c ≤ 10000) : ReprOk d := by
  obtain ⟨h1, h2⟩ := h
  have f := fit d (by show _ < 1000000000; omega)
  refine ⟨f.sh, by omega, ?_⟩
  have h3 := PyData.shown_le 13 (by decide) d f.lv
  have h4 := f.wt
  have h5 : 15 * d.weight ≤ 15 * (64 * 10000) := Nat.mul_le_mul_left _ (Nat.le_trans (Nat.le_of_succ_le h4) (Nat.mul_le_mul_left _ (Nat.le_trans h2 hc)))
  rw [sizeLine_eq]
  omega
theorem fRepr_l {n c : Nat} {xs : List PyData} (h : Sml n c (.list xs)) (hn : n ≤ 64) (hc : c ≤ 10000) : fRepr [.list xs] = some (.str (PyData.shown (.list xs))) := by
  simp only [fRepr, if_pos (h.repr hn hc)]
theorem fRepr_t {n c : Nat} {xs : List PyData} (h : Sml n c (.tuple xs)) (hn : n ≤ 64) (hc : c ≤ 10000) : fRepr [.tuple xs] = some (.str (PyData.shown (.tuple xs))) := by
  simp only [fRepr, if_pos (h.repr hn hc)]
theorem fRepr_i {n c : Nat} {i : Int} (h : Sml n c (.int i)) (hn : n ≤ 64) (hc : c ≤ 10000) : fRepr [.int i] = some (.str (PyData.shown (.int i))) := by
  simp only [fRepr, if_pos (h.repr hn hc)]
theorem Sml.mono {n c n' c' : Nat} {d : PyData} (h : Sml n c d) (hn : n ≤ n') (hc : c ≤ c') : Sml n' c' d := ⟨Nat.le_trans h.1 hn, Nat.le_trans h.2 hc⟩
theorem sml_int {i : Int} (h : i.natAbs < 10 ^ 12) : Sml 0 1 (.int i) := ⟨Nat.le_refl 0, by simp only [cost, if_pos h]; exact Nat.le_refl 1⟩
theorem sml_none : Sml 0 1 .none := ⟨Nat.le_refl 0, Nat.le_refl 1⟩
theorem sml_bool {b : Bool} : Sml 0 1 (.bool b) := ⟨Nat.le_refl 0, Nat.le_refl 1⟩
theorem sml_all {n c : Nat} : ∀ {xs : List PyData}, (∀ x, x ∈ xs → Sml n c x) → PyData.depthAll xs ≤ n ∧ costAll xs ≤ xs.length * c
  | [], _ => ⟨Nat.zero_le _, by simp [costAll]⟩
  | x :: xs, h => by
    obtain ⟨h1, h2⟩ := h x (by simp)
    obtain ⟨h3, h4⟩ := sml_all fun y hy => h y (List.mem_cons_of_mem _ hy)
    refine ⟨by simp only [PyData.depthAll]; omega, ?_⟩
    simp only [costAll, List.length_cons, Nat.add_mul]; omega
theorem sml_tup {n c k : Nat} {xs : List PyData} (h : ∀ x, x ∈ xs → Sml n c x) (hk : xs.length ≤ k) : Sml (n + 1) (k * c + 1) (.tuple xs) := by
  obtain ⟨h1, h2⟩ := sml_all h
  exact ⟨by simp only [PyData.depth]; omega, by simp only [cost]; have := Nat.mul_le_mul_right c hk; omega⟩
theorem sml_lst {n c k : Nat} {xs : List PyData} (h : ∀ x, x ∈ xs → Sml n c x) (hk : xs.length ≤ k) : Sml (n + 1) (k * c + 1) (.list xs) := by
  obtain ⟨h1, h2⟩ := sml_all h
  exact ⟨by simp only [PyData.depth]; omega, by simp only [cost]; have := Nat.mul_le_mul_right c hk; omega⟩
theorem sml_ints {ns : List Int} {k : Nat} (h : ∀ n, n ∈ ns → n.natAbs < 10 ^ 12) (hk : ns.length ≤ k) : Sml 1 (k + 1) (.tuple (ns.map .int)) := by
  have := sml_tup (n := 0) (c := 1) (k := k) (xs := ns.map PyData.int) (fun x hx => by obtain ⟨i, hi, rfl⟩ := List.mem_map.mp hx; exact sml_int (h i hi)) (by rw [List.length_map]; exact hk)
  rw [Nat.mul_one] at this
  exact this
end Fz

set_option linter.all false
set_option autoImplicit false
set_option maxRecDepth 100000
/-! FzS19: sorted. -/
namespace FzSort
open PySem PySem.W PySem.Calls PyProof.Rows
section
variable {prog : Program} {w : World} {A : Around} {E : Value → Shared → Prop} {s : Shared}
theorem collect_tup {l : Addr} {vs : List Value} {Q : List Value → Shared → Prop} (hl : IsTup s.heap l vs.toArray)
    (h : Q vs { s with heap := (s.heap.push (seqObj "list" #[] 0)).update s.heap.objs.size (Obj.mapSeq (· ++ vs.toArray)) }) (hsz : vs.length ≤ sizeLine) :
    wpAny (model prog w) A (collect (.ref l)) Q E s := by
  obtain ⟨o, ho, hc, n, hd⟩ := id hl
  unfold collect
  refine wpAny_bind (wpAny_runValue (codeAny_builtin entry_proto_collect' ?_))
  show wpAny _ _ (do again (.builtin "list.__iadd__" ⟨[← newList [], .ref l], []⟩)) _ _ s
  refine wpAny_bind (wpAny_newList (wpAny_pure ⟨Code.quiet_builtin _ (by decide +kernel), codeAny_builtin entry_list_iadd' ?_⟩))
  show wpAny _ _ (Builtin.List.listExtendWith (.ref s.heap.objs.size) (.ref l) (.ref s.heap.objs.size)) _ _ { s with heap := s.heap.push (seqObj "list" #[] 0) }
  unfold Builtin.List.listExtendWith
  have ho' : (s.heap.push (seqObj "list" #[] 0)).get? l = some o := Heap.get?_push_of_some _ ho
  refine wpAny_bind (wpAny_typeOf (T := "tuple") ⟨o, ho', hc⟩ ?_)
  have ht : (Value.type "tuple" == Value.type "tuple") = true := by rfl
  rw [if_pos (by rw [ht]; simp)]
  refine wpAny_bind (listItems_at ho' hd ?_)
  refine wpAny_bind (listItems_at (xs := #[]) (n := 0) (Heap.get?_push_size _ rfl) rfl ?_)
  rw [if_neg (by simp)]
  refine wpAny_bind (listUpdate_at (xs := #[]) (n := 0) (Heap.get?_push_size _ rfl) rfl ?_ (Nat.zero_le _) (by show (#[] ++ vs.toArray).size ≤ sizeLine + 1; simp only [Array.size_append, List.size_toArray, List.length_nil]; omega))
  refine wpAny_pure ?_
  show wpAny (model prog w) A (do
      let o ← load s.heap.objs.size
      match o.data with
      | .seq xs _ => pure xs.toList
      | _ => unsupported "internal:collect") Q E { s with heap := (s.heap.push (seqObj "list" #[] 0)).update s.heap.objs.size (Obj.mapSeq (· ++ vs.toArray)) }
  refine wpAny_bind (wpAny_load (get?_update_seq (Heap.get?_push_size _ rfl) _) ?_)
  show wpAny _ _ (pure ((#[] : Array Value) ++ vs.toArray).toList) Q E _
  rw [show ((#[] : Array Value) ++ vs.toArray).toList = vs by simp]
  exact wpAny_pure h
theorem sortedT_of_sort {l : Addr} {vs : List Value} {kw : List (Str × Value)} {Q : Value → Shared → Prop} (hl : IsTup s.heap l vs.toArray) (hL : vs.length ≤ sizeLine) (ha1 : argsOk "sorted" ⟨[.ref l], kw⟩) (ha2 : ∀ x, argsOk "list.sort" ⟨[.ref x], kw⟩)
    (body : ∀ E' : Value → Shared → Prop, wpAny (model prog w) A.in1.in1 (Builtin.«list.sort» ⟨[.ref (s.heap.objs.size + 1)], kw⟩) (fun f s' => f = .done (.ret .none) ∧ Q (.ref (s.heap.objs.size + 1)) s') E' { s with heap := copyHeap s.heap vs }) :
    wpAny (model prog w) A (call (.builtin "sorted") [.ref l] kw) Q E s := by
  refine call_function_entry_kw kind_sorted plain_sorted entry_sorted ha1 ?_
  unfold Builtin.«sorted»
  refine wpAny_bind (m := checkCount "sorted" 1 1 _) (wpAny_pure ?_)
  refine wpAny_bind (collect_tup hl ?_ hL)
  refine wpAny_bind (wpAny_newList ?_ hL)
  have hsz : ((s.heap.push (seqObj "list" #[] 0)).update s.heap.objs.size (Obj.mapSeq (· ++ vs.toArray))).objs.size = s.heap.objs.size + 1 := by
    rw [Heap.size_update, size_push']
  show wpAny _ _ _ _ _ { s with heap := copyHeap s.heap vs }
  rw [hsz]
  refine wpAny_bind (wpAny_holding (wpAny_call_entry_kw slot_list_sort ⟨_, copyHeap_at s.heap vs, rfl⟩ entry_list_sort ?body (ha2 _)))
  case body =>
    show wpAny (model prog w) A.in1.in1 (Builtin.«list.sort» ⟨[.ref (s.heap.objs.size + 1)], kw⟩) _ _ _
    refine wpAny_mono (body _) (fun f s' hf => ?_) fun _ _ e => e
    obtain ⟨rfl, hq⟩ := hf
    exact ⟨_, rfl, wpAny_pure ⟨_, rfl, hq⟩⟩
theorem sortedT_data {β : Type} {vs : List Value} {bs : List β} {enc : β → PyData} {R : Value → β → Prop} {l : Addr} {Q : Value → Shared → Prop} (hl : IsTup s.heap l vs.toArray) (e : EachIs R vs bs) (er : EachIs (fun v b => ∃ as, Reads s.heap v (enc b) as) vs bs) (hal : AllAlike (bs.map enc)) (hk : Sortable (bs.map enc)) (hL : bs.length ≤ sizeLine)
    (hu : ∀ b, b ∈ bs → A.units + 2 + (enc b).depth < cLine) (h : ∀ out, out.length = bs.length → EachIs R out (bs.mergeSort (dataLe false enc)) → Q (.ref (s.heap.objs.size + 1)) { s with heap := sortedAll s.heap vs (List.toArray out) }) :
    wpAny (model prog w) A (call (.builtin "sorted") [.ref l]) Q E s := by
  have er' : EachIs (fun v b => ∃ as, Reads (sortingHeap (copyHeap s.heap vs) (s.heap.objs.size + 1) vs) v (enc b) as) vs bs := er.mono fun _ _ ⟨as, r⟩ => ⟨as, PyProof.Rows.Reads.keeps (fun _ _ => sorting_copy_old) r⟩
  have hL' : vs.length ≤ sizeLine := by rw [e.length]; exact hL
  exact sortedT_of_sort hl hL' (args_sorted1 _) (fun _ => args_list_sort _) fun _ => list_sort_vals (s := { s with heap := copyHeap s.heap vs }) (copyHeap_at s.heap vs)
    (SortsAt.data (s := { s with heap := sortingHeap (copyHeap s.heap vs) (s.heap.objs.size + 1) vs }) (each_map (R := fun v d => ∃ as, Reads (sortingHeap (copyHeap s.heap vs) (s.heap.objs.size + 1) vs) v d as) enc er') hal hk (bound_map hu)) hL'
    ⟨rfl, h _ (by rw [sortVals_length false rfl]; exact e.length) (sortVals_data false e er' hal)⟩
end
end FzSort
namespace Fz
open PySem PySem.Spec PyProof.Rows L2
section
variable {α : Type} (le : α → α → Bool)
def ins (a : α) : List α → List α
  | [] => [a]
  | b :: r => if le a b = true then a :: b :: r else b :: ins a r
def isort : List α → List α
  | [] => []
  | a :: r => ins le a (isort r)
theorem ins_at (a : α) : ∀ (l1 l2 : List α), (∀ b, b ∈ l1 → le a b = false) → (∀ b, b ∈ l2 → le a b = true) → ins le a (l1 ++ l2) = l1 ++ a :: l2
  | [], [], _, _ => rfl
  | [], b :: r, _, h => by
    show (if le a b = true then a :: b :: r else b :: ins le a r) = _
    rw [if_pos (h b (by simp))]; rfl
  | b :: l1, l2, h1, h2 => by
    show (if le a b = true then a :: b :: (l1 ++ l2) else b :: ins le a (l1 ++ l2)) = _
    rw [if_neg (by rw [h1 b (by simp)]; exact Bool.false_ne_true), ins_at a l1 l2 (fun c hc => h1 c (by simp [hc])) h2]; rfl
theorem isort_eq (tr : ∀ a b c, le a b = true → le b c = true → le a c = true) (tot : ∀ a b, (le a b || le b a) = true) : ∀ xs : List α, isort le xs = xs.mergeSort le
  | [] => by simp [isort]
  | a :: xs => by
    obtain ⟨l1, l2, h1, h2, h3⟩ := List.mergeSort_cons tr tot a xs
    have hs := List.pairwise_mergeSort tr tot (a :: xs)
    rw [h1] at hs
    show ins le a (isort le xs) = _
    rw [isort_eq tr tot xs, h2, h1]
    exact ins_at le a l1 l2 (fun b hb => by simpa using h3 b hb) (fun b hb => by
      have := (List.pairwise_append.mp hs).2.1
      exact (List.pairwise_cons.mp this).1 b hb)
end
abbrev leD : PyData → PyData → Bool := PySem.W.dataLe false id
def isTup1 : PyData → Bool
  | .tuple (_ :: _) => true
  | _ => false
def notNT : PyData → Bool
  | .none => false
  | .tuple _ => false
  | _ => true
def okSort (xs : List PyData) : Bool := (xs.all fun d => xs.all fun d' => PySem.W.alike d d') && (xs.all isTup1 || xs.all notNT) && xs.all fun d => decide (d.depth ≤ 64)
def fSorted : List PyData → Option PyData
  | [.list xs] => if okSort xs = true then some (.list (isort leD xs)) else none
  | [.tuple xs] => if okSort xs = true then some (.list (isort leD xs)) else none
  | _ => none
theorem leD_sort (xs : List PyData) : isort leD xs = xs.mergeSort leD := by
  have t := PySem.W.sortLe_total (PyProof.Rows.listOrd PyProof.Rows.itemOrd) false fun b : PyData => PySem.W.keyToks (id b)
  exact isort_eq leD t.trans (fun a b => by
    rcases t.total a b with h | h
    · show (PySem.W.sortLe _ _ _ a b || _) = true
      rw [h]; rfl
    · show (_ || PySem.W.sortLe _ _ _ b a) = true
      rw [h, Bool.or_true]) xs
section
variable {X : Cx}
theorem each_of {K : PySem.W.Frag} {P : Addr → Prop} {H : Hp} {R : Value → V × PyData → Prop} (h : ∀ v x d, RelV x v → Dq K P H x d → R v (x, d)) : ∀ {xs : List V} {its : List Value} {ds : List PyData}, Vals xs its → DqAll K P H xs ds → PySem.W.EachIs R its (xs.zip ds)
  | _, _, _, .nil, .nil => .nil
  | _, _, _, .cons a b, .cons c d => .cons (h _ _ _ a c) (each_of h b d)
theorem each_back {K : PySem.W.Frag} {P : Addr → Prop} {H : Hp} : ∀ {its : List Value} {bs : List (V × PyData)}, PySem.W.EachIs (fun v b => RelV b.1 v ∧ Dq K P H b.1 b.2) its bs → Vals (bs.map Prod.fst) its ∧ DqAll K P H (bs.map Prod.fst) (bs.map Prod.snd)
  | _, [], .nil => ⟨.nil, .nil⟩
  | _, _ :: _, .cons h t => ⟨.cons h.1 (each_back t).1, .cons h.2 (each_back t).2⟩
theorem zip_snd : ∀ {xs : List V} {ds : List PyData}, xs.length = ds.length → (xs.zip ds).map Prod.snd = ds
  | [], [], _ => rfl
  | x :: xs, d :: ds, h => by simp only [List.zip_cons_cons, List.map_cons, zip_snd (by simpa using h : xs.length = ds.length)]
  | [], _ :: _, h => by cases h
  | _ :: _, [], h => by cases h
theorem fc_sorted (hu : X.A.units + 66 < cLine) : FCall X (.builtin "sorted") fSorted := by
  intro pins s σ H xs us Q I rx ⟨P, ds, r, hf, hd, eg, q⟩
  match ds, hd, eg with
  | [.list es], hd, eg =>
    simp only [fSorted] at eg
    split at eg
    · rename_i ok
      cases eg
      obtain ⟨x, rfl, hx⟩ := all1 hd
      obtain ⟨a, ys, rfl, h1, h2⟩ := hx.lst_inv
      obtain ⟨z, its, n, rv, hl, e⟩ := I.rdL h1
      rw [Vals.ref1 rx]
      unfold okSort at ok
      rw [Bool.and_eq_true, Bool.and_eq_true, Bool.or_eq_true] at ok
      obtain ⟨⟨o1, o2⟩, o3⟩ := ok
      have hlen := h2.len
      have hsnd : (ys.zip es).map Prod.snd = es := zip_snd hlen
      have hal : PySem.W.AllAlike ((ys.zip es).map Prod.snd) := by
        rw [hsnd]
        intro d hd d' hd'
        exact List.all_eq_true.mp (List.all_eq_true.mp o1 d hd) d' hd'
      have hk : PySem.W.Sortable ((ys.zip es).map Prod.snd) := by
        rw [hsnd]
        rcases o2 with o | o
        · refine .inl fun d hd => ?_
          have := List.all_eq_true.mp o d hd
          match d, this with
          | .tuple (x :: r), _ => exact ⟨x, r, rfl⟩
        · refine .inr fun d hd => ?_
          have := List.all_eq_true.mp o d hd
          exact ⟨(fun (e : d = .none) => by rw [e] at this; cases this), (fun xs (e : d = .tuple xs) => by rw [e] at this; cases this)⟩
      refine PySem.W.sorted_data (R := fun v b => RelV b.1 v ∧ Dq X.K P H b.1 b.2) (enc := Prod.snd) (bs := ys.zip es) (vs := its) ⟨_, e, rfl, n, rfl⟩ (each_of (fun v x d a b => ⟨a, b⟩) rv h2)
        (each_of (fun v x d a b => (let ⟨as, r, _⟩ := Dq.reads I b a; ⟨as, r⟩)) rv h2) hal hk (by rw [List.length_zip, hlen, Nat.min_self, ← hlen]; exact z) (fun b hb => ?_) fun out ho eo => ?_
      · have hb2 : b.2 ∈ es := by rw [← hsnd]; exact List.mem_map.mpr ⟨b, hb, rfl⟩
        have := of_decide_eq_true (List.all_eq_true.mp o3 b.2 hb2)
        show X.A.units + 2 + b.2.depth < cLine
        omega
      · obtain ⟨r1, r2⟩ := each_back eo
        have hms : ((ys.zip es).mergeSort (PySem.W.dataLe false Prod.snd)).map Prod.snd = isort leD es := by
          have hm := List.map_mergeSort (r := PySem.W.dataLe false (Prod.snd (α := V) (β := PyData))) (s := leD) (f := Prod.snd) (l := ys.zip es) (fun a _ b _ => rfl)
          rw [hsnd] at hm
          rw [leD_sort, hm]
        rw [hms] at r2
        obtain ⟨ep, he'⟩ := PyProof.Rows.sortedAll_at s.heap its out.toArray
        have hz : (isort leD es).length ≤ sizeLine := by
          rw [leD_sort, List.length_mergeSort, ← hlen]; exact z
        have hp : H (s.heap.objs.size + 1) = none := I.hok.fresh (Nat.le_succ _)
        obtain ⟨S0, dq⟩ := new_lst r2 hz hf hp
        exact ⟨.ref _, upd H (s.heap.objs.size + 1) (.lst _), I.laid (t' := s.toks) (fun _ _ => PyProof.Rows.sortedAll_old) (Nat.le_succ _) ⟨by rw [r2.len]; exact hz, out, ep, r1, he'⟩, rfl, q _ _ S0 dq⟩
    · cases eg
  | [.tuple es], hd, eg =>
    simp only [fSorted] at eg
    split at eg
    · rename_i ok
      cases eg
      obtain ⟨x, rfl, hx⟩ := all1 hd
      obtain ⟨a, ys, rfl, h1, h2, _, _⟩ := hx.tup_inv
      obtain ⟨its, rv, e, z⟩ := I.tuple h1
      rw [Vals.ref1 rx]
      unfold okSort at ok
      rw [Bool.and_eq_true, Bool.and_eq_true, Bool.or_eq_true] at ok
      obtain ⟨⟨o1, o2⟩, o3⟩ := ok
      have hlen := h2.len
      have hsnd : (ys.zip es).map Prod.snd = es := zip_snd hlen
      have hal : PySem.W.AllAlike ((ys.zip es).map Prod.snd) := by
        rw [hsnd]
        intro d hd d' hd'
        exact List.all_eq_true.mp (List.all_eq_true.mp o1 d hd) d' hd'
      have hk : PySem.W.Sortable ((ys.zip es).map Prod.snd) := by
        rw [hsnd]
        rcases o2 with o | o
        · refine .inl fun d hd => ?_
          have := List.all_eq_true.mp o d hd
          match d, this with
          | .tuple (x :: r), _ => exact ⟨x, r, rfl⟩
        · refine .inr fun d hd => ?_
          have := List.all_eq_true.mp o d hd
          exact ⟨(fun (e : d = .none) => by rw [e] at this; cases this), (fun xs (e : d = .tuple xs) => by rw [e] at this; cases this)⟩
      refine FzSort.sortedT_data (R := fun v b => RelV b.1 v ∧ Dq X.K P H b.1 b.2) (enc := Prod.snd) (bs := ys.zip es) (vs := its) e (each_of (fun v x d a b => ⟨a, b⟩) rv h2)
        (each_of (fun v x d a b => (let ⟨as, r, _⟩ := Dq.reads I b a; ⟨as, r⟩)) rv h2) hal hk (by rw [List.length_zip, hlen, Nat.min_self, ← hlen]; exact z) (fun b hb => ?_) fun out ho eo => ?_
      · have hb2 : b.2 ∈ es := by rw [← hsnd]; exact List.mem_map.mpr ⟨b, hb, rfl⟩
        have := of_decide_eq_true (List.all_eq_true.mp o3 b.2 hb2)
        show X.A.units + 2 + b.2.depth < cLine
        omega
      · obtain ⟨r1, r2⟩ := each_back eo
        have hms : ((ys.zip es).mergeSort (PySem.W.dataLe false Prod.snd)).map Prod.snd = isort leD es := by
          have hm := List.map_mergeSort (r := PySem.W.dataLe false (Prod.snd (α := V) (β := PyData))) (s := leD) (f := Prod.snd) (l := ys.zip es) (fun a _ b _ => rfl)
          rw [hsnd] at hm
          rw [leD_sort, hm]
        rw [hms] at r2
        obtain ⟨ep, he'⟩ := PyProof.Rows.sortedAll_at s.heap its out.toArray
        have hz : (isort leD es).length ≤ sizeLine := by
          rw [leD_sort, List.length_mergeSort, ← hlen]; exact z
        have hp : H (s.heap.objs.size + 1) = none := I.hok.fresh (Nat.le_succ _)
        obtain ⟨S0, dq⟩ := new_lst r2 hz hf hp
        exact ⟨.ref _, upd H (s.heap.objs.size + 1) (.lst _), I.laid (t' := s.toks) (fun _ _ => PyProof.Rows.sortedAll_old) (Nat.le_succ _) ⟨by rw [r2.len]; exact hz, out, ep, r1, he'⟩, rfl, q _ _ S0 dq⟩
    · cases eg
end
theorem hu66 {A : Around} {k : Nat} (r : Room k A) : A.units + 66 < cLine := by have := r.un; omega
end Fz

set_option linter.all false
set_option autoImplicit false
set_option maxRecDepth 100000
/-! FzN: rows, tables, numbers. -/
namespace Fz
open PySem
open L2 (ixN atI)
theorem allD_ints : ∀ xs : List Int, allD (xs.map fun i => S.d (.int i)) = some (xs.map .int)
  | [] => rfl
  | x :: xs => by simp only [List.map_cons, allD, allD_ints xs, Option.map_some]
theorem canLay_ints : ∀ xs : List Int, PyData.canLayAll0 (xs.map .int) = true
  | [] => rfl
  | x :: xs => by simp only [List.map_cons, PyData.canLayAll0, PyData.canLay0, canLay_ints xs, Bool.and_self]
theorem depth_ints : ∀ xs : List Int, PyData.depthAll (xs.map .int) = 0
  | [] => rfl
  | x :: xs => by simp only [List.map_cons, PyData.depthAll, PyData.depth, depth_ints xs, Nat.max_self]
theorem shaped_ints (xs : List Int) : SeqAt.shaped (.list (xs.map .int)) = true := by
  simp only [SeqAt.shaped, PyData.canLay0, canLay_ints, PyData.depth, depth_ints]; decide
/-- a list of numbers != [] -/
@[simp] theorem ne_nil (xs : List Int) : pNe (.list (xs.map .int)) (.list []) = some (.bool (!xs.isEmpty)) := by
  have h : eqB (.list (xs.map .int)) (.list []) = some xs.isEmpty := by
    show (if (SeqAt.shaped (.list (xs.map .int)) && SeqAt.shaped (.list [])) = true then some (PyData.eqv (.list (xs.map .int)) (.list [])) else none) = _
    rw [shaped_ints, show SeqAt.shaped (.list []) = true from shaped_ints []]
    cases xs <;> rfl
  unfold pNe
  rw [h]; rfl
theorem last_of {xs : List Int} (h : xs.isEmpty = false) : ∃ ys y, xs = ys ++ [y] := by
  have hne : xs ≠ [] := fun e => by rw [e] at h; cases h
  exact ⟨xs.dropLast, xs.getLast hne, (List.dropLast_concat_getLast hne).symm⟩
def rowsL : Nat → List (List Int)
  | 0 => [[]]
  | k + 1 => (rowsL k).flatMap fun r => [r ++ [0], r ++ [1]]
abbrev rowD (r : List Int) : PyData := .tuple (r.map .int)
theorem rowsL_len : ∀ k : Nat, (rowsL k).length = 2 ^ k
  | 0 => rfl
  | k + 1 => by
    have : ∀ xs : List (List Int), (xs.flatMap fun r => [r ++ [0], r ++ [1]]).length = 2 * xs.length := fun xs => by
      induction xs with
      | nil => rfl
      | cons x xs ih => simp only [List.flatMap_cons, List.length_append, ih, List.length_cons, List.length_nil]; omega
    rw [rowsL, this, rowsL_len k, Nat.pow_succ, Nat.mul_comm]
theorem rowsL_row : ∀ {k : Nat} {r : List Int}, r ∈ rowsL k → r.length = k ∧ ∀ b, b ∈ r → b = 0 ∨ b = 1
  | 0, r, h => by
    simp [rowsL] at h
    subst h
    exact ⟨rfl, fun b hb => by cases hb⟩
  | k + 1, r, h => by
    simp only [rowsL, List.mem_flatMap] at h
    obtain ⟨q, hq, hr⟩ := h
    obtain ⟨h1, h2⟩ := rowsL_row hq
    simp at hr
    rcases hr with rfl | rfl
    · exact ⟨by simp [h1], fun b hb => by
        simp at hb
        rcases hb with hb | hb
        · exact h2 b hb
        · exact .inl hb⟩
    · exact ⟨by simp [h1], fun b hb => by
        simp at hb
        rcases hb with hb | hb
        · exact h2 b hb
        · exact .inr hb⟩
/-- a table of k places -/
structure Tab (k : Nat) (t : List Int) : Prop where
  len : t.length = 2 ^ k
  bit : ∀ c, c ∈ t → c = 0 ∨ c = 1
abbrev tabD (t : List Int) : PyData := .tuple (t.map .int)
def tg (t : List Int) (i : Int) : Int := t.getD i.toNat 0
theorem at_tab {t : List Int} {i : Int} (h0 : 0 ≤ i) (h1 : i < t.length) : atI (t.map PyData.int) i = some (.int (tg t i)) := by
  obtain ⟨n, rfl⟩ := Int.eq_ofNat_of_zero_le h0
  have hn : n < t.length := by omega
  refine L2.atI_nat (j := n) ?_
  rw [List.getElem?_map, List.getElem?_eq_getElem hn]
  show some (PyData.int t[n]) = some (.int (t.getD (n : Int).toNat 0))
  rw [Int.toNat_natCast, List.getD_eq_getElem?_getD, List.getElem?_eq_getElem hn]; rfl
theorem at_list {α : Type} (enc : α → PyData) {xs : List α} {i : Int} (h0 : 0 ≤ i) (h1 : i < xs.length) : ∃ x, x ∈ xs ∧ xs[i.toNat]? = some x ∧ atI (xs.map enc) i = some (enc x) := by
  obtain ⟨n, rfl⟩ := Int.eq_ofNat_of_zero_le h0
  have hn : n < xs.length := by omega
  refine ⟨xs[n], List.getElem_mem hn, by rw [Int.toNat_natCast]; exact List.getElem?_eq_getElem hn, L2.atI_nat (j := n) ?_⟩
  rw [List.getElem?_map, List.getElem?_eq_getElem hn]; rfl
theorem ixN_nat {n j : Nat} (hj : j < n) : ixN n (j : Int) = some j := by
  unfold ixN
  rw [if_pos (by omega), if_pos (by omega)]
  simp
theorem sum_row (r : List Int) : fSum [rowD r] = some (.int r.sum) := by
  simp [fSum, rowD, asI_map]
theorem tab_of {k : Nat} {f : List Int → Int} (h : ∀ r, r ∈ rowsL k → f r = 0 ∨ f r = 1) : Tab k ((rowsL k).map f) :=
  ⟨by rw [List.length_map, rowsL_len], fun c hc => by obtain ⟨r, hr, rfl⟩ := List.mem_map.mp hc; exact h r hr⟩
theorem allD_S : ∀ xs : List PyData, allD (xs.map S.d) = some xs := allD_map
def isI (o : Option PyData) (i : Int) : Bool := match o with
  | some (.int j) => decide (j = i)
  | _ => false
theorem isI_eq {o : Option PyData} {i : Int} (h : isI o i = true) : o = some (.int i) := by
  unfold isI at h
  split at h
  · rw [of_decide_eq_true h]
  · cases h
def isRow (o : Option PyData) (r : List Int) : Bool := match o with
  | some (.tuple ds) => (match asI ds with
    | some ns => decide (ns = r)
    | none => false)
  | _ => false
theorem isRow_eq {o : Option PyData} {r : List Int} (h : isRow o r = true) : o = some (rowD r) := by
  unfold isRow at h
  split at h
  · split at h
    · rename_i ds _ ns q
      have := of_decide_eq_true h
      subst this
      first | (rw [asI_eq q]; done) | (rw [asI_eq q]; rfl)
    · cases h
  · cases h
def rowN (k i : Nat) : List Int := (rowsL k).getD i []
theorem tg_bit {k : Nat} {t : List Int} (ht : Tab k t) {j : Int} (h0 : 0 ≤ j) (h1 : j < (2 ^ k : Nat)) : atI (t.map PyData.int) j = some (.int (tg t j)) := at_tab h0 (by rw [ht.len]; exact h1)
theorem allD_nat (xs : List Nat) : allD (xs.map fun i => S.d (.int (i : Nat))) = some ((xs.map fun p : Nat => (p : Int)).map .int) := by
  have := allD_map ((xs.map fun p : Nat => (p : Int)).map PyData.int)
  simp only [List.map_map] at this ⊢
  exact this
theorem pow_pos' (k : Nat) : 0 < 2 ^ k := Nat.pow_pos (by decide)
theorem rowN_mem {k i : Nat} (hi : i < 2 ^ k) : rowN k i ∈ rowsL k ∧ (rowsL k)[i]? = some (rowN k i) := by
  have h : i < (rowsL k).length := by rw [rowsL_len]; exact hi
  have e : rowN k i = (rowsL k)[i] := by
    unfold rowN
    rw [List.getD_eq_getElem?_getD, List.getElem?_eq_getElem h]; rfl
  rw [e]
  exact ⟨List.getElem_mem h, List.getElem?_eq_getElem h⟩
theorem rowsL_eq (k : Nat) : rowsL k = (List.range (2 ^ k)).map (rowN k) := by
  apply List.ext_getElem?
  intro i
  by_cases hi : i < 2 ^ k
  · rw [(rowN_mem hi).2, List.getElem?_map, List.getElem?_range hi]; rfl
  · rw [List.getElem?_eq_none (by rw [rowsL_len]; omega), List.getElem?_eq_none (by simp; omega)]
theorem tab_small {t : List Int} {k : Nat} (hk : k ≤ 6) (ht : Tab k t) : Sml 1 65 (tabD t) := sml_ints (k := 64) (fun n hn => by
  rcases ht.bit n hn with e | e <;> (rw [e]; decide)) (by
    rw [ht.len]
    exact Nat.pow_le_pow_right (n := 2) (by decide) hk)
theorem pairs_map {α : Type} (f g : α → PyData) : ∀ xs : List α, pairs (xs.map f) (xs.map g) = xs.map fun x => .tuple [f x, g x]
  | [] => rfl
  | x :: xs => by simp only [List.map_cons, pairs, pairs_map f g xs]
theorem seq_go {a b : RS} {l l1 : Lo} {m m1 : Mem} (h : a l m = some (.nx, l1, m1)) : sSeq a b l m = b l1 m1 := by
  rw [sSeq_e, h]; rfl
theorem allD_of {α : Type} (f : α → PyData) (xs : List α) : allD (xs.map fun i => S.d (f i)) = some (xs.map f) := by
  have := allD_map (xs.map f)
  rw [List.map_map] at this
  exact this
def numL (r : List Int) : Int := r.foldl (fun n b => 2 * n + b) 0
theorem number_go (x : PyData) (r : List Int) (hx : items x = some (r.map .int)) : runP 3 (sSeq (sSet 1 (eC (.int 0)))
  (sSeq (sFor (iD (eV 0)) (gN 2)
  (sSet 1 (eOp pAdd (eOp pMul (eC (.int 2)) (eV 1)) (eV 2))))
  (sRet (eV 1)))) [x] = some (.int (numL r)) := by
  have p1 : ∀ y : Int, pMul (.int 2) (.int y) = some (.int (2 * y)) := fun y => pMul_i (.inl (by decide))
  have e := forGo_fold (g := gN 2) (b := (sSet 1 (eOp pAdd (eOp pMul (eC (.int 2)) (eV 1)) (eV 2)))) (fun b : Int => S.d (.int b)) (fun s : Int × Option S => [some (.d x), some (.d (.int s.1)), s.2]) (fun _ => []) (fun s b => (2 * s.1 + b, some (.d (.int b)))) r (0, none) (fun s b _ => by simp [p1])
  have h1 : ∀ (r : List Int) (s : Int × Option S), (r.foldl (fun (s : Int × Option S) b => (2 * s.1 + b, some (S.d (.int b)))) s).1 = r.foldl (fun n b => 2 * n + b) s.1 := fun r => by
    induction r with
    | nil => intro s; rfl
    | cons b r ih => intro s; simp only [List.foldl_cons]; rw [ih]
  simp only [runP, lo0]
  simp [hx]
  rw [show (S.d ∘ PyData.int) = fun b : Int => S.d (.int b) from rfl]
  simp at e
  rw [e]
  simp [numL, h1]
theorem num_nn : ∀ (r : List Int) (n : Int), 0 ≤ n → (∀ b, b ∈ r → b = 0 ∨ b = 1) → 0 ≤ r.foldl (fun n b => 2 * n + b) n ∧ r.foldl (fun n b => 2 * n + b) n < (n + 1) * 2 ^ r.length
  | [], n, h, _ => by simp; omega
  | b :: r, n, h, hb => by
    have h0 := hb b (by simp)
    have ih := num_nn r (2 * n + b) (by omega) fun c hc => hb c (by simp [hc])
    simp only [List.foldl_cons, List.length_cons, Int.pow_succ]
    refine ⟨ih.1, Int.lt_of_lt_of_le ih.2 ?_⟩
    have hp : (0 : Int) ≤ 2 ^ r.length := Int.le_of_lt (Int.pow_pos (by decide))
    calc (2 * n + b + 1) * 2 ^ r.length ≤ ((n + 1) * 2) * 2 ^ r.length := Int.mul_le_mul_of_nonneg_right (by omega) hp
      _ = (n + 1) * (2 ^ r.length * 2) := by rw [Int.mul_assoc, Int.mul_comm 2]
theorem num_range {r : List Int} (hb : ∀ b, b ∈ r → b = 0 ∨ b = 1) : 0 ≤ numL r ∧ numL r < (2 ^ r.length : Nat) := by
  have := num_nn r 0 (Int.le_refl 0) hb
  simp at this
  exact ⟨this.1, by push_cast; exact this.2⟩
/-! ### a place in a lot -/
theorem shaped_tints (xs : List Int) : SeqAt.shaped (.tuple (xs.map .int)) = true := by
  simp only [SeqAt.shaped, PyData.canLay0, canLay_ints, PyData.depth, depth_ints]; decide
theorem any_ints (i : Int) : ∀ xs : List Int, ((xs.map PyData.int).any fun z => PyData.eqv z (.int i)) = xs.contains i
  | [] => rfl
  | x :: xs => by
    simp only [List.map_cons, List.any_cons, any_ints i xs, List.contains_cons]
    congr 1
    show (x == i) = (i == x)
    exact BEq.comm
theorem pIn_ints (i : Int) (xs : List Int) : pIn (.int i) (.tuple (xs.map .int)) = some (.bool (xs.contains i)) := by
  have : inB (.int i) (.tuple (xs.map .int)) = some (xs.contains i) := by
    show (if (SeqAt.shaped (.int i) && SeqAt.shaped (.tuple (xs.map .int))) = true then some _ else none) = _
    rw [shaped_tints, show SeqAt.shaped (.int i) = true from rfl]
    simp only [Bool.and_self, if_true, any_ints]
  unfold pIn
  rw [this]; rfl
def gp (r : List Int) (p : Nat) : Int := r.getD p 0
def turnedL (r lot : List Int) : List Int := (List.range r.length).map fun p : Nat => if lot.contains (p : Int) = true then 1 - gp r p else gp r p
theorem range_getD (r : List Int) : r = (List.range r.length).map fun p => gp r p := by
  apply List.ext_getElem?
  intro i
  by_cases hi : i < r.length
  · rw [List.getElem?_eq_getElem hi, List.getElem?_map, List.getElem?_range hi]
    simp [gp, List.getD_eq_getElem?_getD, List.getElem?_eq_getElem hi]
  · rw [List.getElem?_eq_none (by omega), List.getElem?_eq_none (by simp; omega)]
theorem enum_row (r : List Int) : pairs (upto r.length) (r.map .int) = (List.range r.length).map fun p : Nat => .tuple [.int p, .int (gp r p)] := by
  have h : r.map PyData.int = (List.range r.length).map fun p : Nat => .int (gp r p) := by
    conv => lhs; rw [range_getD r]
    rw [List.map_map]; rfl
  rw [h]
  have : ∀ (f g : Nat → PyData) (xs : List Nat), pairs (xs.map f) (xs.map g) = xs.map fun x => .tuple [f x, g x] := fun f g xs => by
    induction xs with
    | nil => rfl
    | cons x xs ih => simp only [List.map_cons, pairs, ih]
  exact this _ _ _
theorem turned_go (x : PyData) (r lot : List Int) (hx : items x = some (r.map .int)) : runP 4 (sRet (eB fTuple [(eLc [2, 3] (iEnum (eV 0)) (gT [(gN 2), (gN 3)]) tYes (eIf (tB (eOp pIn (eV 2) (eV 1))) (eOp pSub (eC (.int 1)) (eV 3)) (eV 3)))])) [x, .tuple (lot.map .int)] = some (rowD (turnedL r lot)) := by
  have e := lcGo_pure (vs := [2, 3]) (g := gT [(gN 2), (gN 3)]) (t := tYes) (e := (eIf (tB (eOp pIn (eV 2) (eV 1))) (eOp pSub (eC (.int 1)) (eV 3)) (eV 3)))
    (l := [some (.d x), some (.d (.tuple (lot.map .int))), none, none]) (m := []) (fun p : Nat => S.d (.tuple [.int (p : Nat), .int (gp r p)])) (fun _ => true) (fun p => S.d (.int (if lot.contains (p : Int) = true then 1 - gp r p else gp r p))) (List.range r.length) (fun p hp => by
      refine ⟨_, rfl, rfl, fun _ => ?_⟩
      simp [Fz.wipe, pIn_ints]
      split <;> rfl)
  rw [List.filter_eq_self.mpr (fun _ _ => rfl)] at e
  have had : ∀ (f : Nat → Int) (xs : List Nat), allD (xs.map fun p => S.d (.int (f p))) = some ((xs.map f).map .int) := fun f xs => by
    have := allD_map ((xs.map f).map PyData.int)
    simp only [List.map_map] at this ⊢
    exact this
  simp only [runP, lo0]
  simp only [List.map_cons, List.map_nil, sRet_e, eB_e, rA_c, rA_n, eLc_e, iEnum_e, eZ_e, eV_e]
  simp [hx, enum_row]
  rw [show (S.d ∘ fun p : Nat => PyData.tuple [.int (p : Nat), .int (gp r p)]) = fun p : Nat => S.d (.tuple [.int (p : Nat), .int (gp r p)]) from rfl, e]
  simp [had, turnedL, rowD]
end Fz

set_option linter.all false
set_option autoImplicit false
set_option maxRecDepth 100000
/-! FzF: half rows and the rows that fill them. -/
namespace Fz
open PySem
open L2 (ixN atI)
def oD : Option Int → PyData
  | none => .none
  | some b => .int b
def halves : Nat → List (List (Option Int))
  | 0 => [[]]
  | k + 1 => (halves k).flatMap fun h => [h ++ [none], h ++ [some 0], h ++ [some 1]]
def okO (o : Option Int) : Prop := o = none ∨ o = some 0 ∨ o = some 1
theorem halves_mem : ∀ (k : Nat) (h : List (Option Int)), h.length = k → (∀ o, o ∈ h → okO o) → h ∈ halves k
  | 0, h, e, _ => by
    have : h = [] := List.eq_nil_of_length_eq_zero e
    subst this
    simp [halves]
  | k + 1, h, e, ho => by
    have hne : h ≠ [] := fun z => by rw [z] at e; simp at e
    have hd := List.dropLast_concat_getLast hne
    have hk : h.dropLast.length = k := by rw [List.length_dropLast, e]; rfl
    have ih := halves_mem k h.dropLast hk fun o hm => ho o (List.dropLast_subset h hm)
    simp only [halves, List.mem_flatMap]
    refine ⟨h.dropLast, ih, ?_⟩
    rcases ho _ (List.getLast_mem hne) with z | z | z <;> (rw [z] at hd; rw [hd]; simp)
def fillF (h : List (Option Int)) : List (List Int) := h.foldl (fun found o => match o with
  | none => found.map (· ++ [0]) ++ found.map (· ++ [1])
  | some b => found.map (· ++ [b])) [[]]
def fitsB (h : List (Option Int)) (r : List Int) : Bool := (h.zip r).all fun p => match p.1 with
  | none => true
  | some b => decide (b = p.2)
def leRow (a b : List Int) : Bool := leD (rowD a) (rowD b)
theorem fill1 : ((List.range 6).all fun k => (halves k).all fun h => decide (isort leRow (fillF h) = (rowsL k).filter (fitsB h))) = true := by kernel_rfl
theorem fill6 : ((halves 6).all fun h => decide (isort leRow (fillF h) = (rowsL 6).filter (fitsB h))) = true := by kernel_rfl
theorem fill_ok {k : Nat} (hk : k ≤ 6) {h : List (Option Int)} (e : h.length = k) (ho : ∀ o, o ∈ h → okO o) : isort leRow (fillF h) = (rowsL k).filter (fitsB h) := by
  have hm := halves_mem k h e ho
  by_cases h6 : k = 6
  · subst h6
    exact of_decide_eq_true (List.all_eq_true.mp fill6 h hm)
  · exact of_decide_eq_true (List.all_eq_true.mp (List.all_eq_true.mp fill1 k (List.mem_range.mpr (by omega))) h hm)
theorem ins_map {α β : Type} (f : α → β) (le : β → β → Bool) (a : α) : ∀ xs : List α, ins le (f a) (xs.map f) = (ins (fun x y => le (f x) (f y)) a xs).map f
  | [] => rfl
  | b :: r => by
    simp only [List.map_cons, ins]
    split
    · rfl
    · simp only [List.map_cons, ins_map f le a r]
theorem isort_map {α β : Type} (f : α → β) (le : β → β → Bool) : ∀ xs : List α, isort le (xs.map f) = (isort (fun x y => le (f x) (f y)) xs).map f
  | [] => rfl
  | a :: r => by
    simp only [List.map_cons, isort, isort_map f le r, ins_map]
theorem sorted_rows (xs : List (List Int)) (h0 : ∀ r, r ∈ xs → r ≠ []) : fSorted [.list (xs.map rowD)] = some (.list ((isort leRow xs).map rowD)) := by
  have ok : okSort (xs.map rowD) = true := by
    unfold okSort
    rw [Bool.and_eq_true, Bool.and_eq_true, Bool.or_eq_true]
    refine ⟨⟨?_, .inl ?_⟩, ?_⟩
    · rw [List.all_eq_true]; intro d hd
      rw [List.all_eq_true]; intro d' hd'
      obtain ⟨r, _, rfl⟩ := List.mem_map.mp hd
      obtain ⟨r', _, rfl⟩ := List.mem_map.mp hd'
      show PySem.W.alike (.tuple _) (.tuple _) = true
      simp only [PySem.W.alike]
      exact PySem.W.alike_ints r r'
    · rw [List.all_eq_true]; intro d hd
      obtain ⟨r, hr, rfl⟩ := List.mem_map.mp hd
      cases r with
      | nil => exact absurd rfl (h0 _ hr)
      | cons x r => rfl
    · rw [List.all_eq_true]; intro d hd
      obtain ⟨r, hr, rfl⟩ := List.mem_map.mp hd
      simp only [rowD, PyData.depth, depth_ints]; decide
  simp only [fSorted, if_pos ok]
  rw [isort_map]; rfl
/-! ### lots -/
def subs : List Nat → List (List Nat)
  | [] => [[]]
  | x :: xs => subs xs ++ (subs xs).map (x :: ·)
theorem subs_mem : ∀ {l xs : List Nat}, l.Sublist xs → l ∈ subs xs
  | _, _, .slnil => by simp [subs]
  | _, _, .cons a h => by simp only [subs, List.mem_append]; exact .inl (subs_mem h)
  | _, _, .cons_cons a h => by simp only [subs, List.mem_append, List.mem_map]; exact .inr ⟨_, subs_mem h, rfl⟩
end Fz

set_option linter.all false
set_option autoImplicit false
set_option maxRecDepth 100000
/-! FzG: small numbers, by reckoning with plain lists. -/
namespace Fz
open PySem
open L2 (ixN atI)
theorem rown_num : ((List.range 7).all fun k => (List.range (2 ^ k)).all fun i => decide (numL (rowN k i) = (i : Int))) = true := by kernel_rfl
theorem numL_rowN {k i : Nat} (hk : k ≤ 6) (hi : i < 2 ^ k) : numL (rowN k i) = i :=
  of_decide_eq_true (List.all_eq_true.mp (List.all_eq_true.mp rown_num k (List.mem_range.mpr (by omega))) i (List.mem_range.mpr hi))
theorem fill_one : ((List.range 7).all fun k => (List.range (2 ^ k)).all fun i => decide ((rowsL k).filter (fitsB ((rowN k i).map some)) = [rowN k i])) = true := by kernel_rfl
theorem fill_row {k i : Nat} (hk : k ≤ 6) (hi : i < 2 ^ k) : (rowsL k).filter (fitsB ((rowN k i).map some)) = [rowN k i] :=
  of_decide_eq_true (List.all_eq_true.mp (List.all_eq_true.mp fill_one k (List.mem_range.mpr (by omega))) i (List.mem_range.mpr hi))
def rowOf (k : Nat) (n : Int) : List Int := (List.range k).map fun p : Nat => Builtin.bitAnd (n / 2 ^ ((k : Int) - 1 - p).toNat) 1
theorem row_num : ((List.range 7).all fun k => (List.range (2 ^ k)).all fun i => decide (rowOf k (i : Nat) = rowN k i)) = true := by kernel_rfl
theorem rowOf_eq {k i : Nat} (hk : k ≤ 6) (hi : i < 2 ^ k) : rowOf k (i : Nat) = rowN k i :=
  of_decide_eq_true (List.all_eq_true.mp (List.all_eq_true.mp row_num k (List.mem_range.mpr (by omega))) i (List.mem_range.mpr hi))
theorem rowN_len {k i : Nat} (hi : i < 2 ^ k) : (rowN k i).length = k := (rowsL_row (rowN_mem hi).1).1
theorem rowN_bit {k i : Nat} (hi : i < 2 ^ k) : ∀ b, b ∈ rowN k i → b = 0 ∨ b = 1 := (rowsL_row (rowN_mem hi).1).2
theorem row_of_go {k : Nat} {n : Int} (hk : k ≤ 1000) : runP 3 (sRet (eB fTuple [(eLc [2] (iRange (eV 0)) (gN 2) tYes (eOp pAnd (eOp pShr (eV 1) (eOp pSub (eOp pSub (eV 0) (eC (.int 1))) (eV 2))) (eC (.int 1))))])) [.int k, .int n] = some (rowD (rowOf k n)) := by
  have e := lcGo_pure (vs := [2]) (g := gN 2) (t := tYes) (e := (eOp pAnd (eOp pShr (eV 1) (eOp pSub (eOp pSub (eV 0) (eC (.int 1))) (eV 2))) (eC (.int 1))))
    (l := [some (.d (.int k)), some (.d (.int n)), none]) (m := []) (fun p : Nat => S.d (.int (p : Nat))) (fun _ => true) (fun p : Nat => S.d (.int (Builtin.bitAnd (n / 2 ^ ((k : Int) - 1 - p).toNat) 1))) (List.range k) (fun p hp => by
      have hp' : p < k := List.mem_range.mp hp
      refine ⟨_, rfl, rfl, fun _ => ?_⟩
      have h1 : pShr (.int n) (.int ((k : Int) - 1 - p)) = some (.int (n / 2 ^ ((k : Int) - 1 - p).toNat)) := by
        unfold pShr
        simp only
        rw [if_pos (by omega)]
      simp [Fz.wipe, h1, pAnd])
  rw [List.filter_eq_self.mpr (fun _ _ => rfl)] at e
  have hl : -(lim : Int) ≤ k ∧ (k : Int) ≤ lim := by
    have : (lim : Int) = 1000000 := rfl
    omega
  have had : allD ((List.range k).map fun p : Nat => S.d (.int (Builtin.bitAnd (n / 2 ^ ((k : Int) - 1 - p).toNat) 1))) = some ((rowOf k n).map .int) := by
    have := allD_map ((rowOf k n).map PyData.int)
    unfold rowOf at this ⊢
    simp only [List.map_map] at this ⊢
    exact this
  simp only [runP, lo0]
  simp only [List.map_cons, List.map_nil, List.append_nil, sRet_e, eB_e, rA_c, rA_n, eLc_e, iRange_e, eV_e]
  simp [hl, map_upto]
  rw [e]
  simp only [Option.bind_some, had]
  simp [rowD]
theorem turned_len (r lot : List Int) : (turnedL r lot).length = r.length := by simp [turnedL]
theorem turned_twice (r lot : List Int) : turnedL (turnedL r lot) lot = r := by
  conv => rhs; rw [range_getD r]
  unfold turnedL
  rw [List.length_map, List.length_range]
  refine List.map_congr_left fun p hp => ?_
  have hp' := List.mem_range.mp hp
  have : gp ((List.range r.length).map fun p : Nat => if lot.contains (p : Int) = true then 1 - gp r p else gp r p) p = if lot.contains (p : Int) = true then 1 - gp r p else gp r p := by
    unfold gp
    rw [List.getD_eq_getElem?_getD, List.getElem?_map, List.getElem?_range hp']
    rfl
  rw [this]
  split <;> omega
theorem turned_bit {r lot : List Int} (h : ∀ b, b ∈ r → b = 0 ∨ b = 1) : ∀ b, b ∈ turnedL r lot → b = 0 ∨ b = 1 := fun b hb => by
  unfold turnedL at hb
  obtain ⟨p, hp, rfl⟩ := List.mem_map.mp hb
  have hp' := List.mem_range.mp hp
  have hm : gp r p ∈ r := by
    unfold gp
    rw [List.getD_eq_getElem?_getD, List.getElem?_eq_getElem hp']
    exact List.getElem_mem hp'
  have := h _ hm
  split <;> omega
theorem row_small {r : List Int} {k : Nat} (h : ∀ b, b ∈ r → b = 0 ∨ b = 1) (hl : r.length ≤ k) : Sml 1 (k + 1) (rowD r) := sml_ints (fun n hn => by rcases h n hn with e | e <;> (rw [e]; decide)) hl
theorem rows_small {rs : List (List Int)} {k n : Nat} (h : ∀ r, r ∈ rs → r.length ≤ k ∧ ∀ b, b ∈ r → b = 0 ∨ b = 1) (hn : rs.length ≤ n) : Sml 2 (n * (k + 1) + 1) (.tuple (rs.map rowD)) :=
  sml_tup (fun x hx => by obtain ⟨r, hr, rfl⟩ := List.mem_map.mp hx; exact row_small (h r hr).2 (h r hr).1) (by rw [List.length_map]; exact hn)
theorem half_small {h : List (Option Int)} {k : Nat} (ho : ∀ o, o ∈ h → okO o) (hl : h.length ≤ k) : Sml 1 (k * 1 + 1) (.tuple (h.map oD)) :=
  sml_tup (fun x hx => by
    obtain ⟨o, hm, rfl⟩ := List.mem_map.mp hx
    rcases ho o hm with e | e | e <;> rw [e]
    · exact sml_none
    · exact sml_int (by decide)
    · exact sml_int (by decide)) (by rw [List.length_map]; exact hl)
end Fz

set_option linter.all false
set_option autoImplicit false
set_option maxRecDepth 100000
/-! FzS20: lists and tuples of ranges; reversed; pop at a place; the place of a number in a tuple. -/
namespace Fz
open PySem PySem.Spec PyProof.Rows L2
section
variable {X : Cx} {a : Expr} {f : RE} {p p2 pos pos2 : Pos}
theorem rgV_upto (n : Int) : rgV 0 n = (List.range n.toNat).map fun i => V.int (i : Nat) := by
  unfold rgV
  rw [Int.sub_zero]
  exact List.map_congr_left fun i _ => by rw [Int.zero_add]
theorem upto_len (n : Nat) : (upto n).length = n := by simp [upto]
theorem upto_all {K : PySem.W.Frag} {P : Addr → Prop} {H : Hp} (n : Nat) : DqAll K P H ((List.range n).map fun i => V.int (i : Nat)) (upto n) := by
  unfold upto
  generalize List.range n = xs
  induction xs with
  | nil => exact .nil
  | cons x xs ih => exact .cons (.int _) ih
def rgIn (j : Int) : Prop := -lim ≤ j ∧ j ≤ lim
instance (j : Int) : Decidable (rgIn j) := by unfold rgIn; infer_instance
theorem rgIn_ok {j : Int} (h : rgIn j) : RgOk 0 j ∧ j.toNat ≤ sizeLine := by
  obtain ⟨h1, h2⟩ := h
  have e : (lim : Int) = 1000000 := rfl
  have hs := sizeLine_eq
  exact ⟨⟨by omega, by omega, by omega, by omega, by omega⟩, by omega⟩
/-- list(range(n)), by value -/
def eRg (tup : Bool) (f : RE) : RE := fun l m => (f l m).bind fun p => match p.1 with
  | .d (.int j) => if rgIn j then some (.d (if tup = true then .tuple (upto j.toNat) else .list (upto j.toNat)), p.2) else none
  | _ => none
/-- list(range(n)), to be changed -/
def eRgM (f : RE) : RE := fun l m => (f l m).bind fun p => match p.1 with
  | .d (.int j) => if rgIn j then some (.r p.2.length, p.2 ++ [.lst ((upto j.toNat).map S.d)]) else none
  | _ => none
theorem prg_f (hm : X.mg "range" = none) (ha : FE X a f) (hg : Gl X "range") (hs : starEach [a] X.env = (false, eval a X.env) :: starEach [] X.env) : PRg X (.Call (.Name "range" p) [a] [] pos) (tRg1 (tF X.K f)) := prg_1 hg hm ha hs
theorem fe_listRg (hm : X.mg "list" = none) (hm2 : X.mg "range" = none) (ha : FE X a f) (hg : Gl X "list" := by rfl) (hg2 : Gl X "range" := by rfl) (hc : X.calm = true := by rfl) (hs : starEach [a] X.env = (false, eval a X.env) :: starEach [] X.env := by rfl)
    (hs2 : starEach [.Call (.Name "range" p) [a] [] pos] X.env = (false, eval (.Call (.Name "range" p) [a] [] pos) X.env) :: starEach [] X.env := by rfl) : FE X (.Call (.Name "list" p2) [.Call (.Name "range" p) [a] [] pos] [] pos2) (eRg false f) :=
  PE.imp (pe_listRg hc hg hm (prg_f hm2 ha hg2 hs) hs2) fun σ H Q ⟨w, l, s, m', W, L, e, k⟩ => by
    simp only [eRg, Option.bind_eq_some_iff] at e
    obtain ⟨⟨p, m1⟩, e1, e2⟩ := e
    cases p with
    | r n => cases e2
    | d x =>
      cases x <;> try (cases e2; done)
      rename_i j
      simp only at e2
      split at e2
      · rename_i hj
        cases e2
        obtain ⟨ok, hz⟩ := rgIn_ok hj
        refine goF W L e1 fun w1 H1 v1 c1 E1 W1 L1 s1 => ?_
        cases (show Dq X.K w1.P H1 v1 (.int j) from s1)
        refine ⟨j, rfl, ok, fun q hq => ?_⟩
        rw [rgV_upto]
        obtain ⟨S0, dq⟩ := new_lst (K := X.K) (P := w1.P) (upto_all j.toNat) (by rw [upto_len]; exact hz) (fun a h => W1.new h) hq
        obtain ⟨E, W'⟩ := W1.same S0
        exact k w1 _ _ c1 (E1.trans E) W' dq
      · cases e2
theorem fe_tupRg (hm : X.mg "tuple" = none) (hm2 : X.mg "range" = none) (ha : FE X a f) (hg : Gl X "tuple" := by rfl) (hg2 : Gl X "range" := by rfl) (hc : X.calm = true := by rfl) (hs : starEach [a] X.env = (false, eval a X.env) :: starEach [] X.env := by rfl)
    (hs2 : starEach [.Call (.Name "range" p) [a] [] pos] X.env = (false, eval (.Call (.Name "range" p) [a] [] pos) X.env) :: starEach [] X.env := by rfl) : FE X (.Call (.Name "tuple" p2) [.Call (.Name "range" p) [a] [] pos] [] pos2) (eRg true f) :=
  PE.imp (pe_tupRgN hc hg hm (prg_f hm2 ha hg2 hs) hs2) fun σ H Q ⟨w, l, s, m', W, L, e, k⟩ => by
    simp only [eRg, Option.bind_eq_some_iff] at e
    obtain ⟨⟨p, m1⟩, e1, e2⟩ := e
    cases p with
    | r n => cases e2
    | d x =>
      cases x <;> try (cases e2; done)
      rename_i j
      simp only at e2
      split at e2
      · rename_i hj
        cases e2
        obtain ⟨ok, hz⟩ := rgIn_ok hj
        refine goF W L e1 fun w1 H1 v1 c1 E1 W1 L1 s1 => ?_
        cases (show Dq X.K w1.P H1 v1 (.int j) from s1)
        refine ⟨j, rfl, ok, fun q o ho hq => ?_⟩
        rw [rgV_upto]
        obtain ⟨S0, dq⟩ := new_tup (K := X.K) (P := w1.P) (upto_all j.toNat) (by rw [upto_len]; exact hz) ho hq
        obtain ⟨E, W'⟩ := W1.same S0
        exact k w1 _ _ c1 (E1.trans E) W' dq
      · cases e2
theorem fe_listRgM (hm : X.mg "list" = none) (hm2 : X.mg "range" = none) (ha : FE X a f) (hg : Gl X "list" := by rfl) (hg2 : Gl X "range" := by rfl) (hc : X.calm = true := by rfl) (hs : starEach [a] X.env = (false, eval a X.env) :: starEach [] X.env := by rfl)
    (hs2 : starEach [.Call (.Name "range" p) [a] [] pos] X.env = (false, eval (.Call (.Name "range" p) [a] [] pos) X.env) :: starEach [] X.env := by rfl) : FE X (.Call (.Name "list" p2) [.Call (.Name "range" p) [a] [] pos] [] pos2) (eRgM f) :=
  PE.imp (pe_listRg hc hg hm (prg_f hm2 ha hg2 hs) hs2) fun σ H Q ⟨w, l, s, m', W, L, e, k⟩ => by
    simp only [eRgM, Option.bind_eq_some_iff] at e
    obtain ⟨⟨p, m1⟩, e1, e2⟩ := e
    cases p with
    | r n => cases e2
    | d x =>
      cases x <;> try (cases e2; done)
      rename_i j
      simp only at e2
      split at e2
      · rename_i hj
        cases e2
        obtain ⟨ok, hz⟩ := rgIn_ok hj
        refine goF W L e1 fun w1 H1 v1 c1 E1 W1 L1 s1 => ?_
        cases (show Dq X.K w1.P H1 v1 (.int j) from s1)
        refine ⟨j, rfl, ok, fun q hq => ?_⟩
        rw [rgV_upto]
        refine k (w1.push q (.lst ((upto j.toNat).map S.d))) _ _ (by rw [← c1]; rfl) (E1.trans (push_ex W1 hq)) (push_wd W1 hq (fun ss e => ?_) (fun _ e => by cases e) (fun _ e => by cases e)) ⟨by rw [← c1]; simp [Wo.push], by rw [← c1]; exact congrArg V.ref push_al'.symm⟩
        cases e
        exact ⟨by rw [List.length_map, upto_len]; exact hz, _, rfl, SVs.d (upto_all j.toNat)⟩
      · cases e2
/-- what is walked from its end -/
def iRev (f : RE) : RI := fun l m => (eZ f l m).bind fun p => match p.1 with
  | .d x => (items x).map fun xs => (xs.reverse.map S.d, p.2)
  | .r _ => none
theorem rev_at {α : Type} {xs : List α} {i : Nat} (h : i < xs.length) : xs.reverse[i]? = xs[xs.length - 1 - i]? := by
  rw [List.getElem?_reverse h]
theorem fi_rev {tg : Expr} (hm : X.mg "reversed" = none) (he : FE X a f) (hg : Gl X "reversed" := by rfl) (hs : starEach [a] X.env = (false, eval a X.env) :: starEach [] X.env := by rfl) : FI X tg (.Call (.Name "reversed" p) [a] [] pos) (iRev f) :=
  PI.imp (RT.pi_revA hg hm (fe_z he) hs) fun σ H R ⟨w, l, xs, m', W, L, e, k⟩ => by
    simp only [iRev, Option.bind_eq_some_iff] at e
    obtain ⟨⟨p, m1⟩, e1, e2⟩ := e
    cases p with
    | r n => cases e2
    | d x =>
      simp only [Option.map_eq_some_iff, Prod.mk.injEq] at e2
      obtain ⟨ds, e3, rfl, rfl⟩ := e2
      refine goZ W L e1 fun w1 H1 v1 c1 E1 W1 L1 s1 => ?_
      obtain ⟨b, a, xs, rfl, h1, h2, h3, h4⟩ := stay_of W1 s1 e3
      refine ⟨a, xs, rfl, ?_⟩
      cases b with
      | true =>
        refine .inl ⟨h3, k w1 H1 _ c1 E1 W1 ⟨by rw [List.length_map, List.length_reverse]; exact h1, fun P1 w2 H2 hp E W2 => ?_⟩⟩
        obtain ⟨q1, q2⟩ := h4 P1 w2 H2 hp E W2
        refine ⟨by simp [h2] ; exact Nat.le_refl _, fun i s e => ?_⟩
        obtain ⟨d, e4, rfl⟩ := map_at e
        have hi : i < ds.length := by
          have := (List.getElem?_eq_some_iff.mp e4).1
          simpa using this
        rw [rev_at hi] at e4
        obtain ⟨v, e5, r⟩ := q2.at _ d e4
        rw [← h2] at e5
        refine ⟨⟨by omega, xs, v, q1, e5⟩, fun v' H3 y => ?_⟩
        obtain ⟨rfl, y2⟩ := y
        have := Option.some.inj ((y2 xs q1).symm.trans e5)
        subst this
        exact ⟨w2, rfl, Ex.refl _ _, W2, r⟩
      | false =>
        refine .inr ⟨h3, k w1 H1 _ c1 E1 W1 ⟨by rw [List.length_map, List.length_reverse]; exact h1, fun P1 w2 H2 hp E W2 => ?_⟩⟩
        obtain ⟨q1, q2⟩ := h4 P1 w2 H2 hp E W2
        refine ⟨by simp [h2] ; exact Nat.le_refl _, fun i s e => ?_⟩
        obtain ⟨d, e4, rfl⟩ := map_at e
        have hi : i < ds.length := by
          have := (List.getElem?_eq_some_iff.mp e4).1
          simpa using this
        rw [rev_at hi] at e4
        obtain ⟨v, e5, r⟩ := q2.at _ d e4
        rw [← h2] at e5
        refine ⟨⟨by omega, xs, v, q1, e5⟩, fun v' H3 y => ?_⟩
        obtain ⟨rfl, y2⟩ := y
        have := Option.some.inj ((y2 xs q1).symm.trans e5)
        subst this
        exact ⟨w2, rfl, Ex.refl _ _, W2, r⟩
theorem SVs.eraseAt {K : PySem.W.Frag} {w : Wo} {H : Hp} : ∀ {vs : List V} {ss : List S}, SVs K w H vs ss → ∀ i : Nat, SVs K w H (vs.eraseIdx i) (ss.eraseIdx i)
  | _, _, .nil, i => by simp; exact .nil
  | _, _, .cons a b, 0 => b
  | _, _, .cons a b, i + 1 => by simp only [List.eraseIdx_cons_succ]; exact .cons a (SVs.eraseAt b i)
/-- l.pop(i) -/
def mPopAt (m : Mem) : S → List S → Option (S × Mem)
  | .r n, [.d (.int i)] => match m[n]? with
    | some (.lst ss) => if -lim ≤ i ∧ i ≤ lim then (ixN ss.length i).bind fun j => (ss[j]?).map fun x => (x, m.set n (.lst (ss.eraseIdx j))) else none
    | _ => none
  | _, _ => none
theorem fm_popAt : FMt X "list.pop" mPopAt := by
  intro pins s σ H x xs v us Q I rx rv ⟨w, sx, ss, r, m', W, hx, hs, e, q⟩
  cases sx with
  | d x => cases e
  | r n =>
    obtain ⟨hn, rfl⟩ := hx
    match ss, hs, e with
    | [.d (.int i)], hs, e =>
      simp only [mPopAt] at e
      cases hm : w.m[n]? with
      | none => rw [hm] at e; cases e
      | some ob =>
        rw [hm] at e
        cases ob with
        | lst zs =>
          simp only at e
          split at e
          · rename_i hi
            simp only [Option.bind_eq_some_iff, Option.map_eq_some_iff, Prod.mk.injEq] at e
            obtain ⟨j, e0, y, e1, rfl, rfl⟩ := e
            obtain ⟨iv, rfl, hiv⟩ := hs.one
            cases (show Dq X.K w.P H iv (.int i) from hiv)
            obtain ⟨z, vs, h1, h2⟩ := W.lst n zs hm
            obtain ⟨yv, h3, h4⟩ := h2.at _ y e1
            have hl := h2.len
            rw [← hl] at e0
            obtain ⟨k1, k2, k3, k4⟩ := ixN_seq e0
            have hll : (lim : Int) = 1000000 := rfl
            obtain ⟨E, W'⟩ := put_lst W hm (ss' := zs.eraseIdx j) (by
              have := List.length_eraseIdx_le zs j
              omega) (SVs.eraseAt h2 j)
            exact mt_popAt pins s σ H _ _ v us Q I rx rv ⟨_, vs, i, j, yv, rfl, rfl, h1, by omega, by omega, k1, h3, q _ _ _ rfl E W' (h4.go W E)⟩
          · cases e
        | frz _ => cases e
        | dct _ => cases e
        | dcT _ => cases e
end
end Fz

set_option linter.all false
set_option autoImplicit false
set_option maxRecDepth 100000
/-! FzS21: a list turned round, xs[::-1]. -/
namespace Fz
open PySem PySem.Spec PyProof.Rows L2
section
variable {X : Cx} {a : Expr} {f : RE} {p1 p2 p3 pos : Pos}
def revD : PyData → Option PyData
  | .list xs => some (.list xs.reverse)
  | _ => none
theorem dqAll_app {K : PySem.W.Frag} {P : Addr → Prop} {H : Hp} {ys : List V} {es : List PyData} (h' : DqAll K P H ys es) : ∀ {xs : List V} {ds : List PyData}, DqAll K P H xs ds → DqAll K P H (xs ++ ys) (ds ++ es)
  | [], [], .nil => h'
  | _ :: _, _ :: _, .cons a b => .cons a (dqAll_app h' b)
theorem rev_all {K : PySem.W.Frag} {P : Addr → Prop} {H : Hp} : ∀ {xs : List V} {ds : List PyData}, DqAll K P H xs ds → DqAll K P H xs.reverse ds.reverse
  | [], [], .nil => .nil
  | x :: xs, d :: ds, .cons a b => by
    rw [List.reverse_cons, List.reverse_cons]
    exact dqAll_app (.cons a .nil) (rev_all b)
/-- the invariant at the value, for the rule that needs it -/
theorem pe_inv {e : Expr} {te : TE} (he : PE X e te) : PE X e (fun σ H Q => te σ H fun x H1 => (∃ pins s, Inv X pins σ H1 s) → Q x H1) := by
  refine ⟨fun pins s σ H Q I h => thn (he.run pins s σ H _ I h) fun v s1 ⟨x, H1, I1, r1, q1⟩ => ?_⟩
  exact ⟨x, H1, I1, r1, q1 ⟨pins, s1, I1⟩⟩
theorem fe_rev {k : Nat} (ha : FE X a f) : FE X (.Subscript a (.Slice none none (some (.UnaryOp .USub (.Constant (.int 1) k p1) p2)) p3) pos) (eUn revD f) :=
  PE.imp (pe_revL (pe_inv ha)) fun σ H Q ⟨w, l, s, m', W, L, e, k⟩ => by
    simp only [eUn, Option.bind_eq_some_iff, Option.map_eq_some_iff, Prod.mk.injEq] at e
    obtain ⟨⟨p, m1⟩, e1, d, e2, r, e3, rfl, rfl⟩ := e
    refine goF W L e1 fun w1 H1 v1 c1 E1 W1 L1 s1 => ?_
    intro ⟨pins, sh, I⟩
    have hd := s1.deref W1 (by rw [c1]; exact e2)
    cases d <;> try (cases e3; done)
    rename_i ds
    cases e3
    obtain ⟨a, xs, rfl, h1, h2⟩ := hd.lst_inv
    refine ⟨a, xs, rfl, h1.seq, fun p hp => ?_⟩
    obtain ⟨S0, dq⟩ := new_lst (K := X.K) (P := w1.P) (rev_all h2) (by rw [List.length_reverse]; exact I.dqZ h1 h2) (fun a h => W1.new h) hp
    obtain ⟨E, W'⟩ := W1.same S0
    exact k w1 _ _ c1 (E1.trans E) W' dq
end
end Fz

set_option linter.all false
set_option autoImplicit false
set_option maxRecDepth 100000
/-! FzS22: isinstance(x, T), T a built-in type by its name. -/
namespace Fz
open PySem PySem.Spec PyProof.Rows L2
/-- the kind of a value, by its type's name -/
def kindD : PyData → Option String
  | .none => some "NoneType"
  | .bool _ => some "bool"
  | .int _ => some "int"
  | .str _ => some "str"
  | .list _ => some "list"
  | .tuple _ => some "tuple"
  | .dict _ => some "dict"
def isaD (n : String) (d : PyData) : Option PyData := (kindD d).map fun k => .bool (k == n || (k == "bool" && n == "int"))
section
variable {X : Cx} {a : Expr} {f : RE} {p p2 pos : Pos} {P : Addr → Prop} {H : Hp}
/-- a value's type, a small dict's too -/
def TyZ (K : PySem.W.Frag) (H : Hp) (x : V) (t : Value) : Prop := TyX K H x t ∨ ∃ a kvs, x = .ref a ∧ H a = some (DV a kvs) ∧ t = .type "dict"
theorem kit_ofZ {pins : List (Addr × Obj)} {σ : L2.St} {H : Hp} {s : Shared} {x : V} {u t : Value} (I : Inv X pins σ H s) (rx : RelV x u) (ty : TyZ X.K H x t) : ∃ P : Heap → Prop, PySem.W.KitX X.K u t P ∧ P s.heap ∧ u ≠ .builtin "__main__.__loader__#opaque" := by
  rcases ty with ty | ⟨a, kvs, rfl, e, rfl⟩
  · exact kit_of I rx ty
  · cases (show u = Value.ref a from rx)
    obtain ⟨⟨_, o, es, n, h1, h2, _⟩, _⟩ := I.hok a _ e
    exact ⟨_, PySem.W.kitx_dict, ⟨o, h1, h2.1⟩, fun z => nomatch z⟩
def rIsiZ (K : PySem.W.Frag) : List V → Hp → VK → Prop := fun xs H Q => ∃ (x c : V) (t u : Value) (b : Bool), xs = [x, c] ∧ ClsV c u ∧ TyZ K H x t ∧ PySem.W.kitOne K t u = some b ∧ Q (.bl b) H
theorem call_isiZ : CallR X (.builtin "isinstance") (rIsiZ X.K) := by
  intro pins s σ H xs us Q I r h
  obtain ⟨x, c, t, u, b, rfl, k, ty, e, q⟩ := h
  obtain ⟨u1, u2, rfl, r1, r2⟩ := vals2 r
  have e2 := k.eq r2
  subst e2
  obtain ⟨P, Z, p, hx⟩ := kit_ofZ I r1 ty
  exact PySem.W.kia_one Z I.kIn p e hx fun tk => ⟨.bl b, H, I.tok tk, rfl, q⟩
theorem Dt.tyX {K : PySem.W.Frag} {v : V} {d : PyData} {n : String} (h : Dt K P H v d) (e : kindD d = some n) : TyZ K H v (.type n) := by
  cases d <;> try (cases e; done)
  case dict kvs =>
    cases e
    rcases h with h | ⟨_, _, _, _, _, _, q⟩
    · cases h with
      | dct h _ _ _ => exact .inr ⟨_, _, rfl, h, rfl⟩
    · cases q
  all_goals refine .inl ?_
  case none => cases e; rw [h.non_inv]; exact .base .non
  case bool b => cases e; rw [h.bl_inv]; exact .base (.bl b)
  case int i => cases e; rw [h.int_inv]; exact .base (.int i)
  case str x => cases e; rw [h.str_inv]; exact .base (.str x)
  case list ds =>
    cases e
    obtain ⟨a, xs, rfl, h1, _⟩ := h.lst_inv
    rcases h1 with (h1 | ⟨o, h1⟩) | ⟨its, n, h1, _⟩
    · exact .base (.lst h1)
    · exact .base (.frz h1)
    · exact .kList h1 rfl
  case tuple ds =>
    cases e
    obtain ⟨a, xs, rfl, h1, _⟩ := h.tup_inv
    rcases h1 with (h1 | ⟨o, h1⟩) | ⟨o, its, n, h1, h2, _⟩
    · exact .base (.tup h1)
    · exact .fTuple h1
    · exact .kTuple h1 h2
def isaOk (n : String) : Bool := ["NoneType", "bool", "int", "str", "list", "tuple", "dict"].all fun k => kitB k n == some (k == n || (k == "bool" && n == "int"))
theorem isa_kit {K : PySem.W.Frag} {d : PyData} {k n : String} (h : isaOk n = true) (e : kindD d = some k) : PySem.W.kitOne K (.type k) (.type n) = some (k == n || (k == "bool" && n == "int")) := by
  have hk : k ∈ ["NoneType", "bool", "int", "str", "list", "tuple", "dict"] := by
    cases d <;> cases e <;> decide
  exact kit_ty (of_decide_eq_true (by simpa using List.all_eq_true.mp h k hk))
theorem pe_ty {x : Str} {n : String} (hm : X.mg x = none) (hv : bootBuiltins x = some (.type n)) (hg : Gl X x) (hn : x ≠ "__name__") (hdb : (x == ("__debug__" : Str)) = false) : PE X (.Name x p) (tC (.ty n)) := pe_bltn hg hm hv rfl hn hdb
theorem fe_isa {x : Str} {n : String} (ho : isaOk n = true) (hm : X.mg "isinstance" = none) (hm2 : X.mg x = none) (hv : bootBuiltins x = some (.type n)) (ha : FE X a f) (hg : Gl X "isinstance" := by rfl) (hg2 : Gl X x := by rfl) (hn : x ≠ "__name__" := by decide) (hdb : (x == ("__debug__" : Str)) = false := by decide)
    (h1 : starEach [.Name x p2] X.env = (false, eval (.Name x p2) X.env) :: starEach [] X.env := by rfl) (he : starEach [a, .Name x p2] X.env = (false, eval a X.env) :: starEach [.Name x p2] X.env := by rfl) (hpl : (backTo pos (starEach [.Name x p2] X.env)).any (·.1) = false := by rfl) :
    FE X (.Call (.Name "isinstance" p) [a, .Name x p2] [] pos) (eUn (isaD n) f) :=
  PE.imp (pe_callB call_isiZ hg hm rfl (pa_cons ha (pa_cons (pe_ty hm2 hv hg2 hn hdb) pa_nil h1) he) (by decide) (by decide) he hpl) fun σ H Q ⟨w, l, s, m', W, L, e, k⟩ => by
    simp only [eUn, Option.bind_eq_some_iff, Option.map_eq_some_iff, Prod.mk.injEq] at e
    obtain ⟨⟨q, m1⟩, e1, d, e2, r, e3, rfl, rfl⟩ := e
    refine goF W L e1 fun w1 H1 v1 c1 E1 W1 L1 s1 => ?_
    have hd := s1.deref W1 (by rw [c1]; exact e2)
    simp only [isaD, Option.map_eq_some_iff] at e3
    obtain ⟨t, e4, rfl⟩ := e3
    exact ⟨_, _, _, _, _, rfl, .ty n, hd.tyX e4, isa_kit ho e4, k w1 H1 _ c1 E1 W1 (.bl _)⟩
theorem isa_tuple : isaOk "tuple" = true := by decide +kernel
theorem isa_bool : isaOk "bool" = true := by decide +kernel
theorem isa_int : isaOk "int" = true := by decide +kernel
theorem isa_str : isaOk "str" = true := by decide +kernel
theorem isa_list : isaOk "list" = true := by decide +kernel
end
end Fz

set_option linter.all false
set_option autoImplicit false
set_option maxRecDepth 100000
/-! FzS23: list(range(a, b)), by value. -/
namespace Fz
open PySem PySem.Spec PyProof.Rows L2
section
variable {X : Cx} {a b : Expr} {f g : RE} {p p2 pos pos2 : Pos}
theorem fromTo_len2 (i j : Int) : (fromTo i (j - i).toNat).length = (j - i).toNat := by simp [fromTo]
theorem fromTo_all2 {K : PySem.W.Frag} {P : Addr → Prop} {H : Hp} (i j : Int) : DqAll K P H (rgV i j) (fromTo i (j - i).toNat) := by
  unfold fromTo rgV
  generalize List.range (j - i).toNat = xs
  induction xs with
  | nil => exact .nil
  | cons x xs ih => exact .cons (.int _) ih
theorem rgIn_ok2 {i j : Int} (h : rgIn i) (h' : rgIn j) : RgOk i j ∧ (j - i).toNat ≤ sizeLine := by
  obtain ⟨h1, h2⟩ := h
  obtain ⟨h3, h4⟩ := h'
  have e : (lim : Int) = 1000000 := rfl
  have hs := sizeLine_eq
  exact ⟨⟨by omega, by omega, by omega, by omega, by omega⟩, by omega⟩
/-- list(range(a, b)), by value -/
def eRg2 (f g : RE) : RE := fun l m => (f l m).bind fun p => (g l p.2).bind fun q => match p.1, q.1 with
  | .d (.int i), .d (.int j) => if rgIn i ∧ rgIn j then some (.d (.list (fromTo i (j - i).toNat)), q.2) else none
  | _, _ => none
theorem fe_listRg2 (hm : X.mg "list" = none) (hm2 : X.mg "range" = none) (ha : FE X a f) (hb : FE X b g) (hg : Gl X "list" := by rfl) (hg2 : Gl X "range" := by rfl) (hc : X.calm = true := by rfl)
    (na : starEach [a, b] X.env = (false, eval a X.env) :: starEach [b] X.env := by rfl) (nb : starEach [b] X.env = (false, eval b X.env) :: starEach [] X.env := by rfl) (hp : (backTo pos (starEach [b] X.env)).any (·.1) = false := by rfl)
    (hs2 : starEach [.Call (.Name "range" p) [a, b] [] pos] X.env = (false, eval (.Call (.Name "range" p) [a, b] [] pos) X.env) :: starEach [] X.env := by rfl) : FE X (.Call (.Name "list" p2) [.Call (.Name "range" p) [a, b] [] pos] [] pos2) (eRg2 f g) :=
  PE.imp (pe_listRg hc hg hm (prg_2 hg2 hm2 ha hb na nb hp) hs2) fun σ H Q ⟨w, l, s, m', W, L, e, k⟩ => by
    simp only [eRg2, Option.bind_eq_some_iff] at e
    obtain ⟨⟨p, m1⟩, e1, ⟨q, m2⟩, e2, e3⟩ := e
    cases p with
    | r n => cases e3
    | d x =>
      cases q with
      | r n => cases x <;> cases e3
      | d y =>
        cases x <;> try (cases e3; done)
        cases y <;> try (cases e3; done)
        rename_i i j
        simp only at e3
        split at e3
        · rename_i hj
          cases e3
          obtain ⟨ok, hz⟩ := rgIn_ok2 hj.1 hj.2
          refine goF W L e1 fun w1 H1 v1 c1 E1 W1 L1 s1 => ?_
          cases (show Dq X.K w1.P H1 v1 (.int i) from s1)
          refine goF W1 L1 (by rw [c1]; exact e2) fun w2 H2 v2 c2 E2 W2 L2 s2 => ?_
          cases (show Dq X.K w2.P H2 v2 (.int j) from s2)
          refine ⟨i, j, rfl, rfl, ok, fun q hq => ?_⟩
          obtain ⟨S0, dq⟩ := new_lst (K := X.K) (P := w2.P) (fromTo_all2 i j) (by rw [fromTo_len2]; exact hz) (fun a h => W2.new h) hq
          obtain ⟨E, W'⟩ := W2.same S0
          exact k w2 _ _ c2 (E1.trans (E2.trans E)) W' dq
        · cases e3
end
end Fz

set_option linter.all false
set_option autoImplicit false
set_option maxRecDepth 100000
/-! FzV: readings by value: what is known of the slots; a list that one slot owns; what a piece leads to, backward. -/
namespace Fz
open PySem
open L2 (ixN atI)

/-- an object that one slot owns: a list, a dict whose keys are tuples -/
inductive OV where
  | L (xs : List PyData)
  | D (kvs : List (NestedKey × PyData))
def OV.mo : OV → MO
  | .L xs => .lst (xs.map S.d)
  | .D kvs => .dcT (kvs.map fun p => (p.1, S.d p.2))
theorem OV.mo_frz {o : OV} {xs : List PyData} : o.mo ≠ .frz xs := by cases o <;> (intro h; cases h)
def getD (k : NestedKey) : List (NestedKey × PyData) → Option PyData
  | [] => none
  | (k', v) :: r => if k' = k then some v else getD k r
def setD (k : NestedKey) (v : PyData) (kvs : List (NestedKey × PyData)) : List (NestedKey × PyData) :=
  if (getD k kvs).isSome = true then kvs.map (fun p => if p.1 = k then (p.1, v) else p) else kvs ++ [(k, v)]
theorem getT_map {k : NestedKey} : ∀ {kvs : List (NestedKey × PyData)}, getT k (kvs.map fun p => (p.1, S.d p.2)) = (getD k kvs).map S.d
  | [] => rfl
  | (k', v) :: r => by
    simp only [List.map_cons, getT, getD, getT_map (kvs := r)]
    split <;> rfl
theorem setD_map {k : NestedKey} {v : PyData} {kvs : List (NestedKey × PyData)} : setT k (.d v) (kvs.map fun p => (p.1, S.d p.2)) = (setD k v kvs).map fun p => (p.1, S.d p.2) := by
  unfold setT setD
  rw [getT_map, Option.isSome_map]
  split
  · rw [List.map_map, List.map_map]
    refine List.map_congr_left fun p _ => ?_
    show (if p.1 = k then (p.1, S.d v) else (p.1, S.d p.2)) = ((if p.1 = k then (p.1, v) else p).1, S.d (if p.1 = k then (p.1, v) else p).2)
    split <;> rfl
  · rw [List.map_append]; rfl
/-- what is known of a slot or a value -/
inductive SA where
  | any
  | dat (x : PyData)
  | ow (o : OV)
  | frz (xs : List PyData)
  | ref (n : Nat)
  | al (i : Nat)
abbrev SA.own (xs : List PyData) : SA := .ow (.L xs)
abbrev SA.dic (kvs : List (NestedKey × PyData)) : SA := .ow (.D kvs)
/-- what stands ahead in the memory, from the caller -/
structure Pf where
  K : Nat
  ok : Mem → Prop
def P0 : Pf := ⟨0, fun _ => True⟩
def Pre (p : Pf) (m : Mem) : Prop := p.K ≤ m.length ∧ p.ok (m.take p.K)
def SlotOk (K : Nat) (m : Mem) : SA → Option S → Prop
  | .any, _ => True
  | .dat x, o => o = some (.d x)
  | .ow xs, o => ∃ n, K ≤ n ∧ o = some (.r n) ∧ m[n]? = some xs.mo
  | .frz xs, o => ∃ n, K ≤ n ∧ o = some (.r n) ∧ m[n]? = some (.frz xs)
  | .ref n, o => n < K ∧ o = some (.r n)
  | .al _, _ => False
def Own (st : List SA) (l : Lo) (n : Nat) : Prop := ∃ (i : Nat) (xs : OV), st[i]? = some (.ow xs) ∧ l[i]? = some (some (.r n))
structure StOk (K : Nat) (st : List SA) (l : Lo) (m : Mem) : Prop where
  len : l.length = st.length
  sl : ∀ (i : Nat) (a : SA), st[i]? = some a → SlotOk K m a (l[i]?.join)
  inj : ∀ (i j : Nat) (xs ys : OV) (n : Nat), st[i]? = some (.ow xs) → st[j]? = some (.ow ys) → l[i]? = some (some (.r n)) → l[j]? = some (some (.r n)) → i = j
structure Fr (K : Nat) (st : List SA) (l : Lo) (m : Mem) (st' : List SA) (l' : Lo) (m' : Mem) : Prop where
  len : m.length ≤ m'.length
  keep : ∀ n o, K ≤ n → m[n]? = some o → ¬ Own st l n → m'[n]? = some o
  own : ∀ n, Own st' l' n → Own st l n ∨ m.length ≤ n
theorem Fr.refl {K st l m} : Fr K st l m st l m := ⟨Nat.le_refl _, fun _ _ _ h _ => h, fun _ h => .inl h⟩
theorem lt_of_at {m : Mem} {n : Nat} {o : MO} (h : m[n]? = some o) : n < m.length := by
  rcases Nat.lt_or_ge n m.length with q | q
  · exact q
  · rw [List.getElem?_eq_none q] at h; cases h
theorem Fr.trans {K st l m st1 l1 m1 st2 l2 m2} (a : Fr K st l m st1 l1 m1) (b : Fr K st1 l1 m1 st2 l2 m2) : Fr K st l m st2 l2 m2 := by
  refine ⟨Nat.le_trans a.len b.len, fun n o hn h ho => ?_, fun n h => ?_⟩
  · refine b.keep n o hn (a.keep n o hn h ho) fun q => ?_
    rcases a.own n q with z | z
    · exact ho z
    · have := lt_of_at h; omega
  · rcases b.own n h with z | z
    · exact a.own n z
    · exact .inr (Nat.le_trans a.len z)
/-- a value; fresh ones from b on -/
def VOk (K : Nat) (l : Lo) (m : Mem) (st : List SA) (b : Nat) : SA → S → Prop
  | .any, _ => False
  | .dat x, s => s = .d x
  | .ow xs, s => ∃ n, K ≤ n ∧ b ≤ n ∧ s = .r n ∧ m[n]? = some xs.mo ∧ ¬ Own st l n
  | .frz xs, s => ∃ n, K ≤ n ∧ s = .r n ∧ m[n]? = some (.frz xs)
  | .ref n, s => n < K ∧ s = .r n
  | .al i, s => l[i]? = some (some s)
theorem StOk.notFrz {K st l m} (h : StOk K st l m) {n : Nat} {xs : List PyData} (e : m[n]? = some (.frz xs)) : ¬ Own st l n := fun ⟨i, ys, q1, q2⟩ => by
  obtain ⟨k, _, z1, z2⟩ := h.sl i _ q1
  rw [q2] at z1
  cases z1
  rw [z2] at e; exact OV.mo_frz (Option.some.inj e)
theorem VOk.go {K l m st b st' m' v s} (h : VOk K l m st b v s) (W : StOk K st l m) (f : Fr K st l m st' l m') : VOk K l m' st' b v s := by
  cases v with
  | any => exact h
  | dat x => exact h
  | ow xs =>
    obtain ⟨n, h1, h2, h3, h4, h5⟩ := h
    refine ⟨n, h1, h2, h3, f.keep n _ h1 h4 h5, fun q => ?_⟩
    rcases f.own n q with z | z
    · exact h5 z
    · have := lt_of_at h4; omega
  | frz xs =>
    obtain ⟨n, h1, h2, h3⟩ := h
    exact ⟨n, h1, h2, f.keep n _ h1 h3 (W.notFrz h3)⟩
  | ref n => exact h
  | al i => exact h
theorem VOk.low {K l m st b b' v s} (h : VOk K l m st b v s) (hb : b' ≤ b) : VOk K l m st b' v s := by
  cases v with
  | ow xs =>
    obtain ⟨n, h1, h2, h3⟩ := h
    exact ⟨n, h1, Nat.le_trans hb h2, h3⟩
  | _ => exact h

/-! ### judgements -/
section
variable (p : Pf)
def WE (e : RE) (F : SA → List SA → Prop) (st : List SA) : Prop := ∀ l m, Pre p m → StOk p.K st l m →
  ∃ s m' v st', e l m = some (s, m') ∧ Pre p m' ∧ StOk p.K st' l m' ∧ VOk p.K l m' st' m.length v s ∧ Fr p.K st l m st' l m' ∧ F v st'
def WT (t : RT) (F : Bool → List SA → Prop) (st : List SA) : Prop := ∀ l m, Pre p m → StOk p.K st l m →
  ∃ b m' st', t l m = some (b, m') ∧ Pre p m' ∧ StOk p.K st' l m' ∧ Fr p.K st l m st' l m' ∧ F b st'
/-- values, one behind another -/
inductive VsOk (K : Nat) (l : Lo) (m : Mem) (st : List SA) : Nat → List SA → List S → Prop
  | nil {b} : VsOk K l m st b [] []
  | cons {b b' v vs s ss} : VOk K l m st b v s → b ≤ b' → (∀ n, s = .r n → (∃ xs, v = .ow xs) → n < b') → VsOk K l m st b' vs ss → VsOk K l m st b (v :: vs) (s :: ss)
def WA (as : RA) (F : List SA → List SA → Prop) (st : List SA) : Prop := ∀ l m, Pre p m → StOk p.K st l m →
  ∃ ss m' vs st', as l m = some (ss, m') ∧ Pre p m' ∧ StOk p.K st' l m' ∧ VsOk p.K l m' st' m.length vs ss ∧ Fr p.K st l m st' l m' ∧ F vs st'
def WO (o : RO) (F : Option Int → List SA → Prop) (st : List SA) : Prop := ∀ l m, Pre p m → StOk p.K st l m →
  ∃ b m' st', o l m = some (b, m') ∧ Pre p m' ∧ StOk p.K st' l m' ∧ Fr p.K st l m st' l m' ∧ F b st'
def WI (it : RI) (F : List PyData → List SA → Prop) (st : List SA) : Prop := ∀ l m, Pre p m → StOk p.K st l m →
  ∃ xs m' st', it l m = some (xs.map S.d, m') ∧ Pre p m' ∧ StOk p.K st' l m' ∧ Fr p.K st l m st' l m' ∧ F xs st'
/-- no slot owns a list anew -/
def NN (st st' : List SA) : Prop := ∀ (i : Nat) (zs : OV), st'[i]? = some (.ow zs) → st[i]? = some (.ow zs)
def WG (g : Tg) (x : PyData) (F : List SA → Prop) (st : List SA) : Prop := ∀ l m, StOk p.K st l m →
  ∃ l' st', g (.d x) l = some l' ∧ StOk p.K st' l' m ∧ Fr p.K st l m st' l' m ∧ NN st st' ∧ F st'
def WGs (gs : List Tg) (xs : List PyData) (F : List SA → Prop) (st : List SA) : Prop := ∀ l m, StOk p.K st l m →
  ∃ l' st', gAll gs xs l = some l' ∧ StOk p.K st' l' m ∧ Fr p.K st l m st' l' m ∧ NN st st' ∧ F st'
end
inductive Out where
  | nx (st : List SA)
  | bk (st : List SA)
  | ct (st : List SA)
  | rt (v : SA)
def RtOk (K : Nat) (m : Mem) : SA → S → Prop
  | .dat x, s => s = .d x
  | .ow xs, s => ∃ n, K ≤ n ∧ s = .r n ∧ m[n]? = some xs.mo
  | .frz xs, s => ∃ n, K ≤ n ∧ s = .r n ∧ m[n]? = some (.frz xs)
  | _, _ => False
def OutOk (K : Nat) (st : List SA) (l : Lo) (m : Mem) (c : Ct) (l' : Lo) (m' : Mem) : Out → Prop
  | .nx st' => c = .nx ∧ StOk K st' l' m' ∧ Fr K st l m st' l' m'
  | .bk st' => c = .bk ∧ StOk K st' l' m' ∧ Fr K st l m st' l' m'
  | .ct st' => c = .ct ∧ StOk K st' l' m' ∧ Fr K st l m st' l' m'
  | .rt v => ∃ s, c = .rt s ∧ RtOk K m' v s ∧ m.length ≤ m'.length ∧ (∀ n xs, v = .ow xs → s = .r n → Own st l n ∨ m.length ≤ n) ∧ ∀ n o, K ≤ n → m[n]? = some o → ¬ Own st l n → m'[n]? = some o
def WS (p : Pf) (s : RS) (F : Out → Prop) (st : List SA) : Prop := ∀ l m, Pre p m → StOk p.K st l m →
  ∃ c l' m' o, s l m = some (c, l', m') ∧ Pre p m' ∧ OutOk p.K st l m c l' m' o ∧ F o
theorem OutOk.after {K st l m st1 l1 m1 c l' m' o} (f : Fr K st l m st1 l1 m1) (h : OutOk K st1 l1 m1 c l' m' o) : OutOk K st l m c l' m' o := by
  cases o with
  | nx st' => exact ⟨h.1, h.2.1, f.trans h.2.2⟩
  | bk st' => exact ⟨h.1, h.2.1, f.trans h.2.2⟩
  | ct st' => exact ⟨h.1, h.2.1, f.trans h.2.2⟩
  | rt v =>
    obtain ⟨s, h1, h2, h3, h5, h4⟩ := h
    refine ⟨s, h1, h2, Nat.le_trans f.len h3, fun n xs e1 e2 => ?_, fun n o hn q hq => h4 n o hn (f.keep n o hn q hq) fun z => ?_⟩
    · rcases h5 n xs e1 e2 with y | y
      · exact f.own n y
      · exact .inr (Nat.le_trans f.len y)
    · rcases f.own n z with y | y
      · exact hq y
      · have := lt_of_at q; omega

/-- either way -/
structure CondK (c : Bool) (A B : Prop) : Prop where
  t : c = true → A
  f : c = false → B
theorem cond_t {A B : Prop} (h : A) : CondK true A B := ⟨fun _ => h, fun e => (by cases e)⟩
theorem cond_f {A B : Prop} (h : B) : CondK false A B := ⟨fun e => (by cases e), fun _ => h⟩
theorem cond_y {c : Bool} {A B : Prop} (e : c = true) (h : A) : CondK c A B := ⟨fun _ => h, fun e2 => (by rw [e] at e2; cases e2)⟩
theorem cond_n {c : Bool} {A B : Prop} (e : c = false) (h : B) : CondK c A B := ⟨fun e2 => (by rw [e] at e2; cases e2), fun _ => h⟩
theorem CondK.both {c : Bool} {A B : Prop} (h : A) (h2 : B) : CondK c A B := ⟨fun _ => h, fun _ => h2⟩
def Get {α : Type} (o : Option α) (k : α → Prop) : Prop := ∃ r, o = some r ∧ k r
theorem Get.mk {α : Type} {o : Option α} {k : α → Prop} {r : α} (h : o = some r) (hk : k r) : Get o k := ⟨r, h, hk⟩
/-- of values: read off the slots -/
def GetV {α : Type} (o : Option α) (k : α → Prop) : Prop := ∃ r, o = some r ∧ k r
theorem GetV.mk {α : Type} {o : Option α} {k : α → Prop} {r : α} (h : o = some r) (hk : k r) : GetV o k := ⟨r, h, hk⟩
/-- of a def -/
def Call {α : Type} (o : Option α) (k : α → Prop) : Prop := ∃ r, o = some r ∧ k r
theorem Call.mk {α : Type} {o : Option α} {k : α → Prop} {r : α} (h : o = some r) (hk : k r) : Call o k := ⟨r, h, hk⟩
def BoolK (v : SA) (k : Bool → Prop) : Prop := ∃ c, v = .dat (.bool c) ∧ k c
theorem boolk {c : Bool} {k : Bool → Prop} (h : k c) : BoolK (.dat (.bool c)) k := ⟨c, rfl, h⟩
def IntK (v : SA) (k : Int → Prop) : Prop := ∃ c, v = .dat (.int c) ∧ k c
theorem intk {c : Int} {k : Int → Prop} (h : k c) : IntK (.dat (.int c)) k := ⟨c, rfl, h⟩
def DatK (v : SA) (k : PyData → Prop) : Prop := ∃ c, v = .dat c ∧ k c
theorem datk {c : PyData} {k : PyData → Prop} (h : k c) : DatK (.dat c) k := ⟨c, rfl, h⟩
/-- within the limits of a range -/
def RgK (j : Int) (A : Prop) : Prop := -lim ≤ j ∧ j ≤ lim ∧ A
theorem rgk {j : Int} {A : Prop} (h : -1000000 ≤ j ∧ j ≤ 1000000) (a : A) : RgK j A := ⟨by show -(1000000 : Int) ≤ j; exact h.1, by show j ≤ (1000000 : Int); exact h.2, a⟩
def ItemsK (v : SA) (k : List PyData → Prop) : Prop := ∃ d xs, v = .dat d ∧ items d = some xs ∧ k xs
theorem itemsk_l {xs : List PyData} {k : List PyData → Prop} (h : k xs) : ItemsK (.dat (.list xs)) k := ⟨_, xs, rfl, rfl, h⟩
theorem itemsk_t {xs : List PyData} {k : List PyData → Prop} (h : k xs) : ItemsK (.dat (.tuple xs)) k := ⟨_, xs, rfl, rfl, h⟩

def PickK {α : Type} (is : List Nat) (xs : List α) (k : List α → Prop) : Prop := ∃ ys, pick is xs = ys ∧ k ys
theorem pickk {α : Type} {is : List Nat} {xs ys : List α} {k : List α → Prop} (e : pick is xs = ys) (h : k ys) : PickK is xs k := ⟨ys, e, h⟩
def AlK (v : SA) (k : Nat → Prop) : Prop := ∃ j, v = .al j ∧ k j
theorem alk {j : Nat} {k : Nat → Prop} (h : k j) : AlK (.al j) k := ⟨j, rfl, h⟩
def DicAt (st : List SA) (j : Nat) (k : List (NestedKey × PyData) → Prop) : Prop := ∃ xs, st[j]? = some (.dic xs) ∧ k xs
theorem dicat {st : List SA} {j : Nat} {xs : List (NestedKey × PyData)} {k : List (NestedKey × PyData) → Prop} (e : st[j]? = some (.dic xs)) (h : k xs) : DicAt st j k := ⟨xs, e, h⟩
def OwnAt (st : List SA) (j : Nat) (k : List PyData → Prop) : Prop := ∃ xs, st[j]? = some (.own xs) ∧ k xs
theorem ownat {st : List SA} {j : Nat} {xs : List PyData} {k : List PyData → Prop} (e : st[j]? = some (.own xs)) (h : k xs) : OwnAt st j k := ⟨xs, e, h⟩

/-! ### data of values -/
def datOf (st : List SA) : SA → Option PyData
  | .dat x => some x
  | .ow (.L xs) => some (.list xs)
  | .frz xs => some (.list xs)
  | .al i => match st[i]? with
    | some (.dat x) => some x
    | some (.ow (.L xs)) => some (.list xs)
    | some (.frz xs) => some (.list xs)
    | _ => none
  | _ => none
def datsOf (st : List SA) : List SA → Option (List PyData)
  | [] => some []
  | v :: vs => (datOf st v).bind fun d => (datsOf st vs).map (d :: ·)
/-- data alone -/
def dats : List SA → Option (List PyData)
  | [] => some []
  | .dat x :: vs => (dats vs).map (x :: ·)
  | _ :: _ => none
theorem deref_lst {m : Mem} {n : Nat} {xs : List PyData} (h : m[n]? = some (.lst (xs.map S.d))) : deref m (.r n) = some (.list xs) := by
  simp only [deref, h, allD_map, Option.map_some]
theorem deref_frz {m : Mem} {n : Nat} {xs : List PyData} (h : m[n]? = some (.frz xs)) : deref m (.r n) = some (.list xs) := by
  simp only [deref, h]
theorem deref_ok {K l m st b v s d} (W : StOk K st l m) (h : VOk K l m st b v s) (e : datOf st v = some d) : deref m s = some d := by
  cases v with
  | any => cases e
  | dat x => obtain rfl : s = .d x := h; exact e
  | ow o =>
    cases o with
    | D kvs => cases e
    | L xs =>
    obtain ⟨n, _, _, rfl, h4, _⟩ := h
    cases e; exact deref_lst h4
  | frz xs =>
    obtain ⟨n, _, rfl, h4⟩ := h
    cases e; exact deref_frz h4
  | ref n => cases e
  | al i =>
    have hl : l[i]? = some (some s) := h
    simp only [datOf] at e
    cases q : st[i]? with
    | none => rw [q] at e; cases e
    | some a =>
      have z := W.sl i a q
      rw [hl] at z
      rw [q] at e
      cases a with
      | any => cases e
      | dat x => cases (show some s = some (.d x) from z); exact e
      | ow o =>
        cases o with
        | D kvs => cases e
        | L xs => cases e; obtain ⟨n, _, z1, z2⟩ := z; cases (show some s = some (.r n) from z1); exact deref_lst z2
      | frz xs => cases e; obtain ⟨n, _, z1, z2⟩ := z; cases (show some s = some (.r n) from z1); exact deref_frz z2
      | ref n => cases e
      | al j => cases e
theorem derefs_ok {K l m st} (W : StOk K st l m) : ∀ {b vs ss ds}, VsOk K l m st b vs ss → datsOf st vs = some ds → derefs m ss = some ds
  | _, _, _, _, .nil, e => by cases e; rfl
  | _, _, _, _, .cons h _ _ r, e => by
    simp only [datsOf, Option.bind_eq_some_iff, Option.map_eq_some_iff] at e
    obtain ⟨d, e1, es, e2, rfl⟩ := e
    simp only [derefs, deref_ok W h e1, Option.bind_some, derefs_ok W r e2, Option.map_some]
theorem dats_ok {K l m st} : ∀ {b vs ss ds}, VsOk K l m st b vs ss → dats vs = some ds → ss = ds.map S.d
  | _, _, _, _, .nil, e => by cases e; rfl
  | _, v :: vs, _, _, .cons h _ _ r, e => by
    cases v <;> simp only [dats, Option.map_eq_some_iff, reduceCtorEq] at e
    obtain ⟨es, e2, rfl⟩ := e
    rw [dats_ok r e2]
    cases (show _ = S.d _ from h)
    rfl
end Fz

set_option linter.all false
set_option autoImplicit false
set_option maxRecDepth 100000
/-! FzW: rules for expressions by value. -/
namespace Fz
open PySem
open L2 (ixN atI)
section
variable {p : Pf} {st : List SA} {a b c : RE} {i j : Nat} {x : PyData} {F : SA → List SA → Prop}
theorem WE.imp {e : RE} {F G : SA → List SA → Prop} (h : WE p e F st) (i : ∀ v s, F v s → G v s) : WE p e G st := fun l m hp W => by
  obtain ⟨s, m', v, st', h1, h2, h3, h4, h5, h6⟩ := h l m hp W
  exact ⟨s, m', v, st', h1, h2, h3, h4, h5, i _ _ h6⟩
theorem we_c (h : F (.dat x) st) : WE p (eC x) F st := fun l m hp W => ⟨_, m, .dat x, st, rfl, hp, W, rfl, Fr.refl, h⟩
theorem eV_of {l : Lo} {m : Mem} {s : S} (h : l[i]?.join = some s) : eV i l m = some (s, m) := by rw [eV_e, h]; rfl
theorem join_of {l : Lo} {s : S} (h : l[i]?.join = some s) : l[i]? = some (some s) := by
  rcases q : l[i]? with _ | (_ | y)
  · rw [q] at h; cases h
  · rw [q] at h; cases h
  · rw [q] at h; cases h; rfl
theorem we_dat (h : st[i]? = some (.dat x)) (k : F (.dat x) st) : WE p (eV i) F st := fun l m hp W =>
  ⟨_, m, .dat x, st, eV_of (W.sl _ _ h), hp, W, rfl, Fr.refl, k⟩
theorem we_own {xs : OV} (h : st[i]? = some (.ow xs)) (k : F (.al i) st) : WE p (eV i) F st := fun l m hp W => by
  obtain ⟨n, h1, h2, h3⟩ := W.sl _ _ h
  exact ⟨_, m, .al i, st, eV_of h2, hp, W, join_of h2, Fr.refl, k⟩
theorem we_frz {xs : List PyData} (h : st[i]? = some (.frz xs)) (k : F (.frz xs) st) : WE p (eV i) F st := fun l m hp W => by
  obtain ⟨n, h1, h2, h3⟩ := W.sl _ _ h
  exact ⟨_, m, .frz xs, st, eV_of h2, hp, W, ⟨n, h1, rfl, h3⟩, Fr.refl, k⟩
theorem we_ref {n : Nat} (h : st[i]? = some (.ref n)) (k : F (.ref n) st) : WE p (eV i) F st := fun l m hp W => by
  obtain ⟨h1, h2⟩ := W.sl _ _ h
  exact ⟨_, m, .ref n, st, eV_of h2, hp, W, ⟨h1, rfl⟩, Fr.refl, k⟩
theorem we_un {g : PyData → Option PyData} (h : WE p a (fun v s1 => GetV (datOf s1 v) fun d => Get (g d) fun r => F (.dat r) s1) st) : WE p (eUn g a) F st := fun l m hp W => by
  obtain ⟨s, m', v, st', h1, h2, h3, h4, h5, d, e1, r, e2, k⟩ := h l m hp W
  exact ⟨_, m', .dat r, st', by simp only [eUn_e, h1, Option.bind_some, deref_ok h3 h4 e1, e2, Option.map_some], h2, h3, rfl, h5, k⟩
theorem we_op {g : PyData → PyData → Option PyData} (h : WE p a (fun v s1 => WE p b (fun w s2 => GetV (datOf s2 v) fun d => GetV (datOf s2 w) fun e => Get (g d e) fun r => F (.dat r) s2) s1) st) : WE p (eOp g a b) F st := fun l m hp W => by
  obtain ⟨s, m', v, st', h1, h2, h3, h4, h5, hb⟩ := h l m hp W
  obtain ⟨s2, m2, w, st2, q1, q2, q3, q4, q5, d, e1, e, e2, r, e3, k⟩ := hb l m' h2 h3
  exact ⟨_, m2, .dat r, st2, by simp only [eOp_e, h1, q1, Option.bind_some, deref_ok q3 (h4.go h3 q5) e1, deref_ok q3 q4 e2, e3, Option.map_some], q2, q3, rfl, h5.trans q5, k⟩
theorem ixS_of {m : Mem} {s : S} {d r : PyData} {k : PyData} (h : deref m s = some d) (e : ixD d k = some r) : ixS m s k = some (.d r) := by
  cases s with
  | d y => cases h; simp only [ixS, e, Option.map_some]
  | r n =>
    simp only [deref] at h
    cases q : m[n]? with
    | none => rw [q] at h; cases h
    | some o =>
      rw [q] at h
      cases o with
      | lst ss =>
        have h : (allD ss).map PyData.list = some d := h
        rw [Option.map_eq_some_iff] at h
        obtain ⟨ds, h1, rfl⟩ := h
        cases k <;> try (cases e; done)
        rename_i i
        simp only [ixS, q]
        rw [allD_eq h1]
        have e : atI ds i = some r := e
        unfold atI at e ⊢
        simp only [List.length_map, List.getElem?_map]
        cases z : ixN ds.length i with
        | none => rw [z] at e; cases e
        | some j => rw [z] at e; simp only [Option.bind_some] at e ⊢; rw [e]; rfl
      | frz ds =>
        cases h
        cases k <;> try (cases e; done)
        rename_i i
        simp only [ixS, q]
        rw [show atI ds i = some r from e]; rfl
      | dct kvs => cases h
      | dcT kvs => cases h
/-- a[b] -/
def IxK (v w : SA) (st : List SA) (F : SA → List SA → Prop) : Prop :=
  (GetV (datOf st v) fun d => GetV (datOf st w) fun e => Get (ixD d e) fun r => F (.dat r) st) ∨
  ∃ j kvs e key r, v = .al j ∧ st[j]? = some (.dic kvs) ∧ datOf st w = some e ∧ keyOf e = some key ∧ getD key kvs = some r ∧ F (.dat r) st
theorem ixk_l {v w : SA} (h : GetV (datOf st v) fun d => GetV (datOf st w) fun e => Get (ixD d e) fun r => F (.dat r) st) : IxK v w st F := .inl h
theorem ixk_d {w : SA} {kvs : List (NestedKey × PyData)} (e : st[j]? = some (.dic kvs)) (h : GetV (datOf st w) fun e => Get (keyOf e) fun key => Get (getD key kvs) fun r => F (.dat r) st) : IxK (.al j) w st F :=
  let ⟨x, h1, key, h2, r, h3, h4⟩ := h; .inr ⟨j, kvs, x, key, r, rfl, e, h1, h2, h3, h4⟩
theorem we_ix (h : WE p a (fun v s1 => WE p b (fun w s2 => IxK v w s2 F) s1) st) : WE p (eIx a b) F st := fun l m hp W => by
  obtain ⟨s, m', v, st', h1, h2, h3, h4, h5, hb⟩ := h l m hp W
  obtain ⟨s2, m2, w, st2, q1, q2, q3, q4, q5, hc⟩ := hb l m' h2 h3
  rcases hc with ⟨d, e1, e, e2, r, e3, k⟩ | ⟨j, kvs, e, key, r, rfl, e1, e2, e3, e4, k⟩
  · exact ⟨_, m2, .dat r, st2, by simp only [eIx_e, h1, q1, Option.bind_some, deref_ok q3 q4 e2, ixS_of (deref_ok q3 (h4.go h3 q5) e1) e3, Option.map_some], q2, q3, rfl, h5.trans q5, k⟩
  · have hl : l[j]? = some (some s) := h4
    obtain ⟨N, n1, n2, n3⟩ := q3.sl _ _ e1
    rw [hl] at n2
    cases (show some s = some (.r N) from n2)
    have n3 : m2[N]? = some (.dcT (kvs.map fun p => (p.1, S.d p.2))) := n3
    refine ⟨.d r, m2, .dat r, st2, ?_, q2, q3, rfl, h5.trans q5, k⟩
    have hx : ∃ ds, e = .tuple ds := by cases e <;> first | exact ⟨_, rfl⟩ | cases e3
    obtain ⟨ds, rfl⟩ := hx
    simp only [eIx_e, h1, q1, Option.bind_some, deref_ok q3 q4 e2, ixS, n3, e3, getT_map, e4, Option.map_some]
theorem we_inT {bb : Bool} (h : WE p a (fun v s1 => WE p b (fun w s2 => AlK w fun j => DicAt s2 j fun kvs => GetV (datOf s2 v) fun d => Get (keyOf d) fun key => F (.dat (.bool ((getD key kvs).isSome == bb))) s2) s1) st) : WE p (eInT bb a b) F st := fun l m hp W => by
  obtain ⟨s, m', v, st', h1, h2, h3, h4, h5, hb⟩ := h l m hp W
  obtain ⟨s2, m2, w, st2, q1, q2, q3, q4, q5, j, rfl, kvs, e1, d, e2, key, e3, k⟩ := hb l m' h2 h3
  have hl : l[j]? = some (some s2) := q4
  obtain ⟨N, n1, n2, n3⟩ := q3.sl _ _ e1
  rw [hl] at n2
  cases (show some s2 = some (.r N) from n2)
  have n3 : m2[N]? = some (.dcT (kvs.map fun p => (p.1, S.d p.2))) := n3
  refine ⟨.d (.bool _), m2, .dat _, st2, ?_, q2, q3, rfl, h5.trans q5, k⟩
  simp only [eInT, h1, q1, Option.bind_some, deref_ok q3 (h4.go h3 q5) e2, isSomeT, n3, e3, getT_map, Option.isSome_map, Option.map_some]
theorem wo_n {F : Option Int → List SA → Prop} (h : F none st) : WO p oN F st := fun l m hp W => ⟨none, m, st, rfl, hp, W, Fr.refl, h⟩
theorem wo_i {F : Option Int → List SA → Prop} (h : WE p a (fun v s1 => IntK v fun i => F (some i) s1) st) : WO p (oI a) F st := fun l m hp W => by
  obtain ⟨s, m', v, st', h1, h2, h3, h4, h5, i, rfl, k⟩ := h l m hp W
  obtain rfl : s = .d (.int i) := h4
  exact ⟨some i, m', st', oI_e h1 i rfl, h2, h3, h5, k⟩
theorem we_sl {lo hi : RO} (h : WE p a (fun v s1 => WO p lo (fun x s2 => WO p hi (fun y s3 => GetV (datOf s3 v) fun d => Get (slD d x y) fun r => F (.dat r) s3) s2) s1) st) : WE p (eSl a lo hi) F st := fun l m hp W => by
  obtain ⟨s, m', v, st', h1, h2, h3, h4, h5, hb⟩ := h l m hp W
  obtain ⟨x, m2, st2, q1, q2, q3, q5, hc⟩ := hb l m' h2 h3
  obtain ⟨y, m3, st3, z1, z2, z3, z5, d, e1, r, e3, k⟩ := hc l m2 q2 q3
  exact ⟨_, m3, .dat r, st3, by simp only [eSl_e, h1, q1, z1, Option.bind_some, deref_ok z3 (h4.go h3 (q5.trans z5)) e1, e3, Option.map_some], z2, z3, rfl, h5.trans (q5.trans z5), k⟩
theorem VOk.fresh {K l m st v s} {b b' : Nat} (h : VOk K l m st b v s) (hb : b' ≤ b) : VOk K l m st b' v s := h.low hb
theorem we_if {t : RT} (h : WT p t (fun c s1 => CondK c (WE p a F s1) (WE p b F s1)) st) : WE p (eIf t a b) F st := fun l m hp W => by
  obtain ⟨c, m', st', h1, h2, h3, h5, hb⟩ := h l m hp W
  cases c with
  | true =>
    obtain ⟨s2, m2, w, st2, q1, q2, q3, q4, q5, k⟩ := hb.1 rfl l m' h2 h3
    exact ⟨s2, m2, w, st2, by simp only [eIf_e, h1, Option.bind_some, if_true, q1], q2, q3, q4.low h5.len, h5.trans q5, k⟩
  | false =>
    obtain ⟨s2, m2, w, st2, q1, q2, q3, q4, q5, k⟩ := hb.2 rfl l m' h2 h3
    exact ⟨s2, m2, w, st2, by simp only [eIf_e, h1, Option.bind_some, Bool.false_eq_true, if_false, q1], q2, q3, q4.low h5.len, h5.trans q5, k⟩
theorem we_and (h : WE p a (fun v s1 => BoolK v fun c => CondK c (WE p b F s1) (F (.dat (.bool false)) s1)) st) : WE p (eAnd a b) F st := fun l m hp W => by
  obtain ⟨s, m', v, st', h1, h2, h3, h4, h5, c, rfl, hb⟩ := h l m hp W
  obtain rfl : s = .d (.bool c) := h4
  cases c with
  | true =>
    obtain ⟨s2, m2, w, st2, q1, q2, q3, q4, q5, k⟩ := hb.1 rfl l m' h2 h3
    exact ⟨s2, m2, w, st2, by simp only [eAnd_e, h1, Option.bind_some, if_true, q1], q2, q3, q4.low h5.len, h5.trans q5, k⟩
  | false => exact ⟨.d _, m', .dat _, st', by simp only [eAnd_e, h1, Option.bind_some, Bool.false_eq_true, if_false], h2, h3, rfl, h5, hb.2 rfl⟩
theorem we_or (h : WE p a (fun v s1 => BoolK v fun c => CondK c (F (.dat (.bool true)) s1) (WE p b F s1)) st) : WE p (eOr a b) F st := fun l m hp W => by
  obtain ⟨s, m', v, st', h1, h2, h3, h4, h5, c, rfl, hb⟩ := h l m hp W
  obtain rfl : s = .d (.bool c) := h4
  cases c with
  | false =>
    obtain ⟨s2, m2, w, st2, q1, q2, q3, q4, q5, k⟩ := hb.2 rfl l m' h2 h3
    exact ⟨s2, m2, w, st2, by simp only [eOr_e, h1, Option.bind_some, Bool.false_eq_true, if_false, q1], q2, q3, q4.low h5.len, h5.trans q5, k⟩
  | true => exact ⟨.d _, m', .dat _, st', by simp only [eOr_e, h1, Option.bind_some, if_true], h2, h3, rfl, h5, hb.1 rfl⟩
theorem we_not {t : RT} (h : WT p t (fun c s1 => F (.dat (.bool (!c))) s1) st) : WE p (eNot t) F st := fun l m hp W => by
  obtain ⟨c, m', st', h1, h2, h3, h5, k⟩ := h l m hp W
  exact ⟨.d _, m', .dat _, st', by simp only [eNot_e, h1, Option.map_some], h2, h3, rfl, h5, k⟩
theorem we_chain {g g' : PyData → PyData → Option PyData} (h : WE p a (fun v s1 => WE p b (fun w s2 => GetV (datOf s2 v) fun d => GetV (datOf s2 w) fun e => Get (g d e) fun r => BoolK (.dat r) fun z => CondK z (WE p c (fun u s3 => GetV (datOf s3 w) fun e' => GetV (datOf s3 u) fun f => Get (g' e' f) fun r => F (.dat r) s3) s2)
    (F (.dat (.bool false)) s2)) s1) st) : WE p (eChain g g' a b c) F st := fun l m hp W => by
  obtain ⟨s, m', v, st', h1, h2, h3, h4, h5, hb⟩ := h l m hp W
  obtain ⟨s2, m2, w, st2, q1, q2, q3, q4, q5, d, e1, e, e2, r, e3, z, ez, kk⟩ := hb l m' h2 h3
  cases ez
  have d1 := deref_ok q3 (h4.go h3 q5) e1
  have d2 := deref_ok q3 q4 e2
  cases z with
  | false => exact ⟨.d _, m2, .dat _, st2, by simp only [eChain, h1, q1, Option.bind_some, d1, d2, e3], q2, q3, rfl, h5.trans q5, kk.2 rfl⟩
  | true =>
    obtain ⟨s3, m3, u, st3, z1, z2, z3, z4, z5, e', y1, f, y2, r, y3, k⟩ := kk.1 rfl l m2 q2 q3
    exact ⟨.d _, m3, .dat _, st3, by simp only [eChain, h1, q1, Option.bind_some, d1, d2, e3, z1, deref_ok z3 (q4.go q3 z5) y1, deref_ok z3 z4 y2, y3, Option.map_some], z2, z3, rfl, h5.trans (q5.trans z5), k⟩
/-! ### tests -/
variable {G : Bool → List SA → Prop} {t u : RT}
theorem wt_B (h : WE p a (fun v s1 => BoolK v fun c => G c s1) st) : WT p (tB a) G st := fun l m hp W => by
  obtain ⟨s, m', v, st', h1, h2, h3, h4, h5, c, rfl, k⟩ := h l m hp W
  obtain rfl : s = .d (.bool c) := h4
  exact ⟨c, m', st', by simp only [tB_e, h1, Option.bind_some], h2, h3, h5, k⟩
theorem wt_V (h : WE p a (fun v s1 => GetV (datOf s1 v) fun d => Get (truth d) fun c => G c s1) st) : WT p (tV a) G st := fun l m hp W => by
  obtain ⟨s, m', v, st', h1, h2, h3, h4, h5, d, e1, c, e2, k⟩ := h l m hp W
  exact ⟨c, m', st', by simp only [tV_e, h1, Option.bind_some, deref_ok h3 h4 e1, e2, Option.map_some], h2, h3, h5, k⟩
theorem wt_and (h : WT p t (fun c s1 => CondK c (WT p u G s1) (G false s1)) st) : WT p (Fz.tAnd t u) G st := fun l m hp W => by
  obtain ⟨c, m', st', h1, h2, h3, h5, k⟩ := h l m hp W
  cases c with
  | true =>
    obtain ⟨d, m2, st2, q1, q2, q3, q5, k2⟩ := k.1 rfl l m' h2 h3
    exact ⟨d, m2, st2, by simp only [tAnd_e, h1, Option.bind_some, if_true, q1], q2, q3, h5.trans q5, k2⟩
  | false => exact ⟨_, m', st', by simp only [tAnd_e, h1, Option.bind_some, Bool.false_eq_true, if_false], h2, h3, h5, k.2 rfl⟩
theorem wt_or (h : WT p t (fun c s1 => CondK c (G true s1) (WT p u G s1)) st) : WT p (Fz.tOr t u) G st := fun l m hp W => by
  obtain ⟨c, m', st', h1, h2, h3, h5, k⟩ := h l m hp W
  cases c with
  | false =>
    obtain ⟨d, m2, st2, q1, q2, q3, q5, k2⟩ := k.2 rfl l m' h2 h3
    exact ⟨d, m2, st2, by simp only [tOr_e, h1, Option.bind_some, Bool.false_eq_true, if_false, q1], q2, q3, h5.trans q5, k2⟩
  | true => exact ⟨_, m', st', by simp only [tOr_e, h1, Option.bind_some, if_true], h2, h3, h5, k.1 rfl⟩
theorem wt_not (h : WT p t (fun c s1 => G (!c) s1) st) : WT p (Fz.tNot t) G st := fun l m hp W => by
  obtain ⟨c, m', st', h1, h2, h3, h5, k⟩ := h l m hp W
  exact ⟨_, m', st', by simp only [tNot_e, h1, Option.map_some], h2, h3, h5, k⟩
theorem wt_yes (h : G true st) : WT p tYes G st := fun l m hp W => ⟨true, m, st, rfl, hp, W, Fr.refl, h⟩
/-! ### several -/
variable {H : List SA → List SA → Prop} {r : List RE}
theorem VsOk.go {K l m st st' m'} (W : StOk K st l m) (f : Fr K st l m st' l m') : ∀ {b vs ss}, VsOk K l m st b vs ss → VsOk K l m' st' b vs ss
  | _, _, _, .nil => .nil
  | _, _, _, .cons h hb hn r => .cons (h.go W f) hb hn (VsOk.go W f r)
theorem VsOk.low {K l m st} : ∀ {b b' vs ss}, VsOk K l m st b vs ss → b' ≤ b → VsOk K l m st b' vs ss
  | _, _, _, _, .nil, _ => .nil
  | _, _, _, _, .cons h hb hn r, q => .cons (h.low q) (Nat.le_trans q hb) hn r
theorem wa_nil (h : H [] st) : WA p (rA []) H st := fun l m hp W => ⟨[], m, [], st, rfl, hp, W, .nil, Fr.refl, h⟩
theorem wa_cons (h : WE p a (fun v s1 => WA p (rA r) (fun vs s2 => H (v :: vs) s2) s1) st) : WA p (rA (a :: r)) H st := fun l m hp W => by
  obtain ⟨s, m', v, st', h1, h2, h3, h4, h5, hb⟩ := h l m hp W
  obtain ⟨ss, m2, vs, st2, q1, q2, q3, q4, q5, k⟩ := hb l m' h2 h3
  refine ⟨s :: ss, m2, v :: vs, st2, by simp only [rA_c, h1, q1, Option.bind_some, Option.map_some], q2, q3, .cons (h4.go h3 q5) h5.len ?_ q4, h5.trans q5, k⟩
  rintro n rfl ⟨xs, rfl⟩
  obtain ⟨n', _, _, e, z, _⟩ := h4
  cases e
  exact lt_of_at z
theorem we_tup (h : WA p (rA r) (fun vs s1 => GetV (dats vs) fun ds => F (.dat (.tuple ds)) s1) st) : WE p (eTup r) F st := fun l m hp W => by
  obtain ⟨ss, m', vs, st', h1, h2, h3, h4, h5, ds, e1, k⟩ := h l m hp W
  have := dats_ok h4 e1; subst this
  exact ⟨.d _, m', .dat _, st', by simp only [eTup_e, h1, Option.bind_some, allD_map, Option.map_some], h2, h3, rfl, h5, k⟩
theorem we_lst (h : WA p (rA r) (fun vs s1 => GetV (dats vs) fun ds => F (.dat (.list ds)) s1) st) : WE p (eLst r) F st := fun l m hp W => by
  obtain ⟨ss, m', vs, st', h1, h2, h3, h4, h5, ds, e1, k⟩ := h l m hp W
  have := dats_ok h4 e1; subst this
  exact ⟨.d _, m', .dat _, st', by simp only [eLst_e, h1, Option.bind_some, allD_map, Option.map_some], h2, h3, rfl, h5, k⟩
theorem we_b {g : PF} (h : WA p (rA r) (fun vs s1 => GetV (datsOf s1 vs) fun ds => Get (g ds) fun x => F (.dat x) s1) st) : WE p (eB g r) F st := fun l m hp W => by
  obtain ⟨ss, m', vs, st', h1, h2, h3, h4, h5, ds, e1, x, e2, k⟩ := h l m hp W
  exact ⟨.d _, m', .dat _, st', by simp only [eB_e, h1, Option.bind_some, derefs_ok h3 h4 e1, e2, Option.map_some], h2, h3, rfl, h5, k⟩
theorem we_p {g : PF} {r : RA} (h : WA p r (fun vs s1 => GetV (dats vs) fun ds => Call (g ds) fun x => F (.dat x) s1) st) : WE p (eP g r) F st := fun l m hp W => by
  obtain ⟨ss, m', vs, st', h1, h2, h3, h4, h5, ds, e1, x, e2, k⟩ := h l m hp W
  have := dats_ok h4 e1; subst this
  exact ⟨.d _, m', .dat _, st', by simp only [eP_e, h1, Option.bind_some, allD_map, e2, Option.map_some], h2, h3, rfl, h5, k⟩
theorem pick_dats : ∀ {is : List Nat} {ds : List PyData}, pick is (ds.map S.d) = (pick is ds).map S.d
  | [], ds => rfl
  | i :: is, ds => by
    have ih := pick_dats (is := is) (ds := ds)
    unfold pick at ih ⊢
    rw [List.filterMap_cons, List.filterMap_cons, List.getElem?_map]
    simp only [List.getElem?_map] at ih ⊢
    cases ds[i]? <;> simp [ih]
/-- a call, some arguments by their names -/
theorem we_pk {g : PF} {is : List Nat} {as ks : List RE} (h : WA p (rA as) (fun vs s1 => WA p (rA ks) (fun ws s2 => GetV (dats vs) fun ds => GetV (dats ws) fun es => PickK is (ds ++ es) fun as => Call (g as) fun x => F (.dat x) s2) s1) st) : WE p (eP g (rK is as ks)) F st := fun l m hp W => by
  obtain ⟨ss, m', vs, st', h1, h2, h3, h4, h5, hb⟩ := h l m hp W
  obtain ⟨ss2, m2, vs2, st2, q1, q2, q3, q4, q5, ds, e1, es, e2, _, rfl, x, e3, k⟩ := hb l m' h2 h3
  have := dats_ok h4 e1; subst this
  have := dats_ok q4 e2; subst this
  refine ⟨.d x, m2, .dat x, st2, ?_, q2, q3, rfl, h5.trans q5, k⟩
  simp only [eP_e, rK_e, h1, q1, Option.bind_some, Option.map_some]
  rw [← List.map_append, pick_dats, allD_map]
  simp only [Option.bind_some, e3, Option.map_some]
/-! ### fresh lists -/
theorem at_new (m : Mem) (o : MO) : (m ++ [o])[m.length]? = some o := by simp
theorem at_old {m : Mem} {n : Nat} {o : MO} (x : Mem) (h : m[n]? = some o) : (m ++ x)[n]? = some o := by
  rw [List.getElem?_append_left (lt_of_at h)]; exact h
theorem Pre.app {m : Mem} (h : Pre p m) (x : Mem) : Pre p (m ++ x) := ⟨by rw [List.length_append]; exact Nat.le_add_right_of_le h.1, by rw [List.take_append_of_le_length h.1]; exact h.2⟩
theorem SlotOk.app {K m a o} (x : Mem) (h : SlotOk K m a o) : SlotOk K (m ++ x) a o := by
  cases a with
  | ow xs => obtain ⟨n, h1, h2, h3⟩ := h; exact ⟨n, h1, h2, at_old x h3⟩
  | frz xs => obtain ⟨n, h1, h2, h3⟩ := h; exact ⟨n, h1, h2, at_old x h3⟩
  | _ => exact h
theorem StOk.app {K st l m} (h : StOk K st l m) (x : Mem) : StOk K st l (m ++ x) := ⟨h.len, fun i a e => (h.sl i a e).app x, h.inj⟩
theorem Fr.app {K st l m} (x : Mem) : Fr K st l m st l (m ++ x) := ⟨by rw [List.length_append]; omega, fun n o _ h _ => at_old x h, fun n h => .inl h⟩
theorem StOk.ownLt {K st l m} (h : StOk K st l m) {n : Nat} (q : Own st l n) : n < m.length := by
  obtain ⟨i, xs, q1, q2⟩ := q
  obtain ⟨k, _, z1, z2⟩ := h.sl i _ q1
  rw [q2] at z1
  cases z1
  exact lt_of_at z2
/-- a new list -/
theorem new_ow {l m} (hp : Pre p m) (W : StOk p.K st l m) (o : OV) : Pre p (m ++ [o.mo]) ∧ StOk p.K st l (m ++ [o.mo]) ∧ VOk p.K l (m ++ [o.mo]) st m.length (.ow o) (.r m.length) ∧ Fr p.K st l m st l (m ++ [o.mo]) :=
  ⟨hp.app _, W.app _, ⟨m.length, hp.1, Nat.le_refl _, rfl, at_new _ _, fun q => Nat.lt_irrefl _ (W.ownLt q)⟩, Fr.app _⟩
theorem new_own {l m} (hp : Pre p m) (W : StOk p.K st l m) (xs : List PyData) : Pre p (m ++ [.lst (xs.map S.d)]) ∧ StOk p.K st l (m ++ [.lst (xs.map S.d)]) ∧ VOk p.K l (m ++ [.lst (xs.map S.d)]) st m.length (.own xs) (.r m.length) ∧ Fr p.K st l m st l (m ++ [.lst (xs.map S.d)]) := new_ow hp W (.L xs)
theorem we_dnT (h : F (.dic []) st) : WE p eDnT F st := fun l m hp W => by
  obtain ⟨n1, n2, n3, n4⟩ := new_ow hp W (.D [])
  exact ⟨_, _, _, st, rfl, n1, n2, n3, n4, h⟩
theorem we_lstM (h : WA p (rA r) (fun vs s1 => GetV (dats vs) fun ds => F (.own ds) s1) st) : WE p (eLstM r) F st := fun l m hp W => by
  obtain ⟨ss, m', vs, st', h1, h2, h3, h4, h5, ds, e1, k⟩ := h l m hp W
  have := dats_ok h4 e1; subst this
  obtain ⟨n1, n2, n3, n4⟩ := new_own h2 h3 ds
  exact ⟨_, _, _, st', by simp only [eLstM_e, h1, Option.map_some], n1, n2, n3.low h5.len, h5.trans n4, k⟩
theorem we_mulM (h : WE p a (fun v s1 => WE p b (fun w s2 => GetV (datOf s2 v) fun d => GetV (datOf s2 w) fun e => Get (pMul d e) fun r => ∃ xs, r = .list xs ∧ F (.own xs) s2) s1) st) : WE p (eMulM a b) F st := fun l m hp W => by
  obtain ⟨s, m', v, st', h1, h2, h3, h4, h5, hb⟩ := h l m hp W
  obtain ⟨s2, m2, w, st2, q1, q2, q3, q4, q5, d, e1, e, e2, r, e3, xs, rfl, k⟩ := hb l m' h2 h3
  obtain ⟨n1, n2, n3, n4⟩ := new_own q2 q3 xs
  exact ⟨_, _, _, st2, by simp only [eMulM_e, h1, q1, Option.bind_some, deref_ok q3 (h4.go h3 q5) e1, deref_ok q3 q4 e2, e3], n1, n2, n3.low (h5.trans q5).len, (h5.trans q5).trans n4, k⟩
end
end Fz

set_option linter.all false
set_option autoImplicit false
set_option maxRecDepth 100000
/-! FzX: rules for what changes a slot or an owned list; targets, what is walked, comprehensions. -/
namespace Fz
open PySem
open L2 (ixN atI)
section
variable {p : Pf} {K : Nat} {st : List SA} {l : Lo} {m : Mem} {i j : Nat}
theorem set_at {α : Type} {xs : List α} {i j : Nat} {x y : α} (h : (xs.set i x)[j]? = some y) : (i = j ∧ y = x) ∨ (i ≠ j ∧ xs[j]? = some y) := by
  rw [List.getElem?_set] at h
  by_cases e : i = j
  · rw [if_pos e] at h
    split at h
    · cases h; exact .inl ⟨e, rfl⟩
    · cases h
  · rw [if_neg e] at h; exact .inr ⟨e, h⟩
theorem set_hit {α : Type} {xs : List α} {i j : Nat} {x y : α} (h : (xs.set i x)[j]? = some y) : j < xs.length := by
  rcases Nat.lt_or_ge j xs.length with q | q
  · exact q
  · rw [List.getElem?_eq_none (by simpa using q)] at h; cases h
theorem Own.set {a : SA} {s : S} {n : Nat} (h : Own (st.set i a) (l.set i (some s)) n) (hl : l.length = st.length) : Own st l n ∨ ((∃ xs, a = .ow xs) ∧ s = .r n) := by
  obtain ⟨k, xs, h1, h2⟩ := h
  rcases set_at h1 with ⟨rfl, e⟩ | ⟨hn, e⟩
  · rcases set_at h2 with ⟨_, e2⟩ | ⟨hn, _⟩
    · cases e2; exact .inr ⟨⟨xs, e.symm⟩, rfl⟩
    · exact absurd rfl hn
  · rcases set_at h2 with ⟨q, _⟩ | ⟨_, e2⟩
    · exact absurd q hn
    · exact .inl ⟨k, xs, e, e2⟩
/-- a value into a slot -/
theorem StOk.set (W : StOk K st l m) {b : Nat} {v : SA} {s : S} (h : VOk K l m st b v s) (hv : ∀ j, v ≠ .al j) : StOk K (st.set i v) (l.set i (some s)) m := by
  have slot : SlotOk K m v (some s) := by
    cases v with
    | any => trivial
    | dat x => exact congrArg some h
    | ow xs => obtain ⟨n, h1, h2, rfl, h4, _⟩ := h; exact ⟨n, h1, rfl, h4⟩
    | frz xs => obtain ⟨n, h1, rfl, h4⟩ := h; exact ⟨n, h1, rfl, h4⟩
    | ref n => obtain ⟨h1, rfl⟩ := h; exact ⟨h1, rfl⟩
    | al j => exact absurd rfl (hv j)
  have new : ∀ n xs, v = .ow xs → s = .r n → ¬ Own st l n := fun n xs e1 e2 => by
    subst e1 e2
    obtain ⟨n', _, _, e, _, z⟩ := h
    cases e; exact z
  refine ⟨by simp [W.len], fun k a e => ?_, fun k k' xs ys n e1 e2 e3 e4 => ?_⟩
  · rcases set_at e with ⟨rfl, rfl⟩ | ⟨hn, e⟩
    · have hk : i < l.length := by rw [W.len]; exact set_hit e
      rw [List.getElem?_set_self hk]; exact slot
    · rw [List.getElem?_set_ne hn]; exact W.sl k a e
  · rcases set_at e1 with ⟨rfl, z1⟩ | ⟨n1, z1⟩ <;> rcases set_at e2 with ⟨rfl, z2⟩ | ⟨n2, z2⟩
    · rfl
    · rcases set_at e3 with ⟨_, y⟩ | ⟨q, _⟩
      · cases y
        rcases set_at e4 with ⟨q, _⟩ | ⟨_, y2⟩
        · exact absurd q n2
        · exact absurd ⟨k', ys, z2, y2⟩ (new n xs z1.symm rfl)
      · exact absurd rfl q
    · rcases set_at e4 with ⟨_, y⟩ | ⟨q, _⟩
      · cases y
        rcases set_at e3 with ⟨q, _⟩ | ⟨_, y2⟩
        · exact absurd q n1
        · exact absurd ⟨k, xs, z1, y2⟩ (new n ys z2.symm rfl)
      · exact absurd rfl q
    · rcases set_at e3 with ⟨q, _⟩ | ⟨_, y1⟩
      · exact absurd q n1
      · rcases set_at e4 with ⟨q, _⟩ | ⟨_, y2⟩
        · exact absurd q n2
        · exact W.inj k k' xs ys n z1 z2 y1 y2
theorem Fr.set {st0 l0 m0} (f : Fr K st0 l0 m0 st l m) (W : StOk K st l m) {v : SA} {s : S} (h : VOk K l m st m0.length v s) : Fr K st0 l0 m0 (st.set i v) (l.set i (some s)) m := by
  refine ⟨f.len, f.keep, fun n q => ?_⟩
  rcases q.set W.len with z | ⟨⟨xs, rfl⟩, rfl⟩
  · exact f.own n z
  · obtain ⟨n', _, h2, e, _⟩ := h
    cases e; exact .inr h2
/-- less is known -/
def Wk : List SA → List SA → Prop
  | [], [] => True
  | a :: as, b :: bs => (b = .any ∨ b = a) ∧ Wk as bs
  | _, _ => False
theorem Wk.len : ∀ {st st' : List SA}, Wk st st' → st'.length = st.length
  | [], [], _ => rfl
  | _ :: _, _ :: _, h => by rw [List.length_cons, List.length_cons, Wk.len h.2]
theorem Wk.at : ∀ {st st' : List SA}, Wk st st' → ∀ {i : Nat} {a : SA}, st'[i]? = some a → a = .any ∨ st[i]? = some a
  | a :: _, b :: _, h, 0, x, e => by
    cases e
    rcases h.1 with q | q
    · exact .inl q
    · rw [q]; exact .inr rfl
  | _ :: _, _ :: _, h, i + 1, x, e => Wk.at h.2 (i := i) e
  | [], [], _, i, x, e => by simp at e
  | [], _ :: _, h, _, _, _ => h.elim
  | _ :: _, [], h, _, _, _ => h.elim
theorem Wk.refl : ∀ {st : List SA}, Wk st st
  | [] => trivial
  | _ :: _ => ⟨.inr rfl, Wk.refl⟩
theorem StOk.weak {st'} (W : StOk K st l m) (h : Wk st st') : StOk K st' l m := by
  refine ⟨by rw [W.len, h.len], fun i a e => ?_, fun i j xs ys n e1 e2 => ?_⟩
  · rcases h.at e with rfl | q
    · trivial
    · exact W.sl i a q
  · rcases h.at e1 with q | q1
    · cases q
    · rcases h.at e2 with q | q2
      · cases q
      · exact W.inj i j xs ys n q1 q2
theorem Wk.own {st'} (h : Wk st st') {n : Nat} (q : Own st' l n) : Own st l n := by
  obtain ⟨i, xs, e, e2⟩ := q
  rcases h.at e with z | z
  · cases z
  · exact ⟨i, xs, z, e2⟩
theorem Fr.weak {st'} (h : Wk st st') : Fr K st l m st' l m := ⟨Nat.le_refl _, fun _ _ _ q _ => q, fun n q => .inl (h.own q)⟩
theorem wk_any : ∀ {st : List SA} {j : Nat}, Wk st (st.set j .any)
  | [], _ => trivial
  | _ :: _, 0 => ⟨.inl rfl, Wk.refl⟩
  | _ :: _, j + 1 => ⟨.inr rfl, wk_any⟩
/-- an owned list goes to another slot -/
theorem ow_of {xs : OV} (W : StOk K st l m) (h : st[j]? = some (.ow xs)) {s : S} (hs : l[j]? = some (some s)) : ∃ n, K ≤ n ∧ s = .r n ∧ m[n]? = some xs.mo ∧ ¬ Own (st.set j .any) l n := by
  obtain ⟨n, h1, h2, h3⟩ := W.sl _ _ h
  rw [hs] at h2
  cases h2
  refine ⟨n, h1, rfl, h3, fun ⟨k, ys, e1, e2⟩ => ?_⟩
  rcases set_at e1 with ⟨_, q⟩ | ⟨hn, q⟩
  · cases q
  · exact hn (W.inj j k xs ys n h q hs e2)
theorem own_of {xs : List PyData} (W : StOk K st l m) (h : st[j]? = some (.own xs)) {s : S} (hs : l[j]? = some (some s)) : ∃ n, K ≤ n ∧ s = .r n ∧ m[n]? = some (.lst (xs.map S.d)) ∧ ¬ Own (st.set j .any) l n := ow_of W h hs
/-- an owned object takes other items -/
theorem StOk.putO (W : StOk K st l m) {xs ys : OV} (h : st[j]? = some (.ow xs)) {n : Nat} (hs : l[j]? = some (some (.r n))) : StOk K (st.set j (.ow ys)) l (m.set n ys.mo) := by
  obtain ⟨n', h1, h2, h3⟩ := W.sl _ _ h
  rw [hs] at h2
  cases h2
  have hn := lt_of_at h3
  refine ⟨by simp [W.len], fun k a e => ?_, fun k k' xs' ys' n' e1 e2 e3 e4 => ?_⟩
  · rcases set_at e with ⟨rfl, rfl⟩ | ⟨hk, e⟩
    · rw [hs]; exact ⟨n, h1, rfl, by rw [List.getElem?_set_self hn]⟩
    · have z := W.sl k a e
      cases a with
      | ow zs =>
        obtain ⟨n2, z1, z2, z3⟩ := z
        refine ⟨n2, z1, z2, ?_⟩
        rw [List.getElem?_set_ne (fun q => ?_)]; exact z3
        subst q
        exact hk (W.inj j k xs zs n h e hs (join_of z2))
      | frz zs =>
        obtain ⟨n2, z1, z2, z3⟩ := z
        refine ⟨n2, z1, z2, ?_⟩
        rw [List.getElem?_set_ne (fun q => ?_)]; exact z3
        subst q
        rw [h3] at z3; exact OV.mo_frz (Option.some.inj z3)
      | any => trivial
      | dat x => exact z
      | ref n => exact z
      | al k => exact z
  · have un : ∀ (q : Nat) (zs : OV), (st.set j (.ow ys))[q]? = some (.ow zs) → ∃ zs, st[q]? = some (.ow zs) := fun q zs e => by
      rcases set_at e with ⟨rfl, _⟩ | ⟨_, e⟩
      · exact ⟨xs, h⟩
      · exact ⟨zs, e⟩
    obtain ⟨_, q1⟩ := un k xs' e1
    obtain ⟨_, q2⟩ := un k' ys' e2
    exact W.inj k k' _ _ n' q1 q2 e3 e4
theorem StOk.put (W : StOk K st l m) {xs ys : List PyData} (h : st[j]? = some (.own xs)) {n : Nat} (hs : l[j]? = some (some (.r n))) : StOk K (st.set j (.own ys)) l (m.set n (.lst (ys.map S.d))) := W.putO (ys := .L ys) h hs
theorem StOk.freeze (W : StOk K st l m) {xs : List PyData} (h : st[j]? = some (.own xs)) {n : Nat} (hs : l[j]? = some (some (.r n))) : StOk K (st.set j (.frz xs)) l (m.set n (.frz xs)) := by
  obtain ⟨n', h1, h2, h3⟩ := W.sl _ _ h
  rw [hs] at h2
  cases h2
  have hn := lt_of_at h3
  refine ⟨by simp [W.len], fun k a e => ?_, fun k k' xs' ys' n' e1 e2 e3 e4 => ?_⟩
  · rcases set_at e with ⟨rfl, rfl⟩ | ⟨hk, e⟩
    · rw [hs]; exact ⟨n, h1, rfl, by rw [List.getElem?_set_self hn]⟩
    · have z := W.sl k a e
      cases a with
      | ow zs =>
        obtain ⟨n2, z1, z2, z3⟩ := z
        refine ⟨n2, z1, z2, ?_⟩
        rw [List.getElem?_set_ne (fun q => ?_)]; exact z3
        subst q
        exact hk (W.inj j k (.L xs) zs n h e hs (join_of z2))
      | frz zs =>
        obtain ⟨n2, z1, z2, z3⟩ := z
        refine ⟨n2, z1, z2, ?_⟩
        rw [List.getElem?_set_ne (fun q => ?_)]; exact z3
        subst q
        rw [h3] at z3; exact OV.mo_frz (Option.some.inj z3)
      | any => trivial
      | dat x => exact z
      | ref n => exact z
      | al k => exact z
  · have un : ∀ (q : Nat) (zs : OV), (st.set j (.frz xs))[q]? = some (.ow zs) → st[q]? = some (.ow zs) := fun q zs e => by
      rcases set_at e with ⟨_, q⟩ | ⟨_, e⟩
      · cases q
      · exact e
    exact W.inj k k' _ _ n' (un k xs' e1) (un k' ys' e2) e3 e4
theorem Own.put {a : SA} {n : Nat} {xs : OV} (hj : st[j]? = some (.ow xs)) (h : Own (st.set j a) l n) : Own st l n := by
  obtain ⟨k, ys, e1, e2⟩ := h
  rcases set_at e1 with ⟨rfl, _⟩ | ⟨_, e⟩
  · exact ⟨j, xs, hj, e2⟩
  · exact ⟨k, ys, e, e2⟩
theorem Fr.put {xs : OV} {a : SA} {o : MO} (h : st[j]? = some (.ow xs)) {n : Nat} (hs : l[j]? = some (some (.r n))) : Fr K st l m (st.set j a) l (m.set n o) :=
  ⟨by simp, fun k o' _ e q => by
    rw [List.getElem?_set_ne (fun z => ?_)]; exact e
    subst z
    exact q ⟨j, xs, h, hs⟩, fun k q => .inl (q.put h)⟩
theorem Pre.set {n : Nat} {o : MO} (h : Pre p m) (hn : p.K ≤ n) : Pre p (m.set n o) := ⟨by rw [List.length_set]; exact h.1, by rw [List.take_set_of_le hn]; exact h.2⟩
end
section
variable {p : Pf} {st : List SA} {a b c : RE} {i j : Nat} {x : PyData} {F : SA → List SA → Prop} {r : List RE}
/-! ### eZ -/
def ZK (F : SA → List SA → Prop) (v : SA) (st : List SA) : Prop := match v with
  | .dat x => F (.dat x) st
  | .ow (.L xs) => F (.dat (.list xs)) st
  | .frz xs => F (.dat (.list xs)) st
  | .al j => match st[j]? with
    | some (.ow (.L xs)) => F (.dat (.list xs)) (st.set j (.frz xs))
    | some (.frz xs) => F (.dat (.list xs)) st
    | some (.dat x) => F (.dat x) st
    | _ => False
  | _ => False
theorem we_z (h : WE p a (ZK F) st) : WE p (eZ a) F st := fun l m hp W => by
  obtain ⟨s, m', v, st', h1, h2, h3, h4, h5, k⟩ := h l m hp W
  cases v with
  | any => exact k.elim
  | dat x =>
    obtain rfl : s = .d x := h4
    exact ⟨.d x, m', .dat x, st', by simp only [eZ_e, h1, Option.bind_some], h2, h3, rfl, h5, k⟩
  | ow oo =>
    cases oo with
    | D kvs => exact k.elim
    | L xs =>
    obtain ⟨n, n1, n2, rfl, z, no⟩ := h4
    have z : m'[n]? = some (.lst (xs.map S.d)) := z
    have hn := lt_of_at z
    have W2 : StOk p.K st' l (m'.set n (.frz xs)) := by
      refine ⟨h3.len, fun i a e => ?_, h3.inj⟩
      have y := h3.sl i a e
      cases a with
      | ow ys =>
        obtain ⟨n', y1, y2, y3⟩ := y
        refine ⟨n', y1, y2, ?_⟩
        rw [List.getElem?_set_ne (fun q => ?_)]; exact y3
        subst q
        exact no ⟨i, ys, e, join_of y2⟩
      | frz ys =>
        obtain ⟨n', y1, y2, y3⟩ := y
        refine ⟨n', y1, y2, ?_⟩
        rw [List.getElem?_set_ne (fun q => ?_)]; exact y3
        subst q
        rw [z] at y3; cases y3
      | any => trivial
      | dat x => exact y
      | ref n => exact y
      | al k => exact y
    refine ⟨.d (.list xs), m'.set n (.frz xs), .dat (.list xs), st', by simp only [eZ_e, h1, Option.bind_some, z, allD_map, Option.map_some], h2.set n1, W2, rfl, ⟨by rw [List.length_set]; exact h5.len, fun n' o hn' e q => ?_, h5.own⟩, k⟩
    rw [List.getElem?_set_ne (fun y => ?_)]
    · exact h5.keep n' o hn' e q
    · subst y
      have := lt_of_at e; omega
  | ref n => exact k.elim
  | frz xs =>
    obtain ⟨n, _, rfl, z⟩ := h4
    exact ⟨.d (.list xs), m', .dat (.list xs), st', by simp only [eZ_e, h1, Option.bind_some, z], h2, h3, rfl, h5, k⟩
  | al j =>
    have hl : l[j]? = some (some s) := h4
    simp only [ZK] at k
    cases q : st'[j]? with
    | none => rw [q] at k; exact k.elim
    | some w =>
      rw [q] at k
      have z := h3.sl _ _ q
      rw [hl] at z
      cases w with
      | any => exact k.elim
      | dat x =>
        cases (show some s = some (.d x) from z)
        exact ⟨.d x, m', .dat x, st', by simp only [eZ_e, h1, Option.bind_some], h2, h3, rfl, h5, k⟩
      | ow oo =>
        cases oo with
        | D kvs => exact k.elim
        | L xs =>
        obtain ⟨n, z1, z2, z3⟩ := z
        have z3 : m'[n]? = some (.lst (xs.map S.d)) := z3
        cases (show some s = some (.r n) from z2)
        refine ⟨.d (.list xs), m'.set n (.frz xs), .dat (.list xs), st'.set j (.frz xs), ?_, h2.set z1, h3.freeze q hl, rfl, h5.trans (Fr.put q hl), k⟩
        simp only [eZ_e, h1, Option.bind_some, z3, allD_map, Option.map_some]
      | frz xs =>
        obtain ⟨n, z1, z2, z3⟩ := z
        cases (show some s = some (.r n) from z2)
        exact ⟨.d (.list xs), m', .dat (.list xs), st', by simp only [eZ_e, h1, Option.bind_some, z3], h2, h3, rfl, h5, k⟩
      | ref n => exact k.elim
      | al j => exact k.elim
/-! ### methods of an owned list -/
theorem isL_own {l : Lo} {m : Mem} {K : Nat} {s : S} {xs : List PyData} (W : StOk K st l m) (h : l[j]? = some (some s)) (q : st[j]? = some (.own xs)) : isL m s = true := by
  obtain ⟨n, h1, rfl, h3, _⟩ := own_of W q h
  simp only [isL, h3]
/-- a method that works on the items of an owned list -/
def Meth (p : Pf) (g : Mem → S → List S → Option (S × Mem)) (M : List SA → List PyData → List SA → (PyData → List PyData → Prop) → Prop) : Prop :=
  ∀ {l : Lo} {m : Mem} {st : List SA} {n b : Nat} {xs : List PyData} {vs : List SA} {ss : List S} {k : PyData → List PyData → Prop}, StOk p.K st l m → VsOk p.K l m st b vs ss → m[n]? = some (.lst (xs.map S.d)) → M vs xs st k →
    ∃ d ys, g m (.r n) ss = some (.d d, m.set n (.lst (ys.map S.d))) ∧ k d ys
theorem we_m {o : RE} {g : Mem → S → List S → Option (S × Mem)} {M : List SA → List PyData → List SA → (PyData → List PyData → Prop) → Prop} (hg : Meth p g M)
    (h : WE p o (fun v s1 => AlK v fun j => OwnAt s1 j fun _ => WA p (rA r) (fun vs s2 => OwnAt s2 j fun xs => M vs xs s2 fun d ys => F (.dat d) (s2.set j (.own ys))) s1) st) : WE p (eM g o r) F st := fun l m hp W => by
  obtain ⟨s, m', v, st', h1, h2, h3, h4, h5, j, rfl, xs, q, hb⟩ := h l m hp W
  obtain ⟨ss, m2, vs, st2, q1, q2, q3, q4, q5, ys, e1, e2⟩ := hb l m' h2 h3
  have hl : l[j]? = some (some s) := h4
  obtain ⟨n, z1, rfl, z3, _⟩ := own_of q3 e1 hl
  obtain ⟨d, zs, e3, k⟩ := hg q3 q4 z3 e2
  exact ⟨.d d, m2.set n (.lst (zs.map S.d)), .dat d, st2.set j (.own zs), by simp only [eM_e, h1, Option.bind_some, isL_own h3 hl q, if_true, q1, e3], q2.set z1, q3.put e1 hl, rfl, (h5.trans q5).trans (Fr.put e1 hl), k⟩
def MApp (vs : List SA) (xs : List PyData) (_ : List SA) (k : PyData → List PyData → Prop) : Prop := ∃ x, vs = [.dat x] ∧ xs.length < lim ∧ k .none (xs ++ [x])
theorem meth_app : Meth p mAppend MApp := by
  intro l m st n b xs vs ss k W hv hm ⟨x, e, hz, hk⟩
  subst e
  have := dats_ok (ds := [x]) hv rfl; subst this
  refine ⟨.none, xs ++ [x], ?_, hk⟩
  simp [mAppend, hm, hz]
def MExt (vs : List SA) (xs : List PyData) (st : List SA) (k : PyData → List PyData → Prop) : Prop := ∃ v ys, vs = [v] ∧ datOf st v = some (.list ys) ∧ xs.length + ys.length ≤ lim ∧ k .none (xs ++ ys)
theorem meth_ext : Meth p mExtend MExt := by
  intro l m st n b xs vs ss k W hv hm ⟨v, ys, e, hd, hz, hk⟩
  subst e
  cases hv with
  | cons h _ _ r =>
    cases r
    refine ⟨.none, xs ++ ys, ?_, hk⟩
    simp [mExtend, hm, deref_ok W h hd, hz]
def MPop (vs : List SA) (xs : List PyData) (_ : List SA) (k : PyData → List PyData → Prop) : Prop := ∃ ys x, vs = [] ∧ xs = ys ++ [x] ∧ k x ys
theorem meth_pop : Meth p mPop MPop := by
  intro l m st n b xs vs ss k W hv hm ⟨ys, x, e, e2, hk⟩
  subst e e2
  cases hv
  refine ⟨x, ys, ?_, hk⟩
  simp [mPop, hm]
def MPopAt (vs : List SA) (xs : List PyData) (_ : List SA) (k : PyData → List PyData → Prop) : Prop := ∃ (i : Int) (j : Nat) (x : PyData), vs = [.dat (.int i)] ∧ -lim ≤ i ∧ i ≤ lim ∧ ixN xs.length i = some j ∧ xs[j]? = some x ∧ k x (xs.eraseIdx j)
theorem eraseIdx_map {α β : Type} (f : α → β) : ∀ (xs : List α) (j : Nat), (xs.map f).eraseIdx j = (xs.eraseIdx j).map f
  | [], _ => by simp
  | x :: xs, 0 => rfl
  | x :: xs, j + 1 => by simp [eraseIdx_map f xs j]
theorem meth_popAt : Meth p mPopAt MPopAt := by
  intro l m st n b xs vs ss k W hv hm ⟨i, j, x, e, h1, h2, h3, h4, hk⟩
  subst e
  have := dats_ok (ds := [.int i]) hv rfl; subst this
  refine ⟨x, xs.eraseIdx j, ?_, hk⟩
  simp only [List.map_cons, List.map_nil, mPopAt, hm]
  rw [if_pos ⟨h1, h2⟩, List.length_map, h3]
  simp only [Option.bind_some, List.getElem?_map, h4, Option.map_some, eraseIdx_map]
/-! ### targets -/
variable {Gt : List SA → Prop} {g : Tg} {gs : List Tg}
theorem wg_n (h : Gt (st.set i (.dat x))) : WG p (gN i) x Gt st := fun l m W =>
  ⟨l.set i (some (.d x)), st.set i (.dat x), rfl, W.set (b := 0) (v := .dat x) rfl (by simp), Fr.set Fr.refl W rfl, fun k zs e => by
    rcases set_at e with ⟨_, q⟩ | ⟨_, q⟩
    · cases q
    · exact q, h⟩
theorem wg_t {ds : List PyData} (h : WGs p gs ds Gt st) : WG p (gT gs) (.tuple ds) Gt st := fun l m W => h l m W
theorem wgs_nil (h : Gt st) : WGs p [] [] Gt st := fun l m W => ⟨l, st, rfl, W, Fr.refl, fun _ _ e => e, h⟩
theorem wgs_cons {ds : List PyData} (h : WG p g x (WGs p gs ds Gt) st) : WGs p (g :: gs) (x :: ds) Gt st := fun l m W => by
  obtain ⟨l1, st1, h1, h2, h3, h0, h4⟩ := h l m W
  obtain ⟨l2, st2, q1, q2, q3, q0, q4⟩ := h4 l1 m h2
  exact ⟨l2, st2, by simp only [gAll, h1, Option.bind_some, q1], q2, h3.trans q3, fun i zs e => h0 i zs (q0 i zs e), q4⟩
/-! ### what is walked -/
variable {It : List PyData → List SA → Prop}
theorem wi_d (h : WE p a (ZK fun v s1 => ItemsK v fun xs => It xs s1) st) : WI p (iD a) It st := fun l m hp W => by
  obtain ⟨s, m', v, st', h1, h2, h3, h4, h5, d, xs, rfl, e, k⟩ := we_z h l m hp W
  obtain rfl : s = .d d := h4
  exact ⟨xs, m', st', by unfold iD; rw [h1]; simp only [Option.bind_some, e, Option.map_some], h2, h3, h5, k⟩
theorem wi_range (h : WE p a (fun v s1 => IntK v fun j => RgK j (It (upto j.toNat) s1)) st) : WI p (iRange a) It st := fun l m hp W => by
  obtain ⟨s, m', v, st', h1, h2, h3, h4, h5, j, rfl, e1, e2, k⟩ := h l m hp W
  obtain rfl : s = .d (.int j) := h4
  exact ⟨_, m', st', by simp only [iRange_e, h1, Option.bind_some, if_pos (And.intro e1 e2)], h2, h3, h5, k⟩
theorem wi_range2 (h : WE p a (fun v s1 => IntK v fun i => WE p b (fun w s2 => IntK w fun j => RgK i (RgK j (It (fromTo i (j - i).toNat) s2))) s1) st) : WI p (iRange2 a b) It st := fun l m hp W => by
  obtain ⟨s, m', v, st', h1, h2, h3, h4, h5, i, rfl, hb⟩ := h l m hp W
  obtain rfl : s = .d (.int i) := h4
  obtain ⟨s2, m2, w, st2, q1, q2, q3, q4, q5, j, rfl, e1, e3, e4, e2, k⟩ := hb l m' h2 h3
  obtain rfl : s2 = .d (.int j) := q4
  exact ⟨_, m2, st2, by simp only [iRange2, h1, q1, Option.bind_some, if_pos (And.intro e1 (And.intro e2 (And.intro e3 e4)))], q2, q3, h5.trans q5, k⟩
theorem wi_zip (h : WE p a (ZK fun v s1 => ItemsK v fun xs => WE p b (ZK fun w s2 => ItemsK w fun ys => It (pairs xs ys) s2) s1) st) : WI p (iZip a b) It st := fun l m hp W => by
  obtain ⟨s, m', v, st', h1, h2, h3, h4, h5, d, xs, rfl, e1, hb⟩ := we_z h l m hp W
  obtain rfl : s = .d d := h4
  obtain ⟨s2, m2, w, st2, q1, q2, q3, q4, q5, e, ys, rfl, e2, k⟩ := we_z hb l m' h2 h3
  obtain rfl : s2 = .d e := q4
  exact ⟨_, m2, st2, by unfold iZip; simp only [h1, q1, Option.bind_some, e1, e2, Option.map_some], q2, q3, h5.trans q5, k⟩
theorem wi_enum (h : WE p a (ZK fun v s1 => ItemsK v fun xs => It (pairs (upto xs.length) xs) s1) st) : WI p (iEnum a) It st := fun l m hp W => by
  obtain ⟨s, m', v, st', h1, h2, h3, h4, h5, d, xs, rfl, e, k⟩ := we_z h l m hp W
  obtain rfl : s = .d d := h4
  exact ⟨_, m', st', by unfold iEnum; rw [h1]; simp only [Option.bind_some, e, Option.map_some], h2, h3, h5, k⟩
theorem wi_rev (h : WE p a (ZK fun v s1 => ItemsK v fun xs => It xs.reverse s1) st) : WI p (iRev a) It st := fun l m hp W => by
  obtain ⟨s, m', v, st', h1, h2, h3, h4, h5, d, xs, rfl, e, k⟩ := we_z h l m hp W
  obtain rfl : s = .d d := h4
  exact ⟨_, m', st', by unfold iRev; rw [h1]; simp only [Option.bind_some, e, Option.map_some, List.map_reverse], h2, h3, h5, k⟩
theorem we_li {it : RI} (h : WI p it (fun xs s1 => F (.dat (.list xs)) s1) st) : WE p (eLi it) F st := fun l m hp W => by
  obtain ⟨xs, m', st', h1, h2, h3, h5, k⟩ := h l m hp W
  exact ⟨.d _, m', .dat _, st', by simp only [eLi_e, h1, Option.bind_some, allD_map, Option.map_some], h2, h3, rfl, h5, k⟩
end
end Fz

set_option linter.all false
set_option autoImplicit false
set_option maxRecDepth 100000
/-! FzY: calls that work on the caller's objects, comprehensions, statements, loops, defs, by value. -/
namespace Fz
open PySem PyProof.Rows
open L2 (ixN atI)
section
variable {p : Pf} {st : List SA} {a b c : RE} {i j : Nat} {x : PyData} {F : SA → List SA → Prop} {r : List RE}
theorem we_rg {tup : Bool} (h : WE p a (fun v s1 => IntK v fun j => RgK j (F (.dat (if tup = true then .tuple (upto j.toNat) else .list (upto j.toNat))) s1)) st) : WE p (eRg tup a) F st := fun l m hp W => by
  obtain ⟨s, m', v, st', h1, h2, h3, h4, h5, j, rfl, e1, e2, k⟩ := h l m hp W
  obtain rfl : s = .d (.int j) := h4
  have hr : rgIn j := ⟨e1, e2⟩
  exact ⟨.d _, m', .dat _, st', by simp only [eRg, h1, Option.bind_some, if_pos hr], h2, h3, rfl, h5, k⟩
theorem we_rgM (h : WE p a (fun v s1 => IntK v fun j => RgK j (F (.own (upto j.toNat)) s1)) st) : WE p (eRgM a) F st := fun l m hp W => by
  obtain ⟨s, m', v, st', h1, h2, h3, h4, h5, j, rfl, e1, e2, k⟩ := h l m hp W
  obtain rfl : s = .d (.int j) := h4
  have hr : rgIn j := ⟨e1, e2⟩
  obtain ⟨n1, n2, n3, n4⟩ := new_own h2 h3 (upto j.toNat)
  exact ⟨_, _, _, st', by simp only [eRgM, h1, Option.bind_some, if_pos hr], n1, n2, n3.low h5.len, h5.trans n4, k⟩
theorem we_rg2 (h : WE p a (fun v s1 => IntK v fun i => WE p b (fun w s2 => IntK w fun j => RgK i (RgK j (F (.dat (.list (fromTo i (j - i).toNat))) s2))) s1) st) : WE p (eRg2 a b) F st := fun l m hp W => by
  obtain ⟨s, m', v, st', h1, h2, h3, h4, h5, i, rfl, hb⟩ := h l m hp W
  obtain rfl : s = .d (.int i) := h4
  obtain ⟨s2, m2, w, st2, q1, q2, q3, q4, q5, j, rfl, e1, e3, e4, e2, k⟩ := hb l m' h2 h3
  obtain rfl : s2 = .d (.int j) := q4
  have hr : rgIn i ∧ rgIn j := ⟨⟨e1, e3⟩, e4, e2⟩
  exact ⟨.d _, m2, .dat _, st2, by simp only [eRg2, h1, q1, Option.bind_some, if_pos hr], q2, q3, rfl, h5.trans q5, k⟩
/-! ### calls that work on what stands ahead -/
/-- F, whatever else lies in the memory, gives a value with Q -/
def RvOk (K b : Nat) (m : Mem) : SA → S → Prop
  | .dat x, s => s = .d x
  | .ow xs, s => ∃ n, K ≤ n ∧ b ≤ n ∧ s = .r n ∧ m[n]? = some xs.mo
  | .frz xs, s => ∃ n, K ≤ n ∧ s = .r n ∧ m[n]? = some (.frz xs)
  | _, _ => False
def IW (p : Pf) (F : IF) (ss : List S) (Q : SA → Prop) : Prop := ∀ (D g : Mem), p.ok D → D.length = p.K → ∃ s D' x v, F ss (D ++ g) = some (s, D' ++ (g ++ x)) ∧ p.ok D' ∧ D'.length = p.K ∧ RvOk p.K (D ++ g).length (D' ++ (g ++ x)) v s ∧ Q v
theorem IW.imp {f : IF} {ss : List S} {Q R : SA → Prop} (h : IW p f ss Q) (i : ∀ r, Q r → R r) : IW p f ss R := fun D g h1 h2 => by
  obtain ⟨s, D', x, v, e1, e2, e3, e4, e5⟩ := h D g h1 h2
  exact ⟨s, D', x, v, e1, e2, e3, e4, i v e5⟩
def toSs : List SA → Option (List S)
  | [] => some []
  | .dat x :: vs => (toSs vs).map (.d x :: ·)
  | .ref n :: vs => (toSs vs).map (.r n :: ·)
  | _ :: _ => none
theorem toSs_ok {K l m st} : ∀ {b vs ss ss'}, VsOk K l m st b vs ss → toSs vs = some ss' → ss = ss'
  | _, _, _, _, .nil, e => by cases e; rfl
  | _, v :: vs, _, _, .cons h _ _ r, e => by
    cases v <;> simp only [toSs, Option.map_eq_some_iff, reduceCtorEq] at e
    · obtain ⟨es, e2, rfl⟩ := e
      rw [toSs_ok r e2]
      cases (show _ = S.d _ from h); rfl
    · obtain ⟨es, e2, rfl⟩ := e
      rw [toSs_ok r e2]
      cases (show _ ∧ _ = S.r _ from h).2; rfl
theorem pre_split {m : Mem} (h : Pre p m) : ∃ D g, m = D ++ g ∧ D.length = p.K ∧ p.ok D := ⟨m.take p.K, m.drop p.K, (List.take_append_drop _ _).symm, by rw [List.length_take]; exact Nat.min_eq_left h.1, h.2⟩
theorem pre_join {D g : Mem} (h : p.ok D) (hl : D.length = p.K) : Pre p (D ++ g) := ⟨by rw [List.length_append]; omega, by rw [← hl, List.take_left]; exact h⟩
theorem app_at {D D' g x : Mem} {K n : Nat} {o : MO} (h1 : D.length = K) (h2 : D'.length = K) (hn : K ≤ n) (h : (D ++ g)[n]? = some o) : (D' ++ (g ++ x))[n]? = some o := by
  rw [List.getElem?_append_right (by omega)] at h ⊢
  rw [h1] at h; rw [h2]
  exact at_old x h
theorem we_i {f : IF} (h : WA p (rA r) (fun vs s1 => GetV (toSs vs) fun ss => IW p f ss fun v => F v s1) st) : WE p (eI f (rA r)) F st := fun l m hp W => by
  obtain ⟨ss, m', vs, st', h1, h2, h3, h4, h5, ss', e1, k⟩ := h l m hp W
  have := toSs_ok h4 e1; subst this
  obtain ⟨D, g, rfl, hD, hk⟩ := pre_split h2
  obtain ⟨y, D', z, v, q1, q2, q3, q5, q4⟩ := k D g hk hD
  have keep : ∀ n o, p.K ≤ n → (D ++ g)[n]? = some o → (D' ++ (g ++ z))[n]? = some o := fun n o hn q => app_at hD q3 hn q
  have W' : StOk p.K st' l (D' ++ (g ++ z)) := by
    refine ⟨h3.len, fun i a e => ?_, h3.inj⟩
    have z := h3.sl i a e
    cases a with
    | ow xs => obtain ⟨n, z1, z2, z3⟩ := z; exact ⟨n, z1, z2, keep n _ z1 z3⟩
    | frz xs => obtain ⟨n, z1, z2, z3⟩ := z; exact ⟨n, z1, z2, keep n _ z1 z3⟩
    | any => trivial
    | dat x => exact z
    | ref n => exact z
    | al k => exact z
  have hv : VOk p.K l (D' ++ (g ++ z)) st' m.length v y := by
    cases v with
    | dat x => exact q5
    | ow xs =>
      obtain ⟨n, z1, z2, z3, z4⟩ := q5
      exact ⟨n, z1, Nat.le_trans h5.len z2, z3, z4, fun o => by have := h3.ownLt o; omega⟩
    | frz xs => exact q5
    | any => exact q5
    | ref n => exact q5.elim
    | al k => exact q5.elim
  refine ⟨y, D' ++ (g ++ z), v, st', by simp only [eI_e, h1, Option.bind_some, q1], pre_join q2 q3, W', hv, h5.trans ⟨?_, fun n o hn q _ => keep n o hn q, fun n q => .inl q⟩, q4⟩
  simp only [List.length_append]; omega
/-! ### comprehensions -/
def wipeA (st : List SA) : List Nat → List SA
  | [] => st
  | v :: vs => (wipeA st vs).set v .any
/-- a target sets these slots alone -/
def TgIn (g : Tg) (vs : List Nat) : Prop := ∀ x l l1, g x l = some l1 → ∀ i, i ∉ vs → l1[i]? = l[i]?
theorem tgin_n {v : Nat} {vs : List Nat} (h : v ∈ vs := by decide) : TgIn (gN v) vs := fun x l l1 e i hi => by
  cases e
  have q : v ≠ i := fun q => hi (by rw [← q]; exact h)
  rw [List.getElem?_set_ne q]
theorem tgin_all {vs : List Nat} : ∀ {gs : List Tg}, (∀ g, g ∈ gs → TgIn g vs) → ∀ ds l l1, gAll gs ds l = some l1 → ∀ i, i ∉ vs → l1[i]? = l[i]?
  | [], _, [], l, l1, e, i, hi => by cases e; rfl
  | [], _, _ :: _, _, _, e, _, _ => by cases e
  | _ :: _, _, [], _, _, e, _, _ => by cases e
  | g :: gs, h, d :: ds, l, l1, e, i, hi => by
    simp only [gAll, Option.bind_eq_some_iff] at e
    obtain ⟨l2, e1, e2⟩ := e
    rw [tgin_all (gs := gs) (fun g hg => h g (List.mem_cons_of_mem _ hg)) ds l2 l1 e2 i hi, h g (List.mem_cons_self ..) _ l l2 e1 i hi]
theorem tgin_t {vs : List Nat} {gs : List Tg} (h : ∀ g, g ∈ gs → TgIn g vs) : TgIn (gT gs) vs := fun x l l1 e i hi => by
  match x, e with
  | .d (.tuple ds), e => exact tgin_all h ds l l1 e i hi
def WLc (p : Pf) (vs : List Nat) (g : Tg) (t : RT) (e : RE) (F : List PyData → List SA → Prop) (xs : List PyData) (st : List SA) : Prop := ∀ l m, Pre p m → StOk p.K st l m →
  ∃ ds m', lcGo vs g t e (xs.map S.d) l m = some (ds.map S.d, m') ∧ Pre p m' ∧ StOk p.K st l m' ∧ Fr p.K st l m st l m' ∧ F ds st
theorem wipeA_len : ∀ {vs : List Nat}, (wipeA st vs).length = st.length
  | [] => rfl
  | v :: vs => by unfold wipeA; rw [List.length_set, wipeA_len]
theorem wipe_len {l : Lo} : ∀ {vs : List Nat}, (Fz.wipe l vs).length = l.length
  | [] => rfl
  | v :: vs => by unfold Fz.wipe; rw [List.length_set, wipe_len]
theorem wipeA_at {i : Nat} {a : SA} : ∀ {vs : List Nat}, (wipeA st vs)[i]? = some a → (a = .any ∨ (i ∉ vs ∧ st[i]? = some a))
  | [], h => .inr ⟨by simp, h⟩
  | v :: vs, h => by
    unfold wipeA at h
    rcases set_at h with ⟨_, e⟩ | ⟨hn, e⟩
    · exact .inl e
    · rcases wipeA_at e with q | ⟨q1, q2⟩
      · exact .inl q
      · exact .inr ⟨by simp [q1]; exact fun z => hn z.symm, q2⟩
theorem wipe_at {i : Nat} {l : Lo} : ∀ {vs : List Nat}, i ∉ vs → (Fz.wipe l vs)[i]? = l[i]?
  | [], _ => rfl
  | v :: vs, h => by
    unfold Fz.wipe
    rw [List.getElem?_set_ne (fun e => h (by simp [e])), wipe_at (fun q => h (by simp [q]))]
theorem StOk.wipe {K l m} (W : StOk K st l m) {vs : List Nat} : StOk K (wipeA st vs) (Fz.wipe l vs) m := by
  refine ⟨by rw [wipe_len, wipeA_len, W.len], fun i a e => ?_, fun i j xs ys n e1 e2 e3 e4 => ?_⟩
  · rcases wipeA_at e with rfl | ⟨q1, q2⟩
    · trivial
    · rw [wipe_at q1]; exact W.sl i a q2
  · rcases wipeA_at e1 with q | ⟨q1, q2⟩
    · cases q
    · rcases wipeA_at e2 with q | ⟨q3, q4⟩
      · cases q
      · rw [wipe_at q1] at e3; rw [wipe_at q3] at e4
        exact W.inj i j xs ys n q2 q4 e3 e4
theorem Own.wipe {l : Lo} {vs : List Nat} {n : Nat} (h : Own (wipeA st vs) (Fz.wipe l vs) n) : Own st l n := by
  obtain ⟨i, xs, e1, e2⟩ := h
  rcases wipeA_at e1 with q | ⟨q1, q2⟩
  · cases q
  · rw [wipe_at q1] at e2; exact ⟨i, xs, q2, e2⟩
theorem wl_nil {vs : List Nat} {g : Tg} {t : RT} {e : RE} {F : List PyData → List SA → Prop} (h : F [] st) : WLc p vs g t e F [] st := fun l m hp W => ⟨[], m, rfl, hp, W, Fr.refl, h⟩
/-- the states of a comprehension's turn change nothing that lasts -/
def LcT (p : Pf) (vs : List Nat) (g : Tg) (t : RT) (e : RE) (x : PyData) (st : List SA) (F : Option PyData → Prop) : Prop :=
  WG p g x (fun s1 => WT p t (fun c s2 => s2 = s1 ∧ CondK c (WE p e (fun v s3 => s3 = s1 ∧ DatK v fun d => F (some d)) s1) (F none)) s1) (wipeA st vs)
theorem wl_cons {vs : List Nat} {g : Tg} {t : RT} {e : RE} {F : List PyData → List SA → Prop} {xs : List PyData} (hs : TgIn g vs)
    (h : LcT p vs g t e x st (fun o => match o with | some d => WLc p vs g t e (fun ds s => F (d :: ds) s) xs st | none => WLc p vs g t e F xs st)) : WLc p vs g t e F (x :: xs) st := fun l m hp W => by
  have W0 := W.wipe (vs := vs)
  obtain ⟨l1, s1, h1, h2, h3, hN, hT⟩ := h _ m W0
  have hsl : ∀ i, i ∉ vs → l1[i]? = l[i]? := fun i hi => (hs _ _ l1 h1 i hi).trans (wipe_at hi)
  have hO : ∀ (i : Nat) (zs : OV), s1[i]? = some (.ow zs) → st[i]? = some (.ow zs) ∧ i ∉ vs := fun i zs e => by
    rcases wipeA_at (hN i zs e) with q | ⟨q1, q2⟩
    · cases q
    · exact ⟨q2, q1⟩
  -- what a turn leaves
  have back : ∀ m', Pre p m' → StOk p.K s1 l1 m' → Fr p.K s1 l1 m s1 l1 m' → StOk p.K st l m' ∧ Fr p.K st l m st l m' := fun m' hp' W1 f => by
    have own1 : ∀ n, Own s1 l1 n → Own st l n := fun n ⟨i, zs, e1, e2⟩ => by
      obtain ⟨q1, q2⟩ := hO i zs e1
      exact ⟨i, zs, q1, by rw [← hsl i q2]; exact e2⟩
    refine ⟨⟨W.len, fun i a q => ?_, W.inj⟩, ⟨f.len, fun n o hn q z => f.keep n o hn q fun y => z (own1 n y), fun n q => .inl q⟩⟩
    have z := W.sl i a q
    cases a with
    | any => trivial
    | dat x => exact z
    | ref n => exact z
    | al k => exact z
    | frz ys => obtain ⟨n, z1, z2, z3⟩ := z; exact ⟨n, z1, z2, f.keep n _ z1 z3 (h2.notFrz z3)⟩
    | ow ys =>
      obtain ⟨n, z1, z2, z3⟩ := z
      by_cases ho : Own s1 l1 n
      · obtain ⟨j, zs, e1, e2⟩ := ho
        obtain ⟨q1, q2⟩ := hO j zs e1
        have ej := W.inj i j ys zs n q q1 (join_of z2) (by rw [← hsl j q2]; exact e2)
        subst ej
        rw [q] at q1
        cases q1
        obtain ⟨n', y1, y2, y3⟩ := W1.sl i _ e1
        rw [e2] at y2
        cases y2
        exact ⟨n, z1, z2, y3⟩
      · exact ⟨n, z1, z2, f.keep n _ z1 z3 ho⟩
  obtain ⟨cb, m1, s2, t1, t2, t3, t4, rfl, k1, k0⟩ := hT l1 m hp h2
  cases cb with
  | false =>
    obtain ⟨B1, B2⟩ := back m1 t2 t3 t4
    obtain ⟨ds, m2, y1, y2, y3, y4, y5⟩ := k0 rfl l m1 t2 B1
    exact ⟨ds, m2, by simp only [List.map_cons, lcGo, h1, t1, Option.bind_some, Bool.false_eq_true, if_false, y1], y2, y3, B2.trans y4, y5⟩
  | true =>
    obtain ⟨s, m2, v, s3, e1, e2, e3, e4, e5, rfl, d, rfl, k⟩ := k1 rfl l1 m1 t2 t3
    obtain rfl : s = .d d := e4
    obtain ⟨B1, B2⟩ := back m2 e2 e3 (t4.trans e5)
    obtain ⟨ds, m3, y1, y2, y3, y4, y5⟩ := k l m2 e2 B1
    exact ⟨d :: ds, m3, by simp only [List.map_cons, lcGo, h1, t1, Option.bind_some, if_true, e1, y1, Option.map_some], y2, y3, B2.trans y4, y5⟩
inductive Sel {α : Type} (P : α → Option PyData → Prop) : List α → List PyData → Prop
  | nil : Sel P [] []
  | no {x xs ds} : P x none → Sel P xs ds → Sel P (x :: xs) ds
  | yes {x xs d ds} : P x (some d) → Sel P xs ds → Sel P (x :: xs) (d :: ds)
variable {α : Type} {vs : List Nat} {g : Tg} {t : RT} {e : RE} {Fl : List PyData → List SA → Prop}
theorem wl_rel (enc : α → PyData) (P : α → Option PyData → Prop) (hs : TgIn g vs) : ∀ {ys : List α} {Fl : List PyData → List SA → Prop}, (∀ y, y ∈ ys → LcT p vs g t e (enc y) st (P y)) → (∀ ds, Sel P ys ds → Fl ds st) → WLc p vs g t e Fl (ys.map enc) st
  | [], Fl, _, h => wl_nil (h [] .nil)
  | y :: ys, Fl, hy, h => by
    refine wl_cons hs ?_
    have h1 := hy y (List.mem_cons_self ..)
    have ih : ∀ {Fl : List PyData → List SA → Prop}, (∀ ds, Sel P ys ds → Fl ds st) → WLc p vs g t e Fl (ys.map enc) st := fun h => wl_rel enc P hs (fun z hz => hy z (List.mem_cons_of_mem _ hz)) h
    intro l m W
    obtain ⟨l1, s1, a1, a2, a3, a4, a5⟩ := h1 l m W
    refine ⟨l1, s1, a1, a2, a3, a4, fun l m hp W => ?_⟩
    obtain ⟨c, m', s2, b1, b2, b3, b4, b5, b6, b7⟩ := a5 l m hp W
    refine ⟨c, m', s2, b1, b2, b3, b4, b5, fun hc => ?_, fun hc => ?_⟩
    · refine (b6 hc).imp fun v s3 ⟨c1, d, c2, c3⟩ => ⟨c1, d, c2, ?_⟩
      exact ih fun ds q => h _ (.yes c3 q)
    · exact ih fun ds q => h _ (.no (b7 hc) q)
theorem Sel.map {f : α → PyData} : ∀ {ys : List α} {ds : List PyData}, Sel (fun y o => o = some (f y)) ys ds → ds = ys.map f
  | _, _, .nil => rfl
  | _, _, .no h _ => by cases h
  | _, _, .yes h r => by cases h; rw [List.map_cons, ← Sel.map r]
theorem Sel.filter {q : α → Bool} {f : α → PyData} : ∀ {ys : List α} {ds : List PyData}, Sel (fun y o => o = if q y = true then some (f y) else none) ys ds → ds = (ys.filter q).map f
  | _, _, .nil => rfl
  | _, _, .no (x := x) h r => by
    cases z : q x with
    | true => rw [z] at h; cases h
    | false => rw [List.filter_cons, z]; exact Sel.filter r
  | _, _, .yes (x := x) h r => by
    cases z : q x with
    | false => rw [z] at h; cases h
    | true => rw [z] at h; cases h; rw [List.filter_cons, z]; simp only [if_true, List.map_cons, ← Sel.filter r]
theorem wl_map (enc : α → PyData) (f : α → PyData) (hs : TgIn g vs) {ys : List α} (hy : ∀ y, y ∈ ys → LcT p vs g t e (enc y) st (fun o => o = some (f y))) (h : Fl (ys.map f) st) : WLc p vs g t e Fl (ys.map enc) st :=
  wl_rel enc _ hs hy fun ds q => by rw [q.map]; exact h
theorem wl_filter (enc : α → PyData) (q : α → Bool) (f : α → PyData) (hs : TgIn g vs) {ys : List α} (hy : ∀ y, y ∈ ys → LcT p vs g t e (enc y) st (fun o => o = if q y = true then some (f y) else none)) (h : Fl ((ys.filter q).map f) st) : WLc p vs g t e Fl (ys.map enc) st :=
  wl_rel enc _ hs hy fun ds q => by rw [q.filter]; exact h
/-- each item has P -/
theorem wl_all (enc : α → PyData) (P : α → PyData → Prop) (hs : TgIn g vs) {ys : List α} (hy : ∀ y, y ∈ ys → LcT p vs g t e (enc y) st (fun o => ∃ d, o = some d ∧ P y d)) (h : ∀ ds, Paired P ys ds → Fl ds st) : WLc p vs g t e Fl (ys.map enc) st :=
  wl_rel enc _ hs hy fun ds q => h ds (by
    clear h hy
    induction q with
    | nil => exact .nil
    | no h _ _ => obtain ⟨d, e, _⟩ := h; cases e
    | yes h _ ih => obtain ⟨d, e, hd⟩ := h; cases e; exact .cons hd ih)
theorem we_lc {it : RI} (h : WI p it (fun xs s1 => WLc p vs g t e (fun ds s => F (.dat (.list ds)) s) xs s1) st) : WE p (eLc vs it g t e) F st := fun l m hp W => by
  obtain ⟨xs, m', st', h1, h2, h3, h5, k⟩ := h l m hp W
  obtain ⟨ds, m2, q1, q2, q3, q4, q5⟩ := k l m' h2 h3
  exact ⟨.d _, m2, .dat _, st', by simp only [eLc_e, h1, q1, Option.bind_some, allD_map, Option.map_some], q2, q3, rfl, h5.trans q4, q5⟩
theorem we_lcM {it : RI} (h : WI p it (fun xs s1 => WLc p vs g t e (fun ds s => F (.own ds) s) xs s1) st) : WE p (eLcM vs it g t e) F st := fun l m hp W => by
  obtain ⟨xs, m', st', h1, h2, h3, h5, k⟩ := h l m hp W
  obtain ⟨ds, m2, q1, q2, q3, q4, q5⟩ := k l m' h2 h3
  obtain ⟨n1, n2, n3, n4⟩ := new_own q2 q3 ds
  exact ⟨_, _, _, st', by simp only [eLcM_e, h1, q1, Option.bind_some, Option.map_some], n1, n2, n3.low (h5.trans q4).len, (h5.trans q4).trans n4, q5⟩
end
end Fz

set_option linter.all false
set_option autoImplicit false
set_option maxRecDepth 100000
/-! FzZ: statements, loops, defs, by value. -/
namespace Fz
open PySem PyProof.Rows
open L2 (ixN atI)
section
variable {p : Pf} {st : List SA} {a b c : RE} {i j : Nat} {x : PyData} {F : Out → Prop} {r : List RE} {s s2 : RS}
theorem WS.imp {F G : Out → Prop} (h : WS p s F st) (i : ∀ o, F o → G o) : WS p s G st := fun l m hp W => by
  obtain ⟨c, l', m', o, h1, h2, h3, h4⟩ := h l m hp W
  exact ⟨c, l', m', o, h1, h2, h3, i _ h4⟩
theorem ws_weak {st' : List SA} (hw : Wk st st') (h : WS p s F st') : WS p s F st := fun l m hp W => by
  obtain ⟨c, l', m', o, h1, h2, h3, h4⟩ := h l m hp (W.weak hw)
  exact ⟨c, l', m', o, h1, h2, h3.after (Fr.weak hw), h4⟩
theorem ws_skip (h : F (.nx st)) : WS p sSkip F st := fun l m hp W => ⟨.nx, l, m, .nx st, rfl, hp, ⟨rfl, W, Fr.refl⟩, h⟩
theorem ws_brk (h : F (.bk st)) : WS p sBrk F st := fun l m hp W => ⟨.bk, l, m, .bk st, rfl, hp, ⟨rfl, W, Fr.refl⟩, h⟩
theorem ws_cnt (h : F (.ct st)) : WS p sCnt F st := fun l m hp W => ⟨.ct, l, m, .ct st, rfl, hp, ⟨rfl, W, Fr.refl⟩, h⟩
/-- what follows a statement that goes on -/
def SeqK (p : Pf) (s : RS) (F : Out → Prop) : Out → Prop
  | .nx st => WS p s F st
  | .bk st => F (.bk st)
  | .ct st => F (.ct st)
  | .rt v => F (.rt v)
theorem ws_seq (h : WS p s (SeqK p s2 F) st) : WS p (sSeq s s2) F st := fun l m hp W => by
  obtain ⟨c, l', m', o, h1, h2, h3, h4⟩ := h l m hp W
  cases o with
  | nx st' =>
    obtain ⟨rfl, W', f⟩ := h3
    obtain ⟨c2, l2, m2, o2, q1, q2, q3, q4⟩ := h4 l' m' h2 W'
    exact ⟨c2, l2, m2, o2, by simp only [sSeq_e, h1, Option.bind_some, q1], q2, q3.after f, q4⟩
  | bk st' => obtain ⟨rfl, W', f⟩ := h3; exact ⟨.bk, l', m', .bk st', by simp only [sSeq_e, h1, Option.bind_some], h2, ⟨rfl, W', f⟩, h4⟩
  | ct st' => obtain ⟨rfl, W', f⟩ := h3; exact ⟨.ct, l', m', .ct st', by simp only [sSeq_e, h1, Option.bind_some], h2, ⟨rfl, W', f⟩, h4⟩
  | rt v => obtain ⟨z, rfl, q⟩ := h3; exact ⟨.rt z, l', m', .rt v, by simp only [sSeq_e, h1, Option.bind_some], h2, ⟨z, rfl, q⟩, h4⟩
/-- a value into the slot i -/
def SetK (i : Nat) (v : SA) (st : List SA) (k : List SA → Prop) : Prop := match v with
  | .dat x => k (st.set i (.dat x))
  | .ow xs => k (st.set i (.ow xs))
  | .frz xs => k (st.set i (.frz xs))
  | .ref n => k (st.set i (.ref n))
  | .al j => match st[j]? with
    | some (.ow xs) => k ((st.set j .any).set i (.ow xs))
    | some (.frz xs) => k (st.set i (.frz xs))
    | some (.dat x) => k (st.set i (.dat x))
    | _ => False
  | .any => False
theorem setk_ok {K : Nat} {st0 l0 m0} {l : Lo} {m : Mem} {v : SA} {z : S} {k : List SA → Prop} (W : StOk K st l m) (f : Fr K st0 l0 m0 st l m) (h : VOk K l m st m0.length v z) (hk : SetK i v st k) :
    ∃ st', StOk K st' (l.set i (some z)) m ∧ Fr K st0 l0 m0 st' (l.set i (some z)) m ∧ k st' := by
  cases v with
  | any => exact h.elim
  | dat x => exact ⟨_, W.set h (by simp), f.set W h, hk⟩
  | ow xs => exact ⟨_, W.set h (by simp), f.set W h, hk⟩
  | frz xs => exact ⟨_, W.set h (by simp), f.set W h, hk⟩
  | ref n => exact ⟨_, W.set h (by simp), f.set W h, hk⟩
  | al j =>
    have hl : l[j]? = some (some z) := h
    simp only [SetK] at hk
    cases q : st[j]? with
    | none => rw [q] at hk; exact hk.elim
    | some w =>
      rw [q] at hk
      have y := W.sl _ _ q
      rw [hl] at y
      cases w with
      | any => exact hk.elim
      | dat x =>
        have y : z = .d x := Option.some.inj y
        exact ⟨_, W.set (b := m0.length) (v := .dat x) y (by simp), f.set W (v := .dat x) y, hk⟩
      | frz xs =>
        obtain ⟨n, y1, y2, y3⟩ := y
        have y2 : z = .r n := Option.some.inj y2
        exact ⟨_, W.set (b := m0.length) (v := .frz xs) ⟨n, y1, y2, y3⟩ (by simp), f.set W (v := .frz xs) ⟨n, y1, y2, y3⟩, hk⟩
      | ref n => exact hk.elim
      | al k => exact hk.elim
      | ow xs =>
        obtain ⟨n, y1, rfl, y3, y4⟩ := ow_of W q hl
        have W1 : StOk K (st.set j .any) l m := W.weak wk_any
        have V : VOk K l m (st.set j .any) 0 (.ow xs) (.r n) := ⟨n, y1, Nat.zero_le _, rfl, y3, y4⟩
        refine ⟨_, W1.set V (by simp), ⟨f.len, f.keep, fun n' o => ?_⟩, hk⟩
        rcases Own.set o W1.len with o | ⟨_, e⟩
        · exact f.own n' (wk_any.own o)
        · cases e; exact f.own _ ⟨j, xs, q, hl⟩
theorem ws_set (h : WE p a (fun v s1 => SetK i v s1 fun s2 => F (.nx s2)) st) : WS p (sSet i a) F st := fun l m hp W => by
  obtain ⟨s, m', v, st', h1, h2, h3, h4, h5, k⟩ := h l m hp W
  obtain ⟨st2, q1, q2, q3⟩ := setk_ok h3 h5 h4 k
  exact ⟨.nx, _, m', .nx st2, by rw [sSet_e, h1]; rfl, h2, ⟨rfl, q1, q2⟩, q3⟩
theorem ws_asg {g : Tg} (h : WE p a (fun v s1 => DatK v fun d => WG p g d (fun s2 => F (.nx s2)) s1) st) : WS p (sAsg g a) F st := fun l m hp W => by
  obtain ⟨s, m', v, st', h1, h2, h3, h4, h5, d, rfl, k⟩ := h l m hp W
  obtain rfl : s = .d d := h4
  obtain ⟨l2, st2, q1, q2, q3, _, q4⟩ := k l m' h3
  exact ⟨.nx, l2, m', .nx st2, by simp only [sAsg_e, h1, Option.bind_some, q1, Option.map_some], h2, ⟨rfl, q2, h5.trans q3⟩, q4⟩
theorem ws_aug {g : PyData → PyData → Option PyData} (h : WS p (sSet i (eOp g (eV i) a)) F st) : WS p (sAug i g a) F st := h
/-- several slots at once -/
def ParK : List Nat → List SA → List SA → (List SA → Prop) → Prop
  | [], [], st, k => k st
  | i :: is, v :: vs, st, k => SetK i v st fun s2 => ParK is vs s2 k
  | _, _, _, _ => False
def noAl : List SA → Bool
  | [] => true
  | .al _ :: _ => false
  | _ :: vs => noAl vs
theorem setk_noAl {v : SA} {k : List SA → Prop} (h : SetK i v st k) (hv : ∀ j, v ≠ .al j) : k (st.set i v) := by
  cases v with
  | any => exact h.elim
  | al j => exact absurd rfl (hv j)
  | _ => exact h
theorem par_ok {K : Nat} {st0 l0 m0} {m : Mem} : ∀ (is : List Nat) (vs : List SA) (zs : List S) (b : Nat) (st : List SA) (l : Lo) (k : List SA → Prop), StOk K st l m → Fr K st0 l0 m0 st l m → m0.length ≤ b → VsOk K l m st b vs zs → noAl vs = true → ParK is vs st k →
    ∃ st', StOk K st' ((is.zip zs).foldl (fun l q => l.set q.1 (some q.2)) l) m ∧ Fr K st0 l0 m0 st' ((is.zip zs).foldl (fun l q => l.set q.1 (some q.2)) l) m ∧ k st'
  | [], [], _, _, st, l, k, W, f, _, .nil, _, hk => ⟨st, W, f, hk⟩
  | i :: is, v :: vs, z :: zs, b, st, l, k, W, f, hb, .cons (b' := b') h hb' hn r, ha, hk => by
    have hv : ∀ j, v ≠ .al j := fun j e => by subst e; simp [noAl] at ha
    have ha' : noAl vs = true := by cases v <;> simp_all [noAl]
    have k2 := setk_noAl (st := st) hk hv
    have W1 : StOk K (st.set i v) (l.set i (some z)) m := W.set h hv
    have f1 : Fr K st0 l0 m0 (st.set i v) (l.set i (some z)) m := f.set W (h.low hb)
    refine par_ok is vs _ b' _ _ k W1 f1 (Nat.le_trans hb hb') ?_ ha' k2
    -- the values left are values still
    have go : ∀ {c vs zs}, b' ≤ c → VsOk K l m st c vs zs → noAl vs = true → VsOk K (l.set i (some z)) m (st.set i v) c vs zs := by
      intro c vs zs hc q
      induction q with
      | nil => intro _; exact .nil
      | @cons c c' v2 vs2 z2 zs2 q1 q2 q3 q4 ih =>
        intro ha2
        refine .cons ?_ q2 q3 (ih (Nat.le_trans hc q2) (by cases v2 <;> simp_all [noAl]))
        cases v2 with
        | any => exact q1
        | dat x => exact q1
        | frz x => exact q1
        | ref n => exact q1
        | al j => simp [noAl] at ha2
        | ow ys =>
          obtain ⟨n, y1, y2, y3, y4, y5⟩ := q1
          refine ⟨n, y1, y2, y3, y4, fun o => ?_⟩
          rcases Own.set o W.len with o | ⟨e1, e2⟩
          · exact y5 o
          · have := hn n e2 e1; omega
    exact go (Nat.le_refl _) r ha'
theorem ws_par {is : List Nat} (h : WA p (rA r) (fun vs s1 => noAl vs = true ∧ ParK is vs s1 fun s2 => F (.nx s2)) st) : WS p (sPar is r) F st := fun l m hp W => by
  obtain ⟨ss, m', vs, st', h1, h2, h3, h4, h5, ha, k⟩ := h l m hp W
  obtain ⟨st2, q1, q2, q3⟩ := par_ok _ _ _ _ _ _ _ h3 h5 (Nat.le_refl _) h4 ha k
  exact ⟨.nx, _, m', .nx st2, by rw [sPar_e, h1]; rfl, h2, ⟨rfl, q1, q2⟩, q3⟩
theorem ws_drop (h : WE p a (fun _ s1 => F (.nx s1)) st) : WS p (sDrop a) F st := fun l m hp W => by
  obtain ⟨s, m', v, st', h1, h2, h3, h4, h5, k⟩ := h l m hp W
  exact ⟨.nx, l, m', .nx st', by simp only [sDrop_e, h1, Option.map_some], h2, ⟨rfl, h3, h5⟩, k⟩
def RetK (v : SA) (st : List SA) (k : SA → Prop) : Prop := match v with
  | .dat x => k (.dat x)
  | .ow xs => k (.ow xs)
  | .frz xs => k (.frz xs)
  | .al j => match st[j]? with
    | some (.ow xs) => k (.ow xs)
    | some (.frz xs) => k (.frz xs)
    | some (.dat x) => k (.dat x)
    | _ => False
  | _ => False
theorem ws_ret (h : WE p a (fun v s1 => RetK v s1 fun w => F (.rt w)) st) : WS p (sRet a) F st := fun l m hp W => by
  obtain ⟨s, m', v, st', h1, h2, h3, h4, h5, k⟩ := h l m hp W
  have key : ∃ w, RtOk p.K m' w s ∧ (∀ n xs, w = .ow xs → s = .r n → Own st l n ∨ m.length ≤ n) ∧ F (.rt w) := by
    cases v with
    | any => exact k.elim
    | ref n => exact k.elim
    | dat x => exact ⟨.dat x, h4, fun _ _ e => (by cases e), k⟩
    | ow xs => obtain ⟨n, q1, q0, q2, q3, _⟩ := h4; exact ⟨.ow xs, ⟨n, q1, q2, q3⟩, fun n' _ _ e => (by rw [q2] at e; cases e; exact .inr q0), k⟩
    | frz xs => exact ⟨.frz xs, h4, fun _ _ e => (by cases e), k⟩
    | al j =>
      have hl : l[j]? = some (some s) := h4
      simp only [RetK] at k
      cases q : st'[j]? with
      | none => rw [q] at k; exact k.elim
      | some w =>
        rw [q] at k
        have y := h3.sl _ _ q
        rw [hl] at y
        cases w with
        | any => exact k.elim
        | dat x => exact ⟨.dat x, Option.some.inj y, fun _ _ e => (by cases e), k⟩
        | ow xs => obtain ⟨n, y1, y2, y3⟩ := y; exact ⟨.ow xs, ⟨n, y1, Option.some.inj y2, y3⟩, fun n' _ _ e => h5.own n' ⟨j, xs, q, by rw [hl, e]⟩, k⟩
        | frz xs => obtain ⟨n, y1, y2, y3⟩ := y; exact ⟨.frz xs, ⟨n, y1, Option.some.inj y2, y3⟩, fun _ _ e => (by cases e), k⟩
        | ref n => exact k.elim
        | al k' => exact k.elim
  obtain ⟨w, z1, z3, z2⟩ := key
  exact ⟨.rt s, l, m', .rt w, by simp only [sRet_e, h1, Option.map_some], h2, ⟨s, rfl, z1, h5.len, z3, h5.keep⟩, z2⟩
theorem ws_retN (h : F (.rt (.dat .none))) : WS p sRetN F st := fun l m hp W => ⟨_, l, m, .rt (.dat .none), rfl, hp, ⟨_, rfl, rfl, Nat.le_refl _, fun _ _ e => (by cases e), fun _ _ _ e _ => e⟩, h⟩
theorem ws_if {t : RT} (h : WT p t (fun c s1 => CondK c (WS p s F s1) (WS p s2 F s1)) st) : WS p (sIf t s s2) F st := fun l m hp W => by
  obtain ⟨c, m', st', h1, h2, h3, h5, hb⟩ := h l m hp W
  cases c with
  | true =>
    obtain ⟨c2, l2, m2, o, q1, q2, q3, q4⟩ := hb.1 rfl l m' h2 h3
    exact ⟨c2, l2, m2, o, by simp only [sIf_e, h1, Option.bind_some, if_true, q1], q2, q3.after h5, q4⟩
  | false =>
    obtain ⟨c2, l2, m2, o, q1, q2, q3, q4⟩ := hb.2 rfl l m' h2 h3
    exact ⟨c2, l2, m2, o, by simp only [sIf_e, h1, Option.bind_some, Bool.false_eq_true, if_false, q1], q2, q3.after h5, q4⟩
/-- o[u] = d, of an owned object -/
def PutAt (st : List SA) (j : Nat) (u : SA) (d : PyData) (k : OV → Prop) : Prop :=
  (∃ xs i n, st[j]? = some (.own xs) ∧ u = .dat (.int i) ∧ ixN xs.length i = some n ∧ k (.L (xs.set n d))) ∨
  ∃ kvs e key, st[j]? = some (.dic kvs) ∧ datOf st u = some e ∧ keyOf e = some key ∧ kvs.length < lim ∧ k (.D (setD key d kvs))
theorem putat_l {st : List SA} {j : Nat} {xs : List PyData} {i : Int} {d : PyData} {k : OV → Prop} (e : st[j]? = some (.own xs)) (h : Get (ixN xs.length i) fun n => k (.L (xs.set n d))) : PutAt st j (.dat (.int i)) d k :=
  let ⟨n, h1, h2⟩ := h; .inl ⟨xs, i, n, e, rfl, h1, h2⟩
theorem putat_d {st : List SA} {j : Nat} {kvs : List (NestedKey × PyData)} {u : SA} {d : PyData} {k : OV → Prop} (e : st[j]? = some (.dic kvs)) (h : GetV (datOf st u) fun e => Get (keyOf e) fun key => kvs.length < 1000000 ∧ k (.D (setD key d kvs))) : PutAt st j u d k :=
  let ⟨x, h1, key, h2, h3, h4⟩ := h; .inr ⟨kvs, x, key, e, h1, h2, h3, h4⟩
theorem ws_put {o i e : RE} (h : WE p e (fun v s1 => DatK v fun d => WE p o (fun w s2 => AlK w fun j => WE p i (fun u s3 => PutAt s3 j u d fun ov => F (.nx (s3.set j (.ow ov)))) s2) s1) st) : WS p (sPut o i e) F st := fun l m hp W => by
  obtain ⟨s, m', v, st', h1, h2, h3, h4, h5, d, rfl, hb⟩ := h l m hp W
  obtain rfl : s = .d d := h4
  obtain ⟨z2, m2, w, st2, q1, q2, q3, q4, q5, j, rfl, hc⟩ := hb l m' h2 h3
  obtain ⟨z3, m3, u, st3, y1, y2, y3, y4, y5, hk⟩ := hc l m2 q2 q3
  have hl : l[j]? = some (some z2) := q4
  have f := (h5.trans q5).trans y5
  rcases hk with ⟨xs, k, n, e1, rfl, e2, hk⟩ | ⟨kvs, x, key, e1, ex, e2, hz, hk⟩
  · obtain rfl : z3 = .d (.int k) := y4
    obtain ⟨N, n1, rfl, n3, _⟩ := own_of y3 e1 hl
    refine ⟨.nx, l, m3.set N (.lst ((xs.set n d).map S.d)), .nx (st3.set j (.own (xs.set n d))), ?_, y2.set n1, ⟨rfl, y3.put e1 hl, f.trans (Fr.put e1 hl)⟩, hk⟩
    simp only [sPut_e, h1, q1, y1, Option.bind_some, deref_d]
    simp only [setS, n3, putI, List.length_map, e2, Option.map_some, List.map_set]
  · have dz := deref_ok y3 y4 ex
    obtain ⟨N, n1, rfl, n3, _⟩ := ow_of y3 e1 hl
    have n3 : m3[N]? = some (.dcT (kvs.map fun p => (p.1, S.d p.2))) := n3
    refine ⟨.nx, l, m3.set N (OV.D (setD key d kvs)).mo, .nx (st3.set j (.dic (setD key d kvs))), ?_, y2.set n1, ⟨rfl, y3.putO e1 hl, f.trans (Fr.put e1 hl)⟩, hk⟩
    simp only [sPut_e, h1, q1, y1, Option.bind_some, dz]
    have hx : ∃ ds, x = .tuple ds := by cases x <;> first | exact ⟨_, rfl⟩ | cases e2
    obtain ⟨ds, rfl⟩ := hx
    simp only [setS, n3, e2, Option.bind_some, List.length_map, if_pos hz, Option.map_some, OV.mo, setD_map]
/-! ### loops -/
variable {α σ : Type} {g : Tg}
/-- behind a turn -/
def ForK (F : Out → Prop) (J : List SA → Prop) : Out → Prop
  | .nx s => J s
  | .ct s => J s
  | .bk s => F (.nx s)
  | .rt v => F (.rt v)
def WFor (p : Pf) (g : Tg) (b : RS) (F : Out → Prop) (xs : List PyData) (st : List SA) : Prop := ∀ l m, Pre p m → StOk p.K st l m →
  ∃ c l' m' o, forGo g b (xs.map S.d) l m = some (c, l', m') ∧ Pre p m' ∧ OutOk p.K st l m c l' m' o ∧ F o
theorem ws_for {it : RI} (h : WI p it (fun xs s1 => WFor p g s F xs s1) st) : WS p (sFor it g s) F st := fun l m hp W => by
  obtain ⟨xs, m', st', h1, h2, h3, h5, k⟩ := h l m hp W
  obtain ⟨c2, l2, m2, o, q1, q2, q3, q4⟩ := k l m' h2 h3
  exact ⟨c2, l2, m2, o, by simp only [sFor_e, h1, Option.bind_some, q1], q2, q3.after h5, q4⟩
theorem wf_nil (h : F (.nx st)) : WFor p g s F [] st := fun l m hp W => ⟨.nx, l, m, .nx st, rfl, hp, ⟨rfl, W, Fr.refl⟩, h⟩
theorem wf_cons {xs : List PyData} (h : WG p g x (fun s1 => WS p s (ForK F fun s2 => WFor p g s F xs s2) s1) st) : WFor p g s F (x :: xs) st := fun l m hp W => by
  obtain ⟨l1, s1, h1, h2, h3, _, h4⟩ := h l m W
  obtain ⟨c, l2, m2, o, q1, q2, q3, q4⟩ := h4 l1 m hp h2
  have go : forGo g s ((x :: xs).map S.d) l m = match c with
    | .nx => forGo g s (xs.map S.d) l2 m2
    | .ct => forGo g s (xs.map S.d) l2 m2
    | .bk => some (.nx, l2, m2)
    | .rt z => some (.rt z, l2, m2) := by
    simp only [List.map_cons, forGo, h1, q1, Option.bind_some]
    cases c <;> rfl
  cases o with
  | nx s2 =>
    obtain ⟨rfl, W2, f⟩ := q3
    obtain ⟨c3, l3, m3, o3, y1, y2, y3, y4⟩ := q4 l2 m2 q2 W2
    exact ⟨c3, l3, m3, o3, go.trans y1, y2, (y3.after f).after h3, y4⟩
  | ct s2 =>
    obtain ⟨rfl, W2, f⟩ := q3
    obtain ⟨c3, l3, m3, o3, y1, y2, y3, y4⟩ := q4 l2 m2 q2 W2
    exact ⟨c3, l3, m3, o3, go.trans y1, y2, (y3.after f).after h3, y4⟩
  | bk s2 =>
    obtain ⟨rfl, W2, f⟩ := q3
    exact ⟨.nx, l2, m2, .nx s2, go, q2, ⟨rfl, W2, h3.trans f⟩, q4⟩
  | rt v =>
    obtain ⟨z, rfl, q⟩ := q3
    exact ⟨.rt z, l2, m2, .rt v, go, q2, OutOk.after h3 ⟨z, rfl, q⟩, q4⟩
theorem wf_weak {st' : List SA} {xs : List PyData} (hw : Wk st st') (h : WFor p g s F xs st') : WFor p g s F xs st := fun l m hp W => by
  obtain ⟨c, l', m', o, h1, h2, h3, h4⟩ := h l m hp (W.weak hw)
  exact ⟨c, l', m', o, h1, h2, h3.after (Fr.weak hw), h4⟩
theorem WG.imp {Gt Ht : List SA → Prop} (h : WG p g x Gt st) (i : ∀ s, Gt s → Ht s) : WG p g x Ht st := fun l m W => by
  obtain ⟨l1, s1, h1, h2, h3, h0, h4⟩ := h l m W
  exact ⟨l1, s1, h1, h2, h3, h0, i _ h4⟩
/-- by an invariant -/
theorem wf_inv (enc : α → PyData) (I : List α → List SA → Prop) : ∀ (ys pre : List α) {st : List SA}, (∃ s0, Wk st s0 ∧ I pre s0) →
    (∀ q y r s1, pre ++ ys = q ++ y :: r → I q s1 → WG p g (enc y) (fun s2 => WS p s (ForK F fun s3 => ∃ s4, Wk s3 s4 ∧ I (q ++ [y]) s4) s2) s1) →
    (∀ s1, I (pre ++ ys) s1 → F (.nx s1)) → WFor p g s F (ys.map enc) st
  | [], pre, st, ⟨s0, hw, h0⟩, _, he => wf_weak hw (wf_nil (he s0 (by simpa using h0)))
  | y :: ys, pre, st, ⟨s0, hw, h0⟩, hs, he => wf_weak hw (by
    refine wf_cons ((hs pre y ys s0 rfl h0).imp fun s2 h => h.imp fun o => ?_)
    cases o with
    | nx s3 => exact fun q => wf_inv enc I ys (pre ++ [y]) q (fun q z r s1 e => hs q z r s1 (by rw [← e]; simp)) fun s1 h => he s1 (by simpa using h)
    | ct s3 => exact fun q => wf_inv enc I ys (pre ++ [y]) q (fun q z r s1 e => hs q z r s1 (by rw [← e]; simp)) fun s1 h => he s1 (by simpa using h)
    | bk s3 => exact id
    | rt v => exact id)
/-- by a fold -/
theorem wf_fold (enc : α → PyData) (L : σ → List SA) (f : σ → α → σ) : ∀ (ys : List α) (s0 : σ) {st : List SA}, Wk st (L s0) →
    (∀ s1 y, y ∈ ys → WG p g (enc y) (fun s2 => WS p s (ForK F fun s3 => Wk s3 (L (f s1 y))) s2) (L s1)) →
    F (.nx (L (ys.foldl f s0))) → WFor p g s F (ys.map enc) st
  | [], s0, st, hw, _, he => wf_weak hw (wf_nil he)
  | y :: ys, s0, st, hw, hs, he => wf_weak hw (by
    refine wf_cons ((hs s0 y (List.mem_cons_self ..)).imp fun s2 h => h.imp fun o => ?_)
    cases o with
    | nx s3 => exact fun q => wf_fold enc L f ys (f s0 y) q (fun s1 z hz => hs s1 z (List.mem_cons_of_mem _ hz)) he
    | ct s3 => exact fun q => wf_fold enc L f ys (f s0 y) q (fun s1 z hz => hs s1 z (List.mem_cons_of_mem _ hz)) he
    | bk s3 => exact id
    | rt v => exact id)
def WWh (p : Pf) (c : RT) (b : RS) (F : Out → Prop) (k : Nat) (st : List SA) : Prop := ∀ l m, Pre p m → StOk p.K st l m →
  ∃ c' l' m' o, whileGo c b k l m = some (c', l', m') ∧ Pre p m' ∧ OutOk p.K st l m c' l' m' o ∧ F o
theorem ws_while {t : RT} {k : Nat} (h : WWh p t s F k st) : WS p (sWhile k t s) F st := h
theorem ww_weak {t : RT} {k : Nat} {st' : List SA} (hw : Wk st st') (h : WWh p t s F k st') : WWh p t s F k st := fun l m hp W => by
  obtain ⟨c, l', m', o, h1, h2, h3, h4⟩ := h l m hp (W.weak hw)
  exact ⟨c, l', m', o, h1, h2, h3.after (Fr.weak hw), h4⟩
theorem ww_go {t : RT} {k : Nat} (h : WT p t (fun c s1 => CondK c (WS p s (ForK F fun s2 => WWh p t s F k s2) s1) (F (.nx s1))) st) : WWh p t s F (k + 1) st := fun l m hp W => by
  obtain ⟨cb, m', st', h1, h2, h3, h5, hb⟩ := h l m hp W
  cases cb with
  | false => exact ⟨.nx, l, m', .nx st', by simp only [whileGo, h1, Option.bind_some, Bool.false_eq_true, if_false], h2, ⟨rfl, h3, h5⟩, hb.2 rfl⟩
  | true =>
    obtain ⟨c, l2, m2, o, q1, q2, q3, q4⟩ := hb.1 rfl l m' h2 h3
    have go : whileGo t s (k + 1) l m = match c with
      | .nx => whileGo t s k l2 m2
      | .ct => whileGo t s k l2 m2
      | .bk => some (.nx, l2, m2)
      | .rt z => some (.rt z, l2, m2) := by
      simp only [whileGo, h1, Option.bind_some, if_true, q1]
      cases c <;> rfl
    cases o with
    | nx s2 =>
      obtain ⟨rfl, W2, f⟩ := q3
      obtain ⟨c3, l3, m3, o3, y1, y2, y3, y4⟩ := q4 l2 m2 q2 W2
      exact ⟨c3, l3, m3, o3, go.trans y1, y2, (y3.after f).after h5, y4⟩
    | ct s2 =>
      obtain ⟨rfl, W2, f⟩ := q3
      obtain ⟨c3, l3, m3, o3, y1, y2, y3, y4⟩ := q4 l2 m2 q2 W2
      exact ⟨c3, l3, m3, o3, go.trans y1, y2, (y3.after f).after h5, y4⟩
    | bk s2 =>
      obtain ⟨rfl, W2, f⟩ := q3
      exact ⟨.nx, l2, m2, .nx s2, go, q2, ⟨rfl, W2, h5.trans f⟩, q4⟩
    | rt v =>
      obtain ⟨z, rfl, q⟩ := q3
      exact ⟨.rt z, l2, m2, .rt v, go, q2, OutOk.after h5 ⟨z, rfl, q⟩, q4⟩
/-- a while by a number that falls -/
theorem ww_inv {t : RT} (L : Nat → List SA → Prop) : ∀ (n k : Nat) {st : List SA}, n < k → (∃ s0, Wk st s0 ∧ L n s0) →
    (∀ n s1, L n s1 → WT p t (fun c s2 => CondK c (0 < n ∧ WS p s (ForK F fun s3 => ∃ n' s4, n' < n ∧ Wk s3 s4 ∧ L n' s4) s2) (F (.nx s2))) s1) → WWh p t s F k st
  | n, 0, _, h, _, _ => by omega
  | n, k + 1, st, h, ⟨s0, hw, h0⟩, hs => ww_weak hw (ww_go (by
    have h1 := hs n s0 h0
    intro l m hp W
    obtain ⟨cb, m', st', a1, a2, a3, a4, a5, a6⟩ := h1 l m hp W
    refine ⟨cb, m', st', a1, a2, a3, a4, fun hc => (a5 hc).2.imp fun o => ?_, a6⟩
    cases o with
    | nx s3 => exact fun ⟨n', s4, b1, b2, b3⟩ => ww_inv L n' k (by omega) ⟨s4, b2, b3⟩ hs
    | ct s3 => exact fun ⟨n', s4, b1, b2, b3⟩ => ww_inv L n' k (by omega) ⟨s4, b2, b3⟩ hs
    | bk s3 => exact id
    | rt v => exact id))
end
/-! ### defs -/
def valOf : SA → Option PyData
  | .dat x => some x
  | .ow (.L xs) => some (.list xs)
  | .frz xs => some (.list xs)
  | _ => none
def RtP (r : PyData) : Out → Prop
  | .rt v => valOf v = some r
  | .nx _ => r = .none
  | _ => False
def st0 (n : Nat) (vs : List SA) : List SA := vs ++ List.replicate (n - vs.length) .any
theorem lo0_ok {K : Nat} {m : Mem} {n : Nat} {vs : List SA} {ss : List S} (h : toSs vs = some ss) (hr : ∀ k, SA.ref k ∈ vs → k < K) : StOk K (st0 n vs) (lo0 n ss) m ∧ ∀ k, ¬ Own (st0 n vs) (lo0 n ss) k := by
  have hl : ss.length = vs.length := by
    clear hr
    induction vs generalizing ss with
    | nil => cases h; rfl
    | cons v vs ih =>
      cases v <;> simp only [toSs, Option.map_eq_some_iff, reduceCtorEq] at h
      · obtain ⟨es, e2, rfl⟩ := h; simp [ih e2]
      · obtain ⟨es, e2, rfl⟩ := h; simp [ih e2]
  have at' : ∀ (i : Nat) (a : SA), (st0 n vs)[i]? = some a → a = .any ∨ (∃ s, (lo0 n ss)[i]? = some (some s) ∧ ((∃ x, a = .dat x ∧ s = .d x) ∨ ∃ k, a = .ref k ∧ s = .r k)) := by
    intro i a e
    unfold st0 at e
    by_cases hi : i < vs.length
    · rw [List.getElem?_append_left hi] at e
      right
      unfold lo0
      rw [List.getElem?_append_left (by simpa [hl] using hi), List.getElem?_map]
      clear hr hl
      induction vs generalizing ss i with
      | nil => simp at hi
      | cons v vs ih =>
        cases v <;> simp only [toSs, Option.map_eq_some_iff, reduceCtorEq] at h
        · obtain ⟨es, e2, rfl⟩ := h
          cases i with
          | zero => cases e; exact ⟨_, rfl, .inl ⟨_, rfl, rfl⟩⟩
          | succ i => exact ih e2 i e (by simpa using hi)
        · obtain ⟨es, e2, rfl⟩ := h
          cases i with
          | zero => cases e; exact ⟨_, rfl, .inr ⟨_, rfl, rfl⟩⟩
          | succ i => exact ih e2 i e (by simpa using hi)
    · rw [List.getElem?_append_right (by omega), List.getElem?_replicate] at e
      split at e
      · cases e; exact .inl rfl
      · cases e
  have memA : ∀ (i k : Nat), (st0 n vs)[i]? = some (.ref k) → k < K := fun i k e => by
    unfold st0 at e
    have := List.mem_of_getElem? e
    rcases List.mem_append.mp this with q | q
    · exact hr k q
    · have := (List.mem_replicate.mp q).2; cases this
  refine ⟨⟨by simp [st0, lo0, hl], fun i a e => ?_, fun i j xs ys k e1 _ _ _ => ?_⟩, fun k ⟨i, xs, e, _⟩ => ?_⟩
  · rcases at' i a e with rfl | ⟨s, e1, ⟨x, rfl, rfl⟩ | ⟨k, rfl, rfl⟩⟩
    · trivial
    · rw [e1]; rfl
    · rw [e1]; exact ⟨memA i k e, rfl⟩
  · rcases at' i _ e1 with q | ⟨s, _, ⟨x, q, _⟩ | ⟨k, q, _⟩⟩ <;> cases q
  · rcases at' i _ e with q | ⟨s, _, ⟨x, q, _⟩ | ⟨k, q, _⟩⟩ <;> cases q
theorem toSs_dat : ∀ ds : List PyData, toSs (ds.map SA.dat) = some (ds.map S.d)
  | [] => rfl
  | d :: ds => by simp only [List.map_cons, toSs, toSs_dat ds, Option.map_some]
theorem rt_deref {K : Nat} {m : Mem} {v : SA} {s : S} {r : PyData} (h : RtOk K m v s) (e : valOf v = some r) : deref m s = some r := by
  cases v with
  | dat x => cases e; cases (show s = S.d _ from h); rfl
  | ow o =>
    cases o with
    | D kvs => cases e
    | L xs => cases e; obtain ⟨n, _, rfl, q⟩ := h; exact deref_lst q
  | frz xs => cases e; obtain ⟨n, _, rfl, q⟩ := h; exact deref_frz q
  | _ => cases e
/-- a def that only makes data of data -/
theorem runP_w {n : Nat} {b : RS} {ds : List PyData} {r : PyData} (h : WS P0 b (RtP r) (st0 n (ds.map SA.dat))) : runP n b ds = some r := by
  have W := (lo0_ok (K := 0) (m := []) (n := n) (toSs_dat ds) (fun k hk => by simp at hk)).1
  obtain ⟨c, l', m', o, h1, h2, h3, h4⟩ := h _ [] ⟨Nat.zero_le _, trivial⟩ W
  simp only [runP, h1, Option.bind_some]
  cases o with
  | nx st' => obtain ⟨rfl, _⟩ := h3; cases (show r = .none from h4); rfl
  | bk st' => exact h4.elim
  | ct st' => exact h4.elim
  | rt v => obtain ⟨s, rfl, q, _⟩ := h3; exact rt_deref q h4
def RtI (Q : SA → Prop) : Out → Prop
  | .rt v => Q v
  | .nx _ => Q (.dat .none)
  | _ => False
/-- a def that works on what stands ahead -/
theorem runI_w {p : Pf} {n : Nat} {b : RS} {vs : List SA} {ss : List S} {Q : SA → Prop} (hs : toSs vs = some ss) (hr : ∀ k, SA.ref k ∈ vs → k < p.K) (h : WS p b (RtI Q) (st0 n vs)) : IW p (runI n b) ss Q := fun D g hD hl => by
  obtain ⟨W, no⟩ := lo0_ok (m := D ++ g) (n := n) hs hr
  obtain ⟨c, l', m', o, h1, h2, h3, h4⟩ := h _ (D ++ g) (pre_join hD hl) W
  obtain ⟨D', g', rfl, q1, q2⟩ := pre_split h2
  have split : (∀ k o, p.K ≤ k → (D ++ g)[k]? = some o → ¬ Own (st0 n vs) (lo0 n ss) k → (D' ++ g')[k]? = some o) → ∃ x, g' = g ++ x := fun keep => by
    refine ⟨g'.drop g.length, ?_⟩
    have : g = g'.take g.length := by
      apply List.ext_getElem?
      intro k
      rw [List.getElem?_take]
      by_cases hk : k < g.length
      · rw [if_pos hk]
        have z := keep (p.K + k) g[k] (by omega) (by rw [List.getElem?_append_right (by omega), hl]; simp [hk]) (no _)
        rw [List.getElem?_append_right (by omega), q1] at z
        simp at z
        rw [z]; simp [hk]
      · rw [if_neg hk, List.getElem?_eq_none (by omega)]
    conv => lhs; rw [← List.take_append_drop g.length g']
    rw [← this]
  cases o with
  | nx st' =>
    obtain ⟨rfl, _, f⟩ := h3
    obtain ⟨x, rfl⟩ := split f.keep
    exact ⟨.d .none, D', x, .dat .none, by simp only [runI, h1, Option.bind_some], q2, q1, rfl, h4⟩
  | bk st' => exact h4.elim
  | ct st' => exact h4.elim
  | rt v =>
    obtain ⟨s, rfl, q, _, fresh, keep⟩ := h3
    obtain ⟨x, rfl⟩ := split keep
    refine ⟨s, D', x, v, by simp only [runI, h1, Option.bind_some], q2, q1, ?_, h4⟩
    cases v with
    | dat r => exact q
    | ow xs =>
      obtain ⟨n, z1, rfl, z3⟩ := q
      rcases fresh n xs rfl rfl with o | o
      · exact absurd o (no n)
      · exact ⟨n, z1, o, rfl, z3⟩
    | frz xs => exact q
    | any => exact q.elim
    | ref n => exact q.elim
    | al k => exact q.elim
end Fz

set_option linter.all false
set_option autoImplicit false
set_option maxRecDepth 100000
/-! FzTac: the rules in the shape that the steps want. -/
namespace Fz
open PySem PyProof.Rows
open L2 (ixN atI)
section
variable {p : Pf} {st st2 st3 : List SA} {a b : RE} {s : RS} {i j : Nat} {x : PyData} {xs : List PyData} {F : Out → Prop} {J : List SA → Prop} {k : List SA → Prop} {v : SA} {vs : List SA} {is : List Nat}
theorem seqk_nx (h : WS p s F st) : SeqK p s F (.nx st) := h
theorem seqk_bk (h : F (.bk st)) : SeqK p s F (.bk st) := h
theorem seqk_ct (h : F (.ct st)) : SeqK p s F (.ct st) := h
theorem seqk_rt (h : F (.rt v)) : SeqK p s F (.rt v) := h
theorem fork_nx (h : J st) : ForK F J (.nx st) := h
theorem fork_ct (h : J st) : ForK F J (.ct st) := h
theorem fork_bk (h : F (.nx st)) : ForK F J (.bk st) := h
theorem fork_rt (h : F (.rt v)) : ForK F J (.rt v) := h
theorem setk_dat (e : st.set i (.dat x) = st2) (h : k st2) : SetK i (.dat x) st k := by subst e; exact h
theorem setk_ow {o : OV} (e : st.set i (.ow o) = st2) (h : k st2) : SetK i (.ow o) st k := by subst e; exact h
theorem setk_own (e : st.set i (.own xs) = st2) (h : k st2) : SetK i (.own xs) st k := by subst e; exact h
theorem setk_frz (e : st.set i (.frz xs) = st2) (h : k st2) : SetK i (.frz xs) st k := by subst e; exact h
theorem setk_ref {n : Nat} (e : st.set i (.ref n) = st2) (h : k st2) : SetK i (.ref n) st k := by subst e; exact h
theorem setk_al {xs : OV} (q : st[j]? = some (.ow xs)) (e : (st.set j .any).set i (.ow xs) = st2) (h : k st2) : SetK i (.al j) st k := by
  subst e; simp only [SetK, q]; exact h
theorem park_nil (h : k st) : ParK [] [] st k := h
theorem park_cons (h : SetK i v st fun s2 => ParK is vs s2 k) : ParK (i :: is) (v :: vs) st k := h
theorem retk_dat {q : SA → Prop} (h : q (.dat x)) : RetK (.dat x) st q := h
theorem retk_own {q : SA → Prop} {xs : OV} (h : q (.ow xs)) : RetK (.ow xs) st q := h
theorem retk_frz {q : SA → Prop} (h : q (.frz xs)) : RetK (.frz xs) st q := h
theorem retk_al {q : SA → Prop} {xs : OV} (e : st[j]? = some (.ow xs)) (h : q (.ow xs)) : RetK (.al j) st q := by simp only [RetK, e]; exact h
theorem rtp {r : PyData} (h : valOf v = some r) : RtP r (.rt v) := h
theorem rti {Q : SA → Prop} {v : SA} (h : Q v) : RtI Q (.rt v) := h
theorem rti_nx {Q : SA → Prop} (h : Q (.dat .none)) : RtI Q (.nx st) := h
theorem rtp_nx : RtP .none (.nx st) := rfl
variable {E : SA → List SA → Prop}
theorem zk_dat (h : E (.dat x) st) : ZK E (.dat x) st := h
theorem zk_own (h : E (.dat (.list xs)) st) : ZK E (.own xs) st := h
theorem zk_frz (h : E (.dat (.list xs)) st) : ZK E (.frz xs) st := h
theorem zk_al (q : st[j]? = some (.own xs)) (e : st.set j (.frz xs) = st2) (h : E (.dat (.list xs)) st2) : ZK E (.al j) st := by
  subst e; simp only [ZK, q]; exact h
theorem wg_n' (e : st.set i (.dat x) = st2) (h : k st2) : WG p (gN i) x k st := by subst e; exact wg_n h
theorem mapp {K : PyData → List PyData → Prop} (h : xs.length < 1000000) (hk : K .none (xs ++ [x])) : MApp [.dat x] xs st K := ⟨x, rfl, h, hk⟩
theorem mext {K : PyData → List PyData → Prop} {ys : List PyData} (e : datOf st v = some (.list ys)) (h : xs.length + ys.length ≤ 1000000) (hk : K .none (xs ++ ys)) : MExt [v] xs st K := ⟨v, ys, rfl, e, h, hk⟩
theorem mpop {K : PyData → List PyData → Prop} {ys : List PyData} (e : xs = ys ++ [x]) (hk : K x ys) : MPop [] xs st K := ⟨ys, x, rfl, e, hk⟩
theorem we_app {o : RE} {r : List RE} (h : WE p o (fun v s1 => AlK v fun j => OwnAt s1 j fun _ => WA p (rA r) (fun vs s2 => OwnAt s2 j fun xs => MApp vs xs s2 fun d ys => E (.dat d) (s2.set j (.own ys))) s1) st) : WE p (eM mAppend o r) E st := we_m meth_app h
theorem we_ext {o : RE} {r : List RE} (h : WE p o (fun v s1 => AlK v fun j => OwnAt s1 j fun _ => WA p (rA r) (fun vs s2 => OwnAt s2 j fun xs => MExt vs xs s2 fun d ys => E (.dat d) (s2.set j (.own ys))) s1) st) : WE p (eM mExtend o r) E st := we_m meth_ext h
theorem we_pop {o : RE} {r : List RE} (h : WE p o (fun v s1 => AlK v fun j => OwnAt s1 j fun _ => WA p (rA r) (fun vs s2 => OwnAt s2 j fun xs => MPop vs xs s2 fun d ys => E (.dat d) (s2.set j (.own ys))) s1) st) : WE p (eM mPop o r) E st := we_m meth_pop h
theorem we_popAt {o : RE} {r : List RE} (h : WE p o (fun v s1 => AlK v fun j => OwnAt s1 j fun _ => WA p (rA r) (fun vs s2 => OwnAt s2 j fun xs => MPopAt vs xs s2 fun d ys => E (.dat d) (s2.set j (.own ys))) s1) st) : WE p (eM mPopAt o r) E st := we_m meth_popAt h
theorem we_dat' (h : st[i]? = some (.dat x)) (k : E (.dat x) st) : WE p (eV i) E st := we_dat h k
theorem lct {vs : List Nat} {g : Tg} {t : RT} {e : RE} {Q : Option PyData → Prop} (q : wipeA st vs = st3)
    (h : WG p g x (fun s1 => WT p t (fun c s2 => s2 = s1 ∧ CondK c (WE p e (fun v s3 => s3 = s1 ∧ DatK v fun d => Q (some d)) s1) (Q none)) s1) st3) : LcT p vs g t e x st Q := by subst q; exact h
/-- both ways of an expression lead to a value with P -/
theorem cond_we (P : PyData → Prop) {c : Bool} (h1 : c = true → WE p a (fun v s => s = st ∧ DatK v P) st) (h2 : c = false → WE p b (fun v s => s = st ∧ DatK v P) st) (h3 : ∀ d, P d → E (.dat d) st) : CondK c (WE p a E st) (WE p b E st) :=
  ⟨fun e => (h1 e).imp fun v s ⟨e1, d, e2, e3⟩ => by subst e1 e2; exact h3 d e3, fun e => (h2 e).imp fun v s ⟨e1, d, e2, e3⟩ => by subst e1 e2; exact h3 d e3⟩
/-- a statement goes on, with J -/
def NxK (J : List SA → Prop) : Out → Prop
  | .nx s => J s
  | _ => False
theorem nxk {J : List SA → Prop} (h : J st) : NxK J (.nx st) := h
theorem cond_ws (J : List SA → Prop) {c : Bool} {s2 : RS} (h1 : c = true → WS p s (NxK fun s3 => ∃ s4, Wk s3 s4 ∧ J s4) st) (h2 : c = false → WS p s2 (NxK fun s3 => ∃ s4, Wk s3 s4 ∧ J s4) st) (h3 : ∀ s4, J s4 → F (.nx s4))
    (hF : ∀ s3 s4, Wk s3 s4 → F (.nx s4) → F (.nx s3)) : CondK c (WS p s F st) (WS p s2 F st) := by
  have key : ∀ o, NxK (fun s3 => ∃ s4, Wk s3 s4 ∧ J s4) o → F o := fun o h => by
    cases o with
    | nx s3 => obtain ⟨s4, h1, h2⟩ := h; exact hF s3 s4 h1 (h3 s4 h2)
    | _ => exact h.elim
  exact ⟨fun e => (h1 e).imp key, fun e => (h2 e).imp key⟩
theorem seqk_weak {s3 s4 : List SA} (h : Wk s3 s4) (q : SeqK p s F (.nx s4)) : SeqK p s F (.nx s3) := ws_weak h q
theorem pNeg_i {i : Int} : pNeg (.int i) = some (.int (-i)) := rfl
theorem pIsN_e {d : PyData} : pIsN d = some (.bool (isN d)) := rfl
theorem pNotN_e {d : PyData} : pNotN d = some (.bool (!isN d)) := rfl
theorem truth_b {b : Bool} : truth (.bool b) = some b := rfl
theorem truth_i {i : Int} : truth (.int i) = some (i != 0) := rfl
theorem truth_l {xs : List PyData} : truth (.list xs) = some (!xs.isEmpty) := rfl
theorem truth_t {xs : List PyData} : truth (.tuple xs) = some (!xs.isEmpty) := rfl
end
end Fz

set_option linter.all false
set_option autoImplicit false
set_option maxRecDepth 100000
/-! FzU: tables, rows, numbers: what the laws share. -/
namespace Fz
open PySem PyProof.Rows
open L2 (ixN atI)
theorem xor_all : ((List.range 64).all fun n => (List.range 64).all fun m => decide (Builtin.bitXor (n : Nat) (m : Nat) = ((n ^^^ m : Nat) : Int))) = true := by kernel_rfl
theorem xor_nat {n m : Nat} (hn : n < 64) (hm : m < 64) : pXor (.int (n : Int)) (.int (m : Int)) = some (.int ((n ^^^ m : Nat) : Int)) := by
  have h := of_decide_eq_true (List.all_eq_true.mp (List.all_eq_true.mp xor_all n (List.mem_range.mpr hn)) m (List.mem_range.mpr hm))
  exact congrArg (fun i => some (PyData.int i)) h
theorem and_nat (n m : Nat) : pAnd (.int (n : Int)) (.int (m : Int)) = some (.int ((n &&& m : Nat) : Int)) := rfl
theorem tg_nat {t : List Int} {i : Nat} (h : i < t.length) : tg t (i : Int) = t[i] := by
  unfold tg
  rw [Int.toNat_natCast, List.getD_eq_getElem?_getD, List.getElem?_eq_getElem h]; rfl
theorem tab_list (t : List Int) : t = (List.range t.length).map fun i : Nat => tg t i := by
  apply List.ext_getElem
  · simp
  · intro i h1 h2
    simp only [List.getElem_map, List.getElem_range]
    exact (tg_nat h1).symm
/-- a table with its numbers -/
theorem enum_tab (t : List Int) : pairs (upto (t.map PyData.int).length) (t.map .int) = (List.range t.length).map fun i : Nat => .tuple [.int i, .int (tg t i)] := by
  have h : t.map PyData.int = (List.range t.length).map fun i : Nat => .int (tg t i) := by
    conv => lhs; rw [tab_list t]
    rw [List.map_map]; rfl
  rw [List.length_map]
  conv => lhs; rw [h]
  exact pairs_map (fun i : Nat => PyData.int (i : Nat)) (fun i : Nat => PyData.int (tg t i)) _
theorem tab01 {k : Nat} {t : List Int} (ht : Tab k t) {i : Nat} (h : i < 2 ^ k) : tg t (i : Int) = 0 ∨ tg t (i : Int) = 1 := by
  have : i < t.length := by rw [ht.len]; exact h
  rw [tg_nat this]
  exact ht.bit _ (List.getElem_mem this)
theorem at_nat {k : Nat} {t : List Int} (ht : Tab k t) {i : Nat} (h : i < 2 ^ k) : ixD (tabD t) (.int (i : Int)) = some (.int (tg t i)) := tg_bit ht (by omega) (by omega)
theorem pow6 {k : Nat} (hk : k ≤ 6) : 2 ^ k ≤ 64 := Nat.pow_le_pow_right (n := 2) (by decide) hk
theorem sum_ints (xs : List Int) : fSum [.list (xs.map .int)] = some (.int xs.sum) := by
  simp only [fSum, items, Option.bind_some, asI_map, Option.map_some]
theorem sml_pair {n c : Nat} {x y : PyData} (h1 : Sml n c x) (h2 : Sml n c y) : Sml (n + 1) (2 * c + 1) (.list [x, y]) := sml_lst (k := 2) (fun z hz => by
  simp at hz
  rcases hz with rfl | rfl <;> assumption) (by simp)
theorem sml_tri {n c : Nat} {x y z : PyData} (h1 : Sml n c x) (h2 : Sml n c y) (h3 : Sml n c z) : Sml (n + 1) (3 * c + 1) (.list [x, y, z]) := sml_lst (k := 3) (fun w hz => by
  simp at hz
  rcases hz with rfl | rfl | rfl <;> assumption) (by simp)
theorem sml_quad {n c : Nat} {x y z u : PyData} (h1 : Sml n c x) (h2 : Sml n c y) (h3 : Sml n c z) (h4 : Sml n c u) : Sml (n + 1) (4 * c + 1) (.list [x, y, z, u]) := sml_lst (k := 4) (fun w hz => by
  simp at hz
  rcases hz with rfl | rfl | rfl | rfl <;> assumption) (by simp)
theorem sml_nat {n : Nat} (h : n < 1000000) : Sml 0 1 (.int (n : Int)) := sml_int (by omega)
theorem kernel_all {α : Type} {xs : List α} {p : α → Bool} (h : xs.all p = true) {x : α} (hx : x ∈ xs) : p x = true := List.all_eq_true.mp h x hx
theorem paired_dec {α β : Type} {P : α → PyData → Prop} (enc : β → PyData) (R : β → Prop) (hP : ∀ a d, P a d → ∃ c, d = enc c ∧ R c) : ∀ {ys : List α} {ds : List PyData}, Paired P ys ds → ∃ cs : List β, ds = cs.map enc ∧ (∀ c, c ∈ cs → R c) ∧ cs.length = ys.length
  | _, _, .nil => ⟨[], rfl, fun c h => (List.not_mem_nil h).elim, rfl⟩
  | _, _, .cons h r => by
    obtain ⟨c, rfl, hc⟩ := hP _ _ h
    obtain ⟨cs, rfl, h1, h2⟩ := paired_dec enc R hP r
    refine ⟨c :: cs, rfl, fun x hx => ?_, by simp [h2]⟩
    rcases List.mem_cons.mp hx with rfl | q
    · exact hc
    · exact h1 x q
end Fz

set_option linter.all false
set_option autoImplicit false
set_option maxRecDepth 100000
/-! FzS24: range with a step, list(..) to be changed, several targets that are items of lists, what is never reached. -/
namespace Fz
open PySem PySem.Spec PyProof.Rows L2
section
variable {X : Cx} {a b c : Expr} {f f2 f3 : RE} {p p2 pos pos2 : Pos}
/-! ### a statement that no way reaches -/
def sNev : RS := fun _ _ => none
theorem fs_never {st : Stmt} : FS X st sNev := PS.imp (t := fun _ _ _ => False) ⟨fun _ _ _ _ _ _ h => h.elim⟩ fun D σ H ⟨w, l, c, l', m', W, L, e, k⟩ => by cases e
/-! ### range(i, j, c) -/
def stepTo (lo c : Int) (n : Nat) : List PyData := (List.range n).map fun k => .int (lo + (k : Nat) * c)
def iRange3 (a b c : RE) : RI := fun l m => (a l m).bind fun p => (b l p.2).bind fun q => (c l q.2).bind fun u => match p.1, q.1, u.1 with
  | .d (.int i), .d (.int j), .d (.int c) => if c ≠ 0 ∧ c.natAbs < 1073741824 ∧ Builtin.Range.small i j c = true ∧ 0 ≤ Builtin.Range.rangeSize i j c ∧ Builtin.Range.rangeSize i j c ≤ lim then some ((stepTo i c (Builtin.Range.rangeSize i j c).toNat).map S.d, u.2) else none
  | _, _, _ => none
theorem stepTo_at {n i : Nat} {lo c : Int} {s : S} (h : ((stepTo lo c n).map S.d)[i]? = some s) : i < n ∧ s = .d (.int (lo + (i : Nat) * c)) := by
  obtain ⟨d, h1, rfl⟩ := map_at h
  unfold stepTo at h1
  rw [List.getElem?_map] at h1
  cases q : (List.range n)[i]? with
  | none => rw [q] at h1; cases h1
  | some j =>
    rw [q] at h1; cases h1
    obtain ⟨hi, e⟩ := List.getElem?_eq_some_iff.mp q
    simp at hi e
    subst e
    exact ⟨hi, rfl⟩
theorem yl_rngC {K : PySem.W.Frag} {w : Wo} {H : Hp} {lo c : Int} {n : Nat} (hz : n ≤ sizeLine) : Yl K w H (Itc lo c n) ((stepTo lo c n).map S.d) := by
  have hl : ((stepTo lo c n).map S.d).length = n := by simp [stepTo]
  refine ⟨by rw [hl]; exact hz, fun P1 w2 H2 hp E W2 => ⟨by rw [hl]; exact Nat.le_refl _, fun i s e => ?_⟩⟩
  obtain ⟨hi, rfl⟩ := stepTo_at e
  refine ⟨hi, fun v H3 y => ?_⟩
  obtain ⟨rfl, rfl⟩ := y
  exact ⟨w2, rfl, Ex.refl _ _, W2, .int _⟩
theorem fi_range3 {tg : Expr} (hm : X.mg "range" = none) (ha : FE X a f) (hb : FE X b f2) (hc : FE X c f3) (hg : Gl X "range" := by rfl) (hs : starEach [a, b, c] X.env = (false, eval a X.env) :: starEach [b, c] X.env := by rfl) (hs2 : starEach [b, c] X.env = (false, eval b X.env) :: starEach [c] X.env := by rfl) (hs3 : starEach [c] X.env = (false, eval c X.env) :: starEach [] X.env := by rfl) (hpl : (backTo pos (starEach [b, c] X.env)).any (·.1) = false := by rfl) :
    FI X tg (.Call (.Name "range" p) [a, b, c] [] pos) (iRange3 f f2 f3) :=
  PI.imp (pi_range3 hg hm (fa_cons ha (fa_cons hb (fa_cons hc fa_nil hs3) hs2) hs) hs hpl) fun σ H R ⟨w, l, xs, m', W, L, e, k⟩ => by
    simp only [iRange3, Option.bind_eq_some_iff] at e
    obtain ⟨⟨p, m1⟩, e1, ⟨q, m2⟩, e2, ⟨u, m3⟩, e3, e4⟩ := e
    match p, q, u, e4 with
    | .d (.int i), .d (.int j), .d (.int c), e4 =>
      simp only at e4
      split at e4
      · rename_i hj
        obtain ⟨h1, h2, h3, h4, h5⟩ := hj
        cases e4
        refine goA W L (show rA [f, f2, f3] l w.m = some ([S.d (.int i), S.d (.int j), S.d (.int c)], m') by simp [rA, e1, e2, e3]) fun w1 H1 vs c1 E1 W1 L1 s1 => ?_
        cases s1
        rename_i r rr
        cases rr
        rename_i r' rr
        cases rr
        rename_i r'' rr
        cases rr
        cases (show Dq X.K w1.P H1 _ (.int i) from r)
        cases (show Dq X.K w1.P H1 _ (.int j) from r')
        cases (show Dq X.K w1.P H1 _ (.int c) from r'')
        have hll : (lim : Int) = 1000000 := rfl
        have h6 := lim_le
        have h7 : lim = 1000000 := rfl
        exact ⟨i, j, c, (Builtin.Range.rangeSize i j c).toNat, rfl, ⟨h1, h2, h3, by omega⟩, k w1 H1 _ c1 E1 W1 (yl_rngC (by omega))⟩
      · cases e4
/-! ### list(x), to be changed -/
def eListM (a : RE) : RE := fun l m => (a l m).bind fun p => (deref p.2 p.1).bind fun d => (items d).map fun xs => (.r p.2.length, p.2 ++ [.lst (xs.map S.d)])
theorem seq_of {K : PySem.W.Frag} {w : Wo} {H : Hp} (W : Wd K w H) {v : V} {s : S} {d : PyData} {xs : List PyData} (h : SV K w H v s) (e : deref w.m s = some d) (e2 : items d = some xs) :
    xs.length ≤ sizeLine ∧ ∃ a vs, v = .ref a ∧ (SqL K H a vs ∨ SqT K H a vs) ∧ DqAll K w.P H vs xs := by
  have hd := h.deref W e
  cases d <;> try (cases e2; done)
  · rename_i ds
    cases e2
    obtain ⟨a, vs, rfl, h1, h2⟩ := hd.lst_inv
    refine ⟨?_, a, vs, rfl, .inl h1.seq, h2⟩
    cases s with
    | d x =>
      cases e
      obtain ⟨_, _, _, _, z, _⟩ := (show Dq K w.P H _ _ from h).lst_inv
      exact z
    | r n =>
      simp only [deref] at e
      cases q : w.m[n]? with
      | none => rw [q] at e; cases e
      | some o =>
        rw [q] at e
        cases o with
        | lst ss =>
          have e : (allD ss).map PyData.list = some (.list xs) := e
          rw [Option.map_eq_some_iff] at e
          obtain ⟨ds, q1, q2⟩ := e
          cases q2
          have := (W.lst n ss q).1
          rw [allD_eq q1, List.length_map] at this
          exact this
        | frz ds => cases e; exact (W.frz n _ q).1
        | dct kvs => cases e
        | dcT kvs => cases e
  · rename_i ds
    cases e2
    obtain ⟨a, vs, rfl, h1, h2, z, _⟩ := hd.tup_inv
    exact ⟨z, a, vs, rfl, .inr h1, h2⟩
theorem fe_listM (hm : X.mg "list" = none) (ha : FE X a f) (hg : Gl X "list" := by rfl) (hs : starEach [a] X.env = (false, eval a X.env) :: starEach [] X.env := by rfl) (hpl : (backTo pos (starEach [] X.env)).any (·.1) = false := by rfl) :
    FE X (.Call (.Name "list" p) [a] [] pos) (eListM f) :=
  PE.imp (pe_callTy call_list_of hg hm boot_list (fa_cons ha fa_nil hs) (by decide) (by decide) hs hpl) fun σ H Q ⟨w, l, s, m', W, L, e, k⟩ => by
    simp only [eListM, Option.bind_eq_some_iff, Option.map_eq_some_iff, Prod.mk.injEq] at e
    obtain ⟨q, e1, d, e2, xs, e3, rfl, rfl⟩ := e
    refine goA W L (show rA [f] l w.m = some ([q.1], q.2) by simp [rA, e1]) fun w1 H1 vs c1 E1 W1 L1 s1 => ?_
    cases s1
    rename_i r rr
    cases rr
    obtain ⟨z, a', us, rfl, h1, h2⟩ := seq_of W1 r (by rw [c1]; exact e2) e3
    refine ⟨a', us, rfl, h1, fun p hp => ?_⟩
    refine k (w1.push p (.lst (xs.map S.d))) _ _ (by rw [← c1]; rfl) (E1.trans (push_ex W1 hp)) (push_wd W1 hp (fun ss e => ?_) (fun _ e => by cases e) (fun _ e => by cases e)) ⟨by rw [← c1]; simp [Wo.push], by rw [← c1]; exact congrArg V.ref push_al'.symm⟩
    cases e
    exact ⟨by rw [List.length_map]; exact z, us, rfl, SVs.d h2⟩
/-! ### several targets, names or items of lists -/
inductive Tq where
  | nm (i : Nat)
  | ix (o i : RE)
/-- o[i] = v, o a list -/
def setL (m : Mem) : S → PyData → S → Option Mem
  | .r n, .int i, v => match m[n]? with
    | some (.lst ss) => (putI ss i v).map fun ss' => m.set n (.lst ss')
    | _ => none
  | _, _, _ => none
def runT : List Tq → List S → Lo → Mem → Option (Lo × Mem)
  | [], [], l, m => some (l, m)
  | .nm i :: ts, s :: ss, l, m => runT ts ss (l.set i (some s)) m
  | .ix o i :: ts, s :: ss, l, m => (o l m).bind fun p => (i l p.2).bind fun q => (deref q.2 q.1).bind fun k => (setL q.2 p.1 k s).bind fun m' => runT ts ss l m'
  | _, _, _, _ => none
def sParT (ts : List Tq) (as : List RE) : RS := fun l m => (rA as l m).bind fun p => (runT ts p.1 l p.2).map fun q => (.nx, q.1, q.2)
def gTq (K : PySem.W.Frag) (ts : List Tq) : TGs := fun vs σ H Q => ∃ w l ss l' m', Wd K w H ∧ SL K w H σ l ∧ SVs K w H vs ss ∧ runT ts ss l w.m = some (l', m') ∧ ∀ w' H' σ', w'.m = m' → Ex w H w' H' → Wd K w' H' → SL K w' H' σ' l' → Q σ' H'
def FTq (X : Cx) (es : List Expr) (ts : List Tq) : Prop := PGs X es (gTq X.K ts)
theorem ftq_nil : FTq X [] [] := PGs.imp pgs_nil fun v σ H Q ⟨w, l, ss, l', m', W, L, r, e, k⟩ => by
  cases r with
  | nil => cases e; exact ⟨rfl, k w H σ rfl (Ex.refl w H) W L⟩
  | cons _ _ => cases e
theorem ftq_nm (i : Nat) {x : Str} {es : List Expr} {ts : List Tq} (h2 : FTq X es ts) (hN : X.N.Nodup) (hi : X.N[i]? = some x := by rfl) (hx : Loc X.env.scope x := by first | exact Or.inl rfl | exact Or.inr rfl) (hf : X.fn x = true ∨ X.env.scope.names.lookup x = some .local := by first | exact .inl rfl | exact .inr rfl)
    (hs : (assignEach (.Name x p :: es) X.env).map (·.2) = assign (.Name x p) X.env :: (assignEach es X.env).map (·.2) := by rfl) : FTq X (.Name x p :: es) (.nm i :: ts) := PGs.imp (pgs_cons (pg_name hN hi hx hf) h2 hs) fun v σ H Q ⟨w, l, ss, l', m', W, L, r, e, k⟩ => by
  cases r with
  | nil => cases e
  | cons a b => exact ⟨_, _, rfl, w, _, _, l', m', W, L.set a i, b, e, k⟩
theorem ftq_ix {o i : Expr} {fo fi : RE} {es : List Expr} {ts : List Tq} (ho : FE X o fo) (hi : FE X i fi) (h2 : FTq X es ts)
    (has : ∀ v, assign (.Subscript o i p) X.env v = (do
      let ov ← holding [v] (eval o X.env)
      let iv ← holding [v, ov] (eval i X.env)
      standAt p
      holding [v, ov, iv] (setItem ov iv v)
      release [v, ov, iv] []) := by intro _; rfl)
    (hs : (assignEach (.Subscript o i p :: es) X.env).map (·.2) = assign (.Subscript o i p) X.env :: (assignEach es X.env).map (·.2) := by rfl) : FTq X (.Subscript o i p :: es) (.ix fo fi :: ts) := PGs.imp (pgs_cons (pg_sub ho hi set_list has) h2 hs) fun v σ H Q ⟨w, l, ss, l', m', W, L, r, e, k⟩ => by
  cases r with
  | nil => cases e
  | @cons vv s vs ss' a b =>
    simp only [runT, Option.bind_eq_some_iff] at e
    obtain ⟨po, e1, pi, e2, kk, e3, mm, e4, e5⟩ := e
    refine ⟨_, _, rfl, ?_⟩
    refine goF W L e1 fun w1 H1 v1 c1 E1 W1 L1 s1 => goF W1 L1 (by rw [c1]; exact e2) fun w2 H2 v2 c2 E2 W2 L2 s2 => ?_
    have s1' := s1.go W1 E2
    cases hp : po.1 with
    | d x => rw [hp] at e4; cases e4
    | r n =>
      rw [hp] at e4 s1'
      cases kk <;> try (cases e4; done)
      rename_i j
      simp only [setL] at e4
      cases hm : pi.2[n]? with
      | none => rw [hm] at e4; cases e4
      | some ob =>
        rw [hm] at e4
        cases ob with
        | frz ds => cases e4
        | dct kvs => cases e4
        | dcT kvs => cases e4
        | lst zs =>
          have e4 : (putI zs j s).map (fun ss' => pi.2.set n (.lst ss')) = some mm := e4
          simp only [putI, Option.map_eq_some_iff] at e4
          obtain ⟨_, ⟨jj, e7, rfl⟩, rfl⟩ := e4
          obtain ⟨hn, rfl⟩ := s1'
          have hm2 : w2.m[n]? = some (.lst zs) := by rw [c2]; exact hm
          obtain ⟨z, us, h2, h3⟩ := W2.lst n zs hm2
          have hlv : live w2.m n := by unfold live; rw [hm2]; rfl
          have hk := (s2.deref W2 (by rw [c2]; exact e3)).int_inv
          subst hk
          have a2 := (a.go W E1).go W1 E2
          have b2 := (SVs.go W E1 b).go W1 E2
          have E3 : Ex w2 H2 (w2.put n (.lst (zs.set jj s))) (upd H2 (w2.al n) (.lst (us.set jj vv))) := put_ex hlv
          have W3 : Wd X.K (w2.put n (.lst (zs.set jj s))) (upd H2 (w2.al n) (.lst (us.set jj vv))) := put_wd W2 hlv (fun ss' e => by cases e; exact ⟨by rw [List.length_set]; exact z, _, rfl, h3.setAt jj a2⟩) (fun _ e => by cases e) (fun _ e => by cases e)
          refine ⟨_, us, j, jj, rfl, rfl, h2, by rw [h3.len]; exact e7, ?_⟩
          refine ⟨w2.put n (.lst (zs.set jj s)), l, ss', l', m', W3, L2.go W2 E3, b2.go W2 E3, ?_, fun w' H' σ' c E W' L' => k w' H' σ' c (E1.trans (E2.trans (E3.trans E))) W' L'⟩
          rw [show (w2.put n (.lst (zs.set jj s))).m = pi.2.set n (.lst (zs.set jj s)) by rw [← c2]; rfl]
          exact e5
theorem fs_parT {ts : List Expr} {es : List Expr} {qs : List Tq} {as : List RE} {pt pt2 : Pos} {kt k2 : Nat} (hn : FTq X ts qs) (ha : FA X es (rA as)) (hl : as.length = qs.length := by rfl) (hc : X.calm = true := by rfl) (hcount : (assignEach ts X.env).length = qs.length := by rfl) (hst : (assignEach ts X.env).findIdx? (·.1) = none := by rfl) (hz : as.length ≤ 1000 := by decide)
    (hs : swapsWithSole [.Tuple ts kt pt] (.Tuple es k2 pt2) pos.line X.env = pure false := by rfl) (hw : swappedStores [.Tuple ts kt pt] (.Tuple es k2 pt2) X.env = pure none := by rfl)
    (h1 : (assignEach [.Tuple ts kt pt] X.env).map (·.2) = [assign (.Tuple ts kt pt) X.env] := by rfl) : FS X (.Assign [.Tuple ts kt pt] (.Tuple es k2 pt2) pos) (sParT qs as) :=
  PS.imp (ps_asg (pe_tup ha) (pg_tup hc hn hcount hst) hs hw h1) fun D σ H ⟨w, l, c, l', m', W, L, e, k⟩ => by
    simp only [sParT, Option.bind_eq_some_iff, Option.map_eq_some_iff, Prod.mk.injEq] at e
    obtain ⟨p, e1, q, e2, rfl, rfl, rfl⟩ := e
    refine goA W L e1 fun w1 H1 vs c1 E1 W1 L1 s1 => ?_
    have hlen : p.1.length = qs.length := (rA_len e1).trans hl
    refine ⟨by rw [s1.len, rA_len e1]; exact ok_len hz, fun q' hq => ?_⟩
    obtain ⟨E2, W2⟩ := W1.same (same_upd (o := .tup vs) hq)
    refine ⟨q', vs, rfl, .inl (.inl upd_same), by rw [s1.len, hlen], w1, l, p.1, q.1, q.2, W2, L1.go W1 E2, SVs.go W1 E2 s1, by rw [c1]; exact e2, fun w' H' σ' c E W' L' => k w' H' σ' c (E1.trans (E2.trans E)) W' L'⟩
end
end Fz

set_option linter.all false
set_option autoImplicit false
set_option maxRecDepth 100000
/-! FzS25: insert, bit_length, a fresh list by +. -/
namespace Fz
open PySem PySem.Spec PyProof.Rows L2
section
variable {X : Cx}
/-- l.insert(i, x), i not below 0 -/
def mInsert (m : Mem) : S → List S → Option (S × Mem)
  | .r n, [.d (.int i), v] => match m[n]? with
    | some (.lst ss) => if 0 ≤ i ∧ i ≤ lim ∧ ss.length < lim then some (.d .none, m.set n (.lst (ss.take i.toNat ++ [v] ++ ss.drop i.toNat))) else none
    | _ => none
  | _, _ => none
theorem SVs.take {K : PySem.W.Frag} {w : Wo} {H : Hp} : ∀ {vs : List V} {ss : List S}, SVs K w H vs ss → ∀ n, SVs K w H (vs.take n) (ss.take n)
  | _, _, .nil, n => by simp; exact .nil
  | _, _, .cons a b, 0 => .nil
  | _, _, .cons a b, n + 1 => .cons a (SVs.take b n)
theorem SVs.drop {K : PySem.W.Frag} {w : Wo} {H : Hp} : ∀ {vs : List V} {ss : List S}, SVs K w H vs ss → ∀ n, SVs K w H (vs.drop n) (ss.drop n)
  | _, _, .nil, n => by simp; exact .nil
  | _, _, .cons a b, 0 => .cons a b
  | _, _, .cons a b, n + 1 => SVs.drop b n
theorem fm_insert : FMt X "list.insert" mInsert := by
  intro pins s σ H x xs v us Q I rx rv ⟨w, sx, ss, r, m', W, hx, hs, e, q⟩
  cases sx with
  | d x => cases e
  | r n =>
    obtain ⟨hn, rfl⟩ := hx
    match ss, hs, e with
    | [.d (.int i), y], hs, e =>
      simp only [mInsert] at e
      cases hm : w.m[n]? with
      | none => rw [hm] at e; cases e
      | some ob =>
        rw [hm] at e
        cases ob with
        | lst zs =>
          simp only at e
          split at e
          · rename_i hi
            simp only [Option.some.injEq, Prod.mk.injEq] at e
            obtain ⟨rfl, rfl⟩ := e
            cases hs with
            | cons hiv hr =>
              rename_i iv rest
              obtain ⟨yv, rfl, hy⟩ := SVs.one hr
              cases (show Dq X.K w.P H iv (.int i) from hiv)
              obtain ⟨z, vs, h1, h2⟩ := W.lst n zs hm
              have hl := h2.len
              have hll : (lim : Int) = 1000000 := rfl
              have hz : zs.length < sizeLine := Nat.lt_of_lt_of_le hi.2.2 lim_le
              obtain ⟨E, W'⟩ := put_lst W hm (ss' := zs.take i.toNat ++ [y] ++ zs.drop i.toNat) (by
                rw [List.length_append, List.length_append, List.length_take, List.length_drop, List.length_singleton]; omega) (Paired.app (Paired.app (h2.take i.toNat) (.cons hy .nil)) (h2.drop i.toNat))
              exact mt_insert pins s σ H _ _ v us Q I rx rv ⟨_, vs, i, yv, rfl, rfl, h1, by omega, by omega, by omega, q _ _ _ rfl E W' Dq.non⟩
          · cases e
        | frz _ => cases e
        | dct _ => cases e
        | dcT _ => cases e
variable {a b : Expr} {fa fb : RE} {pos apos : Pos}
def pBits : PyData → Option PyData
  | .int i => some (.int (Builtin.Int.intBits i : Nat))
  | _ => none
theorem fe_bits (ho : FE X a fa) (hbase : attributeBase a "bit_length" X.env (eval a X.env) = eval a X.env := by rfl) (hline : (apos.endLine == pos.line) = true := by rfl) : FE X (.Call (.Attribute a "bit_length" apos) [] [] pos) (eUn pBits fa) := PE.imp (pe_bits ho hbase hline) fun σ H Q ⟨w, l, s, m', W, L, e, k⟩ => by
  simp only [eUn, Option.bind_eq_some_iff, Option.map_eq_some_iff, Prod.mk.injEq] at e
  obtain ⟨p, e1, d, e2, r, e3, rfl, rfl⟩ := e
  cases d <;> try (cases e3; done)
  rename_i i
  cases e3
  refine goF W L e1 fun w1 H1 v1 c1 E1 W1 L1 s1 => ?_
  have := (s1.deref W1 (by rw [c1]; exact e2)).int_inv
  subst this
  exact ⟨i, rfl, k w1 H1 _ c1 E1 W1 (.int _)⟩
/-- a list that is made by + -/
def rAddM (K : PySem.W.Frag) : R2 := fun x y H Q => ∃ P ds es, Dt K P H x (.list ds) ∧ Dt K P H y (.list es) ∧ ds.length + es.length ≤ lim ∧ ∀ p zs, H p = none → DqAll K P H zs (ds ++ es) → Q (.ref p) (upd H p (.lst zs))
theorem fo_addM : OpR X (binaryOp .Add) (rAddM X.K) := by
  intro pins s σ H x y v u Q I rx ry ⟨P, ds, es, hd, he, hz, q⟩
  obtain ⟨a, xs, rfl, h1, h2⟩ := hd.lst_inv
  obtain ⟨b, ys, rfl, h3, h4⟩ := he.lst_inv
  cases rx
  cases ry
  obtain ⟨z, its, n, r, hl, e⟩ := I.rdL h1
  obtain ⟨z2, its2, n2, r2, hl2, e2⟩ := I.rdL h3
  have hz2 : its.length + its2.length ≤ sizeLine := by rw [← hl, ← hl2, h2.len, h4.len]; exact Nat.le_trans hz lim_le
  refine PySem.P.add_list e e2 ?_ (by rw [List.size_toArray, List.size_toArray]; exact hz2)
  have ea : its.toArray ++ its2.toArray = (its ++ its2).toArray := by simp
  rw [ea]
  exact ⟨.ref _, _, I.lnew (t' := s.toks) (r.append r2) (by rw [List.length_append]; omega), rfl, q _ _ I.fresh (h2.app h4)⟩
def eAddM (a b : RE) : RE := fun l m => (a l m).bind fun p => (b l p.2).bind fun q => (deref q.2 p.1).bind fun d => (deref q.2 q.1).bind fun e => match d, e with
  | .list xs, .list ys => if xs.length + ys.length ≤ lim then some (.r q.2.length, q.2 ++ [.lst ((xs ++ ys).map S.d)]) else none
  | _, _ => none
theorem fe_addM (ha : FE X a fa) (hb : FE X b fb) : FE X (.BinOp a .Add b pos) (eAddM fa fb) := PE.imp (pe_op fo_addM ha hb) fun σ H Q ⟨w, l, s, m', W, L, e, k⟩ => by
  simp only [eAddM, Option.bind_eq_some_iff] at e
  obtain ⟨p, e1, q, e2, d, e3, d2, e4, e5⟩ := e
  cases d <;> cases d2 <;> try (cases e5; done)
  rename_i xs ys
  simp only at e5
  split at e5
  · rename_i hz
    cases e5
    refine goF W L e1 fun w1 H1 v1 c1 E1 W1 L1 s1 => goF W1 L1 (by rw [c1]; exact e2) fun w2 H2 v2 c2 E2 W2 L2 s2 => ?_
    refine ⟨w2.P, xs, ys, (s1.go W1 E2).deref W2 (by rw [c2]; exact e3), s2.deref W2 (by rw [c2]; exact e4), hz, fun p' zs hp hq => ?_⟩
    refine k (w2.push p' (.lst ((xs ++ ys).map S.d))) _ _ (by rw [← c2]; rfl) (E1.trans (E2.trans (push_ex W2 hp))) (push_wd W2 hp (fun ss e => ?_) (fun _ e => by cases e) (fun _ e => by cases e)) ⟨by rw [← c2]; simp [Wo.push], by rw [← c2]; exact congrArg V.ref push_al'.symm⟩
    cases e
    exact ⟨by rw [List.length_map, List.length_append]; exact Nat.le_trans hz lim_le, zs, rfl, SVs.d hq⟩
  · cases e5
end
end Fz

set_option linter.all false
set_option autoImplicit false
set_option maxRecDepth 100000
/-! FzS26: x.count(y), x.index(y) of a list or a tuple. -/
namespace Fz
open PySem PySem.Spec PyProof.Rows L2
def ctOk (ds : List PyData) (d : PyData) : Bool := SeqAt.shaped (.list ds) && SeqAt.shaped d
def pCount : PyData → PyData → Option PyData
  | .tuple ds, d => if ctOk ds d = true then some (.int ((ds.countP fun y => PyData.eqv y d : Nat) : Int)) else none
  | .list ds, d => if ctOk ds d = true then some (.int ((ds.countP fun y => PyData.eqv y d : Nat) : Int)) else none
  | _, _ => none
def pIndex : PyData → PyData → Option PyData
  | .tuple ds, d => if ctOk ds d = true then (ds.findIdx? fun y => PyData.eqv y d).map fun j => .int (j : Nat) else none
  | .list ds, d => if ctOk ds d = true then (ds.findIdx? fun y => PyData.eqv y d).map fun j => .int (j : Nat) else none
  | _, _ => none
/-- a method with one argument -/
def eMt (g : PyData → PyData → Option PyData) (a b : RE) : RE := fun l m => (a l m).bind fun p => (deref p.2 p.1).bind fun d0 => (items d0).bind fun _ => (b l p.2).bind fun q => (deref q.2 p.1).bind fun d => if kindL d = kindL d0 then (deref q.2 q.1).bind fun e => (g d e).map fun r => (.d r, q.2) else none
where kindL : PyData → Bool
  | .list _ => true
  | _ => false
section
variable {X : Cx} {pins : List (Addr × Obj)} {σ : L2.St} {H : Hp} {s : Shared}
theorem sqn_ty (I : Inv X pins σ H s) {a : Addr} {xs : List V} (h : SqN X.K H a xs) : s.TypeIs (.ref a) "tuple" ∧ ∀ b, Value.ref a = .ref b → ∃ ob, s.heap.get? b = some ob ∧ ob.dict = none := by
  rcases h with ⟨o, h, hd⟩ | ⟨o, its, n, hk, hc, hd, _⟩
  · obtain ⟨e, _, its, _, o', e', c, _⟩ := I.hok a _ h
    rw [e] at e'; cases e'
    exact ⟨⟨o, e, c⟩, fun b q => by cases q; exact ⟨o, e, hd⟩⟩
  · exact ⟨⟨o, I.kIn a o hk, hc⟩, fun b q => by cases q; exact ⟨o, I.kIn a o hk, hd⟩⟩
theorem sql_ty (I : Inv X pins σ H s) {a : Addr} {xs : List V} (h : SqL X.K H a xs) : s.TypeIs (.ref a) "list" ∧ ∀ b, Value.ref a = .ref b → ∃ ob, s.heap.get? b = some ob ∧ ob.dict = none := by
  obtain ⟨its, _, pl, _⟩ := I.list h
  refine ⟨pl.isList.typeIs, fun b q => ?_⟩
  cases q
  obtain ⟨o, n, e, c, hd, _⟩ := pl
  exact ⟨o, e, hd⟩
theorem ct_facts {ds : List PyData} {d : PyData} (h : ctOk ds d = true) : PyData.plainAll ds = true ∧ d.plain = true ∧ PyData.canLayAll0 ds = true ∧ d.canLay0 = true ∧ d.depth ≤ 64 := by
  unfold ctOk at h
  rw [Bool.and_eq_true] at h
  have h1 : PyData.canLayAll0 ds = true := SeqAt.canLay_of_shaped h.1
  have h2 := SeqAt.canLay_of_shaped h.2
  exact ⟨PyData.plainAll_of_canLay0 _ h1, PyData.plain_of_canLay0 _ h2, h1, h2, SeqAt.depth_of_shaped h.2⟩
/-- what a method tells of data -/
structure MtD (X : Cx) (idT idL : String) (g : PyData → PyData → Option PyData) : Prop where
  tup : ∀ {A : Around} {E : Value → Shared → Prop} {pins : List (Addr × Obj)} {σ : L2.St} {H : Hp} {s : Shared} {P : Addr → Prop} {a : Addr} {xs : List V} {ds : List PyData} {d r : PyData} {y : V} {u : Value} {Q : Value → Shared → Prop}, A.units + 70 < cLine → Inv X pins σ H s → SqT X.K H a xs → DqAll X.K P H xs ds → Dt X.K P H y d → RelV y u → g (.tuple ds) d = some r →
    (∀ w s' v, Inv X pins σ H s' → Dq X.K P H v r → RelV v w → Q w s') → wpAny (model X.prog X.w) A (call (.builtin idT) [.ref a, u]) Q E s
  lst : ∀ {A : Around} {E : Value → Shared → Prop} {pins : List (Addr × Obj)} {σ : L2.St} {H : Hp} {s : Shared} {P : Addr → Prop} {a : Addr} {xs : List V} {ds : List PyData} {d r : PyData} {y : V} {u : Value} {Q : Value → Shared → Prop}, A.units + 70 < cLine → Inv X pins σ H s → SqL X.K H a xs → DqAll X.K P H xs ds → Dt X.K P H y d → RelV y u → g (.list ds) d = some r →
    (∀ w s' v, Inv X pins σ H s' → Dq X.K P H v r → RelV v w → Q w s') → wpAny (model X.prog X.w) A (call (.builtin idL) [.ref a, u]) Q E s
theorem mtd_count : MtD X "tuple.count" "list.count" pCount where
  tup := by
    intro A E pins σ H s P a xs ds d r y u Q hu I ha hd hy ry e k
    simp only [pCount] at e
    split at e
    · rename_i hc
      cases e
      obtain ⟨p1, p2, _, _, p5⟩ := ct_facts hc
      obtain ⟨its, rv, it, _⟩ := I.tuple ha
      obtain ⟨as, r1, _⟩ := DqAll.readsAll I hd rv
      obtain ⟨bs, r2, _⟩ := Dt.reads I hy ry
      exact SeqAt.count_tuple_data it (show ReadsAll s.heap its.toArray.toList ds as by simpa using r1) r2 p1 p2 (by have := Nat.min_le_right (PyData.depthAll ds) d.depth; omega) (k _ _ _ (I.tok _) (.int _) ⟨_, rfl⟩)
    · cases e
  lst := by
    intro A E pins σ H s P a xs ds d r y u Q hu I ha hd hy ry e k
    simp only [pCount] at e
    split at e
    · rename_i hc
      cases e
      obtain ⟨p1, p2, _, _, p5⟩ := ct_facts hc
      obtain ⟨its, rv, pl, _⟩ := I.list ha
      obtain ⟨as, r1, _⟩ := DqAll.readsAll I hd rv
      obtain ⟨bs, r2, _⟩ := Dt.reads I hy ry
      exact SeqAt.count_list_data pl.isList (show ReadsAll s.heap its.toArray.toList ds as by simpa using r1) r2 p1 p2 (by have := Nat.min_le_right (PyData.depthAll ds) d.depth; omega) (k _ _ _ (I.tok _) (.int _) ⟨_, rfl⟩)
    · cases e
theorem mtd_index : MtD X "tuple.index" "list.index" pIndex where
  tup := by
    intro A E pins σ H s P a xs ds d r y u Q hu I ha hd hy ry e k
    simp only [pIndex] at e
    split at e
    · rename_i hc
      rw [Option.map_eq_some_iff] at e
      obtain ⟨j, e, rfl⟩ := e
      obtain ⟨p1, p2, _, _, p5⟩ := ct_facts hc
      obtain ⟨its, rv, ⟨⟨cls, dd, data, sl⟩, ho, hcl, n, hdt⟩, hz⟩ := I.tuple ha
      simp only at hcl hdt
      subst hcl hdt
      obtain ⟨as, r1, _⟩ := DqAll.readsAll I hd rv
      obtain ⟨bs, r2, _⟩ := Dt.reads I hy ry
      have rs : ReadsAll s.heap its.toArray.toList ds as := by simpa using r1
      obtain ⟨hj, h1, h2⟩ := SeqAt.hit_at rs p1 (j := j) e
      exact call_meets PySem.F.slot_tuple_index ⟨_, ho, rfl⟩ PySem.F.entry_tuple_index (PySem.F.args_tuple_index_2 _ _) (TI.tuple_indexAt a its.toArray n dd sl u (fun u => PyData.eqv (SeqAt.readOf s.heap u) d) j hj h1 h2)
        ⟨ho, SeqAt.items_plain rs r2 p1 p2 (by have := Nat.min_le_right (PyData.depthAll ds) d.depth; omega), k _ _ _ (I.tok _) (.int _) ⟨_, rfl⟩⟩
    · cases e
  lst := by
    intro A E pins σ H s P a xs ds d r y u Q hu I ha hd hy ry e k
    simp only [pIndex] at e
    split at e
    · rename_i hc
      rw [Option.map_eq_some_iff] at e
      obtain ⟨j, e, rfl⟩ := e
      obtain ⟨p1, p2, _, _, p5⟩ := ct_facts hc
      obtain ⟨its, rv, ⟨⟨cls, dd, data, sl⟩, n, ho, hcl, hdn, hdt⟩, hz⟩ := I.list ha
      simp only at hcl hdt
      subst hcl hdt
      obtain ⟨as, r1, _⟩ := DqAll.readsAll I hd rv
      obtain ⟨bs, r2, _⟩ := Dt.reads I hy ry
      have rs : ReadsAll s.heap its.toArray.toList ds as := by simpa using r1
      obtain ⟨hj, h1, h2⟩ := SeqAt.hit_at rs p1 (j := j) e
      have hl := rv.length
      have hsl := sizeLine_eq
      have hjl : j < its.length := by simpa using hj
      exact call_meets PySem.F.slot_list_index ⟨_, ho, rfl⟩ PySem.F.entry_list_index (PySem.F.args_list_index_2 _ _) (SeqAt.list_indexAt a its.toArray n dd sl u (fun u => PyData.eqv (SeqAt.readOf s.heap u) d) j hj (by omega) h1 h2)
        ⟨ho, SeqAt.items_plain rs r2 p1 p2 (by have := Nat.min_le_right (PyData.depthAll ds) d.depth; omega), k _ _ _ (I.tok _) (.int _) ⟨_, rfl⟩⟩
    · cases e
end
section
variable {X : Cx} {a b : Expr} {fa fb : RE} {apos cpos : Pos} {name : Str} {idT idL : String} {g : PyData → PyData → Option PyData}
theorem fe_mt (hu : X.A.units + 70 < cLine) (hm : MtD X idT idL g) (slotT : Slot "tuple" name idT) (tyT : typeOf (.builtin idT) = pure (.type "method_descriptor")) (slotL : Slot "list" name idL) (tyL : typeOf (.builtin idL) = pure (.type "method_descriptor"))
    (ha : FE X a fa) (hb : FE X b fb) (hbase : attributeBase a name X.env (eval a X.env) = eval a X.env := by rfl)
    (hfew : ((backTo cpos (starEach [b] X.env)).all (fun x => !x.1) && (backToKw cpos (keywordEach [] X.env)).all (fun x => x.1.isSome)
      && decide ([b].length + ([] : List Keyword).length + (if ([] : List Keyword).isEmpty then 0 else 1) < 30)) = true := by rfl)
    (hline : (apos.endLine == cpos.line) = true := by rfl) (hs : starEach [b] X.env = (false, eval b X.env) :: starEach [] X.env := by rfl) (hplain : (backTo cpos (starEach [] X.env)).any (·.1) = false := by rfl) :
    FE X (.Call (.Attribute a name apos) [b] [] cpos) (eMt g fa fb) := by
  refine ⟨fun pins s σ H Q I h => ?_⟩
  obtain ⟨w, l, s0, m', W, L, e, k⟩ := h
  simp only [eMt, Option.bind_eq_some_iff] at e
  obtain ⟨p, e1, d0, e2, x0, e3, q, e4, d, e5, e6⟩ := e
  split at e6
  · rename_i hk
    simp only [Option.bind_eq_some_iff, Option.map_eq_some_iff, Prod.mk.injEq] at e6
    obtain ⟨d2, e7, r, e8, rfl, rfl⟩ := e6
    refine wpAny_Call_method_late hbase hfew hline rfl (thn (ha.run pins s σ H (fun v1 H1 => ∃ w1, w1.m = p.2 ∧ Ex w H w1 H1 ∧ Wd X.K w1 H1 ∧ SL X.K w1 H1 σ l ∧ SV X.K w1 H1 v1 p.1) I (goF W L e1 fun w1 H1 v1 c1 E1 W1 L1 s1 => ⟨w1, c1, E1, W1, L1, s1⟩)) fun v s1 ⟨x, H1, I1, r1, w1, c1, E1, W1, L1, sv1⟩ => ?_)
    have hd0 := sv1.deref W1 (by rw [c1]; exact e2)
    -- behind the argument
    have arg : ∀ (id : String), (∀ s2 H2 w2 y u, Inv X pins σ H2 s2 → w2.m = q.2 → Ex w1 H1 w2 H2 → Wd X.K w2 H2 → SV X.K w2 H2 x p.1 → SV X.K w2 H2 y q.1 → RelV y u → wpAny (model X.prog X.w) X.A (call (.builtin id) [v, u]) (EP X pins σ Q) X.xe s2) →
        wpAny (model X.prog X.w) X.A (callWith cpos (.builtin id) [v] (backTo cpos (starEach [b] X.env)) []) (EP X pins σ Q) X.xe s1 := by
      intro id hh
      have hA := (fa_cons hb fa_nil hs).run cpos pins s1 σ H1 (fun vs H2 => ∃ w2 y, vs = [y] ∧ w2.m = q.2 ∧ Ex w1 H1 w2 H2 ∧ Wd X.K w2 H2 ∧ SV X.K w2 H2 y q.1) I1 (goA W1 L1 (show rA [fb] l w1.m = some ([q.1], q.2) by simp [rA, c1, e4]) fun w2 H2 vs c2 E2 W2 L2 s2 => by
        cases s2 with
        | cons a r => cases r; exact ⟨w2, _, rfl, c2, E2, W2, a⟩)
      rw [hs] at hA ⊢
      refine Calls.callWith_builtin (by show (false || (backTo cpos (starEach [] X.env)).any (·.1)) = false; rw [hplain]; rfl) (Calls.evalArgs_plain ?_)
      refine thn hA fun us s2 ⟨vs, H2, I2, r2, w2, y, ev, c2, E2, W2, sy⟩ => ?_
      subst ev
      obtain ⟨u, rfl, ry⟩ := r2.one
      exact hh s2 H2 w2 y u I2 c2 E2 W2 (sv1.go W1 E2) sy ry
    -- behind the call
    have fin : ∀ s2 H2 (w2 : Wo), Inv X pins σ H2 s2 → w2.m = q.2 → Ex w1 H1 w2 H2 → Wd X.K w2 H2 → ∀ w' s' v', Inv X pins σ H2 s' → Dq X.K w2.P H2 v' r → RelV v' w' → EP X pins σ Q w' s' := fun s2 H2 w2 I2 c2 E2 W2 w' s' v' I' dv rv =>
      ⟨v', H2, I', rv, k w2 H2 v' c2 (E1.trans E2) W2 dv⟩
    cases d0 <;> try (cases e3; done)
    case list ds0 =>
      obtain ⟨a0, xs0, rfl, h1, _⟩ := hd0.lst_inv
      cases (show v = Value.ref a0 from r1)
      obtain ⟨t1, t2⟩ := sql_ty I1 h1.seq
      cases d <;> try (simp [eMt.kindL] at hk; done)
      rename_i ds
      refine ⟨"list", idL, F.plainAttrs_list, slotL, tyL, t1, t2, arg idL fun s2 H2 w2 y u I2 c2 E2 W2 sx sy ry => ?_⟩
      obtain ⟨a1, xs1, e', h2, h3⟩ := (sx.deref W2 (by rw [c2]; exact e5)).lst_inv
      cases e'
      exact hm.lst hu I2 h2.seq h3 (sy.deref W2 (by rw [c2]; exact e7)) ry e8 (fin s2 H2 w2 I2 c2 E2 W2)
    case tuple ds0 =>
      obtain ⟨a0, xs0, rfl, h1, h2, _⟩ : ∃ a xs, x = .ref a ∧ SqN X.K H1 a xs ∧ DqAll X.K w1.P H1 xs ds0 ∧ True := by
        rcases hd0 with h | ⟨_, _, _, _, _, _, e⟩
        · obtain ⟨a, xs, e, h1, _, h3⟩ := Dq.tup_invN h
          exact ⟨a, xs, e, h1, h3, trivial⟩
        · cases e
      cases (show v = Value.ref a0 from r1)
      obtain ⟨t1, t2⟩ := sqn_ty I1 h1
      refine ⟨"tuple", idT, F.plainAttrs_tuple, slotT, tyT, t1, t2, arg idT fun s2 H2 w2 y u I2 c2 E2 W2 sx sy ry => ?_⟩
      have hp : p.1 = .d (.tuple ds0) := by
        revert e2
        cases p.1 with
        | d z => intro e2; cases e2; rfl
        | r n =>
          intro e2
          simp only [deref] at e2
          split at e2
          · rw [Option.map_eq_some_iff] at e2; obtain ⟨_, _, z⟩ := e2; cases z
          · cases e2
          · cases e2
      rw [hp] at e5 sx
      cases e5
      obtain ⟨a1, xs1, e', h3, _, h4⟩ := Dq.tup_inv (show Dq X.K w2.P H2 (.ref a0) (.tuple ds0) from sx)
      cases e'
      exact hm.tup hu I2 h3 h4 (sy.deref W2 (by rw [c2]; exact e7)) ry e8 (fin s2 H2 w2 I2 c2 E2 W2)
  · cases e6
/-- a body of which nothing is told -/
theorem fss_none {st : List Stmt} : FSs X st (fun _ _ => none) := ⟨fun pins s σ H D I ⟨w, l, c, l', m', _, _, e, _⟩ => nomatch e⟩
theorem hu70 {A : Around} {k : Nat} (r : Room k A) : A.units + 70 < cLine := by have := r.un; omega
end
end Fz

set_option linter.all false
set_option autoImplicit false
set_option maxRecDepth 100000
/-! FzS27: t[::-1] of a tuple; xs[i::c] of a list. -/
namespace HT
open PySem PySem.Spec PyProof.Rows
section
variable {prog : Program} {w : World} {A : Around} {E : Value → Shared → Prop} {s : Shared}
theorem rev_range {α : Type} (xs : List α) : ((List.range xs.length).filterMap fun (m : Nat) => xs[(((xs.length : Int) - 1) + (m : Int) * (-1)).toNat]?) = xs.reverse := by
  have e : ∀ m, m ∈ List.range xs.length → xs[(((xs.length : Int) - 1) + (m : Int) * (-1)).toNat]? = xs.reverse[m]? := fun m hm => by
    have hm := List.mem_range.mp hm
    rw [List.getElem?_reverse hm]
    congr 1; omega
  have : ∀ (is : List Nat), (∀ m, m ∈ is → xs[(((xs.length : Int) - 1) + (m : Int) * (-1)).toNat]? = xs.reverse[m]?) → is.filterMap (fun m : Nat => xs[(((xs.length : Int) - 1) + (m : Int) * (-1)).toNat]?) = is.filterMap (fun m => xs.reverse[m]?) := fun is => by
    induction is with
    | nil => intro _; rfl
    | cons i is ih => intro h; simp only [List.filterMap_cons, h i (by simp), ih fun m hm => h m (by simp [hm])]
  rw [this _ e]
  have h2 := PySem.W.krv_all xs.reverse.toArray
  simp only [List.size_toArray, List.length_reverse] at h2
  simpa using h2
theorem sliceApplied_rev {sl : Addr} {vs : Value} {n : Nat} {Q : Int × Int × Nat → Shared → Prop} (hs : s.heap.IsSliceOf sl .none .none vs) (ps : IsPart vs (some (-1)))
    (h : Q ((n : Int) - 1, -1, n) s) : wpAny (model prog w) A (Builtin.Slice.sliceApplied (.ref sl) (pure (n : Int))) Q E s := by
  obtain ⟨os, hos, hcs, hds⟩ := id hs
  unfold Builtin.Slice.sliceApplied Builtin.Slice.sliceFields
  refine wpAny_bind (wpAny_bind (wpAny_field hos hds (x := .none) rfl (wpAny_bind (wpAny_field hos hds (x := .none) rfl (wpAny_bind (wpAny_field hos hds (x := vs) rfl (wpAny_pure ?_)))))))
  refine wpAny_bind (slicePart_ ps ?_)
  show wpAny _ _ (if ((-1 : Int) == 0) = true then _ else _) _ _ s
  rw [if_neg (by decide)]
  refine wpAny_bind (slicePart_none (wpAny_bind (slicePart_none (wpAny_bind (wpAny_pure ?_)))))
  show wpAny _ _ (pure ((n : Int) - 1, (-1 : Int), Builtin.Slice.slicePlaces ((n : Int) - 1) (-1) (-1))) _ _ s
  have e : Builtin.Slice.slicePlaces ((n : Int) - 1) (-1) (-1) = n := by
    unfold Builtin.Slice.slicePlaces
    rw [if_neg (by decide)]
    split
    · rw [show (- -1 : Int) = 1 by decide, Int.ediv_one]; omega
    · rw [show n = 0 by omega]; rfl
  rw [e]
  exact wpAny_pure h
theorem getItem_tuple_rev {t sl : Addr} {items : Array Value} {vs : Value} {Q : Value → Shared → Prop} (ht : IsTup s.heap t items) (hs : s.heap.IsSliceOf sl .none .none vs) (ps : IsPart vs (some (-1)))
    (h : Q (.ref s.heap.objs.size) { s with heap := s.heap.push { cls := .type "tuple", data := .seq items.toList.reverse.toArray } })
    (hsz : items.size ≤ sizeLine) : wpAny (model prog w) A (getItem (.ref t) (.ref sl)) Q E s := by
  have htake : sizeOk (.seq items.toList.reverse.toArray) := by
    show items.toList.reverse.toArray.size ≤ sizeLine
    rw [List.size_toArray, List.length_reverse, Array.length_toList]; exact hsz
  obtain ⟨os, hos, hcs, hds⟩ := id hs
  have hTs : s.TypeIs (.ref sl) "slice" := ⟨os, hos, hcs⟩
  unfold getItem
  try with_reducible refine wpAny_holding ?_
  first | refine wpAny_bind (wpAny_pure ?_) | skip
  refine wpAny_bind (wpAny_sequenceKey ht.typeIs (by decide) ?_)
  refine wpAny_bind (wpAny_callSpecial?_slot (name := Str.ofString "__getitem__") ht.typeIs PyProof.Rows.slot_tuple_getitem
    (wpAny_call_entry PyProof.Rows.slot_tuple_getitem ht.typeIs entry_tuple_getitem ?_ (args_tuple_getitem _ _)))
  show wpAny _ _ (Builtin.Tuple.tupleItemsOf (.ref t) >>= _) _ _ s
  refine wpAny_bind (tupleItemsOf_ ht ?_)
  refine wpAny_bind (wpAny_typeOf hTs ?_)
  rw [if_pos (by decide)]
  refine wpAny_bind (sliceApplied_rev hs ps ?_)
  have hno : ¬ (((items.size : Int) - 1 == 0 && (-1 : Int) == 1 && items.size == items.size) = true) := by
    intro q
    rw [Bool.and_eq_true, Bool.and_eq_true] at q
    exact absurd q.1.2 (by decide)
  show wpAny _ _ (if ((items.size : Int) - 1 == 0 && (-1 : Int) == 1 && items.size == items.size) = true then _ else _) _ _ s
  rw [if_neg hno]
  have e : ((List.range items.size).filterMap fun (m : Nat) => items[(((items.size : Int) - 1) + (m : Int) * (-1)).toNat]?).toArray = items.toList.reverse.toArray := by
    have := rev_range items.toList
    simp only [Array.length_toList, Array.getElem?_toList] at this
    rw [this]
  rw [e]
  first
    | exact wpAny_bind (m := Builtin.Tuple.tupleExact _) (wpAny_newObj_type (wpAny_pure ⟨_, rfl, wpAny_pure h⟩) htake)
    | exact wpAny_bind (m := Builtin.Tuple.tupleExact _) (wpAny_newObj_type (wpAny_bind (wpAny_pure (wpAny_pure ⟨_, rfl, wpAny_pure h⟩))) htake)
    | exact wpAny_bind (wpAny_bind (m := Builtin.Tuple.tupleExact _) (wpAny_newObj_type (wpAny_pure (wpAny_pure ⟨_, rfl, wpAny_pure h⟩)) htake))
    | exact wpAny_bind (wpAny_bind (m := Builtin.Tuple.tupleExact _) (wpAny_newObj_type (wpAny_pure ⟨_, rfl, wpAny_pure h⟩) htake))
end
end HT

namespace Fz
open PySem PySem.Spec PyProof.Rows L2 HT
section
variable {X : Cx} {a : Expr} {f : RE} {p1 p2 p3 pos : Pos}
/-- what e[::-1] is, of a list or a tuple -/
def tRevA (K : PySem.W.Frag) (te : TE) : TE := fun σ H Q => te σ H fun x H1 => (∃ a xs, x = .ref a ∧ SqL K H1 a xs ∧ ∀ p, H1 p = none → Q (.ref p) (upd H1 p (.lst xs.reverse))) ∨ (∃ a xs, x = .ref a ∧ SqT K H1 a xs ∧ kNew H1 xs.reverse Q)
theorem pe_revA {e : Expr} {te : TE} {k : Nat} (he : PE X e te) : PE X (.Subscript e (.Slice none none (some (.UnaryOp .USub (.Constant (.int 1) k p1) p2)) p3) pos) (tRevA X.K te) := by
  refine ⟨fun pins s σ H Q I h => ?_⟩
  refine Subscript_ (thn (he.run pins s σ H _ I h) fun v s1 ⟨x, H1, I1, r1, q1⟩ => ?_)
  have hst : PO X (some (.UnaryOp .USub (.Constant (.int 1) k p1) p2)) (tPart (tUn (rU fun i => .int (-i)) (tC (.int 1)))) := po_some (pe_un un_neg pe_int)
  refine wpAny_Slice (thn (po_none.run pins s1 σ H1 (fun o H2 => o = none ∧ H2 = H1) I1 ⟨rfl, rfl⟩) fun vl s2 ⟨l, H2, I2, pl, el, e2⟩ => ?_)
  subst el e2
  refine thn (po_none.run pins s2 σ H2 (fun o H3 => o = none ∧ H3 = H2) I2 ⟨rfl, rfl⟩) fun vu s3 ⟨u, H3, I3, pu, eu, e3⟩ => ?_
  subst eu e3
  refine thn (hst.run pins s3 σ H3 (fun o H4 => o = some (-1) ∧ H4 = H3) I3 ⟨1, rfl, -1, rfl, rfl, rfl⟩) fun vs s4 ⟨o, H4, I4, ps, eo, e4⟩ => ?_
  subst eo e4
  have I5 : Inv X pins σ H4 { s4 with heap := s4.heap.push { cls := .type "slice", data := .fields #[vl, vu, vs] } } := I4.kept (t' := s4.toks) fun b ob q => Heap.get?_push_of_some _ q
  rcases q1 with ⟨a, xs, ex, hx, q⟩ | ⟨a, xs, ex, hx, q⟩
  · subst ex
    cases r1
    obtain ⟨its, r, ht, hz⟩ := I5.list hx
    have hlen := r.length
    show wpAny (model X.prog X.w) X.A (subscriptTail e (.Slice none none (some (.UnaryOp .USub (.Constant (.int 1) k p1) p2)) p3) (.ref a) (.ref s4.heap.objs.size)) (EP X pins σ Q) X.xe { s4 with heap := s4.heap.push { cls := .type "slice", data := .fields #[vl, vu, vs] } }
    refine tail_any (ops := [.ref a, .ref s4.heap.objs.size]) ht.isList.typeIs (PySem.slot_list_getitem.lookup) ?_ (by with_unfolding_all rfl)
    refine wpAny_getItem_list_slice ht.isList (Heap.IsSliceOf.new _ vl vu vs) pl pu ps (by decide) ?_ (by rw [List.size_toArray]; omega)
    rw [PySem.W.krv_pick]
    refine ⟨.ref _, _, I5.laid (t' := s4.toks) (o := .lst xs.reverse) (fun b ob q => Heap.get?_push_of_some _ q) (Nat.le_refl _) ?_, rfl, q _ (I5.hok.fresh (Nat.le_refl _))⟩
    exact ⟨by rw [List.length_reverse]; exact hz, _, 0, r.reverse, Heap.get?_push_size _ rfl⟩
  · subst ex
    cases r1
    obtain ⟨its, r, ht, hz⟩ := I5.tuple hx
    have hlen := r.length
    show wpAny (model X.prog X.w) X.A (subscriptTail e (.Slice none none (some (.UnaryOp .USub (.Constant (.int 1) k p1) p2)) p3) (.ref a) (.ref s4.heap.objs.size)) (EP X pins σ Q) X.xe { s4 with heap := s4.heap.push { cls := .type "slice", data := .fields #[vl, vu, vs] } }
    refine tail_any (ops := [.ref a, .ref s4.heap.objs.size]) ht.typeIs (PyProof.Rows.slot_tuple_getitem.lookup) ?_ (by with_unfolding_all rfl)
    cases pl
    cases pu
    refine getItem_tuple_rev ht (Heap.IsSliceOf.new _ .none .none vs) ps ?_ (by rw [List.size_toArray]; omega)
    exact EP.newT (us := its.reverse) I5 r.reverse (by rw [List.length_reverse]; exact hz) q
def revA : PyData → Option PyData
  | .list xs => some (.list xs.reverse)
  | .tuple xs => some (.tuple xs.reverse)
  | _ => none
theorem fe_revA {k : Nat} (ha : FE X a f) : FE X (.Subscript a (.Slice none none (some (.UnaryOp .USub (.Constant (.int 1) k p1) p2)) p3) pos) (eUn revA f) :=
  PE.imp (pe_revA (pe_inv ha)) fun σ H Q ⟨w, l, s, m', W, L, e, k⟩ => by
    simp only [eUn, Option.bind_eq_some_iff, Option.map_eq_some_iff, Prod.mk.injEq] at e
    obtain ⟨⟨p, m1⟩, e1, d, e2, r, e3, rfl, rfl⟩ := e
    refine goF W L e1 fun w1 H1 v1 c1 E1 W1 L1 s1 => ?_
    intro ⟨pins, sh, I⟩
    have hd := s1.deref W1 (by rw [c1]; exact e2)
    cases d <;> try (cases e3; done)
    case list ds =>
      cases e3
      obtain ⟨a, xs, rfl, h1, h2⟩ := hd.lst_inv
      refine .inl ⟨a, xs, rfl, h1.seq, fun p hp => ?_⟩
      obtain ⟨S0, dq⟩ := new_lst (K := X.K) (P := w1.P) (rev_all h2) (by rw [List.length_reverse]; exact I.dqZ h1 h2) (fun a h => W1.new h) hp
      obtain ⟨E, W'⟩ := W1.same S0
      exact k w1 _ _ c1 (E1.trans E) W' dq
    case tuple ds =>
      cases e3
      obtain ⟨a, xs, rfl, h1, h2, z, h3⟩ := hd.tup_inv
      refine .inr ⟨a, xs, rfl, h1, fun p o ho hp => ?_⟩
      obtain ⟨S0, dq⟩ := new_tup (K := X.K) (P := w1.P) (rev_all h2) (by rw [List.length_reverse]; exact z) ho hp
      obtain ⟨E, W'⟩ := W1.same S0
      exact k w1 _ _ c1 (E1.trans E) W' dq
/-! ### xs[i::c] -/
def stepIs (i c : Nat) (n : Nat) : List Nat := sliceRange (sliceBounds (some (i : Int)) none (some (c : Int)) n).1 (sliceBounds (some (i : Int)) none (some (c : Int)) n).2.1 (sliceBounds (some (i : Int)) none (some (c : Int)) n).2.2
def picks {α : Type} (is : List Nat) (xs : List α) : List α := is.filterMap (xs[·]?)
theorem picks_vals : ∀ (is : List Nat) {xs : List V} {us : List Value}, Vals xs us → Vals (picks is xs) (picks is us)
  | [], _, _, _ => .nil
  | i :: is, xs, us, h => by
    have ih := picks_vals is h
    have hl := h.length
    unfold picks at ih ⊢
    simp only [List.filterMap_cons]
    by_cases hi : i < xs.length
    · have hu : i < us.length := by omega
      obtain ⟨u, e1, e2⟩ := h.get (List.getElem?_eq_getElem hi)
      rw [List.getElem?_eq_getElem hi, e1]
      exact .cons e2 ih
    · rw [List.getElem?_eq_none (by omega), List.getElem?_eq_none (by omega)]
      exact ih
theorem picks_all {K : PySem.W.Frag} {P : Addr → Prop} {H : Hp} : ∀ (is : List Nat) {xs : List V} {ds : List PyData}, DqAll K P H xs ds → DqAll K P H (picks is xs) (picks is ds)
  | [], _, _, _ => .nil
  | i :: is, xs, ds, h => by
    have ih := picks_all is h
    unfold picks at ih ⊢
    simp only [List.filterMap_cons]
    rcases h.get i with ⟨e1, e2⟩ | ⟨x, d, e1, e2, e3⟩
    · rw [e1, e2]; exact ih
    · rw [e1, e2]; exact .cons e3 ih
def tStepL (K : PySem.W.Frag) (i c : Nat) (te : TE) : TE := fun σ H Q => te σ H fun x H1 => ∃ a xs, x = .ref a ∧ SqL K H1 a xs ∧ (picks (stepIs i c xs.length) xs).length ≤ sizeLine ∧ ∀ p, H1 p = none → Q (.ref p) (upd H1 p (.lst (picks (stepIs i c xs.length) xs)))
theorem pe_stepL {e : Expr} {te : TE} {i c k k2 : Nat} (hc : 0 < c) (he : PE X e te) : PE X (.Subscript e (.Slice (some (.Constant (.int (i : Int)) k p1)) none (some (.Constant (.int (c : Int)) k2 p2)) p3) pos) (tStepL X.K i c te) := by
  refine ⟨fun pins s σ H Q I h => ?_⟩
  refine Subscript_ (thn (he.run pins s σ H _ I h) fun v s1 ⟨x, H1, I1, r1, q1⟩ => ?_)
  have hlo : PO X (some (.Constant (.int (i : Int)) k p1)) (tPart (tC (.int i))) := po_some pe_int
  have hst : PO X (some (.Constant (.int (c : Int)) k2 p2)) (tPart (tC (.int c))) := po_some pe_int
  refine wpAny_Slice (thn (hlo.run pins s1 σ H1 (fun o H2 => o = some (i : Int) ∧ H2 = H1) I1 ⟨i, rfl, rfl, rfl⟩) fun vl s2 ⟨l, H2, I2, pl, el, e2⟩ => ?_)
  subst el e2
  refine thn (po_none.run pins s2 σ H2 (fun o H3 => o = none ∧ H3 = H2) I2 ⟨rfl, rfl⟩) fun vu s3 ⟨u, H3, I3, pu, eu, e3⟩ => ?_
  subst eu e3
  refine thn (hst.run pins s3 σ H3 (fun o H4 => o = some (c : Int) ∧ H4 = H3) I3 ⟨c, rfl, rfl, rfl⟩) fun vs s4 ⟨o, H4, I4, ps, eo, e4⟩ => ?_
  subst eo e4
  have I5 : Inv X pins σ H4 { s4 with heap := s4.heap.push { cls := .type "slice", data := .fields #[vl, vu, vs] } } := I4.kept (t' := s4.toks) fun b ob q => Heap.get?_push_of_some _ q
  obtain ⟨a, xs, ex, hx, hz2, q⟩ := q1
  subst ex
  cases r1
  obtain ⟨its, r, ht, hz⟩ := I5.list hx
  have hlen := r.length
  show wpAny (model X.prog X.w) X.A (subscriptTail e (.Slice (some (.Constant (.int (i : Int)) k p1)) none (some (.Constant (.int (c : Int)) k2 p2)) p3) (.ref a) (.ref s4.heap.objs.size)) (EP X pins σ Q) X.xe { s4 with heap := s4.heap.push { cls := .type "slice", data := .fields #[vl, vu, vs] } }
  refine tail_any (ops := [.ref a, .ref s4.heap.objs.size]) ht.isList.typeIs (PySem.slot_list_getitem.lookup) ?_ (by with_unfolding_all rfl)
  refine wpAny_getItem_list_slice ht.isList (Heap.IsSliceOf.new _ vl vu vs) pl pu ps (by intro z; injection z with z; omega) ?_ (by rw [List.size_toArray]; omega)
  have e : slicePick its.toArray (some (i : Int)) none (some (c : Int)) = (picks (stepIs i c xs.length) its).toArray := by
    unfold slicePick picks stepIs
    rw [List.size_toArray, hlen]
    congr 2
    funext z
    simp
  rw [e]
  refine ⟨.ref _, _, I5.laid (t' := s4.toks) (o := .lst (picks (stepIs i c xs.length) xs)) (fun b ob q => Heap.get?_push_of_some _ q) (Nat.le_refl _) ?_, rfl, q _ (I5.hok.fresh (Nat.le_refl _))⟩
  exact ⟨hz2, _, 0, picks_vals _ r, Heap.get?_push_size _ rfl⟩
theorem lim_line {n : Nat} (h : n ≤ lim) : n ≤ sizeLine := Nat.le_trans h (by decide)
def stepD (i c : Nat) : PyData → Option PyData
  | .list xs => if (picks (stepIs i c xs.length) xs).length ≤ lim then some (.list (picks (stepIs i c xs.length) xs)) else none
  | _ => none
theorem fe_stepL {i c k k2 : Nat} (ha : FE X a f) (hc : 0 < c := by decide) : FE X (.Subscript a (.Slice (some (.Constant (.int (i : Int)) k p1)) none (some (.Constant (.int (c : Int)) k2 p2)) p3) pos) (eUn (stepD i c) f) :=
  PE.imp (pe_stepL hc (pe_inv ha)) fun σ H Q ⟨w, l, s, m', W, L, e, k⟩ => by
    simp only [eUn, Option.bind_eq_some_iff, Option.map_eq_some_iff, Prod.mk.injEq] at e
    obtain ⟨⟨p, m1⟩, e1, d, e2, r, e3, rfl, rfl⟩ := e
    refine goF W L e1 fun w1 H1 v1 c1 E1 W1 L1 s1 => ?_
    intro ⟨pins, sh, I⟩
    have hd := s1.deref W1 (by rw [c1]; exact e2)
    cases d <;> try (cases e3; done)
    rename_i ds
    simp only [stepD] at e3
    split at e3
    · rename_i hz
      cases e3
      obtain ⟨a, xs, rfl, h1, h2⟩ := hd.lst_inv
      have h3 := picks_all (stepIs i c ds.length) h2
      refine ⟨a, xs, rfl, h1.seq, ?_, fun p hp => ?_⟩
      · rw [h2.len, h3.len]; exact lim_line hz
      rw [h2.len]
      obtain ⟨S0, dq⟩ := new_lst (K := X.K) (P := w1.P) h3 (lim_line hz) (fun a h => W1.new h) hp
      obtain ⟨E, W'⟩ := W1.same S0
      exact k w1 _ _ c1 (E1.trans E) W' dq
    · cases e3
end
end Fz

set_option linter.all false
set_option autoImplicit false
set_option maxRecDepth 100000
/-! FzS28: a small dict as a value: {} and {'a': 0}. -/
namespace Fz
open PySem PySem.Spec PyProof.Rows L2
theorem dv_ok {P : Program} {w : World} {H' : Hp} {h' : Heap} {a : Addr} {kvs : List (PyData × PyData)} (h : DVal a kvs h') : ObjOk P w H' h' a (DV a kvs) :=
  ⟨h, (let ⟨_, o, _, _, e, _⟩ := h; ⟨o, e⟩), fun _ _ ⟨z, o, es, n, e, r⟩ k => ⟨z, o, es, n, k _ e, r⟩⟩
section
variable {X : Cx} {pos p1 p2 : Pos}
def tDV (kvs : List (PyData × PyData)) : TE := fun _ H Q => ∀ p, H p = none → Q (.ref p) (upd H p (DV p kvs))
theorem pe_dv0 : PE X (.Dict [] [] pos) (tDV []) := ⟨fun pins s σ H Q I h =>
  wpAny_Dict_empty ⟨.ref s.heap.objs.size, _, I.laid (a := s.heap.objs.size) (o := DV s.heap.objs.size []) (t' := s.toks) (fun _ _ q => Heap.get?_push_of_some _ q) (Nat.le_refl _)
    (dv_ok ⟨beq_eq_false_iff_ne.mpr (Ne.symm (Nat.ne_of_lt I.big)), _, #[], 0, Heap.get?_push_size _ rfl, ⟨rfl, rfl, rfl⟩, rfl, .nil, .nil⟩), rfl, h _ (I.hok.fresh (Nat.le_refl _))⟩⟩
theorem pe_dv1 {x : Str} {i : Int} {k k2 : Nat} : PE X (.Dict [some (.Constant (.str x) k p1)] [.Constant (.int i) k2 p2] pos) (tDV [(.str x, .int i)]) := by
  refine ⟨fun pins s σ H Q I h => ?_⟩
  have hn := I.hok.fresh (Nat.le_refl s.heap.objs.size)
  have I1 := I.laid (a := s.heap.objs.size) (o := .dK []) (h' := s.heap.push { cls := .type "dict", data := .dict #[] }) (t' := s.toks) (fun _ _ q => Heap.get?_push_of_some _ q) (Nat.le_refl _) (dk_empty s.heap I.big)
  have hp : PPs X pos [some (.Constant (.str x) k p1)] [.Constant (.int i) k2 p2] [(tC (.str x), tC (.int i))] := pps_cons pe_str pe_int pps_nil
  refine wpAny_Dict_walk (knd := mixKind X.prog X.w) rfl rfl (by simp) (by show 1 ≤ 15; decide) (thn (hp.run pins _ σ _ (fun ps H2 => ps = [(.str x, .int i)] ∧ H2 = upd H s.heap.objs.size (.dK [])) I1 ⟨rfl, rfl⟩) fun ws s2 ⟨ps, H2, I2, rel, e1, e2⟩ => ?_)
  subst e1 e2
  obtain ⟨rs, c, rk⟩ := carries_of (P := X.prog) (w := X.w) (kvs := [(.inr x, .int i)]) rel
  have e : upd H s.heap.objs.size (.dK []) s.heap.objs.size = some (.dK []) := upd_same
  obtain ⟨z, hd, vs0, r0, dd⟩ := dk_of I2.hok e
  cases r0
  refine ⟨rs, c, dd, fun h' dd' hs => ⟨.ref s.heap.objs.size, upd H s.heap.objs.size (DV s.heap.objs.size [(.str x, .int i)]), ?_, rfl, h _ hn⟩⟩
  have he : ∃ q, h'.get? s.heap.objs.size = some q := let ⟨q, _, _, hq, _⟩ := dd'; ⟨q, hq⟩
  obtain ⟨v, rfl, rv⟩ : ∃ v, rs = [(.inr x, v)] ∧ RelV (.int i) v := by
    cases rk with
    | cons a b =>
      cases b
      rename_i q
      obtain ⟨q1, q2⟩ := q
      obtain ⟨a1, a2⟩ := a
      simp only at a1 a2
      subst a1
      exact ⟨_, rfl, a2⟩
  obtain ⟨t, rfl⟩ := rv
  have hv : DVal s.heap.objs.size [(.str x, .int i)] h' := by
    obtain ⟨o, es, ep, h1, h2, h3, _, h4, _⟩ := dd'
    refine ⟨hd, o, es, ep, h1, h2, h3, ?_⟩
    have h4 : Pairs (mixKind X.prog X.w) es.toList [(.inr x, .int i t)] := h4
    cases h5 : es.toList with
    | nil => rw [h5] at h4; cases h4
    | cons e r =>
      rw [h5] at h4
      cases h4 with
      | cons a b c =>
        cases c
        obtain ⟨t', ht⟩ : ∃ t', e.key = .str x t' := by
          have a : keyIs (.inr x) e.key = true := a
          rcases keyIs_shape a with ⟨_, _, q, _⟩ | ⟨y, t', q, q2⟩
          · cases q
          · cases q; exact ⟨t', q2⟩
        exact ⟨.cons ⟨t', ht⟩ .nil, .cons ⟨t, b⟩ .nil⟩
  have eu : upd (upd H s.heap.objs.size (.dK [])) s.heap.objs.size (DV s.heap.objs.size [(.str x, .int i)]) = upd H s.heap.objs.size (DV s.heap.objs.size [(.str x, .int i)]) := by
    funext b
    unfold upd
    split <;> rfl
  rw [← eu]
  exact d_write I2 (by rw [e]; exact True.intro) hs he (dv_ok hv)
theorem fe_dv {kvs : List (PyData × PyData)} {e : Expr} (h : PE X e (tDV kvs)) : FE X e (eC (.dict kvs)) := PE.imp h fun σ H Q ⟨w, l, s, m', W, L, e, k⟩ => by
  cases e
  intro p hp
  obtain ⟨E, W'⟩ := W.same (same_upd (o := DV p kvs) hp)
  exact k w _ _ rfl E W' (show Dq X.K w.P _ _ _ from .dct upd_same (W.new hp) W'.sys ⟨W'.syp, fun n hl => W'.syn n (live_lt hl)⟩)
theorem fe_dv0 : FE X (.Dict [] [] pos) (eC (.dict [])) := fe_dv pe_dv0
theorem fe_dv1 {x : Str} {i : Int} {k k2 : Nat} : FE X (.Dict [some (.Constant (.str x) k p1)] [.Constant (.int i) k2 p2] pos) (eC (.dict [(.str x, .int i)])) := fe_dv pe_dv1
end
end Fz

set_option linter.all false
set_option autoImplicit false
set_option maxRecDepth 100000
/-! FzS29: the module's constants: a number, a tuple of numbers. -/
namespace Fz
open PySem PySem.Spec PyProof.Rows L2
/-- a number that stands in the module -/
def GInt (mg : Str → Option Value) (x : Str) (i : Int) : Prop := ∃ t, mg x = some (.int i t)
/-- a tuple of numbers that stands in the module -/
def GTup (K : PySem.W.Frag) (mg : Str → Option Value) (x : Str) (ns : List Int) : Prop := ∃ (a : Addr) (o : Obj) (its : Array Value) (n : Nat), mg x = some (.ref a) ∧ K.lookup a = some o ∧ o.cls = .type "tuple" ∧ o.dict = none ∧ o.data = .seq its n ∧ its.size ≤ sizeLine ∧ Vals (ns.map V.int) its.toList
theorem GTup.two {K : PySem.W.Frag} {mg : Str → Option Value} {x : Str} {i j : Int} {a : Addr} {t1 t2 : Tok} {n : Nat} {sl : Array (Option Value)} (h : mg x = some (.ref a)) (e : K.lookup a = some ⟨.type "tuple", none, .seq #[.int i t1, .int j t2] n, sl⟩) : GTup K mg x [i, j] :=
  ⟨a, _, _, _, h, e, rfl, rfl, rfl, by show 2 ≤ sizeLine; decide, .cons ⟨_, rfl⟩ (.cons ⟨_, rfl⟩ .nil)⟩
section
variable {X : Cx} {x : Str} {pos : Pos}
theorem fe_gint {i : Int} (hm : GInt X.mg x i) (hg : Gl X x := by rfl) (hd : (x == ("__debug__" : Str)) = false := by decide) : FE X (.Name x pos) (eC (.int i)) := by
  obtain ⟨t, hm⟩ := hm
  exact PE.imp (pe_glob hg hm (v := .int i) ⟨t, rfl⟩ hd) fun σ H Q ⟨w, l, s, m', W, L, e, k⟩ => by
    cases e
    exact k w H (.int i) rfl (Ex.refl w H) W (show Dq X.K w.P H _ _ from .int i)
theorem dq_ints {K : PySem.W.Frag} {P : Addr → Prop} {H : Hp} : ∀ ns : List Int, DqAll K P H (ns.map V.int) (ns.map PyData.int)
  | [] => .nil
  | n :: ns => .cons (.int n) (dq_ints ns)
theorem fe_gtup {ns : List Int} (hm : GTup X.K X.mg x ns) (hg : Gl X x := by rfl) (hd : (x == ("__debug__" : Str)) = false := by decide) : FE X (.Name x pos) (eC (.tuple (ns.map .int))) := by
  obtain ⟨a, o, its, n, hm, h1, h2, h3, h4, h5, h6⟩ := hm
  exact PE.imp (pe_glob hg hm (v := .ref a) rfl hd) fun σ H Q ⟨w, l, s, m', W, L, e, k⟩ => by
    cases e
    refine k w H (.ref a) rfl (Ex.refl w H) W (show Dq X.K w.P H _ _ from .tup (.inr ⟨o, its, n, h1, h2, h3, h4, h5, h6⟩) ?_ (dq_ints ns))
    have := h6.length
    simp at this ⊢
    rw [← this] at h5; exact h5
end
end Fz

set_option linter.all false
set_option autoImplicit false
set_option maxRecDepth 100000
/-! FzS30: min of a list of alike data. -/
namespace PySem
open PySem.W
section
variable {prog : Program} {w : World} {A : Around} {E : Value → Shared → Prop} {s : Shared}
/-- min of a list of alike data: which item it is -/
theorem min_list_at {l : Addr} {vs : Array Value} {x : PyData} {xs : List PyData} {as : List Addr} {Q : Value → Shared → Prop} (hh : A.handled = none) (hl : s.heap.IsList l vs) (hr : ReadsAll s.heap vs.toList (x :: xs) as) (ha : AlikeAll (x :: xs)) (hu : A.units + 1 + PyData.depthAll (x :: xs) < cLine)
    (h : ∀ (i : Nat) v h' tk, vs[i]? = some v → (x :: xs).getD i .none = minD x xs → (∀ b o, s.heap.get? b = some o → h'.get? b = some o) → Q v { s with heap := h', toks := tk }) :
    wpAny (model prog w) A (call (.builtin "min") [.ref l]) Q E s := by
  have hn : vs.size = xs.length + 1 := readsAll_len hr
  refine call_min_walkH (iter_listW (A := A.in1) hh hl fun s₂ e W st hfp hw hk => ?_)
  refine ⟨_, _, _, _, _, _, _, s.heap, _, rfl, W, st, hfp, by omega, hw, hk, cmpIn_lt (A := A.in1) hr ha (by show A.units + 1 + _ < _; exact hu), fun v s' hP m => ?_⟩
  obtain ⟨h', tk, rfl, hk'⟩ := moved_old e rfl m
  have e1 : vs.size - 1 = xs.length := by omega
  have e2 := (argBest_fold dataLt PyData.none x xs xs.length (Nat.le_refl _)).2
  rw [List.take_length] at e2
  rw [e1] at hP
  exact h _ v h' tk hP (by unfold minD; exact e2) hk'
end
end PySem
namespace Fz
open PySem PySem.Spec PyProof.Rows L2 PySem.W
def okMin (es : List PyData) : Bool := (es.all fun a => es.all fun b => alike a b) && (es.all fun a => !isN a) && decide (PyData.depthAll es ≤ 60)
def fMinT : List PyData → Option PyData
  | [.list (x :: xs)] => if okMin (x :: xs) = true then some (minD x xs) else none
  | _ => none
section
variable {X : Cx}
theorem fc_minT (hu : X.A.units + 66 < cLine) (hc : X.calm = true := by rfl) : FCall X (.builtin "min") fMinT := by
  intro pins s σ H xs us Q I rx ⟨P, ds, r, hf, hd, eg, q⟩
  match ds, hd, eg with
  | [.list (d :: es)], hd, eg =>
    simp only [fMinT] at eg
    split at eg
    · rename_i ok
      cases eg
      obtain ⟨x, rfl, hx⟩ := all1 hd
      obtain ⟨a, ys, rfl, h1, h2⟩ := hx.lst_inv
      obtain ⟨z, its, n, rv, hl, e⟩ := I.rdL h1
      obtain ⟨as, hr, _⟩ := DqAll.readsAll I h2 rv
      rw [Vals.ref1 rx]
      unfold okMin at ok
      rw [Bool.and_eq_true, Bool.and_eq_true] at ok
      obtain ⟨⟨o1, o2⟩, o3⟩ := ok
      have o3 := of_decide_eq_true o3
      refine min_list_at (I.ok.hd hc) (vs := its.toArray) ⟨_, e, rfl, n, rfl⟩ (by simpa using hr) ⟨fun x hx y hy => List.all_eq_true.mp (List.all_eq_true.mp o1 x hx) y hy, fun x hx e => by have := List.all_eq_true.mp o2 x hx; rw [e] at this; simp [isN] at this⟩ (by omega) fun i v h' tk hv hm hk => ?_
      have hv : its[i]? = some v := by simpa using hv
      have hi : i < its.length := by
        rcases Nat.lt_or_ge i its.length with q | q
        · exact q
        · rw [List.getElem?_eq_none q] at hv; cases hv
      rcases h2.get i with ⟨e1, _⟩ | ⟨y, d', e1, e2, e3⟩
      · have := rv.length
        rw [List.getElem?_eq_none_iff] at e1; omega
      · obtain ⟨u, hu2, ru⟩ := rv.get e1
        rw [hv] at hu2
        cases hu2
        have : d' = minD d es := by rw [← hm, List.getD_eq_getElem?_getD, e2]; rfl
        subst this
        exact ⟨y, H, I.kept (t' := tk) hk, ru, q y H (Same.refl H) e3⟩
    · cases eg
/-! ### < and <= of alike data -/
def okPair (d e : PyData) : Bool := alike d e && !isN d && decide (d.depth ≤ 60)
def pLtT (d e : PyData) : Option PyData := if okPair d e = true then some (.bool (dataLt d e)) else none
def pLeT (d e : PyData) : Option PyData := if okPair d e = true then some (.bool (!dataLt e d)) else none
theorem okPair_is {d e : PyData} (h : okPair d e = true) : alike d e = true ∧ d ≠ .none ∧ d.depth ≤ 60 := by
  unfold okPair at h
  rw [Bool.and_eq_true, Bool.and_eq_true] at h
  exact ⟨h.1.1, fun z => by rw [z] at h; simp [isN] at h, of_decide_eq_true h.2⟩
theorem fo_ltT (hu : X.A.units + 66 < cLine) : FOp X (compareOp .Lt) pLtT := by
  intro pins s σ H x y v u Q I rx ry ⟨P, d, e, r, hf, hd, he, eg, q⟩
  unfold pLtT at eg
  split at eg
  · rename_i ok
    cases eg
    obtain ⟨h1, h2, h3⟩ := okPair_is ok
    obtain ⟨as, r1, _⟩ := Dt.reads I hd rx
    obtain ⟨bs, r2, _⟩ := Dt.reads I he ry
    exact rcLt_alike d e _ s v u as bs r1 r2 h1 h2 (by have := Nat.min_le_left d.depth e.depth; omega) _ _ _ _ ⟨.bl _, H, I, rfl, q _ H (Same.refl H) (.bl _)⟩
  · cases eg
theorem fo_leT (hu : X.A.units + 66 < cLine) : FOp X (compareOp .LtE) pLeT := by
  intro pins s σ H x y v u Q I rx ry ⟨P, d, e, r, hf, hd, he, eg, q⟩
  unfold pLeT at eg
  split at eg
  · rename_i ok
    cases eg
    obtain ⟨h1, h2, h3⟩ := okPair_is ok
    obtain ⟨as, r1, _⟩ := Dt.reads I hd rx
    obtain ⟨bs, r2, _⟩ := Dt.reads I he ry
    exact rcLe_alike d e _ s v u as bs r1 r2 h1 h2 (by have := Nat.min_le_left d.depth e.depth; omega) _ _ _ _ ⟨.bl _, H, I, rfl, q _ H (Same.refl H) (.bl _)⟩
  · cases eg
end
end Fz

set_option linter.all false
set_option autoImplicit false
set_option maxRecDepth 100000
/-! FzS31: sorting tuples of which the first is (). -/
namespace PySem.SeqAt
section
variable {A : Around} {s : Shared}
/-- the call of tuple's own __lt__, as sorting makes it -/
theorem call_tuple_lt {prog : Program} {w : World} {E : Value → Shared → Prop} {Q : Value → Shared → Prop} {l b : Addr} {items items2 : Array Value} {e r : Nat → Bool} (hl : s.heap.IsTuple l items) (hb : s.heap.IsTuple b items2)
    (he : ∀ j (h1 : j < items.size) (h2 : j < items2.size), EqAt A.in1 s items[j] items2[j] (e j)) (hr : ∀ j (h1 : j < items.size) (h2 : j < items2.size), e j = false → RcLt A.in1 s items[j] items2[j] (r j))
    (h : Q (.bool (firstLt e r (decide (items.size < items2.size)) (List.range (min items.size items2.size)))) s) : wpAny (model prog w) A (call (.builtin "tuple.__lt__") [.ref l, .ref b]) Q E s := by
  obtain ⟨⟨cls, dd, data, sl⟩, ho, hc, n, hd⟩ := id hl
  obtain ⟨⟨cls2, dd2, data2, sl2⟩, ho2, hc2, n2, hd2⟩ := id hb
  simp only at hc hd hc2 hd2
  subst hc hd hc2 hd2
  exact call_meets F.slot_tuple_lt ⟨_, ho, rfl⟩ F.entry_tuple_lt (F.args_tuple_lt_2 _ _) (tuple_ltAt l b items items2 n n2 dd dd2 sl sl2 e r) ⟨ho, ho2, he, hr, h⟩
end
end PySem.SeqAt
namespace PySem.W
open PySem PySem.Calls PyProof.Rows PySem.SeqAt
section
variable {prog : Program} {w : World} {A : Around} {E : Value → Shared → Prop} {s : Shared}
theorem oneLt_tup {xs ys : List PyData} {a b : Value} {as bs : List Addr} {Q : Bool → Shared → Prop} (ra : Reads s.heap a (.tuple xs) as) (rb : Reads s.heap b (.tuple ys) bs) (h : alike (.tuple xs) (.tuple ys) = true)
    (hu : A.units + min (PyData.tuple xs).depth (PyData.tuple ys).depth < cLine) (hq : Q (dataLt (.tuple xs) (.tuple ys)) s) : wpAny (model prog w) A (oneLt' true a b) Q E s := by
  have hal : alikeAll xs ys = true := by simpa [alike] using h
  cases ra with
  | @tuple l o vs n _ as₁ h1 h2 h3 h4 =>
    cases rb with
    | @tuple l' o' vs' n' _ bs₁ k1 k2 k3 k4 =>
      have n1 : vs.size = xs.length := by simpa using SeqAt.ReadsAll.length _ _ _ h4
      have n2 : vs'.size = ys.length := by simpa using SeqAt.ReadsAll.length _ _ _ k4
      rw [dataLt_tuple, ← firstLt_toks xs ys hal, ← n1, ← n2] at hq
      rw [oneLt'_eq]
      simp only [if_true]
      refine wpAny_bind (wpAny_cRoomFor (SeqAt.room_here hu) ?_)
      refine wpAny_bind (wpAny_callSpecialIfBound?_slot (T := "tuple") ⟨_, h1, h2⟩ F.slot_tuple_lt (SeqAt.call_tuple_lt (e := pairEq xs ys) (r := fun j => dataLt (xs.getD j .none) (ys.getD j .none)) ⟨_, h1, h2, _, h3⟩ ⟨_, k1, k2, _, k3⟩ (fun j j1 j2 => ?_) (fun j j1 j2 hj => ?_) ?_))
      · have := eqAt_alikeAll xs ys A.in1 s vs.toList vs'.toList _ _ h4 k4 hal (SeqAt.room_in hu) j (by simpa using j1) (by simpa using j2)
        simpa using this
      · have := rcLt_alikeAll xs ys A.in1 s vs.toList vs'.toList _ _ h4 k4 hal (SeqAt.room_in hu) j (by simpa using j1) (by simpa using j2) hj
        simpa using this
      · exact wpAny_truthy_bool hq
theorem mapM_ex {M : Model} {α β : Type} {f : α → Sem β} : ∀ (l : List α) {Q : List β → Shared → Prop}, (∀ v ∈ l, ∃ r, ∀ Q' : β → Shared → Prop, Q' r s → wpAny M A (f v) Q' E s) → (∀ rs, Q rs s) → wpAny M A (l.mapM f) Q E s
  | [], _, _, h => by rw [List.mapM_nil]; exact wpAny_pure (h [])
  | x :: l, Q, hf, h => by
    rw [List.mapM_cons]
    obtain ⟨r, hr⟩ := hf x (.head _)
    exact wpAny_bind (hr _ (wpAny_bind (mapM_ex l (Q := fun bs s' => wpAny M A (pure (r :: bs)) Q E s') (fun v hv => hf v (.tail _ hv)) fun rs => wpAny_pure (h (r :: rs)))))
theorem first_tup {M : Model} {v : Value} {xs : List PyData} {as : List Addr} (r : Reads s.heap v (.tuple xs) as) : ∃ o : Option Value, (xs = [] → o = none) ∧ ∀ Q' : Option Value → Shared → Prop, Q' o s → wpAny M A (firstOfTuple' v) Q' E s := by
  have hl := looks_reads (M := M) r
  cases r with
  | @tuple a o vs n _ as h1 h2 h3 h4 =>
    refine ⟨vs[0]?, fun e => ?_, fun Q' hq => ?_⟩
    · subst e
      have n1 : vs.size = 0 := by simpa using SeqAt.ReadsAll.length _ _ _ h4
      rw [Array.getElem?_eq_none (by omega)]
    · rw [kas_first_eq]
      refine wpAny_bind (hl.here ?_)
      rw [if_neg (by simp [dataType])]
      refine wpAny_bind (listItems_at h1 h3 ?_)
      exact wpAny_pure hq
/-- tuples, the first of them (), can be sorted -/
theorem SortsAt.tup0 {vs : List Value} {ds : List PyData} (e : EachIs (fun v d => ∃ as, Reads s.heap v d as) vs (.tuple [] :: ds)) (hal : AllAlike (.tuple [] :: ds)) (hu : ∀ d, d ∈ .tuple [] :: ds → A.units + d.depth < cLine) : SortsAt prog w A s (dataKind s.heap (.tuple [] :: ds)) vs := by
  have tup : ∀ d, d ∈ (.tuple [] :: ds : List PyData) → ∃ xs, d = .tuple xs := fun d hd => by
    have := hal _ hd _ (List.mem_cons_self ..)
    cases d <;> first | exact ⟨_, rfl⟩ | exact absurd this (by simp [alike])
  refine ⟨fun v hv => ?_, oneType', ?_, fun h2 E Q hq => ?_⟩
  · obtain ⟨d, hd, as, r⟩ := e.left v hv
    exact ⟨_, dataKind_some hal hd r⟩
  · intro E x y a b Q ha hb hq
    obtain ⟨d, as, hd, ra, rfl⟩ := dataKind_inv ha
    obtain ⟨d', as', hd', rb, rfl⟩ := dataKind_inv hb
    rw [keyLt'_oneType]
    have hdd := hal d hd d' hd'
    have hroom := Nat.lt_of_le_of_lt (Nat.add_le_add_left (Nat.min_le_left d.depth d'.depth) A.units) (hu d hd)
    obtain ⟨xs, rfl⟩ := tup d hd
    obtain ⟨ys, rfl⟩ := tup d' hd'
    exact oneLt_tup ra rb hdd hroom hq
  · cases e with
    | @cons v₁ _ vs' _ h0 t =>
      obtain ⟨as0, r0⟩ := h0
      obtain ⟨o1, ho1, hq1⟩ := first_tup (M := model prog w) (A := A) (E := E) r0
      cases ho1 rfl
      have hT : ∀ v ∈ v₁ :: vs', Looks (model prog w) s.heap (typeOf v) (.type "tuple") := fun v hv => by
        rcases List.mem_cons.mp hv with rfl | hv
        · exact looks_reads r0
        · obtain ⟨d, hd, as, r⟩ := t.left v hv
          obtain ⟨xs, rfl⟩ := tup d (List.mem_cons_of_mem _ hd)
          exact looks_reads r
      rw [keyKind'_eq, List.mapM_toArray, map_eq_pure_bind, List.mapM_cons]
      refine wpAny_bind (wpAny_bind (wpAny_bind (hq1 _ (wpAny_bind (mapM_ex vs' (fun v hv => ?_) fun rs => wpAny_pure (wpAny_pure ?_))))))
      · obtain ⟨d, hd, as, r⟩ := t.left v hv
        obtain ⟨xs, rfl⟩ := tup d (List.mem_cons_of_mem _ hd)
        obtain ⟨o, _, ho⟩ := first_tup (M := model prog w) (A := A) (E := E) r
        exact ⟨o, ho⟩
      rw [if_neg (by simp), if_neg (by simp)]
      rw [oneTypeOnly'_eq, List.mapM_toArray, map_eq_pure_bind]
      refine wpAny_bind (wpAny_bind (wpAny_bind (kas_mapM (r := Value.type "tuple") _ (fun v hv Q' hq => (hT v hv).here hq) (wpAny_pure ?_))))
      have hall : ((List.map (fun _ => Value.type "tuple") (v₁ :: vs')).toArray.all fun x => x == Value.type "tuple") = true := by
        simp only [List.all_toArray, List.all_map, List.all_eq_true]
        intro _ _
        exact beq_self_eq_true _
      have h0 : (List.map (fun _ => Value.type "tuple") (v₁ :: vs')).toArray[0]? = some (Value.type "tuple") := by simp
      rw [h0]
      simp only [hall, if_true]
      exact wpAny_pure (wpAny_pure hq)
theorem sorted_data0 {β : Type} {vs : List Value} {bs : List β} {enc : β → PyData} {R : Value → β → Prop} {ds : List PyData} {l : Addr} {Q : Value → Shared → Prop} (hl : s.heap.IsList l vs.toArray) (e : EachIs R vs bs) (er : EachIs (fun v b => ∃ as, Reads s.heap v (enc b) as) vs bs) (hal : AllAlike (bs.map enc)) (hk : bs.map enc = .tuple [] :: ds) (hL : bs.length ≤ sizeLine)
    (hu : ∀ b, b ∈ bs → A.units + 2 + (enc b).depth < cLine) (h : ∀ out, out.length = bs.length → EachIs R out (bs.mergeSort (dataLe false enc)) → Q (.ref (s.heap.objs.size + 1)) { s with heap := sortedAll s.heap vs (List.toArray out) }) :
    wpAny (model prog w) A (call (.builtin "sorted") [.ref l]) Q E s := by
  have er' : EachIs (fun v b => ∃ as, Reads (sortingHeap (copyHeap s.heap vs) (s.heap.objs.size + 1) vs) v (enc b) as) vs bs := er.mono fun _ _ ⟨as, r⟩ => ⟨as, PyProof.Rows.Reads.keeps (fun _ _ => sorting_copy_old) r⟩
  have em := each_map (R := fun v d => ∃ as, Reads (sortingHeap (copyHeap s.heap vs) (s.heap.objs.size + 1) vs) v d as) enc er'
  have hb := bound_map (A := A.in1.in1) (bs := bs) (enc := enc) hu
  have key : SortsAt prog w A.in1.in1 { s with heap := sortingHeap (copyHeap s.heap vs) (s.heap.objs.size + 1) vs } (dataKind (sortingHeap (copyHeap s.heap vs) (s.heap.objs.size + 1) vs) (bs.map enc)) vs := by
    rw [hk] at em hal hb ⊢
    exact SortsAt.tup0 (s := { s with heap := sortingHeap (copyHeap s.heap vs) (s.heap.objs.size + 1) vs }) em hal hb
  exact sorted_vals hl key (by rw [e.length]; exact hL) (h _ (by rw [sortVals_length false rfl]; exact e.length) (sortVals_data false e er' hal))
end
end PySem.W
namespace Fz
open PySem PySem.Spec PyProof.Rows L2
section
variable {X : Cx}
def okSort0 : List PyData → Bool
  | .tuple [] :: es => ((.tuple [] :: es : List PyData).all fun d => (.tuple [] :: es : List PyData).all fun d' => PySem.W.alike d d') && (.tuple [] :: es : List PyData).all fun d => decide (d.depth ≤ 60)
  | _ => false
def fSorted0 : List PyData → Option PyData
  | [.list es] => if okSort0 es = true then some (.list (isort leD es)) else none
  | _ => none
theorem fc_sorted0 (hu : X.A.units + 66 < cLine) : FCall X (.builtin "sorted") fSorted0 := by
  intro pins s σ H xs us Q I rx ⟨P, ds, r, hf, hd, eg, q⟩
  match ds, hd, eg with
  | [.list es], hd, eg =>
    simp only [fSorted0] at eg
    split at eg
    · rename_i ok
      cases eg
      obtain ⟨x, rfl, hx⟩ := all1 hd
      obtain ⟨a, ys, rfl, h1, h2⟩ := hx.lst_inv
      obtain ⟨z, its, n, rv, hl, e⟩ := I.rdL h1
      rw [Vals.ref1 rx]
      obtain ⟨es', rfl⟩ : ∃ es', es = .tuple [] :: es' := by
        unfold okSort0 at ok
        split at ok
        · exact ⟨_, rfl⟩
        · cases ok
      unfold okSort0 at ok
      rw [Bool.and_eq_true] at ok
      obtain ⟨o1, o3⟩ := ok
      have hlen := h2.len
      have hsnd : (ys.zip (.tuple [] :: es')).map Prod.snd = .tuple [] :: es' := zip_snd hlen
      have hal : PySem.W.AllAlike ((ys.zip (.tuple [] :: es')).map Prod.snd) := by
        rw [hsnd]
        intro d hd d' hd'
        exact List.all_eq_true.mp (List.all_eq_true.mp o1 d hd) d' hd'
      refine PySem.W.sorted_data0 (R := fun v b => RelV b.1 v ∧ Dq X.K P H b.1 b.2) (enc := Prod.snd) (bs := ys.zip (.tuple [] :: es')) (vs := its) ⟨_, e, rfl, n, rfl⟩ (each_of (fun v x d a b => ⟨a, b⟩) rv h2)
        (each_of (fun v x d a b => (let ⟨as, r, _⟩ := Dq.reads I b a; ⟨as, r⟩)) rv h2) hal hsnd (by rw [List.length_zip, hlen, Nat.min_self, ← hlen]; exact z) (fun b hb => ?_) fun out ho eo => ?_
      · have hb2 : b.2 ∈ (.tuple [] :: es' : List PyData) := by rw [← hsnd]; exact List.mem_map.mpr ⟨b, hb, rfl⟩
        have := of_decide_eq_true (List.all_eq_true.mp o3 b.2 hb2)
        show X.A.units + 2 + b.2.depth < cLine
        omega
      · obtain ⟨r1, r2⟩ := each_back eo
        have hms : ((ys.zip (.tuple [] :: es')).mergeSort (PySem.W.dataLe false Prod.snd)).map Prod.snd = isort leD (.tuple [] :: es') := by
          have hm := List.map_mergeSort (r := PySem.W.dataLe false (Prod.snd (α := V) (β := PyData))) (s := leD) (f := Prod.snd) (l := ys.zip (.tuple [] :: es')) (fun a _ b _ => rfl)
          rw [hsnd] at hm
          rw [leD_sort, hm]
        rw [hms] at r2
        obtain ⟨ep, he'⟩ := PyProof.Rows.sortedAll_at s.heap its out.toArray
        have hz : (isort leD (.tuple [] :: es')).length ≤ sizeLine := by
          rw [leD_sort, List.length_mergeSort, ← hlen]; exact z
        have hp : H (s.heap.objs.size + 1) = none := I.hok.fresh (Nat.le_succ _)
        obtain ⟨S0, dq⟩ := new_lst r2 hz hf hp
        exact ⟨.ref _, upd H (s.heap.objs.size + 1) (.lst _), I.laid (t' := s.toks) (fun _ _ => PyProof.Rows.sortedAll_old) (Nat.le_succ _) ⟨by rw [r2.len]; exact hz, out, ep, r1, he'⟩, rfl, q _ _ S0 dq⟩
    · cases eg
end
end Fz

set_option linter.all false
set_option autoImplicit false
set_option maxRecDepth 100000
/-! FzS32: a, b = a list of that length. -/
namespace Fz
open PySem PySem.Spec PyProof.Rows L2
def gL (ts : List Tg) : Tg := fun x l => match x with
  | .d (.list ds) => gAll ts ds l
  | _ => none
section
variable {X : Cx} {pos : Pos}
theorem fg_lst {es : List Expr} {k : Nat} {gs : List Tg} {is : List Nat} (h : FGs X es is gs) (hc : X.calm = true := by rfl) (hn : (assignEach es X.env).length = gs.length := by rfl) (hst : (assignEach es X.env).findIdx? (·.1) = none := by rfl) : FG X (.Tuple es k pos) is (gL gs) :=
  PG.imp (pg_unl hc h hn hst) fun v σ H Q ⟨w, l, s, l', W, L, r, e, k⟩ => by
    cases s with
    | r n => cases e
    | d x =>
      cases x <;> try (cases e; done)
      rename_i ds
      obtain ⟨a, xs, rfl, h1, h2, h3⟩ := Dq.lst_inv (show Dq X.K w.P H v (.list ds) from r)
      have hl : ∀ {gs : List Tg} {ds : List PyData} {l l' : Lo}, gAll gs ds l = some l' → ds.length = gs.length := by
        intro gs
        induction gs with
        | nil => intro ds l l' h; cases ds with
          | nil => rfl
          | cons _ _ => cases h
        | cons g gs ih => intro ds l l' h; cases ds with
          | nil => cases h
          | cons d ds =>
            simp only [gAll, Option.bind_eq_some_iff] at h
            obtain ⟨l1, _, e2⟩ := h
            simp only [List.length_cons, ih e2]
      have e' : gAll gs ds l = some l' := e
      refine ⟨a, xs, rfl, ?_, by rw [h3.len, hl e'], w, l, ds, l', W, L, h3, e', k⟩
      rcases h1 with h1 | h1
      · exact RdL.seq (.inl h1.1)
      · exact RdL.seq (.inr h1)
end
end Fz

set_option linter.all false
set_option autoImplicit false
set_option maxRecDepth 100000
/-! FzS33: o.get(i, e), o a dict of the memory with whole numbers as keys. -/
namespace Fz
open PySem PySem.Spec PyProof.Rows L2
def eGet (a b c : RE) : RE := fun l m => (a l m).bind fun p => match p.1 with
  | .r n => match p.2[n]? with
    | some (.dct _) => (b l p.2).bind fun q => match q.1 with
      | .d (.int x) => (c l q.2).bind fun r => match r.2[n]? with
        | some (.dct kvs) => some ((getK (.int x) kvs).getD r.1, r.2)
        | _ => none
      | _ => none
    | _ => none
  | _ => none
section
variable {K : PySem.W.Frag} {w : Wo} {H : Hp}
theorem KSV.no : ∀ {kv' : List (Key × V)} {kvs : List (PyData × S)}, KSV K w H kv' kvs → ∀ {k : Key}, getK (kD k) kvs = none → valV kv' k = none
  | _, _, .nil, k, h => rfl
  | p :: ps, (q1, q2) :: qs, .cons a b, k, h => by
    obtain ⟨e, r⟩ := a
    simp only at e r
    subst e
    simp only [getK, kD_eqv] at h
    by_cases hk : p.1 = k
    · rw [decide_eq_true hk, if_pos rfl] at h
      cases h
    · rw [decide_eq_false hk, if_neg Bool.false_ne_true] at h
      rw [valV_neg hk]; exact KSV.no b h
end
/-- {}, its keys to be whole numbers -/
def eDn0 : RE := fun _ m => some (.r m.length, m ++ [.dct []])
section
variable {X : Cx} {pos : Pos}
theorem fe_dn0 : FE X (.Dict [] [] pos) eDn0 := PE.imp pe_dnewK fun σ H Q ⟨w, l, s, m', W, L, e, k⟩ => by
  cases e
  intro p hp
  exact k (w.push p (.dct [])) _ _ rfl (push_ex W hp) (push_wd W hp (fun _ e => by cases e) (fun kvs e => by cases e; exact ⟨[], rfl, .nil⟩) (fun _ e => by cases e)) ⟨by simp [Wo.push], congrArg V.ref (push_al' (w := w) (p := p) (mo := .dct [])).symm⟩
end
section
variable {X : Cx} {a b c : Expr} {fa fb fc : RE} {apos cpos : Pos}
theorem fe_get (hu0 : X.A.units + 11 < cLine) (ha : FE X a fa) (hb : FE X b fb) (hc : FE X c fc) (m : M2 X a "get" apos b c cpos := by exact ⟨rfl, rfl, rfl, rfl⟩) : FE X (.Call (.Attribute a "get" apos) [b, c] [] cpos) (eGet fa fb fc) := by
  refine ⟨fun pins s σ H Q I h => ?_⟩
  obtain ⟨w, l, s0, m', W, L, e, k⟩ := h
  have hu : X.A.units + 1 < cLine := by omega
  simp only [eGet, Option.bind_eq_some_iff] at e
  obtain ⟨⟨p1, p2⟩, e1, e⟩ := e
  cases p1 with
  | d x => cases e
  | r n =>
    simp only at e
    split at e
    · rename_i kvs0 hm0
      simp only [Option.bind_eq_some_iff] at e
      obtain ⟨⟨q1, q2⟩, e2, e⟩ := e
      cases q1 with
      | r z => cases e
      | d y =>
        cases y <;> try (cases e; done)
        rename_i x
        simp only [Option.bind_eq_some_iff] at e
        obtain ⟨⟨r1, r2⟩, e3, e⟩ := e
        simp only at e
        split at e
        · rename_i kvs hm
          cases e
          refine (pe_dget2 hu ha hb hc m).run pins s σ H Q I ?_
          refine goF W L e1 fun w1 H1 v1 c1 E1 W1 L1 s1 => ?_
          obtain ⟨hn, rfl⟩ := s1
          obtain ⟨kv0, h0, _⟩ := W1.dct n kvs0 (by rw [c1]; exact hm0)
          refine ⟨_, rfl, .inl ⟨kv0, .inl h0⟩, goF W1 L1 (by rw [c1]; exact e2) fun w2 H2 v2 c2 E2 W2 L2 s2 => goF W2 L2 (by rw [c2]; exact e3) fun w3 H3 v3 c3 E3 W3 L3 s3 => ?_⟩
          cases (show Dq X.K w2.P H2 v2 (.int x) from s2)
          obtain ⟨kv', h1, h2⟩ := W3.dct n kvs (by rw [c3]; exact hm)
          have ea : w3.al n = w1.al n := ((E2.trans E3).same n hn)
          rw [ea] at h1
          refine ⟨_, DGet.k (k := .inl x) h1, ?_⟩
          cases hg : getK (.int x) kvs with
          | some sv =>
            obtain ⟨v, h3, h4⟩ := h2.get (k := .inl x) hg
            rw [h3]
            rw [hg] at k
            exact k w3 H3 v c3 (E1.trans (E2.trans E3)) W3 h4
          | none =>
            rw [KSV.no h2 (k := .inl x) hg]
            rw [hg] at k
            exact k w3 H3 v3 c3 (E1.trans (E2.trans E3)) W3 s3
        · cases e
    · cases e
end
end Fz

set_option linter.all false
set_option autoImplicit false
set_option maxRecDepth 100000
/-! FzS34: >= of alike data. -/
namespace Fz
open PySem PySem.Spec PyProof.Rows L2 PySem.W
section
variable {X : Cx}
def pGeT (d e : PyData) : Option PyData := if okPair d e = true then some (.bool (!dataLt d e)) else none
theorem fo_geT (hu : X.A.units + 66 < cLine) : FOp X (compareOp .GtE) pGeT := by
  intro pins s σ H x y v u Q I rx ry ⟨P, d, e, r, hf, hd, he, eg, q⟩
  unfold pGeT at eg
  split at eg
  · rename_i ok
    cases eg
    obtain ⟨h1, h2, h3⟩ := okPair_is ok
    obtain ⟨as, r1, _⟩ := Dt.reads I hd rx
    obtain ⟨bs, r2, _⟩ := Dt.reads I he ry
    exact rcGe_alike d e _ s v u as bs r1 r2 h1 h2 (by have := Nat.min_le_left d.depth e.depth; omega) _ _ _ _ ⟨.bl _, H, I, rfl, q _ H (Same.refl H) (.bl _)⟩
  · cases eg
end
end Fz

set_option linter.all false
set_option autoImplicit false
set_option maxRecDepth 100000
/-! FzS35: str(i). -/
namespace Fz
open PySem PySem.Spec PyProof.Rows L2 PySem.W
def fStr : List PyData → Option PyData
  | [.int i] => if i.natAbs.log2 < 1920 then some (.str (toString i)) else none
  | _ => none
section
variable {X : Cx}
theorem fc_str : FCall X (.type "str") fStr := by
  intro pins s σ H xs us Q I rx ⟨P, ds, r, hf, hd, eg, q⟩
  match ds, hd, eg with
  | [.int i], hd, eg =>
    simp only [fStr] at eg
    split at eg
    · rename_i hi
      cases eg
      obtain ⟨x, rfl, hx⟩ := all1 hd
      have := hx.int_inv; subst this
      exact call_str_int pins s σ H _ us Q I rx ⟨i, rfl, hi, q _ H (Same.refl H) (.str _)⟩
    · cases eg
end
end Fz

set_option linter.all false
set_option autoImplicit false
set_option maxRecDepth 100000
/-! FzEx1: an own exception without arguments whose __init__ calls the one above it: the call of its class. -/
namespace Fz
open PySem PySem.Spec PyProof.Rows PySem.W PySem.Calls
def exScope : Scope := { kind := .function, names := [("self", .local), ("__class__", .free), ("super", .globalImplicit)], isGenerator := false, isCoroutine := false, more := [] }
def exArgs (ap : Pos) : Arguments := { posonlyargs := [], args := [{ arg := "self", annotation := none, pos := ap }], vararg := none, kwonlyargs := [], kw_defaults := [], kwarg := none, defaults := [] }
def exBody (m : Str) (j : Nat) (p0 p1 p2 p3 p4 p5 : Pos) : List Stmt := [.Expr (.Call (.Attribute (.Call (.Name "super" p0) [] [] p1) "__init__" p2) [.Constant (.str m) j p3] [] p4) p5]
/-- what the written part says of such a class -/
structure ExK (prog : Program) (K : Frag) (C : Addr) : Prop where
  ini : ∃ (fI cc cda : Addr) (oc kV doc pm ct ccl cl : Value) (od an cdd cld : Option Addr) (osl ccs csl : Array (Option Value)) (vs : Array Value) (file : Str) (tf : Tok) (qual m : Str) (cdD : ClassData) (j : Nat) (ap p0 p1 p2 p3 p4 p5 : Pos),
    findIn K (.ref C) "__init__" = some (some (.ref fI)) ∧ excInitIn K C [.type "ValueError", .type "Exception", .type "BaseException", .type "object"] "ValueError.__new__" = true ∧
    K.lookup fI = some ⟨oc, od, .func (ksFn "__init__" qual (exArgs ap) (exBody m j p0 p1 p2 p3 p4 p5) exScope .none kV doc pm an (.ref cda) ct cc), osl⟩ ∧ isFn K (.ref fI) = true ∧ codeIn K (.ref cda) qual = true ∧
    K.lookup cda = some ⟨ccl, cdd, .fields vs, ccs⟩ ∧ vs[2]? = some (.str file tf) ∧ ((prog.main.file : Str) == file) = true ∧ K.lookup cc = some ⟨cl, cld, .cell (some (.ref C)), csl⟩ ∧ clsIn K C = some cdD ∧ mroIn K C (.ref C) = some true ∧
    nsIn K mainGlobals "super" = some none ∧ nsIn K cStatics "thirdparty.any" = some none ∧ ks_superIn K C C "__init__" = some (some (.builtin "ValueError.__init__")) ∧ subIn K (.ref C) (.type "ValueError") = some true ∧ (prog.main.scope.names.lookup ("super" : Str)).isSome = false ∧ (p2.endLine == p4.line) = true
  exc : subIn K (.ref C) (.type "BaseException") = some true
  typ : typeIn K (.ref C) = some (.type "type")
  keep : keepIn K (.ref C) = true
theorem exNames : ∀ x ∈ exScope.names, x.2 ≠ .cell := by decide
theorem exBinds {qual : Str} {ap : Pos} {body : List Stmt} {kV doc pm cdv ct : Value} {an : Option Addr} {cc : Addr} {u : Value} : bindArgs (ksFn "__init__" qual (exArgs ap) body exScope .none kV doc pm an cdv ct cc) ⟨[u], []⟩ = (pure [(("self" : Str), u)] : Sem (List (Str × Value))) := by
  first | rfl | with_unfolding_all rfl | (unfold bindArgs; rfl) | (simp [bindArgs, exArgs]; done)
section
variable {prog : Program} {w : World} {K : Frag} {A : Around} {E : Value → Shared → Prop} {s : Shared} {mg mb : Str → Option Value} {C : Addr} {Q : Value → Shared → Prop}
theorem unfit_call (U : ExK prog K C) (X : K.In s.heap) (G : s.heap.Ns mainGlobals mg) (B : s.heap.Ns builtinsNs mb) (hbt : ∀ x : Str, x ≠ "__name__" → mb x = bootBuiltins x) (NL : s.heap.NoLimit) (hd : A.depth + 1 < recursionLimit)
    (h : ∀ (h' : Heap) (e t : Addr) (tk : Nat), (∀ b o, s.heap.get? b = some o → h'.get? b = some o) → s.heap.objs.size ≤ e → h'.get? e = some (excObj C t none .none) → Q (.ref e) { s with heap := h', toks := tk }) :
    wpAny (model prog w) A (call (.ref C) []) Q E s := by
  obtain ⟨fI, cc, cda, oc, kV, doc, pm, ct, ccl, cl, od, an, cdd, cld, osl, ccs, csl, vs, file, tf, qual, m, cdD, j, ap, p0, p1, p2, p3, p4, p5, hi, q, hf, hfn, hcd, hcode, hvs, hfile, hcell, hD, hsub, hsuper, hany, hsi, hVE, htop, hln⟩ := U.ini
  obtain ⟨nm, N', qn, bs, bm, hdct, sn, sub, ab, col, dd, k0, k1, k2, k3, k5, hC, hT⟩ := excInit_of X q
  obtain ⟨oI, hoI', hcI⟩ : ∃ oI, s.heap.get? fI = some oI ∧ oI.cls = .type "function" := by
    obtain ⟨o, ho, hc⟩ := Option.map_eq_some_iff.mp (show (K.lookup fI).map (·.cls) = some (.type "function") from beq_iff_eq.mp hfn)
    exact ⟨o, X _ _ ho, hc⟩
  obtain ⟨hh, g, d, tk, os⟩ := s
  refine wpAny_call (PX.call_own PySem.F.excBase_ValueError hT hC (looks_findIn X hi) (fun self => exc_bind hoI' hcI self) (by show 0 ≤ _; exact Nat.zero_le _) ?_)
  have keep1 : ∀ b o, hh.get? b = some o → ((hh.push (W.kdv_tup [])).push (PX.excO C hh.objs.size)).get? b = some o := fun b o e => Heap.get?_push_of_some _ (Heap.get?_push_of_some _ e)
  have he1 : ((hh.push (W.kdv_tup [])).push (PX.excO C hh.objs.size)).get? (hh.objs.size + 1) = some (excObj C hh.objs.size none .none) := Heap.get?_push_at (by rw [Heap.size_push]) rfl
  have hsz : ((hh.push (W.kdv_tup [])).push (PX.excO C hh.objs.size)).objs.size = hh.objs.size + 2 := by rw [Heap.size_push, Heap.size_push]
  generalize (hh.push (W.kdv_tup [])).push (PX.excO C hh.objs.size) = h1 at keep1 he1 hsz
  have X1 : K.In h1 := X.keeps keep1
  refine ks_codeAny_call_defAt (s := ⟨h1, g, d, tk, os⟩) (fd := ksFn "__init__" qual (exArgs ap) (exBody m j p0 p1 p2 p3 p4 p5) exScope .none kV doc pm an (.ref cda) ct cc) (body := exBody m j p0 p1 p2 p3 p4 p5) (binds := [("self", .ref (hh.objs.size + 1))]) ?_ (X1 _ _ hf) rfl (NL.keeps keep1) (codeRec_of X1 hcd) rfl (BindsTo.of_eq exBinds) exNames (by intro x hx; rw [List.mem_singleton.mp hx]; rfl) (fun h2 hns hk2 => ?_)
  · rw [depth_under_make]; exact hd
  have he2 := hk2 _ _ he1
  have hL : (⟨h1, g, d, tk, os⟩ : Shared).heap.objs.size = hh.objs.size + 2 := hsz
  -- the ground: all but the exception
  have k0 : ∀ b o, hh.get? b = some o → b ≠ hh.objs.size + 1 := fun b o e => Nat.ne_of_lt (Nat.lt_succ_of_lt (Heap.lt_size e))
  have F2 : PyProof.Rows.Fr (hideAll h1 [hh.objs.size + 1]) h1.objs.size h2 (fun x => [(("self" : Str), Value.ref (hh.objs.size + 1))].reverse.lookup x) := ⟨hns, fun b o e => hk2 b o (of_hideAll _ e), by rw [hideAll_size]; exact Nat.le_refl _⟩
  have N2 : News (hideAll h1 [hh.objs.size + 1]) h1.objs.size h2 [(hh.objs.size + 1, excObj C hh.objs.size none .none)] := fun p hp => by
    rw [List.mem_singleton.mp hp]
    exact ⟨he2, by rw [hsz]; exact Nat.ne_of_lt (Nat.lt_succ_self _), hideAll_none _ (by simp)⟩
  have X0 : K.In (hideAll h1 [hh.objs.size + 1]) := fun b o e => hideAll_get _ (keep1 b o (X b o e)) (by simpa using k0 b o (X b o e))
  have up0 : ∀ b o, hh.get? b = some o → (hideAll h1 [hh.objs.size + 1]).get? b = some o := fun b o e => hideAll_get _ (keep1 b o e) (by simpa using k0 b o e)
  generalize hideAll h1 [hh.objs.size + 1] = h0 at F2 N2 X0 up0
  have G0 := G.keeps up0
  have B0 := B.keeps up0
  refine ks_wpAt_execs_cons (ks_wpAt_Expr_any (ks_wpAt_MethodCall ?_ (by rw [arm_eval_Call]; unfold methodCall calleeOf methodCallPos; rw [hln]; rfl)))
  have X2 : K.In h2 := X0.keeps F2.keep
  refine ks_wpAt_super_base rfl rfl (by decide) rfl (X2 _ _ hf) rfl rfl rfl (X2 _ _ hcode) rfl hvs hfile htop ?_
  refine ks_loadName_global rfl rfl (loadGlobal_builtin (G0.keeps F2.keep) (mg_none_of X0 G0 hsuper) (B0.keeps F2.keep) ((hbt _ (by decide +kernel)).trans (show bootBuiltins "super" = some (.type "super") from by first | boot_by_name | rfl | kernel_rfl)) ⟨rfl, ?_⟩)
  refine wpAny_loadName_free rfl rfl rfl ⟨_, X2 _ _ hcell, rfl⟩ ?_
  refine wpAny_loadName_local rfl rfl F2.ns rfl ?_
  obtain ⟨oD, hD1, hD2⟩ : ∃ oD, h2.get? C = some oD ∧ oD.data = .cls cdD := by
    unfold clsIn at hD
    split at hD
    · rename_i c d cd' sl ho
      cases hD
      exact ⟨_, X2 _ _ ho, rfl⟩
    · cases hD
  have IA : InstAt h2 (hh.objs.size + 1) (excObj C hh.objs.size none .none) C none := InstAt.of_exc0 N2 (by simp)
  refine ks_wpAny_isType_cls hD1 hD2 ⟨rfl, ?_⟩
  refine ks_wpAny_call_super hD1 hD2 IA.at_ IA.cls (fun c e => by cases e) (looks_mroIn X2 hsub) (fun h3 e3 k3 => ?_)
  obtain ⟨F3, N3, l3⟩ := ks_newsPush (s := ⟨h2, g, d, tk, os⟩) F2 N2 rfl e3 k3
  have I3 : InstAt h3 (hh.objs.size + 1) (excObj C hh.objs.size none .none) C none := InstAt.of_exc0 N3 (by simp)
  refine kxs_method (s := ⟨h3, g, d, _, os⟩) kxs_ValueError F3 X0 N3 (List.mem_cons_self ..) I3 hany hsi hVE (by decide) (fun q4 h4 F4 N4 l4 => ?_)
  refine kxs_callWith1 N4 (List.mem_cons_self ..) (spliced_more ?_)
  refine Calls.Constant_str (spliced_none ⟨kxs_at N4 (List.mem_cons_self ..), ?_⟩)
  have n1 : q4 ≠ hh.objs.size + 1 := Nat.ne_of_gt (l4 (hh.objs.size + 1, excObj C hh.objs.size none .none) (.tail _ (.head _)))
  have n2 : h2.objs.size ≠ hh.objs.size + 1 := Nat.ne_of_gt (l3 (hh.objs.size + 1, excObj C hh.objs.size none .none) (.head _))
  refine kxs_call (s := ⟨h4, g, d, _, os⟩) (t := hh.objs.size) (dv := none) (c2 := .none) F4 X0 N4 PySem.F.excBase_ValueError q (List.mem_cons_self ..) (.tail n1 (.tail n2 (.head (by simp)))) (by show 1 ≤ sizeLine; rw [sizeLine_eq]; decide) (fun t5 h5 F5 N5 l5 => ?_)
  refine wpAt_of_wpAny (wpAny_execs_nil ?_)
  have he5 := (N5 (hh.objs.size + 1, excObj C t5 none .none) (.tail _ (.tail _ (.tail _ (.head _))))).1
  refine ⟨rfl, ?_⟩
  exact h h5 (hh.objs.size + 1) t5 _ (fun b o e => F5.keep b o (up0 b o e)) (Nat.le_succ _) he5
end
end Fz

set_option linter.all false
set_option autoImplicit false
set_option maxRecDepth 100000
/-! FzEx2: readings of what may raise one exception. -/
namespace Fz
open PySem PySem.Spec PyProof.Rows L2
/-- ends as told, or raises: slots and memory then -/
inductive Oc (α : Type) where
  | ok (x : α)
  | ex (l : Lo) (m : Mem)
abbrev RX := Lo → Mem → Option (Oc (Ct × Lo × Mem))
abbrev REX := Lo → Mem → Option (Oc (S × Mem))
abbrev PX := List PyData → Option (Option PyData)
def xDo (a : RS) : RX := fun l m => (a l m).map .ok
def xRaise : RX := fun l m => some (.ex l m)
def xIf (c : RT) (a b : RX) : RX := fun l m => (c l m).bind fun p => if p.1 = true then a l p.2 else b l p.2
def xSeq (a b : RX) : RX := fun l m => (a l m).bind fun o => match o with
  | .ok (.nx, l', m') => b l' m'
  | o => some o
def xRet (e : REX) : RX := fun l m => (e l m).map fun o => match o with
  | .ok p => .ok (.rt p.1, l, p.2)
  | .ex l' m' => .ex l' m'
def xP (F : PX) (as : RA) : REX := fun l m => (as l m).bind fun p => (allD p.1).bind fun ds => (F ds).map fun o => match o with
  | some r => .ok (.d r, p.2)
  | none => .ex l p.2
def xIfE (c : RT) (a b : REX) : REX := fun l m => (c l m).bind fun p => if p.1 = true then a l p.2 else b l p.2
/-- a display of two, the second of which may raise -/
def xTwo (g : List PyData → PyData) (a : RE) (b : REX) : REX := fun l m => (a l m).bind fun p => (b l p.2).bind fun o => match o with
  | .ok q => (allD [p.1, q.1]).map fun ds => .ok (.d (g ds), q.2)
  | .ex l' m' => some (.ex l' m')
def xTup2 := xTwo .tuple
def xLst2 := xTwo .list
def runX (n : Nat) (b : RX) : PX := fun ds => (b (lo0 n (ds.map S.d)) []).bind fun o => match o with
  | .ex _ _ => some none
  | .ok (.rt s, _, m') => (deref m' s).map some
  | .ok (.nx, _, _) => some (some .none)
  | _ => none
/-- try: b; except the exception: suite -/
def sTry (b : RX) (suite : RS) : RS := fun l m => (b l m).bind fun o => match o with
  | .ok r => some r
  | .ex l' m' => suite l' m'

/-! ### judgements -/
def AftX (K : PySem.W.Frag) (w : Wo) (H : Hp) (D : Ends) (W : L2.St → Hp → Prop) : Oc (Ct × Lo × Mem) → Prop
  | .ok (c, l', m') => Aft K w H D l' m' c
  | .ex l' m' => ∀ w' H' σ', w'.m = m' → Ex w H w' H' → Wd K w' H' → SL K w' H' σ' l' → W σ' H'
theorem AftX.later {K : PySem.W.Frag} {w w1 : Wo} {H H1 : Hp} {D : Ends} {W : L2.St → Hp → Prop} {o : Oc (Ct × Lo × Mem)} (h : AftX K w H D W o) (E : Ex w H w1 H1) : AftX K w1 H1 D W o := by
  cases o with
  | ok r => exact Aft.later h E
  | ex l m => exact fun w' H' σ' c E' W' L' => h w' H' σ' c (E.trans E') W' L'
def tSX (K : PySem.W.Frag) (W : L2.St → Hp → Prop) (f : RX) : TS := fun D σ H => ∃ w l o, Wd K w H ∧ SL K w H σ l ∧ f l w.m = some o ∧ AftX K w H D W o
def AftE (K : PySem.W.Frag) (w : Wo) (H : Hp) (Q : VK) (W : L2.St → Hp → Prop) : Oc (S × Mem) → Prop
  | .ok (s, m') => ∀ w' H' v, w'.m = m' → Ex w H w' H' → Wd K w' H' → SV K w' H' v s → Q v H'
  | .ex l' m' => ∀ w' H' σ', w'.m = m' → Ex w H w' H' → Wd K w' H' → SL K w' H' σ' l' → W σ' H'
theorem AftE.later {K : PySem.W.Frag} {w w1 : Wo} {H H1 : Hp} {Q : VK} {W : L2.St → Hp → Prop} {o : Oc (S × Mem)} (h : AftE K w H Q W o) (E : Ex w H w1 H1) : AftE K w1 H1 Q W o := by
  cases o with
  | ok r => exact fun w' H' v c E' W' r => h w' H' v c (E.trans E') W' r
  | ex l m => exact fun w' H' σ' c E' W' L' => h w' H' σ' c (E.trans E') W' L'
def tFX (K : PySem.W.Frag) (W : L2.St → Hp → Prop) (f : REX) : TE := fun σ H Q => ∃ w l o, Wd K w H ∧ SL K w H σ l ∧ f l w.m = some o ∧ AftE K w H Q W o
def FSX (X : Cx) (W : L2.St → Hp → Prop) (st : Stmt) (f : RX) : Prop := PS X st (tSX X.K W f)
def FSXs (X : Cx) (W : L2.St → Hp → Prop) (st : List Stmt) (f : RX) : Prop := PSs X st (tSX X.K W f)
def FEX (X : Cx) (W : L2.St → Hp → Prop) (e : Expr) (f : REX) : Prop := PE X e (tFX X.K W f)
/-- the exceptions of one class alone, without a dict -/
def only (C : Addr) (W : L2.St → Hp → Prop) : WX := fun cls d σ H => cls = .ref C ∧ d = none ∧ W σ H
def onlyE (C : Addr) (E : Hp → Prop) : XK := fun cls d H => cls = .ref C ∧ d = none ∧ E H

section
variable {X : Cx} {W : L2.St → Hp → Prop} {C : Addr} {x : Str} {p pos : Pos} {st : Stmt} {rest : List Stmt} {fa : RS} {f g : RX} {tc : RT} {c e a b : Expr} {as bs : List Stmt}
theorem pmk_ex (U : ExK X.prog X.K C) (hm : X.mg x = some (.ref C)) (hd : X.A.depth + 1 < recursionLimit) (hg : Gl X x) (hb : (x == ("__debug__" : Str)) = false := by decide) : L2N.PMk X (.Call (.Name x p) [] [] pos) (fun _ H Q => Q (.ref C) none H) := by
  intro pins s σ H Q I h
  obtain ⟨mb, hmb, hbt⟩ := I.ok.mod.blt
  refine wpAny_Call_Name_kw (ld_glob I hg hm ?_ hb)
  refine PySem.W.callWith_K0 I.kIn U.keep (unfit_call U I.kIn (I.ok.mod.glob.keeps I.bk) (hmb.keeps I.bk) hbt (I.ok.mod.nolimit.keeps I.bk) hd fun h' e t tk kp ne he => ?_)
  have hne : s.heap.get? e = none := by
    cases q : s.heap.get? e with
    | none => rfl
    | some o => exact absurd (Heap.lt_size q) (Nat.not_lt.mpr ne)
  exact ⟨e, _, _, s, H, .ref C, none, rfl, I, kp, hne, he, ⟨rfl, rfl, fun vs e => by cases e; rfl⟩, rfl, rfl, I.hok.fresh ne, rfl, I.bare, raises_own U.exc U.typ, h⟩
theorem fx_do (h : FS X st fa) : FSX X W st (xDo fa) := PS.imp h fun D σ H ⟨w, l, o, Wd, L, e, k⟩ => by
  simp only [xDo, Option.map_eq_some_iff] at e
  obtain ⟨⟨c, l', m'⟩, e1, rfl⟩ := e
  exact ⟨w, l, c, l', m', Wd, L, e1, k⟩
theorem fxs_do (h : FSs X rest fa) : FSXs X W rest (xDo fa) := PSs.imp h fun D σ H ⟨w, l, o, Wd, L, e, k⟩ => by
  simp only [xDo, Option.map_eq_some_iff] at e
  obtain ⟨⟨c, l', m'⟩, e1, rfl⟩ := e
  exact ⟨w, l, c, l', m', Wd, L, e1, k⟩
theorem fx_raise (tk : L2N.Takes X (only C W)) (he : L2N.PMk X e (fun _ H Q => Q (.ref C) none H)) (hc : X.calm = true := by rfl) : FSX X W (.Raise (some e) none pos) xRaise := PS.imp (L2N.ps_raise hc tk he) fun D σ H ⟨w, l, o, Wd, L, e, k⟩ => by
  cases e
  exact ⟨rfl, rfl, k w H σ rfl (Ex.refl w H) Wd L⟩
theorem fx_if (hc : FT X c tc) (ha : FSXs X W as f) (hb : FSXs X W bs g) : FSX X W (.If c as bs pos) (xIf tc f g) := PS.imp (ps_if hc ha hb) fun D σ H ⟨w, l, o, Wd, L, e, k⟩ => by
  simp only [xIf, Option.bind_eq_some_iff] at e
  obtain ⟨⟨p, m1⟩, e1, e2⟩ := e
  refine goT Wd L e1 fun w1 H1 c1 E1 W1 L1 => ?_
  cases p with
  | true => exact ⟨w1, l, o, W1, L1, by rw [c1]; exact e2, k.later E1⟩
  | false => exact ⟨w1, l, o, W1, L1, by rw [c1]; exact e2, k.later E1⟩
theorem fxs_one (h : FSX X W st f) : FSXs X W [st] f := pss_one h
theorem seqX {K : PySem.W.Frag} {D : Ends} {σ : L2.St} {H : Hp} (h : tSX K W (xSeq f g) D σ H) : tSeq (tSX K W f) (tSX K W g) D σ H := by
  obtain ⟨w, l, o, Wd, L, e, k⟩ := h
  simp only [xSeq, Option.bind_eq_some_iff] at e
  obtain ⟨o1, e1, e2⟩ := e
  refine ⟨w, l, o1, Wd, L, e1, ?_⟩
  cases o1 with
  | ex l1 m1 => cases e2; exact k
  | ok r =>
    obtain ⟨c1, l1, m1⟩ := r
    cases c1 with
    | nx => exact fun w1 H1 σ1 d1 E1 W1 L1 => ⟨w1, l1, o, W1, L1, by rw [d1]; exact e2, k.later E1⟩
    | bk => cases e2; exact k
    | ct => cases e2; exact k
    | rt s => cases e2; exact k
theorem fxs_cons (h1 : FSX X W st f) (h2 : FSXs X W rest g) : FSXs X W (st :: rest) (xSeq f g) := PSs.imp (pss_cons h1 h2) fun D σ H h => seqX h
theorem fx_ret {f : REX} (he : FEX X W e f) : FSX X W (.Return (some e) pos) (xRet f) := PS.imp (ps_ret he) fun D σ H ⟨w, l, o, Wd, L, e, k⟩ => by
  simp only [xRet, Option.map_eq_some_iff] at e
  obtain ⟨o1, e1, rfl⟩ := e
  exact ⟨w, l, o1, Wd, L, e1, by cases o1 <;> exact k⟩
/-! ### expressions -/
variable {fe : RE} {fx gx : REX}
theorem fxe_if (hc : FT X c tc) (ha : FEX X W a fx) (hb : FEX X W b gx) : FEX X W (.IfExp c a b pos) (xIfE tc fx gx) := PE.imp (pe_ifExp hc ha hb) fun σ H Q ⟨w, l, o, Wd, L, e, k⟩ => by
  simp only [xIfE, Option.bind_eq_some_iff] at e
  obtain ⟨⟨p, m1⟩, e1, e2⟩ := e
  refine goT Wd L e1 fun w1 H1 c1 E1 W1 L1 => ?_
  cases p with
  | true => exact ⟨w1, l, o, W1, L1, by rw [c1]; exact e2, k.later E1⟩
  | false => exact ⟨w1, l, o, W1, L1, by rw [c1]; exact e2, k.later E1⟩
end
end Fz

set_option linter.all false
set_option autoImplicit false
set_option maxRecDepth 100000
/-! FzEx3: calls of defs that may raise; such defs; try. -/
namespace Fz
open PySem PySem.Spec PyProof.Rows L2
section
variable {X : Cx} {W : L2.St → Hp → Prop} {C : Addr} {x : Str} {p pos : Pos} {a b : Expr} {fa : RE} {fx : REX}
theorem two_of {K : PySem.W.Frag} {g : List PyData → PyData} {R : List V → Hp → Prop} {σ : L2.St} {H : Hp} {Q : VK} (h : tFX K W (xTwo g fa fx) σ H Q)
    (hg : ∀ w1 H1 vs ds, Wd K w1 H1 → DqAll K w1.P H1 vs ds → ds.length = 2 → (∀ w' H' v, w'.m = w1.m → Ex w1 H1 w' H' → Wd K w' H' → SV K w' H' v (.d (g ds)) → Q v H') → R vs H1) :
    tCons (tF K fa) (tCons (tFX K W fx) tNil) σ H R := by
  obtain ⟨w, l, o, Wd, L, e, k⟩ := h
  simp only [xTwo, Option.bind_eq_some_iff] at e
  obtain ⟨q, e1, o1, e2, e3⟩ := e
  refine goF Wd L e1 fun w1 H1 v1 c1 E1 W1 L1 s1 => ?_
  refine ⟨w1, l, o1, W1, L1, by rw [c1]; exact e2, ?_⟩
  cases o1 with
  | ex l' m' =>
    cases e3
    exact fun w2 H2 σ2 c2 E2 W2 L2 => k w2 H2 σ2 c2 (E1.trans E2) W2 L2
  | ok r =>
    obtain ⟨s2, m2⟩ := r
    simp only [Option.map_eq_some_iff] at e3
    obtain ⟨ds, e4, rfl⟩ := e3
    refine fun w2 H2 v2 c2 E2 W2 sv2 => ?_
    have hs : SVs K w2 H2 [v1, v2] [q.1, s2] := .cons (s1.go W1 E2) (.cons sv2 .nil)
    refine hg w2 H2 [v1, v2] ds W2 (hs.all e4) ?_ fun w' H' v c E W' sv => k w' H' v (c.trans c2) (E1.trans (E2.trans E)) W' sv
    have := congrArg List.length (allD_eq e4)
    simpa using this.symm
theorem fxe_tup2 {k : Nat} (ha : FE X a fa) (hb : FEX X W b fx) (h1 : starEach [a, b] X.env = (false, eval a X.env) :: starEach [b] X.env := by rfl) (h2 : starEach [b] X.env = (false, eval b X.env) :: starEach [] X.env := by rfl) : FEX X W (.Tuple [a, b] k pos) (xTup2 fa fx) :=
  PE.imp (pe_tupN (pa_cons ha (pa_cons hb pa_nil h2) h1)) fun σ H Q h => two_of h fun w1 H1 vs ds W1 hd hl kk => by
    have hz : ds.length ≤ sizeLine := by rw [hl, sizeLine_eq]; decide
    refine ⟨by rw [hd.len]; exact hz, fun q o ho hq => ?_⟩
    obtain ⟨E, W'⟩ := W1.same (same_upd (o := .frz o (.tup vs)) hq)
    exact kk w1 _ _ rfl E W' (.tup (.inl ⟨o, upd_same, ho⟩) hz (DqAll.go W1 E hd))
theorem fxe_lst2 (ha : FE X a fa) (hb : FEX X W b fx) (h1 : starEach [a, b] X.env = (false, eval a X.env) :: starEach [b] X.env := by rfl) (h2 : starEach [b] X.env = (false, eval b X.env) :: starEach [] X.env := by rfl) : FEX X W (.List [a, b] pos) (xLst2 fa fx) :=
  PE.imp (pe_lst (pa_cons ha (pa_cons hb pa_nil h2) h1)) fun σ H Q h => two_of h fun w1 H1 vs ds W1 hd hl kk => by
    have hz : ds.length ≤ sizeLine := by rw [hl, sizeLine_eq]; decide
    refine ⟨by rw [hd.len]; exact hz, fun q hq => ?_⟩
    obtain ⟨E, W'⟩ := W1.same (same_upd (o := .lst vs) hq)
    exact kk w1 _ _ rfl E W' (.lst (.inl upd_same) (W1.new hq) hz (DqAll.go W1 E hd))
end
/-! ### defs -/
/-- a def of data that may raise the exception of C: its promise -/
def spX (K : PySem.W.Frag) (C : Addr) (n : Nat) (F : PX) : Sp := fun vs H Q E => vs.length = n ∧ ∃ P ds o, ((∀ a, H a = none → P a) ∧ SysH H ∧ P sysModules) ∧ DqAll K P H vs ds ∧ F ds = some o ∧
  match o with
  | some r => ∀ v H', Same H H' → Dq K P H' v r → Q v H'
  | none => ∀ H', Same H H' → E (.ref C) none H'
section
variable {X : Cx} {W : L2.St → Hp → Prop} {C : Addr} {k n : Nat} {f : Addr} {fd : FuncData} {ps ks : List Str} {x : Str} {p pos : Pos} {a : Expr} {es : List Expr} {kws : List Keyword} {is : List Nat} {G : PX} {as bs : List RE}
theorem runGx {pins : List (Addr × Obj)} {σ : L2.St} {H : Hp} {s : Shared} {Q : VK} {E : XK} {us us' : List Value} {kw : List (Str × Value)} {vs : List V} {sp : Sp} {k : Nat} (F : FnG X.prog X.w X.K X.mg X.base (L2N.CX X.prog X.w) k f fd ps sp) (hG : X.A.guards = some []) (hr : Room k X.A) (hx : PassesAt (L2N.CX X.prog X.w) X σ E)
    (I : Inv X pins σ H s) (hb : BindsTo s fd ⟨us, kw⟩ (ps.zip us')) (r : Vals vs us') (h : sp vs H Q E) : wpAny (model X.prog X.w) X.A (call (.ref f) us kw) (EP X pins σ Q) X.xe s := by
  refine wpAny_call (codeAny_mono (F.run X.A X.stack s H ⟨us, kw⟩ us' vs Q E hG hr I.env0 hb r h) fun r s' hq => ?_)
  match r, hq with
  | .error e, hq => exact hx pins H s e s' I hq
  | .ok (.ret u), hq => exact I.after hq
  | .ok .next, hq => exact hq.elim
  | .ok .brk, hq => exact hq.elim
  | .ok .cont, hq => exact hq.elim
/-- a raising def's promise, met -/
theorem metX {K : PySem.W.Frag} {w : Wo} {H : Hp} {vs : List V} {ss : List S} {ds : List PyData} {o : Option PyData} {Q : VK} {E : XK} (Wd : Wd K w H) (h : SVs K w H vs ss) (hl : ss.length = n) (e : allD ss = some ds) (eg : G ds = some o)
    (k : match o with
      | some r => ∀ w' H' v, w'.m = w.m → Ex w H w' H' → Fz.Wd K w' H' → SV K w' H' v (.d r) → Q v H'
      | none => ∀ w' H', w'.m = w.m → Ex w H w' H' → Fz.Wd K w' H' → E (.ref C) none H') : spX K C n G vs H Q E := by
  refine ⟨by rw [h.len]; exact hl, w.P, ds, o, ⟨fun a q => Wd.new q, Wd.sys, Wd.syp, fun n hl => Wd.syn n (live_lt hl)⟩, h.all e, eg, ?_⟩
  cases o with
  | some r => exact fun v H' S0 hv => let ⟨E, W'⟩ := Wd.same S0; k w H' v rfl E W' hv
  | none => exact fun H' S0 => let ⟨E, W'⟩ := Wd.same S0; k w H' rfl E W'
theorem fxe_p (tk : L2N.Takes X (only C W)) (F : FnG X.prog X.w X.K X.mg X.base (L2N.CX X.prog X.w) k f fd ps (spX X.K C n G)) (hG : X.A.guards = some []) (hr : Room k X.A) (hm : X.mg x = some (.ref f)) (hk : PySem.W.keepIn X.K (.ref f) = true) (hb : Binds X.K fd ps []) (ha : FA X (a :: es) (rA as)) (hn : as.length = n := by rfl)
    (hg : Gl X x := by rfl) (hd : (x == ("__debug__" : Str)) = false := by decide) (he : starEach (a :: es) X.env = (false, eval a X.env) :: starEach es X.env := by rfl) (hpl : (backTo pos (starEach es X.env)).any (·.1) = false := by rfl) :
    FEX X W (.Call (.Name x p) (a :: es) [] pos) (xP G (rA as)) := by
  refine ⟨fun pins s σ H Q I h => wpAny_Call_Name_kw (ld_glob I hg hm ?_ hd)⟩
  have h' : tA X.K (rA as) σ H fun vs H1 => spX X.K C n G vs H1 Q (L2.WE (only C W) σ) := by
    obtain ⟨w, l, o, Wd, L, e, kk⟩ := h
    simp only [xP, Option.bind_eq_some_iff, Option.map_eq_some_iff] at e
    obtain ⟨q, e1, ds, e2, o1, e3, rfl⟩ := e
    refine goA Wd L e1 fun w1 H1 vs c1 E1 W1 L1 s1 => ?_
    refine metX W1 s1 (by rw [rA_len e1]; exact hn) e2 e3 ?_
    cases o1 with
    | some r => exact fun w' H' v c E W' hv => kk w' H' v (c.trans c1) (E1.trans E) W' hv
    | none => exact fun w' H' c E W' => ⟨rfl, rfl, kk w' H' σ (c.trans c1) (E1.trans E) W' (L1.go W1 E)⟩
  refine PySem.W.callWith_K (h₀ := X.base) I.ok.mod.kin hk (thn (ha.run pos pins s σ H _ I h') fun us s1 ⟨vs, H1, I1, r, q⟩ => ⟨I1.kIn, ?_⟩) he hpl
  have hl : us.length = ps.length := by rw [← r.length]; exact F.len _ _ _ _ q
  have hb' := hb s1 us I1.kIn (by simpa using hl)
  rw [List.append_nil] at hb'
  exact runGx F hG hr (L2N.passAt tk σ) I1 hb' r q
theorem fxe_pk0 (tk : L2N.Takes X (only C W)) (F : FnG X.prog X.w X.K X.mg X.base (L2N.CX X.prog X.w) k f fd ps (spX X.K C n G)) (hG : X.A.guards = some []) (hr : Room k X.A) (hm : X.mg x = some (.ref f)) (hk : PySem.W.keepIn X.K (.ref f) = true) (hb : KwB fd ps ks 0 is) (hkw : FK X kws (rA bs)) (hbs : bs.length = ks.length := by rfl) (hn : (pick is (List.replicate bs.length ())).length = n := by rfl)
    (hg : Gl X x := by rfl) (hd : (x == ("__debug__" : Str)) = false := by decide) (hall : (backToKw pos (keywordEach kws X.env)).all (·.1.isSome) = true := by rfl) (hks : (backToKw pos (keywordEach kws X.env)).filterMap (·.1) = ks := by rfl)
    (hpl : ((backTo pos (starEach [] X.env)).any (·.1) || (backToKw pos (keywordEach kws X.env)).any (·.1.isNone)) = false := by rfl) :
    FEX X W (.Call (.Name x p) [] kws pos) (xP G (rK is [] bs)) := by
  refine ⟨fun pins s σ H Q I h => wpAny_Call_Name_kw (ld_glob I hg hm ?_ hd)⟩
  have h' : tA X.K (rA bs) σ H fun zs H2 => zs.length = ks.length ∧ spX X.K C n G (pick is zs) H2 Q (L2.WE (only C W) σ) := by
    obtain ⟨w, l, o, Wd, L, e, kk⟩ := h
    simp only [xP, rK, rA, Option.bind_some, Option.bind_eq_some_iff, Option.map_eq_some_iff, Prod.mk.injEq, List.nil_append] at e
    obtain ⟨u, ⟨q2, e2, rfl⟩, ds, e3, o1, e4, rfl⟩ := e
    refine goA Wd L e2 fun w2 H2 zs c2 E2 W2 L2 s2 => ?_
    refine ⟨by rw [s2.len, rA_len e2, hbs], ?_⟩
    have sp := Paired.pick s2 is
    refine metX W2 sp ?_ e3 e4 ?_
    · rw [← hn]
      exact pick_len _ (by rw [rA_len e2, List.length_replicate])
    · cases o1 with
      | some r => exact fun w' H' v c E W' hv => kk w' H' v (c.trans c2) (E2.trans E) W' hv
      | none => exact fun w' H' c E W' => ⟨rfl, rfl, kk w' H' σ (c.trans c2) (E2.trans E) W' (L2.go W2 E)⟩
  refine PySem.W.callWith_KW0 (h₀ := X.base) I.ok.mod.kin hk hall ?_ hpl
  refine thn (hkw.run pos pins s σ H _ I h') fun ws s2 ⟨zs, H2, I2, rz, l2, q2⟩ => ⟨I2.kIn, ?_⟩
  rw [hks]
  have hb' := hb s2 [] ws rfl (by rw [← rz.length]; exact l2)
  exact runGx (us := []) F hG hr (L2N.passAt tk σ) I2 hb' (Paired.pick rz is) q2
end
section
variable {P : Program} {w : World} {K : PySem.W.Frag} {mg : Str → Option Value} {base : Heap} {C : Addr}
abbrev cxX (P : Program) (w : World) (K : PySem.W.Frag) (mg : Str → Option Value) (base : Heap) (N : List Str) (qual : Str) (st : Stmt) (f : Addr) (cdv : Value) (A : Around) (outer : List Env) (s : Shared) (H : Hp) (E : XK) : Cx :=
  cxOf (L2N.CX P w) P w K mg base N qual (defScope st) f cdv A outer s H E
/-- a def that makes data of data, or raises -/
theorem okX {x qual : Str} {st : Stmt} {f : Addr} {fd : FuncData} {N ps : List Str} {k : Nat} {b : RX} (F : Fun K x qual st f fd) (Sc : FnScope N ps (defScope st)) (hps : ps.length ≤ N.length)
    (hbody : ∀ (cdv : Value) (A : Around) (outer : List Env) (s : Shared) (H : Hp) (E : XK), A.guards = some [] → Room k (A.deeper (envOfC qual (defScope st) s.heap.objs.size f cdv)) →
      L2N.Takes (cxX P w K mg base N qual st f cdv A outer s H E) (only C fun _ H' => E (.ref C) none H') → FSXs (cxX P w K mg base N qual st f cdv A outer s H E) (fun _ H' => E (.ref C) none H') (defBody st) b) :
    FnG P w K mg base (L2N.CX P w) (k + 1) f fd ps (spX K C ps.length (runX N.length b)) := by
  refine fnG_of F Sc (fun vs H Q E h => h.1) fun cdv A outer s H vs Q E hg hr h => ?_
  obtain ⟨hl, P0, ds, o, ⟨hf, hy, hz⟩, ha, e, q⟩ := h
  have tk0 : L2N.Takes (cxX P w K mg base N qual st f cdv A outer s H E) (fun cls d _ H => E cls d H) := L2N.takes_of rfl rfl rfl rfl
  refine ⟨tSX K (fun _ H' => E (.ref C) none H') b, hbody cdv A outer s H E hg hr (tk0.imp fun c d σ H h => by obtain ⟨rfl, rfl, h⟩ := h; exact h), ?_⟩
  simp only [runX, Option.bind_eq_some_iff] at e
  obtain ⟨o1, e1, e2⟩ := e
  have W : Wd K ⟨P0, fun _ => 0, []⟩ H := ⟨hy, hz, fun n h => absurd h (by simp), hf, fun i j h => absurd h (by simp), fun n h => absurd h (by simp), fun n ss h => by simp at h, fun n ss h => by simp at h, fun n ss h => by simp at h, fun n ss h => by simp at h⟩
  have ha' : SVs K ⟨P0, fun _ => 0, []⟩ H vs (ds.map S.d) := SVs.d (DqAll.mono (P' := Wo.P ⟨P0, fun _ => 0, []⟩) (fun _ _ e => e) (fun a o _ p => ⟨p, fun n hl => absurd (live_lt hl) (by simp)⟩) ha)
  have same : ∀ {w' H'}, Ex ⟨P0, fun _ => 0, []⟩ H w' H' → Same H H' := fun E b o h => (E.keep b o h fun n hl => absurd (live_lt hl) (by simp)).1
  refine ⟨_, lo0 N.length (ds.map S.d), o1, W, sl0 ha' (by omega), e1, ?_⟩
  cases o1 with
  | ex l' m' =>
    cases e2
    exact fun w' H' σ' c E W' L' => q _ (same E)
  | ok r =>
    obtain ⟨c, l', m'⟩ := r
    cases c with
    | nx => cases e2; exact fun w' H' σ' c E W' L' => q _ _ (same E) .non
    | bk => cases e2
    | ct => cases e2
    | rt s' =>
      simp only [Option.map_eq_some_iff] at e2
      obtain ⟨r, e2, rfl⟩ := e2
      exact fun w' H' v c E W' sv => q _ _ (same E) (by
        have h := SV.ret W' sv (by rw [c]; exact e2)
        rw [E.out] at h; exact h)
end
end Fz

set_option linter.all false
set_option autoImplicit false
set_option maxRecDepth 100000
/-! FzEx4: try; calls of raising defs where nothing is raised. -/
namespace Fz
open PySem PySem.Spec PyProof.Rows L2
section
variable {X : Cx} {C : Addr} {k n : Nat} {f : Addr} {fd : FuncData} {ps ks : List Str} {x : Str} {p pos np pos' : Pos} {a : Expr} {es : List Expr} {kws : List Keyword} {is : List Nat} {G : PX} {as bs : List RE} {body suite : List Stmt} {b₀ : Stmt} {fb : RX} {fs : RS}
theorem hdp {A} (hr : Room k A) : A.depth + 1 < recursionLimit := by
  have := hr.dp
  omega
/-- nothing leaves -/
theorem takes_no : L2N.Takes X (fun _ _ _ _ => False) := fun u s' x => by
  obtain ⟨_, _, _, _, _, _, _, _, _, _, _, _, _, _, _, _, w⟩ := x
  exact w.elim
theorem pass_no {σ : L2.St} : PassesAt (L2N.CX X.prog X.w) X σ (fun _ _ _ => False) := fun _ _ _ _ _ _ c => by
  obtain ⟨_, _, _, _, _, _, _, _, _, _, _, _, w⟩ := c
  exact w.elim
theorem fs_try (hs : X.stack = X.env :: X.outer) (hf : X.env.frame = some X.env.locals) (hc : Names X x (.ref C)) (hx : PySem.W.exmOne X.K (.ref C) (.ref C) = some true)
    (hb : ∀ (W : L2.St → Hp → Prop) (pn : List (Addr × Obj)) (xe : Value → Shared → Prop), L2N.Takes (X.tr pn xe) (only C W) → FSXs (X.tr pn xe) W body fb)
    (hsu : ∀ (a : Addr) (pn : List (Addr × Obj)), FSs (X.suite a pn) (b₀ :: suite) fs) :
    FS X (.Try body [.ExceptHandler (some (.Name x np)) none (b₀ :: suite) pos'] [] [] pos) (sTry fb fs) :=
  PS.imp (L2N.ps_try_many (tb := fun W => tSX X.K (fun σ H => W (.ref C) none σ H) fb) hs hf takes_no
    (fun W pn xe tk _ => hb _ pn xe (tk.imp fun c d σ H h => by obtain ⟨rfl, rfl, h⟩ := h; exact h))
    (.cons (ts := fun _ _ _ => tS X.K fs) hc (fun a oe cls d pn _ _ => hsu a _) .nil)) fun D σ H ⟨w, l, c, l', m', Wd, L, e, k⟩ => by
    simp only [sTry, Option.bind_eq_some_iff] at e
    obtain ⟨o, e1, e2⟩ := e
    refine ⟨w, l, o, Wd, L, e1, ?_⟩
    cases o with
    | ok r => cases e2; exact k
    | ex l1 m1 => exact fun w1 H1 σ1 c1 E1 W1 L1 => ⟨true, hx, fun _ a _ => ⟨w1, l1, c, l', m', W1, L1, by rw [c1]; exact e2, k.later E1⟩, fun h => by cases h⟩
def joinX (G : PX) : PF := fun ds => (G ds).bind id
theorem fe_px (F : FnG X.prog X.w X.K X.mg X.base (L2N.CX X.prog X.w) k f fd ps (spX X.K C n G)) (hG : X.A.guards = some []) (hr : Room k X.A) (hm : X.mg x = some (.ref f)) (hk : PySem.W.keepIn X.K (.ref f) = true) (hb : Binds X.K fd ps []) (ha : FA X (a :: es) (rA as)) (hn : as.length = n := by rfl)
    (hg : Gl X x := by rfl) (hd : (x == ("__debug__" : Str)) = false := by decide) (he : starEach (a :: es) X.env = (false, eval a X.env) :: starEach es X.env := by rfl) (hpl : (backTo pos (starEach es X.env)).any (·.1) = false := by rfl) :
    FE X (.Call (.Name x p) (a :: es) [] pos) (eP (joinX G) (rA as)) := by
  refine ⟨fun pins s σ H Q I h => wpAny_Call_Name_kw (ld_glob I hg hm ?_ hd)⟩
  have h' : tA X.K (rA as) σ H fun vs H1 => spX X.K C n G vs H1 Q (fun _ _ _ => False) := by
    obtain ⟨w, l, s, m', Wd, L, e, kk⟩ := h
    simp only [eP, Option.bind_eq_some_iff, Option.map_eq_some_iff, Prod.mk.injEq] at e
    obtain ⟨q, e1, ds, e2, r, e3, rfl, rfl⟩ := e
    simp only [joinX, Option.bind_eq_some_iff] at e3
    obtain ⟨o, e3, e4⟩ := e3
    have e4 : o = some r := e4
    subst e4
    refine goA Wd L e1 fun w1 H1 vs c1 E1 W1 L1 s1 => ?_
    exact metX W1 s1 (by rw [rA_len e1]; exact hn) e2 e3 fun w' H' v c E W' hv => kk w' H' v (c.trans c1) (E1.trans E) W' hv
  refine PySem.W.callWith_K (h₀ := X.base) I.ok.mod.kin hk (thn (ha.run pos pins s σ H _ I h') fun us s1 ⟨vs, H1, I1, r, q⟩ => ⟨I1.kIn, ?_⟩) he hpl
  have hl : us.length = ps.length := by rw [← r.length]; exact F.len _ _ _ _ q
  have hb' := hb s1 us I1.kIn (by simpa using hl)
  rw [List.append_nil] at hb'
  exact runGx F hG hr pass_no I1 hb' r q
theorem fe_pxk0 (F : FnG X.prog X.w X.K X.mg X.base (L2N.CX X.prog X.w) k f fd ps (spX X.K C n G)) (hG : X.A.guards = some []) (hr : Room k X.A) (hm : X.mg x = some (.ref f)) (hk : PySem.W.keepIn X.K (.ref f) = true) (hb : KwB fd ps ks 0 is) (hkw : FK X kws (rA bs)) (hbs : bs.length = ks.length := by rfl) (hn : (pick is (List.replicate bs.length ())).length = n := by rfl)
    (hg : Gl X x := by rfl) (hd : (x == ("__debug__" : Str)) = false := by decide) (hall : (backToKw pos (keywordEach kws X.env)).all (·.1.isSome) = true := by rfl) (hks : (backToKw pos (keywordEach kws X.env)).filterMap (·.1) = ks := by rfl)
    (hpl : ((backTo pos (starEach [] X.env)).any (·.1) || (backToKw pos (keywordEach kws X.env)).any (·.1.isNone)) = false := by rfl) :
    FE X (.Call (.Name x p) [] kws pos) (eP (joinX G) (rK is [] bs)) := by
  refine ⟨fun pins s σ H Q I h => wpAny_Call_Name_kw (ld_glob I hg hm ?_ hd)⟩
  have h' : tA X.K (rA bs) σ H fun zs H2 => zs.length = ks.length ∧ spX X.K C n G (pick is zs) H2 Q (fun _ _ _ => False) := by
    obtain ⟨w, l, s, m', Wd, L, e, kk⟩ := h
    simp only [eP, rK, rA, Option.bind_some, Option.bind_eq_some_iff, Option.map_eq_some_iff, Prod.mk.injEq, List.nil_append] at e
    obtain ⟨u, ⟨q2, e2, rfl⟩, ds, e3, r, e4, rfl, rfl⟩ := e
    simp only [joinX, Option.bind_eq_some_iff] at e4
    obtain ⟨o, e4, e5⟩ := e4
    have e5 : o = some r := e5
    subst e5
    refine goA Wd L e2 fun w2 H2 zs c2 E2 W2 L2 s2 => ?_
    refine ⟨by rw [s2.len, rA_len e2, hbs], ?_⟩
    refine metX W2 (Paired.pick s2 is) ?_ e3 e4 fun w' H' v c E W' hv => kk w' H' v (c.trans c2) (E2.trans E) W' hv
    rw [← hn]
    exact pick_len _ (by rw [rA_len e2, List.length_replicate])
  refine PySem.W.callWith_KW0 (h₀ := X.base) I.ok.mod.kin hk hall ?_ hpl
  refine thn (hkw.run pos pins s σ H _ I h') fun ws s2 ⟨zs, H2, I2, rz, l2, q2⟩ => ⟨I2.kIn, ?_⟩
  rw [hks]
  have hb' := hb s2 [] ws rfl (by rw [← rz.length]; exact l2)
  exact runGx (us := []) F hG hr pass_no I2 hb' (Paired.pick rz is) q2
end
/-! ### except .. as n: the exception asked -/
/-- slot i holds the exception -/
def tSA (K : PySem.W.Frag) (i : Nat) (a : Addr) (f : RS) : TS := fun D σ H => σ[i]? = some (some (.ref a)) ∧ tS K f D σ H
def tFA (K : PySem.W.Frag) (i : Nat) (a : Addr) (f : RE) : TE := fun σ H Q => σ[i]? = some (some (.ref a)) ∧ tF K f σ H Q
def tTA (K : PySem.W.Frag) (i : Nat) (a : Addr) (f : RT) : TT := fun σ H Q => σ[i]? = some (some (.ref a)) ∧ tT K f σ H Q
def tAA (K : PySem.W.Frag) (i : Nat) (a : Addr) (f : RA) : TA := fun σ H Q => σ[i]? = some (some (.ref a)) ∧ tA K f σ H Q
section
variable {X : Cx} {i : Nat} {q : Addr} {a b c : Expr} {es : List Expr} {fa fb : RE} {tc : RT} {as : List RE} {pos : Pos} {st : Stmt} {fs : RS}
theorem fea_of (h : FE X a fa) : PE X a (tFA X.K i q fa) := PE.imp h fun σ H Q h => h.2
theorem faa_nil : PA X [] (tAA X.K i q (rA [])) := PA.imp fa_nil fun σ H Q h => h.2
theorem faa_cons (ha : PE X a (tFA X.K i q fa)) (hr : PA X es (tAA X.K i q (rA as))) (hs : starEach (a :: es) X.env = (false, eval a X.env) :: starEach es X.env := by rfl) : PA X (a :: es) (tAA X.K i q (rA (fa :: as))) := PA.imp (pa_cons ha hr hs) fun σ H Q ⟨hq, w, l, s, m', W, L, e, k⟩ => by
  simp only [rA, Option.bind_eq_some_iff, Option.map_eq_some_iff, Prod.mk.injEq] at e
  obtain ⟨p, e1, q1, e2, rfl, rfl⟩ := e
  exact ⟨hq, goF W L e1 fun w1 H1 v1 c1 E1 W1 L1 s1 => ⟨hq, goA W1 L1 (by rw [c1]; exact e2) fun w2 H2 v2 c2 E2 W2 L2 s2 => k w2 H2 _ c2 (E1.trans E2) W2 (.cons (s1.go W1 E2) s2)⟩⟩
theorem fea_lst (h : PA X es (tAA X.K i q (rA as))) (hz : as.length ≤ 1000 := by first | decide | exact Nat.le_of_ble_eq_true rfl) : PE X (.List es pos) (tFA X.K i q (eLst as)) := PE.imp (pe_lst h) fun σ H Q ⟨hq, w, l, s, m', W, L, e, k⟩ => by
  simp only [eLst, Option.bind_eq_some_iff, Option.map_eq_some_iff, Prod.mk.injEq] at e
  obtain ⟨p, e1, ds, e2, rfl, rfl⟩ := e
  refine ⟨hq, goA W L e1 fun w1 H1 vs c1 E1 W1 L1 s1 => ?_⟩
  have hl : ds.length ≤ sizeLine := by
    have h1 := rA_len e1
    rw [allD_eq e2, List.length_map] at h1
    exact ok_len (by omega)
  refine ⟨by rw [s1.len, allD_eq e2, List.length_map]; exact hl, fun q hq => ?_⟩
  obtain ⟨E, W'⟩ := W1.same (same_upd (o := .lst vs) hq)
  exact k w1 _ _ c1 (E1.trans E) W' (.lst (.inl upd_same) (W1.new hq) hl (DqAll.go W1 E (s1.all e2)))
theorem fea_if (hc : PT X c (tTA X.K i q tc)) (ha : PE X a (tFA X.K i q fa)) (hb : PE X b (tFA X.K i q fb)) : PE X (.IfExp c a b pos) (tFA X.K i q (eIf tc fa fb)) := PE.imp (pe_ifExp hc ha hb) fun σ H Q h => by
  obtain ⟨hq, w, l, x, m', W, L, e, k⟩ := h
  simp only [eIf, Option.bind_eq_some_iff] at e
  obtain ⟨⟨p, m1⟩, e1, e2⟩ := e
  refine ⟨hq, goT W L e1 fun w1 H1 c1 E1 W1 L1 => ?_⟩
  cases p with
  | true => exact ⟨hq, goF W1 L1 (by rw [c1]; exact e2) fun w2 H2 v2 c2 E2 W2 L2 s2 => k w2 H2 v2 c2 (E1.trans E2) W2 s2⟩
  | false => exact ⟨hq, goF W1 L1 (by rw [c1]; exact e2) fun w2 H2 v2 c2 E2 W2 L2 s2 => k w2 H2 v2 c2 (E1.trans E2) W2 s2⟩
theorem fsa_ret (he : PE X a (tFA X.K i q fa)) : PS X (.Return (some a) pos) (tSA X.K i q (sRet fa)) := PS.imp (ps_ret he) fun D σ H ⟨hq, w, l, c, l', m', W, L, e, k⟩ => by
  simp only [sRet, Option.map_eq_some_iff, Prod.mk.injEq] at e
  obtain ⟨p, e1, rfl, rfl, rfl⟩ := e
  exact ⟨hq, goF W L e1 fun w1 H1 v1 c1 E1 W1 L1 s1 => k w1 H1 v1 c1 E1 W1 s1⟩
theorem fsa_one (h : PS X st (tSA X.K i q fs)) : PSs X [st] (tSA X.K i q fs) := pss_one h
end
end Fz

set_option linter.all false
set_option autoImplicit false
set_option maxRecDepth 100000
/-! FzEx5: try .. except C as n: the exception asked for its class. -/
namespace Fz
open PySem PySem.Spec PyProof.Rows L2
section
variable {X : Cx} {C D : Addr} {i : Nat} {x n : Str} {pos np pos' p p1 p2 : Pos} {body suite : List Stmt} {b₀ : Stmt} {fb : RX} {fs : RS}
/-- isinstance(n, D), n the exception -/
theorem fea_is {a : Addr} {oe : Obj} {pn : List (Addr × Obj)} {b : Bool} (EC : ExcC X.K C) (hz : L2N.Zn (.ref C) none oe) (hf : ∃ vs, oe.data = .fields vs) (hb : PySem.W.kitOne X.K (.ref C) (.ref D) = some b) (hi : X.N[i]? = some n) (hv : Vis X.env.scope n)
    (hm : X.mg "isinstance" = none) (hmD : X.mg x = some (.ref D)) (hg : Gl X "isinstance" := by rfl) (hg2 : Gl X x := by rfl) (hd : (n == ("__debug__" : Str)) = false := by decide) (hcd : (n == ("__classdict__" : Str)) = false := by decide) (hd2 : (x == ("__debug__" : Str)) = false := by decide)
    (h1 : starEach [.Name n p1, .Name x p2] X.env = (false, eval (.Name n p1) X.env) :: starEach [.Name x p2] X.env := by rfl) (h2 : starEach [.Name x p2] X.env = (false, eval (.Name x p2) X.env) :: starEach [] X.env := by rfl) (hpl : (backTo pos (starEach [.Name x p2] X.env)).any (·.1) = false := by rfl) :
    PE (X.suite a ((a, oe) :: pn)) (.Call (.Name "isinstance" p) [.Name n p1, .Name x p2] [] pos) (tFA X.K i a (eC (.bool b))) :=
  PE.imp (pe_callB (X := X.suite a ((a, oe) :: pn)) (call_isE (X := X) EC hz.zc hf) hg hm rfl (pa_cons (pe_var (X := X.suite a ((a, oe) :: pn)) hi hv hd hcd) (pa_cons (pe_glob (X := X.suite a ((a, oe) :: pn)) (v := .ref D) hg2 hmD rfl hd2) pa_nil h2) h1) (by decide) (by decide) h1 hpl) fun σ H Q ⟨hq, w, l, s, m', W, L, e, k⟩ => by
    simp only [eC, Option.some.injEq, Prod.mk.injEq] at e
    obtain ⟨rfl, rfl⟩ := e
    exact ⟨.ref a, hq, .ref D, .ref D, b, rfl, fun u h => h.symm ▸ rfl, hb, k w H (.bl b) rfl (Ex.refl w H) W (.bl b)⟩
theorem fta_val {a : Addr} {ea : Expr} {fa : RE} (ha : PE X ea (tFA X.K i a fa)) (he : ∀ whole, isTrue ea X.env whole = (do let v ← whole; standAt ea.pos; holding [v] (truthy v)) := by intro _; rfl) : PT X ea (tTA X.K i a (Fz.tB fa)) := PT.imp (pt_val ha he) fun σ H Q h => by
  obtain ⟨hq, w, l, b, m', W, L, e, k⟩ := h
  refine ⟨hq, ?_⟩
  simp only [Fz.tB, Option.bind_eq_some_iff] at e
  obtain ⟨⟨ps, pm⟩, e1, e2⟩ := e
  cases ps with
  | r n => cases e2
  | d x =>
    cases x <;> cases e2
    refine goF W L e1 fun w1 H1 v1 c1 E1 W1 L1 s1 => ?_
    cases (show Dq X.K w1.P H1 v1 (.bool b) from s1)
    exact ⟨b, rfl, k w1 H1 c1 E1 W1⟩
theorem fta_not {a : Addr} {ea : Expr} {ta : RT} (ha : PT X ea (tTA X.K i a ta)) : PT X (.UnaryOp .Not ea pos) (tTA X.K i a (Fz.tNot ta)) := PT.imp (pt_not ha) fun σ H Q h => by
  obtain ⟨hq, w, l, b, m', W, L, e, k⟩ := h
  simp only [Fz.tNot, Option.map_eq_some_iff, Prod.mk.injEq] at e
  obtain ⟨p, e1, rfl, rfl⟩ := e
  exact ⟨hq, goT W L e1 fun w1 H1 c1 E1 W1 L1 => k w1 H1 c1 E1 W1⟩
theorem sl_set {K : PySem.W.Frag} {w : Wo} {H : Hp} {σ : L2.St} {l : Lo} {v : Option V} (L : SL K w H σ l) : SL K w H (σ.set i v) (l.set i none) := by
  refine ⟨by rw [List.length_set, List.length_set]; exact L.1, fun j s h => ?_⟩
  by_cases e : i = j
  · subst e
    rw [List.getElem?_set] at h
    simp only [if_true] at h
    split at h <;> cases h
  · rw [List.getElem?_set_ne e] at h
    obtain ⟨v, h1, h2⟩ := L.2 j s h
    exact ⟨v, by rw [List.getElem?_set_ne e]; exact h1, h2⟩
theorem aft_set {K : PySem.W.Frag} {w : Wo} {H : Hp} {D : Ends} {l : Lo} {m : Mem} {c : Ct} (h : Aft K w H D (l.set i none) m c) : Aft K w H { nx := fun σ' H' => D.nx (σ'.set i none) H', rt := D.rt, bk := fun σ' H' => D.bk (σ'.set i none) H', ct := fun σ' H' => D.ct (σ'.set i none) H' } l m c := by
  cases c with
  | nx => exact fun w' H' σ' c E' W L => h w' H' _ c E' W (sl_set L)
  | bk => exact fun w' H' σ' c E' W L => h w' H' _ c E' W (sl_set L)
  | ct => exact fun w' H' σ' c E' W L => h w' H' _ c E' W (sl_set L)
  | rt s => exact h
/-- try: b; except the exception as slot i: suite -/
def sTryAs (i : Nat) (b : RX) (suite : RS) : RS := fun l m => (b l m).bind fun o => match o with
  | .ok r => some r
  | .ex l' m' => if i < l'.length then (suite (l'.set i none) m').map fun r => (r.1, r.2.1.set i none, r.2.2) else none
theorem fs_tryAs (hs : X.stack = X.env :: X.outer) (hf : X.env.frame = some X.env.locals) (hN : X.N.Nodup) (hi : X.N[i]? = some n) (hln : X.env.kindOf n = some .local) (hc : Names X x (.ref C)) (hx : PySem.W.exmOne X.K (.ref C) (.ref C) = some true)
    (hb : ∀ (W : L2.St → Hp → Prop) (pn : List (Addr × Obj)) (xe : Value → Shared → Prop), L2N.Takes (X.tr pn xe) (only C W) → FSXs (X.tr pn xe) W body fb)
    (hsu : ∀ (a : Addr) (oe : Obj) (pn : List (Addr × Obj)), L2N.Zn (.ref C) none oe → (∃ vs, oe.data = .fields vs) → PSs (X.suite a ((a, oe) :: pn)) (b₀ :: suite) (tSA X.K i a fs)) :
    FS X (.Try body [.ExceptHandler (some (.Name x np)) (some n) (b₀ :: suite) pos'] [] [] pos) (sTryAs i fb fs) :=
  PS.imp (L2N.ps_try_as (i := i) (tb := fun W => tSX X.K (fun σ H => W (.ref C) none σ H) fb) (ts := fun a cls d D σ H => (cls = .ref C ∧ d = none) ∧ tSA X.K i a fs D σ H) hs hf hN hi hln hc takes_no
    (fun W pn xe tk _ => hb _ pn xe (tk.imp fun c d σ H h => by obtain ⟨rfl, rfl, h⟩ := h; exact h))
    (fun a oe cls d pn hz hd => ⟨fun pins s σ H D I h => by obtain ⟨⟨rfl, rfl⟩, h⟩ := h; exact (hsu a oe pn hz hd).run pins s σ H D I h⟩)) fun D σ H ⟨w, l, c, l', m', Wd, L, e, k⟩ => by
    simp only [sTryAs, Option.bind_eq_some_iff] at e
    obtain ⟨o, e1, e2⟩ := e
    refine ⟨w, l, o, Wd, L, e1, ?_⟩
    cases o with
    | ok r => cases e2; exact k
    | ex l1 m1 =>
      dsimp only at e2
      split at e2
      · rename_i hl
        simp only [Option.map_eq_some_iff, Prod.mk.injEq] at e2
        obtain ⟨⟨c2, l2, m2⟩, e3, rfl, rfl, rfl⟩ := e2
        refine fun w1 H1 σ1 c1 E1 W1 L1 => ⟨true, hx, fun _ a _ => ⟨⟨rfl, rfl⟩, ?_, w1, l1.set i none, c2, l2, m2, W1, sl_set L1, by rw [c1]; exact e3, aft_set (k.later E1)⟩, fun h => by cases h⟩
        rw [List.getElem?_set_self (by rw [← L1.1]; exact hl)]
      · cases e2
end
end Fz

set_option linter.all false
set_option autoImplicit false
set_option maxRecDepth 100000
/-! FzVb: more rules by value. -/
namespace Fz
open PySem PyProof.Rows
open L2 (ixN atI)
section
variable {p : Pf} {st : List SA} {a b c : RE} {i j : Nat} {x : PyData} {F : SA → List SA → Prop} {r : List RE} {It : List PyData → List SA → Prop}
/-- range(i, j, c): so many -/
def Rg3K (i j c : Int) (k : List PyData → Prop) : Prop := c ≠ 0 ∧ c.natAbs < 1073741824 ∧ Builtin.Range.small i j c = true ∧ 0 ≤ Builtin.Range.rangeSize i j c ∧ Builtin.Range.rangeSize i j c ≤ lim ∧ k (stepTo i c (Builtin.Range.rangeSize i j c).toNat)
theorem wi_range3 (h : WE p a (fun v s1 => IntK v fun i => WE p b (fun w s2 => IntK w fun j => WE p c (fun u s3 => IntK u fun c => Rg3K i j c fun xs => It xs s3) s2) s1) st) : WI p (iRange3 a b c) It st := fun l m hp W => by
  obtain ⟨s, m', v, st', h1, h2, h3, h4, h5, i, rfl, hb⟩ := h l m hp W
  obtain rfl : s = .d (.int i) := h4
  obtain ⟨s2, m2, w, st2, q1, q2, q3, q4, q5, j, rfl, hc⟩ := hb l m' h2 h3
  obtain rfl : s2 = .d (.int j) := q4
  obtain ⟨s3, m3, u, st3, z1, z2, z3, z4, z5, c, rfl, e1, e2, e3, e4, e5, k⟩ := hc l m2 q2 q3
  obtain rfl : s3 = .d (.int c) := z4
  exact ⟨_, m3, st3, by simp only [iRange3, h1, q1, z1, Option.bind_some, if_pos (And.intro e1 (And.intro e2 (And.intro e3 (And.intro e4 e5))))], z2, z3, h5.trans (q5.trans z5), k⟩
theorem we_listM (h : WE p a (fun v s1 => GetV (datOf s1 v) fun d => Get (items d) fun xs => F (.own xs) s1) st) : WE p (eListM a) F st := fun l m hp W => by
  obtain ⟨s, m', v, st', h1, h2, h3, h4, h5, d, e1, xs, e2, k⟩ := h l m hp W
  obtain ⟨n1, n2, n3, n4⟩ := new_own h2 h3 xs
  exact ⟨_, _, _, st', by simp only [eListM, h1, Option.bind_some, deref_ok h3 h4 e1, e2, Option.map_some], n1, n2, n3.low h5.len, h5.trans n4, k⟩
/-- targets one behind another, data into them -/
def RunK (p : Pf) : List Tq → List PyData → List SA → (List SA → Prop) → Prop
  | [], [], st, k => k st
  | .nm i :: ts, d :: ds, st, k => SetK i (.dat d) st fun s2 => RunK p ts ds s2 k
  | .ix o i :: ts, d :: ds, st, k => WE p o (fun w s2 => AlK w fun j => WE p i (fun u s3 => IntK u fun n => OwnAt s3 j fun xs => Get (ixN xs.length n) fun q => RunK p ts ds (s3.set j (.own (xs.set q d))) k) s2) st
  | _, _, _, _ => False
theorem run_ok {l0 m0 st0} : ∀ (ts : List Tq) (ds : List PyData) (st : List SA) (l : Lo) (m : Mem) (k : List SA → Prop), Pre p m → StOk p.K st l m → Fr p.K st0 l0 m0 st l m → RunK p ts ds st k →
    ∃ l' m' st', runT ts (ds.map S.d) l m = some (l', m') ∧ Pre p m' ∧ StOk p.K st' l' m' ∧ Fr p.K st0 l0 m0 st' l' m' ∧ k st'
  | [], [], st, l, m, k, hp, W, f, h => ⟨l, m, st, rfl, hp, W, f, h⟩
  | .nm i :: ts, d :: ds, st, l, m, k, hp, W, f, h => by
    obtain ⟨st', q1, q2, q3⟩ := setk_ok (v := .dat d) (z := .d d) W f rfl h
    exact run_ok ts ds st' _ m k hp q1 q2 q3
  | .ix o i :: ts, d :: ds, st, l, m, k, hp, W, f, h => by
    obtain ⟨z2, m2, w, st2, q1, q2, q3, q4, q5, j, rfl, hc⟩ := h l m hp W
    obtain ⟨z3, m3, u, st3, y1, y2, y3, y4, y5, n, rfl, xs, e1, q, e2, hk⟩ := hc l m2 q2 q3
    obtain rfl : z3 = .d (.int n) := y4
    have hl : l[j]? = some (some z2) := q4
    obtain ⟨N, n1, rfl, n3, _⟩ := own_of y3 e1 hl
    have f' := (f.trans (q5.trans y5)).trans (Fr.put (a := .own (xs.set q d)) (o := .lst ((xs.set q d).map S.d)) e1 hl)
    obtain ⟨l', m', st', r1, r2, r3, r4, r5⟩ := run_ok ts ds _ l (m3.set N (.lst ((xs.set q d).map S.d))) k (y2.set n1) (y3.put e1 hl) f' hk
    refine ⟨l', m', st', ?_, r2, r3, r4, r5⟩
    simp only [runT, List.map_cons, q1, y1, Option.bind_some, deref_d]
    simp only [setL, n3, putI, List.length_map, e2, Option.map_some, Option.bind_some, ← List.map_set]
    exact r1
theorem ws_parT {Fo : Out → Prop} {ts : List Tq} (h : WA p (rA r) (fun vs s1 => GetV (dats vs) fun ds => RunK p ts ds s1 fun s2 => Fo (.nx s2)) st) : WS p (sParT ts r) Fo st := fun l m hp W => by
  obtain ⟨ss, m', vs, st', h1, h2, h3, h4, h5, ds, e1, k⟩ := h l m hp W
  have := dats_ok h4 e1; subst this
  obtain ⟨l', m2, st2, q1, q2, q3, q4, q5⟩ := run_ok ts ds st' l m' _ h2 h3 h5 k
  exact ⟨.nx, l', m2, .nx st2, by simp only [sParT, h1, Option.bind_some, q1, Option.map_some], q2, ⟨rfl, q3, q4⟩, q5⟩
theorem runk_nil {k : List SA → Prop} (h : k st) : RunK p [] [] st k := h
theorem runk_nm {k : List SA → Prop} {d : PyData} {ts : List Tq} {ds : List PyData} (h : SetK i (.dat d) st fun s2 => RunK p ts ds s2 k) : RunK p (.nm i :: ts) (d :: ds) st k := h
theorem runk_ix {k : List SA → Prop} {d : PyData} {ts : List Tq} {ds : List PyData} (h : WE p a (fun w s2 => AlK w fun j => WE p b (fun u s3 => IntK u fun n => OwnAt s3 j fun xs => Get (ixN xs.length n) fun q => RunK p ts ds (s3.set j (.own (xs.set q d))) k) s2) st) : RunK p (.ix a b :: ts) (d :: ds) st k := h
@[simp] theorem ite_l {xs : List PyData} : items (.list xs) = some xs := rfl
theorem items_l' {xs : List PyData} : items (.list xs) = some xs := rfl
theorem items_t' {xs : List PyData} : items (.tuple xs) = some xs := rfl
end
end Fz
namespace Fz
open PySem PyProof.Rows
section
variable {p : Pf} {st : List SA} {s : RS} {F : Out → Prop} {g : Tg} {α σ : Type}
/-- by a fold, with what always holds of the state -/
theorem wf_foldP (enc : α → PyData) (L : σ → List SA) (f : σ → α → σ) (P : σ → Prop) : ∀ (ys : List α) (s0 : σ) {st : List SA}, P s0 → Wk st (L s0) →
    (∀ s1 y, y ∈ ys → P s1 → P (f s1 y) ∧ WG p g (enc y) (fun s2 => WS p s (ForK F fun s3 => Wk s3 (L (f s1 y))) s2) (L s1)) →
    (P (ys.foldl f s0) → F (.nx (L (ys.foldl f s0)))) → WFor p g s F (ys.map enc) st
  | [], s0, st, hP, hw, _, he => wf_weak hw (wf_nil (he hP))
  | y :: ys, s0, st, hP, hw, hs, he => wf_weak hw (by
    obtain ⟨hP1, h1⟩ := hs s0 y (List.mem_cons_self ..) hP
    refine wf_cons (h1.imp fun s2 h => h.imp fun o => ?_)
    cases o with
    | nx s3 => exact fun q => wf_foldP enc L f P ys (f s0 y) hP1 q (fun s1 z hz => hs s1 z (List.mem_cons_of_mem _ hz)) he
    | ct s3 => exact fun q => wf_foldP enc L f P ys (f s0 y) hP1 q (fun s1 z hz => hs s1 z (List.mem_cons_of_mem _ hz)) he
    | bk s3 => exact id
    | rt v => exact id)
end
theorem wg_l {p : Pf} {st : List SA} {gs : List Tg} {ds : List PyData} {Gt : List SA → Prop} (h : WGs p gs ds Gt st) : WG p (gL gs) (.list ds) Gt st := fun l m W => h l m W
end Fz

set_option linter.all false
set_option autoImplicit false
set_option maxRecDepth 100000
/-! FzWal: sums by all lots: pairs added and taken from each other, stage by stage. -/
namespace Fz
def bf {α : Type} (add sub : α → α → α) (d : α) (l : List α) (p : Nat × Nat) : List α := (l.set p.1 (add (l.getD p.1 d) (l.getD p.2 d))).set p.2 (sub (l.getD p.1 d) (l.getD p.2 d))
def bfs {α : Type} (add sub : α → α → α) (d : α) (l : List α) (ps : List (Nat × Nat)) : List α := ps.foldl (bf add sub d) l
def runP2 (s b : Nat) : List (Nat × Nat) := (List.range (2 ^ s)).map fun n => (b * 2 ^ (s + 1) + n, b * 2 ^ (s + 1) + n + 2 ^ s)
def pairsP (k s : Nat) : List (Nat × Nat) := (List.range (2 ^ (k - s - 1))).flatMap (runP2 s)
def pairsL (k s : Nat) : List (Nat × Nat) := ((List.range (2 ^ k)).filter fun n => decide (n &&& 2 ^ s = 0)).map fun n => (n, n + 2 ^ s)
def upP (k s : Nat) : List (Nat × Nat) := (List.range s).flatMap (pairsP k)
def upL (k s : Nat) : List (Nat × Nat) := (List.range s).flatMap (pairsL k)
theorem bfs_len {α : Type} {add sub : α → α → α} {d : α} : ∀ (ps : List (Nat × Nat)) (l : List α), (bfs add sub d l ps).length = l.length
  | [], l => rfl
  | p :: ps, l => (bfs_len ps _).trans (by simp [bf])
theorem bfs_app {α : Type} {add sub : α → α → α} {d : α} (ps qs : List (Nat × Nat)) (l : List α) : bfs add sub d l (ps ++ qs) = bfs add sub d (bfs add sub d l ps) qs := List.foldl_append ..
theorem getD_map' {α β : Type} (h : α → β) (d : α) (l : List α) (i : Nat) : (l.map h).getD i (h d) = h (l.getD i d) := by
  simp only [List.getD_eq_getElem?_getD, List.getElem?_map]
  cases l[i]? <;> rfl
theorem getD_P {α : Type} {P : α → Prop} {d : α} (hd : P d) {l : List α} (hl : ∀ x, x ∈ l → P x) (i : Nat) : P (l.getD i d) := by
  rw [List.getD_eq_getElem?_getD]
  cases q : l[i]? with
  | none => exact hd
  | some x => exact hl x (List.mem_of_getElem? q)
theorem bfs_hom {α β : Type} {add sub : α → α → α} {d : α} {add' sub' : β → β → β} {h : α → β} (P : α → Prop) (hd : P d) (pa : ∀ a b, P a → P b → P (add a b)) (ps' : ∀ a b, P a → P b → P (sub a b))
    (ha : ∀ a b, P a → P b → h (add a b) = add' (h a) (h b)) (hs : ∀ a b, P a → P b → h (sub a b) = sub' (h a) (h b)) :
    ∀ (ps : List (Nat × Nat)) (l : List α), (∀ x, x ∈ l → P x) → bfs add' sub' (h d) (l.map h) ps = (bfs add sub d l ps).map h ∧ ∀ x, x ∈ bfs add sub d l ps → P x
  | [], l, hl => ⟨rfl, hl⟩
  | p :: ps, l, hl => by
    have p1 := getD_P hd hl p.1
    have p2 := getD_P hd hl p.2
    have hl2 : ∀ x, x ∈ bf add sub d l p → P x := fun x hx => by
      unfold bf at hx
      rcases List.mem_or_eq_of_mem_set hx with hx | rfl
      · rcases List.mem_or_eq_of_mem_set hx with hx | rfl
        · exact hl x hx
        · exact pa _ _ p1 p2
      · exact ps' _ _ p1 p2
    obtain ⟨q1, q2⟩ := bfs_hom P hd pa ps' ha hs ps (bf add sub d l p) hl2
    refine ⟨?_, q2⟩
    show bfs add' sub' (h d) (bf add' sub' (h d) (l.map h) p) ps = (bfs add sub d (bf add sub d l p) ps).map h
    rw [← q1]
    congr 1
    unfold bf
    rw [getD_map', getD_map', ← ha _ _ p1 p2, ← hs _ _ p1 p2, List.map_set, List.map_set]
/-! ### coefficients -/
def vadd (a b : List Int) : List Int := List.zipWith (fun x y => x + y) a b
def vsub (a b : List Int) : List Int := List.zipWith (fun x y => x - y) a b
def vz : List Int := List.replicate 64 0
def sumN (n : Nat) (f : Nat → Int) : Int := ((List.range n).map f).sum
def dotV (xs : List Int) (c : List Int) : Int := sumN 64 fun i => c.getD i 0 * xs.getD i 0
theorem sumN_add (n : Nat) (f g : Nat → Int) : sumN n (fun i => f i + g i) = sumN n f + sumN n g := by
  unfold sumN
  induction List.range n with
  | nil => rfl
  | cons x xs ih => simp only [List.map_cons, List.sum_cons, ih]; omega
theorem sumN_sub (n : Nat) (f g : Nat → Int) : sumN n (fun i => f i - g i) = sumN n f - sumN n g := by
  unfold sumN
  induction List.range n with
  | nil => rfl
  | cons x xs ih => simp only [List.map_cons, List.sum_cons, ih]; omega
theorem sumN_congr {n : Nat} {f g : Nat → Int} (h : ∀ i, i < n → f i = g i) : sumN n f = sumN n g := by
  unfold sumN
  rw [List.map_congr_left fun i hi => h i (List.mem_range.mp hi)]
theorem getD_rm {n i : Nat} {f : Nat → Int} (h : i < n) : ((List.range n).map f).getD i 0 = f i := by
  simp [List.getD_eq_getElem?_getD, h]
theorem zip_getD {f : Int → Int → Int} {a b : List Int} {i : Nat} (ha : a.length = 64) (hb : b.length = 64) (hi : i < 64) : (List.zipWith f a b).getD i 0 = f (a.getD i 0) (b.getD i 0) := by
  simp [List.getD_eq_getElem?_getD, List.getElem?_zipWith, show i < a.length by omega, show i < b.length by omega]
theorem dot_add (xs a b : List Int) (h1 : a.length = 64) (h2 : b.length = 64) : dotV xs (vadd a b) = dotV xs a + dotV xs b := by
  unfold dotV
  rw [← sumN_add]
  refine sumN_congr fun i hi => ?_
  unfold vadd
  rw [zip_getD h1 h2 hi, Int.add_mul]
theorem dot_sub (xs a b : List Int) (h1 : a.length = 64) (h2 : b.length = 64) : dotV xs (vsub a b) = dotV xs a - dotV xs b := by
  unfold dotV
  rw [← sumN_sub]
  refine sumN_congr fun i hi => ?_
  unfold vsub
  rw [zip_getD h1 h2 hi, Int.sub_mul]
theorem getD_rep (n i : Nat) : (List.replicate n (0 : Int)).getD i 0 = 0 := by
  rw [List.getD_eq_getElem?_getD, List.getElem?_replicate]
  split <;> rfl
theorem dot_z (xs : List Int) : dotV xs vz = 0 := by
  unfold dotV
  rw [sumN_congr (g := fun _ => 0) fun i hi => by unfold vz; rw [getD_rep, Int.zero_mul]]
  unfold sumN
  induction List.range 64 with
  | nil => rfl
  | cons x xs ih => simp only [List.map_cons, List.sum_cons, ih]; rfl
def unitV (n : Nat) : List Int := (List.range 64).map fun i => if i = n then 1 else 0
theorem sum_unit (f : Nat → Int) (n : Nat) : ∀ l : List Nat, (l.map fun i => (if i = n then 1 else 0) * f i).sum = (l.count n : Int) * f n
  | [] => by simp
  | x :: xs => by
    rw [List.map_cons, List.sum_cons, sum_unit f n xs, List.count_cons]
    by_cases h : x = n
    · subst h; simp; rw [Int.add_mul]; omega
    · simp [h]
theorem dot_unit (xs : List Int) {n : Nat} (h : n < 64) : dotV xs (unitV n) = xs.getD n 0 := by
  unfold dotV
  rw [sumN_congr (g := fun i => (if i = n then 1 else 0) * xs.getD i 0) fun i hi => by unfold unitV; rw [getD_rm hi]]
  unfold sumN
  rw [sum_unit (fun i => xs.getD i 0), List.nodup_range.count, if_pos (List.mem_range.mpr h)]
  simp
def units (k : Nat) : List (List Int) := (List.range (2 ^ k)).map unitV
theorem units_dot {k : Nat} (hk : k ≤ 6) {xs : List Int} (h : xs.length = 2 ^ k) : (units k).map (dotV xs) = xs := by
  have h6 : 2 ^ k ≤ 64 := Nat.pow_le_pow_right (n := 2) (by decide) hk
  apply List.ext_getElem
  · simp [units, h]
  · intro i h1 h2
    simp only [units, List.getElem_map, List.getElem_range]
    rw [dot_unit xs (by omega)]
    simp [List.getD_eq_getElem?_getD, h2]
abbrev bfV := bfs vadd vsub vz
abbrev bfI := bfs (fun a b : Int => a + b) (fun a b : Int => a - b) 0
theorem len_add (a b : List Int) (h1 : a.length = 64) (h2 : b.length = 64) : (vadd a b).length = 64 := by simp [vadd, h1, h2]
theorem len_sub (a b : List Int) (h1 : a.length = 64) (h2 : b.length = 64) : (vsub a b).length = 64 := by simp [vsub, h1, h2]
theorem bfI_of (xs : List Int) (us : List (List Int)) (hu : ∀ u, u ∈ us → u.length = 64) (ps : List (Nat × Nat)) : bfI (us.map (dotV xs)) ps = (bfV us ps).map (dotV xs) ∧ ∀ u, u ∈ bfV us ps → u.length = 64 := by
  have := bfs_hom (d := vz) (h := dotV xs) (add' := fun a b : Int => a + b) (sub' := fun a b : Int => a - b) (fun u => u.length = 64) (by simp [vz]) len_add len_sub (dot_add xs) (dot_sub xs) ps us hu
  rw [dot_z] at this
  exact this
theorem units_len {k : Nat} : ∀ u, u ∈ units k → u.length = 64 := fun u hu => by
  obtain ⟨n, _, rfl⟩ := List.mem_map.mp hu
  simp [unitV]
theorem bfI_units {k : Nat} (hk : k ≤ 6) {xs : List Int} (h : xs.length = 2 ^ k) (ps : List (Nat × Nat)) : bfI xs ps = (bfV (units k) ps).map (dotV xs) := by
  conv => lhs; rw [← units_dot hk h]
  exact (bfI_of xs _ units_len ps).1
/-- the parity of the 1s in common -/
def par (n : Nat) : Bool := ((List.range 6).filter fun i => n.testBit i).length % 2 == 1
def sgn (r n : Nat) : Int := if par (r &&& n) = true then -1 else 1
def hadV (k r : Nat) : List Int := (List.range 64).map fun n => if n < 2 ^ k then sgn r n else 0
theorem wal_all : ((List.range 7).all fun k => decide (bfV (units k) (upP k k) = (List.range (2 ^ k)).map (hadV k)) && decide (bfV (units k) (upL k k) = (List.range (2 ^ k)).map (hadV k))) = true := by kernel_rfl
theorem wal2_all : ((List.range 7).all fun k => decide (bfV (bfV (units k) (upP k k)) (upP k k) = (List.range (2 ^ k)).map fun n => (List.range 64).map fun i => if i = n then ((2 ^ k : Nat) : Int) else 0)) = true := by kernel_rfl
/-- the sums of a row of numbers by all lots -/
def wal (k : Nat) (xs : List Int) : List Int := bfI xs (upP k k)
theorem wal_len (k : Nat) (xs : List Int) : (wal k xs).length = xs.length := bfs_len _ _
theorem wal_had {k : Nat} (hk : k ≤ 6) : bfV (units k) (upP k k) = (List.range (2 ^ k)).map (hadV k) ∧ bfV (units k) (upL k k) = (List.range (2 ^ k)).map (hadV k) := by
  have := List.all_eq_true.mp wal_all k (List.mem_range.mpr (by omega))
  simpa only [Bool.and_eq_true, decide_eq_true_eq] using this
/-- the two ways through the pairs tell the same -/
theorem walL {k : Nat} (hk : k ≤ 6) {xs : List Int} (h : xs.length = 2 ^ k) : bfI xs (upL k k) = wal k xs := by
  unfold wal
  rw [bfI_units hk h, bfI_units hk h, (wal_had hk).1, (wal_had hk).2]
theorem dot_had {k : Nat} (hk : k ≤ 6) {xs : List Int} (r : Nat) : dotV xs (hadV k r) = sumN (2 ^ k) fun n => sgn r n * xs.getD n 0 := by
  have h6 : 2 ^ k ≤ 64 := Nat.pow_le_pow_right (n := 2) (by decide) hk
  have e : List.range 64 = List.range (2 ^ k) ++ (List.range (64 - 2 ^ k)).map (2 ^ k + ·) := by
    rw [← List.range_add]; congr 1; omega
  unfold dotV sumN
  rw [e, List.map_append, List.sum_append, List.map_map]
  have z : ((List.range (64 - 2 ^ k)).map ((fun i => (hadV k r).getD i 0 * xs.getD i 0) ∘ (2 ^ k + ·))).sum = 0 := by
    have : ∀ l : List Nat, (∀ i, i ∈ l → i < 64 - 2 ^ k) → (l.map ((fun i => (hadV k r).getD i 0 * xs.getD i 0) ∘ (2 ^ k + ·))).sum = 0 := by
      intro l hl
      induction l with
      | nil => rfl
      | cons x xs' ih =>
        rw [List.map_cons, List.sum_cons, ih (fun i hi => hl i (List.mem_cons_of_mem _ hi))]
        have := hl x (List.mem_cons_self ..)
        simp only [Function.comp_apply]
        unfold hadV
        rw [getD_rm (by omega), if_neg (by omega), Int.zero_mul]; rfl
    exact this _ fun i hi => List.mem_range.mp hi
  rw [z, Int.add_zero]
  congr 1
  refine List.map_congr_left fun i hi => ?_
  have hi := List.mem_range.mp hi
  unfold hadV
  rw [getD_rm (by omega), if_pos hi]
theorem wal_at {k r : Nat} (hk : k ≤ 6) {xs : List Int} (h : xs.length = 2 ^ k) (hr : r < 2 ^ k) : (wal k xs).getD r 0 = sumN (2 ^ k) fun n => sgn r n * xs.getD n 0 := by
  unfold wal
  rw [bfI_units hk h, (wal_had hk).1, List.map_map, getD_rm hr]
  exact dot_had hk r
/-- twice -/
theorem wal_wal {k : Nat} (hk : k ≤ 6) {xs : List Int} (h : xs.length = 2 ^ k) : wal k (wal k xs) = xs.map fun x => ((2 ^ k : Nat) : Int) * x := by
  have h2 := List.all_eq_true.mp wal2_all k (List.mem_range.mpr (by omega))
  rw [decide_eq_true_eq] at h2
  have h6 : 2 ^ k ≤ 64 := Nat.pow_le_pow_right (n := 2) (by decide) hk
  have q := bfI_of xs (units k) units_len (upP k k)
  unfold wal
  rw [bfI_units hk h, (bfI_of xs _ q.2 (upP k k)).1, h2]
  apply List.ext_getElem
  · simp [h]
  · intro i h1 h3
    simp only [List.length_map] at h3
    simp only [List.getElem_map, List.getElem_range]
    unfold dotV
    rw [sumN_congr (g := fun j => (if j = i then 1 else 0) * (((2 ^ k : Nat) : Int) * xs.getD j 0)) fun j hj => by
      rw [getD_rm hj]; split <;> simp]
    unfold sumN
    rw [sum_unit (fun j => ((2 ^ k : Nat) : Int) * xs.getD j 0), List.nodup_range.count, if_pos (List.mem_range.mpr (by omega))]
    simp [List.getD_eq_getElem?_getD, h3]
end Fz

set_option linter.all false
set_option autoImplicit false
set_option maxRecDepth 100000
/-! FzWc: cubes of sums by all lots. -/
namespace Fz
theorem sumN_mul (n : Nat) (c : Int) (f : Nat → Int) : sumN n (fun i => c * f i) = c * sumN n f := by
  unfold sumN
  induction List.range n with
  | nil => simp
  | cons x xs ih => simp only [List.map_cons, List.sum_cons, ih, Int.mul_add]
theorem sumN_mulr (n : Nat) (c : Int) (f : Nat → Int) : sumN n (fun i => f i * c) = sumN n f * c := by
  rw [Int.mul_comm, ← sumN_mul]
  exact sumN_congr fun i _ => Int.mul_comm _ _
theorem sumN_zero (n : Nat) : sumN n (fun _ => 0) = 0 := by
  unfold sumN
  induction List.range n with
  | nil => rfl
  | cons x xs ih => simp only [List.map_cons, List.sum_cons, ih]; rfl
theorem sumN_comm (n m : Nat) (f : Nat → Nat → Int) : sumN n (fun i => sumN m (f i)) = sumN m fun j => sumN n fun i => f i j := by
  unfold sumN
  induction List.range n with
  | nil =>
    simp only [List.map_nil, List.sum_nil]
    exact (sumN_zero m).symm
  | cons x xs ih =>
    simp only [List.map_cons, List.sum_cons, ih]
    exact (sumN_add m (f x) fun j => (xs.map fun i => f i j).sum).symm
theorem sumN_one {n j : Nat} (h : j < n) (c : Int) (f : Nat → Int) : sumN n (fun i => (if j = i then c else 0) * f i) = c * f j := by
  have : sumN n (fun i => (if j = i then c else 0) * f i) = sumN n fun i => (if i = j then 1 else 0) * (c * f i) := sumN_congr fun i _ => by
    by_cases e : j = i
    · subst e; simp
    · rw [if_neg e, if_neg (fun z : i = j => e z.symm), Int.zero_mul, Int.zero_mul]
  rw [this]
  unfold sumN
  rw [sum_unit (fun i => c * f i), List.nodup_range.count, if_pos (List.mem_range.mpr h)]
  simp
theorem sgn_all : ((List.range 5).all fun k => (List.range (2 ^ k)).all fun a => (List.range (2 ^ k)).all fun b => decide (sumN (2 ^ k) (fun r => sgn r a * sgn r b) = if a = b then ((2 ^ k : Nat) : Int) else 0) && (List.range (2 ^ k)).all fun r => decide (sgn r a * sgn r b = sgn r (a ^^^ b))) = true := by kernel_rfl
theorem sgn_ok {k a b : Nat} (hk : k ≤ 4) (ha : a < 2 ^ k) (hb : b < 2 ^ k) : sumN (2 ^ k) (fun r => sgn r a * sgn r b) = (if a = b then ((2 ^ k : Nat) : Int) else 0) ∧ ∀ r, r < 2 ^ k → sgn r a * sgn r b = sgn r (a ^^^ b) := by
  have h := List.all_eq_true.mp (List.all_eq_true.mp (List.all_eq_true.mp sgn_all k (List.mem_range.mpr (by omega))) a (List.mem_range.mpr ha)) b (List.mem_range.mpr hb)
  rw [Bool.and_eq_true, decide_eq_true_eq] at h
  exact ⟨h.1, fun r hr => of_decide_eq_true (List.all_eq_true.mp h.2 r (List.mem_range.mpr hr))⟩
theorem cubes_ok {k : Nat} (hk : k ≤ 4) (s : Nat → Int) : sumN (2 ^ k) (fun r => sumN (2 ^ k) (fun n => sgn r n * s n) * sumN (2 ^ k) (fun n => sgn r n * s n) * sumN (2 ^ k) (fun n => sgn r n * s n)) =
    ((2 ^ k : Nat) : Int) * sumN (2 ^ k) fun a => sumN (2 ^ k) fun b => s a * s b * s (a ^^^ b) := by
  have e1 : ∀ r, r < 2 ^ k → sumN (2 ^ k) (fun n => sgn r n * s n) * sumN (2 ^ k) (fun n => sgn r n * s n) * sumN (2 ^ k) (fun n => sgn r n * s n) =
      sumN (2 ^ k) fun a => sumN (2 ^ k) fun b => sumN (2 ^ k) fun c => s a * s b * s c * (sgn r (a ^^^ b) * sgn r c) := fun r hr => by
    have g : ∀ W : Int, W = sumN (2 ^ k) (fun n => sgn r n * s n) → W * W * W = sumN (2 ^ k) fun a => sumN (2 ^ k) fun b => sumN (2 ^ k) fun c => (sgn r a * s a) * ((sgn r b * s b) * (sgn r c * s c)) := fun W hW => by
      have q1 : ∀ a b, (sumN (2 ^ k) fun c => (sgn r a * s a) * ((sgn r b * s b) * (sgn r c * s c))) = (sgn r a * s a) * ((sgn r b * s b) * W) := fun a b => by
        rw [hW, sumN_mul, sumN_mul]
      have q2 : ∀ a, (sumN (2 ^ k) fun b => (sgn r a * s a) * ((sgn r b * s b) * W)) = (sgn r a * s a) * (W * W) := fun a => by
        rw [sumN_mul, sumN_mulr, ← hW]
      simp only [q1, q2]
      rw [sumN_mulr, ← hW, Int.mul_assoc]
    rw [g _ rfl]
    refine sumN_congr fun a ha => sumN_congr fun b hb => sumN_congr fun c _ => ?_
    rw [← (sgn_ok hk ha hb).2 r hr]
    ac_rfl
  rw [sumN_congr e1, sumN_comm, ← sumN_mul]
  refine sumN_congr fun a ha => ?_
  rw [sumN_comm, ← sumN_mul]
  refine sumN_congr fun b hb => ?_
  rw [sumN_comm]
  have hx : a ^^^ b < 2 ^ k := Nat.xor_lt_two_pow ha hb
  have e2 : ∀ c, c < 2 ^ k → sumN (2 ^ k) (fun r => s a * s b * s c * (sgn r (a ^^^ b) * sgn r c)) = (if a ^^^ b = c then ((2 ^ k : Nat) : Int) else 0) * (s a * s b * s c) := fun c hc => by
    rw [sumN_mul, (sgn_ok hk hx hc).1, Int.mul_comm]
  rw [sumN_congr e2]
  exact sumN_one hx ((2 ^ k : Nat) : Int) fun c => s a * s b * s c
end Fz

set_option linter.all false
set_option autoImplicit false
set_option maxRecDepth 100000
/-! FzB: what repr takes, with ints of up to two hundred digits. -/
namespace Fz
open PySem
mutual
def costB : PyData → Nat
  | .none => 1
  | .bool _ => 1
  | .int i => if i.natAbs < 10 ^ 12 then 1 else if i.natAbs < 10 ^ 200 then 11 else big
  | .str x => if (x.cps.toList.all fun c => decide (c < 16 ^ 8)) = true then x.cps.size + 1 else big
  | .list xs => costBAll xs + 1
  | .tuple xs => costBAll xs + 1
  | .dict kvs => costBKv kvs + 1
def costBAll : List PyData → Nat
  | [] => 0
  | x :: xs => costB x + costBAll xs
def costBKv : List (PyData × PyData) → Nat
  | [] => 0
  | (a, b) :: r => costB a + costB b + costBKv r
end
structure FitB (d : PyData) : Prop where
  sh : d.showable = true
  lv : d.leavesShort 201 = true
  wt : d.weight + 1 ≤ 64 * costB d
structure FitBAll (ds : List PyData) : Prop where
  sh : PyData.showableAll ds = true
  lv : PyData.leavesShortAll 201 ds = true
  wt : PyData.weightAll ds ≤ 64 * costBAll ds
structure FitBKv (ds : List (PyData × PyData)) : Prop where
  sh : PyData.showableKv ds = true
  lv : PyData.leavesShortKv 201 ds = true
  wt : PyData.weightKv ds ≤ 64 * costBKv ds
theorem costB_pos : ∀ d : PyData, 1 ≤ costB d
  | .none => by simp [costB]
  | .bool _ => by simp [costB]
  | .int i => by simp only [costB]; split <;> (try split) <;> simp [big]
  | .str x => by simp only [costB]; split <;> simp [big]
  | .list xs => by simp [costB]
  | .tuple xs => by simp [costB]
  | .dict _ => by simp [costB]
theorem log2_le {n b : Nat} (h : n < 2 ^ b) (hb : 0 < b) : n.log2 < b := by
  by_cases h0 : n = 0
  · rw [h0]; simpa using hb
  · exact (Nat.log2_lt h0).2 h
theorem shown_big {i : Int} (h : i.natAbs < 10 ^ 200) : (PyData.shown (.int i)).length ≤ 201 := by
  have e := int_text_length_le10 (k := 200) (by decide) h
  show (Str.ofString (toString i)).length ≤ 201
  rw [ofString_length]; exact e
theorem pow_680' : (Nat.ble ((2 : Nat) ^ 200 * 5 ^ 200) (2 ^ 680)) = true := by kernel_rfl
theorem pow_680 : (2 : Nat) ^ 200 * 5 ^ 200 ≤ 2 ^ 680 := Nat.le_of_ble_eq_true pow_680'
mutual
theorem fitB : ∀ d : PyData, costB d < big → FitB d
  | .none, _ => ⟨rfl, rfl, by simp [PyData.weight, costB]⟩
  | .bool _, _ => ⟨rfl, rfl, by simp [PyData.weight, costB]⟩
  | .int i, h => by
    simp only [costB] at h
    split at h
    · rename_i hi
      have hl : i.natAbs.log2 < 40 := log2_le (Nat.lt_trans hi (by decide)) (by decide)
      refine ⟨?_, ?_, ?_⟩
      · simp only [PyData.showable, decide_eq_true_eq]; omega
      · simp only [PyData.leavesShort, decide_eq_true_eq]; exact Nat.le_trans (PyData.shown_int_le hi) (by decide)
      · simp only [PyData.weight, costB, if_pos hi]; split <;> omega
    · split at h
      · rename_i hn hi
        have hl : i.natAbs.log2 < 680 := log2_le (Nat.lt_of_lt_of_le hi (by rw [show (10 : Nat) = 2 * 5 from rfl, Nat.mul_pow]; exact pow_680)) (by decide)
        refine ⟨?_, ?_, ?_⟩
        · simp only [PyData.showable, decide_eq_true_eq]; omega
        · simp only [PyData.leavesShort, decide_eq_true_eq]; exact shown_big hi
        · simp only [PyData.weight, costB, if_neg hn, if_pos hi]; split <;> omega
      · exact absurd h (Nat.lt_irrefl _)
  | .str x, h => by
    simp only [costB] at h
    split at h
    · rename_i hx
      refine ⟨rfl, by simpa only [PyData.leavesShort] using hx, ?_⟩
      simp only [PyData.weight, costB, if_pos hx]; omega
    · exact absurd h (Nat.lt_irrefl _)
  | .list xs, h => by
    simp only [costB] at h
    have f := fitBAll xs (by omega)
    exact ⟨by simpa only [PyData.showable] using f.sh, by simpa only [PyData.leavesShort] using f.lv, by have := f.wt; simp only [PyData.weight, costB]; omega⟩
  | .tuple xs, h => by
    simp only [costB] at h
    have f := fitBAll xs (by omega)
    exact ⟨by simpa only [PyData.showable] using f.sh, by simpa only [PyData.leavesShort] using f.lv, by have := f.wt; simp only [PyData.weight, costB]; omega⟩
  | .dict xs, h => by
    simp only [costB] at h
    have f := fitBKv xs (by omega)
    exact ⟨by simpa only [PyData.showable] using f.sh, by simpa only [PyData.leavesShort] using f.lv, by have := f.wt; simp only [PyData.weight, costB]; omega⟩
theorem fitBAll : ∀ ds : List PyData, costBAll ds < big → FitBAll ds
  | [], _ => ⟨rfl, rfl, by simp [PyData.weightAll]⟩
  | x :: xs, h => by
    simp only [costBAll] at h
    have f := fitB x (by omega)
    have g := fitBAll xs (by omega)
    have c := costB_pos x
    exact ⟨by simp only [PyData.showableAll, f.sh, g.sh, Bool.and_self], by simp only [PyData.leavesShortAll, f.lv, g.lv, Bool.and_self], by
      have h1 := f.wt; have h2 := g.wt
      simp only [PyData.weightAll, costBAll]; omega⟩
theorem fitBKv : ∀ ds : List (PyData × PyData), costBKv ds < big → FitBKv ds
  | [], _ => ⟨rfl, rfl, by simp [PyData.weightKv]⟩
  | (a, b) :: xs, h => by
    simp only [costBKv] at h
    have f := fitB a (by omega)
    have e := fitB b (by omega)
    have g := fitBKv xs (by omega)
    exact ⟨by simp only [PyData.showableKv, f.sh, e.sh, g.sh, Bool.and_self], by simp only [PyData.leavesShortKv, f.lv, e.lv, g.lv, Bool.and_self], by
      have h1 := f.wt; have h2 := g.wt; have h3 := e.wt
      simp only [PyData.weightKv, costBKv]; omega⟩
end
/-- depth at most n, cost at most c -/
def SmB (n c : Nat) (d : PyData) : Prop := d.depth ≤ n ∧ costB d ≤ c
theorem SmB.repr {n c : Nat} {d : PyData} (h : SmB n c d) (hn : n ≤ 64) (hc : c ≤ 1200) : ReprOk d := by
  obtain ⟨h1, h2⟩ := h
  have f := fitB d (by show _ < 1000000000; omega)
  refine ⟨f.sh, by omega, ?_⟩
  have h3 := PyData.shown_le 201 (by decide) d f.lv
  have h4 := f.wt
  have h5 : 203 * d.weight ≤ 203 * (64 * 1200) := Nat.mul_le_mul_left _ (Nat.le_trans (Nat.le_of_succ_le h4) (Nat.mul_le_mul_left _ (Nat.le_trans h2 hc)))
  rw [sizeLine_eq]
  omega
theorem bRepr_l {n c : Nat} {xs : List PyData} (h : SmB n c (.list xs)) (hn : n ≤ 64) (hc : c ≤ 1200) : fRepr [.list xs] = some (.str (PyData.shown (.list xs))) := by
  simp only [fRepr, if_pos (h.repr hn hc)]
theorem bRepr_t {n c : Nat} {xs : List PyData} (h : SmB n c (.tuple xs)) (hn : n ≤ 64) (hc : c ≤ 1200) : fRepr [.tuple xs] = some (.str (PyData.shown (.tuple xs))) := by
  simp only [fRepr, if_pos (h.repr hn hc)]
theorem SmB.mono {n c n' c' : Nat} {d : PyData} (h : SmB n c d) (hn : n ≤ n') (hc : c ≤ c') : SmB n' c' d := ⟨Nat.le_trans h.1 hn, Nat.le_trans h.2 hc⟩
theorem smb_int {i : Int} (h : i.natAbs < 10 ^ 200) : SmB 0 11 (.int i) := ⟨Nat.le_refl 0, by
  simp only [costB]
  split
  · decide
  · exact Nat.le_refl _⟩
theorem smb_small {i : Int} (h : i.natAbs < 10 ^ 12) : SmB 0 1 (.int i) := ⟨Nat.le_refl 0, by simp only [costB, if_pos h]; exact Nat.le_refl 1⟩
theorem smb_all {n c : Nat} : ∀ {xs : List PyData}, (∀ x, x ∈ xs → SmB n c x) → PyData.depthAll xs ≤ n ∧ costBAll xs ≤ xs.length * c
  | [], _ => ⟨Nat.zero_le _, by simp [costBAll]⟩
  | x :: xs, h => by
    obtain ⟨h1, h2⟩ := h x (by simp)
    obtain ⟨h3, h4⟩ := smb_all fun y hy => h y (List.mem_cons_of_mem _ hy)
    refine ⟨by simp only [PyData.depthAll]; omega, ?_⟩
    simp only [costBAll, List.length_cons, Nat.add_mul]; omega
theorem smb_tup {n c k : Nat} {xs : List PyData} (h : ∀ x, x ∈ xs → SmB n c x) (hk : xs.length ≤ k) : SmB (n + 1) (k * c + 1) (.tuple xs) := by
  obtain ⟨h1, h2⟩ := smb_all h
  refine ⟨by simp only [PyData.depth]; omega, ?_⟩
  have := Nat.mul_le_mul_right c hk
  simp only [costB]; omega
theorem smb_lst {n c k : Nat} {xs : List PyData} (h : ∀ x, x ∈ xs → SmB n c x) (hk : xs.length ≤ k) : SmB (n + 1) (k * c + 1) (.list xs) := by
  obtain ⟨h1, h2⟩ := smb_all h
  refine ⟨by simp only [PyData.depth]; omega, ?_⟩
  have := Nat.mul_le_mul_right c hk
  simp only [costB]; omega
theorem smb_ltwo {n a b : Nat} {x y : PyData} (h1 : SmB n a x) (h2 : SmB n b y) : SmB (n + 1) (a + b + 1) (.list [x, y]) := by
  obtain ⟨d1, c1⟩ := h1
  obtain ⟨d2, c2⟩ := h2
  refine ⟨?_, ?_⟩
  · simp only [PyData.depth, PyData.depthAll]; omega
  · simp only [costB, costBAll]; omega
theorem smb_two {n a b : Nat} {x y : PyData} (h1 : SmB n a x) (h2 : SmB n b y) : SmB (n + 1) (a + b + 1) (.tuple [x, y]) := by
  obtain ⟨d1, c1⟩ := h1
  obtain ⟨d2, c2⟩ := h2
  refine ⟨?_, ?_⟩
  · simp only [PyData.depth, PyData.depthAll]; omega
  · simp only [costB, costBAll]; omega
/-- a common start -/
theorem smb_of {d : PyData} {n c : Nat} (h : Sml n c d) (hc : c < big) : SmB n c d := by
  have key : ∀ d : PyData, cost d < big → costB d ≤ cost d := by
    intro d
    exact PyData.rec (motive_1 := fun d => cost d < big → costB d ≤ cost d) (motive_2 := fun ds => costAll ds < big → costBAll ds ≤ costAll ds) (motive_3 := fun ds => costKv ds < big → costBKv ds ≤ costKv ds) (motive_4 := fun p => (cost p.1 < big → costB p.1 ≤ cost p.1) ∧ (cost p.2 < big → costB p.2 ≤ cost p.2))
      (fun _ => Nat.le_refl _) (fun _ _ => Nat.le_refl _) (fun i h => by
        simp only [cost, costB] at h ⊢
        split
        · exact Nat.le_refl _
        · rename_i hn; rw [if_neg hn] at h; exact absurd h (Nat.lt_irrefl _)) (fun x _ => Nat.le_refl _)
      (fun xs ih h => by simp only [cost, costB] at h ⊢; have := ih (by omega); omega) (fun xs ih h => by simp only [cost, costB] at h ⊢; have := ih (by omega); omega) (fun xs ih h => by simp only [cost, costB] at h ⊢; have := ih (by omega); omega)
      (fun _ => Nat.le_refl _) (fun x xs h1 h2 h => by simp only [costAll, costBAll] at h ⊢; have := h1 (by omega); have := h2 (by omega); omega) (fun _ => Nat.le_refl _) (fun p xs h1 h2 h => by obtain ⟨a, b⟩ := p; simp only [costKv, costBKv] at h ⊢; have := h1.1 (by show cost a < big; omega); have := h1.2 (by show cost b < big; omega); have := h2 (by omega); simp only at *; omega) (fun a b h1 h2 => ⟨h1, h2⟩) d
  exact ⟨h.1, Nat.le_trans (key _ (Nat.lt_of_le_of_lt h.2 hc)) h.2⟩
end Fz

set_option linter.all false
set_option autoImplicit false
set_option maxRecDepth 100000
/-! FzC: what repr takes, with ints of up to two hundred digits. -/
namespace Fz
open PySem
mutual
def costC : PyData → Nat
  | .none => 1
  | .bool _ => 1
  | .int i => if i.natAbs < 10 ^ 12 then 1 else if i.natAbs < 10 ^ 400 then 22 else big
  | .str x => if (x.cps.toList.all fun c => decide (c < 16 ^ 8)) = true then x.cps.size + 1 else big
  | .list xs => costCAll xs + 1
  | .tuple xs => costCAll xs + 1
  | .dict kvs => costCKv kvs + 1
def costCAll : List PyData → Nat
  | [] => 0
  | x :: xs => costC x + costCAll xs
def costCKv : List (PyData × PyData) → Nat
  | [] => 0
  | (a, b) :: r => costC a + costC b + costCKv r
end
structure FitC (d : PyData) : Prop where
  sh : d.showable = true
  lv : d.leavesShort 401 = true
  wt : d.weight + 1 ≤ 64 * costC d
structure FitCAll (ds : List PyData) : Prop where
  sh : PyData.showableAll ds = true
  lv : PyData.leavesShortAll 401 ds = true
  wt : PyData.weightAll ds ≤ 64 * costCAll ds
structure FitCKv (ds : List (PyData × PyData)) : Prop where
  sh : PyData.showableKv ds = true
  lv : PyData.leavesShortKv 401 ds = true
  wt : PyData.weightKv ds ≤ 64 * costCKv ds
theorem costC_pos : ∀ d : PyData, 1 ≤ costC d
  | .none => by simp [costC]
  | .bool _ => by simp [costC]
  | .int i => by simp only [costC]; split <;> (try split) <;> simp [big]
  | .str x => by simp only [costC]; split <;> simp [big]
  | .list xs => by simp [costC]
  | .tuple xs => by simp [costC]
  | .dict _ => by simp [costC]
theorem log2_leC {n b : Nat} (h : n < 2 ^ b) (hb : 0 < b) : n.log2 < b := by
  by_cases h0 : n = 0
  · rw [h0]; simpa using hb
  · exact (Nat.log2_lt h0).2 h
theorem shown_bigC {i : Int} (h : i.natAbs < 10 ^ 400) : (PyData.shown (.int i)).length ≤ 401 := by
  have e := int_text_length_le10 (k := 400) (by decide) h
  show (Str.ofString (toString i)).length ≤ 401
  rw [ofString_length]; exact e
theorem pow_1340' : (Nat.ble ((2 : Nat) ^ 400 * 5 ^ 400) (2 ^ 1340)) = true := by kernel_rfl
theorem pow_1340 : (2 : Nat) ^ 400 * 5 ^ 400 ≤ 2 ^ 1340 := Nat.le_of_ble_eq_true pow_1340'
mutual
theorem fitC : ∀ d : PyData, costC d < big → FitC d
  | .none, _ => ⟨rfl, rfl, by simp [PyData.weight, costC]⟩
  | .bool _, _ => ⟨rfl, rfl, by simp [PyData.weight, costC]⟩
  | .int i, h => by
    simp only [costC] at h
    split at h
    · rename_i hi
      have hl : i.natAbs.log2 < 40 := log2_leC (Nat.lt_trans hi (by decide)) (by decide)
      refine ⟨?_, ?_, ?_⟩
      · simp only [PyData.showable, decide_eq_true_eq]; omega
      · simp only [PyData.leavesShort, decide_eq_true_eq]; exact Nat.le_trans (PyData.shown_int_le hi) (by decide)
      · simp only [PyData.weight, costC, if_pos hi]; split <;> omega
    · split at h
      · rename_i hn hi
        have hl : i.natAbs.log2 < 1340 := log2_leC (Nat.lt_of_lt_of_le hi (by rw [show (10 : Nat) = 2 * 5 from rfl, Nat.mul_pow]; exact pow_1340)) (by decide)
        refine ⟨?_, ?_, ?_⟩
        · simp only [PyData.showable, decide_eq_true_eq]; omega
        · simp only [PyData.leavesShort, decide_eq_true_eq]; exact shown_bigC hi
        · simp only [PyData.weight, costC, if_neg hn, if_pos hi]; split <;> omega
      · exact absurd h (Nat.lt_irrefl _)
  | .str x, h => by
    simp only [costC] at h
    split at h
    · rename_i hx
      refine ⟨rfl, by simpa only [PyData.leavesShort] using hx, ?_⟩
      simp only [PyData.weight, costC, if_pos hx]; omega
    · exact absurd h (Nat.lt_irrefl _)
  | .list xs, h => by
    simp only [costC] at h
    have f := fitCAll xs (by omega)
    exact ⟨by simpa only [PyData.showable] using f.sh, by simpa only [PyData.leavesShort] using f.lv, by have := f.wt; simp only [PyData.weight, costC]; omega⟩
  | .tuple xs, h => by
    simp only [costC] at h
    have f := fitCAll xs (by omega)
    exact ⟨by simpa only [PyData.showable] using f.sh, by simpa only [PyData.leavesShort] using f.lv, by have := f.wt; simp only [PyData.weight, costC]; omega⟩
  | .dict xs, h => by
    simp only [costC] at h
    have f := fitCKv xs (by omega)
    exact ⟨by simpa only [PyData.showable] using f.sh, by simpa only [PyData.leavesShort] using f.lv, by have := f.wt; simp only [PyData.weight, costC]; omega⟩
theorem fitCAll : ∀ ds : List PyData, costCAll ds < big → FitCAll ds
  | [], _ => ⟨rfl, rfl, by simp [PyData.weightAll]⟩
  | x :: xs, h => by
    simp only [costCAll] at h
    have f := fitC x (by omega)
    have g := fitCAll xs (by omega)
    have c := costC_pos x
    exact ⟨by simp only [PyData.showableAll, f.sh, g.sh, Bool.and_self], by simp only [PyData.leavesShortAll, f.lv, g.lv, Bool.and_self], by
      have h1 := f.wt; have h2 := g.wt
      simp only [PyData.weightAll, costCAll]; omega⟩
theorem fitCKv : ∀ ds : List (PyData × PyData), costCKv ds < big → FitCKv ds
  | [], _ => ⟨rfl, rfl, by simp [PyData.weightKv]⟩
  | (a, b) :: xs, h => by
    simp only [costCKv] at h
    have f := fitC a (by omega)
    have e := fitC b (by omega)
    have g := fitCKv xs (by omega)
    exact ⟨by simp only [PyData.showableKv, f.sh, e.sh, g.sh, Bool.and_self], by simp only [PyData.leavesShortKv, f.lv, e.lv, g.lv, Bool.and_self], by
      have h1 := f.wt; have h2 := g.wt; have h3 := e.wt
      simp only [PyData.weightKv, costCKv]; omega⟩
end
/-- depth at most n, cost at most c -/
def SmC (n c : Nat) (d : PyData) : Prop := d.depth ≤ n ∧ costC d ≤ c
theorem SmC.repr {n c : Nat} {d : PyData} (h : SmC n c d) (hn : n ≤ 64) (hc : c ≤ 600) : ReprOk d := by
  obtain ⟨h1, h2⟩ := h
  have f := fitC d (by show _ < 1000000000; omega)
  refine ⟨f.sh, by omega, ?_⟩
  have h3 := PyData.shown_le 401 (by decide) d f.lv
  have h4 := f.wt
  have h5 : 403 * d.weight ≤ 403 * (64 * 600) := Nat.mul_le_mul_left _ (Nat.le_trans (Nat.le_of_succ_le h4) (Nat.mul_le_mul_left _ (Nat.le_trans h2 hc)))
  rw [sizeLine_eq]
  omega
theorem cRepr_l {n c : Nat} {xs : List PyData} (h : SmC n c (.list xs)) (hn : n ≤ 64) (hc : c ≤ 600) : fRepr [.list xs] = some (.str (PyData.shown (.list xs))) := by
  simp only [fRepr, if_pos (h.repr hn hc)]
theorem cRepr_t {n c : Nat} {xs : List PyData} (h : SmC n c (.tuple xs)) (hn : n ≤ 64) (hc : c ≤ 600) : fRepr [.tuple xs] = some (.str (PyData.shown (.tuple xs))) := by
  simp only [fRepr, if_pos (h.repr hn hc)]
theorem SmC.mono {n c n' c' : Nat} {d : PyData} (h : SmC n c d) (hn : n ≤ n') (hc : c ≤ c') : SmC n' c' d := ⟨Nat.le_trans h.1 hn, Nat.le_trans h.2 hc⟩
theorem smc_int {i : Int} (h : i.natAbs < 10 ^ 400) : SmC 0 22 (.int i) := ⟨Nat.le_refl 0, by
  simp only [costC]
  split
  · decide
  · exact Nat.le_refl _⟩
theorem smc_small {i : Int} (h : i.natAbs < 10 ^ 12) : SmC 0 1 (.int i) := ⟨Nat.le_refl 0, by simp only [costC, if_pos h]; exact Nat.le_refl 1⟩
theorem smc_all {n c : Nat} : ∀ {xs : List PyData}, (∀ x, x ∈ xs → SmC n c x) → PyData.depthAll xs ≤ n ∧ costCAll xs ≤ xs.length * c
  | [], _ => ⟨Nat.zero_le _, by simp [costCAll]⟩
  | x :: xs, h => by
    obtain ⟨h1, h2⟩ := h x (by simp)
    obtain ⟨h3, h4⟩ := smc_all fun y hy => h y (List.mem_cons_of_mem _ hy)
    refine ⟨by simp only [PyData.depthAll]; omega, ?_⟩
    simp only [costCAll, List.length_cons, Nat.add_mul]; omega
theorem smc_tup {n c k : Nat} {xs : List PyData} (h : ∀ x, x ∈ xs → SmC n c x) (hk : xs.length ≤ k) : SmC (n + 1) (k * c + 1) (.tuple xs) := by
  obtain ⟨h1, h2⟩ := smc_all h
  refine ⟨by simp only [PyData.depth]; omega, ?_⟩
  have := Nat.mul_le_mul_right c hk
  simp only [costC]; omega
theorem smc_lst {n c k : Nat} {xs : List PyData} (h : ∀ x, x ∈ xs → SmC n c x) (hk : xs.length ≤ k) : SmC (n + 1) (k * c + 1) (.list xs) := by
  obtain ⟨h1, h2⟩ := smc_all h
  refine ⟨by simp only [PyData.depth]; omega, ?_⟩
  have := Nat.mul_le_mul_right c hk
  simp only [costC]; omega
theorem smc_ltwo {n a b : Nat} {x y : PyData} (h1 : SmC n a x) (h2 : SmC n b y) : SmC (n + 1) (a + b + 1) (.list [x, y]) := by
  obtain ⟨d1, c1⟩ := h1
  obtain ⟨d2, c2⟩ := h2
  refine ⟨?_, ?_⟩
  · simp only [PyData.depth, PyData.depthAll]; omega
  · simp only [costC, costCAll]; omega
theorem smc_two {n a b : Nat} {x y : PyData} (h1 : SmC n a x) (h2 : SmC n b y) : SmC (n + 1) (a + b + 1) (.tuple [x, y]) := by
  obtain ⟨d1, c1⟩ := h1
  obtain ⟨d2, c2⟩ := h2
  refine ⟨?_, ?_⟩
  · simp only [PyData.depth, PyData.depthAll]; omega
  · simp only [costC, costCAll]; omega
/-- a common start -/
theorem smc_of {d : PyData} {n c : Nat} (h : Sml n c d) (hc : c < big) : SmC n c d := by
  have key : ∀ d : PyData, cost d < big → costC d ≤ cost d := by
    intro d
    exact PyData.rec (motive_1 := fun d => cost d < big → costC d ≤ cost d) (motive_2 := fun ds => costAll ds < big → costCAll ds ≤ costAll ds) (motive_3 := fun ds => costKv ds < big → costCKv ds ≤ costKv ds) (motive_4 := fun p => (cost p.1 < big → costC p.1 ≤ cost p.1) ∧ (cost p.2 < big → costC p.2 ≤ cost p.2))
      (fun _ => Nat.le_refl _) (fun _ _ => Nat.le_refl _) (fun i h => by
        simp only [cost, costC] at h ⊢
        split
        · exact Nat.le_refl _
        · rename_i hn; rw [if_neg hn] at h; exact absurd h (Nat.lt_irrefl _)) (fun x _ => Nat.le_refl _)
      (fun xs ih h => by simp only [cost, costC] at h ⊢; have := ih (by omega); omega) (fun xs ih h => by simp only [cost, costC] at h ⊢; have := ih (by omega); omega) (fun xs ih h => by simp only [cost, costC] at h ⊢; have := ih (by omega); omega)
      (fun _ => Nat.le_refl _) (fun x xs h1 h2 h => by simp only [costAll, costCAll] at h ⊢; have := h1 (by omega); have := h2 (by omega); omega) (fun _ => Nat.le_refl _) (fun p xs h1 h2 h => by obtain ⟨a, b⟩ := p; simp only [costKv, costCKv] at h ⊢; have := h1.1 (by show cost a < big; omega); have := h1.2 (by show cost b < big; omega); have := h2 (by omega); simp only at *; omega) (fun a b h1 h2 => ⟨h1, h2⟩) d
  exact ⟨h.1, Nat.le_trans (key _ (Nat.lt_of_le_of_lt h.2 hc)) h.2⟩
end Fz

set_option linter.all false
set_option autoImplicit false
set_option maxRecDepth 100000
/-! FzQ: fractions in least terms; the steps of Euclid's way. -/
namespace Fz
open PySem
/-- in least terms -/
def red (a b : Int) : Int × Int := (a / (Int.gcd a b : Int), b / (Int.gcd a b : Int))
def frD (q : Int × Int) : PyData := .tuple [.int q.1, .int q.2]
theorem gcd_pos' {a b : Int} (hb : 0 < b) : 0 < (Int.gcd a b : Int) := by
  have : 0 < Int.gcd a b := Int.gcd_pos_of_ne_zero_right a (by omega)
  exact_mod_cast this
theorem red_pos {a b : Int} (hb : 0 < b) : 0 < (red a b).2 := by
  have hg := gcd_pos' (a := a) hb
  have hd : (Int.gcd a b : Int) ∣ b := Int.gcd_dvd_right ..
  obtain ⟨c, hc⟩ := hd
  show 0 < b / (Int.gcd a b : Int)
  have e : b / (Int.gcd a b : Int) = c := Int.ediv_eq_of_eq_mul_right (by omega) hc
  rw [e]
  rcases Int.lt_trichotomy c 0 with z | z | z
  · have := Int.mul_neg_of_pos_of_neg hg z; omega
  · rw [z] at hc; omega
  · exact z
theorem red_cross {a b : Int} (hb : 0 < b) : (red a b).1 * b = a * (red a b).2 := by
  have hg := gcd_pos' (a := a) hb
  obtain ⟨c, hc⟩ : (Int.gcd a b : Int) ∣ b := Int.gcd_dvd_right ..
  obtain ⟨d, hd⟩ : (Int.gcd a b : Int) ∣ a := Int.gcd_dvd_left ..
  have e1 : a / (Int.gcd a b : Int) = d := Int.ediv_eq_of_eq_mul_right (by omega) hd
  have e2 : b / (Int.gcd a b : Int) = c := Int.ediv_eq_of_eq_mul_right (by omega) hc
  show a / (Int.gcd a b : Int) * b = a * (b / (Int.gcd a b : Int))
  rw [e1, e2]
  generalize (Int.gcd a b : Int) = g at hc hd
  rw [hc, hd]
  ac_rfl
theorem red_cop {a b : Int} (hb : 0 < b) : Int.gcd (red a b).1 (red a b).2 = 1 := by
  have : 0 < Int.gcd a b := Int.gcd_pos_of_ne_zero_right a (by omega)
  exact Int.gcd_ediv_gcd_ediv_gcd this
/-- least terms are one for one number -/
theorem red_eq {a b c d : Int} (hb : 0 < b) (hd : 0 < d) (h : a * d = c * b) : red a b = red c d := by
  have p1 := red_pos (a := a) hb
  have p2 := red_pos (a := c) hd
  have x1 := red_cross (a := a) hb
  have x2 := red_cross (a := c) hd
  have c1 := red_cop (a := a) hb
  have c2 := red_cop (a := c) hd
  generalize red a b = p at *
  generalize red c d = q at *
  obtain ⟨p, r⟩ := p
  obtain ⟨q, s⟩ := q
  simp only at *
  -- p * s = q * r
  have k : p * s = q * r := by
    have e : (p * s) * (b * d) = (q * r) * (b * d) := by
      have : (p * b) * (s * d) = (q * d) * (r * b) := by
        rw [x1, x2]
        have : a * r * (s * d) = (a * d) * (r * s) := by ac_rfl
        rw [this, h]; ac_rfl
      calc (p * s) * (b * d) = (p * b) * (s * d) := by ac_rfl
        _ = (q * d) * (r * b) := this
        _ = (q * r) * (b * d) := by ac_rfl
    exact Int.eq_of_mul_eq_mul_right (by have := Int.mul_pos hb hd; omega) e
  have d1 : r ∣ s := by
    have h := (Int.dvd_gcd_mul_iff_dvd_mul (k := r) (n := p) (m := s)).mpr (by rw [k]; exact Int.dvd_mul_left ..)
    rw [Int.gcd_comm, c1] at h
    simpa using h
  have d2 : s ∣ r := by
    have h := (Int.dvd_gcd_mul_iff_dvd_mul (k := s) (n := q) (m := r)).mpr (by rw [← k]; exact Int.dvd_mul_left ..)
    rw [Int.gcd_comm, c2] at h
    simpa using h
  have e1 : r = s := Int.dvd_antisymm (by omega) (by omega) d1 d2
  subst e1
  have e2 : p = q := Int.eq_of_mul_eq_mul_right (by omega) k
  rw [e2]
theorem red_le {a b : Int} (hb : 0 < b) : (red a b).2 ≤ b ∧ (red a b).1.natAbs ≤ a.natAbs := by
  have hg := gcd_pos' (a := a) hb
  refine ⟨Int.ediv_le_self _ (by omega), ?_⟩
  show (a / (Int.gcd a b : Int)).natAbs ≤ a.natAbs
  exact Int.natAbs_ediv_le_natAbs a _
/-! ### Euclid's way -/
def Eu (G n : Nat) (a b : Nat) : Prop := Nat.gcd a b = G ∧ ((b < a ∧ a * b < 2 ^ n) ∨ (1 ≤ n ∧ b * b < 2 ^ (n - 1)))
theorem Eu.start (a b : Nat) {j : Nat} (h : b < 2 ^ j) : Eu (Nat.gcd a b) (2 * j + 1) a b := ⟨rfl, .inr ⟨by omega, by
  rw [Nat.add_sub_cancel, Nat.two_mul, Nat.pow_add]
  exact Nat.mul_lt_mul'' h h⟩⟩
theorem Eu.step {G n a b : Nat} (h : Eu G n a b) (hb : 0 < b) : 0 < n ∧ Eu G (n - 1) b (a % b) := by
  obtain ⟨hg, h⟩ := h
  have hr := Nat.mod_lt a hb
  have gg : Nat.gcd b (a % b) = G := by rw [← hg, Nat.gcd_comm a b, Nat.gcd_comm b (a % b)]; exact (Nat.gcd_rec b a).symm
  rcases h with ⟨h1, h2⟩ | ⟨h1, h2⟩
  · have hn : 0 < n := by
      rcases Nat.eq_zero_or_pos n with z | z
      · subst z
        have : 1 ≤ a * b := Nat.mul_pos (by omega) hb
        simp at h2; omega
      · exact z
    refine ⟨hn, gg, .inl ⟨hr, ?_⟩⟩
    have e := Nat.div_add_mod a b
    have hq : 1 ≤ a / b := (Nat.le_div_iff_mul_le hb).mpr (by omega)
    have h3 : b * 1 ≤ b * (a / b) := Nat.mul_le_mul_left _ hq
    have h4 : 2 * (a % b) < a := by omega
    have h5 : b * (2 * (a % b)) < b * a := Nat.mul_lt_mul_of_pos_left h4 hb
    have h6 : 2 * (b * (a % b)) < 2 ^ n := by
      have : b * (2 * (a % b)) = 2 * (b * (a % b)) := by ac_rfl
      rw [← this, Nat.mul_comm a b] at *
      omega
    have h7 : 2 ^ n = 2 * 2 ^ (n - 1) := by
      conv => lhs; rw [show n = (n - 1) + 1 by omega, Nat.pow_succ]
      exact Nat.mul_comm _ _
    omega
  · refine ⟨h1, gg, .inl ⟨hr, Nat.lt_of_le_of_lt (Nat.mul_le_mul_left _ (by omega)) h2⟩⟩
end Fz

set_option linter.all false
set_option autoImplicit false
set_option maxRecDepth 100000
/-! FzZ3: zip of three. -/
namespace Fz
open PySem PySem.Spec PyProof.Rows L2

def tris : List PyData → List PyData → List PyData → List PyData
  | x :: xs, y :: ys, z :: zs => .tuple [x, y, z] :: tris xs ys zs
  | _, _, _ => []
def iZip3 (a b c : RE) : RI := fun l m => (eZ a l m).bind fun p => (eZ b l p.2).bind fun q => (eZ c l q.2).bind fun r => match p.1, q.1, r.1 with
  | .d x, .d y, .d z => (items x).bind fun xs => (items y).bind fun ys => (items z).map fun zs => ((tris xs ys zs).map S.d, r.2)
  | _, _, _ => none
theorem tris_len : ∀ (xs ys zs : List PyData), (tris xs ys zs).length = min xs.length (min ys.length zs.length)
  | [], _, _ => by simp [tris]
  | _ :: _, [], _ => by simp [tris]
  | _ :: _, _ :: _, [] => by simp [tris]
  | x :: xs, y :: ys, z :: zs => by simp only [tris, List.length_cons, tris_len xs ys zs]; omega
theorem tris_at : ∀ {xs ys zs : List PyData} {i : Nat} {q : PyData}, (tris xs ys zs)[i]? = some q → ∃ x y z, xs[i]? = some x ∧ ys[i]? = some y ∧ zs[i]? = some z ∧ q = .tuple [x, y, z]
  | [], _, _, i, q, h => by simp [tris] at h
  | _ :: _, [], _, i, q, h => by simp [tris] at h
  | _ :: _, _ :: _, [], i, q, h => by simp [tris] at h
  | x :: xs, y :: ys, z :: zs, 0, q, h => by simp [tris] at h; exact ⟨x, y, z, rfl, rfl, rfl, h.symm⟩
  | x :: xs, y :: ys, z :: zs, i + 1, q, h => by
    simp only [tris, List.getElem?_cons_succ] at h ⊢
    exact tris_at h
theorem tris_map {α : Type} (f g h : α → PyData) : ∀ xs : List α, tris (xs.map f) (xs.map g) (xs.map h) = xs.map fun x => .tuple [f x, g x, h x]
  | [] => rfl
  | x :: xs => by simp only [List.map_cons, tris, tris_map f g h xs]

def ItzC (b c d : Bool) (K : PySem.W.Frag) (a1 a2 a3 : Addr) : It :=
  ⟨fun i H => ∃ (xs ys zs : List V) (x y z : V), SqB b K H a1 xs ∧ SqB c K H a2 ys ∧ SqB d K H a3 zs ∧ xs[i]? = some x ∧ ys[i]? = some y ∧ zs[i]? = some z,
    fun i H v H' => ∃ T x y z, v = .ref T ∧ H T = none ∧ (∃ o : Obj, o.dict = none ∧ H' = upd H T (.frz o (.tup [x, y, z]))) ∧ (∀ xs, SqB b K H a1 xs → xs[i]? = some x) ∧ (∀ ys, SqB c K H a2 ys → ys[i]? = some y) ∧ ∀ zs, SqB d K H a3 zs → zs[i]? = some z,
    fun i H => ∃ xs ys zs : List V, SqB b K H a1 xs ∧ SqB c K H a2 ys ∧ SqB d K H a3 zs ∧ min xs.length (min ys.length zs.length) = i⟩
theorem turn_zipC {P : Program} {w : World} {K : PySem.W.Frag} {elts : List Expr} {kk : Nat} {tpos : Pos} {b c d : Bool} {a1 a2 a3 z TI TO i1 i2 i3 : Addr} (S : ZipSep3 z TI TO i1 i2 i3 [i1, a1] [i2, a2] [i3, a3]) :
    Turn P w K (.Tuple elts kk tpos) (ItzC b c d K a1 a2 a3) [z, TI, TO, i1, i2, i3] z (fun i h => IsZip h z TI TO .none ∧ IsTupOf3 h TI (.ref i1) (.ref i2) (.ref i3) ∧ (∃ x y u, IsTupOf3 h TO x y u) ∧ ItB b h i1 a1 i ∧ ItB c h i2 a2 i ∧ ItB d h i3 a3 i) where
  mem := by simp
  obj := fun i h st q hq => by
    obtain ⟨hz, hTI, ⟨x, y, u, hTO⟩, h1, h2, h3⟩ := st
    have e' : q = z ∨ q = TI ∨ q = TO ∨ q = i1 ∨ q = i2 ∨ q = i3 := by simpa using hq
    rcases e' with e | e | e | e | e | e
    · rw [e]; exact ⟨_, hz, fun v q => nomatch q⟩
    · rw [e]; exact ⟨_, hTI, fun v q => nomatch q⟩
    · rw [e]; exact ⟨_, hTO, fun v q => nomatch q⟩
    · rw [e]; exact h1.obj
    · rw [e]; exact h2.obj
    · rw [e]; exact h3.obj
  keep := fun i h h' st k => by
    obtain ⟨hz, hTI, ⟨x, y, u, hTO⟩, h1, h2, h3⟩ := st
    exact ⟨k z (by simp) _ hz, k TI (by simp) _ hTI, ⟨x, y, u, k TO (by simp) _ hTO⟩, h1.at fun o q => k i1 (by simp) o q, h2.at fun o q => k i2 (by simp) o q, h3.at fun o q => k i3 (by simp) o q⟩
  item := by
    intro X hP hw hK hc i pins s σ H E I hf st hg
    subst hP hw hK
    obtain ⟨hz, hTI, ⟨x0, y0, u0, hTO⟩, h1, h2, h3⟩ := st
    obtain ⟨xs, ys, zs, x, y, zz, hqx, hqy, hqz, hx, hy, hzz⟩ := hg
    obtain ⟨its, rv, p⟩ := I.sqB hqx
    obtain ⟨its2, rv2, p2⟩ := I.sqB hqy
    obtain ⟨its3, rv3, p3⟩ := I.sqB hqz
    obtain ⟨u, hu, ru⟩ := rv.get hx
    obtain ⟨u2, hu2, ru2⟩ := rv2.get hy
    obtain ⟨u3, hu3, ru3⟩ := rv3.get hzz
    have hzl : z < s.heap.objs.size := Heap.lt_size hz
    have n1 : a1 ≠ i1 := p.ne h1
    have n2 : a2 ≠ i2 := p2.ne h2
    have n3 : a3 ≠ i3 := p3.ne h3
    have hlt : i < its.toArray.size := by have := (List.getElem?_eq_some_iff.mp hu).1; simpa using this
    have hlt2 : i < its2.toArray.size := by have := (List.getElem?_eq_some_iff.mp hu2).1; simpa using this
    have hlt3 : i < its3.toArray.size := by have := (List.getElem?_eq_some_iff.mp hu3).1; simpa using this
    refine wpAny_pyNext_zipD3_item S (drawsB (A := X.A.in1) (I.ok.hd hc) b i1 a1 n1 its.toArray) (drawsB (A := X.A.in1) (I.ok.hd hc) c i2 a2 n2 its2.toArray) (drawsB (A := X.A.in1) (I.ok.hd hc) d i3 a3 n3 its3.toArray) hz hTI hTO ⟨h1, p⟩ ⟨h2, p2⟩ ⟨h3, p3⟩ hlt hlt2 hlt3 fun v1 v2 v3 h' tk e1 e2 e3 z' TO' st1 st2 st3 hT hsz hk => ?_
    obtain rfl : u = v1 := by
      have hu' : its.toArray[i]? = some u := by simpa using hu
      exact Option.some.inj (hu'.symm.trans e1)
    obtain rfl : u2 = v2 := by
      have hu' : its2.toArray[i]? = some u2 := by simpa using hu2
      exact Option.some.inj (hu'.symm.trans e2)
    obtain rfl : u3 = v3 := by
      have hu' : its3.toArray[i]? = some u3 := by simpa using hu3
      exact Option.some.inj (hu'.symm.trans e3)
    refine ⟨_, rfl, wpAny_letOwnedTupleGo_zip (s := { s with heap := h', toks := tk }) z' fun h'' z'' sb => ?_⟩
    have hT2 : h''.get? s.heap.objs.size = some { cls := .type "tuple", data := .seq #[u, u2, u3] } := (sb.2 _ (Nat.ne_of_gt hzl)).trans hT
    have new : ObjOk X.prog X.w (upd H s.heap.objs.size (.frz { cls := .type "tuple", data := .seq #[u, u2, u3] } (.tup [x, y, zz]))) h'' s.heap.objs.size (.frz { cls := .type "tuple", data := .seq #[u, u2, u3] } (.tup [x, y, zz])) :=
      ⟨hT2, by show 3 ≤ sizeLine; decide, [u, u2, u3], .cons ru (.cons ru2 (.cons ru3 .nil)), ⟨_, hT2, rfl, _, rfl⟩⟩
    have I1 : Inv X pins σ (upd H s.heap.objs.size (.frz { cls := .type "tuple", data := .seq #[u, u2, u3] } (.tup [x, y, zz]))) { s with heap := h'', toks := tk } :=
      I.turnedNew (t' := tk) (ch := [z, TI, TO, i1, i2, i3]) (fun c o hb q => (sb.2 c (fun q' => hb (by simp [q']))).trans (hk c o (fun q' => hb (by simp [q'])) (fun q' => hb (by simp [q'])) (fun q' => hb (by simp [q'])) (fun q' => hb (by simp [q'])) (fun q' => hb (by simp [q'])) q)) hf (Nat.le_refl _) new
    refine ⟨.ref s.heap.objs.size, _, I1, rfl, ⟨_, x, y, zz, rfl, I.hok.fresh (Nat.le_refl _), ⟨_, rfl, rfl⟩, fun l hl => by rw [I.sqB_inj hl hqx]; exact hx, fun l hl => by rw [I.sqB_inj hl hqy]; exact hy, fun l hl => by rw [I.sqB_inj hl hqz]; exact hzz⟩, ⟨z'', ?_, ⟨u, u2, u3, ?_⟩, ?_, ?_, ?_⟩, fun q hcm => ?_⟩
    · exact (sb.2 _ S.TIz).trans (hk _ _ S.TIz S.TITO S.TIi1 S.TIi2 S.TIi3 hTI)
    · exact (sb.2 _ S.TOz).trans TO'
    · exact st1.1.at fun o q => (sb.2 _ (Ne.symm S.zi1)).trans q
    · exact st2.1.at fun o q => (sb.2 _ (Ne.symm S.zi2)).trans q
    · exact st3.1.at fun o q => (sb.2 _ (Ne.symm S.zi3)).trans q
    · have hlt : q < s.heap.objs.size := by
        have e' : q = z ∨ q = TI ∨ q = TO ∨ q = i1 ∨ q = i2 ∨ q = i3 := by simpa using hcm
        rcases e' with e | e | e | e | e | e
        · rw [e]; exact hzl
        · rw [e]; exact Heap.lt_size hTI
        · rw [e]; exact Heap.lt_size hTO
        · rw [e]; obtain ⟨_, e1, _⟩ := h1.obj; exact Heap.lt_size e1
        · rw [e]; obtain ⟨_, e2, _⟩ := h2.obj; exact Heap.lt_size e2
        · rw [e]; obtain ⟨_, e2, _⟩ := h3.obj; exact Heap.lt_size e2
      rw [upd_ne (Nat.ne_of_lt hlt)]
      exact (hf q hcm).1
  done := by
    intro X hP hw hK hc i pins s σ H E I hf st hg
    subst hP hw hK
    obtain ⟨hz, hTI, ⟨x0, y0, u0, hTO⟩, h1, h2, h3⟩ := st
    obtain ⟨xs, ys, zs, hqx, hqy, hqz, hend⟩ := hg
    obtain ⟨its, rv, p⟩ := I.sqB hqx
    obtain ⟨its2, rv2, p2⟩ := I.sqB hqy
    obtain ⟨its3, rv3, p3⟩ := I.sqB hqz
    have l1 := rv.length
    have l2 := rv2.length
    have l3 := rv3.length
    have n1 : a1 ≠ i1 := p.ne h1
    have n2 : a2 ≠ i2 := p2.ne h2
    have n3 : a3 ≠ i3 := p3.ne h3
    have z1 : its.toArray.size = its.length := by simp
    have z2 : its2.toArray.size = its2.length := by simp
    have z3 : its3.toArray.size = its3.length := by simp
    exact wpAny_pyNext_zipD3_end S (drawsB (A := X.A.in1) (I.ok.hd hc) b i1 a1 n1 its.toArray) (drawsB (A := X.A.in1) (I.ok.hd hc) c i2 a2 n2 its2.toArray) (drawsB (A := X.A.in1) (I.ok.hd hc) d i3 a3 n3 its3.toArray) hz hTI hTO ⟨h1, p⟩ ⟨h2, p2⟩ ⟨h3, p3⟩ (by omega) (by omega) (by omega) (by omega) fun h' tk hk => ⟨rfl, I.turnedL (t' := tk) (ch := [z, TI, TO, i1, i2, i3]) (fun c o hb q =>
      hk c o (fun q' => hb (by simp [q'])) (fun q' => hb (by simp [q'])) (fun q' => hb (by simp [q'])) (fun q' => hb (by simp [q'])) (fun q' => hb (by simp [q'])) q) hf⟩
  self := fun A i s Q E st h => wpAny_pyIter_zip st.1 h
def tZipC (K : PySem.W.Frag) (ta : TA) : TI := fun σ H R => ta σ H fun vs H1 => ∃ b c d a1 a2 a3 xs ys zs, vs = [.ref a1, .ref a2, .ref a3] ∧ SqB b K H1 a1 xs ∧ SqB c K H1 a2 ys ∧ SqB d K H1 a3 zs ∧ R (ItzC b c d K a1 a2 a3) H1
theorem pi_zipC {X : Cx} {e e2 e3 : Expr} {ta : TA} {p pos tpos : Pos} {elts : List Expr} {kk : Nat} (hg : Gl X "zip") (hm : X.mg "zip" = none) (ha : PA X [e, e2, e3] ta)
    (hs : starEach [e, e2, e3] X.env = (false, eval e X.env) :: starEach [e2, e3] X.env := by rfl) (hpl : (backTo pos (starEach [e2, e3] X.env)).any (·.1) = false := by rfl) :
    PI X (.Tuple elts kk tpos) (.Call (.Name "zip" p) [e, e2, e3] [] pos) (tZipC X.K ta) := by
  refine ⟨fun pins s σ H R I h => ?_⟩
  refine Call_ (ld_blt I hg hm PyProof.Rows.boot_zip (PyProof.Rows.callWith_type1 (thn (ha.run pos pins s σ H _ I h) fun us s1 ⟨vs, H1, I1, r1, q1⟩ => ?_) hs hpl))
  obtain ⟨b, c, d, a1, a2, a3, xs, ys, zs, ex, hqx, hqy, hqz, q⟩ := q1
  subst ex
  cases r1 with
  | cons r rr =>
    cases rr with
    | cons r' rr =>
      cases rr with
      | cons r'' rr =>
        cases rr
        cases r
        cases r'
        cases r''
        obtain ⟨its, rv, p1⟩ := I1.sqB hqx
        obtain ⟨its2, rv2, p2⟩ := I1.sqB hqy
        obtain ⟨its3, rv3, p3⟩ := I1.sqB hqz
        refine zip_begins3 (beginsB b a1 its.toArray) (beginsB c a2 its2.toArray) (beginsB d a3 its3.toArray) p1 p2 p3 fun h' hz hTI hTO h1 h2 h3 hsz hk => wpAny_pyIter_zip hz ?_
        have I2 : Inv X pins σ H1 { s1 with heap := h' } := I1.kept (t' := s1.toks) hk
        have S : ZipSep3 (s1.heap.objs.size + 5) (s1.heap.objs.size + 3) (s1.heap.objs.size + 4) s1.heap.objs.size (s1.heap.objs.size + 1) (s1.heap.objs.size + 2) [s1.heap.objs.size, a1] [s1.heap.objs.size + 1, a2] [s1.heap.objs.size + 2, a3] :=
          zip_sep3 (N := s1.heap.objs.size) (fp1 := [a1]) (fp2 := [a2]) (fp3 := [a3]) (fun b hb => by rw [List.mem_singleton.mp hb]; exact p1.lt) (fun b hb => by rw [List.mem_singleton.mp hb]; exact p2.lt) (fun b hb => by rw [List.mem_singleton.mp hb]; exact p3.lt)
        refine ⟨s1.heap.objs.size + 5, [s1.heap.objs.size + 5, s1.heap.objs.size + 3, s1.heap.objs.size + 4, s1.heap.objs.size, s1.heap.objs.size + 1, s1.heap.objs.size + 2], _, _, H1, rfl, I2, turn_zipC S, ⟨hz, hTI, ⟨_, _, _, hTO⟩, .new h1, .new h2, .new h3⟩, fun c hcm => ?_, q⟩
        have e' : c = s1.heap.objs.size + 5 ∨ c = s1.heap.objs.size + 3 ∨ c = s1.heap.objs.size + 4 ∨ c = s1.heap.objs.size ∨ c = s1.heap.objs.size + 1 ∨ c = s1.heap.objs.size + 2 := by simpa using hcm
        have hle : s1.heap.objs.size ≤ c := by
          rcases e' with z | z | z | z | z | z
          · rw [z]; exact Nat.le_add_right _ _
          · rw [z]; exact Nat.le_add_right _ _
          · rw [z]; exact Nat.le_add_right _ _
          · rw [z]; exact Nat.le_refl _
          · rw [z]; exact Nat.le_add_right _ _
          · rw [z]; exact Nat.le_add_right _ _
        exact I1.fpOk hle (I1.hok.fresh hle)
theorem new_tri {K : PySem.W.Frag} {w : Wo} {H : Hp} {x y z : V} {d e f : PyData} {T : Addr} {o : Obj} (ho : o.dict = none) (W : Wd K w H) (hT : H T = none) (h1 : Dq K w.P H x d) (h2 : Dq K w.P H y e) (h3 : Dq K w.P H z f) :
    ∃ w3, w3.m = w.m ∧ Ex w H w3 (upd H T (.frz o (.tup [x, y, z]))) ∧ Wd K w3 (upd H T (.frz o (.tup [x, y, z]))) ∧ SV K w3 (upd H T (.frz o (.tup [x, y, z]))) (.ref T) (.d (.tuple [d, e, f])) := by
  obtain ⟨S0, dq⟩ := new_tup (K := K) (P := w.P) (xs := [x, y, z]) (ds := [d, e, f]) (.cons h1 (.cons h2 (.cons h3 .nil))) (by show 3 ≤ sizeLine; decide) ho hT
  obtain ⟨E, W'⟩ := W.same S0
  exact ⟨w, rfl, E, W', dq⟩
theorem yl_zip3 {K : PySem.W.Frag} {w : Wo} {H : Hp} {b c d : Bool} {a1 a2 a3 : Addr} {xs ys zs : List V} {ds es fs : List PyData} (z : ds.length ≤ sizeLine) (hl : xs.length = ds.length) (hl2 : ys.length = es.length) (hl3 : zs.length = fs.length)
    (St1 : Stay K w H b a1 xs ds) (St2 : Stay K w H c a2 ys es) (St3 : Stay K w H d a3 zs fs) :
    Yl K w H (ItzC b c d K a1 a2 a3) ((tris ds es fs).map S.d) := by
  have hpl : ((tris ds es fs).map S.d).length = min ds.length (min es.length fs.length) := by rw [List.length_map, tris_len]
  refine ⟨by rw [hpl]; omega, fun P1 w2 H2 hp E W2 => ?_⟩
  obtain ⟨h2, r2⟩ := St1 P1 w2 H2 hp E W2
  obtain ⟨h3, r3⟩ := St2 P1 w2 H2 hp E W2
  obtain ⟨h4, r4⟩ := St3 P1 w2 H2 hp E W2
  refine ⟨⟨xs, ys, zs, h2, h3, h4, by rw [hpl, hl, hl2, hl3]⟩, fun i s e => ?_⟩
  obtain ⟨d0, e1, rfl⟩ := map_at e
  obtain ⟨x, y, q, hx, hy, hq, rfl⟩ := tris_at e1
  obtain ⟨v, e2, q2⟩ := r2.at i x hx
  obtain ⟨u, e3, q3⟩ := r3.at i y hy
  obtain ⟨t, e4, q4⟩ := r4.at i q hq
  refine ⟨⟨xs, ys, zs, v, u, t, h2, h3, h4, e2, e3, e4⟩, fun v' H3 yl => ?_⟩
  obtain ⟨T, x', y', z', rfl, hT, ⟨o, ho, rfl⟩, f1, f2, f3⟩ := yl
  have := Option.some.inj ((f1 xs h2).symm.trans e2)
  subst this
  have := Option.some.inj ((f2 ys h3).symm.trans e3)
  subst this
  have := Option.some.inj ((f3 zs h4).symm.trans e4)
  subst this
  exact new_tri ho W2 hT q2 q3 q4
section
variable {X : Cx} {e e2 e3 : Expr} {f f2 f3 : RE} {p pos tpos : Pos} {elts : List Expr} {kk : Nat}
theorem fi_zip3 (hm : X.mg "zip" = none) (he : FE X e f) (he2 : FE X e2 f2) (he3 : FE X e3 f3) (hg : Gl X "zip" := by rfl) (hs : starEach [e, e2, e3] X.env = (false, eval e X.env) :: starEach [e2, e3] X.env := by rfl) (hs2 : starEach [e2, e3] X.env = (false, eval e2 X.env) :: starEach [e3] X.env := by rfl)
    (hs3 : starEach [e3] X.env = [(false, eval e3 X.env)] := by rfl) (hpl : (backTo pos (starEach [e2, e3] X.env)).any (·.1) = false := by rfl) :
    FI X (.Tuple elts kk tpos) (.Call (.Name "zip" p) [e, e2, e3] [] pos) (iZip3 f f2 f3) :=
  PI.imp (pi_zipC hg hm (fa_cons (fe_z he) (fa_cons (fe_z he2) (fa_cons (fe_z he3) fa_nil (by rw [hs3]; rfl)) hs2) hs) hs hpl) fun σ H R ⟨w, l, xs, m', W, L, e, k⟩ => by
    simp only [iZip3, Option.bind_eq_some_iff] at e
    obtain ⟨⟨p, m1⟩, e1, ⟨q, m2⟩, e2, ⟨r, m3⟩, e3, e4⟩ := e
    cases p with
    | r n => cases q <;> cases r <;> cases e4
    | d x =>
      cases q with
      | r n => cases r <;> cases e4
      | d y =>
        cases r with
        | r n => cases e4
        | d zz =>
          simp only [Option.map_eq_some_iff, Option.bind_eq_some_iff, Prod.mk.injEq] at e4
          obtain ⟨ds, e5, es, e6, fs, e7, rfl, rfl⟩ := e4
          have e2' : eZ f2 l m1 = some (S.d y, m2) := e2
          have e3' : eZ f3 l m2 = some (S.d zz, m3) := e3
          refine goA W L (show rA [eZ f, eZ f2, eZ f3] l w.m = some ([S.d x, S.d y, S.d zz], m3) by simp only [rA, e1, e2', e3', Option.bind_some, Option.map_some]) fun w1 H1 vs c1 E1 W1 L1 s1 => ?_
          cases s1
          rename_i r rr
          cases rr
          rename_i r' rr
          cases rr
          rename_i r'' rr
          cases rr
          obtain ⟨b, a1, xs, rfl, h1, h2, h3, h4⟩ := stay_of W1 (show Dq X.K w1.P H1 _ x from r) e5
          obtain ⟨c, a2, ys, rfl, h5, h6, h7, h8⟩ := stay_of W1 (show Dq X.K w1.P H1 _ y from r') e6
          obtain ⟨d, a3, zs, rfl, h9, h10, h11, h12⟩ := stay_of W1 (show Dq X.K w1.P H1 _ zz from r'') e7
          exact ⟨b, c, d, a1, a2, a3, xs, ys, zs, rfl, h3, h7, h11, k w1 H1 _ c1 E1 W1 (yl_zip3 h1 h2 h6 h10 h4 h8 h12)⟩
end
variable {p : Pf} {a b c : RE} {st : List SA} {It : List PyData → List SA → Prop}
theorem wi_zip3 (h : WE p a (ZK fun v s1 => ItemsK v fun xs => WE p b (ZK fun w s2 => ItemsK w fun ys => WE p c (ZK fun u s3 => ItemsK u fun zs => It (tris xs ys zs) s3) s2) s1) st) : WI p (iZip3 a b c) It st := fun l m hp W => by
  obtain ⟨s, m', v, st', h1, h2, h3, h4, h5, d, xs, rfl, e1, hb⟩ := we_z h l m hp W
  obtain rfl : s = .d d := h4
  obtain ⟨s2, m2, w, st2, q1, q2, q3, q4, q5, e, ys, rfl, e2, hc⟩ := we_z hb l m' h2 h3
  obtain rfl : s2 = .d e := q4
  obtain ⟨s3, m3, u, st3, r1, r2, r3, r4, r5, e', zs, rfl, e3, k⟩ := we_z hc l m2 q2 q3
  obtain rfl : s3 = .d e' := r4
  exact ⟨_, m3, st3, by unfold iZip3; simp only [h1, q1, r1, Option.bind_some, e1, e2, e3, Option.map_some], r2, r3, h5.trans (q5.trans r5), k⟩
end Fz

set_option linter.all false
set_option autoImplicit false
set_option maxRecDepth 100000
/-! FzDk: reckoning with dicts by value. -/
namespace Fz
open PySem
section
variable {k k' : NestedKey} {v : PyData}
theorem getD_map_ne (h : k ≠ k') : ∀ {kvs : List (NestedKey × PyData)}, getD k' (kvs.map fun p => if p.1 = k then (p.1, v) else p) = getD k' kvs
  | [] => rfl
  | (a, b) :: r => by
    simp only [List.map_cons]
    by_cases e : a = k
    · rw [if_pos e]
      have : a ≠ k' := fun z => h (e ▸ z)
      simp only [getD, if_neg this, getD_map_ne h]
    · rw [if_neg e]
      simp only [getD, getD_map_ne h]
theorem getD_map_eq : ∀ {kvs : List (NestedKey × PyData)}, (getD k kvs).isSome = true → getD k (kvs.map fun p => if p.1 = k then (p.1, v) else p) = some v
  | [], h => by cases h
  | (a, b) :: r, h => by
    simp only [List.map_cons]
    by_cases e : a = k
    · rw [if_pos e]; simp only [getD, if_pos e]
    · rw [if_neg e]
      simp only [getD, if_neg e] at h ⊢
      exact getD_map_eq h
theorem getD_app : ∀ {kvs r : List (NestedKey × PyData)}, getD k (kvs ++ r) = match getD k kvs with | some x => some x | none => getD k r
  | [], r => rfl
  | (a, b) :: q, r => by
    simp only [List.cons_append, getD]
    by_cases e : a = k
    · simp only [if_pos e]
    · simp only [if_neg e, getD_app (kvs := q)]
theorem getD_set {kvs : List (NestedKey × PyData)} : getD k (setD k v kvs) = some v := by
  unfold setD
  split
  · rename_i h; exact getD_map_eq h
  · rename_i h
    rw [getD_app]
    have : getD k kvs = none := by
      cases q : getD k kvs with
      | none => rfl
      | some x => rw [q] at h; simp at h
    rw [this]; simp [getD]
theorem getD_set_ne (h : k ≠ k') {kvs : List (NestedKey × PyData)} : getD k' (setD k v kvs) = getD k' kvs := by
  unfold setD
  split
  · exact getD_map_ne h
  · rw [getD_app]
    cases getD k' kvs with
    | none => simp [getD, h]
    | some x => rfl
theorem setD_len {kvs : List (NestedKey × PyData)} : (setD k v kvs).length ≤ kvs.length + 1 := by
  unfold setD
  split
  · rw [List.length_map]; omega
  · rw [List.length_append]; simp
end
theorem nkeys_ints : ∀ ns : List Int, nkeys (ns.map .int) = some (ns.map .num)
  | [] => by simp [nkeys]
  | n :: ns => by simp only [List.map_cons, nkeys, nkey, nkeys_ints ns]
theorem depth_nums : ∀ ns : List Int, NestedKey.depthAll (ns.map .num) = 0
  | [] => by simp [NestedKey.depthAll]
  | n :: ns => by simp [NestedKey.depthAll, NestedKey.depth, depth_nums ns]
theorem keyOf_ints (ns : List Int) : keyOf (.tuple (ns.map .int)) = some (.tup (ns.map .num)) := by
  simp only [keyOf, nkeys_ints, NestedKey.depth, depth_nums]
  rfl
theorem num_inj : ∀ {a b : List Int}, a.map NestedKey.num = b.map NestedKey.num → a = b
  | [], [], _ => rfl
  | [], _ :: _, h => by cases h
  | _ :: _, [], h => by cases h
  | x :: xs, y :: ys, h => by
    simp only [List.map_cons, List.cons.injEq, NestedKey.num.injEq] at h
    rw [h.1, num_inj h.2]
/-- items None or a number -/
def oK : Option Int → NestedKey
  | none => .none
  | some i => .num i
theorem nkeys_os : ∀ os : List (Option Int), nkeys (os.map oD) = some (os.map oK)
  | [] => by simp [nkeys]
  | none :: os => by simp only [List.map_cons, nkeys, nkey, oD, nkeys_os os, oK]
  | some i :: os => by simp only [List.map_cons, nkeys, nkey, oD, nkeys_os os, oK]
theorem depth_os : ∀ os : List (Option Int), NestedKey.depthAll (os.map oK) = 0
  | [] => by simp [NestedKey.depthAll]
  | none :: os => by simp [NestedKey.depthAll, NestedKey.depth, oK, depth_os os]
  | some i :: os => by simp [NestedKey.depthAll, NestedKey.depth, oK, depth_os os]
theorem keyOf_os (os : List (Option Int)) : keyOf (.tuple (os.map oD)) = some (.tup (os.map oK)) := by
  simp only [keyOf, nkeys_os, NestedKey.depth, depth_os]
  rfl
theorem oK_inj : ∀ {a b : List (Option Int)}, a.map oK = b.map oK → a = b
  | [], [], _ => rfl
  | [], _ :: _, h => by cases h
  | _ :: _, [], h => by cases h
  | x :: xs, y :: ys, h => by
    simp only [List.map_cons, List.cons.injEq] at h
    rw [oK_inj h.2]
    have : x = y := by
      cases x <;> cases y <;> simp [oK] at h ⊢
      exact h.1
    rw [this]
end Fz

set_option linter.all false
set_option autoImplicit false
set_option maxRecDepth 100000
/-! FzE: == and in over plain data (None, whole numbers, texts, lists and tuples of such). -/
namespace Fz
open PySem
theorem some_rfl {α : Type} {x : α} : some x = some x := rfl
mutual
def plain : PyData → Bool
  | .none => true
  | .int _ => true
  | .str x => PyData.strOk x
  | .list xs => plainAll xs
  | .tuple xs => plainAll xs
  | _ => false
def plainAll : List PyData → Bool
  | [] => true
  | x :: xs => plain x && plainAll xs
end
mutual
theorem plain_lay : ∀ {d : PyData}, plain d = true → d.canLay0 = true
  | .none, _ => by simp [PyData.canLay0]
  | .int _, _ => by simp [PyData.canLay0]
  | .bool _, h => by simp [plain] at h
  | .str x, h => by simpa [plain, PyData.canLay0] using h
  | .list xs, h => by simp only [plain] at h; simp only [PyData.canLay0, plainAll_lay h]
  | .tuple xs, h => by simp only [plain] at h; simp only [PyData.canLay0, plainAll_lay h]
  | .dict _, h => by simp [plain] at h
theorem plainAll_lay : ∀ {ds : List PyData}, plainAll ds = true → PyData.canLayAll0 ds = true
  | [], _ => by simp [PyData.canLayAll0]
  | x :: xs, h => by
    simp only [plainAll, Bool.and_eq_true] at h
    simp only [PyData.canLayAll0, plain_lay h.1, plainAll_lay h.2, Bool.and_self]
end
mutual
theorem eqv_plain : ∀ (x y : PyData), plain x = true → plain y = true → (PyData.eqv x y = true ↔ x = y)
  | .none, y, hx, hy => by cases y <;> simp_all [PyData.eqv, plain]
  | .int i, y, hx, hy => by cases y <;> simp_all [PyData.eqv, plain]
  | .str i, y, hx, hy => by cases y <;> simp_all [PyData.eqv, plain]
  | .bool _, _, hx, _ => by simp [plain] at hx
  | .dict _, _, hx, _ => by simp [plain] at hx
  | .list xs, y, hx, hy => by
    cases y <;> try (simp_all [PyData.eqv, plain]; done)
    rename_i ys
    simp only [plain] at hx hy
    simp only [PyData.eqv, PyData.list.injEq]
    exact eqvAll_plain xs ys hx hy
  | .tuple xs, y, hx, hy => by
    cases y <;> try (simp_all [PyData.eqv, plain]; done)
    rename_i ys
    simp only [plain] at hx hy
    simp only [PyData.eqv, PyData.tuple.injEq]
    exact eqvAll_plain xs ys hx hy
theorem eqvAll_plain : ∀ (xs ys : List PyData), plainAll xs = true → plainAll ys = true → (PyData.eqvAll xs ys = true ↔ xs = ys)
  | [], [], _, _ => by simp [PyData.eqvAll]
  | [], _ :: _, _, _ => by simp [PyData.eqvAll]
  | _ :: _, [], _, _ => by simp [PyData.eqvAll]
  | x :: xs, y :: ys, hx, hy => by
    simp only [plainAll, Bool.and_eq_true] at hx hy
    simp only [PyData.eqvAll, Bool.and_eq_true, eqv_plain x y hx.1 hy.1, eqvAll_plain xs ys hx.2 hy.2, List.cons.injEq]
end
/-- plain, of depth at most n -/
structure Pl (n : Nat) (d : PyData) : Prop where
  p : plain d = true
  z : d.depth ≤ n
theorem Pl.mono {n m : Nat} {d : PyData} (h : Pl n d) (q : n ≤ m) : Pl m d := ⟨h.p, Nat.le_trans h.z q⟩
theorem pl_none : Pl 0 .none := ⟨by simp [plain], Nat.le_refl 0⟩
theorem pl_int {i : Int} : Pl 0 (.int i) := ⟨by simp [plain], Nat.le_refl 0⟩
theorem plainAll_of : ∀ {xs : List PyData}, (∀ x, x ∈ xs → plain x = true) → plainAll xs = true
  | [], _ => by simp [plainAll]
  | x :: xs, h => by simp only [plainAll, h x (List.mem_cons_self ..), plainAll_of fun z hz => h z (List.mem_cons_of_mem _ hz), Bool.and_self]
theorem depthAll_of {n : Nat} : ∀ {xs : List PyData}, (∀ x, x ∈ xs → x.depth ≤ n) → PyData.depthAll xs ≤ n
  | [], _ => by simp [PyData.depthAll]
  | x :: xs, h => by
    have h1 := h x (List.mem_cons_self ..)
    have h2 := depthAll_of fun z hz => h z (List.mem_cons_of_mem _ hz)
    simp only [PyData.depthAll]; omega
theorem pl_lst {n : Nat} {xs : List PyData} (h : ∀ x, x ∈ xs → Pl n x) : Pl (n + 1) (.list xs) :=
  ⟨by simp only [plain]; exact plainAll_of fun x hx => (h x hx).p, by have := depthAll_of fun x hx => (h x hx).z; simp only [PyData.depth]; omega⟩
theorem pl_tup {n : Nat} {xs : List PyData} (h : ∀ x, x ∈ xs → Pl n x) : Pl (n + 1) (.tuple xs) :=
  ⟨by simp only [plain]; exact plainAll_of fun x hx => (h x hx).p, by have := depthAll_of fun x hx => (h x hx).z; simp only [PyData.depth]; omega⟩
theorem pl_map {α : Type} {n : Nat} {f : α → PyData} {xs : List α} (h : ∀ x, x ∈ xs → Pl n (f x)) : ∀ d, d ∈ xs.map f → Pl n d := fun d hd => by
  obtain ⟨x, hx, rfl⟩ := List.mem_map.mp hd
  exact h x hx
theorem pl_ints {xs : List Int} : Pl 1 (.list (xs.map .int)) := pl_lst (pl_map fun _ _ => pl_int)
theorem pl_row {xs : List Int} : Pl 1 (rowD xs) := pl_tup (pl_map fun _ _ => pl_int)
theorem pl_rows {xs : List (List Int)} : Pl 2 (.list (xs.map rowD)) := pl_lst (pl_map fun _ _ => pl_row)
theorem pl_rowsT {xs : List (List Int)} : Pl 2 (.tuple (xs.map rowD)) := pl_tup (pl_map fun _ _ => pl_row)
theorem Pl.shaped {n : Nat} {d : PyData} (h : Pl n d) (hn : n ≤ 64 := by decide) : SeqAt.shaped d = true := by
  unfold SeqAt.shaped
  rw [plain_lay h.p, Bool.true_and]
  exact decide_eq_true (Nat.le_trans h.z hn)
theorem eqB_plain {n m : Nat} {x y : PyData} (hx : Pl n x) (hy : Pl m y) (hn : n ≤ 64 := by decide) (hm : m ≤ 64 := by decide) : ∃ b, eqB x y = some b ∧ (b = true ↔ x = y) := by
  have gen : ∃ b, (if (SeqAt.shaped x && SeqAt.shaped y) = true then some (PyData.eqv x y) else none) = some b ∧ (b = true ↔ x = y) := by
    rw [hx.shaped hn, hy.shaped hm]
    exact ⟨_, rfl, eqv_plain x y hx.p hy.p⟩
  cases x <;> cases y <;> first | exact gen | exact ⟨_, rfl, by simp⟩
theorem pEq_plain {n m : Nat} {x y : PyData} (hx : Pl n x) (hy : Pl m y) (hn : n ≤ 64 := by decide) (hm : m ≤ 64 := by decide) : ∃ b, pEq x y = some (.bool b) ∧ (b = true ↔ x = y) := by
  obtain ⟨b, h1, h2⟩ := eqB_plain hx hy hn hm
  exact ⟨b, by simp only [pEq, h1, Option.map_some], h2⟩
theorem pNe_plain {n m : Nat} {x y : PyData} (hx : Pl n x) (hy : Pl m y) (hn : n ≤ 64 := by decide) (hm : m ≤ 64 := by decide) : ∃ b, pNe x y = some (.bool b) ∧ (b = true ↔ x ≠ y) := by
  obtain ⟨b, h1, h2⟩ := eqB_plain hx hy hn hm
  refine ⟨!b, by simp only [pNe, h1, Option.map_some], ?_⟩
  rw [Ne, ← h2]; cases b <;> simp
/-- == told by a decidable fact -/
theorem pEq_dec {n m : Nat} {x y : PyData} {p : Prop} [Decidable p] (hx : Pl n x) (hy : Pl m y) (hp : x = y ↔ p) (hn : n ≤ 64 := by decide) (hm : m ≤ 64 := by decide) : pEq x y = some (.bool (decide p)) := by
  obtain ⟨b, h1, h2⟩ := pEq_plain hx hy hn hm
  rw [h1]
  congr 2
  rw [Bool.eq_iff_iff, h2, hp, decide_eq_true_iff]
theorem pNe_dec {n m : Nat} {x y : PyData} {p : Prop} [Decidable p] (hx : Pl n x) (hy : Pl m y) (hp : x = y ↔ p) (hn : n ≤ 64 := by decide) (hm : m ≤ 64 := by decide) : pNe x y = some (.bool (!decide p)) := by
  obtain ⟨b, h1, h2⟩ := pNe_plain hx hy hn hm
  rw [h1]
  congr 2
  rw [Bool.eq_iff_iff, h2, Ne, hp, Bool.not_eq_true', decide_eq_false_iff_not]
theorem ne_nil_p {n : Nat} {xs : List PyData} (h : Pl n (.list xs)) (hn : n ≤ 64 := by decide) : pNe (.list xs) (.list []) = some (.bool (!xs.isEmpty)) := by
  have := pNe_dec (p := xs.isEmpty = true) h (pl_lst (n := 0) (xs := []) (by simp)) (by rw [PyData.list.injEq, List.isEmpty_iff]) hn
  rw [this]; cases xs.isEmpty <;> rfl
theorem eq_nil_p {n : Nat} {xs : List PyData} (h : Pl n (.list xs)) (hn : n ≤ 64 := by decide) : pEq (.list xs) (.list []) = some (.bool xs.isEmpty) := by
  have := pEq_dec (p := xs.isEmpty = true) h (pl_lst (n := 0) (xs := []) (by simp)) (by rw [PyData.list.injEq, List.isEmpty_iff]) hn
  rw [this]; cases xs.isEmpty <;> rfl
theorem eq_unit_p {n : Nat} {xs : List PyData} (h : Pl n (.tuple xs)) (hn : n ≤ 64 := by decide) : pEq (.tuple xs) (.tuple []) = some (.bool xs.isEmpty) := by
  have := pEq_dec (p := xs.isEmpty = true) h (pl_tup (n := 0) (xs := []) (by simp)) (by rw [PyData.tuple.injEq, List.isEmpty_iff]) hn
  rw [this]; cases xs.isEmpty <;> rfl
theorem any_plain {n : Nat} {x : PyData} (hx : plain x = true) : ∀ {ds : List PyData}, (∀ d, d ∈ ds → plain d = true) → ((ds.any fun z => PyData.eqv z x) = true ↔ x ∈ ds)
  | [], _ => by simp
  | d :: ds, h => by
    rw [List.any_cons, Bool.or_eq_true, any_plain (n := n) hx fun z hz => h z (List.mem_cons_of_mem _ hz), eqv_plain d x (h d (List.mem_cons_self ..)) hx, List.mem_cons]
    exact ⟨fun q => q.imp Eq.symm id, fun q => q.imp Eq.symm id⟩
theorem pIn_dec {n m : Nat} {x : PyData} {ds : List PyData} {p : Prop} [Decidable p] (hx : Pl n x) (hy : ∀ d, d ∈ ds → Pl m d) (hp : x ∈ ds ↔ p) (hn : n ≤ 64 := by decide) (hm : m + 1 ≤ 64 := by decide) : pIn x (.list ds) = some (.bool (decide p)) ∧ pIn x (.tuple ds) = some (.bool (decide p)) ∧ pNotIn x (.list ds) = some (.bool (!decide p)) ∧ pNotIn x (.tuple ds) = some (.bool (!decide p)) := by
  have e : (ds.any fun z => PyData.eqv z x) = decide p := by
    rw [Bool.eq_iff_iff, any_plain (n := n) hx.p fun d hd => (hy d hd).p, hp, decide_eq_true_iff]
  have s1 := hx.shaped hn
  have s2 := (pl_lst hy).shaped hm
  have s3 := (pl_tup hy).shaped hm
  refine ⟨?_, ?_, ?_, ?_⟩ <;> simp only [pIn, pNotIn, inB, s1, s2, s3, Bool.and_self, if_true, e, Option.map_some]
theorem rowD_inj {a b : List Int} : rowD a = rowD b ↔ a = b := by
  constructor
  · intro h
    simp only [rowD, PyData.tuple.injEq] at h
    exact List.map_inj_right (fun x y h => by injection h) |>.mp h
  · rintro rfl; rfl
theorem eq_rows (a b : List Int) : pEq (rowD a) (rowD b) = some (.bool (decide (a = b))) := pEq_dec pl_row pl_row rowD_inj
theorem ne_rows (a b : List Int) : pNe (rowD a) (rowD b) = some (.bool (!decide (a = b))) := pNe_dec pl_row pl_row rowD_inj
/-- an if both of whose ways go on to J -/
theorem cond_seq {p : Pf} {st : List SA} {s s2 r : RS} {F : Out → Prop} {c : Bool} (J : List SA → Prop) (h1 : c = true → WS p s (NxK fun s3 => ∃ s4, Wk s3 s4 ∧ J s4) st) (h2 : c = false → WS p s2 (NxK fun s3 => ∃ s4, Wk s3 s4 ∧ J s4) st) (h3 : ∀ s4, J s4 → WS p r F s4) :
    CondK c (WS p s (SeqK p r F) st) (WS p s2 (SeqK p r F) st) :=
  cond_ws J h1 h2 (fun s4 h => h3 s4 h) fun s3 s4 hw q => seqk_weak hw q
theorem nx_mk {J : List SA → Prop} {st s4 : List SA} (hw : Wk st s4) (h : J s4) : NxK (fun s3 => ∃ s4, Wk s3 s4 ∧ J s4) (.nx st) := ⟨s4, hw, h⟩
end Fz

set_option linter.all false
set_option autoImplicit false
set_option maxRecDepth 100000
/-! FzVc: rules by value: count, index, insert, a fresh list by +. -/
namespace Fz
open PySem PyProof.Rows
open L2 (ixN atI)
section
variable {p : Pf} {st : List SA} {a b c : RE} {i j : Nat} {x : PyData} {F : SA → List SA → Prop} {r : List RE}
def KindK (d d0 : PyData) (A : Prop) : Prop := eMt.kindL d = eMt.kindL d0 ∧ A
theorem kindk {d d0 : PyData} {A : Prop} (e : eMt.kindL d = eMt.kindL d0) (h : A) : KindK d d0 A := ⟨e, h⟩
theorem we_mt {g : PyData → PyData → Option PyData} (h : WE p a (fun v s1 => GetV (datOf s1 v) fun d0 => Get (items d0) fun _ => WE p b (fun w s2 => GetV (datOf s2 v) fun d => KindK d d0 (GetV (datOf s2 w) fun e => Get (g d e) fun r => F (.dat r) s2)) s1) st) : WE p (eMt g a b) F st := fun l m hp W => by
  obtain ⟨s, m', v, st', h1, h2, h3, h4, h5, d0, e0, xs, e1, hb⟩ := h l m hp W
  obtain ⟨s2, m2, w, st2, q1, q2, q3, q4, q5, d, e2, hk, e, e3, y, e4, k⟩ := hb l m' h2 h3
  refine ⟨_, m2, .dat y, st2, ?_, q2, q3, rfl, h5.trans q5, k⟩
  simp only [eMt, h1, Option.bind_some, deref_ok h3 h4 e0, e1, q1, deref_ok q3 (h4.go h3 q5) e2, if_pos hk, deref_ok q3 q4 e3, e4, Option.map_some]
def MIns (vs : List SA) (xs : List PyData) (_ : List SA) (k : PyData → List PyData → Prop) : Prop := ∃ (i : Int) (x : PyData), vs = [.dat (.int i), .dat x] ∧ 0 ≤ i ∧ i ≤ lim ∧ xs.length < lim ∧ k .none (xs.take i.toNat ++ [x] ++ xs.drop i.toNat)
theorem meth_ins : Meth p mInsert MIns := by
  intro l m st n b xs vs ss k W hv hm ⟨i, x, e, h1, h2, h3, hk⟩
  subst e
  have := dats_ok (ds := [.int i, x]) hv rfl; subst this
  refine ⟨_, _, ?_, hk⟩
  simp only [List.map_cons, List.map_nil, mInsert, hm]
  rw [if_pos ⟨h1, h2, by rw [List.length_map]; exact h3⟩]
  simp [List.map_take, List.map_drop]
theorem we_ins {o : RE} {r : List RE} (h : WE p o (fun v s1 => AlK v fun j => OwnAt s1 j fun _ => WA p (rA r) (fun vs s2 => OwnAt s2 j fun xs => MIns vs xs s2 fun d ys => F (.dat d) (s2.set j (.own ys))) s1) st) : WE p (eM mInsert o r) F st := we_m meth_ins h
def addL : PyData → PyData → Option (List PyData)
  | .list xs, .list ys => if xs.length + ys.length ≤ lim then some (xs ++ ys) else none
  | _, _ => none
theorem addL_ok {xs ys : List PyData} (h : xs.length + ys.length ≤ 1000000) : addL (.list xs) (.list ys) = some (xs ++ ys) := if_pos h
theorem we_addM (h : WE p a (fun v s1 => WE p b (fun w s2 => GetV (datOf s2 v) fun d => GetV (datOf s2 w) fun e => Get (addL d e) fun zs => F (.own zs) s2) s1) st) : WE p (eAddM a b) F st := fun l m hp W => by
  obtain ⟨s, m', v, st', h1, h2, h3, h4, h5, hb⟩ := h l m hp W
  obtain ⟨s2, m2, w, st2, q1, q2, q3, q4, q5, d, e2, e, e3, zs, e4, k⟩ := hb l m' h2 h3
  obtain ⟨n1, n2, n3, n4⟩ := new_own q2 q3 zs
  refine ⟨_, _, .own zs, st2, ?_, n1, n2, n3.low (h5.trans q5).len, (h5.trans q5).trans n4, k⟩
  simp only [eAddM, h1, Option.bind_some, q1, deref_ok q3 (h4.go h3 q5) e2, deref_ok q3 q4 e3]
  unfold addL at e4
  split at e4
  · split at e4
    · rename_i hz; cases e4; exact if_pos hz
    · cases e4
  · cases e4
/-- the place of a number among others -/
theorem index_ints {xs : List Int} {x : Int} {j : Nat} (hj : j < xs.length) (e : xs[j]? = some x) (h : ∀ i, i < j → xs[i]? ≠ some x) : pIndex (.tuple (xs.map .int)) (.int x) = some (.int (j : Nat)) := by
  have hok : ctOk (xs.map .int) (.int x) = true := by
    unfold ctOk
    rw [shaped_ints, Bool.true_and]; simp [SeqAt.shaped, PyData.canLay0, PyData.depth]
  unfold pIndex
  simp only
  rw [if_pos hok]
  have : (xs.map PyData.int).findIdx? (fun y => PyData.eqv y (.int x)) = some j := by
    rw [List.findIdx?_eq_some_iff_getElem]
    refine ⟨by rw [List.length_map]; exact hj, ?_, fun i hi => ?_⟩
    · rw [List.getElem?_eq_getElem hj] at e
      injection e with e
      simp [PyData.eqv, e]
    · have := h i hi
      rw [List.getElem?_eq_getElem (by omega)] at this
      simp only [List.getElem_map]
      simp [PyData.eqv]
      intro q; exact this (by rw [q])
  rw [this]; rfl
end
end Fz

set_option linter.all false
set_option autoImplicit false
set_option maxRecDepth 100000
/-! FzVd: what may raise, by value. -/
namespace Fz
open PySem PyProof.Rows
section
variable {p : Pf} {st : List SA} {F : Out → Prop} {J : List SA → Prop}
/-- a piece that may raise: F behind it, J where it raises -/
def WX (p : Pf) (b : RX) (F : Out → Prop) (J : List SA → Prop) (st : List SA) : Prop := ∀ l m, Pre p m → StOk p.K st l m →
  ∃ o, b l m = some o ∧ match o with
    | .ok (c, l', m') => ∃ u, Pre p m' ∧ OutOk p.K st l m c l' m' u ∧ F u
    | .ex l' m' => ∃ st', Pre p m' ∧ StOk p.K st' l' m' ∧ Fr p.K st l m st' l' m' ∧ J st'
def WXE (p : Pf) (b : REX) (F : SA → List SA → Prop) (J : List SA → Prop) (st : List SA) : Prop := ∀ l m, Pre p m → StOk p.K st l m →
  ∃ o, b l m = some o ∧ match o with
    | .ok (s, m') => ∃ v st', Pre p m' ∧ StOk p.K st' l m' ∧ VOk p.K l m' st' m.length v s ∧ Fr p.K st l m st' l m' ∧ F v st'
    | .ex l' m' => ∃ st', Pre p m' ∧ StOk p.K st' l' m' ∧ Fr p.K st l m st' l' m' ∧ J st'
theorem wx_do {s : RS} (h : WS p s F st) : WX p (xDo s) F J st := fun l m hp W => by
  obtain ⟨c, l', m', u, h1, h2, h3, h4⟩ := h l m hp W
  exact ⟨.ok (c, l', m'), by simp only [xDo, h1, Option.map_some], u, h2, h3, h4⟩
theorem wx_raise (h : J st) : WX p xRaise F J st := fun l m hp W => ⟨.ex l m, rfl, st, hp, W, Fr.refl, h⟩
theorem wx_if {t : RT} {a b : RX} (h : WT p t (fun c s1 => CondK c (WX p a F J s1) (WX p b F J s1)) st) : WX p (xIf t a b) F J st := fun l m hp W => by
  obtain ⟨c, m', st', h1, h2, h3, h5, hb⟩ := h l m hp W
  have go : ∀ {x : RX}, WX p x F J st' → (∃ o, x l m' = some o ∧ match o with
      | .ok (c, l', m2) => ∃ u, Pre p m2 ∧ OutOk p.K st l m c l' m2 u ∧ F u
      | .ex l' m2 => ∃ st2, Pre p m2 ∧ StOk p.K st2 l' m2 ∧ Fr p.K st l m st2 l' m2 ∧ J st2) := fun {x} hx => by
    obtain ⟨o, e, k⟩ := hx l m' h2 h3
    refine ⟨o, e, ?_⟩
    cases o with
    | ok r => obtain ⟨u, a1, a2, a3⟩ := k; exact ⟨u, a1, a2.after h5, a3⟩
    | ex l1 m1 => obtain ⟨s1, a1, a2, a3, a4⟩ := k; exact ⟨s1, a1, a2, h5.trans a3, a4⟩
  cases c with
  | true => obtain ⟨o, e, k⟩ := go (hb.1 rfl); exact ⟨o, by simp only [xIf, h1, Option.bind_some, if_true, e], k⟩
  | false => obtain ⟨o, e, k⟩ := go (hb.2 rfl); exact ⟨o, by simp only [xIf, h1, Option.bind_some, Bool.false_eq_true, if_false, e], k⟩
/-- what follows -/
def XSeqK (p : Pf) (s : RX) (F : Out → Prop) (J : List SA → Prop) : Out → Prop
  | .nx st => WX p s F J st
  | .bk st => F (.bk st)
  | .ct st => F (.ct st)
  | .rt v => F (.rt v)
theorem xseqk_nx {s : RX} (h : WX p s F J st) : XSeqK p s F J (.nx st) := h
theorem xseqk_rt {s : RX} {v : SA} (h : F (.rt v)) : XSeqK p s F J (.rt v) := h
theorem wx_seq {a b : RX} (h : WX p a (XSeqK p b F J) J st) : WX p (xSeq a b) F J st := fun l m hp W => by
  obtain ⟨o, e, k⟩ := h l m hp W
  cases o with
  | ex l1 m1 => exact ⟨.ex l1 m1, by simp only [xSeq, e, Option.bind_some], k⟩
  | ok r =>
    obtain ⟨c, l1, m1⟩ := r
    obtain ⟨u, a1, a2, a3⟩ := k
    cases u with
    | nx st' =>
      obtain ⟨rfl, W', f⟩ := a2
      obtain ⟨o2, e2, k2⟩ := a3 l1 m1 a1 W'
      refine ⟨o2, by simp only [xSeq, e, Option.bind_some, e2], ?_⟩
      cases o2 with
      | ok r => obtain ⟨u, b1, b2, b3⟩ := k2; exact ⟨u, b1, b2.after f, b3⟩
      | ex l2 m2 => obtain ⟨s1, b1, b2, b3, b4⟩ := k2; exact ⟨s1, b1, b2, f.trans b3, b4⟩
    | bk st' => obtain ⟨rfl, W', f⟩ := a2; exact ⟨.ok (.bk, l1, m1), by simp only [xSeq, e, Option.bind_some], .bk st', a1, ⟨rfl, W', f⟩, a3⟩
    | ct st' => obtain ⟨rfl, W', f⟩ := a2; exact ⟨.ok (.ct, l1, m1), by simp only [xSeq, e, Option.bind_some], .ct st', a1, ⟨rfl, W', f⟩, a3⟩
    | rt v => obtain ⟨z, rfl, q⟩ := a2; exact ⟨.ok (.rt z, l1, m1), by simp only [xSeq, e, Option.bind_some], .rt v, a1, ⟨z, rfl, q⟩, a3⟩
theorem wx_ret {e : REX} (h : WXE p e (fun v s1 => DatK v fun d => F (.rt (.dat d))) J st) : WX p (xRet e) F J st := fun l m hp W => by
  obtain ⟨o, e1, k⟩ := h l m hp W
  cases o with
  | ex l1 m1 => exact ⟨.ex l1 m1, by simp only [xRet, e1, Option.map_some], k⟩
  | ok r =>
    obtain ⟨s, m'⟩ := r
    obtain ⟨v, st', a1, a2, a3, a4, d, rfl, a5⟩ := k
    obtain rfl : s = .d d := a3
    exact ⟨.ok (.rt (.d d), l, m'), by simp only [xRet, e1, Option.map_some], .rt (.dat d), a1, ⟨.d d, rfl, rfl, a4.len, fun _ _ e => (by cases e), a4.keep⟩, a5⟩
/-- how a raising def ends -/
def ResK (o : Option PyData) (A : PyData → Prop) (B : Prop) : Prop := match o with
  | some r => A r
  | none => B
theorem resk_some {r : PyData} {A : PyData → Prop} {B : Prop} (h : A r) : ResK (some r) A B := h
theorem resk_none {A : PyData → Prop} {B : Prop} (h : B) : ResK none A B := h
def CallX (o : Option (Option PyData)) (k : Option PyData → Prop) : Prop := ∃ r, o = some r ∧ k r
theorem CallX.mk {o : Option (Option PyData)} {k : Option PyData → Prop} {r : Option PyData} (h : o = some r) (hk : k r) : CallX o k := ⟨r, h, hk⟩
variable {E : SA → List SA → Prop}
theorem wxe_p {g : PX} {r : RA} (h : WA p r (fun vs s1 => GetV (dats vs) fun ds => CallX (g ds) fun o => ResK o (fun x => E (.dat x) s1) (J s1)) st) : WXE p (xP g r) E J st := fun l m hp W => by
  obtain ⟨ss, m', vs, st', h1, h2, h3, h4, h5, ds, e1, o, e2, k⟩ := h l m hp W
  have := dats_ok h4 e1; subst this
  cases o with
  | some x => exact ⟨.ok (.d x, m'), by simp only [xP, h1, Option.bind_some, allD_map, e2, Option.map_some], .dat x, st', h2, h3, rfl, h5, k⟩
  | none => exact ⟨.ex l m', by simp only [xP, h1, Option.bind_some, allD_map, e2, Option.map_some], st', h2, h3, h5, k⟩
theorem wxe_pk {g : PX} {is : List Nat} {as ks : List RE} (h : WA p (rA as) (fun vs s1 => WA p (rA ks) (fun ws s2 => GetV (dats vs) fun ds => GetV (dats ws) fun es => PickK is (ds ++ es) fun as => CallX (g as) fun o => ResK o (fun x => E (.dat x) s2) (J s2)) s1) st) : WXE p (xP g (rK is as ks)) E J st := fun l m hp W => by
  obtain ⟨ss, m', vs, st', h1, h2, h3, h4, h5, hb⟩ := h l m hp W
  obtain ⟨ss2, m2, vs2, st2, q1, q2, q3, q4, q5, ds, e1, es, e2, _, rfl, o, e3, k⟩ := hb l m' h2 h3
  have := dats_ok h4 e1; subst this
  have := dats_ok q4 e2; subst this
  have go : (rK is as ks) l m = some ((pick is (ds ++ es)).map S.d, m2) := by
    simp only [rK, h1, q1, Option.bind_some, Option.map_some, ← List.map_append, pick_dats]
  cases o with
  | some x => exact ⟨.ok (.d x, m2), by simp only [xP, go, Option.bind_some, allD_map, e3, Option.map_some], .dat x, st2, q2, q3, rfl, h5.trans q5, k⟩
  | none => exact ⟨.ex l m2, by simp only [xP, go, Option.bind_some, allD_map, e3, Option.map_some], st2, q2, q3, h5.trans q5, k⟩
theorem wxe_if {t : RT} {a b : REX} (h : WT p t (fun c s1 => CondK c (WXE p a E J s1) (WXE p b E J s1)) st) : WXE p (xIfE t a b) E J st := fun l m hp W => by
  obtain ⟨c, m', st', h1, h2, h3, h5, hb⟩ := h l m hp W
  have go : ∀ {x : REX}, WXE p x E J st' → (∃ o, x l m' = some o ∧ match o with
      | .ok (s, m2) => ∃ v st2, Pre p m2 ∧ StOk p.K st2 l m2 ∧ VOk p.K l m2 st2 m.length v s ∧ Fr p.K st l m st2 l m2 ∧ E v st2
      | .ex l' m2 => ∃ st2, Pre p m2 ∧ StOk p.K st2 l' m2 ∧ Fr p.K st l m st2 l' m2 ∧ J st2) := fun {x} hx => by
    obtain ⟨o, e, k⟩ := hx l m' h2 h3
    refine ⟨o, e, ?_⟩
    cases o with
    | ok r => obtain ⟨v, s1, a1, a2, a3, a4, a5⟩ := k; exact ⟨v, s1, a1, a2, a3.low h5.len, h5.trans a4, a5⟩
    | ex l1 m1 => obtain ⟨s1, a1, a2, a3, a4⟩ := k; exact ⟨s1, a1, a2, h5.trans a3, a4⟩
  cases c with
  | true => obtain ⟨o, e, k⟩ := go (hb.1 rfl); exact ⟨o, by simp only [xIfE, h1, Option.bind_some, if_true, e], k⟩
  | false => obtain ⟨o, e, k⟩ := go (hb.2 rfl); exact ⟨o, by simp only [xIfE, h1, Option.bind_some, Bool.false_eq_true, if_false, e], k⟩
theorem wxe_two {g : List PyData → PyData} {a : RE} {b : REX} (h : WE p a (fun v s1 => DatK v fun d => WXE p b (fun w s2 => DatK w fun e => E (.dat (g [d, e])) s2) J s1) st) : WXE p (xTwo g a b) E J st := fun l m hp W => by
  obtain ⟨s, m', v, st', h1, h2, h3, h4, h5, d, rfl, hb⟩ := h l m hp W
  obtain rfl : s = .d d := h4
  obtain ⟨o, e, k⟩ := hb l m' h2 h3
  cases o with
  | ex l1 m1 => obtain ⟨s1, a1, a2, a3, a4⟩ := k; exact ⟨.ex l1 m1, by simp only [xTwo, h1, Option.bind_some, e], s1, a1, a2, h5.trans a3, a4⟩
  | ok r =>
    obtain ⟨s2, m2⟩ := r
    obtain ⟨w, st2, a1, a2, a3, a4, d2, rfl, a5⟩ := k
    obtain rfl : s2 = .d d2 := a3
    exact ⟨.ok (.d (g [d, d2]), m2), by simp [xTwo, h1, e, allD], .dat _, st2, a1, a2, rfl, h5.trans a4, a5⟩
theorem ws_try {b : RX} {s : RS} (h : WX p b F (fun s1 => WS p s F s1) st) : WS p (sTry b s) F st := fun l m hp W => by
  obtain ⟨o, e, k⟩ := h l m hp W
  cases o with
  | ok r =>
    obtain ⟨c, l1, m1⟩ := r
    obtain ⟨u, a1, a2, a3⟩ := k
    exact ⟨c, l1, m1, u, by simp only [sTry, e, Option.bind_some], a1, a2, a3⟩
  | ex l1 m1 =>
    obtain ⟨s1, a1, a2, a3, a4⟩ := k
    obtain ⟨c, l2, m2, u, b1, b2, b3, b4⟩ := a4 l1 m1 a1 a2
    exact ⟨c, l2, m2, u, by simp only [sTry, e, Option.bind_some, b1], b2, b3.after a3, b4⟩
/-- a raising def -/
def RtX (o : Option PyData) : Out → Prop
  | .rt v => ∃ r, o = some r ∧ valOf v = some r
  | .nx _ => o = some .none
  | _ => False
theorem rtx {v : SA} {r : PyData} (h : valOf v = some r) : RtX (some r) (.rt v) := ⟨r, rfl, h⟩
theorem runX_w {n : Nat} {b : RX} {ds : List PyData} {o : Option PyData} (h : WX P0 b (RtX o) (fun _ => o = none) (st0 n (ds.map SA.dat))) : runX n b ds = some o := by
  have W := (lo0_ok (K := 0) (m := []) (n := n) (toSs_dat ds) (fun k hk => by simp at hk)).1
  obtain ⟨u, h1, h2⟩ := h _ [] ⟨Nat.zero_le _, trivial⟩ W
  simp only [runX, h1, Option.bind_some]
  cases u with
  | ex l1 m1 => obtain ⟨_, _, _, _, e⟩ := h2; rw [e]
  | ok r =>
    obtain ⟨c, l', m'⟩ := r
    obtain ⟨u, a1, a2, a3⟩ := h2
    cases u with
    | nx st' => obtain ⟨rfl, _⟩ := a2; rw [show o = some .none from a3]
    | bk st' => exact a3.elim
    | ct st' => exact a3.elim
    | rt v =>
      obtain ⟨s, rfl, q, _⟩ := a2
      obtain ⟨r, rfl, e⟩ := a3
      simp only [rt_deref q e, Option.map_some]
theorem joinX_of {g : PX} {ds : List PyData} {r : PyData} (h : g ds = some (some r)) : joinX g ds = some r := by
  simp only [joinX, h, Option.bind_some, id]
end
end Fz

set_option linter.all false
set_option autoImplicit false
set_option maxRecDepth 100000
/-! FzVe: except .. as, by value. -/
namespace Fz
open PySem PyProof.Rows
section
variable {p : Pf} {st : List SA} {F : Out → Prop} {K : Nat} {l : Lo} {m : Mem} {i : Nat}
theorem own_set {q : Nat} (h : Own (st.set i .any) (l.set i none) q) : Own st l q := by
  obtain ⟨j, xs, h1, h2⟩ := h
  by_cases e : i = j
  · subst e
    rw [List.getElem?_set] at h1
    simp only [if_true] at h1
    split at h1 <;> cases h1
  · rw [List.getElem?_set_ne e] at h1 h2
    exact ⟨j, xs, h1, h2⟩
theorem stok_set (h : StOk K st l m) : StOk K (st.set i .any) (l.set i none) m := by
  have low : ∀ (j : Nat) (xs : OV), (st.set i .any)[j]? = some (.ow xs) → i ≠ j ∧ st[j]? = some (.ow xs) := fun j xs q => by
    by_cases e : i = j
    · subst e
      rw [List.getElem?_set] at q
      simp only [if_true] at q
      split at q <;> cases q
    · rw [List.getElem?_set_ne e] at q
      exact ⟨e, q⟩
  refine ⟨by rw [List.length_set, List.length_set]; exact h.len, fun j a q => ?_, fun j k xs ys q h1 h2 h3 h4 => ?_⟩
  · by_cases e : i = j
    · subst e
      rw [List.getElem?_set] at q
      simp only [if_true] at q
      split at q <;> cases q
      trivial
    · rw [List.getElem?_set_ne e] at q ⊢
      exact h.sl j a q
  · obtain ⟨e1, q1⟩ := low j xs h1
    obtain ⟨e2, q2⟩ := low k ys h2
    rw [List.getElem?_set_ne e1] at h3
    rw [List.getElem?_set_ne e2] at h4
    exact h.inj j k xs ys q q1 q2 h3 h4
theorem fr_set : Fr K st l m (st.set i .any) (l.set i none) m := ⟨Nat.le_refl _, fun _ _ _ h _ => h, fun _ h => .inl (own_set h)⟩
/-- the slots, slot i forgotten -/
def InS (i : Nat) (st : List SA) (P : List SA → Prop) : Prop := i < st.length ∧ P (st.set i .any)
theorem inS_mk {s2 : List SA} {P : List SA → Prop} (hl : i < st.length) (e : st.set i .any = s2) (h : P s2) : InS i st P := ⟨hl, by rw [e]; exact h⟩
def RtOnly (F : Out → Prop) : Out → Prop
  | .rt v => F (.rt v)
  | _ => False
theorem rtonly {v : SA} (h : F (.rt v)) : RtOnly F (.rt v) := h
theorem ws_tryAs {b : RX} {s : RS} (h : WX p b F (fun s1 => InS i s1 fun s2 => WS p s (RtOnly F) s2) st) : WS p (sTryAs i b s) F st := fun l m hp W => by
  obtain ⟨o, e, k⟩ := h l m hp W
  cases o with
  | ok r =>
    obtain ⟨c, l1, m1⟩ := r
    obtain ⟨u, a1, a2, a3⟩ := k
    exact ⟨c, l1, m1, u, by simp only [sTryAs, e, Option.bind_some], a1, a2, a3⟩
  | ex l1 m1 =>
    obtain ⟨s1, a1, a2, a3, hl, a4⟩ := k
    obtain ⟨c, l2, m2, u, b1, b2, b3, b4⟩ := a4 (l1.set i none) m1 a1 (stok_set a2)
    cases u with
    | rt v => exact ⟨c, l2.set i none, m2, .rt v, by simp only [sTryAs, e, Option.bind_some, if_pos (show i < l1.length by rw [a2.len]; exact hl), b1, Option.map_some], b2, OutOk.after (l1 := l1.set i none) (l' := l2.set i none) (o := .rt v) (a3.trans fr_set) b3, b4⟩
    | nx st' => exact b4.elim
    | bk st' => exact b4.elim
    | ct st' => exact b4.elim
variable {E : SA → List SA → Prop} {J : List SA → Prop}
theorem wxe_lst2 {a : RE} {b : REX} (h : WE p a (fun v s1 => DatK v fun d => WXE p b (fun w s2 => DatK w fun e => E (.dat (.list [d, e])) s2) J s1) st) : WXE p (xLst2 a b) E J st := wxe_two h
theorem wxe_tup2 {a : RE} {b : REX} (h : WE p a (fun v s1 => DatK v fun d => WXE p b (fun w s2 => DatK w fun e => E (.dat (.tuple [d, e])) s2) J s1) st) : WXE p (xTup2 a b) E J st := wxe_two h
end
end Fz

set_option linter.all false
set_option autoImplicit false
set_option maxRecDepth 100000
/-! FzK: readings whose draws stop at a bound: what a piece adds to the count, and that it is the true reading below the bound. -/
namespace Fz
open PySem
open L2 (ixN atI)
/-- the count of draws: what stands at "turn" in the second object -/
def tnM (m : Mem) : Int := match (m[1]? : Option MO) with
  | some (.dct kvs) => match getK (.str "turn") kvs with
    | some (.d (.int i)) => i
    | _ => 0
  | _ => 0
def BB : Int := 2 ^ 3000
structure Step (g : Nat) (m m' : Mem) : Prop where
  len : m.length ≤ m'.length
  lo : tnM m ≤ tnM m'
  hi : tnM m' ≤ tnM m + g
theorem Step.refl {m : Mem} : Step 0 m m := ⟨Nat.le_refl _, Int.le_refl _, by omega⟩
theorem Step.trans {g h : Nat} {m m1 m2 : Mem} (a : Step g m m1) (b : Step h m1 m2) : Step (g + h) m m2 := ⟨Nat.le_trans a.len b.len, Int.le_trans a.lo b.lo, by have := a.hi; have := b.hi; omega⟩
theorem Step.mono {g h : Nat} {m m1 : Mem} (a : Step g m m1) (q : g ≤ h) : Step h m m1 := ⟨a.len, a.lo, by have := a.hi; omega⟩
def Rl {β : Type} (μ : β → Mem) (g : Nat) (m : Mem) (o o' : Option β) : Prop := ∀ r, o' = some r → Step g m (μ r) ∧ (tnM (μ r) < BB → o = some r)
section
variable {α β γ : Type} {μ : β → Mem} {ν : γ → Mem} {g h : Nat} {m : Mem}
theorem Rl.mono {o o' : Option β} (a : Rl μ g m o o') (q : g ≤ h) : Rl μ h m o o' := fun r e => ⟨(a r e).1.mono q, (a r e).2⟩
theorem Rl.bind {o o' : Option β} {k k' : β → Option γ} (a : Rl μ g m o o') (hm : 2 ≤ m.length) (b : ∀ r, 2 ≤ (μ r).length → o' = some r → Rl ν h (μ r) (k r) (k' r)) : Rl ν (g + h) m (o.bind k) (o'.bind k') := fun r e => by
  obtain ⟨p, e1, e2⟩ := Option.bind_eq_some_iff.mp e
  obtain ⟨s1, c1⟩ := a p e1
  obtain ⟨s2, c2⟩ := b p (Nat.le_trans hm s1.len) e1 r e2
  refine ⟨s1.trans s2, fun hb => ?_⟩
  rw [c1 (by have := s2.lo; omega)]
  exact c2 hb
theorem Rl.map {o o' : Option β} {f : β → γ} (a : Rl μ g m o o') (b : ∀ r, ν (f r) = μ r) : Rl ν g m (o.map f) (o'.map f) := fun r e => by
  obtain ⟨p, e1, rfl⟩ := Option.map_eq_some_iff.mp e
  obtain ⟨s1, c1⟩ := a p e1
  rw [b]
  exact ⟨s1, fun hb => by rw [c1 hb]; rfl⟩
/-- mapped, the memory changed, the count not -/
theorem Rl.mapS {o o' : Option β} {f : β → γ} (a : Rl μ g m o o') (hm : 2 ≤ m.length) (b : ∀ r, 2 ≤ (μ r).length → Step 0 (μ r) (ν (f r))) : Rl ν g m (o.map f) (o'.map f) := fun r e => by
  obtain ⟨p, e1, rfl⟩ := Option.map_eq_some_iff.mp e
  obtain ⟨s1, c1⟩ := a p e1
  have s2 := b p (Nat.le_trans hm s1.len)
  exact ⟨s1.trans s2, fun hb => by rw [c1 (by have := s2.lo; omega)]; rfl⟩
/-- of what does not look at the memory -/
theorem Rl.bo {x : Option α} {k k' : α → Option γ} (b : ∀ r, Rl ν g m (k r) (k' r)) : Rl ν g m (x.bind k) (x.bind k') := fun r e => by
  obtain ⟨p, e1, e2⟩ := Option.bind_eq_some_iff.mp e
  obtain ⟨s2, c2⟩ := b p r e2
  exact ⟨s2, fun hb => by rw [e1]; exact c2 hb⟩
theorem Rl.mo {x : Option α} {f : α → γ} (b : ∀ r, ν (f r) = m) : Rl ν 0 m (x.map f) (x.map f) := fun r e => by
  obtain ⟨p, e1, rfl⟩ := Option.map_eq_some_iff.mp e
  rw [b]
  exact ⟨.refl, fun _ => e⟩
theorem Rl.moS {x : Option α} {f : α → γ} (b : ∀ r, Step 0 m (ν (f r))) : Rl ν 0 m (x.map f) (x.map f) := fun r e => by
  obtain ⟨p, e1, rfl⟩ := Option.map_eq_some_iff.mp e
  exact ⟨b p, fun _ => e⟩
theorem Rl.so {r : γ} (b : ν r = m) : Rl ν 0 m (some r) (some r) := fun r' e => by
  cases e
  rw [b]
  exact ⟨.refl, fun _ => rfl⟩
theorem Rl.soS {r : γ} (b : Step 0 m (ν r)) : Rl ν 0 m (some r) (some r) := fun r' e => by
  cases e
  exact ⟨b, fun _ => rfl⟩
theorem Rl.no {o : Option γ} : Rl ν g m o none := fun r e => by cases e
theorem Rl.ite {c : Prop} [Decidable c] {a a' b b' : Option γ} (h1 : Rl ν g m a a') (h2 : Rl ν g m b b') : Rl ν g m (if c then a else b) (if c then a' else b') := by
  split
  · exact h1
  · exact h2
/-- the same on both sides, by what it does -/
theorem Rl.same {o : Option γ} (b : ∀ r, o = some r → Step g m (ν r)) : Rl ν g m o o := fun r e => ⟨b r e, fun _ => e⟩
end
theorem Rl.up {β : Type} {μ : β → Mem} {g : Nat} {m : Mem} {o o' : Option β} (a : Rl μ 0 m o o') : Rl μ g m o o' := a.mono (Nat.zero_le _)
abbrev mS : S × Mem → Mem := Prod.snd
def SE (g : Nat) (e e' : RE) : Prop := ∀ l m, 2 ≤ m.length → Rl (Prod.snd : S × Mem → Mem) g m (e l m) (e' l m)
def ST (g : Nat) (e e' : RT) : Prop := ∀ l m, 2 ≤ m.length → Rl (Prod.snd : Bool × Mem → Mem) g m (e l m) (e' l m)
def SAs (g : Nat) (e e' : RA) : Prop := ∀ l m, 2 ≤ m.length → Rl (Prod.snd : List S × Mem → Mem) g m (e l m) (e' l m)
def SO (g : Nat) (e e' : RO) : Prop := ∀ l m, 2 ≤ m.length → Rl (Prod.snd : Option Int × Mem → Mem) g m (e l m) (e' l m)
def SS (g : Nat) (s s' : RS) : Prop := ∀ l m, 2 ≤ m.length → Rl (fun p : Ct × Lo × Mem => p.2.2) g m (s l m) (s' l m)
def SF (g : Nat) (f f' : IF) : Prop := ∀ ss m, 2 ≤ m.length → Rl (Prod.snd : S × Mem → Mem) g m (f ss m) (f' ss m)
/-! ### the memory -/
theorem tn_app {m : Mem} (hm : 2 ≤ m.length) (x : Mem) : tnM (m ++ x) = tnM m := by
  unfold tnM
  rw [List.getElem?_append_left (by omega)]
theorem step_app {m : Mem} (hm : 2 ≤ m.length) (x : Mem) : Step 0 m (m ++ x) := ⟨by rw [List.length_append]; omega, by rw [tn_app hm]; exact Int.le_refl _, by rw [tn_app hm]; omega⟩
def isDct : MO → Bool
  | .dct _ => true
  | _ => false
theorem step_set {m : Mem} {n : Nat} {o o' : MO} (h : m[n]? = some o) (h1 : isDct o = false) (h2 : isDct o' = false) : Step 0 m (m.set n o') := by
  have e : tnM (m.set n o') = tnM m := by
    unfold tnM
    rw [List.getElem?_set]
    by_cases q : n = 1
    · subst q
      have hl := lt_of_at h
      rw [if_pos rfl, if_pos hl, h]
      cases o <;> cases o' <;> first | rfl | (simp [isDct] at h1 h2)
    · rw [if_neg q]
  exact ⟨by rw [List.length_set]; exact Nat.le_refl _, by rw [e]; exact Int.le_refl _, by rw [e]; omega⟩
theorem getK_setK {k k' : PyData} {v : S} (hne : ∀ p : PyData, PyData.eqv p k' = true → PyData.eqv p k = false) (h2 : PyData.eqv k' k = false) (kvs : List (PyData × S)) : getK k (setK k' v kvs) = getK k kvs := by
  have go : ∀ kvs : List (PyData × S), getK k (kvs.map fun p => if PyData.eqv p.1 k' = true then (p.1, v) else p) = getK k kvs := by
    intro kvs
    induction kvs with
    | nil => rfl
    | cons p r ih =>
      obtain ⟨a, b⟩ := p
      simp only [List.map_cons]
      by_cases e : PyData.eqv a k' = true
      · rw [if_pos e]
        simp only [getK, hne a e, Bool.false_eq_true, if_false, ih]
      · rw [if_neg e]
        simp only [getK, ih]
  have go2 : ∀ kvs : List (PyData × S), getK k (kvs ++ [(k', v)]) = getK k kvs := by
    intro kvs
    induction kvs with
    | nil => simp only [List.nil_append, getK, h2, Bool.false_eq_true, if_false]
    | cons p r ih =>
      obtain ⟨a, b⟩ := p
      simp only [List.cons_append, getK, ih]
  unfold setK
  split
  · exact go kvs
  · exact go2 kvs
theorem eqv_turn {p : PyData} {y : Str} (hy : y ≠ "turn") (h : PyData.eqv p (.str y) = true) : PyData.eqv p (.str "turn") = false := by
  cases p <;> simp [PyData.eqv] at h ⊢
  rw [h]; exact hy
theorem eqv_turn2 {y : Str} (hy : y ≠ "turn") : PyData.eqv (.str y) (.str "turn") = false := by
  simp [PyData.eqv]; exact hy
theorem eqv_turnI {p : PyData} {i : Int} (h : PyData.eqv p (.int i) = true) : PyData.eqv p (.str "turn") = false := by
  cases p <;> simp [PyData.eqv] at h ⊢
/-- what is put at another key -/
theorem step_setD {m : Mem} {n : Nat} {kvs kvs' : List (PyData × S)} (h : m[n]? = some (.dct kvs)) (e : getK (.str "turn") kvs' = getK (.str "turn") kvs) : Step 0 m (m.set n (.dct kvs')) := by
  have e : tnM (m.set n (.dct kvs')) = tnM m := by
    unfold tnM
    rw [List.getElem?_set]
    by_cases q : n = 1
    · subst q
      have hl := lt_of_at h
      rw [if_pos rfl, if_pos hl, h]
      simp only [e]
    · rw [if_neg q]
  exact ⟨by rw [List.length_set]; exact Nat.le_refl _, by rw [e]; exact Int.le_refl _, by rw [e]; omega⟩
/-! ### expressions -/
section
variable {g h k : Nat} {a a' b b' c c' : RE} {t t' u u' : RT} {r r' q q' : RA}
theorem sm_c {x : PyData} : SE 0 (eC x) (eC x) := fun l m hm => .so rfl
theorem sm_v {i : Nat} : SE 0 (eV i) (eV i) := fun l m hm => by
  unfold eV
  split
  · exact .so rfl
  · exact .no
theorem sm_un {f : PyData → Option PyData} (ha : SE g a a') : SE (g + 0) (eUn f a) (eUn f a') := fun l m hm => (ha l m hm).bind hm fun p hp _ => .bo fun d => .mo fun r => rfl
theorem sm_op {f : PyData → PyData → Option PyData} (ha : SE g a a') (hb : SE h b b') : SE (g + (h + 0)) (eOp f a b) (eOp f a' b') := fun l m hm => (ha l m hm).bind hm fun p hp _ => (hb l _ hp).bind hp fun q hq _ => .bo fun d => .bo fun e => .mo fun r => rfl
theorem sm_ix (ha : SE g a a') (hb : SE h b b') : SE (g + (h + 0)) (eIx a b) (eIx a' b') := fun l m hm => (ha l m hm).bind hm fun p hp _ => (hb l _ hp).bind hp fun q hq _ => .bo fun d => .mo fun r => rfl
theorem sm_oN : SO 0 oN oN := fun l m hm => .so rfl
theorem sm_oI (ha : SE g a a') : SO (g + 0) (oI a) (oI a') := fun l m hm => (ha l m hm).bind hm fun p hp _ => by
  split
  · exact .so rfl
  · exact .no
theorem sm_sl {lo lo' hi hi' : RO} (ha : SE g a a') (hl : SO h lo lo') (hh : SO k hi hi') : SE (g + (h + (k + 0))) (eSl a lo hi) (eSl a' lo' hi') := fun l m hm => (ha l m hm).bind hm fun p hp _ => (hl l _ hp).bind hp fun q hq _ => (hh l _ hq).bind hq fun u hu _ => .bo fun d => .mo fun r => rfl
theorem sm_if (ht : ST g t t') (ha : SE h a a') (hb : SE k b b') : SE (g + (h + k)) (eIf t a b) (eIf t' a' b') := fun l m hm => (ht l m hm).bind hm fun p hp _ => .ite ((ha l _ hp).mono (by omega)) ((hb l _ hp).mono (by omega))
theorem sm_and (ha : SE g a a') (hb : SE h b b') : SE (g + h) (eAnd a b) (eAnd a' b') := fun l m hm => (ha l m hm).bind hm fun p hp _ => by
  split
  · exact .ite (hb l _ hp) (Rl.up (.so rfl))
  · exact .no
theorem sm_or (ha : SE g a a') (hb : SE h b b') : SE (g + h) (eOr a b) (eOr a' b') := fun l m hm => (ha l m hm).bind hm fun p hp _ => by
  split
  · exact .ite (Rl.up (.so rfl)) (hb l _ hp)
  · exact .no
theorem sm_not (ht : ST g t t') : SE g (eNot t) (eNot t') := fun l m hm => (ht l m hm).map fun r => rfl
theorem sm_chain {f f' : PyData → PyData → Option PyData} (ha : SE g a a') (hb : SE h b b') (hc : SE k c c') : SE (g + (h + (k + 0))) (eChain f f' a b c) (eChain f f' a' b' c') := fun l m hm => (ha l m hm).bind hm fun p hp _ => (hb l _ hp).bind hp fun q hq _ => .bo fun d => .bo fun e => .bo fun r => by
  split
  · exact (hc l _ hq).bind hq fun u hu _ => .bo fun d => .bo fun e => .mo fun r => rfl
  · exact Rl.up (.so rfl)
  · exact .no
theorem sm_tB (ha : SE g a a') : ST (g + 0) (tB a) (tB a') := fun l m hm => (ha l m hm).bind hm fun p hp _ => by
  split
  · exact .so rfl
  · exact .no
theorem sm_tV (ha : SE g a a') : ST (g + 0) (tV a) (tV a') := fun l m hm => (ha l m hm).bind hm fun p hp _ => .bo fun d => .mo fun r => rfl
theorem sm_tAnd (ht : ST g t t') (hu : ST h u u') : ST (g + h) (tAnd t u) (tAnd t' u') := fun l m hm => (ht l m hm).bind hm fun p hp _ => .ite (hu l _ hp) (Rl.up (.so rfl))
theorem sm_tOr (ht : ST g t t') (hu : ST h u u') : ST (g + h) (tOr t u) (tOr t' u') := fun l m hm => (ht l m hm).bind hm fun p hp _ => .ite (Rl.up (.so rfl)) (hu l _ hp)
theorem sm_tNot (ht : ST g t t') : ST g (tNot t) (tNot t') := fun l m hm => (ht l m hm).map fun r => rfl
theorem sm_yes : ST 0 tYes tYes := fun l m hm => .so rfl
/-! ### displays, calls -/
theorem sm_nil : SAs 0 (rA []) (rA []) := fun l m hm => .so rfl
theorem sm_cons {as as' : List RE} (ha : SE g a a') (hr : SAs h (rA as) (rA as')) : SAs (g + h) (rA (a :: as)) (rA (a' :: as')) := fun l m hm => (ha l m hm).bind hm fun p hp _ => (hr l _ hp).map fun r => rfl
theorem sm_tup {as as' : List RE} (hr : SAs g (rA as) (rA as')) : SE (g + 0) (eTup as) (eTup as') := fun l m hm => (hr l m hm).bind hm fun p hp _ => .mo fun r => rfl
theorem sm_lst {as as' : List RE} (hr : SAs g (rA as) (rA as')) : SE (g + 0) (eLst as) (eLst as') := fun l m hm => (hr l m hm).bind hm fun p hp _ => .mo fun r => rfl
theorem sm_lstM {as as' : List RE} (hr : SAs g (rA as) (rA as')) : SE g (eLstM as) (eLstM as') := fun l m hm => (hr l m hm).mapS hm fun p hp => step_app hp _
theorem sm_b {f : PF} {as as' : List RE} (hr : SAs g (rA as) (rA as')) : SE (g + 0) (eB f as) (eB f as') := fun l m hm => (hr l m hm).bind hm fun p hp _ => .bo fun d => .mo fun r => rfl
theorem sm_rK {is : List Nat} {as as' ks ks' : List RE} (hr : SAs g (rA as) (rA as')) (hk : SAs h (rA ks) (rA ks')) : SAs (g + h) (rK is as ks) (rK is as' ks') := fun l m hm => (hr l m hm).bind hm fun p hp _ => (hk l _ hp).map fun r => rfl
theorem sm_p {f : PF} (hr : SAs g r r') : SE (g + 0) (eP f r) (eP f r') := fun l m hm => (hr l m hm).bind hm fun p hp _ => .bo fun d => .mo fun r => rfl
theorem sm_i {f f' : IF} (hr : SAs g r r') (hf : SF h f f') : SE (g + h) (eI f r) (eI f' r') := fun l m hm => (hr l m hm).bind hm fun p hp _ => hf p.1 p.2 hp
theorem sm_z (ha : SE g a a') : SE (g + 0) (eZ a) (eZ a') := fun l m hm => (ha l m hm).bind hm fun p hp _ => by
  split
  · exact .so rfl
  · split
    · rename_i e
      exact .moS fun ds => step_set e rfl rfl
    · exact .so rfl
    · exact .no
theorem sm_dct {ks : List Str} {as as' : List RE} (hr : SAs g (rA as) (rA as')) : SE g (eDct ks as) (eDct ks as') := fun l m hm => (hr l m hm).mapS hm fun p hp => step_app hp _
theorem sm_dnT : SE 0 eDnT eDnT := fun l m hm => .soS (step_app hm _)
theorem sm_dn0 : SE 0 eDn0 eDn0 := fun l m hm => .soS (step_app hm _)
theorem sm_inT {z : Bool} (ha : SE g a a') (hb : SE h b b') : SE (g + (h + 0)) (eInT z a b) (eInT z a' b') := fun l m hm => (ha l m hm).bind hm fun p hp _ => (hb l _ hp).bind hp fun q hq _ => .bo fun d => .mo fun r => rfl
theorem sm_mulM (ha : SE g a a') (hb : SE h b b') : SE (g + (h + 0)) (eMulM a b) (eMulM a' b') := fun l m hm => (ha l m hm).bind hm fun p hp _ => (hb l _ hp).bind hp fun q hq _ => .bo fun d => .bo fun e => .bo fun r => by
  split
  · exact .soS (step_app hq _)
  · exact .no
theorem sm_addM (ha : SE g a a') (hb : SE h b b') : SE (g + (h + 0)) (eAddM a b) (eAddM a' b') := fun l m hm => (ha l m hm).bind hm fun p hp _ => (hb l _ hp).bind hp fun q hq _ => .bo fun d => .bo fun e => by
  split
  · exact .ite (.soS (step_app hq _)) .no
  · exact .no
theorem sm_listM (ha : SE g a a') : SE (g + 0) (eListM a) (eListM a') := fun l m hm => (ha l m hm).bind hm fun p hp _ => .bo fun d => .moS fun r => step_app hp _
theorem sm_rg {z : Bool} (ha : SE g a a') : SE (g + 0) (eRg z a) (eRg z a') := fun l m hm => (ha l m hm).bind hm fun p hp _ => by
  split
  · exact .ite (.so rfl) .no
  · exact .no
theorem sm_rgM (ha : SE g a a') : SE (g + 0) (eRgM a) (eRgM a') := fun l m hm => (ha l m hm).bind hm fun p hp _ => by
  split
  · exact .ite (.soS (step_app hp _)) .no
  · exact .no
theorem sm_rg2 (ha : SE g a a') (hb : SE h b b') : SE (g + (h + 0)) (eRg2 a b) (eRg2 a' b') := fun l m hm => (ha l m hm).bind hm fun p hp _ => (hb l _ hp).bind hp fun q hq _ => by
  split
  · exact .ite (.so rfl) .no
  · exact .no
/-! ### what is walked -/
theorem sm_iD (ha : SE g a a') : SAs (g + 0 + 0) (iD a) (iD a') := fun l m hm => (sm_z ha l m hm).bind hm fun p hp _ => by
  split
  · exact .mo fun r => rfl
  · exact .no
theorem sm_range (ha : SE g a a') : SAs (g + 0) (iRange a) (iRange a') := fun l m hm => (ha l m hm).bind hm fun p hp _ => by
  split
  · exact .ite (.so rfl) .no
  · exact .no
theorem sm_range2 (ha : SE g a a') (hb : SE h b b') : SAs (g + (h + 0)) (iRange2 a b) (iRange2 a' b') := fun l m hm => (ha l m hm).bind hm fun p hp _ => (hb l _ hp).bind hp fun q hq _ => by
  split
  · exact .ite (.so rfl) .no
  · exact .no
theorem sm_range3 (ha : SE g a a') (hb : SE h b b') (hc : SE k c c') : SAs (g + (h + (k + 0))) (iRange3 a b c) (iRange3 a' b' c') := fun l m hm => (ha l m hm).bind hm fun p hp _ => (hb l _ hp).bind hp fun q hq _ => (hc l _ hq).bind hq fun u hu _ => by
  split
  · exact .ite (.so rfl) .no
  · exact .no
theorem sm_zip (ha : SE g a a') (hb : SE h b b') : SAs (g + 0 + (h + 0 + 0)) (iZip a b) (iZip a' b') := fun l m hm => (sm_z ha l m hm).bind hm fun p hp _ => (sm_z hb l _ hp).bind hp fun q hq _ => by
  split
  · exact .bo fun d => .mo fun r => rfl
  · exact .no
theorem sm_zip3 (ha : SE g a a') (hb : SE h b b') (hc : SE k c c') : SAs (g + 0 + (h + 0 + (k + 0 + 0))) (iZip3 a b c) (iZip3 a' b' c') := fun l m hm => (sm_z ha l m hm).bind hm fun p hp _ => (sm_z hb l _ hp).bind hp fun q hq _ => (sm_z hc l _ hq).bind hq fun u hu _ => by
  split
  · exact .bo fun d => .bo fun d => .mo fun r => rfl
  · exact .no
theorem sm_enum (ha : SE g a a') : SAs (g + 0 + 0) (iEnum a) (iEnum a') := fun l m hm => (sm_z ha l m hm).bind hm fun p hp _ => by
  split
  · exact .mo fun r => rfl
  · exact .no
theorem sm_rev (ha : SE g a a') : SAs (g + 0 + 0) (iRev a) (iRev a') := fun l m hm => (sm_z ha l m hm).bind hm fun p hp _ => by
  split
  · exact .mo fun r => rfl
  · exact .no
theorem sm_li (hr : SAs g r r') : SE (g + 0) (eLi r) (eLi r') := fun l m hm => (hr l m hm).bind hm fun p hp _ => .mo fun r => rfl
/-- walked over few things -/
def iB (it : RI) : RI := fun l m => (it l m).bind fun p => if p.1.length ≤ 1048576 then some p else none
theorem iB_le {it : RI} {l : Lo} {m : Mem} {p : List S × Mem} (h : iB it l m = some p) : it l m = some p ∧ p.1.length ≤ 1048576 := by
  simp only [iB, Option.bind_eq_some_iff] at h
  obtain ⟨q, e1, e2⟩ := h
  split at e2
  · cases e2; exact ⟨e1, by assumption⟩
  · cases e2
theorem sm_iB (hr : SAs g r r') : SAs (g + 0) (iB r) (iB r') := fun l m hm => (hr l m hm).bind hm fun p hp _ => .ite (.so rfl) .no
theorem sm_lcGo {vs : List Nat} {tg : Tg} (ht : ST g t t') (he : SE h a a') : ∀ (xs : List S) (l : Lo) (m : Mem), 2 ≤ m.length → Rl (Prod.snd : List S × Mem → Mem) (xs.length * (g + h)) m (lcGo vs tg t a xs l m) (lcGo vs tg t' a' xs l m)
  | [], l, m, hm => Rl.up (.so rfl)
  | x :: xs, l, m, hm => by
    simp only [lcGo]
    refine .bo fun l1 => Rl.mono ((ht l1 m hm).bind hm fun p hp _ => .ite (Rl.mono ((he l1 _ hp).bind hp fun q hq _ => (sm_lcGo ht he xs l _ hq).map fun r => rfl) (Nat.le_refl (h + xs.length * (g + h)))) ((sm_lcGo ht he xs l _ hp).mono (by omega))) ?_
    rw [List.length_cons, Nat.succ_mul]; omega
theorem sm_lc {vs : List Nat} {it it' : RI} {tg : Tg} (hi : SAs g it it') (ht : ST 0 t t') (he : SE 0 a a') : SE (g + (0 + 0)) (eLc vs it tg t a) (eLc vs it' tg t' a') := fun l m hm => (hi l m hm).bind hm fun p hp _ => ((sm_lcGo ht he p.1 l p.2 hp).mono (by simp)).bind hp fun q hq _ => .mo fun r => rfl
theorem sm_lcM {vs : List Nat} {it it' : RI} {tg : Tg} (hi : SAs g it it') (ht : ST 0 t t') (he : SE 0 a a') : SE (g + 0) (eLcM vs it tg t a) (eLcM vs it' tg t' a') := fun l m hm => (hi l m hm).bind hm fun p hp _ => ((sm_lcGo ht he p.1 l p.2 hp).mono (by simp)).mapS hp fun q hq => step_app hq _
theorem sm_lcB {vs : List Nat} {it it' : RI} {tg : Tg} (hi : SAs g it it') (ht : ST h t t') (he : SE k a a') : SE (g + 0 + (1048576 * (h + k) + 0)) (eLc vs (iB it) tg t a) (eLc vs (iB it') tg t' a') := fun l m hm => (sm_iB hi l m hm).bind hm fun p hp e => ((sm_lcGo ht he p.1 l p.2 hp).mono (Nat.mul_le_mul_right _ (iB_le e).2)).bind hp fun q hq _ => .mo fun r => rfl
theorem sm_lcMB {vs : List Nat} {it it' : RI} {tg : Tg} (hi : SAs g it it') (ht : ST h t t') (he : SE k a a') : SE (g + 0 + 1048576 * (h + k)) (eLcM vs (iB it) tg t a) (eLcM vs (iB it') tg t' a') := fun l m hm => (sm_iB hi l m hm).bind hm fun p hp e => ((sm_lcGo ht he p.1 l p.2 hp).mono (Nat.mul_le_mul_right _ (iB_le e).2)).mapS hp fun q hq => step_app hq _
end
/-! ### statements -/
section
variable {g h k : Nat} {a a' b b' c c' : RE} {t t' : RT} {s s' u u' : RS}
theorem sm_skip : SS 0 sSkip sSkip := fun l m hm => .so rfl
theorem sm_brk : SS 0 sBrk sBrk := fun l m hm => .so rfl
theorem sm_cnt : SS 0 sCnt sCnt := fun l m hm => .so rfl
theorem sm_retN : SS 0 sRetN sRetN := fun l m hm => .so rfl
theorem sm_nev : SS 0 sNev sNev := fun l m hm => .no
theorem sm_seq (hs : SS g s s') (hu : SS h u u') : SS (g + h) (sSeq s u) (sSeq s' u') := fun l m hm => (hs l m hm).bind hm fun p hp _ => by
  split
  · exact hu _ _ hp
  · exact Rl.up (.so rfl)
theorem sm_asg {tg : Tg} (ha : SE g a a') : SS (g + 0) (sAsg tg a) (sAsg tg a') := fun l m hm => (ha l m hm).bind hm fun p hp _ => .mo fun r => rfl
theorem sm_par {is : List Nat} {as as' : List RE} (hr : SAs g (rA as) (rA as')) : SS g (sPar is as) (sPar is as') := fun l m hm => (hr l m hm).map fun r => rfl
theorem sm_drop (ha : SE g a a') : SS g (sDrop a) (sDrop a') := fun l m hm => (ha l m hm).map fun r => rfl
theorem sm_ret (ha : SE g a a') : SS g (sRet a) (sRet a') := fun l m hm => (ha l m hm).map fun r => rfl
theorem sm_sif (ht : ST g t t') (hs : SS h s s') (hu : SS k u u') : SS (g + (h + k)) (sIf t s u) (sIf t' s' u') := fun l m hm => (ht l m hm).bind hm fun p hp _ => .ite ((hs l _ hp).mono (by omega)) ((hu l _ hp).mono (by omega))
theorem sm_forGo {tg : Tg} (hs : SS g s s') : ∀ (xs : List S) (l : Lo) (m : Mem), 2 ≤ m.length → Rl (fun p : Ct × Lo × Mem => p.2.2) (xs.length * g) m (forGo tg s xs l m) (forGo tg s' xs l m)
  | [], l, m, hm => Rl.up (.so rfl)
  | x :: xs, l, m, hm => by
    simp only [forGo]
    refine .bo fun l1 => Rl.mono (h := (x :: xs).length * g) ((hs l1 m hm).bind (h := xs.length * g) hm fun p hp _ => ?_) (by rw [List.length_cons, Nat.succ_mul]; omega)
    split
    · exact sm_forGo hs xs _ _ hp
    · exact sm_forGo hs xs _ _ hp
    · exact Rl.up (.so rfl)
    · exact Rl.up (.so rfl)
theorem sm_for {it it' : RI} {tg : Tg} (hi : SAs g it it') (hs : SS 0 s s') : SS (g + 0) (sFor it tg s) (sFor it' tg s') := fun l m hm => (hi l m hm).bind hm fun p hp _ => (sm_forGo hs p.1 l p.2 hp).mono (by simp)
theorem sm_forB {it it' : RI} {tg : Tg} (hi : SAs g it it') (hs : SS h s s') : SS (g + 0 + 1048576 * h) (sFor (iB it) tg s) (sFor (iB it') tg s') := fun l m hm => (sm_iB hi l m hm).bind hm fun p hp e => (sm_forGo hs p.1 l p.2 hp).mono (Nat.mul_le_mul_right _ (iB_le e).2)
theorem sm_whileGo (ht : ST g t t') (hs : SS h s s') : ∀ (n : Nat) (l : Lo) (m : Mem), 2 ≤ m.length → Rl (fun p : Ct × Lo × Mem => p.2.2) (n * (g + h)) m (whileGo t s n l m) (whileGo t' s' n l m)
  | 0, l, m, hm => .no
  | n + 1, l, m, hm => by
    simp only [whileGo]
    refine Rl.mono (h := (n + 1) * (g + h)) ((ht l m hm).bind (h := h + n * (g + h)) hm fun q hq _ => .ite ((hs l _ hq).bind (h := n * (g + h)) hq fun p hp _ => ?_) (Rl.up (.so rfl))) (by rw [Nat.succ_mul]; omega)
    split
    · exact sm_whileGo ht hs n _ _ hp
    · exact sm_whileGo ht hs n _ _ hp
    · exact Rl.up (.so rfl)
    · exact Rl.up (.so rfl)
theorem sm_while {n : Nat} (ht : ST g t t') (hs : SS h s s') : SS (n * (g + h)) (sWhile n t s) (sWhile n t' s') := fun l m hm => sm_whileGo ht hs n l m hm
/-! ### what changes an object -/
def isStr : PyData → Bool
  | .str _ => true
  | _ => false
/-- o[i] = v, i no text -/
def sPutN (o i e : RE) : RS := fun l m => (e l m).bind fun v => (o l v.2).bind fun p => (i l p.2).bind fun q => (deref q.2 q.1).bind fun k => if isStr k = true then none else (setS q.2 p.1 k v.1).map fun m' => (.nx, l, m')
theorem setS_step {m m' : Mem} {x v : S} {k : PyData} (hk : isStr k = false ∨ ∃ y, k = .str y ∧ y ≠ "turn") (e : setS m x k v = some m') : Step 0 m m' := by
  cases x with
  | d x => simp [setS] at e
  | r n =>
    simp only [setS] at e
    split at e
    · rename_i ss i h1
      obtain ⟨ss', _, rfl⟩ := Option.map_eq_some_iff.mp e
      exact step_set h1 rfl rfl
    · rename_i kvs y h1
      split at e
      · cases e
        refine step_setD h1 (getK_setK (fun p hp => ?_) ?_ kvs)
        · rcases hk with hk | ⟨z, hz, hne⟩
          · simp [isStr] at hk
          · cases hz; exact eqv_turn hne hp
        · rcases hk with hk | ⟨z, hz, hne⟩
          · simp [isStr] at hk
          · cases hz; exact eqv_turn2 hne
      · cases e
    · rename_i kvs y h1
      split at e
      · cases e
        exact step_setD h1 (getK_setK (fun p hp => eqv_turnI hp) rfl kvs)
      · cases e
    · rename_i kvs ds h1
      obtain ⟨key, _, e⟩ := Option.bind_eq_some_iff.mp e
      split at e
      · cases e; exact step_set h1 rfl rfl
      · cases e
    · cases e
theorem sm_putN (hc : SE g c c') (ha : SE h a a') (hb : SE k b b') : SS (g + (h + (k + 0))) (sPutN a b c) (sPutN a' b' c') := fun l m hm => (hc l m hm).bind hm fun v hv _ => (ha l _ hv).bind hv fun p hp _ => (hb l _ hp).bind hp fun q hq _ => .bo fun key => by
  by_cases hk : isStr key = true
  · rw [if_pos hk]; exact .no
  · rw [if_neg hk]
    exact .same fun r e => by
      obtain ⟨m', e1, rfl⟩ := Option.map_eq_some_iff.mp e
      exact setS_step (.inl (by simpa using hk)) e1
theorem sm_putK {y : Str} (hy : y ≠ "turn") (hc : SE g c c') (ha : SE h a a') : SS (g + (h + (0 + 0))) (sPut a (eC (.str y)) c) (sPut a' (eC (.str y)) c') := fun l m hm => (hc l m hm).bind hm fun v hv _ => (ha l _ hv).bind hv fun p hp _ => (sm_c l _ hp).bind hp fun q hq e => by
  cases e
  simp only [deref_d, Option.bind_some]
  exact .same fun r e => by
    obtain ⟨m', e1, rfl⟩ := Option.map_eq_some_iff.mp e
    exact setS_step (.inr ⟨y, rfl, hy⟩) e1
def Neu (f : Mem → S → List S → Option (S × Mem)) : Prop := ∀ m x ss r, f m x ss = some r → Step 0 m r.2
theorem sm_m {f : Mem → S → List S → Option (S × Mem)} {as as' : List RE} (hf : Neu f) (ha : SE g a a') (hr : SAs h (rA as) (rA as')) : SE (g + (h + 0)) (eM f a as) (eM f a' as') := fun l m hm => (ha l m hm).bind hm fun p hp _ => .ite ((hr l _ hp).bind hp fun q hq _ => .same fun r e => hf _ _ _ _ e) .no
theorem neu_append : Neu mAppend := fun m x ss r e => by
  unfold mAppend at e
  split at e
  · split at e
    · rename_i h1
      split at e
      · cases e; exact step_set h1 rfl rfl
      · cases e
    · cases e
  · cases e
theorem neu_extend : Neu mExtend := fun m x ss r e => by
  unfold mExtend at e
  split at e
  · split at e
    · rename_i h1 _
      split at e
      · cases e; exact step_set h1 rfl rfl
      · cases e
    · cases e
  · cases e
theorem neu_pop : Neu mPop := fun m x ss r e => by
  unfold mPop at e
  split at e
  · split at e
    · rename_i h1
      obtain ⟨_, _, rfl⟩ := Option.map_eq_some_iff.mp e
      exact step_set h1 rfl rfl
    · cases e
  · cases e
theorem neu_popAt : Neu mPopAt := fun m x ss r e => by
  unfold mPopAt at e
  split at e
  · split at e
    · rename_i h1
      split at e
      · obtain ⟨_, _, e⟩ := Option.bind_eq_some_iff.mp e
        obtain ⟨_, _, rfl⟩ := Option.map_eq_some_iff.mp e
        exact step_set h1 rfl rfl
      · cases e
    · cases e
  · cases e
theorem neu_insert : Neu mInsert := fun m x ss r e => by
  unfold mInsert at e
  split at e
  · split at e
    · rename_i h1
      split at e
      · cases e; exact step_set h1 rfl rfl
      · cases e
    · cases e
  · cases e
/-! ### defs -/
theorem sm_runI {n : Nat} (hs : SS g s s') : SF (g + 0) (runI n s) (runI n s') := fun ss m hm => (hs _ m hm).bind hm fun p hp _ => by
  split
  · exact .so rfl
  · exact .so rfl
  · exact .no
theorem getK_self {k : PyData} {v s0 : S} : ∀ {kvs : List (PyData × S)}, getK k kvs = some s0 → getK k (kvs.map fun p => if PyData.eqv p.1 k = true then (p.1, v) else p) = some v
  | [], h => by simp [getK] at h
  | (a, b) :: r, h => by
    simp only [List.map_cons]
    by_cases e : PyData.eqv a k = true
    · rw [if_pos e]; simp only [getK, e, if_true]
    · rw [if_neg e]
      simp only [getK, e, Bool.false_eq_true, if_false] at h ⊢
      exact getK_self h
theorem getK_any {k : PyData} {s0 : S} : ∀ {kvs : List (PyData × S)}, getK k kvs = some s0 → (kvs.any fun p => PyData.eqv p.1 k) = true
  | [], h => by simp [getK] at h
  | (a, b) :: r, h => by
    rw [List.any_cons]
    by_cases e : PyData.eqv a k = true
    · simp only [e, Bool.true_or]
    · simp only [getK, e, Bool.false_eq_true, if_false] at h
      simp only [getK_any h, Bool.or_true]
theorem put_turn {m m' : Mem} {n : Nat} {kvs : List (PyData × S)} {t : Int} (h : m[n]? = some (.dct kvs)) (e : getK (.str "turn") kvs = some (.d (.int t))) (h2 : setS m (.r n) (.str "turn") (.d (.int (t + 1))) = some m') : Step 1 m m' := by
  simp only [setS, h] at h2
  split at h2
  · cases h2
    have hg : getK (.str "turn") (setK (.str "turn") (.d (.int (t + 1))) kvs) = some (.d (.int (t + 1))) := by
      unfold setK
      rw [if_pos (getK_any e)]
      exact getK_self e
    have hl := lt_of_at h
    have hlen : m.length ≤ (m.set n (.dct (setK (.str "turn") (.d (.int (t + 1))) kvs))).length := by rw [List.length_set]; exact Nat.le_refl _
    by_cases q : n = 1
    · subst q
      have e1 : tnM m = t := by
        unfold tnM
        rw [h]
        simp only [e]
      have e2 : tnM (m.set 1 (.dct (setK (.str "turn") (.d (.int (t + 1))) kvs))) = t + 1 := by
        unfold tnM
        rw [List.getElem?_set, if_pos rfl, if_pos hl]
        simp only [hg]
      exact ⟨hlen, by rw [e1, e2]; omega, by rw [e1, e2]; omega⟩
    · have e2 : tnM (m.set n (.dct (setK (.str "turn") (.d (.int (t + 1))) kvs))) = tnM m := by
        unfold tnM
        rw [List.getElem?_set, if_neg q]
      exact ⟨hlen, by rw [e2]; exact Int.le_refl _, by rw [e2]; omega⟩
  · cases h2
/-- the count put up by one -/
theorem sm_turn {i : Nat} : SS 1 (sPut (eV i) (eC (.str "turn")) (eOp pAdd (eIx (eV i) (eC (.str "turn"))) (eC (.int 1)))) (sPut (eV i) (eC (.str "turn")) (eOp pAdd (eIx (eV i) (eC (.str "turn"))) (eC (.int 1)))) := fun l m hm => .same fun r e => by
  cases hl : l[i]? with
  | none => simp [sPut, eOp, eIx, eV, hl] at e
  | some o =>
    cases o with
    | none => simp [sPut, eOp, eIx, eV, hl] at e
    | some s =>
      simp only [sPut, eOp, eIx, eV, hl, eC, Option.bind_some, deref_d, Option.bind_eq_some_iff, Option.map_eq_some_iff] at e
      obtain ⟨v, ⟨q, ⟨s0, e1, rfl⟩, d, e2, z, e3, rfl⟩, m', e4, rfl⟩ := e
      cases s with
      | d x => cases x <;> simp [ixS, ixD] at e1
      | r n =>
        simp only at e1 e2 e4
        obtain ⟨kvs, hk, e1⟩ : ∃ kvs, m[n]? = some (.dct kvs) ∧ getK (.str "turn") kvs = some s0 := by
          simp only [ixS] at e1
          split at e1
          · rename_i hh; cases hh
          · rename_i hh; cases hh
          · rename_i kvs x hk hh; cases hh; exact ⟨kvs, hk, e1⟩
          · rename_i hh; cases hh
          · rename_i hh; cases hh
          · cases e1
        obtain ⟨t, rfl⟩ : ∃ t, d = .int t := by cases d <;> simp [pAdd] at e3; exact ⟨_, rfl⟩
        obtain rfl : s0 = .d (.int t) := by
          cases s0 with
          | d x => cases e2; rfl
          | r n' =>
            simp only [deref] at e2
            split at e2
            · obtain ⟨_, _, h⟩ := Option.map_eq_some_iff.mp e2; cases h
            · cases e2
            · cases e2
        cases e3
        exact put_turn hk e1 e4
/-- a draw that stops at the bound -/
def stopD (f : IF) : IF := fun ss m => if tnM m < BB then f ss m else some (.d (.int 0), m)
theorem sm_stop {f : IF} (hf : SF g f f) : SF g f (stopD f) := fun ss m hm r e => by
  unfold stopD at e
  split at e
  · exact hf ss m hm r e
  · rename_i hb
    cases e
    exact ⟨Step.refl.mono (Nat.zero_le _), fun h => absurd h hb⟩
end
end Fz

set_option linter.all false
set_option autoImplicit false
set_option maxRecDepth 100000
/-! FzL: the true readings beside those that stop: loops, items put, by value. -/
namespace Fz
open PySem
open L2 (ixN atI)
theorem SF.le {g h : Nat} {f f' : IF} (a : SF g f f') (q : g ≤ h) : SF h f f' := fun ss m hm => (a ss m hm).mono q
theorem SS.le {g h : Nat} {f f' : RS} (a : SS g f f') (q : g ≤ h) : SS h f f' := fun ss m hm => (a ss m hm).mono q
section
variable {g h k : Nat} {a a' b b' c c' : RE} {t t' u u' : RT} {r r' q q' : RA} {s s' : RS}
theorem sm_iBR (hr : SAs g r r') : SAs g r (iB r') := fun l m hm x e => by
  obtain ⟨e1, _⟩ := iB_le e
  exact hr l m hm x e1
theorem sm_forR {it it' : RI} {tg : Tg} (hi : SAs g it it') (hs : SS h s s') : SS (g + 1048576 * h) (sFor it tg s) (sFor (iB it') tg s') := fun l m hm => (sm_iBR hi l m hm).bind hm fun p hp e => (sm_forGo hs p.1 l p.2 hp).mono (Nat.mul_le_mul_right _ (iB_le e).2)
theorem sm_for0 {it it' : RI} {tg : Tg} (hi : SAs g it it') (hs : SS h s s') (e : h = 0) : SS (g + 0) (sFor it tg s) (sFor it' tg s') := sm_for hi (e ▸ hs)
theorem sm_lc0 {vs : List Nat} {it it' : RI} {tg : Tg} (hi : SAs g it it') (ht : ST h t t') (he : SE k a a') (e1 : h = 0) (e2 : k = 0) : SE (g + (0 + 0)) (eLc vs it tg t a) (eLc vs it' tg t' a') := sm_lc hi (e1 ▸ ht) (e2 ▸ he)
theorem sm_lcM0 {vs : List Nat} {it it' : RI} {tg : Tg} (hi : SAs g it it') (ht : ST h t t') (he : SE k a a') (e1 : h = 0) (e2 : k = 0) : SE (g + 0) (eLcM vs it tg t a) (eLcM vs it' tg t' a') := sm_lcM hi (e1 ▸ ht) (e2 ▸ he)
theorem sm_lcR {vs : List Nat} {it it' : RI} {tg : Tg} (hi : SAs g it it') (ht : ST h t t') (he : SE k a a') : SE (g + (1048576 * (h + k) + 0)) (eLc vs it tg t a) (eLc vs (iB it') tg t' a') := fun l m hm => (sm_iBR hi l m hm).bind hm fun p hp e => ((sm_lcGo ht he p.1 l p.2 hp).mono (Nat.mul_le_mul_right _ (iB_le e).2)).bind hp fun q hq _ => .mo fun r => rfl
theorem sm_lcMR {vs : List Nat} {it it' : RI} {tg : Tg} (hi : SAs g it it') (ht : ST h t t') (he : SE k a a') : SE (g + 1048576 * (h + k)) (eLcM vs it tg t a) (eLcM vs (iB it') tg t' a') := fun l m hm => (sm_iBR hi l m hm).bind hm fun p hp e => ((sm_lcGo ht he p.1 l p.2 hp).mono (Nat.mul_le_mul_right _ (iB_le e).2)).mapS hp fun q hq => step_app hq _
theorem putN_le {l : Lo} {m : Mem} {r : Ct × Lo × Mem} (e : sPutN a b c l m = some r) : sPut a b c l m = some r := by
  simp only [sPutN, Option.bind_eq_some_iff] at e
  obtain ⟨v, e1, p, e2, q, e3, k, e4, e5⟩ := e
  split at e5
  · cases e5
  · simp only [sPut, e1, e2, e3, e4, Option.bind_some]; exact e5
theorem sm_putR (hc : SE g c c') (ha : SE h a a') (hb : SE k b b') : SS (g + (h + (k + 0))) (sPut a b c) (sPutN a' b' c') := fun l m hm r e => by
  obtain ⟨s1, c1⟩ := sm_putN hc ha hb l m hm r e
  exact ⟨s1, fun hb => putN_le (c1 hb)⟩
theorem sm_mt {f : PyData → PyData → Option PyData} (ha : SE g a a') (hb : SE h b b') : SE (g + (h + 0)) (eMt f a b) (eMt f a' b') := fun l m hm => (ha l m hm).bind hm fun p hp _ => .bo fun d0 => .bo fun _ => (hb l _ hp).bind hp fun q hq _ => .bo fun d => .ite (.bo fun e => .mo fun r => rfl) .no
def STq (g : Nat) (ts ts' : List Tq) : Prop := ∀ ss l m, 2 ≤ m.length → Rl (Prod.snd : Lo × Mem → Mem) g m (runT ts ss l m) (runT ts' ss l m)
theorem sm_tq_nil : STq 0 [] [] := fun ss l m hm => by
  cases ss with
  | nil => exact .so rfl
  | cons s ss => exact .no
theorem sm_tq_nm {i : Nat} {ts ts' : List Tq} (ht : STq g ts ts') : STq g (.nm i :: ts) (.nm i :: ts') := fun ss l m hm => by
  cases ss with
  | nil => exact .no
  | cons s ss => exact ht ss _ m hm
theorem setL_step {m m' : Mem} {x v : S} {k : PyData} (e : setL m x k v = some m') : Step 0 m m' := by
  unfold setL at e
  split at e
  · split at e
    · rename_i h1
      obtain ⟨ss', _, rfl⟩ := Option.map_eq_some_iff.mp e
      exact step_set h1 rfl rfl
    · cases e
  · cases e
theorem Rl.bS {γ : Type} {ν : γ → Mem} {m : Mem} {o : Option Mem} {k k' : Mem → Option γ} (hm : 2 ≤ m.length) (e : ∀ m', o = some m' → Step 0 m m') (b : ∀ m', 2 ≤ m'.length → Rl ν g m' (k m') (k' m')) : Rl ν (0 + g) m (o.bind k) (o.bind k') :=
  Rl.bind (μ := fun m : Mem => m) (Rl.same fun r h => e r h) hm fun r hr _ => b r hr
theorem sm_tq_ix {ts ts' : List Tq} (ha : SE g a a') (hb : SE h b b') (ht : STq k ts ts') : STq (g + (h + (0 + k))) (.ix a b :: ts) (.ix a' b' :: ts') := fun ss l m hm => by
  cases ss with
  | nil => exact .no
  | cons s ss => exact (ha l m hm).bind hm fun p hp _ => (hb l _ hp).bind hp fun q hq _ => .bo fun d => Rl.bS hq (fun m' e => setL_step e) fun m' hm' => ht ss l m' hm'
theorem sm_parT {ts ts' : List Tq} {as as' : List RE} (hr : SAs g (rA as) (rA as')) (ht : STq h ts ts') : SS (g + h) (sParT ts as) (sParT ts' as') := fun l m hm => (hr l m hm).bind hm fun p hp _ => (ht _ _ _ hp).map fun r => rfl
theorem sm_aug {i : Nat} {f : PyData → PyData → Option PyData} (ha : SE g a a') : SS (0 + (g + 0) + 0) (sAug i f a) (sAug i f a') := sm_asg (sm_op sm_v ha)
end
/-! ### by value -/
section
variable {p : Pf} {st : List SA} {o i e : RE}
def LenK (xs : List PyData) (A : Prop) : Prop := xs.length ≤ 1048576 ∧ A
theorem lenk {xs : List PyData} {A : Prop} (h : xs.length ≤ 1048576) (a : A) : LenK xs A := ⟨h, a⟩
@[simp] theorem upto_len' (n : Nat) : (upto n).length = n := upto_len ..
@[simp] theorem fromTo_len (i : Int) (n : Nat) : (fromTo i n).length = n := by simp [fromTo]
theorem wi_B {it : RI} {It : List PyData → List SA → Prop} (h : WI p it (fun xs s => LenK xs (It xs s)) st) : WI p (iB it) It st := fun l m hp W => by
  obtain ⟨xs, m', st', h1, h2, h3, h4, h5, h6⟩ := h l m hp W
  refine ⟨xs, m', st', ?_, h2, h3, h4, h6⟩
  simp only [iB, h1, Option.bind_some, List.length_map, if_pos h5]
theorem ws_putN {F : Out → Prop} (h : WE p e (fun v s1 => DatK v fun d => WE p o (fun w s2 => AlK w fun j => WE p i (fun u s3 => PutAt s3 j u d fun ov => F (.nx (s3.set j (.ow ov)))) s2) s1) st) : WS p (sPutN o i e) F st := fun l m hp W => by
  obtain ⟨s, m', v, st', h1, h2, h3, h4, h5, d, rfl, hb⟩ := h l m hp W
  obtain rfl : s = .d d := h4
  obtain ⟨z2, m2, w, st2, q1, q2, q3, q4, q5, j, rfl, hc⟩ := hb l m' h2 h3
  obtain ⟨z3, m3, u, st3, y1, y2, y3, y4, y5, hk⟩ := hc l m2 q2 q3
  have hl : l[j]? = some (some z2) := q4
  have f := (h5.trans q5).trans y5
  rcases hk with ⟨xs, k, n, e1, rfl, e2, hk⟩ | ⟨kvs, x, key, e1, ex, e2, hz, hk⟩
  · obtain rfl : z3 = .d (.int k) := y4
    obtain ⟨N, n1, rfl, n3, _⟩ := own_of y3 e1 hl
    refine ⟨.nx, l, m3.set N (.lst ((xs.set n d).map S.d)), .nx (st3.set j (.own (xs.set n d))), ?_, y2.set n1, ⟨rfl, y3.put e1 hl, f.trans (Fr.put e1 hl)⟩, hk⟩
    simp only [sPutN, h1, q1, y1, Option.bind_some, deref_d, isStr, Bool.false_eq_true, if_false]
    simp only [setS, n3, putI, List.length_map, e2, Option.map_some, List.map_set]
  · have dz := deref_ok y3 y4 ex
    obtain ⟨N, n1, rfl, n3, _⟩ := ow_of y3 e1 hl
    have n3 : m3[N]? = some (.dcT (kvs.map fun p => (p.1, S.d p.2))) := n3
    refine ⟨.nx, l, m3.set N (OV.D (setD key d kvs)).mo, .nx (st3.set j (.dic (setD key d kvs))), ?_, y2.set n1, ⟨rfl, y3.putO e1 hl, f.trans (Fr.put e1 hl)⟩, hk⟩
    have hx : ∃ ds, x = .tuple ds := by cases x <;> first | exact ⟨_, rfl⟩ | cases e2
    obtain ⟨ds, rfl⟩ := hx
    simp only [sPutN, h1, q1, y1, Option.bind_some, dz, isStr, Bool.false_eq_true, if_false]
    simp only [setS, n3, e2, Option.bind_some, List.length_map, if_pos hz, Option.map_some, OV.mo, setD_map]
end
/-! ### from the readings that stop to the law -/
theorem tn_of {m : Mem} {kvs : List (PyData × S)} {t : Int} (h : m[1]? = some (.dct kvs)) (e : getK (.str "turn") kvs = some (.d (.int t))) : tnM m = t := by
  unfold tnM; rw [h]; simp only [e]
end Fz

set_option linter.all false
set_option autoImplicit false
set_option maxRecDepth 100000
namespace LW
open PySem PySem.Spec PyProof.Rows L2 Fz
def topS (i : Nat) : Stmt := PySem.Challenge.pw_tablesense_k58_weights_judged.main.body.getD i (.Pass ⟨0, 0, 0, 0⟩)
abbrev st_is_integer : Stmt := topS 1
theorem sc_is_integer : FnScope ["value"] ["value"] (defScope st_is_integer) := ⟨rfl, rfl, rfl, by decide +kernel, rfl, by decide +kernel, by decide +kernel⟩
abbrev st_is_tuple : Stmt := topS 2
theorem sc_is_tuple : FnScope ["value", "size"] ["value", "size"] (defScope st_is_tuple) := ⟨rfl, rfl, rfl, by decide +kernel, rfl, by decide +kernel, by decide +kernel⟩
abbrev st_places_of : Stmt := topS 4
theorem sc_places_of : FnScope ["table", "many"] ["table"] (defScope st_places_of) := ⟨rfl, rfl, rfl, by decide +kernel, rfl, by decide +kernel, by decide +kernel⟩
abbrev st_row_of : Stmt := topS 5
theorem sc_row_of : FnScope ["many", "number", "place"] ["many", "number"] (defScope st_row_of) := ⟨rfl, rfl, rfl, by decide +kernel, rfl, by decide +kernel, by decide +kernel⟩
abbrev st__law_rill : Stmt := topS 11
theorem sc__law_rill : FnScope ["script", "cell", "cells", "flow"] ["script"] (defScope st__law_rill) := ⟨rfl, rfl, rfl, by decide +kernel, rfl, by decide +kernel, by decide +kernel⟩
abbrev st__law_draw : Stmt := topS 12
theorem sc__law_draw : FnScope ["rill", "many", "far", "turn", "mixed", "digits"] ["rill", "many"] (defScope st__law_draw) := ⟨rfl, rfl, rfl, by decide +kernel, rfl, by decide +kernel, by decide +kernel⟩
abbrev st__law_rows : Stmt := topS 14
theorem sc__law_rows : FnScope ["many", "found", "turn", "longer", "row"] ["many"] (defScope st__law_rows) := ⟨rfl, rfl, rfl, by decide +kernel, rfl, by decide +kernel, by decide +kernel⟩
abbrev st__law_places : Stmt := topS 15
theorem sc__law_places : FnScope ["table"] ["table"] (defScope st__law_places) := ⟨rfl, rfl, rfl, by decide +kernel, rfl, by decide +kernel, by decide +kernel⟩
abbrev st__law_is_int : Stmt := topS 19
theorem sc__law_is_int : FnScope ["value"] ["value"] (defScope st__law_is_int) := ⟨rfl, rfl, rfl, by decide +kernel, rfl, by decide +kernel, by decide +kernel⟩
abbrev st__law_put : Stmt := topS 21
theorem sc__law_put : FnScope ["row", "place", "thing"] ["row", "place", "thing"] (defScope st__law_put) := ⟨rfl, rfl, rfl, by decide +kernel, rfl, by decide +kernel, by decide +kernel⟩
abbrev st_all_rows : Stmt := topS 6
theorem sc_all_rows : FnScope ["many", "number"] ["many"] (defScope st_all_rows) := ⟨rfl, rfl, rfl, by decide +kernel, rfl, by decide +kernel, by decide +kernel⟩
abbrev st__law_one : Stmt := topS 13
theorem sc__law_one : FnScope ["rill", "some"] ["rill", "some"] (defScope st__law_one) := ⟨rfl, rfl, rfl, by decide +kernel, rfl, by decide +kernel, by decide +kernel⟩
abbrev st__law_by_weights : Stmt := topS 16
theorem sc__law_by_weights : FnScope ["weights", "bound", "found", "row", "weight", "bit"] ["weights", "bound"] (defScope st__law_by_weights) := ⟨rfl, rfl, rfl, by decide +kernel, rfl, by decide +kernel, by decide +kernel⟩
abbrev st__law_turned_cell : Stmt := topS 18
theorem sc__law_turned_cell : FnScope ["rill", "table", "cell"] ["rill", "table"] (defScope st__law_turned_cell) := ⟨rfl, rfl, rfl, by decide +kernel, rfl, by decide +kernel, by decide +kernel⟩
abbrev st_table_by : Stmt := topS 8
theorem sc_table_by : FnScope ["weights", "bound", "found", "row", "weight", "bit"] ["weights", "bound"] (defScope st_table_by) := ⟨rfl, rfl, rfl, by decide +kernel, rfl, by decide +kernel, by decide +kernel⟩
abbrev st__law_drawn_weights : Stmt := topS 17
theorem sc__law_drawn_weights : FnScope ["rill", "many", "weights", "place"] ["rill", "many"] (defScope st__law_drawn_weights) := ⟨rfl, rfl, rfl, by decide +kernel, rfl, by decide +kernel, by decide +kernel⟩
abbrev st__law_any : Stmt := topS 20
theorem sc__law_any : FnScope ["rill", "menu"] ["rill"] (defScope st__law_any) := ⟨rfl, rfl, rfl, by decide +kernel, rfl, by decide +kernel, by decide +kernel⟩
abbrev st__law_odd : Stmt := topS 22
theorem sc__law_odd : FnScope ["rill", "value", "menu", "place", "own", "near"] ["rill", "value"] (defScope st__law_odd) := ⟨rfl, rfl, rfl, by decide +kernel, rfl, by decide +kernel, by decide +kernel⟩
abbrev st__law_weights_fault : Stmt := topS 23
theorem sc__law_weights_fault : FnScope ["table", "value", "many", "row", "told", "bit", "item"] ["table", "value"] (defScope st__law_weights_fault) := ⟨rfl, rfl, rfl, by decide +kernel, rfl, by decide +kernel, by decide +kernel⟩
abbrev st_weights_error : Stmt := topS 9
theorem sc_weights_error : FnScope ["table", "value", "told", "number", "row", "weight"] ["table", "value"] (defScope st_weights_error) := ⟨rfl, rfl, rfl, by decide +kernel, rfl, by decide +kernel, by decide +kernel⟩
abbrev st_law : Stmt := topS 24
theorem sc_law : FnScope ["script", "rill", "turn", "table", "double", "place", "near", "values", "kept", "weights", "bound", "k", "value", "due", "told", "weight"] ["script"] (defScope st_law) := ⟨rfl, rfl, rfl, by decide +kernel, rfl, by decide +kernel, by decide +kernel⟩
structure Env (K : PySem.W.Frag) (mg : Str → Option Value) where
  is_integer_a : Addr
  is_integer_fd : FuncData
  is_integer_d : DefAt K mg "is_integer" st_is_integer is_integer_a is_integer_fd
  is_tuple_a : Addr
  is_tuple_fd : FuncData
  is_tuple_d : DefAt K mg "is_tuple" st_is_tuple is_tuple_a is_tuple_fd
  places_of_a : Addr
  places_of_fd : FuncData
  places_of_d : DefAt K mg "places_of" st_places_of places_of_a places_of_fd
  row_of_a : Addr
  row_of_fd : FuncData
  row_of_d : DefAt K mg "row_of" st_row_of row_of_a row_of_fd
  _law_rill_a : Addr
  _law_rill_fd : FuncData
  _law_rill_d : DefAt K mg "_law_rill" st__law_rill _law_rill_a _law_rill_fd
  _law_draw_a : Addr
  _law_draw_fd : FuncData
  _law_draw_d : DefAt K mg "_law_draw" st__law_draw _law_draw_a _law_draw_fd
  _law_rows_a : Addr
  _law_rows_fd : FuncData
  _law_rows_d : DefAt K mg "_law_rows" st__law_rows _law_rows_a _law_rows_fd
  _law_places_a : Addr
  _law_places_fd : FuncData
  _law_places_d : DefAt K mg "_law_places" st__law_places _law_places_a _law_places_fd
  _law_is_int_a : Addr
  _law_is_int_fd : FuncData
  _law_is_int_d : DefAt K mg "_law_is_int" st__law_is_int _law_is_int_a _law_is_int_fd
  _law_put_a : Addr
  _law_put_fd : FuncData
  _law_put_d : DefAt K mg "_law_put" st__law_put _law_put_a _law_put_fd
  all_rows_a : Addr
  all_rows_fd : FuncData
  all_rows_d : DefAt K mg "all_rows" st_all_rows all_rows_a all_rows_fd
  _law_one_a : Addr
  _law_one_fd : FuncData
  _law_one_d : DefAt K mg "_law_one" st__law_one _law_one_a _law_one_fd
  _law_by_weights_a : Addr
  _law_by_weights_fd : FuncData
  _law_by_weights_d : DefAt K mg "_law_by_weights" st__law_by_weights _law_by_weights_a _law_by_weights_fd
  _law_turned_cell_a : Addr
  _law_turned_cell_fd : FuncData
  _law_turned_cell_d : DefAt K mg "_law_turned_cell" st__law_turned_cell _law_turned_cell_a _law_turned_cell_fd
  table_by_a : Addr
  table_by_fd : FuncData
  table_by_d : DefAt K mg "table_by" st_table_by table_by_a table_by_fd
  _law_drawn_weights_a : Addr
  _law_drawn_weights_fd : FuncData
  _law_drawn_weights_d : DefAt K mg "_law_drawn_weights" st__law_drawn_weights _law_drawn_weights_a _law_drawn_weights_fd
  _law_any_a : Addr
  _law_any_fd : FuncData
  _law_any_d : DefAt K mg "_law_any" st__law_any _law_any_a _law_any_fd
  _law_odd_a : Addr
  _law_odd_fd : FuncData
  _law_odd_d : DefAt K mg "_law_odd" st__law_odd _law_odd_a _law_odd_fd
  _law_weights_fault_a : Addr
  _law_weights_fault_fd : FuncData
  _law_weights_fault_d : DefAt K mg "_law_weights_fault" st__law_weights_fault _law_weights_fault_a _law_weights_fault_fd
  weights_error_a : Addr
  weights_error_fd : FuncData
  weights_error_d : DefAt K mg "weights_error" st_weights_error weights_error_a weights_error_fd
  law_a : Addr
  law_fd : FuncData
  law_d : DefAt K mg "law" st_law law_a law_fd
  z_abs : mg "abs" = none
  z_all : mg "all" = none
  z_bool : mg "bool" = none
  z_enumerate : mg "enumerate" = none
  z_int : mg "int" = none
  z_isinstance : mg "isinstance" = none
  z_len : mg "len" = none
  z_list : mg "list" = none
  z_range : mg "range" = none
  z_repr : mg "repr" = none
  z_str : mg "str" = none
  z_sum : mg "sum" = none
  z_tuple : mg "tuple" = none
  z_zip : mg "zip" = none
/-! ### readings -/
def b_is_integer : RS :=
  (sRet (eAnd (eUn (isaD "int") (eV 0)) (eNot (tB (eUn (isaD "bool") (eV 0))))))
def R_is_integer : PF := runP 1 b_is_integer
def b_is_tuple : RS :=
  (sRet (eAnd (eUn (isaD "tuple") (eV 0)) (eOp pEq (eB fLen [(eV 0)]) (eV 1))))
def R_is_tuple : PF := runP 2 b_is_tuple
def b_places_of : RS :=
  (sSeq (sSet 1 (eC (.int 1)))
  (sSeq (sWhile 1000 (tB (eOp pLt (eOp pShl (eC (.int 1)) (eV 1)) (eB fLen [(eV 0)])))
  (sSet 1 (eOp pAdd (eV 1) (eC (.int 1)))))
  (sRet (eV 1))))
def R_places_of : PF := runP 2 b_places_of
def b_row_of : RS :=
  (sRet (eB fTuple [(eLc [2] (iRange (eV 0)) (gN 2) tYes (eOp pAnd (eOp pShr (eV 1) (eOp pSub (eOp pSub (eV 0) (eC (.int 1))) (eV 2))) (eC (.int 1))))]))
def R_row_of : PF := runP 3 b_row_of
def b__law_rill : RS :=
  (sSeq (sPar [2, 3] [(eLc [1] (iD (eSl (eV 0) oN (oI (eC (.int 63))))) (gN 1) tYes (eOp pAdd (eOp pMul (eC (.int 2)) (eB fAbs [(eV 1)])) (eB fInt [(eOp pLt (eV 1) (eC (.int 0)))]))), (eOp pAdd (eC (.int 1591403)) (eB fLen [(eV 0)]))])
  (sSeq (sFor (iD (eV 2)) (gN 1)
  (sSet 3 (eOp pMod (eB fInt [(eOp pAdd (eOp pAdd (eOp pMul (eV 3) (eC (.int 48271))) (eV 1)) (eC (.int 11)))]) (eC (.int 4294967291)))))
  (sRet (eDct ["far", "flow", "turn"] [(eLcM [1] (iD (eV 2)) (gN 1) (tB (eOp pGe (eV 1) (eOp pPow (eC (.int 10)) (eC (.int 15))))) (eV 1)), (eV 3), (eC (.int 0))]))))
def R__law_rill : IF := runI 4 b__law_rill
def t__law_draw : RS :=
  (sSeq (sSet 2 (eIx (eV 0) (eC (.str "far"))))
  (sSeq (sIf (tB (eOp pNe (eV 2) (eLst [])))
  (sSeq (sSet 5 (eM mPopAt (eV 2) [(eC (.int 0))]))
  (sSeq (sIf (tB (eOp pGe (eV 5) (eV 1)))
  (sDrop (eM mInsert (eV 2) [(eC (.int 0)), (eOp pFdiv (eV 5) (eV 1))]))
  sSkip)
  (sRet (eOp pMod (eB fInt [(eV 5)]) (eV 1)))))
  sSkip)
  (sSeq (sPut (eV 0) (eC (.str "turn")) (eOp pAdd (eIx (eV 0) (eC (.str "turn"))) (eC (.int 1))))
  (sSeq (sSet 3 (eIx (eV 0) (eC (.str "turn"))))
  (sSeq (sSet 4 (eOp pMod (eB fInt [(eOp pAdd (eOp pAdd (eOp pMul (eIx (eV 0) (eC (.str "flow"))) (eC (.int 69621))) (eOp pMul (eOp pMul (eV 3) (eV 3)) (eC (.int 7)))) (eOp pMul (eC (.int 104729)) (eV 3)))]) (eC (.int 4294967279))))
  (sSeq (sSet 4 (eOp pMod (eB fInt [(eOp pAdd (eOp pMul (eV 4) (eC (.int 48271))) (eOp pFdiv (eV 4) (eC (.int 65536))))]) (eC (.int 4294967291))))
  (sSeq (sPut (eV 0) (eC (.str "flow")) (eV 4))
  (sRet (eOp pMod (eB fInt [(eOp pFdiv (eV 4) (eC (.int 1024)))]) (eV 1))))))))))
def T__law_draw : IF := runI 6 t__law_draw
def R__law_draw : IF := stopD T__law_draw
def b__law_rows : RS :=
  (sSeq (sSet 1 (eLst [(eTup [])]))
  (sSeq (sFor (iRange (eV 0)) (gN 2)
  (sSeq (sSet 3 (eLstM []))
  (sSeq (sFor (iD (eV 1)) (gN 4)
  (sDrop (eM mExtend (eV 3) [(eLst [(eOp pAdd (eV 4) (eTup [(eC (.int 0))])), (eOp pAdd (eV 4) (eTup [(eC (.int 1))]))])])))
  (sSet 1 (eV 3)))))
  (sRet (eV 1))))
def R__law_rows : PF := runP 5 b__law_rows
def b__law_places : RS :=
  (sRet (eOp pSub (eUn pBits (eB fLen [(eV 0)])) (eC (.int 1))))
def R__law_places : PF := runP 1 b__law_places
def b__law_is_int : RS :=
  (sRet (eAnd (eUn (isaD "int") (eV 0)) (eNot (tB (eUn (isaD "bool") (eV 0))))))
def R__law_is_int : PF := runP 1 b__law_is_int
def b__law_put : RS :=
  (sRet (eOp pAdd (eOp pAdd (eSl (eV 0) oN (oI (eV 1))) (eTup [(eV 2)])) (eSl (eV 0) (oI (eOp pAdd (eV 1) (eC (.int 1)))) oN)))
def R__law_put : PF := runP 3 b__law_put
def b_all_rows : RS :=
  (sRet (eLc [1] (iRange (eOp pShl (eC (.int 1)) (eV 0))) (gN 1) tYes (eP R_row_of (rA [(eV 0), (eV 1)]))))
def R_all_rows : PF := runP 2 b_all_rows
def t__law_one : RS :=
  (sRet (eOp ixD (eV 1) (eI T__law_draw (rA [(eV 0), (eB fLen [(eV 1)])]))))
def T__law_one : IF := runI 2 t__law_one
def b__law_one : RS :=
  (sRet (eOp ixD (eV 1) (eI R__law_draw (rA [(eV 0), (eB fLen [(eV 1)])]))))
def R__law_one : IF := runI 2 b__law_one
def b__law_by_weights : RS :=
  (sSeq (sSet 2 (eLstM []))
  (sSeq (sFor (iD (eP R__law_rows (rA [(eB fLen [(eV 0)])]))) (gN 3)
  (sDrop (eM mAppend (eV 2) [(eB fInt [(eOp pGe (eB fSum [(eLc [4, 5] (iZip (eV 0) (eV 3)) (gT [(gN 4), (gN 5)]) tYes (eOp pMul (eV 4) (eV 5)))]) (eV 1))])])))
  (sRet (eB fTuple [(eV 2)]))))
def R__law_by_weights : PF := runP 6 b__law_by_weights
def t__law_turned_cell : RS :=
  (sSeq (sSet 2 (eI T__law_draw (rA [(eV 0), (eB fLen [(eV 1)])])))
  (sRet (eOp pAdd (eOp pAdd (eSl (eV 1) oN (oI (eV 2))) (eTup [(eOp pSub (eC (.int 1)) (eOp ixD (eV 1) (eV 2)))])) (eSl (eV 1) (oI (eOp pAdd (eV 2) (eC (.int 1)))) oN))))
def T__law_turned_cell : IF := runI 3 t__law_turned_cell
def b__law_turned_cell : RS :=
  (sSeq (sSet 2 (eI R__law_draw (rA [(eV 0), (eB fLen [(eV 1)])])))
  (sRet (eOp pAdd (eOp pAdd (eSl (eV 1) oN (oI (eV 2))) (eTup [(eOp pSub (eC (.int 1)) (eOp ixD (eV 1) (eV 2)))])) (eSl (eV 1) (oI (eOp pAdd (eV 2) (eC (.int 1)))) oN))))
def R__law_turned_cell : IF := runI 3 b__law_turned_cell
def b_table_by : RS :=
  (sSeq (sSet 2 (eLstM []))
  (sSeq (sFor (iD (eP R_all_rows (rA [(eB fLen [(eV 0)])]))) (gN 3)
  (sDrop (eM mAppend (eV 2) [(eB fInt [(eOp pGe (eB fSum [(eLc [4, 5] (iZip (eV 0) (eV 3)) (gT [(gN 4), (gN 5)]) (tB (eOp pEq (eV 5) (eC (.int 1)))) (eV 4))]) (eV 1))])])))
  (sRet (eB fTuple [(eV 2)]))))
def R_table_by : PF := runP 6 b_table_by
def t__law_drawn_weights : RS :=
  (sSeq (sSet 2 (eB fTuple [(eLc [3] (iRange (eV 1)) (gN 3) tYes (eI T__law_one (rA [(eV 0), (eLst [(eC (.int 0)), (eC (.int 1)), (eC (.int 1)), (eC (.int 2)), (eC (.int 3)), (eUn pNeg (eC (.int 1))), (eUn pNeg (eC (.int 2))), (eC (.int 5))])])))]))
  (sRet (eTup [(eV 2), (eOp pSub (eI T__law_draw (rA [(eV 0), (eC (.int 9))])) (eC (.int 3)))])))
def T__law_drawn_weights : IF := runI 4 t__law_drawn_weights
def b__law_drawn_weights : RS :=
  (sSeq (sSet 2 (eB fTuple [(eLc [3] (iB (iRange (eV 1))) (gN 3) tYes (eI R__law_one (rA [(eV 0), (eLst [(eC (.int 0)), (eC (.int 1)), (eC (.int 1)), (eC (.int 2)), (eC (.int 3)), (eUn pNeg (eC (.int 1))), (eUn pNeg (eC (.int 2))), (eC (.int 5))])])))]))
  (sRet (eTup [(eV 2), (eOp pSub (eI R__law_draw (rA [(eV 0), (eC (.int 9))])) (eC (.int 3)))])))
def R__law_drawn_weights : IF := runI 4 b__law_drawn_weights
def t__law_any : RS :=
  (sSeq (sSet 1 (eLst [(eC .none), (eC (.bool true)), (eC (.int 0)), (eC (.int 1)), (eUn pNeg (eC (.int 1))), (eOp pPow (eC (.int 10)) (eC (.int 40))), (eC (.str "")), (eC (.str "0")), (eTup []), (eLst []), (eC (.dict [])), (eTup [(eTup [])]), (eLst [(eTup [])]), (eTup [(eTup []), (eTup [])]), (eTup [(eTup [(eC (.int 0))]), (eC (.int 0))]), (eTup [(eTup [(eC (.int 0)), (eC (.int 1))]), (eC (.int 1))])]))
  (sRet (eI T__law_one (rA [(eV 0), (eV 1)]))))
def T__law_any : IF := runI 2 t__law_any
def b__law_any : RS :=
  (sSeq (sSet 1 (eLst [(eC .none), (eC (.bool true)), (eC (.int 0)), (eC (.int 1)), (eUn pNeg (eC (.int 1))), (eOp pPow (eC (.int 10)) (eC (.int 40))), (eC (.str "")), (eC (.str "0")), (eTup []), (eLst []), (eC (.dict [])), (eTup [(eTup [])]), (eLst [(eTup [])]), (eTup [(eTup []), (eTup [])]), (eTup [(eTup [(eC (.int 0))]), (eC (.int 0))]), (eTup [(eTup [(eC (.int 0)), (eC (.int 1))]), (eC (.int 1))])]))
  (sRet (eI R__law_one (rA [(eV 0), (eV 1)]))))
def R__law_any : IF := runI 2 b__law_any
def t__law_odd : RS :=
  (sSeq (sSet 2 (eLst [(eB fList [(eV 1)]), (eOp pAdd (eV 1) (eSl (eV 1) oN (oI (eC (.int 1))))), (eSl (eV 1) (oI (eC (.int 1))) oN), (eSl (eV 1) oN (oI (eUn pNeg (eC (.int 1))))), (eUn revA (eV 1)), (eC .none), (eOp pAdd (eV 1) (eTup [(eC (.int 0))])), (eTup [(eV 1)])]))
  (sSeq (sIf (Fz.tOr (tB (eOp pEq (eV 1) (eTup []))) (tB (eOp pEq (eI T__law_draw (rA [(eV 0), (eC (.int 3))])) (eC (.int 0)))))
  (sRet (eI T__law_one (rA [(eV 0), (eV 2)])))
  sSkip)
  (sSeq (sSet 3 (eI T__law_draw (rA [(eV 0), (eB fLen [(eV 1)])])))
  (sSeq (sSet 4 (eOp ixD (eV 1) (eV 3)))
  (sSeq (sSet 5 (eIf (tV (eP R__law_is_int (rA [(eV 4)]))) (eLst [(eOp pAdd (eV 4) (eC (.int 1))), (eUn pNeg (eV 4)), (eOp pSub (eV 4) (eC (.int 1))), (eC (.int 0)), (eC (.bool true)), (eC (.bool false)), (eB fStr [(eV 4)])]) (eLst [(eC .none), (eC (.int 0)), (eTup []), (eLst [(eV 4)]), (eV 4)])))
  (sSeq (sIf (Fz.tAnd (tV (eUn (isaD "tuple") (eV 4))) (tB (eOp pNe (eV 4) (eTup []))))
  (sSet 5 (eOp pAdd (eV 5) (eLst [(eSl (eV 4) oN (oI (eUn pNeg (eC (.int 1))))), (eOp pAdd (eV 4) (eTup [(eC (.int 0))])), (eUn revA (eV 4)), (eB fList [(eV 4)]), (eOp pAdd (eV 4) (eV 4))])))
  sSkip)
  (sRet (eP R__law_put (rA [(eV 1), (eV 3), (eI T__law_one (rA [(eV 0), (eV 5)]))])))))))))
def T__law_odd : IF := runI 6 t__law_odd
def b__law_odd : RS :=
  (sSeq (sSet 2 (eLst [(eB fList [(eV 1)]), (eOp pAdd (eV 1) (eSl (eV 1) oN (oI (eC (.int 1))))), (eSl (eV 1) (oI (eC (.int 1))) oN), (eSl (eV 1) oN (oI (eUn pNeg (eC (.int 1))))), (eUn revA (eV 1)), (eC .none), (eOp pAdd (eV 1) (eTup [(eC (.int 0))])), (eTup [(eV 1)])]))
  (sSeq (sIf (Fz.tOr (tB (eOp pEq (eV 1) (eTup []))) (tB (eOp pEq (eI R__law_draw (rA [(eV 0), (eC (.int 3))])) (eC (.int 0)))))
  (sRet (eI R__law_one (rA [(eV 0), (eV 2)])))
  sSkip)
  (sSeq (sSet 3 (eI R__law_draw (rA [(eV 0), (eB fLen [(eV 1)])])))
  (sSeq (sSet 4 (eOp ixD (eV 1) (eV 3)))
  (sSeq (sSet 5 (eIf (tV (eP R__law_is_int (rA [(eV 4)]))) (eLst [(eOp pAdd (eV 4) (eC (.int 1))), (eUn pNeg (eV 4)), (eOp pSub (eV 4) (eC (.int 1))), (eC (.int 0)), (eC (.bool true)), (eC (.bool false)), (eB fStr [(eV 4)])]) (eLst [(eC .none), (eC (.int 0)), (eTup []), (eLst [(eV 4)]), (eV 4)])))
  (sSeq (sIf (Fz.tAnd (tV (eUn (isaD "tuple") (eV 4))) (tB (eOp pNe (eV 4) (eTup []))))
  (sSet 5 (eOp pAdd (eV 5) (eLst [(eSl (eV 4) oN (oI (eUn pNeg (eC (.int 1))))), (eOp pAdd (eV 4) (eTup [(eC (.int 0))])), (eUn revA (eV 4)), (eB fList [(eV 4)]), (eOp pAdd (eV 4) (eV 4))])))
  sSkip)
  (sRet (eP R__law_put (rA [(eV 1), (eV 3), (eI R__law_one (rA [(eV 0), (eV 5)]))])))))))))
def R__law_odd : IF := runI 6 b__law_odd
def b__law_weights_fault : RS :=
  (sSeq (sSet 2 (eP R__law_places (rA [(eV 0)])))
  (sSeq (sIf (Fz.tOr (Fz.tNot (tV (eUn (isaD "tuple") (eV 1)))) (Fz.tOr (tB (eOp pNe (eB fLen [(eV 1)]) (eC (.int 2)))) (Fz.tOr (Fz.tNot (tV (eUn (isaD "tuple") (eOp ixD (eV 1) (eC (.int 0)))))) (tB (eOp pNe (eB fLen [(eOp ixD (eV 1) (eC (.int 0)))]) (eV 2))))))
  (sRet (eC (.str "form")))
  sSkip)
  (sSeq (sIf (Fz.tNot (tV (eB fAll [(eLc [6] (iD (eOp pAdd (eOp ixD (eV 1) (eC (.int 0))) (eTup [(eOp ixD (eV 1) (eC (.int 1)))]))) (gN 6) tYes (eP R__law_is_int (rA [(eV 6)])))])))
  (sRet (eC (.str "form")))
  sSkip)
  (sSeq (sFor (iZip3 (eP R__law_rows (rA [(eV 2)])) (eP R__law_by_weights (rA [(eOp ixD (eV 1) (eC (.int 0))), (eOp ixD (eV 1) (eC (.int 1)))])) (eV 0)) (gT [(gN 3), (gN 4), (gN 5)])
  (sIf (tB (eOp pNe (eV 4) (eV 5)))
  (sRet (eTup [(eC (.str "row")), (eV 3)]))
  sSkip))
  (sRet (eC .none))))))
def R__law_weights_fault : PF := runP 7 b__law_weights_fault
def b_weights_error : RS :=
  (sSeq (sIf (Fz.tOr (Fz.tNot (tV (eP R_is_tuple (rA [(eV 1), (eC (.int 2))])))) (Fz.tOr (Fz.tNot (tV (eP R_is_tuple (rA [(eOp ixD (eV 1) (eC (.int 0))), (eP R_places_of (rA [(eV 0)]))])))) (Fz.tNot (tV (eP R_is_integer (rA [(eOp ixD (eV 1) (eC (.int 1)))]))))))
  (sRet (eC (.str "form")))
  sSkip)
  (sSeq (sIf (Fz.tNot (tV (eB fAll [(eLc [5] (iD (eOp ixD (eV 1) (eC (.int 0)))) (gN 5) tYes (eP R_is_integer (rA [(eV 5)])))])))
  (sRet (eC (.str "form")))
  sSkip)
  (sSeq (sSet 2 (eP R_table_by (rA [(eOp ixD (eV 1) (eC (.int 0))), (eOp ixD (eV 1) (eC (.int 1)))])))
  (sSeq (sFor (iEnum (eP R_all_rows (rA [(eP R_places_of (rA [(eV 0)]))]))) (gT [(gN 3), (gN 4)])
  (sIf (tB (eOp pNe (eOp ixD (eV 2) (eV 3)) (eOp ixD (eV 0) (eV 3))))
  (sRet (eTup [(eC (.str "row")), (eV 4)]))
  sSkip))
  (sRet (eC .none))))))
def R_weights_error : PF := runP 6 b_weights_error
def tr_law : RS :=
  (sSeq (sFor (iRange (eC (.int 5))) (gN 2)
  (sSeq (sAsg (gT [(gN 9), (gN 10)]) (eI T__law_drawn_weights (rA [(eV 1), (eI T__law_one (rA [(eV 1), (eLst [(eC (.int 3)), (eC (.int 4)), (eC (.int 2)), (eC (.int 3)), (eC (.int 1))])]))])))
  (sSeq (sSet 3 (eP R__law_by_weights (rA [(eV 9), (eV 10)])))
  (sSeq (sIf (tB (eOp pEq (eI T__law_draw (rA [(eV 1), (eC (.int 3))])) (eC (.int 0))))
  (sSet 3 (eI T__law_turned_cell (rA [(eV 1), (eV 3)])))
  sSkip)
  (sSeq (sSet 4 (eTup [(eB fTuple [(eLc [15] (iD (eV 9)) (gN 15) tYes (eOp pMul (eC (.int 2)) (eV 15)))]), (eOp pSub (eOp pMul (eC (.int 2)) (eV 10)) (eI T__law_draw (rA [(eV 1), (eC (.int 2))])))]))
  (sSeq (sSet 5 (eI T__law_draw (rA [(eV 1), (eB fLen [(eV 9)])])))
  (sSeq (sSet 6 (eTup [(eP R__law_put (rA [(eV 9), (eV 5), (eOp pAdd (eOp ixD (eV 9) (eV 5)) (eI T__law_one (rA [(eV 1), (eLst [(eC (.int 1)), (eUn pNeg (eC (.int 1))), (eC (.int 3))])])))])), (eV 10)]))
  (sSeq (sSet 7 (eLstM [(eTup [(eV 9), (eV 10)]), (eV 4), (eV 6), (eTup [(eV 9), (eOp pAdd (eV 10) (eI T__law_one (rA [(eV 1), (eLst [(eC (.int 1)), (eUn pNeg (eC (.int 1)))])])))]), (eI T__law_any (rA [(eV 1)]))]))
  (sSeq (sDrop (eM mAppend (eV 7) [(eTup [(eI T__law_odd (rA [(eV 1), (eV 9)])), (eV 10)])]))
  (sSeq (sDrop (eM mAppend (eV 7) [(eI T__law_odd (rA [(eV 1), (eTup [(eV 9), (eV 10)])]))]))
  (sSeq (sDrop (eM mAppend (eV 7) [(eTup [(eV 9), (eI T__law_one (rA [(eV 1), (eLst [(eC (.bool true)), (eC .none), (eB fStr [(eV 10)]), (eTup [(eV 10)]), (eLst [(eV 10)])])]))])]))
  (sSeq (sSet 8 (eB fRepr [(eLst [(eV 3), (eZ (eV 7))])]))
  (sSeq (sFor (iEnum (eV 7)) (gT [(gN 11), (gN 12)])
  (sSeq (sSet 13 (eP R__law_weights_fault (rA [(eV 3), (eV 12)])))
  (sSeq (sSet 14 (eIf (tB (eOp pEq (eV 11) (eV 2))) (eP R_weights_error (rK [1, 0] [] [(eV 12), (eV 3)])) (eP R_weights_error (rA [(eV 3), (eV 12)]))))
  (sIf (tB (eOp pNe (eB fRepr [(eLst [(eV 14), (eP R_weights_error (rA [(eV 3), (eV 12)]))])]) (eB fRepr [(eLst [(eV 13), (eV 13)])])))
  (sRet (eC (.bool false)))
  sSkip))))
  (sIf (tB (eOp pNe (eB fRepr [(eLst [(eV 3), (eZ (eV 7))])]) (eV 8)))
  (sRet (eC (.bool false)))
  sSkip))))))))))))))
  (sRet (eC (.bool true))))
def br_law : RS :=
  (sSeq (sFor (iB (iRange (eC (.int 5)))) (gN 2)
  (sSeq (sAsg (gT [(gN 9), (gN 10)]) (eI R__law_drawn_weights (rA [(eV 1), (eI R__law_one (rA [(eV 1), (eLst [(eC (.int 3)), (eC (.int 4)), (eC (.int 2)), (eC (.int 3)), (eC (.int 1))])]))])))
  (sSeq (sSet 3 (eP R__law_by_weights (rA [(eV 9), (eV 10)])))
  (sSeq (sIf (tB (eOp pEq (eI R__law_draw (rA [(eV 1), (eC (.int 3))])) (eC (.int 0))))
  (sSet 3 (eI R__law_turned_cell (rA [(eV 1), (eV 3)])))
  sSkip)
  (sSeq (sSet 4 (eTup [(eB fTuple [(eLc [15] (iD (eV 9)) (gN 15) tYes (eOp pMul (eC (.int 2)) (eV 15)))]), (eOp pSub (eOp pMul (eC (.int 2)) (eV 10)) (eI R__law_draw (rA [(eV 1), (eC (.int 2))])))]))
  (sSeq (sSet 5 (eI R__law_draw (rA [(eV 1), (eB fLen [(eV 9)])])))
  (sSeq (sSet 6 (eTup [(eP R__law_put (rA [(eV 9), (eV 5), (eOp pAdd (eOp ixD (eV 9) (eV 5)) (eI R__law_one (rA [(eV 1), (eLst [(eC (.int 1)), (eUn pNeg (eC (.int 1))), (eC (.int 3))])])))])), (eV 10)]))
  (sSeq (sSet 7 (eLstM [(eTup [(eV 9), (eV 10)]), (eV 4), (eV 6), (eTup [(eV 9), (eOp pAdd (eV 10) (eI R__law_one (rA [(eV 1), (eLst [(eC (.int 1)), (eUn pNeg (eC (.int 1)))])])))]), (eI R__law_any (rA [(eV 1)]))]))
  (sSeq (sDrop (eM mAppend (eV 7) [(eTup [(eI R__law_odd (rA [(eV 1), (eV 9)])), (eV 10)])]))
  (sSeq (sDrop (eM mAppend (eV 7) [(eI R__law_odd (rA [(eV 1), (eTup [(eV 9), (eV 10)])]))]))
  (sSeq (sDrop (eM mAppend (eV 7) [(eTup [(eV 9), (eI R__law_one (rA [(eV 1), (eLst [(eC (.bool true)), (eC .none), (eB fStr [(eV 10)]), (eTup [(eV 10)]), (eLst [(eV 10)])])]))])]))
  (sSeq (sSet 8 (eB fRepr [(eLst [(eV 3), (eZ (eV 7))])]))
  (sSeq (sFor (iEnum (eV 7)) (gT [(gN 11), (gN 12)])
  (sSeq (sSet 13 (eP R__law_weights_fault (rA [(eV 3), (eV 12)])))
  (sSeq (sSet 14 (eIf (tB (eOp pEq (eV 11) (eV 2))) (eP R_weights_error (rK [1, 0] [] [(eV 12), (eV 3)])) (eP R_weights_error (rA [(eV 3), (eV 12)]))))
  (sIf (tB (eOp pNe (eB fRepr [(eLst [(eV 14), (eP R_weights_error (rA [(eV 3), (eV 12)]))])]) (eB fRepr [(eLst [(eV 13), (eV 13)])])))
  (sRet (eC (.bool false)))
  sSkip))))
  (sIf (tB (eOp pNe (eB fRepr [(eLst [(eV 3), (eZ (eV 7))])]) (eV 8)))
  (sRet (eC (.bool false)))
  sSkip))))))))))))))
  (sRet (eC (.bool true))))
def t_law : RS := sSeq (sSet 1 (eI R__law_rill (rA [(eV 0)]))) tr_law
def T_law : PF := runP 16 t_law
/-! ### starts -/
theorem go_is_integer {a0 : PyData} {r : PyData} (h : WS P0 b_is_integer (RtP r) [SA.dat a0]) : R_is_integer [a0] = some r := runP_w (ds := [a0]) h
theorem go_is_tuple {a0 a1 : PyData} {r : PyData} (h : WS P0 b_is_tuple (RtP r) [SA.dat a0, SA.dat a1]) : R_is_tuple [a0, a1] = some r := runP_w (ds := [a0, a1]) h
theorem go_places_of {a0 : PyData} {r : PyData} (h : WS P0 b_places_of (RtP r) [SA.dat a0, .any]) : R_places_of [a0] = some r := runP_w (ds := [a0]) h
theorem go_row_of {a0 a1 : PyData} {r : PyData} (h : WS P0 b_row_of (RtP r) [SA.dat a0, SA.dat a1, .any]) : R_row_of [a0, a1] = some r := runP_w (ds := [a0, a1]) h
theorem go__law_rows {a0 : PyData} {r : PyData} (h : WS P0 b__law_rows (RtP r) [SA.dat a0, .any, .any, .any, .any]) : R__law_rows [a0] = some r := runP_w (ds := [a0]) h
theorem go__law_places {a0 : PyData} {r : PyData} (h : WS P0 b__law_places (RtP r) [SA.dat a0]) : R__law_places [a0] = some r := runP_w (ds := [a0]) h
theorem go__law_is_int {a0 : PyData} {r : PyData} (h : WS P0 b__law_is_int (RtP r) [SA.dat a0]) : R__law_is_int [a0] = some r := runP_w (ds := [a0]) h
theorem go__law_put {a0 a1 a2 : PyData} {r : PyData} (h : WS P0 b__law_put (RtP r) [SA.dat a0, SA.dat a1, SA.dat a2]) : R__law_put [a0, a1, a2] = some r := runP_w (ds := [a0, a1, a2]) h
theorem go_all_rows {a0 : PyData} {r : PyData} (h : WS P0 b_all_rows (RtP r) [SA.dat a0, .any]) : R_all_rows [a0] = some r := runP_w (ds := [a0]) h
theorem gi__law_one {p : Pf} {n0 : Nat} {a1 : PyData} {Q : SA → Prop} (hn0 : n0 < p.K) (h : WS p b__law_one (RtI Q) [SA.ref n0, SA.dat a1]) : IW p R__law_one [S.r n0, S.d a1] Q :=
  runI_w (vs := [SA.ref n0, SA.dat a1]) rfl (by intro k hk; simp at hk; subst hk; assumption) h
theorem go__law_by_weights {a0 a1 : PyData} {r : PyData} (h : WS P0 b__law_by_weights (RtP r) [SA.dat a0, SA.dat a1, .any, .any, .any, .any]) : R__law_by_weights [a0, a1] = some r := runP_w (ds := [a0, a1]) h
theorem gi__law_turned_cell {p : Pf} {n0 : Nat} {a1 : PyData} {Q : SA → Prop} (hn0 : n0 < p.K) (h : WS p b__law_turned_cell (RtI Q) [SA.ref n0, SA.dat a1, .any]) : IW p R__law_turned_cell [S.r n0, S.d a1] Q :=
  runI_w (vs := [SA.ref n0, SA.dat a1]) rfl (by intro k hk; simp at hk; subst hk; assumption) h
theorem go_table_by {a0 a1 : PyData} {r : PyData} (h : WS P0 b_table_by (RtP r) [SA.dat a0, SA.dat a1, .any, .any, .any, .any]) : R_table_by [a0, a1] = some r := runP_w (ds := [a0, a1]) h
theorem gi__law_drawn_weights {p : Pf} {n0 : Nat} {a1 : PyData} {Q : SA → Prop} (hn0 : n0 < p.K) (h : WS p b__law_drawn_weights (RtI Q) [SA.ref n0, SA.dat a1, .any, .any]) : IW p R__law_drawn_weights [S.r n0, S.d a1] Q :=
  runI_w (vs := [SA.ref n0, SA.dat a1]) rfl (by intro k hk; simp at hk; subst hk; assumption) h
theorem gi__law_any {p : Pf} {n0 : Nat} {Q : SA → Prop} (hn0 : n0 < p.K) (h : WS p b__law_any (RtI Q) [SA.ref n0, .any]) : IW p R__law_any [S.r n0] Q :=
  runI_w (vs := [SA.ref n0]) rfl (by intro k hk; simp at hk; subst hk; assumption) h
theorem gi__law_odd {p : Pf} {n0 : Nat} {a1 : PyData} {Q : SA → Prop} (hn0 : n0 < p.K) (h : WS p b__law_odd (RtI Q) [SA.ref n0, SA.dat a1, .any, .any, .any, .any]) : IW p R__law_odd [S.r n0, S.d a1] Q :=
  runI_w (vs := [SA.ref n0, SA.dat a1]) rfl (by intro k hk; simp at hk; subst hk; assumption) h
theorem go__law_weights_fault {a0 a1 : PyData} {r : PyData} (h : WS P0 b__law_weights_fault (RtP r) [SA.dat a0, SA.dat a1, .any, .any, .any, .any, .any]) : R__law_weights_fault [a0, a1] = some r := runP_w (ds := [a0, a1]) h
theorem go_weights_error {a0 a1 : PyData} {r : PyData} (h : WS P0 b_weights_error (RtP r) [SA.dat a0, SA.dat a1, .any, .any, .any, .any]) : R_weights_error [a0, a1] = some r := runP_w (ds := [a0, a1]) h
/-! ### walks -/
section
variable {P : Program} {w : World} {K : PySem.W.Frag} {mg : Str → Option Value} {base : Heap}
theorem binds_is_integer (e : Env K mg) : Binds K e.is_integer_fd ["value"] [] := e.is_integer_d.fn.binds (ps := ["value"]) fun _ _ _ _ _ _ us hl => match us, hl with | [_], _ => rfl
theorem binds_is_tuple (e : Env K mg) : Binds K e.is_tuple_fd ["value", "size"] [] := e.is_tuple_d.fn.binds (ps := ["value", "size"]) fun _ _ _ _ _ _ us hl => match us, hl with | [_, _], _ => rfl
theorem binds_places_of (e : Env K mg) : Binds K e.places_of_fd ["table"] [] := e.places_of_d.fn.binds (ps := ["table"]) fun _ _ _ _ _ _ us hl => match us, hl with | [_], _ => rfl
theorem binds_row_of (e : Env K mg) : Binds K e.row_of_fd ["many", "number"] [] := e.row_of_d.fn.binds (ps := ["many", "number"]) fun _ _ _ _ _ _ us hl => match us, hl with | [_, _], _ => rfl
theorem binds__law_rill (e : Env K mg) : Binds K e._law_rill_fd ["script"] [] := e._law_rill_d.fn.binds (ps := ["script"]) fun _ _ _ _ _ _ us hl => match us, hl with | [_], _ => rfl
theorem binds__law_draw (e : Env K mg) : Binds K e._law_draw_fd ["rill", "many"] [] := e._law_draw_d.fn.binds (ps := ["rill", "many"]) fun _ _ _ _ _ _ us hl => match us, hl with | [_, _], _ => rfl
theorem binds__law_rows (e : Env K mg) : Binds K e._law_rows_fd ["many"] [] := e._law_rows_d.fn.binds (ps := ["many"]) fun _ _ _ _ _ _ us hl => match us, hl with | [_], _ => rfl
theorem binds__law_places (e : Env K mg) : Binds K e._law_places_fd ["table"] [] := e._law_places_d.fn.binds (ps := ["table"]) fun _ _ _ _ _ _ us hl => match us, hl with | [_], _ => rfl
theorem binds__law_is_int (e : Env K mg) : Binds K e._law_is_int_fd ["value"] [] := e._law_is_int_d.fn.binds (ps := ["value"]) fun _ _ _ _ _ _ us hl => match us, hl with | [_], _ => rfl
theorem binds__law_put (e : Env K mg) : Binds K e._law_put_fd ["row", "place", "thing"] [] := e._law_put_d.fn.binds (ps := ["row", "place", "thing"]) fun _ _ _ _ _ _ us hl => match us, hl with | [_, _, _], _ => rfl
theorem binds_all_rows (e : Env K mg) : Binds K e.all_rows_fd ["many"] [] := e.all_rows_d.fn.binds (ps := ["many"]) fun _ _ _ _ _ _ us hl => match us, hl with | [_], _ => rfl
theorem binds__law_one (e : Env K mg) : Binds K e._law_one_fd ["rill", "some"] [] := e._law_one_d.fn.binds (ps := ["rill", "some"]) fun _ _ _ _ _ _ us hl => match us, hl with | [_, _], _ => rfl
theorem binds__law_by_weights (e : Env K mg) : Binds K e._law_by_weights_fd ["weights", "bound"] [] := e._law_by_weights_d.fn.binds (ps := ["weights", "bound"]) fun _ _ _ _ _ _ us hl => match us, hl with | [_, _], _ => rfl
theorem binds__law_turned_cell (e : Env K mg) : Binds K e._law_turned_cell_fd ["rill", "table"] [] := e._law_turned_cell_d.fn.binds (ps := ["rill", "table"]) fun _ _ _ _ _ _ us hl => match us, hl with | [_, _], _ => rfl
theorem binds_table_by (e : Env K mg) : Binds K e.table_by_fd ["weights", "bound"] [] := e.table_by_d.fn.binds (ps := ["weights", "bound"]) fun _ _ _ _ _ _ us hl => match us, hl with | [_, _], _ => rfl
theorem binds__law_drawn_weights (e : Env K mg) : Binds K e._law_drawn_weights_fd ["rill", "many"] [] := e._law_drawn_weights_d.fn.binds (ps := ["rill", "many"]) fun _ _ _ _ _ _ us hl => match us, hl with | [_, _], _ => rfl
theorem binds__law_any (e : Env K mg) : Binds K e._law_any_fd ["rill"] [] := e._law_any_d.fn.binds (ps := ["rill"]) fun _ _ _ _ _ _ us hl => match us, hl with | [_], _ => rfl
theorem binds__law_odd (e : Env K mg) : Binds K e._law_odd_fd ["rill", "value"] [] := e._law_odd_d.fn.binds (ps := ["rill", "value"]) fun _ _ _ _ _ _ us hl => match us, hl with | [_, _], _ => rfl
theorem binds__law_weights_fault (e : Env K mg) : Binds K e._law_weights_fault_fd ["table", "value"] [] := e._law_weights_fault_d.fn.binds (ps := ["table", "value"]) fun _ _ _ _ _ _ us hl => match us, hl with | [_, _], _ => rfl
theorem binds_weights_error (e : Env K mg) : Binds K e.weights_error_fd ["table", "value"] [] := e.weights_error_d.fn.binds (ps := ["table", "value"]) fun _ _ _ _ _ _ us hl => match us, hl with | [_, _], _ => rfl
theorem binds_law (e : Env K mg) : Binds K e.law_fd ["script"] [] := e.law_d.fn.binds (ps := ["script"]) fun _ _ _ _ _ _ us hl => match us, hl with | [_], _ => rfl
theorem kw_weights_error_0 (e : Env K mg) : KwB e.weights_error_fd ["table", "value"] ["value", "table"] 0 [1, 0] := by
  obtain ⟨⟨oc, od, kV, doc, pm, an, cdv, ct, osl, q, _⟩, _⟩ := e.weights_error_d.fn
  rw [q]
  exact fun s us ws hu hw => match us, ws, hu, hw with | [], [_, _], _, _ => .of_eq rfl
theorem ok_is_integer (e : Env K mg) : FnG P w K mg base CX0 1 e.is_integer_a e.is_integer_fd ["value"] (spP K 1 R_is_integer) := okP (N := ["value"]) e.is_integer_d.fn sc_is_integer (by decide) fun cdv A outer s H XE hg0 hr => by
  have nd := sc_is_integer.nd
  have hgu := (guards_deeper A (envOfC "is_integer" (defScope st_is_integer) s.heap.objs.size e.is_integer_a cdv)).trans hg0
  exact (fss_one (fs_ret (fe_and (fe_isa isa_int e.z_isinstance e.z_int boot_int (fe_var 0)) (fe_one (fe_not (fe_isa isa_bool e.z_isinstance e.z_bool boot_bool (fe_var 0)))))))
theorem ok_is_tuple (e : Env K mg) : FnG P w K mg base CX0 1 e.is_tuple_a e.is_tuple_fd ["value", "size"] (spP K 2 R_is_tuple) := okP (N := ["value", "size"]) e.is_tuple_d.fn sc_is_tuple (by decide) fun cdv A outer s H XE hg0 hr => by
  have nd := sc_is_tuple.nd
  have hgu := (guards_deeper A (envOfC "is_tuple" (defScope st_is_tuple) s.heap.objs.size e.is_tuple_a cdv)).trans hg0
  exact (fss_one (fs_ret (fe_and (fe_isa isa_tuple e.z_isinstance e.z_tuple boot_tuple (fe_var 0)) (fe_one (fe_cmp (fo_eq (hu64 hr)) (fe_b fc_len e.z_len boot_len (fa_cons (fe_var 0) fa_nil)) (fe_var 1))))))
theorem ok_places_of (e : Env K mg) : FnG P w K mg base CX0 1 e.places_of_a e.places_of_fd ["table"] (spP K 1 R_places_of) := okP (N := ["table", "many"]) e.places_of_d.fn sc_places_of (by decide) fun cdv A outer s H XE hg0 hr => by
  have nd := sc_places_of.nd
  have hgu := (guards_deeper A (envOfC "places_of" (defScope st_places_of) s.heap.objs.size e.places_of_a cdv)).trans hg0
  exact (fss_cons (fs_set 1 fe_int nd)
  (fss_cons (fs_while 1000 passN (ft_cmp fo_lt (fe_op fo_shl fe_int (fe_var 1)) (fe_b fc_len e.z_len boot_len (fa_cons (fe_var 0) fa_nil)))
  (fss_one (fs_set 1 (fe_op fo_add (fe_var 1) fe_int) nd)))
  (fss_one (fs_ret (fe_var 1)))))
theorem ok_row_of (e : Env K mg) : FnG P w K mg base CX0 1 e.row_of_a e.row_of_fd ["many", "number"] (spP K 2 R_row_of) := okP (N := ["many", "number", "place"]) e.row_of_d.fn sc_row_of (by decide) fun cdv A outer s H XE hg0 hr => by
  have nd := sc_row_of.nd
  have hgu := (guards_deeper A (envOfC "row_of" (defScope st_row_of) s.heap.objs.size e.row_of_a cdv)).trans hg0
  exact (fss_one (fs_ret (fe_ty fc_tuple e.z_tuple boot_tuple (fa_cons (fe_lc (own := [("place", 2)]) nd (fi_range e.z_range (fe_var 0)) (blkOk_by rfl) (fun _ _ _ _ _ => (fg_name 2 nd)) (fun _ _ _ _ _ => fts_nil) (fun _ _ _ _ _ => (fe_op fo_and (fe_op fo_shr (fe_var 1) (fe_op fo_sub (fe_op fo_sub (fe_var 0) fe_int) (fe_var 2))) fe_int))) fa_nil))))
theorem ok__law_rill (e : Env K mg) : FnG P w K mg base CX0 1 e._law_rill_a e._law_rill_fd ["script"] (spI K 1 R__law_rill) := okI (N := ["script", "cell", "cells", "flow"]) e._law_rill_d.fn sc__law_rill (by decide) fun cdv A outer s H XE hg0 hr => by
  have nd := sc__law_rill.nd
  have hgu := (guards_deeper A (envOfC "_law_rill" (defScope st__law_rill) s.heap.objs.size e._law_rill_a cdv)).trans hg0
  exact (fss_cons (fs_par2 2 3 (fa_cons (fe_lc (own := [("cell", 1)]) nd (fi_seq (fe_sl sl_data (fe_var 0) fo_none (fo_some fe_int))) (blkOk_by rfl) (fun _ _ _ _ _ => (fg_name 1 nd)) (fun _ _ _ _ _ => fts_nil) (fun _ _ _ _ _ => (fe_op fo_add (fe_op fo_mul fe_int (fe_b fc_abs e.z_abs boot_abs (fa_cons (fe_var 1) fa_nil))) (fe_ty fc_int e.z_int boot_int (fa_cons (fe_cmp fo_lt (fe_var 1) fe_int) fa_nil))))) (fa_cons (fe_op fo_add fe_int (fe_b fc_len e.z_len boot_len (fa_cons (fe_var 0) fa_nil))) fa_nil)) nd)
  (fss_cons (fs_for passN (fi_seq (fe_var 2)) (fg_name 1 nd)
  (fss_one (fs_set 3 (fe_op fo_mod (fe_ty fc_int e.z_int boot_int (fa_cons (fe_op fo_add (fe_op fo_add (fe_op fo_mul (fe_var 3) fe_int) (fe_var 1)) fe_int) fa_nil)) fe_int) nd)))
  (fss_one (fs_ret (fe_dct (fps_cons (fe_lcM (own := [("cell", 1)]) nd (fi_seq (fe_var 2)) (blkOk_by rfl) (fun _ _ _ _ _ => (fg_name 1 nd)) (fun _ _ _ _ _ => (fts_one (ft_cmp fo_ge (fe_var 1) (fe_op fo_pow fe_int fe_int)))) (fun _ _ _ _ _ => (fe_var 1))) (fps_cons (fe_var 3) (fps_cons fe_int fps_nil))))))))
theorem ok__law_draw (e : Env K mg) : FnG P w K mg base CX0 1 e._law_draw_a e._law_draw_fd ["rill", "many"] (spI K 2 T__law_draw) := okI (N := ["rill", "many", "far", "turn", "mixed", "digits"]) e._law_draw_d.fn sc__law_draw (by decide) fun cdv A outer s H XE hg0 hr => by
  have nd := sc__law_draw.nd
  have hgu := (guards_deeper A (envOfC "_law_draw" (defScope st__law_draw) s.heap.objs.size e._law_draw_a cdv)).trans hg0
  exact (fss_cons (fs_set 2 (fe_ixs (hu11 hr) (fe_var 0) fe_str) nd)
  (fss_cons (fs_if (ft_cmp (fo_ne (hu64 hr)) (fe_var 2) (fe_lst fa_nil))
  (fss_cons (fs_set 5 (fe_m fm_popAt F.slot_list_pop F.type_list_pop (fe_var 2) (fa_cons fe_int fa_nil)) nd)
  (fss_cons (fs_if (ft_cmp fo_ge (fe_var 5) (fe_var 1))
  (fss_one (fs_drop (fe_m fm_insert F.slot_list_insert F.type_list_insert (fe_var 2) (fa_cons fe_int (fa_cons (fe_op fo_fdiv (fe_var 5) (fe_var 1)) fa_nil)))))
  fss_nil)
  (fss_one (fs_ret (fe_op fo_mod (fe_ty fc_int e.z_int boot_int (fa_cons (fe_var 5) fa_nil)) (fe_var 1))))))
  fss_nil)
  (fss_cons (fs_put (hu11 hr) (fe_op fo_add (fe_ixs (hu11 hr) (fe_var 0) fe_str) fe_int) (fe_var 0) fe_str)
  (fss_cons (fs_set 3 (fe_ixs (hu11 hr) (fe_var 0) fe_str) nd)
  (fss_cons (fs_set 4 (fe_op fo_mod (fe_ty fc_int e.z_int boot_int (fa_cons (fe_op fo_add (fe_op fo_add (fe_op fo_mul (fe_ixs (hu11 hr) (fe_var 0) fe_str) fe_int) (fe_op fo_mul (fe_op fo_mul (fe_var 3) (fe_var 3)) fe_int)) (fe_op fo_mul fe_int (fe_var 3))) fa_nil)) fe_int) nd)
  (fss_cons (fs_set 4 (fe_op fo_mod (fe_ty fc_int e.z_int boot_int (fa_cons (fe_op fo_add (fe_op fo_mul (fe_var 4) fe_int) (fe_op fo_fdiv (fe_var 4) fe_int)) fa_nil)) fe_int) nd)
  (fss_cons (fs_put (hu11 hr) (fe_var 4) (fe_var 0) fe_str)
  (fss_one (fs_ret (fe_op fo_mod (fe_ty fc_int e.z_int boot_int (fa_cons (fe_op fo_fdiv (fe_var 4) fe_int) fa_nil)) (fe_var 1)))))))))))
theorem ok__law_rows (e : Env K mg) : FnG P w K mg base CX0 1 e._law_rows_a e._law_rows_fd ["many"] (spP K 1 R__law_rows) := okP (N := ["many", "found", "turn", "longer", "row"]) e._law_rows_d.fn sc__law_rows (by decide) fun cdv A outer s H XE hg0 hr => by
  have nd := sc__law_rows.nd
  have hgu := (guards_deeper A (envOfC "_law_rows" (defScope st__law_rows) s.heap.objs.size e._law_rows_a cdv)).trans hg0
  exact (fss_cons (fs_set 1 (fe_lst (fa_cons (fe_tup fa_nil) fa_nil)) nd)
  (fss_cons (fs_for passN (fi_range e.z_range (fe_var 0)) (fg_name 2 nd)
  (fss_cons (fs_set 3 (fe_lstM fa_nil) nd)
  (fss_cons (fs_for passN (fi_seq (fe_var 1)) (fg_name 4 nd)
  (fss_one (fs_drop (fe_m fm_extend F.slot_list_extend F.type_list_extend (fe_var 3) (fa_cons (fe_lst (fa_cons (fe_op fo_add (fe_var 4) (fe_tup (fa_cons fe_int fa_nil))) (fa_cons (fe_op fo_add (fe_var 4) (fe_tup (fa_cons fe_int fa_nil))) fa_nil))) fa_nil)))))
  (fss_one (fs_set 1 (fe_var 3) nd)))))
  (fss_one (fs_ret (fe_var 1)))))
theorem ok__law_places (e : Env K mg) : FnG P w K mg base CX0 1 e._law_places_a e._law_places_fd ["table"] (spP K 1 R__law_places) := okP (N := ["table"]) e._law_places_d.fn sc__law_places (by decide) fun cdv A outer s H XE hg0 hr => by
  have nd := sc__law_places.nd
  have hgu := (guards_deeper A (envOfC "_law_places" (defScope st__law_places) s.heap.objs.size e._law_places_a cdv)).trans hg0
  exact (fss_one (fs_ret (fe_op fo_sub (fe_bits (fe_b fc_len e.z_len boot_len (fa_cons (fe_var 0) fa_nil))) fe_int)))
theorem ok__law_is_int (e : Env K mg) : FnG P w K mg base CX0 1 e._law_is_int_a e._law_is_int_fd ["value"] (spP K 1 R__law_is_int) := okP (N := ["value"]) e._law_is_int_d.fn sc__law_is_int (by decide) fun cdv A outer s H XE hg0 hr => by
  have nd := sc__law_is_int.nd
  have hgu := (guards_deeper A (envOfC "_law_is_int" (defScope st__law_is_int) s.heap.objs.size e._law_is_int_a cdv)).trans hg0
  exact (fss_one (fs_ret (fe_and (fe_isa isa_int e.z_isinstance e.z_int boot_int (fe_var 0)) (fe_one (fe_not (fe_isa isa_bool e.z_isinstance e.z_bool boot_bool (fe_var 0)))))))
theorem ok__law_put (e : Env K mg) : FnG P w K mg base CX0 1 e._law_put_a e._law_put_fd ["row", "place", "thing"] (spP K 3 R__law_put) := okP (N := ["row", "place", "thing"]) e._law_put_d.fn sc__law_put (by decide) fun cdv A outer s H XE hg0 hr => by
  have nd := sc__law_put.nd
  have hgu := (guards_deeper A (envOfC "_law_put" (defScope st__law_put) s.heap.objs.size e._law_put_a cdv)).trans hg0
  exact (fss_one (fs_ret (fe_op fo_add (fe_op fo_add (fe_sl sl_data (fe_var 0) fo_none (fo_some (fe_var 1))) (fe_tup (fa_cons (fe_var 2) fa_nil))) (fe_sl sl_data (fe_var 0) (fo_some (fe_op fo_add (fe_var 1) fe_int)) fo_none))))
theorem ok_all_rows (e : Env K mg) : FnG P w K mg base CX0 2 e.all_rows_a e.all_rows_fd ["many"] (spP K 1 R_all_rows) := okP (N := ["many", "number"]) e.all_rows_d.fn sc_all_rows (by decide) fun cdv A outer s H XE hg0 hr => by
  have nd := sc_all_rows.nd
  have hgu := (guards_deeper A (envOfC "all_rows" (defScope st_all_rows) s.heap.objs.size e.all_rows_a cdv)).trans hg0
  exact (fss_one (fs_ret (fe_lc (own := [("number", 1)]) nd (fi_range e.z_range (fe_op fo_shl fe_int (fe_var 0))) (blkOk_by rfl) (fun _ _ _ _ _ => (fg_name 1 nd)) (fun _ _ _ _ _ => fts_nil) (fun _ _ _ _ _ => (fe_p ((ok_row_of e).mono (by decide)) hgu hr e.row_of_d.up e.row_of_d.fn.kp (binds_row_of e) (fa_cons (fe_var 0) (fa_cons (fe_var 1) fa_nil)))))))
theorem ok__law_one (e : Env K mg) : FnG P w K mg base CX0 2 e._law_one_a e._law_one_fd ["rill", "some"] (spI K 2 T__law_one) := okI (N := ["rill", "some"]) e._law_one_d.fn sc__law_one (by decide) fun cdv A outer s H XE hg0 hr => by
  have nd := sc__law_one.nd
  have hgu := (guards_deeper A (envOfC "_law_one" (defScope st__law_one) s.heap.objs.size e._law_one_a cdv)).trans hg0
  exact (fss_one (fs_ret (fe_ix ix_data (fe_var 1) (fe_i ((ok__law_draw e).mono (by decide)) hgu hr e._law_draw_d.up e._law_draw_d.fn.kp (binds__law_draw e) (fa_cons (fe_var 0) (fa_cons (fe_b fc_len e.z_len boot_len (fa_cons (fe_var 1) fa_nil)) fa_nil))))))
theorem ok__law_by_weights (e : Env K mg) : FnG P w K mg base CX0 2 e._law_by_weights_a e._law_by_weights_fd ["weights", "bound"] (spP K 2 R__law_by_weights) := okP (N := ["weights", "bound", "found", "row", "weight", "bit"]) e._law_by_weights_d.fn sc__law_by_weights (by decide) fun cdv A outer s H XE hg0 hr => by
  have nd := sc__law_by_weights.nd
  have hgu := (guards_deeper A (envOfC "_law_by_weights" (defScope st__law_by_weights) s.heap.objs.size e._law_by_weights_a cdv)).trans hg0
  exact (fss_cons (fs_set 2 (fe_lstM fa_nil) nd)
  (fss_cons (fs_for passN (fi_seq (fe_p ((ok__law_rows e).mono (by decide)) hgu hr e._law_rows_d.up e._law_rows_d.fn.kp (binds__law_rows e) (fa_cons (fe_b fc_len e.z_len boot_len (fa_cons (fe_var 0) fa_nil)) fa_nil))) (fg_name 3 nd)
  (fss_one (fs_drop (fe_m fm_append F.slot_list_append F.type_list_append (fe_var 2) (fa_cons (fe_ty fc_int e.z_int boot_int (fa_cons (fe_cmp fo_ge (fe_b (fc_sum rfl) e.z_sum boot_sum (fa_cons (fe_lc (own := [("weight", 4), ("bit", 5)]) nd (fi_zip e.z_zip (fe_var 0) (fe_var 3)) (blkOk_by rfl) (fun _ _ _ _ _ => (fg_tup (fgs_cons (fg_name 4 nd) (fgs_cons (fg_name 5 nd) fgs_nil)))) (fun _ _ _ _ _ => fts_nil) (fun _ _ _ _ _ => (fe_op fo_mul (fe_var 4) (fe_var 5)))) fa_nil)) (fe_var 1)) fa_nil)) fa_nil)))))
  (fss_one (fs_ret (fe_ty fc_tuple e.z_tuple boot_tuple (fa_cons (fe_var 2) fa_nil))))))
theorem ok__law_turned_cell (e : Env K mg) : FnG P w K mg base CX0 2 e._law_turned_cell_a e._law_turned_cell_fd ["rill", "table"] (spI K 2 T__law_turned_cell) := okI (N := ["rill", "table", "cell"]) e._law_turned_cell_d.fn sc__law_turned_cell (by decide) fun cdv A outer s H XE hg0 hr => by
  have nd := sc__law_turned_cell.nd
  have hgu := (guards_deeper A (envOfC "_law_turned_cell" (defScope st__law_turned_cell) s.heap.objs.size e._law_turned_cell_a cdv)).trans hg0
  exact (fss_cons (fs_set 2 (fe_i ((ok__law_draw e).mono (by decide)) hgu hr e._law_draw_d.up e._law_draw_d.fn.kp (binds__law_draw e) (fa_cons (fe_var 0) (fa_cons (fe_b fc_len e.z_len boot_len (fa_cons (fe_var 1) fa_nil)) fa_nil))) nd)
  (fss_one (fs_ret (fe_op fo_add (fe_op fo_add (fe_sl sl_data (fe_var 1) fo_none (fo_some (fe_var 2))) (fe_tup (fa_cons (fe_op fo_sub fe_int (fe_ix ix_data (fe_var 1) (fe_var 2))) fa_nil))) (fe_sl sl_data (fe_var 1) (fo_some (fe_op fo_add (fe_var 2) fe_int)) fo_none)))))
theorem ok_table_by (e : Env K mg) : FnG P w K mg base CX0 3 e.table_by_a e.table_by_fd ["weights", "bound"] (spP K 2 R_table_by) := okP (N := ["weights", "bound", "found", "row", "weight", "bit"]) e.table_by_d.fn sc_table_by (by decide) fun cdv A outer s H XE hg0 hr => by
  have nd := sc_table_by.nd
  have hgu := (guards_deeper A (envOfC "table_by" (defScope st_table_by) s.heap.objs.size e.table_by_a cdv)).trans hg0
  exact (fss_cons (fs_set 2 (fe_lstM fa_nil) nd)
  (fss_cons (fs_for passN (fi_seq (fe_p ((ok_all_rows e).mono (by decide)) hgu hr e.all_rows_d.up e.all_rows_d.fn.kp (binds_all_rows e) (fa_cons (fe_b fc_len e.z_len boot_len (fa_cons (fe_var 0) fa_nil)) fa_nil))) (fg_name 3 nd)
  (fss_one (fs_drop (fe_m fm_append F.slot_list_append F.type_list_append (fe_var 2) (fa_cons (fe_ty fc_int e.z_int boot_int (fa_cons (fe_cmp fo_ge (fe_b (fc_sum rfl) e.z_sum boot_sum (fa_cons (fe_lc (own := [("weight", 4), ("bit", 5)]) nd (fi_zip e.z_zip (fe_var 0) (fe_var 3)) (blkOk_by rfl) (fun _ _ _ _ _ => (fg_tup (fgs_cons (fg_name 4 nd) (fgs_cons (fg_name 5 nd) fgs_nil)))) (fun _ _ _ _ _ => (fts_one (ft_cmp (fo_eq (hu64 hr)) (fe_var 5) fe_int))) (fun _ _ _ _ _ => (fe_var 4))) fa_nil)) (fe_var 1)) fa_nil)) fa_nil)))))
  (fss_one (fs_ret (fe_ty fc_tuple e.z_tuple boot_tuple (fa_cons (fe_var 2) fa_nil))))))
theorem ok__law_drawn_weights (e : Env K mg) : FnG P w K mg base CX0 3 e._law_drawn_weights_a e._law_drawn_weights_fd ["rill", "many"] (spI K 2 T__law_drawn_weights) := okI (N := ["rill", "many", "weights", "place"]) e._law_drawn_weights_d.fn sc__law_drawn_weights (by decide) fun cdv A outer s H XE hg0 hr => by
  have nd := sc__law_drawn_weights.nd
  have hgu := (guards_deeper A (envOfC "_law_drawn_weights" (defScope st__law_drawn_weights) s.heap.objs.size e._law_drawn_weights_a cdv)).trans hg0
  exact (fss_cons (fs_set 2 (fe_ty fc_tuple e.z_tuple boot_tuple (fa_cons (fe_lc (own := [("place", 3)]) nd (fi_range e.z_range (fe_var 1)) (blkOk_by rfl) (fun _ _ _ _ _ => (fg_name 3 nd)) (fun _ _ _ _ _ => fts_nil) (fun _ _ _ _ _ => (fe_i ((ok__law_one e).mono (by decide)) hgu hr e._law_one_d.up e._law_one_d.fn.kp (binds__law_one e) (fa_cons (fe_var 0) (fa_cons (fe_lst (fa_cons fe_int (fa_cons fe_int (fa_cons fe_int (fa_cons fe_int (fa_cons fe_int (fa_cons (fe_un fo_neg fe_int) (fa_cons (fe_un fo_neg fe_int) (fa_cons fe_int fa_nil))))))))) fa_nil))))) fa_nil)) nd)
  (fss_one (fs_ret (fe_tup (fa_cons (fe_var 2) (fa_cons (fe_op fo_sub (fe_i ((ok__law_draw e).mono (by decide)) hgu hr e._law_draw_d.up e._law_draw_d.fn.kp (binds__law_draw e) (fa_cons (fe_var 0) (fa_cons fe_int fa_nil))) fe_int) fa_nil))))))
theorem ok__law_any (e : Env K mg) : FnG P w K mg base CX0 3 e._law_any_a e._law_any_fd ["rill"] (spI K 1 T__law_any) := okI (N := ["rill", "menu"]) e._law_any_d.fn sc__law_any (by decide) fun cdv A outer s H XE hg0 hr => by
  have nd := sc__law_any.nd
  have hgu := (guards_deeper A (envOfC "_law_any" (defScope st__law_any) s.heap.objs.size e._law_any_a cdv)).trans hg0
  exact (fss_cons (fs_set 1 (fe_lst (fa_cons fe_non (fa_cons fe_bl (fa_cons fe_int (fa_cons fe_int (fa_cons (fe_un fo_neg fe_int) (fa_cons (fe_op fo_pow fe_int fe_int) (fa_cons fe_str (fa_cons fe_str (fa_cons (fe_tup fa_nil) (fa_cons (fe_lst fa_nil) (fa_cons fe_dv0 (fa_cons (fe_tup (fa_cons (fe_tup fa_nil) fa_nil)) (fa_cons (fe_lst (fa_cons (fe_tup fa_nil) fa_nil)) (fa_cons (fe_tup (fa_cons (fe_tup fa_nil) (fa_cons (fe_tup fa_nil) fa_nil))) (fa_cons (fe_tup (fa_cons (fe_tup (fa_cons fe_int fa_nil)) (fa_cons fe_int fa_nil))) (fa_cons (fe_tup (fa_cons (fe_tup (fa_cons fe_int (fa_cons fe_int fa_nil))) (fa_cons fe_int fa_nil))) fa_nil))))))))))))))))) nd)
  (fss_one (fs_ret (fe_i ((ok__law_one e).mono (by decide)) hgu hr e._law_one_d.up e._law_one_d.fn.kp (binds__law_one e) (fa_cons (fe_var 0) (fa_cons (fe_var 1) fa_nil))))))
theorem ok__law_odd (e : Env K mg) : FnG P w K mg base CX0 3 e._law_odd_a e._law_odd_fd ["rill", "value"] (spI K 2 T__law_odd) := okI (N := ["rill", "value", "menu", "place", "own", "near"]) e._law_odd_d.fn sc__law_odd (by decide) fun cdv A outer s H XE hg0 hr => by
  have nd := sc__law_odd.nd
  have hgu := (guards_deeper A (envOfC "_law_odd" (defScope st__law_odd) s.heap.objs.size e._law_odd_a cdv)).trans hg0
  exact (fss_cons (fs_set 2 (fe_lst (fa_cons (fe_ty fc_list e.z_list boot_list (fa_cons (fe_var 1) fa_nil)) (fa_cons (fe_op fo_add (fe_var 1) (fe_sl sl_data (fe_var 1) fo_none (fo_some fe_int))) (fa_cons (fe_sl sl_data (fe_var 1) (fo_some fe_int) fo_none) (fa_cons (fe_sl sl_data (fe_var 1) fo_none (fo_some (fe_un fo_neg fe_int))) (fa_cons (fe_revA (fe_var 1)) (fa_cons fe_non (fa_cons (fe_op fo_add (fe_var 1) (fe_tup (fa_cons fe_int fa_nil))) (fa_cons (fe_tup (fa_cons (fe_var 1) fa_nil)) fa_nil))))))))) nd)
  (fss_cons (fs_if (ft_w (fw_or (ft_cmp (fo_eq (hu64 hr)) (fe_var 1) (fe_tup fa_nil)) (fw_or1 (ft_cmp (fo_eq (hu64 hr)) (fe_i ((ok__law_draw e).mono (by decide)) hgu hr e._law_draw_d.up e._law_draw_d.fn.kp (binds__law_draw e) (fa_cons (fe_var 0) (fa_cons fe_int fa_nil))) fe_int))))
  (fss_one (fs_ret (fe_i ((ok__law_one e).mono (by decide)) hgu hr e._law_one_d.up e._law_one_d.fn.kp (binds__law_one e) (fa_cons (fe_var 0) (fa_cons (fe_var 2) fa_nil)))))
  fss_nil)
  (fss_cons (fs_set 3 (fe_i ((ok__law_draw e).mono (by decide)) hgu hr e._law_draw_d.up e._law_draw_d.fn.kp (binds__law_draw e) (fa_cons (fe_var 0) (fa_cons (fe_b fc_len e.z_len boot_len (fa_cons (fe_var 1) fa_nil)) fa_nil))) nd)
  (fss_cons (fs_set 4 (fe_ix ix_data (fe_var 1) (fe_var 3)) nd)
  (fss_cons (fs_set 5 (fe_if (ft_tru (fe_p ((ok__law_is_int e).mono (by decide)) hgu hr e._law_is_int_d.up e._law_is_int_d.fn.kp (binds__law_is_int e) (fa_cons (fe_var 4) fa_nil))) (fe_lst (fa_cons (fe_op fo_add (fe_var 4) fe_int) (fa_cons (fe_un fo_neg (fe_var 4)) (fa_cons (fe_op fo_sub (fe_var 4) fe_int) (fa_cons fe_int (fa_cons fe_bl (fa_cons fe_bl (fa_cons (fe_ty fc_str e.z_str boot_str (fa_cons (fe_var 4) fa_nil)) fa_nil)))))))) (fe_lst (fa_cons fe_non (fa_cons fe_int (fa_cons (fe_tup fa_nil) (fa_cons (fe_lst (fa_cons (fe_var 4) fa_nil)) (fa_cons (fe_var 4) fa_nil))))))) nd)
  (fss_cons (fs_if (ft_w (fw_and (ft_tru (fe_isa isa_tuple e.z_isinstance e.z_tuple boot_tuple (fe_var 4))) (fw_and1 (ft_cmp (fo_ne (hu64 hr)) (fe_var 4) (fe_tup fa_nil)))))
  (fss_one (fs_set 5 (fe_op fo_add (fe_var 5) (fe_lst (fa_cons (fe_sl sl_data (fe_var 4) fo_none (fo_some (fe_un fo_neg fe_int))) (fa_cons (fe_op fo_add (fe_var 4) (fe_tup (fa_cons fe_int fa_nil))) (fa_cons (fe_revA (fe_var 4)) (fa_cons (fe_ty fc_list e.z_list boot_list (fa_cons (fe_var 4) fa_nil)) (fa_cons (fe_op fo_add (fe_var 4) (fe_var 4)) fa_nil))))))) nd))
  fss_nil)
  (fss_one (fs_ret (fe_p ((ok__law_put e).mono (by decide)) hgu hr e._law_put_d.up e._law_put_d.fn.kp (binds__law_put e) (fa_cons (fe_var 1) (fa_cons (fe_var 3) (fa_cons (fe_i ((ok__law_one e).mono (by decide)) hgu hr e._law_one_d.up e._law_one_d.fn.kp (binds__law_one e) (fa_cons (fe_var 0) (fa_cons (fe_var 5) fa_nil))) fa_nil))))))))))))
theorem ok__law_weights_fault (e : Env K mg) : FnG P w K mg base CX0 3 e._law_weights_fault_a e._law_weights_fault_fd ["table", "value"] (spP K 2 R__law_weights_fault) := okP (N := ["table", "value", "many", "row", "told", "bit", "item"]) e._law_weights_fault_d.fn sc__law_weights_fault (by decide) fun cdv A outer s H XE hg0 hr => by
  have nd := sc__law_weights_fault.nd
  have hgu := (guards_deeper A (envOfC "_law_weights_fault" (defScope st__law_weights_fault) s.heap.objs.size e._law_weights_fault_a cdv)).trans hg0
  exact (fss_cons (fs_set 2 (fe_p ((ok__law_places e).mono (by decide)) hgu hr e._law_places_d.up e._law_places_d.fn.kp (binds__law_places e) (fa_cons (fe_var 0) fa_nil)) nd)
  (fss_cons (fs_if (ft_w (fw_or (ft_not (ft_tru (fe_isa isa_tuple e.z_isinstance e.z_tuple boot_tuple (fe_var 1)))) (fw_or (ft_cmp (fo_ne (hu64 hr)) (fe_b fc_len e.z_len boot_len (fa_cons (fe_var 1) fa_nil)) fe_int) (fw_or (ft_not (ft_tru (fe_isa isa_tuple e.z_isinstance e.z_tuple boot_tuple (fe_ix ix_data (fe_var 1) fe_int)))) (fw_or1 (ft_cmp (fo_ne (hu64 hr)) (fe_b fc_len e.z_len boot_len (fa_cons (fe_ix ix_data (fe_var 1) fe_int) fa_nil)) (fe_var 2)))))))
  (fss_one (fs_ret fe_str))
  fss_nil)
  (fss_cons (fs_if (ft_not (ft_tru (fe_b (fc_all rfl) e.z_all boot_all (fa_cons (fe_lc (own := [("item", 6)]) nd (fi_seq (fe_op fo_add (fe_ix ix_data (fe_var 1) fe_int) (fe_tup (fa_cons (fe_ix ix_data (fe_var 1) fe_int) fa_nil)))) (blkOk_by rfl) (fun _ _ _ _ _ => (fg_name 6 nd)) (fun _ _ _ _ _ => fts_nil) (fun _ _ _ _ _ => (fe_p ((ok__law_is_int e).mono (by decide)) hgu hr e._law_is_int_d.up e._law_is_int_d.fn.kp (binds__law_is_int e) (fa_cons (fe_var 6) fa_nil)))) fa_nil))))
  (fss_one (fs_ret fe_str))
  fss_nil)
  (fss_cons (fs_for passN (fi_zip3 e.z_zip (fe_p ((ok__law_rows e).mono (by decide)) hgu hr e._law_rows_d.up e._law_rows_d.fn.kp (binds__law_rows e) (fa_cons (fe_var 2) fa_nil)) (fe_p ((ok__law_by_weights e).mono (by decide)) hgu hr e._law_by_weights_d.up e._law_by_weights_d.fn.kp (binds__law_by_weights e) (fa_cons (fe_ix ix_data (fe_var 1) fe_int) (fa_cons (fe_ix ix_data (fe_var 1) fe_int) fa_nil))) (fe_var 0)) (fg_tup (fgs_cons (fg_name 3 nd) (fgs_cons (fg_name 4 nd) (fgs_cons (fg_name 5 nd) fgs_nil))))
  (fss_one (fs_if (ft_cmp (fo_ne (hu64 hr)) (fe_var 4) (fe_var 5))
  (fss_one (fs_ret (fe_tup (fa_cons fe_str (fa_cons (fe_var 3) fa_nil)))))
  fss_nil)))
  (fss_one (fs_ret fe_non))))))
theorem ok_weights_error (e : Env K mg) : FnG P w K mg base CX0 4 e.weights_error_a e.weights_error_fd ["table", "value"] (spP K 2 R_weights_error) := okP (N := ["table", "value", "told", "number", "row", "weight"]) e.weights_error_d.fn sc_weights_error (by decide) fun cdv A outer s H XE hg0 hr => by
  have nd := sc_weights_error.nd
  have hgu := (guards_deeper A (envOfC "weights_error" (defScope st_weights_error) s.heap.objs.size e.weights_error_a cdv)).trans hg0
  exact (fss_cons (fs_if (ft_w (fw_or (ft_not (ft_tru (fe_p ((ok_is_tuple e).mono (by decide)) hgu hr e.is_tuple_d.up e.is_tuple_d.fn.kp (binds_is_tuple e) (fa_cons (fe_var 1) (fa_cons fe_int fa_nil))))) (fw_or (ft_not (ft_tru (fe_p ((ok_is_tuple e).mono (by decide)) hgu hr e.is_tuple_d.up e.is_tuple_d.fn.kp (binds_is_tuple e) (fa_cons (fe_ix ix_data (fe_var 1) fe_int) (fa_cons (fe_p ((ok_places_of e).mono (by decide)) hgu hr e.places_of_d.up e.places_of_d.fn.kp (binds_places_of e) (fa_cons (fe_var 0) fa_nil)) fa_nil))))) (fw_or1 (ft_not (ft_tru (fe_p ((ok_is_integer e).mono (by decide)) hgu hr e.is_integer_d.up e.is_integer_d.fn.kp (binds_is_integer e) (fa_cons (fe_ix ix_data (fe_var 1) fe_int) fa_nil))))))))
  (fss_one (fs_ret fe_str))
  fss_nil)
  (fss_cons (fs_if (ft_not (ft_tru (fe_b (fc_all rfl) e.z_all boot_all (fa_cons (fe_lc (own := [("weight", 5)]) nd (fi_seq (fe_ix ix_data (fe_var 1) fe_int)) (blkOk_by rfl) (fun _ _ _ _ _ => (fg_name 5 nd)) (fun _ _ _ _ _ => fts_nil) (fun _ _ _ _ _ => (fe_p ((ok_is_integer e).mono (by decide)) hgu hr e.is_integer_d.up e.is_integer_d.fn.kp (binds_is_integer e) (fa_cons (fe_var 5) fa_nil)))) fa_nil))))
  (fss_one (fs_ret fe_str))
  fss_nil)
  (fss_cons (fs_set 2 (fe_p ((ok_table_by e).mono (by decide)) hgu hr e.table_by_d.up e.table_by_d.fn.kp (binds_table_by e) (fa_cons (fe_ix ix_data (fe_var 1) fe_int) (fa_cons (fe_ix ix_data (fe_var 1) fe_int) fa_nil))) nd)
  (fss_cons (fs_for passN (fi_enum e.z_enumerate (fe_p ((ok_all_rows e).mono (by decide)) hgu hr e.all_rows_d.up e.all_rows_d.fn.kp (binds_all_rows e) (fa_cons (fe_p ((ok_places_of e).mono (by decide)) hgu hr e.places_of_d.up e.places_of_d.fn.kp (binds_places_of e) (fa_cons (fe_var 0) fa_nil)) fa_nil))) (fg_tup (fgs_cons (fg_name 3 nd) (fgs_cons (fg_name 4 nd) fgs_nil)))
  (fss_one (fs_if (ft_cmp (fo_ne (hu64 hr)) (fe_ix ix_data (fe_var 2) (fe_var 3)) (fe_ix ix_data (fe_var 0) (fe_var 3)))
  (fss_one (fs_ret (fe_tup (fa_cons fe_str (fa_cons (fe_var 4) fa_nil)))))
  fss_nil)))
  (fss_one (fs_ret fe_non))))))
theorem ok_law (e : Env K mg) : FnG P w K mg base CX0 5 e.law_a e.law_fd ["script"] (spP K 1 T_law) := okP (N := ["script", "rill", "turn", "table", "double", "place", "near", "values", "kept", "weights", "bound", "k", "value", "due", "told", "weight"]) e.law_d.fn sc_law (by decide) fun cdv A outer s H XE hg0 hr => by
  have nd := sc_law.nd
  have hgu := (guards_deeper A (envOfC "law" (defScope st_law) s.heap.objs.size e.law_a cdv)).trans hg0
  exact (fss_cons (fs_set 1 (fe_i ((ok__law_rill e).mono (by decide)) hgu hr e._law_rill_d.up e._law_rill_d.fn.kp (binds__law_rill e) (fa_cons (fe_var 0) fa_nil)) nd)
  (fss_cons (fs_for passN (fi_range e.z_range fe_int) (fg_name 2 nd)
  (fss_cons (fs_asg (fe_i ((ok__law_drawn_weights e).mono (by decide)) hgu hr e._law_drawn_weights_d.up e._law_drawn_weights_d.fn.kp (binds__law_drawn_weights e) (fa_cons (fe_var 1) (fa_cons (fe_i ((ok__law_one e).mono (by decide)) hgu hr e._law_one_d.up e._law_one_d.fn.kp (binds__law_one e) (fa_cons (fe_var 1) (fa_cons (fe_lst (fa_cons fe_int (fa_cons fe_int (fa_cons fe_int (fa_cons fe_int (fa_cons fe_int fa_nil)))))) fa_nil))) fa_nil))) (fg_tup (fgs_cons (fg_name 9 nd) (fgs_cons (fg_name 10 nd) fgs_nil))))
  (fss_cons (fs_set 3 (fe_p ((ok__law_by_weights e).mono (by decide)) hgu hr e._law_by_weights_d.up e._law_by_weights_d.fn.kp (binds__law_by_weights e) (fa_cons (fe_var 9) (fa_cons (fe_var 10) fa_nil))) nd)
  (fss_cons (fs_if (ft_cmp (fo_eq (hu64 hr)) (fe_i ((ok__law_draw e).mono (by decide)) hgu hr e._law_draw_d.up e._law_draw_d.fn.kp (binds__law_draw e) (fa_cons (fe_var 1) (fa_cons fe_int fa_nil))) fe_int)
  (fss_one (fs_set 3 (fe_i ((ok__law_turned_cell e).mono (by decide)) hgu hr e._law_turned_cell_d.up e._law_turned_cell_d.fn.kp (binds__law_turned_cell e) (fa_cons (fe_var 1) (fa_cons (fe_var 3) fa_nil))) nd))
  fss_nil)
  (fss_cons (fs_set 4 (fe_tup (fa_cons (fe_ty fc_tuple e.z_tuple boot_tuple (fa_cons (fe_lc (own := [("weight", 15)]) nd (fi_seq (fe_var 9)) (blkOk_by rfl) (fun _ _ _ _ _ => (fg_name 15 nd)) (fun _ _ _ _ _ => fts_nil) (fun _ _ _ _ _ => (fe_op fo_mul fe_int (fe_var 15)))) fa_nil)) (fa_cons (fe_op fo_sub (fe_op fo_mul fe_int (fe_var 10)) (fe_i ((ok__law_draw e).mono (by decide)) hgu hr e._law_draw_d.up e._law_draw_d.fn.kp (binds__law_draw e) (fa_cons (fe_var 1) (fa_cons fe_int fa_nil)))) fa_nil))) nd)
  (fss_cons (fs_set 5 (fe_i ((ok__law_draw e).mono (by decide)) hgu hr e._law_draw_d.up e._law_draw_d.fn.kp (binds__law_draw e) (fa_cons (fe_var 1) (fa_cons (fe_b fc_len e.z_len boot_len (fa_cons (fe_var 9) fa_nil)) fa_nil))) nd)
  (fss_cons (fs_set 6 (fe_tup (fa_cons (fe_p ((ok__law_put e).mono (by decide)) hgu hr e._law_put_d.up e._law_put_d.fn.kp (binds__law_put e) (fa_cons (fe_var 9) (fa_cons (fe_var 5) (fa_cons (fe_op fo_add (fe_ix ix_data (fe_var 9) (fe_var 5)) (fe_i ((ok__law_one e).mono (by decide)) hgu hr e._law_one_d.up e._law_one_d.fn.kp (binds__law_one e) (fa_cons (fe_var 1) (fa_cons (fe_lst (fa_cons fe_int (fa_cons (fe_un fo_neg fe_int) (fa_cons fe_int fa_nil)))) fa_nil)))) fa_nil)))) (fa_cons (fe_var 10) fa_nil))) nd)
  (fss_cons (fs_set 7 (fe_lstM (fa_cons (fe_tup (fa_cons (fe_var 9) (fa_cons (fe_var 10) fa_nil))) (fa_cons (fe_var 4) (fa_cons (fe_var 6) (fa_cons (fe_tup (fa_cons (fe_var 9) (fa_cons (fe_op fo_add (fe_var 10) (fe_i ((ok__law_one e).mono (by decide)) hgu hr e._law_one_d.up e._law_one_d.fn.kp (binds__law_one e) (fa_cons (fe_var 1) (fa_cons (fe_lst (fa_cons fe_int (fa_cons (fe_un fo_neg fe_int) fa_nil))) fa_nil)))) fa_nil))) (fa_cons (fe_i ((ok__law_any e).mono (by decide)) hgu hr e._law_any_d.up e._law_any_d.fn.kp (binds__law_any e) (fa_cons (fe_var 1) fa_nil)) fa_nil)))))) nd)
  (fss_cons (fs_drop (fe_m fm_append F.slot_list_append F.type_list_append (fe_var 7) (fa_cons (fe_tup (fa_cons (fe_i ((ok__law_odd e).mono (by decide)) hgu hr e._law_odd_d.up e._law_odd_d.fn.kp (binds__law_odd e) (fa_cons (fe_var 1) (fa_cons (fe_var 9) fa_nil))) (fa_cons (fe_var 10) fa_nil))) fa_nil)))
  (fss_cons (fs_drop (fe_m fm_append F.slot_list_append F.type_list_append (fe_var 7) (fa_cons (fe_i ((ok__law_odd e).mono (by decide)) hgu hr e._law_odd_d.up e._law_odd_d.fn.kp (binds__law_odd e) (fa_cons (fe_var 1) (fa_cons (fe_tup (fa_cons (fe_var 9) (fa_cons (fe_var 10) fa_nil))) fa_nil))) fa_nil)))
  (fss_cons (fs_drop (fe_m fm_append F.slot_list_append F.type_list_append (fe_var 7) (fa_cons (fe_tup (fa_cons (fe_var 9) (fa_cons (fe_i ((ok__law_one e).mono (by decide)) hgu hr e._law_one_d.up e._law_one_d.fn.kp (binds__law_one e) (fa_cons (fe_var 1) (fa_cons (fe_lst (fa_cons fe_bl (fa_cons fe_non (fa_cons (fe_ty fc_str e.z_str boot_str (fa_cons (fe_var 10) fa_nil)) (fa_cons (fe_tup (fa_cons (fe_var 10) fa_nil)) (fa_cons (fe_lst (fa_cons (fe_var 10) fa_nil)) fa_nil)))))) fa_nil))) fa_nil))) fa_nil)))
  (fss_cons (fs_set 8 (fe_b (fc_repr (hu65 hr) hgu) e.z_repr boot_repr (fa_cons (fe_lst (fa_cons (fe_var 3) (fa_cons (fe_z (fe_var 7)) fa_nil))) fa_nil)) nd)
  (fss_cons (fs_for passN (fi_enum e.z_enumerate (fe_var 7)) (fg_tup (fgs_cons (fg_name 11 nd) (fgs_cons (fg_name 12 nd) fgs_nil)))
  (fss_cons (fs_set 13 (fe_p ((ok__law_weights_fault e).mono (by decide)) hgu hr e._law_weights_fault_d.up e._law_weights_fault_d.fn.kp (binds__law_weights_fault e) (fa_cons (fe_var 3) (fa_cons (fe_var 12) fa_nil))) nd)
  (fss_cons (fs_set 14 (fe_if (ft_cmp (fo_eq (hu64 hr)) (fe_var 11) (fe_var 2)) (fe_pk0 ((ok_weights_error e).mono (by decide)) hgu hr e.weights_error_d.up e.weights_error_d.fn.kp (kw_weights_error_0 e) (fk_cons (fe_var 12) (fk_cons (fe_var 3) fk_nil))) (fe_p ((ok_weights_error e).mono (by decide)) hgu hr e.weights_error_d.up e.weights_error_d.fn.kp (binds_weights_error e) (fa_cons (fe_var 3) (fa_cons (fe_var 12) fa_nil)))) nd)
  (fss_one (fs_if (ft_cmp (fo_ne (hu64 hr)) (fe_b (fc_repr (hu65 hr) hgu) e.z_repr boot_repr (fa_cons (fe_lst (fa_cons (fe_var 14) (fa_cons (fe_p ((ok_weights_error e).mono (by decide)) hgu hr e.weights_error_d.up e.weights_error_d.fn.kp (binds_weights_error e) (fa_cons (fe_var 3) (fa_cons (fe_var 12) fa_nil))) fa_nil))) fa_nil)) (fe_b (fc_repr (hu65 hr) hgu) e.z_repr boot_repr (fa_cons (fe_lst (fa_cons (fe_var 13) (fa_cons (fe_var 13) fa_nil))) fa_nil)))
  (fss_one (fs_ret fe_bl))
  fss_nil)))))
  (fss_one (fs_if (ft_cmp (fo_ne (hu64 hr)) (fe_b (fc_repr (hu65 hr) hgu) e.z_repr boot_repr (fa_cons (fe_lst (fa_cons (fe_var 3) (fa_cons (fe_z (fe_var 7)) fa_nil))) fa_nil)) (fe_var 8))
  (fss_one (fs_ret fe_bl))
  fss_nil)))))))))))))))
  (fss_one (fs_ret fe_bl))))
end

theorem all_mk {l : PySem.W.OpenLaw} {w : World} {K : PySem.W.Frag} {h : Heap} {mg : Str → Option Value} {fa : Addr} (X : K.In h) (G : h.Ns mainGlobals mg) (hfa : mg "law" = some (.ref fa))
    {f0 : Addr} {od0 an0 : Option Addr} {sl0 : Array (Option Value)} {oc0 kV0 dc0 pm0 cd0 ct0 : Value}
    {f1 : Addr} {od1 an1 : Option Addr} {sl1 : Array (Option Value)} {oc1 kV1 dc1 pm1 cd1 ct1 : Value}
    {f2 : Addr} {od2 an2 : Option Addr} {sl2 : Array (Option Value)} {oc2 kV2 dc2 pm2 cd2 ct2 : Value}
    {f3 : Addr} {od3 an3 : Option Addr} {sl3 : Array (Option Value)} {oc3 kV3 dc3 pm3 cd3 ct3 : Value}
    {f4 : Addr} {od4 an4 : Option Addr} {sl4 : Array (Option Value)} {oc4 kV4 dc4 pm4 cd4 ct4 : Value}
    {f5 : Addr} {od5 an5 : Option Addr} {sl5 : Array (Option Value)} {oc5 kV5 dc5 pm5 cd5 ct5 : Value}
    {f6 : Addr} {od6 an6 : Option Addr} {sl6 : Array (Option Value)} {oc6 kV6 dc6 pm6 cd6 ct6 : Value}
    {f7 : Addr} {od7 an7 : Option Addr} {sl7 : Array (Option Value)} {oc7 kV7 dc7 pm7 cd7 ct7 : Value}
    {f8 : Addr} {od8 an8 : Option Addr} {sl8 : Array (Option Value)} {oc8 kV8 dc8 pm8 cd8 ct8 : Value}
    {f9 : Addr} {od9 an9 : Option Addr} {sl9 : Array (Option Value)} {oc9 kV9 dc9 pm9 cd9 ct9 : Value}
    {f10 : Addr} {od10 an10 : Option Addr} {sl10 : Array (Option Value)} {oc10 kV10 dc10 pm10 cd10 ct10 : Value}
    {f11 : Addr} {od11 an11 : Option Addr} {sl11 : Array (Option Value)} {oc11 kV11 dc11 pm11 cd11 ct11 : Value}
    {f12 : Addr} {od12 an12 : Option Addr} {sl12 : Array (Option Value)} {oc12 kV12 dc12 pm12 cd12 ct12 : Value}
    {f13 : Addr} {od13 an13 : Option Addr} {sl13 : Array (Option Value)} {oc13 kV13 dc13 pm13 cd13 ct13 : Value}
    {f14 : Addr} {od14 an14 : Option Addr} {sl14 : Array (Option Value)} {oc14 kV14 dc14 pm14 cd14 ct14 : Value}
    {f15 : Addr} {od15 an15 : Option Addr} {sl15 : Array (Option Value)} {oc15 kV15 dc15 pm15 cd15 ct15 : Value}
    {f16 : Addr} {od16 an16 : Option Addr} {sl16 : Array (Option Value)} {oc16 kV16 dc16 pm16 cd16 ct16 : Value}
    {f17 : Addr} {od17 an17 : Option Addr} {sl17 : Array (Option Value)} {oc17 kV17 dc17 pm17 cd17 ct17 : Value}
    {f18 : Addr} {od18 an18 : Option Addr} {sl18 : Array (Option Value)} {oc18 kV18 dc18 pm18 cd18 ct18 : Value}
    {f19 : Addr} {od19 an19 : Option Addr} {sl19 : Array (Option Value)} {oc19 kV19 dc19 pm19 cd19 ct19 : Value}
    {f20 : Addr} {od20 an20 : Option Addr} {sl20 : Array (Option Value)} {oc20 kV20 dc20 pm20 cd20 ct20 : Value}
    (a0 : PySem.W.nsIn K mainGlobals "is_integer" = some (some (.ref f0))) (l0 : K.lookup f0 = some ⟨oc0, od0, .func (PySem.W.fnOf "is_integer" "is_integer" (defArgs st_is_integer) (defBody st_is_integer) (defScope st_is_integer) .none kV0 dc0 pm0 an0 cd0 ct0), sl0⟩) (c0 : PySem.W.codeIn K cd0 "is_integer" = true) (k0 : PySem.W.keepIn K (.ref f0) = true)
    (a1 : PySem.W.nsIn K mainGlobals "is_tuple" = some (some (.ref f1))) (l1 : K.lookup f1 = some ⟨oc1, od1, .func (PySem.W.fnOf "is_tuple" "is_tuple" (defArgs st_is_tuple) (defBody st_is_tuple) (defScope st_is_tuple) .none kV1 dc1 pm1 an1 cd1 ct1), sl1⟩) (c1 : PySem.W.codeIn K cd1 "is_tuple" = true) (k1 : PySem.W.keepIn K (.ref f1) = true)
    (a2 : PySem.W.nsIn K mainGlobals "places_of" = some (some (.ref f2))) (l2 : K.lookup f2 = some ⟨oc2, od2, .func (PySem.W.fnOf "places_of" "places_of" (defArgs st_places_of) (defBody st_places_of) (defScope st_places_of) .none kV2 dc2 pm2 an2 cd2 ct2), sl2⟩) (c2 : PySem.W.codeIn K cd2 "places_of" = true) (k2 : PySem.W.keepIn K (.ref f2) = true)
    (a3 : PySem.W.nsIn K mainGlobals "row_of" = some (some (.ref f3))) (l3 : K.lookup f3 = some ⟨oc3, od3, .func (PySem.W.fnOf "row_of" "row_of" (defArgs st_row_of) (defBody st_row_of) (defScope st_row_of) .none kV3 dc3 pm3 an3 cd3 ct3), sl3⟩) (c3 : PySem.W.codeIn K cd3 "row_of" = true) (k3 : PySem.W.keepIn K (.ref f3) = true)
    (a4 : PySem.W.nsIn K mainGlobals "_law_rill" = some (some (.ref f4))) (l4 : K.lookup f4 = some ⟨oc4, od4, .func (PySem.W.fnOf "_law_rill" "_law_rill" (defArgs st__law_rill) (defBody st__law_rill) (defScope st__law_rill) .none kV4 dc4 pm4 an4 cd4 ct4), sl4⟩) (c4 : PySem.W.codeIn K cd4 "_law_rill" = true) (k4 : PySem.W.keepIn K (.ref f4) = true)
    (a5 : PySem.W.nsIn K mainGlobals "_law_draw" = some (some (.ref f5))) (l5 : K.lookup f5 = some ⟨oc5, od5, .func (PySem.W.fnOf "_law_draw" "_law_draw" (defArgs st__law_draw) (defBody st__law_draw) (defScope st__law_draw) .none kV5 dc5 pm5 an5 cd5 ct5), sl5⟩) (c5 : PySem.W.codeIn K cd5 "_law_draw" = true) (k5 : PySem.W.keepIn K (.ref f5) = true)
    (a6 : PySem.W.nsIn K mainGlobals "_law_rows" = some (some (.ref f6))) (l6 : K.lookup f6 = some ⟨oc6, od6, .func (PySem.W.fnOf "_law_rows" "_law_rows" (defArgs st__law_rows) (defBody st__law_rows) (defScope st__law_rows) .none kV6 dc6 pm6 an6 cd6 ct6), sl6⟩) (c6 : PySem.W.codeIn K cd6 "_law_rows" = true) (k6 : PySem.W.keepIn K (.ref f6) = true)
    (a7 : PySem.W.nsIn K mainGlobals "_law_places" = some (some (.ref f7))) (l7 : K.lookup f7 = some ⟨oc7, od7, .func (PySem.W.fnOf "_law_places" "_law_places" (defArgs st__law_places) (defBody st__law_places) (defScope st__law_places) .none kV7 dc7 pm7 an7 cd7 ct7), sl7⟩) (c7 : PySem.W.codeIn K cd7 "_law_places" = true) (k7 : PySem.W.keepIn K (.ref f7) = true)
    (a8 : PySem.W.nsIn K mainGlobals "_law_is_int" = some (some (.ref f8))) (l8 : K.lookup f8 = some ⟨oc8, od8, .func (PySem.W.fnOf "_law_is_int" "_law_is_int" (defArgs st__law_is_int) (defBody st__law_is_int) (defScope st__law_is_int) .none kV8 dc8 pm8 an8 cd8 ct8), sl8⟩) (c8 : PySem.W.codeIn K cd8 "_law_is_int" = true) (k8 : PySem.W.keepIn K (.ref f8) = true)
    (a9 : PySem.W.nsIn K mainGlobals "_law_put" = some (some (.ref f9))) (l9 : K.lookup f9 = some ⟨oc9, od9, .func (PySem.W.fnOf "_law_put" "_law_put" (defArgs st__law_put) (defBody st__law_put) (defScope st__law_put) .none kV9 dc9 pm9 an9 cd9 ct9), sl9⟩) (c9 : PySem.W.codeIn K cd9 "_law_put" = true) (k9 : PySem.W.keepIn K (.ref f9) = true)
    (a10 : PySem.W.nsIn K mainGlobals "all_rows" = some (some (.ref f10))) (l10 : K.lookup f10 = some ⟨oc10, od10, .func (PySem.W.fnOf "all_rows" "all_rows" (defArgs st_all_rows) (defBody st_all_rows) (defScope st_all_rows) .none kV10 dc10 pm10 an10 cd10 ct10), sl10⟩) (c10 : PySem.W.codeIn K cd10 "all_rows" = true) (k10 : PySem.W.keepIn K (.ref f10) = true)
    (a11 : PySem.W.nsIn K mainGlobals "_law_one" = some (some (.ref f11))) (l11 : K.lookup f11 = some ⟨oc11, od11, .func (PySem.W.fnOf "_law_one" "_law_one" (defArgs st__law_one) (defBody st__law_one) (defScope st__law_one) .none kV11 dc11 pm11 an11 cd11 ct11), sl11⟩) (c11 : PySem.W.codeIn K cd11 "_law_one" = true) (k11 : PySem.W.keepIn K (.ref f11) = true)
    (a12 : PySem.W.nsIn K mainGlobals "_law_by_weights" = some (some (.ref f12))) (l12 : K.lookup f12 = some ⟨oc12, od12, .func (PySem.W.fnOf "_law_by_weights" "_law_by_weights" (defArgs st__law_by_weights) (defBody st__law_by_weights) (defScope st__law_by_weights) .none kV12 dc12 pm12 an12 cd12 ct12), sl12⟩) (c12 : PySem.W.codeIn K cd12 "_law_by_weights" = true) (k12 : PySem.W.keepIn K (.ref f12) = true)
    (a13 : PySem.W.nsIn K mainGlobals "_law_turned_cell" = some (some (.ref f13))) (l13 : K.lookup f13 = some ⟨oc13, od13, .func (PySem.W.fnOf "_law_turned_cell" "_law_turned_cell" (defArgs st__law_turned_cell) (defBody st__law_turned_cell) (defScope st__law_turned_cell) .none kV13 dc13 pm13 an13 cd13 ct13), sl13⟩) (c13 : PySem.W.codeIn K cd13 "_law_turned_cell" = true) (k13 : PySem.W.keepIn K (.ref f13) = true)
    (a14 : PySem.W.nsIn K mainGlobals "table_by" = some (some (.ref f14))) (l14 : K.lookup f14 = some ⟨oc14, od14, .func (PySem.W.fnOf "table_by" "table_by" (defArgs st_table_by) (defBody st_table_by) (defScope st_table_by) .none kV14 dc14 pm14 an14 cd14 ct14), sl14⟩) (c14 : PySem.W.codeIn K cd14 "table_by" = true) (k14 : PySem.W.keepIn K (.ref f14) = true)
    (a15 : PySem.W.nsIn K mainGlobals "_law_drawn_weights" = some (some (.ref f15))) (l15 : K.lookup f15 = some ⟨oc15, od15, .func (PySem.W.fnOf "_law_drawn_weights" "_law_drawn_weights" (defArgs st__law_drawn_weights) (defBody st__law_drawn_weights) (defScope st__law_drawn_weights) .none kV15 dc15 pm15 an15 cd15 ct15), sl15⟩) (c15 : PySem.W.codeIn K cd15 "_law_drawn_weights" = true) (k15 : PySem.W.keepIn K (.ref f15) = true)
    (a16 : PySem.W.nsIn K mainGlobals "_law_any" = some (some (.ref f16))) (l16 : K.lookup f16 = some ⟨oc16, od16, .func (PySem.W.fnOf "_law_any" "_law_any" (defArgs st__law_any) (defBody st__law_any) (defScope st__law_any) .none kV16 dc16 pm16 an16 cd16 ct16), sl16⟩) (c16 : PySem.W.codeIn K cd16 "_law_any" = true) (k16 : PySem.W.keepIn K (.ref f16) = true)
    (a17 : PySem.W.nsIn K mainGlobals "_law_odd" = some (some (.ref f17))) (l17 : K.lookup f17 = some ⟨oc17, od17, .func (PySem.W.fnOf "_law_odd" "_law_odd" (defArgs st__law_odd) (defBody st__law_odd) (defScope st__law_odd) .none kV17 dc17 pm17 an17 cd17 ct17), sl17⟩) (c17 : PySem.W.codeIn K cd17 "_law_odd" = true) (k17 : PySem.W.keepIn K (.ref f17) = true)
    (a18 : PySem.W.nsIn K mainGlobals "_law_weights_fault" = some (some (.ref f18))) (l18 : K.lookup f18 = some ⟨oc18, od18, .func (PySem.W.fnOf "_law_weights_fault" "_law_weights_fault" (defArgs st__law_weights_fault) (defBody st__law_weights_fault) (defScope st__law_weights_fault) .none kV18 dc18 pm18 an18 cd18 ct18), sl18⟩) (c18 : PySem.W.codeIn K cd18 "_law_weights_fault" = true) (k18 : PySem.W.keepIn K (.ref f18) = true)
    (a19 : PySem.W.nsIn K mainGlobals "weights_error" = some (some (.ref f19))) (l19 : K.lookup f19 = some ⟨oc19, od19, .func (PySem.W.fnOf "weights_error" "weights_error" (defArgs st_weights_error) (defBody st_weights_error) (defScope st_weights_error) .none kV19 dc19 pm19 an19 cd19 ct19), sl19⟩) (c19 : PySem.W.codeIn K cd19 "weights_error" = true) (k19 : PySem.W.keepIn K (.ref f19) = true)
    (a20 : PySem.W.nsIn K mainGlobals "law" = some (some (.ref f20))) (l20 : K.lookup f20 = some ⟨oc20, od20, .func (PySem.W.fnOf "law" "law" (defArgs st_law) (defBody st_law) (defScope st_law) .none kV20 dc20 pm20 an20 cd20 ct20), sl20⟩) (c20 : PySem.W.codeIn K cd20 "law" = true) (k20 : PySem.W.keepIn K (.ref f20) = true)
    (z_abs : PySem.W.nsIn K mainGlobals "abs" = some none)
    (z_all : PySem.W.nsIn K mainGlobals "all" = some none)
    (z_bool : PySem.W.nsIn K mainGlobals "bool" = some none)
    (z_enumerate : PySem.W.nsIn K mainGlobals "enumerate" = some none)
    (z_int : PySem.W.nsIn K mainGlobals "int" = some none)
    (z_isinstance : PySem.W.nsIn K mainGlobals "isinstance" = some none)
    (z_len : PySem.W.nsIn K mainGlobals "len" = some none)
    (z_list : PySem.W.nsIn K mainGlobals "list" = some none)
    (z_range : PySem.W.nsIn K mainGlobals "range" = some none)
    (z_repr : PySem.W.nsIn K mainGlobals "repr" = some none)
    (z_str : PySem.W.nsIn K mainGlobals "str" = some none)
    (z_sum : PySem.W.nsIn K mainGlobals "sum" = some none)
    (z_tuple : PySem.W.nsIn K mainGlobals "tuple" = some none)
    (z_zip : PySem.W.nsIn K mainGlobals "zip" = some none)
    : ∃ fd : FuncData, (∀ (s : Shared) (v : Value), BindsTo s fd ⟨[v], []⟩ [("script", v)]) ∧ ∀ base : Heap, K.In base → base.Ns mainGlobals mg → FnG l.prog w K mg base CX0 5 fa fd ["script"] (spP K 1 T_law) := by
  have e := hfa.symm.trans (PySem.W.mg_of X G a20)
  cases e
  let E : Env K mg := {
    is_integer_a := f0, is_integer_fd := _, is_integer_d := ⟨fun_mk (st := st_is_integer) l0 c0 k0, PySem.W.mg_of X G a0⟩
    is_tuple_a := f1, is_tuple_fd := _, is_tuple_d := ⟨fun_mk (st := st_is_tuple) l1 c1 k1, PySem.W.mg_of X G a1⟩
    places_of_a := f2, places_of_fd := _, places_of_d := ⟨fun_mk (st := st_places_of) l2 c2 k2, PySem.W.mg_of X G a2⟩
    row_of_a := f3, row_of_fd := _, row_of_d := ⟨fun_mk (st := st_row_of) l3 c3 k3, PySem.W.mg_of X G a3⟩
    _law_rill_a := f4, _law_rill_fd := _, _law_rill_d := ⟨fun_mk (st := st__law_rill) l4 c4 k4, PySem.W.mg_of X G a4⟩
    _law_draw_a := f5, _law_draw_fd := _, _law_draw_d := ⟨fun_mk (st := st__law_draw) l5 c5 k5, PySem.W.mg_of X G a5⟩
    _law_rows_a := f6, _law_rows_fd := _, _law_rows_d := ⟨fun_mk (st := st__law_rows) l6 c6 k6, PySem.W.mg_of X G a6⟩
    _law_places_a := f7, _law_places_fd := _, _law_places_d := ⟨fun_mk (st := st__law_places) l7 c7 k7, PySem.W.mg_of X G a7⟩
    _law_is_int_a := f8, _law_is_int_fd := _, _law_is_int_d := ⟨fun_mk (st := st__law_is_int) l8 c8 k8, PySem.W.mg_of X G a8⟩
    _law_put_a := f9, _law_put_fd := _, _law_put_d := ⟨fun_mk (st := st__law_put) l9 c9 k9, PySem.W.mg_of X G a9⟩
    all_rows_a := f10, all_rows_fd := _, all_rows_d := ⟨fun_mk (st := st_all_rows) l10 c10 k10, PySem.W.mg_of X G a10⟩
    _law_one_a := f11, _law_one_fd := _, _law_one_d := ⟨fun_mk (st := st__law_one) l11 c11 k11, PySem.W.mg_of X G a11⟩
    _law_by_weights_a := f12, _law_by_weights_fd := _, _law_by_weights_d := ⟨fun_mk (st := st__law_by_weights) l12 c12 k12, PySem.W.mg_of X G a12⟩
    _law_turned_cell_a := f13, _law_turned_cell_fd := _, _law_turned_cell_d := ⟨fun_mk (st := st__law_turned_cell) l13 c13 k13, PySem.W.mg_of X G a13⟩
    table_by_a := f14, table_by_fd := _, table_by_d := ⟨fun_mk (st := st_table_by) l14 c14 k14, PySem.W.mg_of X G a14⟩
    _law_drawn_weights_a := f15, _law_drawn_weights_fd := _, _law_drawn_weights_d := ⟨fun_mk (st := st__law_drawn_weights) l15 c15 k15, PySem.W.mg_of X G a15⟩
    _law_any_a := f16, _law_any_fd := _, _law_any_d := ⟨fun_mk (st := st__law_any) l16 c16 k16, PySem.W.mg_of X G a16⟩
    _law_odd_a := f17, _law_odd_fd := _, _law_odd_d := ⟨fun_mk (st := st__law_odd) l17 c17 k17, PySem.W.mg_of X G a17⟩
    _law_weights_fault_a := f18, _law_weights_fault_fd := _, _law_weights_fault_d := ⟨fun_mk (st := st__law_weights_fault) l18 c18 k18, PySem.W.mg_of X G a18⟩
    weights_error_a := f19, weights_error_fd := _, weights_error_d := ⟨fun_mk (st := st_weights_error) l19 c19 k19, PySem.W.mg_of X G a19⟩
    law_a := fa, law_fd := _, law_d := ⟨fun_mk (st := st_law) l20 c20 k20, PySem.W.mg_of X G a20⟩
    z_abs := PySem.W.mg_none_of X G z_abs
    z_all := PySem.W.mg_none_of X G z_all
    z_bool := PySem.W.mg_none_of X G z_bool
    z_enumerate := PySem.W.mg_none_of X G z_enumerate
    z_int := PySem.W.mg_none_of X G z_int
    z_isinstance := PySem.W.mg_none_of X G z_isinstance
    z_len := PySem.W.mg_none_of X G z_len
    z_list := PySem.W.mg_none_of X G z_list
    z_range := PySem.W.mg_none_of X G z_range
    z_repr := PySem.W.mg_none_of X G z_repr
    z_str := PySem.W.mg_none_of X G z_str
    z_sum := PySem.W.mg_none_of X G z_sum
    z_tuple := PySem.W.mg_none_of X G z_tuple
    z_zip := PySem.W.mg_none_of X G z_zip }
  exact ⟨E.law_fd, fun s v => .of_eq rfl, fun base _ _ => ok_law E⟩

end LW
/- the steps -/
local macro_rules | `(tactic| walk_at "vset") => `(tactic| first | (dsimp only [Fz.wipeA, List.set_cons_zero, List.set_cons_succ]; done) | (dsimp only [Fz.wipeA, List.set_cons_zero, List.set_cons_succ]; exact rfl) | exact rfl)
local macro_rules | `(tactic| walk_at "vget") => `(tactic| first
  | with_reducible exact Fz.pAdd_i | with_reducible exact Fz.pSub_i | with_reducible exact Fz.pLt_i | with_reducible exact Fz.pLe_i | with_reducible exact Fz.pGt_i | with_reducible exact Fz.pGe_i | with_reducible exact Fz.pEq_i | with_reducible exact Fz.pNe_i
  | with_reducible exact Fz.fLen_l | with_reducible exact Fz.fLen_t | with_reducible exact Fz.fTuple_l | with_reducible exact Fz.fTuple_t | with_reducible exact Fz.fList_l | with_reducible exact Fz.fList_t | with_reducible exact Fz.fInt_i | with_reducible exact Fz.fInt_b | with_reducible exact Fz.fAbs_i
  | with_reducible exact Fz.pNeg_i | with_reducible exact Fz.pIsN_e | with_reducible exact Fz.pNotN_e | with_reducible exact Fz.truth_b | with_reducible exact Fz.truth_i | with_reducible exact Fz.truth_l | with_reducible exact Fz.truth_t | with_reducible exact Fz.sum_ints _ | with_reducible exact Fz.items_l' | with_reducible exact Fz.items_t' | with_reducible exact Fz.slD_l | with_reducible exact Fz.slD_t | with_reducible exact Fz.pEq_s | with_reducible exact Fz.pNe_s | with_reducible assumption)
local macro_rules | `(tactic| walk_at "v1") => `(tactic| first
  | with_reducible refine Fz.ws_seq ?_ | with_reducible refine Fz.seqk_nx ?_ | with_reducible refine Fz.ws_set ?_
  | ((with_reducible apply Fz.we_dat'); exact rfl) | ((with_reducible apply Fz.we_own); exact rfl) | ((with_reducible apply Fz.we_frz); exact rfl) | ((with_reducible apply Fz.we_ref); exact rfl)
  | with_reducible refine Fz.we_c ?_ | with_reducible refine Fz.we_op ?_ | with_reducible refine Fz.wa_cons ?_ | with_reducible refine Fz.wa_nil ?_
  | (with_reducible refine Fz.setk_dat (by walk_at "vset") ?_)
  | ((with_reducible apply Fz.GetV.mk); exact rfl; try dsimp only)
  | ((with_reducible apply Fz.Get.mk); walk_at "vget")
  | ((with_reducible apply Fz.pickk); (focus (dsimp only [Fz.pick, List.nil_append, List.cons_append, List.filterMap_cons, List.filterMap_nil, List.getElem?_cons_zero, List.getElem?_cons_succ]; first | done | exact rfl)))
  | ((with_reducible apply Fz.Call.mk); with_reducible assumption)
  | with_reducible refine Fz.we_b ?_ | with_reducible refine Fz.we_pk ?_ | with_reducible refine Fz.we_p ?_ | with_reducible refine Fz.we_i ?_ | with_reducible refine Fz.we_z ?_
  | with_reducible refine Fz.zk_dat ?_ | with_reducible refine Fz.zk_frz ?_ | with_reducible refine Fz.zk_own ?_ | ((with_reducible apply Fz.zk_al); exact rfl; walk_at "vset")
  | ((with_reducible apply Fz.ixk_d); exact rfl) | with_reducible refine Fz.ixk_l ?_ | with_reducible refine Fz.we_inT ?_ | with_reducible refine Fz.we_dnT ?_ | ((with_reducible apply Fz.dicat); exact rfl) | ((with_reducible apply Fz.putat_l); exact rfl) | ((with_reducible apply Fz.putat_d); exact rfl) | with_reducible refine Fz.we_un ?_ | with_reducible refine Fz.we_ix ?_ | with_reducible refine Fz.we_sl ?_ | with_reducible refine Fz.wo_n ?_ | with_reducible refine Fz.wo_i ?_
  | with_reducible refine Fz.we_tup ?_ | with_reducible refine Fz.we_lst ?_ | with_reducible refine Fz.we_lstM ?_ | with_reducible refine Fz.we_mulM ?_
  | with_reducible refine Fz.ws_if ?_ | with_reducible refine Fz.wt_B ?_ | with_reducible refine Fz.wt_V ?_ | with_reducible refine Fz.wt_and ?_ | with_reducible refine Fz.wt_or ?_ | with_reducible refine Fz.wt_not ?_ | with_reducible refine Fz.wt_yes ?_
  | with_reducible refine Fz.boolk ?_ | with_reducible refine Fz.intk ?_ | with_reducible refine Fz.datk ?_ | with_reducible refine Fz.itemsk_l ?_ | with_reducible refine Fz.itemsk_t ?_
  | (with_reducible refine Fz.cond_t ?_) | (with_reducible refine Fz.cond_f ?_) | ((with_reducible apply Fz.cond_n); (focus (simp; done))) | ((with_reducible apply Fz.cond_y); (focus (simp; done))) | ((with_reducible apply Fz.cond_y); (focus (simp; omega))) | ((with_reducible apply Fz.cond_n); (focus (simp; omega)))
  | with_reducible refine Fz.ws_try ?_ | with_reducible refine Fz.ws_tryAs ?_ | ((with_reducible apply Fz.inS_mk); (focus (exact Nat.le_of_ble_eq_true rfl)); walk_at "vset") | with_reducible refine Fz.rtonly ?_ | with_reducible refine Fz.wx_seq ?_ | with_reducible refine Fz.xseqk_nx ?_ | with_reducible refine Fz.wx_if ?_ | with_reducible refine Fz.wx_do ?_ | with_reducible refine Fz.wx_raise ?_ | with_reducible refine Fz.wx_ret ?_ | with_reducible refine Fz.wxe_pk ?_ | with_reducible refine Fz.wxe_p ?_ | with_reducible refine Fz.wxe_if ?_ | with_reducible refine Fz.wxe_lst2 ?_ | with_reducible refine Fz.wxe_tup2 ?_ | with_reducible refine Fz.xseqk_rt ?_
  | ((with_reducible apply Fz.CallX.mk); with_reducible assumption) | with_reducible refine Fz.resk_some ?_ | with_reducible refine Fz.resk_none ?_ | ((with_reducible apply Fz.rtx); exact rfl)
  | with_reducible refine Fz.ws_ret ?_ | with_reducible refine Fz.retk_dat ?_ | with_reducible refine Fz.retk_own ?_ | with_reducible refine Fz.retk_frz ?_ | ((with_reducible apply Fz.retk_al); exact rfl)
  | ((with_reducible apply Fz.rtp); exact rfl) | ((with_reducible apply Fz.rtp); (focus (simp [Fz.valOf]; done))) | with_reducible refine Fz.rti ?_ | with_reducible refine Fz.rti_nx ?_ | with_reducible exact Fz.rtp_nx | with_reducible refine Fz.seqk_rt ?_ | with_reducible refine Fz.seqk_bk ?_ | with_reducible refine Fz.seqk_ct ?_
  | with_reducible refine Fz.fork_nx ?_ | with_reducible refine Fz.fork_ct ?_ | with_reducible refine Fz.fork_bk ?_ | with_reducible refine Fz.fork_rt ?_
  | with_reducible refine Fz.ws_skip ?_ | with_reducible refine Fz.ws_drop ?_ | with_reducible refine Fz.ws_par ?_ | (with_reducible refine And.intro (show Fz.noAl _ = true from rfl) ?_) | with_reducible refine Fz.park_cons ?_ | with_reducible refine Fz.park_nil ?_
  | (with_reducible refine Fz.setk_ow (by walk_at "vset") ?_) | (with_reducible refine Fz.setk_frz (by walk_at "vset") ?_) | (with_reducible refine Fz.setk_ref (by walk_at "vset") ?_) | ((with_reducible apply Fz.setk_al); exact rfl; walk_at "vset")
  | with_reducible refine Fz.ws_for ?_ | with_reducible refine Fz.wi_d ?_ | with_reducible refine Fz.wi_range ?_ | with_reducible refine Fz.wi_range2 ?_ | with_reducible refine Fz.wi_zip ?_ | with_reducible refine Fz.wi_zip3 ?_ | with_reducible refine Fz.wi_enum ?_ | with_reducible refine Fz.wi_rev ?_
  | ((with_reducible apply Fz.rgk); (focus omega))
  | (with_reducible refine Fz.wg_n' (by walk_at "vset") ?_) | with_reducible refine Fz.wg_t ?_ | with_reducible refine Fz.wg_l ?_ | with_reducible refine Fz.wgs_cons ?_ | with_reducible refine Fz.wgs_nil ?_
  | with_reducible refine Fz.we_app ?_ | with_reducible refine Fz.we_ext ?_ | with_reducible refine Fz.we_pop ?_ | with_reducible refine Fz.we_popAt ?_ | with_reducible refine Fz.alk ?_ | ((with_reducible apply Fz.ownat); exact rfl)
  | ((with_reducible apply Fz.mapp); (focus (first | (simp; done) | omega)); try dsimp only [List.nil_append, List.cons_append]) | ((with_reducible apply Fz.mapp); rotate_left) | ((with_reducible apply Fz.mext); exact rfl; rotate_left)
  | with_reducible refine Fz.we_lc ?_ | with_reducible refine Fz.we_lcM ?_ | (with_reducible refine Fz.lct (by walk_at "vset") ?_) | (with_reducible refine And.intro (Eq.refl _) ?_)
  | with_reducible exact Fz.some_rfl
  | with_reducible refine Fz.ws_put ?_ | with_reducible refine Fz.ws_putN ?_ | with_reducible refine Fz.wi_B ?_ | ((with_reducible apply Fz.lenk); (focus (first | exact Nat.le_of_ble_eq_true rfl | (simp; done) | (simp; omega)))) | ((with_reducible apply Fz.lenk); rotate_left) | with_reducible refine Fz.we_if ?_ | with_reducible refine Fz.we_and ?_ | with_reducible refine Fz.we_or ?_ | with_reducible refine Fz.we_not ?_ | with_reducible refine Fz.we_chain ?_
  | with_reducible refine Fz.we_li ?_ | with_reducible refine Fz.we_rg ?_ | with_reducible refine Fz.we_rgM ?_ | with_reducible refine Fz.we_rg2 ?_ | with_reducible refine Fz.ws_while ?_ | with_reducible refine Fz.ws_retN ?_ | with_reducible refine Fz.ws_brk ?_ | with_reducible refine Fz.ws_cnt ?_ | with_reducible refine Fz.ws_parT ?_ | with_reducible refine Fz.runk_nil ?_ | with_reducible refine Fz.runk_nm ?_ | with_reducible refine Fz.runk_ix ?_ | with_reducible refine Fz.wi_range3 ?_ | with_reducible refine Fz.we_listM ?_ | with_reducible refine Fz.ws_aug ?_ | with_reducible refine Fz.we_mt ?_ | with_reducible refine Fz.kindk rfl ?_ | with_reducible refine Fz.we_ins ?_ | with_reducible refine Fz.we_addM ?_ | with_reducible refine Fz.ws_asg ?_)
local macro_rules | `(tactic| walk_at "v") => `(tactic| repeat' (walk_at "v1"))

local macro_rules | `(tactic| walk_at "vg") => `(tactic| (first | (with_reducible refine Fz.wg_n' (by walk_at "vset") ?_) | (with_reducible refine Fz.wg_t ?_) | (with_reducible refine Fz.wg_l ?_); repeat' (first | with_reducible refine Fz.wgs_cons ?_ | with_reducible refine Fz.wgs_nil ?_ | (with_reducible refine Fz.wg_n' (by walk_at "vset") ?_))))
local macro_rules | `(tactic| walk_at "wk") => `(tactic| (first | exact Fz.Wk.refl | (repeat' (first | exact trivial | (refine ⟨.inr rfl, ?_⟩) | (refine ⟨.inl rfl, ?_⟩)))))
local macro_rules | `(tactic| walk_at "nx") => `(tactic| exact ⟨_, by walk_at "wk", rfl⟩)
local macro_rules | `(tactic| walk_at "sm") => `(tactic| repeat' (first | with_reducible assumption | with_reducible exact Fz.sm_turn | ((with_reducible apply Fz.sm_putK); decide) | with_reducible apply Fz.sm_seq | with_reducible apply Fz.sm_sif | with_reducible apply Fz.sm_asg | with_reducible exact Fz.sm_v | with_reducible exact Fz.sm_c | with_reducible apply Fz.sm_op | with_reducible apply Fz.sm_ix | with_reducible apply Fz.sm_un | with_reducible apply Fz.sm_cons | with_reducible exact Fz.sm_nil | with_reducible apply Fz.sm_p | with_reducible apply Fz.sm_b | with_reducible apply Fz.sm_tB | with_reducible apply Fz.sm_tV | with_reducible apply Fz.sm_i | with_reducible apply Fz.sm_forR | with_reducible apply Fz.sm_for0 | with_reducible apply Fz.sm_while | with_reducible apply Fz.sm_putR | with_reducible apply Fz.sm_par | with_reducible apply Fz.sm_drop | with_reducible apply Fz.sm_ret | with_reducible exact Fz.sm_skip | with_reducible exact Fz.sm_brk | with_reducible exact Fz.sm_cnt | with_reducible exact Fz.sm_retN | with_reducible exact Fz.sm_nev | with_reducible apply Fz.sm_parT | with_reducible exact Fz.sm_tq_nil | with_reducible apply Fz.sm_tq_nm | with_reducible apply Fz.sm_tq_ix | with_reducible apply Fz.sm_aug | with_reducible exact Fz.sm_oN | with_reducible apply Fz.sm_oI | with_reducible apply Fz.sm_sl | with_reducible apply Fz.sm_if | with_reducible apply Fz.sm_and | with_reducible apply Fz.sm_or | with_reducible apply Fz.sm_not | with_reducible apply Fz.sm_chain | with_reducible apply Fz.sm_tAnd | with_reducible apply Fz.sm_tOr | with_reducible apply Fz.sm_tNot | with_reducible exact Fz.sm_yes | with_reducible apply Fz.sm_tup | with_reducible apply Fz.sm_lst | with_reducible apply Fz.sm_lstM | with_reducible apply Fz.sm_rK | with_reducible apply Fz.sm_z | with_reducible apply Fz.sm_dct | with_reducible exact Fz.sm_dnT | with_reducible exact Fz.sm_dn0 | with_reducible apply Fz.sm_inT | with_reducible apply Fz.sm_mulM | with_reducible apply Fz.sm_addM | with_reducible apply Fz.sm_listM | with_reducible apply Fz.sm_rg | with_reducible apply Fz.sm_rgM | with_reducible apply Fz.sm_rg2 | with_reducible apply Fz.sm_mt | with_reducible apply Fz.sm_iD | with_reducible apply Fz.sm_range | with_reducible apply Fz.sm_range2 | with_reducible apply Fz.sm_range3 | with_reducible apply Fz.sm_zip | with_reducible apply Fz.sm_zip3 | with_reducible apply Fz.sm_enum | with_reducible apply Fz.sm_rev | with_reducible apply Fz.sm_li | with_reducible apply Fz.sm_lcR | with_reducible apply Fz.sm_lcMR | with_reducible apply Fz.sm_lc0 | with_reducible apply Fz.sm_lcM0 | with_reducible apply Fz.sm_m | with_reducible exact Fz.neu_append | with_reducible exact Fz.neu_extend | with_reducible exact Fz.neu_pop | with_reducible exact Fz.neu_popAt | with_reducible exact Fz.neu_insert | with_reducible apply Fz.sm_runI | with_reducible rfl))

set_option linter.all false
set_option autoImplicit false
set_option maxRecDepth 100000
namespace LW
open PySem PyProof.Rows Fz
open L2 (ixN atI)
/-! DPre: the draws (family D), turned from BPre; they stop at BB. -/
def DM (gr : List Int) (fl tn : Int) : Mem := [.lst (gr.map fun i => .d (.int i)), .dct [(.str "far", .r 0), (.str "flow", .d (.int fl)), (.str "turn", .d (.int tn))]]
structure Dk where
  gr : List Int
  fl : Int
  tn : Int
abbrev Dk.m (d : Dk) : Mem := DM d.gr d.fl d.tn
structure Dk.ok (d : Dk) : Prop where
  len : d.gr.length ≤ 63
  pos : ∀ g, g ∈ d.gr → 0 ≤ g
  fl0 : 0 ≤ d.fl
  fl1 : d.fl < 4294967291
  tn0 : 0 ≤ d.tn
  tn1 : d.tn ≤ BB
theorem kgg : PyData.eqv (.str "far") (.str "far") = true := by decide
theorem kmm : PyData.eqv (.str "flow") (.str "flow") = true := by decide
theorem ktt : PyData.eqv (.str "turn") (.str "turn") = true := by decide
theorem kgm : PyData.eqv (.str "far") (.str "flow") = false := by decide
theorem kgt : PyData.eqv (.str "far") (.str "turn") = false := by decide
theorem kmt : PyData.eqv (.str "flow") (.str "turn") = false := by decide
theorem kmg : PyData.eqv (.str "flow") (.str "far") = false := by decide
theorem ktg : PyData.eqv (.str "turn") (.str "far") = false := by decide
theorem ktm : PyData.eqv (.str "turn") (.str "flow") = false := by decide
section
variable {gr : List Int} {fl tn v : Int} {g : Mem}
@[simp] theorem dm_len : (DM gr fl tn).length = 2 := rfl
@[simp] theorem ix_great : ixS (DM gr fl tn ++ g) (.r 1) (.str "far") = some (.r 0) := by
  simp [ixS, DM, getK, kgg]
@[simp] theorem ix_mixed : ixS (DM gr fl tn ++ g) (.r 1) (.str "flow") = some (.d (.int fl)) := by
  simp [ixS, DM, getK, kgm, kmm]
@[simp] theorem ix_turns : ixS (DM gr fl tn ++ g) (.r 1) (.str "turn") = some (.d (.int tn)) := by
  simp [ixS, DM, getK, kgt, kmt, ktt]
@[simp] theorem set_mixed : setS (DM gr fl tn ++ g) (.r 1) (.str "flow") (.d (.int v)) = some (DM gr v tn ++ g) := by
  simp [setS, DM, setK, kgm, kmm, ktm, lim]
@[simp] theorem set_turns : setS (DM gr fl tn ++ g) (.r 1) (.str "turn") (.d (.int v)) = some (DM gr fl v ++ g) := by
  simp [setS, DM, setK, kgt, kmt, ktt, lim]
@[simp] theorem isL_great : isL (DM gr fl tn ++ g) (.r 0) = true := rfl
@[simp] theorem deref_great : deref (DM gr fl tn ++ g) (.r 0) = some (.list (gr.map .int)) := by
  simp [deref, DM, allD_ints]
theorem ins_great (h : gr.length < lim) : mInsert (DM gr fl tn ++ g) (.r 0) [.d (.int 0), .d (.int v)] = some (.d .none, DM (v :: gr) fl tn ++ g) := by
  simp [mInsert, DM, h, lim]
  show gr.length < lim
  exact h
theorem pop_great : mPopAt (DM (v :: gr) fl tn ++ g) (.r 0) [.d (.int 0)] = some (.d (.int v), DM gr fl tn ++ g) := by
  simp [mPopAt, DM, lim, ixN]
end
theorem tn_dm (gr : List Int) (fl tn : Int) (g : Mem) : tnM (DM gr fl tn ++ g) = tn := tn_of (kvs := [(.str "far", .r 0), (.str "flow", .d (.int fl)), (.str "turn", .d (.int tn))]) rfl (by simp [getK, kgt, kmt, ktt])
theorem wide_BB {t : Int} (h0 : 0 ≤ t) (h1 : t ≤ BB) : pMul (.int t) (.int t) = some (.int (t * t)) := by
  have hw : wide t = true := by
    unfold wide
    have : t.natAbs ≤ 2 ^ 3000 := by
      have : (t.natAbs : Int) ≤ ((2 ^ 3000 : Nat) : Int) := by
        rw [Int.natAbs_of_nonneg h0]; exact h1
      exact Int.ofNat_le.mp this
    have h2 : (2 : Nat) ^ 3000 < 2 ^ 4000 := Nat.pow_lt_pow_right (by decide) (by decide)
    simp only [decide_eq_true_eq]
    omega
  unfold pMul
  simp only [hw, Bool.and_self, Bool.or_true, if_true]
/-- what a draw tells -/
theorem draw_ok (d : Dk) (hd : d.ok) (many : Int) (h0 : 1 ≤ many) (hm : many < 1000000000) (g : Mem) : ∃ (v : Int) (d' : Dk), d'.ok ∧ R__law_draw [.r 1, .d (.int many)] (d.m ++ g) = some (.d (.int v), d'.m ++ g) ∧ 0 ≤ v ∧ v < many := by
  obtain ⟨gr, fl, tn⟩ := d
  obtain ⟨h1, h2, h3, h4, h5, h6⟩ := hd
  simp only [Dk.m] at *
  by_cases hs : tn < BB
  case neg =>
    refine ⟨0, ⟨gr, fl, tn⟩, ⟨h1, h2, h3, h4, h5, h6⟩, ?_, Int.le_refl 0, by omega⟩
    unfold R__law_draw stopD
    rw [tn_dm, if_neg hs]
  unfold R__law_draw stopD
  simp only [tn_dm, if_pos hs]
  have hm0 : 0 < many := by omega
  have hmod : ∀ x : Int, pMod (.int x) (.int many) = some (.int (x % many)) := fun x => pMod_i hm0
  have v0 : ∀ x : Int, 0 ≤ x % many := fun x => Int.emod_nonneg _ (by omega)
  have v1 : ∀ x : Int, x % many < many := fun x => Int.emod_lt_of_pos _ hm0
  cases gr with
  | nil =>
    have q1 : ∀ x : Int, pMod (.int x) (.int 4294967291) = some (.int (x % 4294967291)) := fun x => pMod_i (by decide)
    have q2 : ∀ x : Int, pMod (.int x) (.int 4294967279) = some (.int (x % 4294967279)) := fun x => pMod_i (by decide)
    have p1 : ∀ x : Int, pMul (.int x) (.int 69621) = some (.int (x * 69621)) := fun x => pMul_i (.inr (by decide))
    have p2 : ∀ x : Int, pMul (.int x) (.int 7) = some (.int (x * 7)) := fun x => pMul_i (.inr (by decide))
    have p3 : ∀ x : Int, pMul (.int 104729) (.int x) = some (.int (104729 * x)) := fun x => pMul_i (.inl (by decide))
    have p4 : ∀ x : Int, pMul (.int x) (.int 48271) = some (.int (x * 48271)) := fun x => pMul_i (.inr (by decide))
    have p5 : pMul (.int (tn + 1)) (.int (tn + 1)) = some (.int ((tn + 1) * (tn + 1))) := wide_BB (by omega) (by omega)
    have f1 : ∀ x : Int, pFdiv (.int x) (.int 65536) = some (.int (x / 65536)) := fun x => pFdiv_i (by decide)
    have f2 : ∀ x : Int, pFdiv (.int x) (.int 1024) = some (.int (x / 1024)) := fun x => pFdiv_i (by decide)
    have nn : pNe (.list []) (.list []) = some (.bool false) := ne_nil []
    have key : ∀ m y : Int, m = (fl * 69621 + (tn + 1) * (tn + 1) * 7 + 104729 * (tn + 1)) % 4294967279 → y = (m * 48271 + m / 65536) % 4294967291 → T__law_draw [.r 1, .d (.int many)] (DM [] fl tn ++ g) = some (.d (.int (y / 1024 % many)), DM [] y (tn + 1) ++ g) := fun m y hm hy => by
      simp only [T__law_draw, runI, t__law_draw, lo0]
      simp [hmod, q1, q2, p1, p2, p3, p4, p5, f1, f2, nn]
      subst hy; subst hm; exact ⟨rfl, rfl⟩
    have hz := key _ _ rfl rfl
    generalize ((fl * 69621 + (tn + 1) * (tn + 1) * 7 + 104729 * (tn + 1)) % 4294967279 * 48271 + (fl * 69621 + (tn + 1) * (tn + 1) * 7 + 104729 * (tn + 1)) % 4294967279 / 65536) = w at hz
    have y0 : 0 ≤ w % 4294967291 := Int.emod_nonneg _ (by decide)
    have y1 : w % 4294967291 < 4294967291 := Int.emod_lt_of_pos _ (by decide)
    exact ⟨_, ⟨[], w % 4294967291, tn + 1⟩, ⟨h1, h2, y0, y1, by show (0:Int) ≤ tn + 1; omega, by show tn + 1 ≤ BB; omega⟩, hz, v0 _, v1 _⟩
  | cons y ys =>
    have hy : 0 ≤ y := h2 y (by simp)
    have f1 : pFdiv (.int y) (.int many) = some (.int (y / many)) := pFdiv_i ⟨hm0, by omega⟩
    have hl : ys.length < lim := by simp at h1; show ys.length < 1000000; omega
    have nn : pNe (.list (.int y :: ys.map .int)) (.list []) = some (.bool true) := by
      have := ne_nil (y :: ys)
      rw [List.map_cons] at this
      rw [this]; simp
    by_cases hge : many ≤ y
    · refine ⟨y % many, ⟨y / many :: ys, fl, tn⟩, ⟨by simpa using h1, fun z hz => ?_, h3, h4, h5, h6⟩, ?_, v0 _, v1 _⟩
      · rcases List.mem_cons.mp hz with q | q
        · rw [q]; exact Int.ediv_nonneg hy (by omega)
        · exact h2 z (by simp [q])
      · simp only [T__law_draw, runI, t__law_draw, lo0]
        simp [hmod, f1, pop_great, hge, ins_great hl, nn]
    · refine ⟨y % many, ⟨ys, fl, tn⟩, ⟨by simp at h1; show ys.length ≤ 63; omega, fun z hz => h2 z (by simp [hz]), h3, h4, h5, h6⟩, ?_, v0 _, v1 _⟩
      simp only [T__law_draw, runI, t__law_draw, lo0]
      simp [hmod, f1, pop_great, hge, nn]
end LW

set_option linter.all false
set_option autoImplicit false
set_option maxRecDepth 100000
namespace LW
open PySem PyProof.Rows Fz
open L2 (ixN atI)
/-! DRill: the rill from the script. -/
theorem cut_63 (xs : List PyData) : cutL xs none (some 63) = xs.take 63 := by
  unfold cutL
  rw [show HT.sIx xs.length 0 none = 0 from HT.sIx_none .., show HT.sIx xs.length xs.length (some 63) = min 63 xs.length from HT.sIx_nat xs.length xs.length 63]
  rw [List.drop_zero, Nat.sub_zero, List.take_eq_take_iff]
  omega
def ownI (x : Int) : Int := 2 * (if x < 0 then -x else x) + (if x < 0 then 1 else 0)
theorem own0 (x : Int) : 0 ≤ ownI x := by unfold ownI; split <;> omega
def blendI (b c : Int) : Int := (b * 48271 + c + 11) % 4294967291
theorem blend_in : ∀ (cs : List Int) (b : Int), 0 ≤ b → b < 4294967291 → 0 ≤ cs.foldl blendI b ∧ cs.foldl blendI b < 4294967291
  | [], b, h, h' => ⟨h, h'⟩
  | c :: cs, b, h, h' => blend_in cs _ (Int.emod_nonneg _ (by decide)) (Int.emod_lt_of_pos _ (by decide))
theorem rill_ok (ns : List Int) (hns : ns.length ≤ 63) : ∃ d : Dk, d.ok ∧ d.tn = 0 ∧ R__law_rill [.d (.list (ns.map .int))] [] = some (.r 1, d.m) := by
  have hcut : cutL (ns.map PyData.int) none (some 63) = (ns.take 63).map .int := by rw [cut_63, List.map_take]
  generalize hms : ns.take 63 = ms at hcut
  have hml : ms.length ≤ 63 := by rw [← hms, List.length_take]; omega
  have p1 : ∀ y : Int, pMul (.int 2) (.int y) = some (.int (2 * y)) := fun y => pMul_i (.inl (by decide))
  have p2 : ∀ y : Int, pMul (.int y) (.int 48271) = some (.int (y * 48271)) := fun y => pMul_i (.inr (by decide))
  have p3 : pPow (.int 10) (.int 15) = some (.int 1000000000000000) := by
    unfold pPow
    simp only
    rw [if_pos (by decide)]; rfl
  have q1 : ∀ y : Int, pMod (.int y) (.int 4294967291) = some (.int (y % 4294967291)) := fun y => pMod_i (by decide)
  have hm : ∀ xs : List Int, (xs.map PyData.int).map S.d = xs.map fun i => S.d (.int i) := fun xs => by rw [List.map_map]; rfl
  obtain ⟨cs, hcs⟩ : ∃ cs, cs = ms.map ownI := ⟨_, rfl⟩
  have hcl : cs.length = ms.length := by rw [hcs, List.length_map]
  have hc0 : ∀ g, g ∈ cs → 0 ≤ g := fun g hg => by
    rw [hcs] at hg
    obtain ⟨x, _, rfl⟩ := List.mem_map.mp hg
    exact own0 x
  have c1 : ∀ l m, lcGo [1] (gN 1) tYes (eOp pAdd (eOp pMul (eC (.int 2)) (eB fAbs [(eV 1)])) (eB fInt [(eOp pLt (eV 1) (eC (.int 0)))])) (ms.map fun i => S.d (.int i)) [some l, none, none, none] m = some (cs.map fun i => S.d (.int i), m) := fun l m => by
    have := lcGo_pure (vs := [1]) (g := gN 1) (t := tYes) (e := (eOp pAdd (eOp pMul (eC (.int 2)) (eB fAbs [(eV 1)])) (eB fInt [(eOp pLt (eV 1) (eC (.int 0)))]))) (l := [some l, none, none, none]) (m := m) (fun i : Int => S.d (.int i)) (fun _ => true) (fun i => S.d (.int (ownI i))) ms (fun x _ => ⟨[some l, some (.d (.int x)), none, none], rfl, rfl, fun _ => by simp [p1, ownI]⟩)
    rw [this, List.filter_eq_self.mpr (by simp), hcs, List.map_map]; rfl
  have c2 : ∀ (l b : S) (m : Mem), ∃ o, forGo (gN 1) (sSet 3 (eOp pMod (eB fInt [(eOp pAdd (eOp pAdd (eOp pMul (eV 3) (eC (.int 48271))) (eV 1)) (eC (.int 11)))]) (eC (.int 4294967291)))) (cs.map fun i => S.d (.int i)) [some l, none, some b, some (.d (.int (1591403 + ns.length)))] m
      = some (.nx, [some l, o, some b, some (.d (.int (cs.foldl blendI (1591403 + ns.length))))], m) := fun l b m => by
    obtain ⟨l', m', h1, o, h2, h3⟩ := forGo_inv (g := gN 1) (b := (sSet 3 (eOp pMod (eB fInt [(eOp pAdd (eOp pAdd (eOp pMul (eV 3) (eC (.int 48271))) (eV 1)) (eC (.int 11)))]) (eC (.int 4294967291))))) (fun i : Int => S.d (.int i))
      (fun pre l1 m1 => ∃ o, l1 = [some l, o, some b, some (.d (.int (pre.foldl blendI (1591403 + ns.length))))] ∧ m1 = m) cs [] [some l, none, some b, some (.d (.int (1591403 + ns.length)))] m ⟨none, rfl, rfl⟩
      (fun p x q l m e ⟨o, hl, hm⟩ => by
        subst hl hm
        exact ⟨_, _, _, rfl, by simp [p2, q1]; rfl, some (.d (.int x)), by simp [blendI], rfl⟩)
    subst h2 h3
    exact ⟨o, h1⟩
  have c3 : ∀ (l : S) (o : Option S) (b c : S) (m : Mem), lcGo [1] (gN 1) (tB (eOp pGe (eV 1) (eOp pPow (eC (.int 10)) (eC (.int 15))))) (eV 1) (cs.map fun i => S.d (.int i)) [some l, o, some b, some c] m = some ((cs.filter fun i => decide ((1000000000000000 : Int) ≤ i)).map fun i => S.d (.int i), m) := fun l o b c m =>
    lcGo_pure (fun i : Int => S.d (.int i)) (fun i => decide ((1000000000000000 : Int) ≤ i)) (fun i => S.d (.int i)) _ (fun x _ => ⟨[some l, some (.d (.int x)), some b, some c], rfl, by simp [p3], fun _ => by simp⟩)
  have hb := blend_in cs (1591403 + ns.length) (by omega) (by omega)
  refine ⟨⟨cs.filter fun i => decide ((1000000000000000 : Int) ≤ i), cs.foldl blendI (1591403 + ns.length), 0⟩, ⟨?_, ?_, hb.1, hb.2, Int.le_refl 0, ?_⟩, rfl, ?_⟩
  · exact Nat.le_trans (List.length_filter_le _ _) (by show cs.length ≤ 63; omega)
  · intro g hg
    exact hc0 g (List.mem_filter.mp hg).1
  · show (0 : Int) ≤ BB; decide +kernel
  · simp only [R__law_rill, runI, b__law_rill, lo0]
    obtain ⟨o, h2⟩ := c2 (.d (.list (ns.map .int))) (.d (.list (cs.map .int))) []
    have hm2 : ∀ xs : List Int, List.map (S.d ∘ PyData.int) xs = xs.map fun i => S.d (.int i) := fun xs => rfl
    simp [hcut, hm, c1, allD_ints]
    rw [h2]
    simp [hm, c3]
    rfl
end LW

set_option linter.all false
set_option autoImplicit false
set_option maxRecDepth 100000
namespace LW
open PySem PyProof.Rows Fz
open L2 (ixN atI)
/-! DStart: draws by value, the start of a law. -/
def PC : Pf := ⟨2, fun D => ∃ d : Dk, d.ok ∧ D = d.m⟩
theorem one_lt : 1 < PC.K := by decide
/-- a number below many -/
theorem draw_lt {many : Int} {Q : SA → Prop} (h1 : 1 ≤ many) (hm : many < 1000000000) (h : ∀ v : Int, 0 ≤ v → v < many → Q (.dat (.int v))) : IW PC R__law_draw [.r 1, .d (.int many)] Q := fun D g ⟨d, hd, e⟩ hl => by
  subst e
  obtain ⟨v, d', h1, h2, h3, h4⟩ := draw_ok d hd many h1 hm g
  exact ⟨.d (.int v), d'.m, [], .dat (.int v), by rw [List.append_nil]; exact h2, ⟨d', h1, rfl⟩, rfl, rfl, h v h3 h4⟩
theorem one_w {α : Type} (enc : α → PyData) {xs : List α} {Q : SA → Prop} (h0 : xs ≠ []) (hz : xs.length < 1000000) (h : ∀ x, x ∈ xs → Q (.dat (enc x))) : IW PC R__law_one [.r 1, .d (.list (xs.map enc))] Q := by
  have hp : 0 < xs.length := List.length_pos_iff.mpr h0
  refine gi__law_one one_lt ?_
  unfold b__law_one
  walk_at "v"
  refine draw_lt (by simp; omega) (by simp; omega) fun v v0 v1 => ?_
  rw [List.length_map] at v1
  obtain ⟨x, hx, _, e⟩ := at_list enc v0 v1
  walk_at "v"
  refine .mk e ?_
  walk_at "v"
  exact h x hx
/-- one of some values -/
theorem one_d {xs : List PyData} {Q : SA → Prop} (h0 : xs ≠ []) (hz : xs.length < 1000000) (h : ∀ x, x ∈ xs → Q (.dat x)) : IW PC R__law_one [.r 1, .d (.list xs)] Q := by
  have := one_w (fun x : PyData => x) (xs := xs) (Q := Q) h0 hz h
  rw [List.map_id'] at this
  exact this
/-- the start of a law -/
theorem law_start {n g : Nat} {restT restR : RS} {x r : PyData} {d : Dk} (sm : SS g restT restR) (hg : (g : Int) < BB) (hd : d.ok) (h0 : d.tn = 0) (e : R__law_rill [.d x] [] = some (.r 1, d.m)) (hn : 2 ≤ n) (h : WS PC restR (RtP r) (SA.dat x :: SA.ref 1 :: List.replicate (n - 2) SA.any)) :
    runP n (sSeq (sSet 1 (eI R__law_rill (rA [(eV 0)]))) restT) [x] = some r := by
  obtain ⟨j, rfl⟩ : ∃ j, n = j + 2 := ⟨n - 2, by omega⟩
  have e0 : lo0 (j + 2) ([x].map S.d) = some (.d x) :: none :: List.replicate j none := by
    simp [lo0, List.replicate_succ]
  have W : StOk PC.K (SA.dat x :: SA.ref 1 :: List.replicate j SA.any) (some (.d x) :: some (.r 1) :: List.replicate j none) d.m := by
    have := (lo0_ok (K := 2) (m := d.m) (n := j + 2) (vs := [SA.dat x, SA.ref 1]) (ss := [.d x, .r 1]) rfl (by intro k hk; simp at hk; omega)).1
    simp [st0, lo0] at this
    exact this
  rw [Nat.add_sub_cancel] at h
  obtain ⟨c, l', m', o, h1, h2, h3, h4⟩ := h _ d.m ⟨Nat.le_refl 2, ⟨d, hd, rfl⟩⟩ W
  have s1 : sSet 1 (eI R__law_rill (rA [(eV 0)])) (some (.d x) :: none :: List.replicate j none) [] = some (.nx, some (.d x) :: some (.r 1) :: List.replicate j none, d.m) := by simp [e]
  obtain ⟨st, sm2⟩ := sm _ d.m (Nat.le_refl 2) _ h1
  have ht : tnM d.m = 0 := by
    have := tn_dm d.gr d.fl d.tn []
    rw [List.append_nil] at this
    rw [show d.m = DM d.gr d.fl d.tn from rfl, this, h0]
  have h1 := sm2 (by have := st.hi; rw [ht] at this; simp only at this ⊢; omega)
  simp only [runP, e0]
  rw [seq_go s1, h1]
  simp only [Option.bind_some]
  cases o with
  | nx st' => obtain ⟨rfl, _⟩ := h3; cases (show r = .none from h4); rfl
  | bk st' => exact h4.elim
  | ct st' => exact h4.elim
  | rt v => obtain ⟨s, rfl, q, _⟩ := h3; exact rt_deref q h4
end LW

set_option linter.all false
set_option autoImplicit false
set_option maxRecDepth 100000
namespace LW
open PySem PyProof.Rows Fz
open L2 (ixN atI)
/-! DSim: what each def adds to the count of draws. -/
set_option maxHeartbeats 4000000
theorem sm__law_draw : SF 1 T__law_draw R__law_draw := by
  refine sm_stop ?_
  apply SF.le
  case a => unfold T__law_draw t__law_draw; walk_at "sm"
  case q => decide +kernel
theorem sm__law_one : SF (2 ^ 128) T__law_one R__law_one := by
  have h__law_draw := sm__law_draw
  apply SF.le
  case a => unfold T__law_one R__law_one t__law_one b__law_one; walk_at "sm"
  case q => decide +kernel
theorem sm__law_turned_cell : SF (2 ^ 128) T__law_turned_cell R__law_turned_cell := by
  have h__law_draw := sm__law_draw
  apply SF.le
  case a => unfold T__law_turned_cell R__law_turned_cell t__law_turned_cell b__law_turned_cell; walk_at "sm"
  case q => decide +kernel
theorem sm__law_drawn_weights : SF (2 ^ 192) T__law_drawn_weights R__law_drawn_weights := by
  have h__law_draw := sm__law_draw
  have h__law_one := sm__law_one
  apply SF.le
  case a => unfold T__law_drawn_weights R__law_drawn_weights t__law_drawn_weights b__law_drawn_weights; walk_at "sm"
  case q => decide +kernel
theorem sm__law_any : SF (2 ^ 192) T__law_any R__law_any := by
  have h__law_one := sm__law_one
  apply SF.le
  case a => unfold T__law_any R__law_any t__law_any b__law_any; walk_at "sm"
  case q => decide +kernel
theorem sm__law_odd : SF (2 ^ 192) T__law_odd R__law_odd := by
  have h__law_draw := sm__law_draw
  have h__law_one := sm__law_one
  apply SF.le
  case a => unfold T__law_odd R__law_odd t__law_odd b__law_odd; walk_at "sm"
  case q => decide +kernel
theorem sm_law : SS (2 ^ 320) tr_law br_law := by
  have h__law_any := sm__law_any
  have h__law_draw := sm__law_draw
  have h__law_drawn_weights := sm__law_drawn_weights
  have h__law_odd := sm__law_odd
  have h__law_one := sm__law_one
  have h__law_turned_cell := sm__law_turned_cell
  apply SS.le
  case a => unfold tr_law br_law; walk_at "sm"
  case q => decide +kernel
end LW

set_option linter.all false
set_option autoImplicit false
set_option maxRecDepth 100000
namespace LW
open PySem PyProof.Rows Fz
open L2 (ixN atI)
/-! DTab: rows, tables told by weights, drawn weights, a cell turned (family D). -/
theorem rows_ok {k : Nat} (h6 : k ≤ 6) : R__law_rows [.int (k : Int)] = some (.list ((rowsL k).map rowD)) := by
  match k, h6 with
  | 0, _ => kernel_rfl
  | 1, _ => kernel_rfl
  | 2, _ => kernel_rfl
  | 3, _ => kernel_rfl
  | 4, _ => kernel_rfl
  | 5, _ => kernel_rfl
  | 6, _ => kernel_rfl
theorem pow_in {k : Nat} (hk : 1 ≤ k) (hk6 : k ≤ 6) : 2 ≤ 2 ^ k ∧ 2 ^ k ≤ 64 := by
  have e1 : 2 ^ 1 ≤ 2 ^ k := Nat.pow_le_pow_right (by decide) hk
  have e2 : 2 ^ k ≤ 2 ^ 6 := Nat.pow_le_pow_right (by decide) hk6
  omega
theorem shl_one {k : Nat} (h : k ≤ 6) : pShl (.int 1) (.int (k : Nat)) = some (.int ((2 ^ k : Nat) : Int)) := by
  unfold pShl
  simp only
  rw [if_pos ⟨by omega, by omega, by decide⟩]
  simp
theorem pairs_zip (r s : List Int) : pairs (r.map .int) (s.map .int) = (r.zip s).map fun p => .tuple [.int p.1, .int p.2] := by
  induction r generalizing s with
  | nil => rfl
  | cons a r ih => cases s with
    | nil => rfl
    | cons b s => simp only [List.map_cons, pairs, List.zip_cons_cons, ih]
theorem cut_take {t : List Int} {i : Nat} (h : i ≤ t.length) : cutL (t.map PyData.int) none (some (i : Int)) = (t.take i).map .int := by
  unfold cutL
  rw [show HT.sIx (t.map PyData.int).length 0 none = 0 from HT.sIx_none .., show HT.sIx (t.map PyData.int).length (t.map PyData.int).length (some (i : Int)) = min i (t.map PyData.int).length from HT.sIx_nat _ _ i]
  rw [List.length_map, Nat.min_eq_left h, List.drop_zero, Nat.sub_zero, List.map_take]
theorem cut_drop {t : List Int} {i : Nat} (h : i ≤ t.length) : cutL (t.map PyData.int) (some (i : Int)) none = (t.drop i).map .int := by
  unfold cutL
  rw [show HT.sIx (t.map PyData.int).length 0 (some (i : Int)) = min i (t.map PyData.int).length from HT.sIx_nat _ _ i, show HT.sIx (t.map PyData.int).length (t.map PyData.int).length none = (t.map PyData.int).length from HT.sIx_none ..]
  rw [List.length_map, Nat.min_eq_left h, List.take_of_length_le (by simp), List.map_drop]
theorem add_tup {xs ys : List Int} (h : xs.length + ys.length ≤ 1000000) : pAdd (.tuple (xs.map .int)) (.tuple (ys.map .int)) = some (.tuple ((xs ++ ys).map .int)) := by
  show (if (xs.map PyData.int).length + (ys.map PyData.int).length ≤ lim then _ else _) = _
  rw [if_pos (by rw [List.length_map, List.length_map]; exact h), List.map_append]
theorem any_bools {α : Type} (xs : List α) (f : α → Bool) : fAny [.list (xs.map fun x => .bool (f x))] = some (.bool (xs.any f)) := by
  rw [show (xs.map fun x => PyData.bool (f x)) = (xs.map f).map .bool by rw [List.map_map]; rfl]
  simp only [fAny, asB_map, Option.map_some, List.any_map]; rfl
theorem all_bools {α : Type} (xs : List α) (f : α → Bool) : fAll [.list (xs.map fun x => .bool (f x))] = some (.bool (xs.all f)) := by
  rw [show (xs.map fun x => PyData.bool (f x)) = (xs.map f).map .bool by rw [List.map_map]; rfl]
  simp only [fAll, asB_map, Option.map_some, List.all_map]; rfl
/-- what weights tell at a row -/
def dotL (ws r : List Int) : Int := ((ws.zip r).map fun p => p.1 * p.2).sum
def wcell (ws : List Int) (b : Int) (r : List Int) : Int := if decide (b ≤ dotL ws r) = true then 1 else 0
def wtab (ws : List Int) (b : Int) : List Int := (rowsL ws.length).map (wcell ws b)
theorem wtab_tab (ws : List Int) (b : Int) : Tab ws.length (wtab ws b) := ⟨by rw [wtab, List.length_map, rowsL_len], fun c hc => by
  obtain ⟨r, _, rfl⟩ := List.mem_map.mp hc
  unfold wcell
  split <;> simp⟩
theorem by_weights_ok {ws : List Int} {b : Int} (h6 : ws.length ≤ 6) : R__law_by_weights [.tuple (ws.map .int), .int b] = some (tabD (wtab ws b)) := by
  have hr : R__law_rows [.int ((ws.map PyData.int).length : Nat)] = some (.list ((rowsL ws.length).map rowD)) := by
    rw [List.length_map]; exact rows_ok h6
  have hl : (rowsL ws.length).length ≤ 64 := by
    rw [rowsL_len]
    exact Nat.le_trans (Nat.pow_le_pow_right (by decide) h6) (by decide)
  refine go__law_by_weights ?_
  unfold b__law_by_weights
  walk_at "v"
  refine wf_inv rowD (fun pre s => s = [SA.dat (.tuple (ws.map .int)), SA.dat (.int b), SA.own (pre.map fun r => .int (wcell ws b r)), SA.any, SA.any, SA.any]) (rowsL ws.length) [] ⟨_, Wk.refl, rfl⟩ ?_ ?_
  · rintro q y r s1 he rfl
    have hy : y ∈ rowsL ws.length := by
      have : y ∈ [] ++ rowsL ws.length := by rw [he]; simp
      simpa using this
    obtain ⟨l1, l2⟩ := rowsL_row hy
    have hq : q.length ≤ 64 := by
      have := congrArg List.length he
      simp at this; omega
    walk_at "v"
    rw [pairs_zip]
    refine wl_map (fun p : Int × Int => PyData.tuple [.int p.1, .int p.2]) (fun p => .int (p.1 * p.2)) (tgin_t (by intro g hg; simp at hg; rcases hg with rfl | rfl <;> exact tgin_n)) (fun p hp => ?_) ?_
    · have hb := l2 p.2 (List.of_mem_zip hp).2
      have e := pMul_i (i := p.1) (j := p.2) (.inr (by omega))
      walk_at "v"
    · have e : fSum [.list ((ws.zip y).map fun p => PyData.int (p.1 * p.2))] = some (.int ((ws.zip y).map fun p => p.1 * p.2).sum) := by
        have := sum_ints ((ws.zip y).map fun p => p.1 * p.2)
        rwa [List.map_map] at this
      have hq2 : (q.map fun r => PyData.int (wcell ws b r)).length < 1000000 := by rw [List.length_map]; omega
      rw [List.map_append]
      walk_at "v"
      walk_at "nx"
  · rintro s1 rfl
    walk_at "v"
    refine Fz.rtp ?_
    show some (PyData.tuple _) = some (PyData.tuple _)
    rw [wtab, List.map_map]; rfl
end LW

set_option linter.all false
set_option autoImplicit false
set_option maxRecDepth 100000
namespace LW
open PySem PyProof.Rows Fz
open L2 (ixN atI)
/-! DTab2: drawn tables (family D), by value. -/
theorem turned_w {k : Nat} (hk6 : k ≤ 6) {t : List Int} (ht : Tab k t) {Q : SA → Prop} (h : ∀ t', Tab k t' → Q (.dat (tabD t'))) : IW PC R__law_turned_cell [.r 1, .d (tabD t)] Q := by
  have hl := ht.len
  have hp : 0 < 2 ^ k := Nat.pow_pos (by decide)
  have hp6 : 2 ^ k ≤ 64 := Nat.le_trans (Nat.pow_le_pow_right (by decide) hk6) (by decide)
  refine gi__law_turned_cell one_lt ?_
  unfold b__law_turned_cell
  walk_at "v"
  refine draw_lt (by simp; omega) (by simp; omega) fun i i0 il => ?_
  obtain ⟨n, rfl⟩ := Int.eq_ofNat_of_zero_le i0
  simp at il
  have hn : n < t.length := by exact_mod_cast il
  have ea : ixD (tabD t) (.int (n : Nat)) = some (.int t[n]) := L2.atI_nat (by rw [List.getElem?_map, List.getElem?_eq_getElem hn]; rfl)
  walk_at "v"
  rw [cut_take (by omega)]
  refine .mk (add_tup (xs := t.take n) (ys := [1 - t[n]]) (by simp; omega)) ?_
  walk_at "v"
  rw [show ((n : Int) + 1) = ((n + 1 : Nat) : Int) from rfl, cut_drop (by omega)]
  refine .mk (add_tup (by simp; omega)) ?_
  walk_at "v"
  refine h _ ⟨by simp; omega, fun c hc => ?_⟩
  have hb := ht.bit
  rcases List.mem_append.mp hc with hc | hc
  · rcases List.mem_append.mp hc with hc | hc
    · exact hb c (List.mem_of_mem_take hc)
    · have := hb t[n] (List.getElem_mem hn)
      rw [List.mem_singleton.mp hc]; omega
  · exact hb c (List.mem_of_mem_drop hc)
theorem drawn_w {k : Nat} (hk6 : k ≤ 6) {Q : SA → Prop} (h : ∀ (ws : List Int) (b : Int), ws.length = k → (∀ w, w ∈ ws → -2 ≤ w ∧ w ≤ 5) → -3 ≤ b → b ≤ 5 → Q (.dat (.tuple [.tuple (ws.map .int), .int b]))) : IW PC R__law_drawn_weights [.r 1, .d (.int k)] Q := by
  refine gi__law_drawn_weights one_lt ?_
  unfold b__law_drawn_weights
  walk_at "v"
  refine wl_all (fun i : Nat => PyData.int i) (fun _ d => ∃ w : Int, d = .int w ∧ (-2 ≤ w ∧ w ≤ 5)) tgin_n (fun i hi => ?_) fun ds hds => ?_
  · walk_at "v"
    refine one_w PyData.int (xs := [0, 1, 1, 2, 3, -1, -2, 5]) (by simp) (by simp) fun x hx => ?_
    walk_at "v"
    refine ⟨_, rfl, x, rfl, ?_⟩
    simp at hx; omega
  obtain ⟨ws, rfl, hw, hl⟩ := paired_dec PyData.int (fun w : Int => -2 ≤ w ∧ w ≤ 5) (fun _ d ⟨c, h1, h2⟩ => ⟨c, h1, h2⟩) hds
  walk_at "v"
  refine draw_lt (by decide) (by decide) fun v v0 v1 => ?_
  walk_at "v"
  exact h ws (v - 3) (by simpa using hl) hw (by omega) (by omega)
end LW

set_option linter.all false
set_option autoImplicit false
set_option maxRecDepth 100000
namespace LW
open PySem PyProof.Rows Fz
open L2 (ixN atI)
/-! CPlaces: places_of. -/
theorem places_ok {k : Nat} (hk : 1 ≤ k) (hk6 : k ≤ 6) {t : List Int} (ht : Tab k t) : R_places_of [tabD t] = some (.int k) := by
  refine go_places_of ?_
  unfold b_places_of
  walk_at "v"
  refine ww_inv (fun n s => ∃ j : Nat, j + n = k ∧ s = [SA.dat (tabD t), SA.dat (.int j)]) (k - 1) 1000 (by omega) ⟨_, Wk.refl, 1, by omega, rfl⟩ ?_
  rintro n s ⟨j, hj, rfl⟩
  have e : pShl (.int 1) (.int (j : Int)) = some (.int ((2 ^ j : Nat) : Int)) := by
    unfold pShl
    simp only
    rw [if_pos ⟨by omega, by omega, by decide⟩]
    simp
  walk_at "v"
  have hl : (t.map PyData.int).length = 2 ^ k := by rw [List.length_map, ht.len]
  rw [hl]
  refine ⟨fun h => ?_, fun h => ?_⟩
  · have h : (2 ^ j : Nat) < 2 ^ k := Int.ofNat_lt.mp (of_decide_eq_true h)
    have hjk : j < k := (Nat.pow_lt_pow_iff_right (by decide)).mp h
    refine ⟨by omega, ?_⟩
    walk_at "v"
    exact ⟨n - 1, _, by omega, Wk.refl, j + 1, by omega, rfl⟩
  · have h : ¬ (2 ^ j : Nat) < 2 ^ k := fun z => of_decide_eq_false h (Int.ofNat_lt.mpr z)
    have hjk : ¬ j < k := fun z => h (Nat.pow_lt_pow_right (by decide) z)
    have : j = k := by omega
    subst this
    walk_at "v"
end LW

set_option linter.all false
set_option autoImplicit false
set_option maxRecDepth 100000
namespace LW
open PySem PyProof.Rows Fz
open L2 (ixN atI)
/-! KCut: slices, sums of lists, repr of small things. -/
theorem cutG_take {xs : List PyData} {i : Nat} (h : i ≤ xs.length) : cutL xs none (some (i : Int)) = xs.take i := by
  unfold cutL
  rw [show HT.sIx xs.length 0 none = 0 from HT.sIx_none .., show HT.sIx xs.length xs.length (some (i : Int)) = min i xs.length from HT.sIx_nat _ _ i]
  rw [Nat.min_eq_left h, List.drop_zero, Nat.sub_zero]
theorem cutG_drop {xs : List PyData} {i : Nat} (h : i ≤ xs.length) : cutL xs (some (i : Int)) none = xs.drop i := by
  unfold cutL
  rw [show HT.sIx xs.length 0 (some (i : Int)) = min i xs.length from HT.sIx_nat _ _ i, show HT.sIx xs.length xs.length none = xs.length from HT.sIx_none ..]
  rw [Nat.min_eq_left h, List.take_of_length_le (by simp)]
theorem addG_t {xs ys : List PyData} (h : xs.length + ys.length ≤ 1000000) : pAdd (.tuple xs) (.tuple ys) = some (.tuple (xs ++ ys)) := by
  show (if xs.length + ys.length ≤ lim then _ else _) = _
  exact if_pos h
theorem addG_l {xs ys : List PyData} (h : xs.length + ys.length ≤ 1000000) : pAdd (.list xs) (.list ys) = some (.list (xs ++ ys)) := by
  show (if xs.length + ys.length ≤ lim then _ else _) = _
  exact if_pos h
theorem pow30 : pPow (.int 10) (.int 30) = some (.int (10 ^ 30)) := by
  unfold pPow
  simp only
  rw [if_pos (by decide)]; rfl
theorem repr_any {n c : Nat} {d : PyData} (h : SmB n c d) (hn : n ≤ 64) (hc : c ≤ 1200) : fRepr [d] = some (.str (PyData.shown d)) := by
  have ok := h.repr hn hc
  cases d <;> simp only [fRepr, if_pos ok]
end LW

set_option linter.all false
set_option autoImplicit false
set_option maxRecDepth 100000
namespace LW
open PySem PyProof.Rows Fz
open L2 (ixN atI)
/-! KCost: what repr costs, of pieces; kinds of values. -/
theorem cost_len : ∀ ds : List PyData, ds.length ≤ costBAll ds
  | [] => by simp
  | d :: ds => by have := cost_len ds; have := costB_pos d; simp only [List.length_cons, costBAll]; omega
theorem cost_mem : ∀ {ds : List PyData} {d : PyData}, d ∈ ds → costB d ≤ costBAll ds
  | d :: ds, x, h => by
    simp only [costBAll]
    rcases List.mem_cons.mp h with rfl | h
    · omega
    · have := cost_mem h; omega
theorem depth_mem : ∀ {ds : List PyData} {d : PyData}, d ∈ ds → d.depth ≤ PyData.depthAll ds
  | d :: ds, x, h => by
    simp only [PyData.depthAll]
    rcases List.mem_cons.mp h with rfl | h
    · omega
    · have := depth_mem h; omega
theorem costB_app : ∀ xs ys : List PyData, costBAll (xs ++ ys) = costBAll xs + costBAll ys
  | [], ys => by simp [costBAll]
  | x :: xs, ys => by simp only [List.cons_append, costBAll, costB_app xs ys]; omega
theorem depth_app : ∀ xs ys : List PyData, PyData.depthAll (xs ++ ys) = max (PyData.depthAll xs) (PyData.depthAll ys)
  | [], ys => by simp [PyData.depthAll]
  | x :: xs, ys => by simp only [List.cons_append, PyData.depthAll, depth_app xs ys]; omega
theorem parts {ds : List PyData} {i : Nat} (h : i < ds.length) : costBAll (ds.take i) + costB ds[i] + costBAll (ds.drop (i + 1)) = costBAll ds ∧ PyData.depthAll (ds.take i) ≤ PyData.depthAll ds ∧ PyData.depthAll (ds.drop (i + 1)) ≤ PyData.depthAll ds ∧ ds[i].depth ≤ PyData.depthAll ds := by
  have e : ds = ds.take i ++ ds[i] :: ds.drop (i + 1) := by rw [← List.drop_eq_getElem_cons h, List.take_append_drop]
  have e1 := congrArg costBAll e
  have e2 := congrArg PyData.depthAll e
  rw [costB_app, costBAll] at e1
  rw [depth_app, PyData.depthAll] at e2
  omega
theorem cut_c (ds : List PyData) (i : Nat) : costBAll (ds.take i) + costBAll (ds.drop i) = costBAll ds ∧ PyData.depthAll (ds.take i) ≤ PyData.depthAll ds ∧ PyData.depthAll (ds.drop i) ≤ PyData.depthAll ds := by
  have e1 := costB_app (ds.take i) (ds.drop i)
  have e2 := depth_app (ds.take i) (ds.drop i)
  rw [List.take_append_drop] at e1 e2
  omega
/-- depth and cost of a tuple -/
theorem tup_c (ds : List PyData) : PyData.depth (.tuple ds) = PyData.depthAll ds + 1 ∧ costB (.tuple ds) = costBAll ds + 1 := ⟨by simp only [PyData.depth], by simp only [costB]⟩
theorem lst_c (ds : List PyData) : PyData.depth (.list ds) = PyData.depthAll ds + 1 ∧ costB (.list ds) = costBAll ds + 1 := ⟨by simp only [PyData.depth], by simp only [costB]⟩
theorem rev_c : ∀ ds : List PyData, costBAll ds.reverse = costBAll ds ∧ PyData.depthAll ds.reverse = PyData.depthAll ds
  | [] => ⟨rfl, rfl⟩
  | d :: ds => by
    obtain ⟨a, b⟩ := rev_c ds
    rw [List.reverse_cons, costB_app, depth_app, a, b]
    simp only [costBAll, PyData.depthAll]
    omega
theorem str_cost {k : Nat} (hk : k ≤ 100) {c : Int} (h : c.natAbs < 10 ^ k) (h1 : 1 ≤ k) : costB (.str (Str.ofString (toString c))) ≤ k + 2 := by
  have e := int_text_length_le10 (k := k) h1 h
  simp only [costB]
  rw [Str.ofString_eq_toList, if_pos]
  · simp only [List.size_toArray, List.length_map, String.length_toList]
    omega
  · rw [List.all_eq_true]
    intro x hx
    simp only [List.mem_map] at hx
    obtain ⟨y, _, rfl⟩ := hx
    rw [decide_eq_true_eq]
    exact Nat.lt_of_lt_of_le (UInt32.toNat_lt y.val) (by decide)
theorem fstr_ok {c : Int} (h : c.natAbs < 10 ^ 100) : fStr [.int c] = some (.str (Str.ofString (toString c))) := by
  show (if _ then _ else _) = _
  rw [if_pos]
  have h2 : c.natAbs < 2 ^ 1920 := Nat.lt_of_lt_of_le h (Nat.le_trans (Nat.pow_le_pow_left (show 10 ≤ 2 ^ 4 by decide) 100) (by rw [← Nat.pow_mul]; exact Nat.pow_le_pow_right (by decide) (by decide)))
  exact log2_le h2 (by decide)
def isI : PyData → Bool
  | .int _ => true
  | _ => false
def isT : PyData → Bool
  | .tuple _ => true
  | _ => false
theorem isa_t (d : PyData) : isaD "tuple" d = some (.bool (isT d)) := by cases d <;> rfl
theorem isa_i (d : PyData) : isaD "int" d = some (.bool (match d with | .int _ => true | .bool _ => true | _ => false)) := by cases d <;> rfl
theorem isa_b (d : PyData) : isaD "bool" d = some (.bool (match d with | .bool _ => true | _ => false)) := by cases d <;> rfl
theorem isT_inv {v : PyData} (h : isT v = true) : ∃ ds, v = .tuple ds := by
  cases v <;> first | exact ⟨_, rfl⟩ | (simp [isT] at h)
theorem isI_inv {v : PyData} (h : isI v = true) : ∃ i, v = .int i := by
  cases v <;> first | exact ⟨_, rfl⟩ | (simp [isI] at h)
theorem is_integer_ok (d : PyData) : R_is_integer [d] = some (.bool (isI d)) := by cases d <;> rfl
theorem law_is_int_ok (d : PyData) : R__law_is_int [d] = some (.bool (isI d)) := by cases d <;> rfl
def tupN (n : Int) : PyData → Bool
  | .tuple ds => decide ((ds.length : Int) = n)
  | _ => false
theorem is_tuple_ok (d : PyData) (n : Int) : R_is_tuple [d, .int n] = some (.bool (tupN n d)) := by
  have h := isa_t d
  refine go_is_tuple ?_
  unfold b_is_tuple
  walk_at "v"
  cases d <;> (simp only [isT, tupN]) <;> walk_at "v"
end LW

set_option linter.all false
set_option autoImplicit false
set_option maxRecDepth 100000
namespace LW
open PySem PyProof.Rows Fz
open L2 (ixN atI)
/-! K58: what is wrong with weights, both ways. -/
def asInts : List PyData → Option (List Int)
  | [] => some []
  | .int i :: r => (asInts r).map (i :: ·)
  | _ :: _ => none
theorem asInts_map : ∀ {ds : List PyData} {is : List Int}, asInts ds = some is → ds = is.map .int
  | [], is, h => by cases h; rfl
  | .int i :: r, is, h => by
    simp only [asInts, Option.map_eq_some_iff] at h
    obtain ⟨js, h, rfl⟩ := h
    rw [asInts_map h]; rfl
  | .none :: r, is, h => by cases h
  | .bool _ :: r, is, h => by cases h
  | .str _ :: r, is, h => by cases h
  | .list _ :: r, is, h => by cases h
  | .tuple _ :: r, is, h => by cases h
  | .dict _ :: r, is, h => by cases h
theorem asInts_all : ∀ ds : List PyData, (ds.all isI) = (asInts ds).isSome
  | [] => rfl
  | .int i :: r => by simp only [List.all_cons, isI, Bool.true_and, asInts_all r, asInts, Option.isSome_map]
  | .none :: r => by simp [asInts, isI]
  | .bool _ :: r => by simp [asInts, isI]
  | .str _ :: r => by simp [asInts, isI]
  | .list _ :: r => by simp [asInts, isI]
  | .tuple _ :: r => by simp [asInts, isI]
  | .dict _ :: r => by simp [asInts, isI]
/-- the first row where weights tell another value -/
def hit (k : Nat) (ws : List Int) (b : Int) (t : List Int) (i : Nat) : Bool := decide (wcell ws b ((rowsL k).getD i []) ≠ t.getD i 0)
def rowDue (k : Nat) (ws : List Int) (b : Int) (t : List Int) : PyData := match (List.range (2 ^ k)).find? (hit k ws b t) with
  | some i => .tuple [.str "row", rowD ((rowsL k).getD i [])]
  | none => .none
def dueW (k : Nat) (t : List Int) : PyData → PyData
  | .tuple [.tuple xs, .int b] => if xs.length = k then match asInts xs with
    | some ws => rowDue k ws b t
    | none => .str "form"
    else .str "form"
  | _ => .str "form"
theorem as_range {α : Type} (xs : List α) (d : α) : xs = (List.range xs.length).map fun i => xs.getD i d := by
  refine List.ext_getElem (by simp) fun i h1 h2 => ?_
  rw [List.getElem_map, List.getElem_range, List.getD_eq_getElem?_getD, List.getElem?_eq_getElem h1]; rfl
theorem find_at {p : Nat → Bool} {n : Nat} {q r : List Nat} {i : Nat} (he : List.range n = q ++ i :: r) (hq : ∀ j, j ∈ q → p j = false) (hi : p i = true) : (List.range n).find? p = some i := by
  rw [he, List.find?_append, List.find?_eq_none.mpr (fun x hx => by rw [hq x hx]; decide), List.find?_cons, hi]; rfl
theorem find_no {p : Nat → Bool} {n : Nat} (hq : ∀ j, j ∈ List.range n → p j = false) : (List.range n).find? p = none := List.find?_eq_none.mpr fun x hx => by rw [hq x hx]; decide
theorem tris_maps {α : Type} (f g h : α → PyData) (xs : List α) : tris (xs.map f) (xs.map g) (xs.map h) = xs.map fun x => .tuple [f x, g x, h x] := by
  induction xs with
  | nil => rfl
  | cons x r ih => simp only [List.map_cons, tris, ih]
theorem law_places_ok {k : Nat} (hk6 : k ≤ 6) {t : List Int} (ht : Tab k t) : R__law_places [tabD t] = some (.int k) := by
  have hb : pBits (.int ((t.map PyData.int).length : Nat)) = some (.int (k + 1 : Nat)) := by
    rw [List.length_map, ht.len]
    match k, hk6 with
    | 0, _ => rfl
    | 1, _ => rfl
    | 2, _ => rfl
    | 3, _ => rfl
    | 4, _ => rfl
    | 5, _ => rfl
    | 6, _ => rfl
  refine go__law_places ?_
  unfold b__law_places
  walk_at "v"
theorem rows_map (k : Nat) : (rowsL k).map rowD = (List.range (2 ^ k)).map fun i => rowD ((rowsL k).getD i []) := by
  have := as_range (rowsL k) []
  rw [rowsL_len] at this
  rw [this, List.map_map]
  refine List.map_congr_left fun i hi => ?_
  show _ = rowD (((List.range (2 ^ k)).map fun i => (rowsL k).getD i []).getD i [])
  rw [← this]; rfl
theorem wtab_map {k : Nat} {ws : List Int} (hw : ws.length = k) (b : Int) : (wtab ws b).map PyData.int = (List.range (2 ^ k)).map fun i => .int (wcell ws b ((rowsL k).getD i [])) := by
  have := as_range (rowsL k) []
  rw [rowsL_len] at this
  rw [wtab, hw, this, List.map_map, List.map_map]
  refine List.map_congr_left fun i hi => ?_
  show _ = PyData.int (wcell ws b (((List.range (2 ^ k)).map fun i => (rowsL k).getD i []).getD i []))
  rw [← this]; rfl
theorem tab_map {k : Nat} {t : List Int} (ht : Tab k t) : t.map PyData.int = (List.range (2 ^ k)).map fun i => .int (t.getD i 0) := by
  have := as_range t 0
  rw [ht.len] at this
  conv => lhs; rw [this]
  rw [List.map_map]; rfl
theorem dueW_form {k : Nat} {t : List Int} {v : PyData} (h : ∀ xs b, v = .tuple [.tuple xs, .int b] → xs.length = k → asInts xs = none) : dueW k t v = .str "form" := by
  unfold dueW
  split
  · rename_i xs b
    split
    · rename_i hl
      rw [h xs b rfl hl]
    · rfl
  · rfl
theorem all_isI (xs : List PyData) : fAll [.list (xs.map fun x => .bool (isI x))] = some (.bool (asInts xs).isSome) := by
  rw [all_bools, asInts_all]
theorem asInts_app : ∀ (xs ys : List PyData), asInts (xs ++ ys) = (asInts xs).bind fun a => (asInts ys).map fun b => a ++ b
  | [], ys => by simp [asInts]
  | .int i :: r, ys => by
    simp only [List.cons_append, asInts, asInts_app r ys]
    cases asInts r <;> cases asInts ys <;> rfl
  | .none :: r, ys => rfl
  | .bool _ :: r, ys => rfl
  | .str _ :: r, ys => rfl
  | .list _ :: r, ys => rfl
  | .tuple _ :: r, ys => rfl
  | .dict _ :: r, ys => rfl
theorem wl_data {p : Pf} {vs : List Nat} {g : Tg} {t : RT} {e : RE} {st : List SA} {Fl : List PyData → List SA → Prop} (f : PyData → PyData) (hs : TgIn g vs) {ys : List PyData} (hy : ∀ y, y ∈ ys → LcT p vs g t e y st (fun o => o = some (f y))) (h : Fl (ys.map f) st) : WLc p vs g t e Fl ys st := by
  have := wl_map (p := p) (vs := vs) (g := g) (t := t) (e := e) (st := st) (Fl := Fl) (fun d : PyData => d) f hs hy h
  rwa [List.map_id'] at this
/-- the law's own look -/
theorem law_fault_ok {k : Nat} (hk : 1 ≤ k) (hk6 : k ≤ 6) {t : List Int} (ht : Tab k t) {v : PyData} (hv : costB v ≤ 1000) : R__law_weights_fault [tabD t, v] = some (dueW k t v) := by
  have h1 := law_places_ok hk6 ht
  refine go__law_weights_fault ?_
  unfold b__law_weights_fault
  by_cases hT : isT v = true
  case neg =>
    have hT : isT v = false := by simpa using hT
    have i1 := isa_t v
    rw [hT] at i1
    rw [dueW_form fun xs b e _ => by rw [e] at hT; cases hT]
    walk_at "v"
  obtain ⟨ds, rfl⟩ := isT_inv hT
  clear hT
  have i1 : isaD "tuple" (.tuple ds) = some (.bool true) := rfl
  by_cases hl : ds.length = 2
  case neg =>
    rw [dueW_form fun xs b e _ => by injection e with e; rw [e] at hl; exact absurd rfl hl]
    walk_at "v"
  obtain ⟨x, c, rfl⟩ : ∃ x c, ds = [x, c] := by
    match ds, hl with
    | [x, c], _ => exact ⟨x, c, rfl⟩
  have x0 : ixD (.tuple [x, c]) (.int 0) = some x := rfl
  have x1 : ixD (.tuple [x, c]) (.int 1) = some c := rfl
  by_cases hT : isT x = true
  case neg =>
    have hT : isT x = false := by simpa using hT
    have i2 := isa_t x
    rw [hT] at i2
    rw [dueW_form fun xs b e _ => by injection e with e; injection e with e; rw [e] at hT; cases hT]
    walk_at "v"
  obtain ⟨xs, rfl⟩ := isT_inv hT
  clear hT
  have i2 : isaD "tuple" (.tuple xs) = some (.bool true) := rfl
  have hx6 : xs.length ≤ 1000 := by
    have := cost_len xs
    have e1 := (tup_c [.tuple xs, c]).2
    have e2 := (tup_c xs).2
    simp only [costBAll] at e1
    omega
  have ha : pAdd (.tuple xs) (.tuple [c]) = some (.tuple (xs ++ [c])) := addG_t (by simp; omega)
  by_cases hl2 : xs.length = k
  case neg =>
    rw [dueW_form fun xs' b e e2 => by injection e with e; injection e with e; injection e with e; exact absurd (e ▸ e2) hl2]
    walk_at "v"
  have hall := all_isI (xs ++ [c])
  walk_at "v"
  refine wl_data (fun d => .bool (isI d)) tgin_n (fun d hd => ?_) ?_
  · have := law_is_int_ok d
    walk_at "v"
  have app := asInts_app xs [c]
  cases hA : asInts (xs ++ [c]) with
  | none =>
    rw [hA] at hall app
    rw [dueW_form fun xs' b e e2 => by
      injection e with e; injection e with e e3; injection e with e; injection e3 with e3
      subst e e3
      cases h : asInts xs with
      | none => rfl
      | some ws => rw [h] at app; cases app]
    have hall : fAll [.list ((xs ++ [c]).map fun x => .bool (isI x))] = some (.bool false) := hall
    walk_at "v"
  | some zs =>
    rw [hA] at hall app
    obtain ⟨ws, e1, app⟩ := Option.bind_eq_some_iff.mp app.symm
    obtain ⟨b', e2, _⟩ := Option.map_eq_some_iff.mp app
    have hc := asInts_map e2
    obtain ⟨b, rfl⟩ : ∃ b, c = .int b := by
      cases b' with
      | nil => cases hc
      | cons b r => exact ⟨b, by injection hc⟩
    obtain rfl := asInts_map e1
    rw [List.length_map] at hl2
    have hd : dueW k t (.tuple [.tuple (ws.map .int), .int b]) = rowDue k ws b t := by
      simp only [dueW, List.length_map, if_pos hl2, e1]
    rw [hd]
    have hall : fAll [.list ((ws.map PyData.int ++ [PyData.int b]).map fun x => .bool (isI x))] = some (.bool true) := hall
    have hr := rows_ok hk6
    have hb := by_weights_ok (ws := ws) (b := b) (by omega)
    walk_at "v"
    rw [rows_map, wtab_map hl2, tab_map ht, tris_maps]
    refine wf_inv (fun i : Nat => PyData.tuple [rowD ((rowsL k).getD i []), .int (wcell ws b ((rowsL k).getD i [])), .int (t.getD i 0)]) (fun pre s => (∀ j, j ∈ pre → hit k ws b t j = false) ∧ s = [SA.dat (tabD t), SA.dat (.tuple [.tuple (ws.map .int), .int b]), SA.dat (.int k), SA.any, SA.any, SA.any, SA.any]) (List.range (2 ^ k)) [] ⟨_, Wk.refl, by simp, rfl⟩ ?_ ?_
    · rintro q i r s1 he ⟨hq, rfl⟩
      walk_at "v"
      refine ⟨fun h => ?_, fun h => ?_⟩
      · have hf := find_at (p := hit k ws b t) (by simpa using he) hq (by unfold hit; simpa using h)
        unfold rowDue
        rw [hf]
        walk_at "v"
      · walk_at "v"
        refine ⟨_, by walk_at "wk", fun j hj => ?_, rfl⟩
        rcases List.mem_append.mp hj with hj | hj
        · exact hq j hj
        · rw [List.mem_singleton.mp hj]; unfold hit; simpa using h
    · rintro s1 ⟨hq, rfl⟩
      unfold rowDue
      rw [find_no (by simpa using hq)]
      walk_at "v"
/-! ### the program's look -/
theorem dot_ones : ∀ {ws r : List Int}, (∀ b, b ∈ r → b = 0 ∨ b = 1) → (((ws.zip r).filter fun p => decide (p.2 = 1)).map fun p => p.1).sum = dotL ws r
  | [], r, _ => by simp [dotL]
  | w :: ws, [], _ => by simp [dotL]
  | w :: ws, b :: r, h => by
    have ih := dot_ones (ws := ws) (r := r) fun b hb => h b (by simp [hb])
    unfold dotL at ih ⊢
    rcases h b (by simp) with rfl | rfl
    · simp only [List.zip_cons_cons, List.filter_cons, List.map_cons, List.sum_cons, Int.mul_zero, Int.zero_add]
      exact ih
    · simp only [List.zip_cons_cons, List.filter_cons, List.map_cons, List.sum_cons, Int.mul_one, decide_true, if_true, ih]
theorem all_rows_ok {k : Nat} (h6 : k ≤ 6) : R_all_rows [.int (k : Int)] = some (.list ((rowsL k).map rowD)) := by
  match k, h6 with
  | 0, _ => kernel_rfl
  | 1, _ => kernel_rfl
  | 2, _ => kernel_rfl
  | 3, _ => kernel_rfl
  | 4, _ => kernel_rfl
  | 5, _ => kernel_rfl
  | 6, _ => kernel_rfl
theorem table_by_ok {ws : List Int} {b : Int} (h6 : ws.length ≤ 6) : R_table_by [.tuple (ws.map .int), .int b] = some (tabD (wtab ws b)) := by
  have hr : R_all_rows [.int ((ws.map PyData.int).length : Nat)] = some (.list ((rowsL ws.length).map rowD)) := by
    rw [List.length_map]; exact all_rows_ok h6
  have hl : (rowsL ws.length).length ≤ 64 := by
    rw [rowsL_len]
    exact Nat.le_trans (Nat.pow_le_pow_right (by decide) h6) (by decide)
  refine go_table_by ?_
  unfold b_table_by
  walk_at "v"
  refine wf_inv rowD (fun pre s => s = [SA.dat (.tuple (ws.map .int)), SA.dat (.int b), SA.own (pre.map fun r => .int (wcell ws b r)), SA.any, SA.any, SA.any]) (rowsL ws.length) [] ⟨_, Wk.refl, rfl⟩ ?_ ?_
  · rintro q y r s1 he rfl
    have hy : y ∈ rowsL ws.length := by
      have : y ∈ [] ++ rowsL ws.length := by rw [he]; simp
      simpa using this
    obtain ⟨l1, l2⟩ := rowsL_row hy
    have hq : q.length ≤ 64 := by
      have := congrArg List.length he
      simp at this; omega
    walk_at "v"
    rw [pairs_zip]
    refine wl_filter (fun p : Int × Int => PyData.tuple [.int p.1, .int p.2]) (fun p => decide (p.2 = 1)) (fun p => .int p.1) (tgin_t (by intro g hg; simp at hg; rcases hg with rfl | rfl <;> exact tgin_n)) (fun p hp => ?_) ?_
    · walk_at "v"
      refine ⟨fun h => ?_, fun h => ?_⟩
      · walk_at "v"; rw [if_pos h]
      · rw [h]; rfl
    · have e : fSum [.list (((ws.zip y).filter fun p => decide (p.2 = 1)).map fun p => PyData.int p.1)] = some (.int (dotL ws y)) := by
        have := sum_ints (((ws.zip y).filter fun p => decide (p.2 = 1)).map fun p => p.1)
        rw [dot_ones l2, List.map_map] at this
        exact this
      have hq2 : (q.map fun r => PyData.int (wcell ws b r)).length < 1000000 := by rw [List.length_map]; omega
      rw [List.map_append]
      walk_at "v"
      walk_at "nx"
  · rintro s1 rfl
    walk_at "v"
    refine Fz.rtp ?_
    show some (PyData.tuple _) = some (PyData.tuple _)
    rw [wtab, List.map_map]; rfl
theorem pairs_maps {α : Type} (f g : α → PyData) (xs : List α) : pairs (xs.map f) (xs.map g) = xs.map fun x => .tuple [f x, g x] := by
  induction xs with
  | nil => rfl
  | cons x r ih => simp only [List.map_cons, pairs, ih]
theorem ix_tab {xs : List Int} {i : Nat} (h : i < xs.length) : ixD (tabD xs) (.int (i : Nat)) = some (.int (xs.getD i 0)) := L2.atI_nat (by rw [List.getElem?_map, List.getD_eq_getElem?_getD, List.getElem?_eq_getElem h]; rfl)
theorem weights_error_ok {k : Nat} (hk : 1 ≤ k) (hk6 : k ≤ 6) {t : List Int} (ht : Tab k t) {v : PyData} : R_weights_error [tabD t, v] = some (dueW k t v) := by
  have h1 := places_ok hk hk6 ht
  refine go_weights_error ?_
  unfold b_weights_error
  have i1 := is_tuple_ok v 2
  by_cases hT : tupN 2 v = true
  case neg =>
    have hT : tupN 2 v = false := by simpa using hT
    rw [hT] at i1
    rw [dueW_form fun xs b e _ => by rw [e] at hT; simp [tupN] at hT]
    walk_at "v"
  obtain ⟨x, c, rfl⟩ : ∃ x c, v = .tuple [x, c] := by
    cases v <;> first | (simp [tupN] at hT; done) | skip
    rename_i ds
    match ds, hT with
    | [x, c], _ => exact ⟨x, c, rfl⟩
    | [], h => simp [tupN] at h
    | [_], h => simp [tupN] at h
    | _ :: _ :: _ :: r, h => simp [tupN] at h; omega
  rw [hT] at i1
  have x0 : ixD (.tuple [x, c]) (.int 0) = some x := rfl
  have x1 : ixD (.tuple [x, c]) (.int 1) = some c := rfl
  have i2 := is_tuple_ok x (k : Nat)
  by_cases hT2 : tupN (k : Nat) x = true
  case neg =>
    have hT2 : tupN (k : Nat) x = false := by simpa using hT2
    rw [hT2] at i2
    rw [dueW_form fun xs b e e2 => by injection e with e; injection e with e; rw [e] at hT2; simp [tupN] at hT2; omega]
    walk_at "v"
  rw [hT2] at i2
  obtain ⟨xs, rfl, hl⟩ : ∃ xs, x = .tuple xs ∧ xs.length = k := by
    cases x <;> first | (simp [tupN] at hT2; done) | skip
    exact ⟨_, rfl, by simp [tupN] at hT2; omega⟩
  have i3 := is_integer_ok c
  by_cases hI : isI c = true
  case neg =>
    have hI : isI c = false := by simpa using hI
    rw [hI] at i3
    rw [dueW_form fun xs b e e2 => by injection e with e; injection e with e e3; injection e3 with e3; rw [e3] at hI; cases hI]
    walk_at "v"
  obtain ⟨b, rfl⟩ := isI_inv hI
  rw [hI] at i3
  have hall := all_isI xs
  walk_at "v"
  refine wl_data (fun d => .bool (isI d)) tgin_n (fun d hd => ?_) ?_
  · have := is_integer_ok d
    walk_at "v"
  cases hA : asInts xs with
  | none =>
    rw [hA] at hall
    rw [dueW_form fun xs' b e e2 => by injection e with e; injection e with e e3; injection e with e; rw [← e]; exact hA]
    have hall : fAll [.list (xs.map fun x => .bool (isI x))] = some (.bool false) := hall
    walk_at "v"
  | some ws =>
    rw [hA] at hall
    obtain rfl := asInts_map hA
    rw [List.length_map] at hl
    have hd : dueW k t (.tuple [.tuple (ws.map .int), .int b]) = rowDue k ws b t := by
      simp only [dueW, List.length_map, if_pos hl, hA]
    rw [hd]
    have hall : fAll [.list ((ws.map PyData.int).map fun x => .bool (isI x))] = some (.bool true) := hall
    have hr := all_rows_ok hk6
    have hb := table_by_ok (ws := ws) (b := b) (by omega)
    walk_at "v"
    have hup : upto ((rowsL k).map rowD).length = (List.range (2 ^ k)).map fun i => PyData.int (i : Nat) := by
      rw [List.length_map, rowsL_len]; rfl
    rw [hup, rows_map, pairs_maps]
    refine wf_inv (fun i : Nat => PyData.tuple [.int (i : Nat), rowD ((rowsL k).getD i [])]) (fun pre s => (∀ j, j ∈ pre → hit k ws b t j = false) ∧ s = [SA.dat (tabD t), SA.dat (.tuple [.tuple (ws.map .int), .int b]), SA.dat (tabD (wtab ws b)), SA.any, SA.any, SA.any]) (List.range (2 ^ k)) [] ⟨_, Wk.refl, by simp, rfl⟩ ?_ ?_
    · rintro q i r s1 he ⟨hq, rfl⟩
      have hi : i < 2 ^ k := by
        have : i ∈ List.range (2 ^ k) := by rw [show List.range (2 ^ k) = q ++ i :: r by simpa using he]; simp
        exact List.mem_range.mp this
      have g1 := ix_tab (xs := t) (i := i) (by rw [ht.len]; exact hi)
      have hwl : (wtab ws b).length = 2 ^ k := by rw [(wtab_tab ws b).len, hl]
      have g2 := ix_tab (xs := wtab ws b) (i := i) (by rw [hwl]; exact hi)
      have g3 : (wtab ws b).getD i 0 = wcell ws b ((rowsL k).getD i []) := by
        have hi2 : i < (rowsL ws.length).length := by rw [rowsL_len, hl]; exact hi
        rw [wtab, List.getD_eq_getElem?_getD, List.getElem?_map, List.getElem?_eq_getElem hi2, ← hl, List.getD_eq_getElem?_getD, List.getElem?_eq_getElem hi2]; rfl
      rw [g3] at g2
      walk_at "v"
      refine ⟨fun h => ?_, fun h => ?_⟩
      · have hf := find_at (p := hit k ws b t) (by simpa using he) hq (by unfold hit; simpa using h)
        unfold rowDue
        rw [hf]
        walk_at "v"
      · walk_at "v"
        refine ⟨_, by walk_at "wk", fun j hj => ?_, rfl⟩
        rcases List.mem_append.mp hj with hj | hj
        · exact hq j hj
        · rw [List.mem_singleton.mp hj]; unfold hit; simpa using h
    · rintro s1 ⟨hq, rfl⟩
      unfold rowDue
      rw [find_no (by simpa using hq)]
      walk_at "v"
end LW

set_option linter.all false
set_option autoImplicit false
set_option maxRecDepth 100000
namespace LW
open PySem PyProof.Rows Fz
open L2 (ixN atI)
/-! DOdd: odd values (family D). -/
theorem cut_cc (xs : List PyData) (a b : Option Int) : costBAll (cutL xs a b) ≤ costBAll xs ∧ PyData.depthAll (cutL xs a b) ≤ PyData.depthAll xs ∧ (cutL xs a b).length ≤ xs.length := by
  have tk : ∀ (n : Nat) (xs : List PyData), costBAll (xs.take n) ≤ costBAll xs ∧ PyData.depthAll (xs.take n) ≤ PyData.depthAll xs := fun n xs => by
    have e1 := congrArg costBAll (List.take_append_drop n xs)
    have e2 := congrArg PyData.depthAll (List.take_append_drop n xs)
    rw [costB_app] at e1
    rw [depth_app] at e2
    omega
  have dr : ∀ (n : Nat) (xs : List PyData), costBAll (xs.drop n) ≤ costBAll xs ∧ PyData.depthAll (xs.drop n) ≤ PyData.depthAll xs := fun n xs => by
    have e1 := congrArg costBAll (List.take_append_drop n xs)
    have e2 := congrArg PyData.depthAll (List.take_append_drop n xs)
    rw [costB_app] at e1
    rw [depth_app] at e2
    omega
  unfold cutL
  refine ⟨Nat.le_trans (tk _ _).1 (dr _ _).1, Nat.le_trans (tk _ _).2 (dr _ _).2, ?_⟩
  rw [List.length_take, List.length_drop]; omega
theorem put_ok {ds : List PyData} {i : Nat} {x : PyData} (hi : i < ds.length) (hl : ds.length ≤ 1000) : R__law_put [.tuple ds, .int (i : Nat), x] = some (.tuple (ds.take i ++ [x] ++ ds.drop (i + 1))) := by
  have c1 := cutG_take (xs := ds) (i := i) (by omega)
  have c2 := cutG_drop (xs := ds) (i := i + 1) (by omega)
  rw [show ((i + 1 : Nat) : Int) = (i : Int) + 1 by push_cast; rfl] at c2
  have lt := List.length_take (i := i) (l := ds)
  have ld := List.length_drop (i := i + 1) (l := ds)
  refine go__law_put ?_
  unfold b__law_put
  walk_at "v"
  rw [c1]
  refine .mk (addG_t (by rw [List.length_singleton]; omega)) ?_
  walk_at "v"
  rw [c2]
  refine .mk (addG_t (by rw [List.length_append, List.length_singleton]; omega)) ?_
  walk_at "v"
/-- cost and depth of what has one item otherwise -/
theorem put_c {ds : List PyData} {i n c : Nat} {x : PyData} (hi : i < ds.length) (h1 : x.depth ≤ n) (h2 : costB x ≤ c) : PyData.depth (.tuple (ds.take i ++ [x] ++ ds.drop (i + 1))) ≤ max n (PyData.depthAll ds) + 1 ∧ costB (.tuple (ds.take i ++ [x] ++ ds.drop (i + 1))) + costB ds[i] ≤ costBAll ds + c + 1 := by
  obtain ⟨p1, p2, p3, p4⟩ := parts hi
  constructor
  · rw [(tup_c _).1, depth_app, depth_app]; simp only [PyData.depthAll]; omega
  · rw [(tup_c _).2, costB_app, costB_app]; simp only [costBAll]; omega
def anyL : List PyData := [.none, .bool true, .int 0, .int 1, .int (-1), .int (10 ^ 40), .str "", .str "0", .tuple [], .list [], .dict [], .tuple [.tuple []], .list [.tuple []], .tuple [.tuple [], .tuple []], .tuple [.tuple [.int 0], .int 0], .tuple [.tuple [.int 0, .int 1], .int 1]]
theorem anyL_sm : (anyL.all fun d => decide (d.depth ≤ 3) && decide (costB d ≤ 13)) = true := by decide +kernel
theorem any_w {Q : SA → Prop} (h : ∀ x : PyData, x.depth ≤ 3 → costB x ≤ 13 → Q (.dat x)) : IW PC R__law_any [.r 1] Q := by
  have p40 : pPow (.int 10) (.int 40) = some (.int (10 ^ 40)) := by
    unfold pPow
    simp only
    rw [if_pos (by decide)]; rfl
  have sm : ∀ x, x ∈ anyL → x.depth ≤ 3 ∧ costB x ≤ 13 := fun x hx => by
    have := kernel_all anyL_sm hx
    rw [Bool.and_eq_true] at this
    exact ⟨of_decide_eq_true this.1, of_decide_eq_true this.2⟩
  refine gi__law_any one_lt ?_
  unfold b__law_any
  walk_at "v"
  refine one_d (by simp) (by simp) fun x hx => ?_
  walk_at "v"
  exact h x (sm x hx).1 (sm x hx).2
theorem plain_mem : ∀ {ds : List PyData}, plainAll ds = true → ∀ {d : PyData}, d ∈ ds → Fz.plain d = true
  | x :: xs, h, d, hd => by
    simp only [plainAll, Bool.and_eq_true] at h
    rcases List.mem_cons.mp hd with rfl | q
    · exact h.1
    · exact plain_mem h.2 q
theorem odd_w {ds : List PyData} (hp : Pl 3 (.tuple ds)) (hne : ds ≠ []) (hs : costBAll ds ≤ 300) (hi : ∀ d, d ∈ ds → (∃ i : Int, d = .int i ∧ i.natAbs < 1000000) ∨ ∃ es, d = .tuple es) {Q : SA → Prop} (h : ∀ x : PyData, x.depth ≤ 6 → costB x ≤ 2 * costBAll ds + 30 → Q (.dat x)) : IW PC R__law_odd [.r 1, .d (.tuple ds)] Q := by
  have he := eq_unit_p hp
  have hd := hp.z
  rw [(tup_c ds).1] at hd
  have hl := cost_len ds
  have hpos : 0 < ds.length := List.length_pos_iff.mpr hne
  have z1 := cut_cc ds none (some 1)
  have z2 := cut_cc ds (some 1) none
  have z3 := cut_cc ds none (some (-1))
  have r1 := addG_t (xs := ds) (ys := cutL ds none (some 1)) (by omega)
  have r2 := addG_t (xs := ds) (ys := [.int 0]) (by rw [List.length_singleton]; omega)
  have r3 : revA (.tuple ds) = some (.tuple ds.reverse) := rfl
  have he2 : ds.isEmpty = false := by cases ds with | nil => exact absurd rfl hne | cons _ _ => rfl
  rw [he2] at he
  refine gi__law_odd one_lt ?_
  unfold b__law_odd
  walk_at "v"
  have hz1 : costB (.int 0) = 1 := by decide
  obtain ⟨v1, v2⟩ := rev_c ds
  have menu : ∀ x, x ∈ [PyData.list ds, .tuple (ds ++ cutL ds none (some 1)), .tuple (cutL ds (some 1) none), .tuple (cutL ds none (some (-1))), .tuple ds.reverse, .none, .tuple (ds ++ [.int 0]), .tuple [.tuple ds]] → x.depth ≤ 6 ∧ costB x ≤ 2 * costBAll ds + 30 := fun x hx => by
    simp only [List.mem_cons, List.not_mem_nil, or_false] at hx
    rcases hx with rfl | rfl | rfl | rfl | rfl | rfl | rfl | rfl
    · rw [(lst_c _).1, (lst_c _).2]; omega
    · rw [(tup_c _).1, (tup_c _).2, depth_app, costB_app]; omega
    · rw [(tup_c _).1, (tup_c _).2]; omega
    · rw [(tup_c _).1, (tup_c _).2]; omega
    · rw [(tup_c _).1, (tup_c _).2]; omega
    · exact ⟨by decide, by show 1 ≤ _; omega⟩
    · rw [(tup_c _).1, (tup_c _).2, depth_app, costB_app]; simp only [PyData.depthAll, PyData.depth, costBAll]; omega
    · rw [(tup_c _).1, (tup_c _).2]; simp only [PyData.depthAll, costBAll, (tup_c _).1, (tup_c _).2]; omega
  have mn : [PyData.list ds, .tuple (ds ++ cutL ds none (some 1)), .tuple (cutL ds (some 1) none), .tuple (cutL ds none (some (-1))), .tuple ds.reverse, .none, .tuple (ds ++ [.int 0]), .tuple [.tuple ds]] ≠ [] ∧ [PyData.list ds, .tuple (ds ++ cutL ds none (some 1)), .tuple (cutL ds (some 1) none), .tuple (cutL ds none (some (-1))), .tuple ds.reverse, .none, .tuple (ds ++ [.int 0]), .tuple [.tuple ds]].length < 1000000 := ⟨by simp, by simp⟩
  revert menu mn
  generalize [PyData.list ds, .tuple (ds ++ cutL ds none (some 1)), .tuple (cutL ds (some 1) none), .tuple (cutL ds none (some (-1))), .tuple ds.reverse, .none, .tuple (ds ++ [.int 0]), .tuple [.tuple ds]] = ms
  intro menu mn
  refine draw_lt (by decide) (by decide) fun v v0 v1 => ?_
  walk_at "v"
  refine ⟨fun h0 => ?_, fun h0 => ?_⟩
  · walk_at "v"
    refine one_d mn.1 mn.2 fun x hx => ?_
    walk_at "v"
    exact h x (menu x hx).1 (menu x hx).2
  walk_at "v"
  refine draw_lt (by omega) (by omega) fun at0 a0 a1 => ?_
  obtain ⟨i, rfl⟩ := Int.eq_ofNat_of_zero_le a0
  have hil : i < ds.length := by omega
  obtain ⟨d, ed⟩ : ∃ d, ds[i] = d := ⟨_, rfl⟩
  have hdm : d ∈ ds := by rw [← ed]; exact List.getElem_mem hil
  have hx : ixD (.tuple ds) (.int i) = some d := by
    refine L2.atI_nat ?_
    rw [List.getElem?_eq_getElem hil, ed]
  have dm := depth_mem hdm
  have cm := cost_mem hdm
  -- the last row
  have fin : ∀ x : PyData, x.depth ≤ 5 → costB x ≤ 2 * costB d + 20 → R__law_put [.tuple ds, .int (i : Nat), x] = some (.tuple (ds.take i ++ [x] ++ ds.drop (i + 1))) ∧ Q (.dat (.tuple (ds.take i ++ [x] ++ ds.drop (i + 1)))) := fun x x1 x2 => by
    obtain ⟨p1, p2⟩ := put_c (x := x) hil x1 x2
    rw [ed] at p2
    exact ⟨put_ok hil (by omega), h _ (by omega) (by omega)⟩
  rcases hi d hdm with ⟨c, rfl, hc⟩ | ⟨es, rfl⟩
  · have c1 : ∀ j : Int, j.natAbs < 2000000 → costB (.int j) = 1 := fun j hj => by
      simp only [costB]; rw [if_pos (by omega)]
    have k1 : R__law_is_int [.int c] = some (.bool true) := law_is_int_ok _
    have k2 : isaD "tuple" (.int c) = some (.bool false) := rfl
    have f1 := fstr_ok (c := c) (Nat.lt_of_lt_of_le hc (by decide +kernel))
    have f2 := str_cost (k := 6) (c := c) (by decide) hc (by decide)
    have near : ∀ x, x ∈ [PyData.int (c + 1), .int (-c), .int (c - 1), .int 0, .bool true, .bool false, .str (Str.ofString (toString c))] → x.depth ≤ 5 ∧ costB x ≤ 20 := fun x hx => by
      simp only [List.mem_cons, List.not_mem_nil, or_false] at hx
      rcases hx with rfl | rfl | rfl | rfl | rfl | rfl | rfl
      · exact ⟨by simp [PyData.depth], by rw [c1 _ (by omega)]; decide⟩
      · exact ⟨by simp [PyData.depth], by rw [c1 _ (by omega)]; decide⟩
      · exact ⟨by simp [PyData.depth], by rw [c1 _ (by omega)]; decide⟩
      · exact ⟨by decide, by decide⟩
      · exact ⟨by decide, by decide⟩
      · exact ⟨by decide, by decide⟩
      · exact ⟨by simp [PyData.depth], by omega⟩
    walk_at "v"
    refine one_d (by simp) (by simp) fun x hx => ?_
    obtain ⟨n1, n2⟩ := near x hx
    obtain ⟨q1, q2⟩ := fin x n1 (by omega)
    walk_at "v"
    exact q2
  · have k1 : R__law_is_int [.tuple es] = some (.bool false) := law_is_int_ok _
    have k2 : isaD "tuple" (.tuple es) = some (.bool true) := rfl
    have hpe : Pl 2 (.tuple es) := ⟨plain_mem (by have := hp.p; simpa only [Fz.plain] using this) hdm, by omega⟩
    obtain ⟨t1, t2⟩ := tup_c es
    cases es with
    | nil =>
      have k3 : pNe (.tuple []) (.tuple []) = some (.bool false) := by
        have := pNe_dec (p := True) hpe hpe (by simp)
        simpa using this
      walk_at "v"
      refine one_d (by simp) (by simp) fun x hx => ?_
      obtain ⟨q1, q2⟩ := fin x (by
        simp only [List.mem_cons, List.not_mem_nil, or_false] at hx
        rcases hx with rfl | rfl | rfl | rfl | rfl <;> decide) (by
        simp only [List.mem_cons, List.not_mem_nil, or_false] at hx
        rcases hx with rfl | rfl | rfl | rfl | rfl <;> decide)
      walk_at "v"
      exact q2
    | cons e r =>
      have k3 : pNe (.tuple (e :: r)) (.tuple []) = some (.bool true) := by
        have := pNe_dec (p := False) hpe (pl_tup (n := 0) (xs := []) (by simp)) (by simp)
        simpa using this
      generalize e :: r = es at *
      have hel := cost_len es
      obtain ⟨w1, w2⟩ := rev_c es
      have y3 := cut_cc es none (some (-1))
      have r4 := addG_t (xs := es) (ys := [.int 0]) (by rw [List.length_singleton]; omega)
      have r5 := addG_t (xs := es) (ys := es) (by omega)
      have r6 : revA (.tuple es) = some (.tuple es.reverse) := rfl
      have near : ∀ x, x ∈ [PyData.none, .int 0, .tuple [], .list [.tuple es], .tuple es] ++ [PyData.tuple (cutL es none (some (-1))), .tuple (es ++ [.int 0]), .tuple es.reverse, .list es, .tuple (es ++ es)] → x.depth ≤ 5 ∧ costB x ≤ 2 * costB (.tuple es) + 20 := fun x hx => by
        simp only [List.mem_append, List.mem_cons, List.not_mem_nil, or_false] at hx
        rcases hx with (rfl | rfl | rfl | rfl | rfl) | rfl | rfl | rfl | rfl | rfl
        · exact ⟨by decide, by show 1 ≤ _; omega⟩
        · exact ⟨by decide, by omega⟩
        · exact ⟨by decide, by show 1 ≤ _; omega⟩
        · rw [(lst_c _).1, (lst_c _).2]; simp only [PyData.depthAll, costBAll]; omega
        · omega
        · rw [(tup_c _).1, (tup_c (cutL _ _ _)).2]; omega
        · rw [(tup_c _).1, (tup_c (es ++ _)).2, depth_app, costB_app]; simp only [PyData.depthAll, PyData.depth, costBAll]; omega
        · rw [(tup_c _).1, (tup_c es.reverse).2]; omega
        · rw [(lst_c _).1, (lst_c _).2]; omega
        · rw [(tup_c _).1, (tup_c (es ++ es)).2, depth_app, costB_app]; omega
      have ra := addG_l (xs := [PyData.none, .int 0, .tuple [], .list [.tuple es], .tuple es]) (ys := [.tuple (cutL es none (some (-1))), .tuple (es ++ [.int 0]), .tuple es.reverse, .list es, .tuple (es ++ es)]) (by simp)
      have rn : [PyData.none, .int 0, .tuple [], .list [.tuple es], .tuple es] ++ [PyData.tuple (cutL es none (some (-1))), .tuple (es ++ [.int 0]), .tuple es.reverse, .list es, .tuple (es ++ es)] ≠ [] ∧ ([PyData.none, .int 0, .tuple [], .list [.tuple es], .tuple es] ++ [PyData.tuple (cutL es none (some (-1))), .tuple (es ++ [.int 0]), .tuple es.reverse, .list es, .tuple (es ++ es)]).length < 1000000 := ⟨by simp, by simp⟩
      revert near ra rn
      generalize [PyData.none, .int 0, .tuple [], .list [.tuple es], .tuple es] ++ [PyData.tuple (cutL es none (some (-1))), .tuple (es ++ [.int 0]), .tuple es.reverse, .list es, .tuple (es ++ es)] = ns
      intro near ra rn
      walk_at "v"
      refine one_d rn.1 rn.2 fun x hx => ?_
      obtain ⟨n1, n2⟩ := near x hx
      obtain ⟨q1, q2⟩ := fin x n1 n2
      walk_at "v"
      exact q2
end LW

set_option linter.all false
set_option autoImplicit false
set_option maxRecDepth 100000
namespace LW
open PySem PyProof.Rows Fz
open L2 (ixN atI)
/-! End58: the law k58. -/
theorem ints_c : ∀ {ws : List Int}, (∀ w, w ∈ ws → w.natAbs < 1000000) → costBAll (ws.map .int) = ws.length ∧ PyData.depthAll (ws.map .int) = 0
  | [], _ => ⟨rfl, rfl⟩
  | w :: ws, h => by
    obtain ⟨a, b⟩ := ints_c (ws := ws) fun x hx => h x (by simp [hx])
    have := h w (by simp)
    have c : costB (.int w) = 1 := by simp only [costB]; rw [if_pos (by omega)]
    simp only [List.map_cons, costBAll, PyData.depthAll, PyData.depth, a, b, c, List.length_cons]
    omega
def Vv (d : PyData) : Prop := d.depth ≤ 7 ∧ costB d ≤ 60
theorem row_c {k : Nat} {r : List Int} (hk6 : k ≤ 6) (hr : r.length = k) (hb : ∀ b, b ∈ r → b = 0 ∨ b = 1) : SmB 1 7 (rowD r) := by
  obtain ⟨a, b⟩ := ints_c (ws := r) fun w hw => by have := hb w hw; omega
  exact ⟨by rw [(tup_c _).1, b]; omega, by rw [(tup_c _).2, a]; omega⟩
theorem due_c {k : Nat} (hk6 : k ≤ 6) (t : List Int) (v : PyData) : SmB 2 20 (dueW k t v) := by
  have f : SmB 2 20 (.str "form") := ⟨by decide, by decide⟩
  unfold dueW
  split
  · split
    · split
      · rename_i ws _
        unfold rowDue
        split
        · rename_i i hi
          have hlt : i < 2 ^ k := List.mem_range.mp (List.mem_of_find?_eq_some hi)
          have hm : (rowsL k).getD i [] ∈ rowsL k := by
            have h2 : i < (rowsL k).length := by rw [rowsL_len]; exact hlt
            rw [List.getD_eq_getElem?_getD, List.getElem?_eq_getElem h2]
            exact List.getElem_mem h2
          obtain ⟨l1, l2⟩ := rowsL_row hm
          obtain ⟨a, b⟩ := row_c hk6 l1 l2
          refine ⟨?_, ?_⟩
          · rw [(tup_c _).1]; simp only [PyData.depthAll, show PyData.depth (.str "row") = 0 from rfl]; omega
          · rw [(tup_c _).2]; simp only [costBAll, show costB (.str "row") = 4 by decide]; omega
        · exact ⟨by decide, by decide⟩
      · exact f
    · exact f
  · exact f
theorem holds : ∀ ns : List Int, ns.length ≤ 63 → T_law [.list (ns.map .int)] = some (.bool true) := by
  intro ns hn
  obtain ⟨d, hd, h0, e⟩ := rill_ok ns hn
  refine law_start sm_law (by decide +kernel) hd h0 e (by decide) ?_
  simp only [List.replicate, Nat.reduceSub]
  unfold br_law
  walk_at "v"
  refine wf_inv (fun i : Nat => PyData.int (i : Nat)) (fun _ s => s = [SA.dat (.list (ns.map .int)), SA.ref 1, SA.any, SA.any, SA.any, SA.any, SA.any, SA.any, SA.any, SA.any, SA.any, SA.any, SA.any, SA.any, SA.any, SA.any]) (List.range 5) [] ⟨_, Wk.refl, rfl⟩ (fun q y r s he hs => ?_) (fun s hs => ?_)
  · subst hs
    walk_at "vg"
    walk_at "v"
    refine one_w PyData.int (xs := [3, 4, 2, 3, 1]) (by simp) (by simp) fun x hx => ?_
    obtain ⟨k, rfl⟩ := Int.eq_ofNat_of_zero_le (show 0 ≤ x by simp at hx; omega)
    have hk : 1 ≤ k := by simp at hx; omega
    have hk4 : k ≤ 4 := by simp at hx; omega
    have hk6 : k ≤ 6 := by omega
    walk_at "v"
    refine drawn_w hk6 fun ws b hw hws hb0 hb1 => ?_
    have e1 := by_weights_ok (ws := ws) (b := b) (by omega)
    have ht0 := wtab_tab ws b
    rw [hw] at ht0
    walk_at "v"
    refine draw_lt (by decide) (by decide) fun z z0 z1 => ?_
    walk_at "v"
    refine cond_seq (fun s => ∃ t, Tab k t ∧ s = [SA.dat (.list (ns.map .int)), SA.ref 1, SA.dat (.int y), SA.dat (tabD t), SA.any, SA.any, SA.any, SA.any, SA.any, SA.dat (.tuple (ws.map .int)), SA.dat (.int b), SA.any, SA.any, SA.any, SA.any, SA.any]) (fun h1 => ?_) (fun h1 => ?_) ?_
    · walk_at "v"
      refine turned_w hk6 ht0 fun t ht => ?_
      walk_at "v"
      exact nx_mk (by walk_at "wk") ⟨t, ht, rfl⟩
    · walk_at "v"
      exact nx_mk (by walk_at "wk") ⟨_, ht0, rfl⟩
    rintro s ⟨t, ht, rfl⟩
    have wsm : ∀ w, w ∈ ws → w.natAbs < 1000000 := fun w hm => by have := hws w hm; omega
    obtain ⟨wc, wd⟩ := ints_c wsm
    have cI : ∀ j : Int, j.natAbs < 2000000 → costB (.int j) = 1 := fun j hj => by
      simp only [costB]; rw [if_pos (by omega)]
    have cb := cI b (by omega)
    have pw : ∀ {x c : PyData} {m n : Nat}, x.depth ≤ 6 → c.depth ≤ 6 → costB x ≤ m → costB c ≤ n → m + n ≤ 59 → Vv (.tuple [x, c]) := fun h1 h2 h3 h4 h5 => by
      refine ⟨?_, ?_⟩
      · rw [(tup_c _).1]; simp only [PyData.depthAll]; omega
      · rw [(tup_c _).2]; simp only [costBAll]; omega
    have wv : (PyData.tuple (ws.map .int)).depth ≤ 6 ∧ costB (.tuple (ws.map .int)) ≤ 5 := by rw [(tup_c _).1, (tup_c _).2]; omega
    have bv : ∀ j : Int, (PyData.int j).depth ≤ 6 := fun j => by simp [PyData.depth]
    have pb : pMul (.int 2) (.int b) = some (.int (2 * b)) := pMul_i (.inl (by decide))
    walk_at "v"
    refine wl_map PyData.int (fun w => .int (2 * w)) tgin_n (fun w hm => ?_) ?_
    · have := pMul_i (i := 2) (j := w) (.inl (by decide))
      walk_at "v"
    walk_at "v"
    refine draw_lt (by decide) (by decide) fun u u0 u1 => ?_
    have V2 : Vv (.tuple [.tuple (ws.map fun w => PyData.int (2 * w)), .int (2 * b - u)]) := by
      obtain ⟨c1, c2⟩ := ints_c (ws := ws.map fun w => 2 * w) (fun w hm => by
        obtain ⟨w', hm2, rfl⟩ := List.mem_map.mp hm
        have := hws w' hm2; omega)
      rw [List.map_map, List.length_map] at c1
      rw [List.map_map] at c2
      change costBAll (ws.map fun w => PyData.int (2 * w)) = ws.length at c1
      change PyData.depthAll (ws.map fun w => PyData.int (2 * w)) = 0 at c2
      exact pw (m := 5) (n := 1) (by rw [(tup_c _).1]; omega) (bv _) (by rw [(tup_c _).2]; omega) (by rw [cI _ (by omega)]; decide) (by decide)
    walk_at "v"
    revert V2
    generalize (PyData.tuple [.tuple (ws.map fun w => PyData.int (2 * w)), .int (2 * b - u)]) = v2
    intro V2
    refine draw_lt (by rw [List.length_map]; omega) (by rw [List.length_map]; omega) fun at0 a0 a1 => ?_
    rw [List.length_map] at a1
    obtain ⟨i, rfl⟩ := Int.eq_ofNat_of_zero_le a0
    have hi : i < ws.length := by omega
    have hi2 : i < (ws.map PyData.int).length := by rw [List.length_map]; exact hi
    have hx1 : ixD (.tuple (ws.map .int)) (.int (i : Nat)) = some (.int ws[i]) := L2.atI_nat (by rw [List.getElem?_map, List.getElem?_eq_getElem hi]; rfl)
    have hwi := hws ws[i] (List.getElem_mem hi)
    walk_at "v"
    refine one_w PyData.int (xs := [1, -1, 3]) (by simp) (by simp) fun o ho => ?_
    have ho : -1 ≤ o ∧ o ≤ 3 := by simp at ho; omega
    have hput := put_ok (ds := ws.map PyData.int) (x := .int (ws[i] + o)) hi2 (by rw [List.length_map]; omega)
    obtain ⟨pc1, pc2⟩ := put_c (x := PyData.int (ws[i] + o)) (n := 0) (c := 1) hi2 (by simp [PyData.depth]) (by rw [cI _ (by omega)]; decide)
    have V3 : Vv (.tuple [.tuple ((ws.map PyData.int).take i ++ [.int (ws[i] + o)] ++ (ws.map PyData.int).drop (i + 1)), .int b]) := pw (m := 6) (n := 1) (by omega) (bv _) (by omega) (by omega) (by decide)
    walk_at "v"
    revert V3
    generalize (PyData.tuple [.tuple ((ws.map PyData.int).take i ++ [.int (ws[i] + o)] ++ (ws.map PyData.int).drop (i + 1)), .int b]) = v3
    intro V3
    refine one_w PyData.int (xs := [1, -1]) (by simp) (by simp) fun o2 ho2 => ?_
    have ho2 : -1 ≤ o2 ∧ o2 ≤ 1 := by simp at ho2; omega
    walk_at "v"
    refine any_w fun v5 v51 v52 => ?_
    have V5 : Vv v5 := ⟨by omega, by omega⟩
    walk_at "v"
    have hpl : Pl 1 (.tuple (ws.map PyData.int)) := pl_row (xs := ws)
    have hwne : ws.map PyData.int ≠ [] := by
      intro e
      rw [List.map_eq_nil_iff] at e
      rw [e] at hw; simp at hw; omega
    refine odd_w (hpl.mono (by decide)) hwne (by omega) (fun d hd => by
      obtain ⟨j, hj, rfl⟩ := List.mem_map.mp hd
      exact .inl ⟨j, rfl, wsm j hj⟩) fun v6 v61 v62 => ?_
    have V6 : Vv (.tuple [v6, .int b]) := pw (m := 38) (n := 1) v61 (bv _) (by omega) (by omega) (by decide)
    walk_at "v"
    refine odd_w (ds := [.tuple (ws.map .int), .int b]) ((pl_tup (n := 1) fun d hd => by
      simp only [List.mem_cons, List.not_mem_nil, or_false] at hd
      rcases hd with rfl | rfl
      · exact hpl
      · exact pl_int.mono (by decide)).mono (by decide)) (by simp) (by simp only [costBAll]; omega) (fun d hd => by
      simp only [List.mem_cons, List.not_mem_nil, or_false] at hd
      rcases hd with rfl | rfl
      · exact .inr ⟨_, rfl⟩
      · exact .inl ⟨b, rfl, by omega⟩) fun v7 v71 v72 => ?_
    have V7 : Vv v7 := ⟨by omega, by simp only [costBAll] at v72; omega⟩
    have f1 := fstr_ok (c := b) (Nat.lt_of_lt_of_le (show b.natAbs < 10 by omega) (by decide +kernel))
    have f2 := str_cost (k := 1) (c := b) (by decide) (by omega) (by decide)
    walk_at "v"
    refine one_d (by simp) (by simp) fun x8 hx8 => ?_
    have V8 : Vv (.tuple [.tuple (ws.map .int), x8]) := by
      have : x8.depth ≤ 6 ∧ costB x8 ≤ 20 := by
        simp only [List.mem_cons, List.not_mem_nil, or_false] at hx8
        rcases hx8 with rfl | rfl | rfl | rfl | rfl
        · exact ⟨by decide, by decide⟩
        · exact ⟨by decide, by decide⟩
        · exact ⟨by simp [PyData.depth], by omega⟩
        · rw [(tup_c _).1, (tup_c _).2]; simp only [PyData.depthAll, PyData.depth, costBAll]; omega
        · rw [(lst_c _).1, (lst_c _).2]; simp only [PyData.depthAll, PyData.depth, costBAll]; omega
      exact pw (m := 5) (n := 20) wv.1 this.1 wv.2 this.2 (by decide)
    have V1 : Vv (.tuple [.tuple (ws.map .int), .int b]) := pw (m := 5) (n := 1) wv.1 (bv _) wv.2 (by omega) (by decide)
    have V4 : Vv (.tuple [.tuple (ws.map .int), .int (b + o2)]) := pw (m := 5) (n := 1) wv.1 (bv _) wv.2 (by rw [cI _ (by omega)]; decide) (by decide)
    have VV : ∀ v, v ∈ [PyData.tuple [.tuple (ws.map .int), .int b], v2, v3, .tuple [.tuple (ws.map .int), .int (b + o2)], v5, .tuple [v6, .int b], v7, .tuple [.tuple (ws.map .int), x8]] → Vv v := fun v hv => by
      simp only [List.mem_cons, List.not_mem_nil, or_false] at hv
      rcases hv with rfl | rfl | rfl | rfl | rfl | rfl | rfl | rfl <;> assumption
    have VL : [PyData.tuple [.tuple (ws.map .int), .int b], v2, v3, .tuple [.tuple (ws.map .int), .int (b + o2)], v5, .tuple [v6, .int b], v7, .tuple [.tuple (ws.map .int), x8]].length ≤ 8 := by simp
    walk_at "v"
    revert VV VL
    generalize [PyData.tuple [.tuple (ws.map .int), .int b], v2, v3, .tuple [.tuple (ws.map .int), .int (b + o2)], v5, .tuple [v6, .int b], v7, .tuple [.tuple (ws.map .int), x8]] = vs
    intro VV VL
    have sv : SmB 8 481 (.list vs) := smb_lst (n := 7) (c := 60) (k := 8) (fun v hv => VV v hv) VL
    have stab : SmB 1 17 (tabD t) := by
      obtain ⟨c1, c2⟩ := ints_c (ws := t) (fun w hw => by have := ht.bit w hw; omega)
      have : 2 ^ k ≤ 2 ^ 4 := Nat.pow_le_pow_right (by decide) hk4
      exact ⟨by rw [(tup_c _).1]; omega, by rw [(tup_c _).2, c1, ht.len]; omega⟩
    have rk := bRepr_l (smb_ltwo (stab.mono (by decide) (Nat.le_refl _)) sv) (by decide) (by decide)
    walk_at "v"
    have hp : pairs (upto vs.length) vs = (List.range vs.length).map fun j => PyData.tuple [.int (j : Nat), vs.getD j .none] := by
      have h := as_range vs PyData.none
      have h2 := pairs_maps (fun j : Nat => PyData.int j) (fun j => vs.getD j .none) (List.range vs.length)
      rw [← h] at h2
      exact h2
    rw [hp]
    refine wf_inv (fun j : Nat => PyData.tuple [.int (j : Nat), vs.getD j .none]) (fun _ s => s = [SA.dat (.list (ns.map .int)), SA.ref 1, SA.dat (.int y), SA.dat (tabD t), SA.any, SA.any, SA.any, SA.frz vs, SA.dat (.str (PyData.list [tabD t, .list vs]).shown), SA.any, SA.any, SA.any, SA.any, SA.any, SA.any, SA.any]) (List.range vs.length) [] ⟨_, by walk_at "wk", rfl⟩ (fun q2 j r2 s2 he2 hs2 => ?_) (fun s2 hs2 => ?_)
    · subst hs2
      have hj : j < vs.length := by
        have : j ∈ List.range vs.length := by rw [show List.range vs.length = q2 ++ j :: r2 by simpa using he2]; simp
        exact List.mem_range.mp this
      have hm : vs.getD j .none ∈ vs := by
        rw [List.getD_eq_getElem?_getD, List.getElem?_eq_getElem hj]
        exact List.getElem_mem hj
      generalize vs.getD j .none = v at hm
      have hv := VV v hm
      have g1 := law_fault_ok hk hk6 ht (v := v) (by have := hv.2; omega)
      have g2 := weights_error_ok hk hk6 ht (v := v)
      have sd := due_c hk6 t v
      have rd := bRepr_l (smb_ltwo sd sd) (by decide) (by decide)
      walk_at "vg"
      walk_at "v"
      refine cond_we (fun d => d = dueW k t v) (fun h => ?_) (fun h => ?_) ?_
      · walk_at "v"; rfl
      · walk_at "v"; rfl
      rintro _ rfl
      walk_at "v"
      walk_at "nx"
    · subst hs2
      walk_at "v"
      walk_at "nx"
  · subst hs
    walk_at "v"
end LW

open PySem PySem.W PyProof.Rows
set_option maxHeartbeats 0 in
theorem PySem.Challenge.cw_tablesense_k58_weights_judged_holds : PySem.Challenge.rw_tablesense_k58_weights_judged.Holds := by
  w_on; o_law; k_head; (case hw => w_witness2)
  k_fill
  refine Fz.walkG (l := PySem.Challenge.rw_tablesense_k58_weights_judged) (n := 63) (k := 5) (x := "script") (G := LW.T_law) rfl (by decide) rfl ⟨rfl, by decide, by decide⟩ (fun w h Y => PySem.W.kIn_of Y) (by decide +kernel) (fun P => rfl) ?F LW.holds
  case F =>
    intro w mg fa h KX G hmg
    refine' LW.all_mk KX G hmg ?a0 ?l0 ?c0 ?k0 ?a1 ?l1 ?c1 ?k1 ?a2 ?l2 ?c2 ?k2 ?a3 ?l3 ?c3 ?k3 ?a4 ?l4 ?c4 ?k4 ?a5 ?l5 ?c5 ?k5 ?a6 ?l6 ?c6 ?k6 ?a7 ?l7 ?c7 ?k7 ?a8 ?l8 ?c8 ?k8 ?a9 ?l9 ?c9 ?k9 ?a10 ?l10 ?c10 ?k10 ?a11 ?l11 ?c11 ?k11 ?a12 ?l12 ?c12 ?k12 ?a13 ?l13 ?c13 ?k13 ?a14 ?l14 ?c14 ?k14 ?a15 ?l15 ?c15 ?k15 ?a16 ?l16 ?c16 ?k16 ?a17 ?l17 ?c17 ?k17 ?a18 ?l18 ?c18 ?k18 ?a19 ?l19 ?c19 ?k19 ?a20 ?l20 ?c20 ?k20 ?z_abs ?z_all ?z_bool ?z_enumerate ?z_int ?z_isinstance ?z_len ?z_list ?z_range ?z_repr ?z_str ?z_sum ?z_tuple ?z_zip
    (case a0 => k_is); (case l0 => k_is); (case c0 => k_is); (case k0 => k_is); (case a1 => k_is); (case l1 => k_is); (case c1 => k_is); (case k1 => k_is); (case a2 => k_is); (case l2 => k_is); (case c2 => k_is); (case k2 => k_is); (case a3 => k_is); (case l3 => k_is); (case c3 => k_is); (case k3 => k_is); (case a4 => k_is); (case l4 => k_is); (case c4 => k_is); (case k4 => k_is); (case a5 => k_is); (case l5 => k_is); (case c5 => k_is); (case k5 => k_is); (case a6 => k_is); (case l6 => k_is); (case c6 => k_is); (case k6 => k_is); (case a7 => k_is); (case l7 => k_is); (case c7 => k_is); (case k7 => k_is); (case a8 => k_is); (case l8 => k_is); (case c8 => k_is); (case k8 => k_is); (case a9 => k_is); (case l9 => k_is); (case c9 => k_is); (case k9 => k_is); (case a10 => k_is); (case l10 => k_is); (case c10 => k_is); (case k10 => k_is); (case a11 => k_is); (case l11 => k_is); (case c11 => k_is); (case k11 => k_is); (case a12 => k_is); (case l12 => k_is); (case c12 => k_is); (case k12 => k_is); (case a13 => k_is); (case l13 => k_is); (case c13 => k_is); (case k13 => k_is); (case a14 => k_is); (case l14 => k_is); (case c14 => k_is); (case k14 => k_is); (case a15 => k_is); (case l15 => k_is); (case c15 => k_is); (case k15 => k_is); (case a16 => k_is); (case l16 => k_is); (case c16 => k_is); (case k16 => k_is); (case a17 => k_is); (case l17 => k_is); (case c17 => k_is); (case k17 => k_is); (case a18 => k_is); (case l18 => k_is); (case c18 => k_is); (case k18 => k_is); (case a19 => k_is); (case l19 => k_is); (case c19 => k_is); (case k19 => k_is); (case a20 => k_is); (case l20 => k_is); (case c20 => k_is); (case k20 => k_is); (case z_abs => k_is); (case z_all => k_is); (case z_bool => k_is); (case z_enumerate => k_is); (case z_int => k_is); (case z_isinstance => k_is); (case z_len => k_is); (case z_list => k_is); (case z_range => k_is); (case z_repr => k_is); (case z_str => k_is); (case z_sum => k_is); (case z_tuple => k_is); (case z_zip => k_is)


